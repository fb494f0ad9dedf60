import PyProof.Rows.All
import Wide.All
import OpenK.AllK
import Wide.FinOn
import HandS.Lambda
import HandS.ForMost
import HandS.Exc
import HandS.ExcSuper
import KE.KDictKeyed
import KE.KDictWalk
import KE.KDictLaw
import KE.SortData
import KE.KeyNested
import HandS.Slots
import HandS.TupAny
import HandS.Wide
import HandS.IsInst
import HandS.TupLe
import HandS.Text
import HandS.Deep
import HandS.Flow
import HandS.Star
import HandS.Zip
import HandS.Conv
import HandS.CallSlots
import HandS.WordsExc
import HandS.Defaults
import HandS.Comp
import HandS.ExcOwn
import HandS.Words
import KE.KDictCopyH
import KE.KDictDisplayH
import KE.KDictPairs
import KE.KDictItemsList
import HandS.TupLen
import HandS.Dict
import HandS.List
import HandS.TupMul
import HandS.Strs
import PyProof.AutoSeq1
import HandS.Iter
import KE.KDictSum
import HandS.More
import KE.GoesEnum
import HandS.DictComp
import PyProof.DictUpdate
import PyProof.MinMaxWalk
import HandS.DictEq
import HandS.TupSets
import HandS.Style
import HandS.SetFor
import HandS.ExcInit
import KE.KExcSuper
import KE.KExcMake
import PyProof.FactsTree
import PyProof.ExcBaseAll.LookupError
import HandS.RaiseMore
import HandS.TryMany
import HandS.ExcField
import HandS.Replace
import HandS.WideMore
import PyProof.ReprRoads
import PyProof.EqKinds
import HandS.HeadEnd
import HandS.EndTab
import HandS.Head0
import HandS.Head1
import HandS.Head2
import HandS.HeadHook1
import HandS.HeadHook2
import HandS.HeadHook4
import HandS.ExcIs
import HandS.HotCalls
import HandS.ExcBuiltin
import PyProof.Rows.ListMulArg
import HandS.NoneIn
import PyProof.NeKinds
import HandS.Zip0
import PyProof.FString5
import KE.KEqDict
import HandS.GenList
import HandS.SortKw
import KE.SortKeyHeap
import HandS.SlotsOwn
import HandS.SlotsVar
import PyProof.DictMoreH
import KE.KDictLaws
import HandS.OwnEq
import PyProof.InstEq
import HandS.MapObj
import KE.KDictOf
import KE.KCallOwn
import HandS.FStr
import KE.KMinKey
import KE.DataMinMax
import KE.KDictZip
import PyProof.FitsInt
import KE.KStateDown
import PySem.Challenge.RW_everycut_k17_whole_rows_told_by_cells
set_option Elab.async false
set_option linter.all false
set_option maxRecDepth 100000
set_option maxHeartbeats 0
namespace EV
def mergeF {α : Type} (le : α → α → Bool) : Nat → List α → List α → List α
  | 0, xs, ys => xs ++ ys
  | _ + 1, [], ys => ys
  | _ + 1, x :: xs, [] => x :: xs
  | n + 1, x :: xs, y :: ys => if le x y then x :: mergeF le n xs (y :: ys) else y :: mergeF le n (x :: xs) ys
theorem mergeF_eq {α : Type} {le : α → α → Bool} : ∀ (n : Nat) (xs ys : List α), xs.length + ys.length ≤ n → mergeF le n xs ys = List.merge xs ys le
  | 0, xs, ys, h => by
    have h1 : xs = [] := List.length_eq_zero_iff.mp (by omega)
    have h2 : ys = [] := List.length_eq_zero_iff.mp (by omega)
    subst h1 h2
    simp [mergeF, List.merge]
  | n + 1, [], ys, h => by simp [mergeF, List.merge]
  | n + 1, x :: xs, [], h => by simp [mergeF, List.merge]
  | n + 1, x :: xs, y :: ys, h => by
    simp only [List.length_cons] at h
    rw [mergeF, List.merge, mergeF_eq n xs (y :: ys) (by simp only [List.length_cons]; omega), mergeF_eq n (x :: xs) ys (by simp only [List.length_cons]; omega)]
def srtF {α : Type} (le : α → α → Bool) : Nat → List α → List α
  | 0, l => l
  | _ + 1, [] => []
  | _ + 1, [a] => [a]
  | n + 1, a :: b :: xs => mergeF le (xs.length + 2) (srtF le n ((a :: b :: xs).take ((xs.length + 3) / 2))) (srtF le n ((a :: b :: xs).drop ((xs.length + 3) / 2)))
theorem srtF_eq {α : Type} {le : α → α → Bool} : ∀ (n : Nat) (l : List α), l.length ≤ n → srtF le n l = l.mergeSort le
  | 0, l, h => by
    have h1 : l = [] := List.length_eq_zero_iff.mp (by omega)
    subst h1
    simp [srtF]
  | n + 1, [], h => by simp [srtF]
  | n + 1, [a], h => by simp [srtF]
  | n + 1, a :: b :: xs, h => by
    simp only [List.length_cons] at h
    rw [srtF, srtF_eq n _ (by rw [List.length_take, List.length_cons, List.length_cons]; omega), srtF_eq n _ (by rw [List.length_drop, List.length_cons, List.length_cons]; omega)]
    rw [mergeF_eq _ _ _ (by rw [List.length_mergeSort, List.length_mergeSort, List.length_take, List.length_drop, List.length_cons, List.length_cons]; omega)]
    conv => rhs; rw [List.mergeSort]
    simp only [List.MergeSort.Internal.splitInTwo_fst, List.MergeSort.Internal.splitInTwo_snd, List.length_cons]
end EV
namespace EV
open PySem PySem.Spec PyProof.Rows L2

/-- a value: tuples are plain, what can change stands in the heap (ref), what the module's top wrote is glo -/
inductive IV where
  | non | bl (b : Bool) | int (i : Int) | str (x : Str) | tup (xs : List IV) | lst (xs : List IV) | scr (xs : List IV) | dct (ks vs : List IV) | ref (n : Nat) | ty (n : String) | glo (i : Nat)
  | exc (a dd : Addr) (ns : List Str) (xs : List IV) | fn (a c : Addr) (q : Str) (ix : List Nat) (xs : List IV) (σ : L2.St)
  deriving Inhabited

/-- what stands at a place of the heap: a list, a dict that may change -/
inductive IO where
  | lst (xs : List IV) | dct (ks vs : List IV) | ins (c : Nat) (vs : List (Option IV)) | lck (ks vs : List IV) | ktp (xs : List IV)
  deriving Inhabited

abbrev IH := List IO
abbrev IE := List (Option IV)

/-- what is fixed: the written part, the addresses of what the top wrote -/
structure Par where
  K : PySem.W.Frag
  G : Nat → Addr
  w : World
  /-- lists and dicts under way, of which no value tells -/
  av : List Addr := []
  /-- tables of code objects, with the name that each tells -/
  tb : List (Addr × Str) := []
def Par.at (P : Par) (l : List Addr) : Par := { P with av := l }
/-- neither told nor under way -/
def Off (P : Par) (φ : List Addr) (a : Addr) : Prop := a ∉ φ ∧ a ∉ P.av

abbrev Raw := List (Int × V × V)
/-- the dict at a: its object, its entries -/
def RawAt (a : Addr) (o : Obj) (es : Raw) (h : Heap) : Prop :=
  h.get? a = some o ∧ (a == sysModules) = false ∧ es.length ≤ sizeLine ∧ o.ExactDict ∧ ∃ arr ep, o.data = .dict arr ep ∧
    Paired (fun (p : Int × V × V) (q : DictEntry) => p.1 = q.hash ∧ L2.RelV p.2.1 q.key ∧ L2.RelV p.2.2 q.val) es arr.toList
/-- a heap with a code object at a -/
def cH (a : Addr) (q : Str) : Heap := { (default : Heap) with objs := (Array.replicate (a + 1) { cls := .none, data := .fields #[.none, .str q 0] }) }
theorem cH_get (a : Addr) (q : Str) : (cH a q).get? a = some { cls := .none, data := .fields #[.none, .str q 0] } := by
  simp [cH, Heap.get?]
def DctO (a : Addr) (o : Obj) (es : Raw) : HO := .ext (RawAt a o es)
theorem DctO.ne_tup {a : Addr} {o : Obj} {es : Raw} {xs : List V} : DctO a o es ≠ .tup xs := fun z => by unfold DctO at z; cases z
theorem DctO.ne_frz {a : Addr} {o o' : Obj} {es : Raw} {u : HO} : DctO a o es ≠ .frz o' u := fun z => by unfold DctO at z; cases z
theorem DctO.ne_tbl {a : Addr} {o : Obj} {es : Raw} {ps : Array Value} : DctO a o es ≠ .tbl ps := fun z => by unfold DctO at z; cases z
/-- no dict is a code object -/
theorem DctO.ne_code {a : Addr} {o : Obj} {es : Raw} {q : Str} : DctO a o es ≠ LamX.CodeO a q := fun z => by
  unfold DctO LamX.CodeO at z
  injection z with z
  have w : ∃ (oc : Obj) (vs : Array Value) (t : Tok), (cH a q).get? a = some oc ∧ oc.data = .fields vs ∧ vs[1]? = some (.str q t) := ⟨_, #[.none, .str q 0], 0, cH_get a q, rfl, rfl⟩
  have k : RawAt a o es (cH a q) := by rw [z]; exact w
  obtain ⟨e, _, _, _, arr, ep, d, _⟩ := k
  rw [cH_get] at e
  injection e with e
  rw [← e] at d
  cases d
theorem lst_ne_code {a : Addr} {vs : List V} {q : Str} : HO.lst vs ≠ LamX.CodeO a q := fun z => by unfold LamX.CodeO at z; cases z
/-- what stays where it isn't told -/
structure Stay (o : HO) : Prop where
  tbl : ∀ ps, o ≠ .tbl ps
  own : ∀ y, o ≠ .own y
theorem stay_lst {vs : List V} : Stay (.lst vs) := ⟨fun ps z => (by cases z), fun y z => (by cases z)⟩
theorem stay_xd {vs : List (Str × V)} : Stay (.xd vs) := ⟨fun ps z => (by cases z), fun y z => (by cases z)⟩
theorem stay_dct {a : Addr} {o : Obj} {es : Raw} : Stay (DctO a o es) := ⟨fun ps => DctO.ne_tbl, fun y z => by unfold DctO at z; cases z⟩
theorem stay_code {a : Addr} {q : Str} : Stay (LamX.CodeO a q) := ⟨fun ps => LamX.codeO_ne ps, fun y z => by unfold LamX.CodeO at z; cases z⟩
/-- an instance with slots: what its object is not -/
theorem slO_ne_code {C dx x a : Addr} {vs : List (Option V)} {q : Str} : SlX.SlO x C dx vs ≠ LamX.CodeO a q := fun z => by
  unfold SlX.SlO LamX.CodeO at z
  injection z with z
  have w : ∃ (oc : Obj) (vs : Array Value) (t : Tok), (cH a q).get? a = some oc ∧ oc.data = .fields vs ∧ vs[1]? = some (.str q t) := ⟨_, #[.none, .str q 0], 0, cH_get a q, rfl, rfl⟩
  have k : ∃ sl : Array (Option Value), (cH a q).get? x = some { PySem.W.instObj C dx with slots := sl } ∧ SlX.SlR vs sl := by
    have z2 := congrFun z (cH a q)
    rw [z2]; exact w
  obtain ⟨us, e, _⟩ := k
  have key : ∀ (y : Addr) (o : Obj), (cH a q).get? y = some o → o.cls = .none := fun y o e => by
    unfold cH Heap.get? at e
    dsimp only at e
    by_cases hy : y < a + 1
    · rw [Array.getElem?_replicate, if_pos hy] at e
      first
        | (cases e; rfl)
        | (simp at e; rw [← e])
    · rw [Array.getElem?_replicate, if_neg hy] at e
      first
        | cases e
        | simp at e
  have := key x _ e
  cases this
theorem ins_ne_code {C dx a : Addr} {vs : List (Str × V)} {q : Str} : HO.ins C dx vs ≠ LamX.CodeO a q := fun z => by unfold LamX.CodeO at z; cases z
/-- the object of an instance -/
structure SlI (o : HO) : Prop extends Stay o where
  tup : ∀ xs, o ≠ .tup xs
  frz : ∀ o' u, o ≠ .frz o' u
  code : ∀ a q, o ≠ LamX.CodeO a q
theorem slI_slO {C dx x : Addr} {vs : List (Option V)} : SlI (SlX.SlO x C dx vs) := by
  refine ⟨⟨fun _ z => ?_, fun _ z => ?_⟩, fun _ z => ?_, fun _ _ z => ?_, fun _ _ => slO_ne_code⟩ <;> (unfold SlX.SlO at z; cases z)
theorem slAt_obj {H : Hp} {x C dx : Addr} {vs : List (Option V)} (h : SlX.Slt H x C dx vs) : ∃ o, H x = some o ∧ SlI o := by
  rcases h with ⟨h, _⟩ | ⟨h, _⟩
  · exact ⟨_, h, ⟨fun _ z => (by cases z), fun _ z => (by cases z)⟩, fun _ z => (by cases z), fun _ _ z => (by cases z), fun _ _ => ins_ne_code⟩
  · exact ⟨_, h, slI_slO⟩
/-- an instance stands where its object and its dict do -/
theorem slAt_stay {H H' : Hp} {x C dx : Addr} {vs : List (Option V)} (h : SlX.Slt H x C dx vs) (k1 : ∀ o, H x = some o → H' x = some o) (k2 : H dx = some (.xd []) → H' dx = some (.xd [])) : SlX.Slt H' x C dx vs :=
  h.elim (fun q => .inl ⟨k1 _ q.1, q.2⟩) fun q => .inr ⟨k1 _ q.1, k2 q.2⟩
mutual
/-- a value as a key of a dict -/
def keyOf : IV → Option NestedKey
  | .non => some .none
  | .bl b => some (.num (if b then 1 else 0))
  | .int i => some (.num i)
  | .str x => some (.text x)
  | .tup xs => match keysOf xs with
    | some ks => some (.tup ks)
    | none => none
  | _ => none
def keysOf : List IV → Option (List NestedKey)
  | [] => some []
  | x :: xs => match keyOf x, keysOf xs with
    | some k, some ks => some (k :: ks)
    | _, _ => none
end
/-- the keys are keys, each of its own, their hashes are those -/
structure KeysOk (w : World) (ks : List IV) (hs : List Int) : Prop where
  ex : ∃ nks, keysOf ks = some nks ∧ nks.Nodup ∧ hs = nks.map (·.hash w)

section
variable (P : Par) (φ : List Addr) (H : Hp)
/-- a list that stands as it is: the script, a list of the written part -/
def SqLi (a : Addr) (vs : List V) : Prop := (∃ o, H a = some (.frz o (.lst vs))) ∨
  ∃ (o : Obj) (its : Array Value) (n : Nat), P.K.lookup a = some o ∧ o.cls = .type "list" ∧ o.dict = none ∧ o.data = .seq its n ∧ its.size ≤ sizeLine ∧ Vals vs its.toList
mutual
def VR : IV → V → Prop
  | .non, v => v = .non
  | .bl b, v => v = .bl b
  | .int i, v => v = .int i
  | .str x, v => v = .str x
  | .tup xs, v => ∃ a vs, v = .ref a ∧ SqT P.K H a vs ∧ VRs xs vs
  | .lst xs, v => ∃ a vs, v = .ref a ∧ H a = some (.lst vs) ∧ Off P φ a ∧ VRs xs vs
  | .scr xs, v => ∃ a vs, v = .ref a ∧ SqLi P H a vs ∧ VRs xs vs
  | .dct ks us, v => ∃ a o es, v = .ref a ∧ H a = some (DctO a o es) ∧ Off P φ a ∧ VRs ks (es.map (·.2.1)) ∧ VRs us (es.map (·.2.2)) ∧ KeysOk P.w ks (es.map (·.1))
  | .ref n, v => ∃ a, φ[n]? = some a ∧ v = .ref a
  | .ty n, v => v = .ty n
  | .glo i, v => v = .ref (P.G i)
  | .exc a dd ns xs, v => v = .ref a ∧ (ns = [] ∨ ∃ vs, H dd = some (.xd (ns.zip vs)) ∧ Off P φ dd ∧ VRs xs vs)
  | .fn a c q ix xs σ, v => v = .ref a ∧ H c = some (LamX.CodeO c q) ∧ Off P φ c ∧ ∃ vs, (∀ p ∈ ix.zip vs, σ[p.1]? = some (some p.2)) ∧ VRs xs vs
def VRs : List IV → List V → Prop
  | [], vs => vs = []
  | x :: xs, vs => ∃ v r, vs = v :: r ∧ VR x v ∧ VRs xs r
end
end

/-- behind a run: the addresses that are told grow by new ones, what isn't told stands -/
structure Ext (φ : List Addr) (H : Hp) (φ' : List Addr) (H' : Hp) : Prop where
  pre : ∃ t, φ' = φ ++ t ∧ ∀ a ∈ t, H a = none
  keep : ∀ b o, H b = some o → b ∉ φ → (nt : Stay o := by first | exact stay_lst | exact stay_dct | exact stay_xd | exact stay_code | assumption) → H' b = some o
  tups : ∀ b xs, H b = some (.tup xs) → H' b = some (.tup xs)
  frzs : ∀ b o u, H b = some (.frz o u) → H' b = some (.frz o u)
  there : ∀ b o, H b = some o → ∃ o', H' b = some o'

theorem Ext.refl (φ : List Addr) (H : Hp) : Ext φ H φ H := ⟨⟨[], by simp, by simp⟩, fun _ _ h _ _ => h, fun _ _ h => h, fun _ _ _ h => h, fun _ o h => ⟨o, h⟩⟩
theorem Ext.trans {φ φ1 φ2 : List Addr} {H H1 H2 : Hp} (a : Ext φ H φ1 H1) (b : Ext φ1 H1 φ2 H2) : Ext φ H φ2 H2 := by
  obtain ⟨⟨t, rfl, ht⟩, k, tu, fz, th⟩ := a
  obtain ⟨⟨t', rfl, ht'⟩, k', tu', fz', th'⟩ := b
  refine ⟨⟨t ++ t', by simp, fun a ha => ?_⟩, fun b o h n nt => k' _ _ (k _ _ h n nt) (fun m => ?_) nt, fun _ _ h => tu' _ _ (tu _ _ h), fun _ _ _ h => fz' _ _ _ (fz _ _ _ h), fun b o h => ?_⟩
  · rcases List.mem_append.mp ha with ha | ha
    · exact ht a ha
    · have := ht' a ha
      cases q : H a with
      | none => rfl
      | some o =>
        obtain ⟨o', e⟩ := th _ _ q
        rw [this] at e; cases e
  · rcases List.mem_append.mp m with m | m
    · exact n m
    · rw [ht b m] at h; cases h
  · obtain ⟨o', e⟩ := th _ _ h
    exact th' _ _ e

theorem Ext.seqT {K : PySem.W.Frag} {φ φ' : List Addr} {H H' : Hp} (e : Ext φ H φ' H') {a : Addr} {xs : List V} (h : SqT K H a xs) : SqT K H' a xs := by
  rcases h with (h | ⟨o, h⟩) | h
  · exact .inl (.inl (e.tups _ _ h))
  · exact .inl (.inr ⟨o, e.frzs _ _ _ h⟩)
  · exact .inr h
theorem Ext.get {φ φ' : List Addr} {H H' : Hp} (e : Ext φ H φ' H') {n : Nat} {a : Addr} (h : φ[n]? = some a) : φ'[n]? = some a := by
  obtain ⟨t, rfl, _⟩ := e.pre
  rw [List.getElem?_append_left (List.getElem?_eq_some_iff.mp h).1]; exact h

theorem Ext.out {φ φ' : List Addr} {H H' : Hp} (e : Ext φ H φ' H') {a : Addr} {o : HO} (h : H a = some o) (n : a ∉ φ) : a ∉ φ' := by
  obtain ⟨t, rfl, ht⟩ := e.pre
  intro m
  rcases List.mem_append.mp m with m | m
  · exact n m
  · rw [ht a m] at h; cases h
theorem Ext.off {P : Par} {φ φ' : List Addr} {H H' : Hp} (e : Ext φ H φ' H') {a : Addr} {o : HO} (h : H a = some o) (n : Off P φ a) : Off P φ' a := ⟨e.out h n.1, n.2⟩
theorem Ext.sqLi {P : Par} {φ φ' : List Addr} {H H' : Hp} (e : Ext φ H φ' H') {a : Addr} {vs : List V} (h : SqLi P H a vs) : SqLi P H' a vs := by
  rcases h with ⟨o, h⟩ | h
  · exact .inl ⟨o, e.frzs _ _ _ h⟩
  · exact .inr h
theorem SqLi.sqL {P : Par} {H : Hp} {a : Addr} {vs : List V} (h : SqLi P H a vs) : SqL P.K H a vs := by
  rcases h with ⟨o, h⟩ | h
  · exact .inl (.inr ⟨o, h⟩)
  · exact .inr h

section
variable {P : Par} {φ φ' : List Addr} {H H' : Hp}
mutual
theorem VR.mono (e : Ext φ H φ' H') : ∀ (x : IV) (v : V), VR P φ H x v → VR P φ' H' x v
  | .non, _, h | .bl _, _, h | .int _, _, h | .str _, _, h | .ty _, _, h | .glo _, _, h => by simpa only [VR] using h
  | .ref n, _, h => by
    rw [VR] at h ⊢
    obtain ⟨a, h1, h2⟩ := h
    exact ⟨a, e.get h1, h2⟩
  | .tup xs, _, h => by
    rw [VR] at h ⊢
    obtain ⟨a, vs, h1, h2, h3⟩ := h
    exact ⟨a, vs, h1, e.seqT h2, VRs.mono e xs vs h3⟩
  | .lst xs, _, h => by
    rw [VR] at h ⊢
    obtain ⟨a, vs, h1, h2, h3, h4⟩ := h
    exact ⟨a, vs, h1, e.keep _ _ h2 h3.1, e.off h2 h3, VRs.mono e xs vs h4⟩
  | .scr xs, _, h => by
    rw [VR] at h ⊢
    obtain ⟨a, vs, h1, h2, h3⟩ := h
    exact ⟨a, vs, h1, e.sqLi h2, VRs.mono e xs vs h3⟩
  | .dct ks us, _, h => by
    rw [VR] at h ⊢
    obtain ⟨a, o, es, h1, h2, h3, h4, h5, h6⟩ := h
    exact ⟨a, o, es, h1, e.keep _ _ h2 h3.1, e.off h2 h3, VRs.mono e ks _ h4, VRs.mono e us _ h5, h6⟩
  | .exc a dd ns xs, _, h => by
    rw [VR] at h ⊢
    obtain ⟨h1, h | ⟨vs, h2, h3, h4⟩⟩ := h
    · exact ⟨h1, .inl h⟩
    · exact ⟨h1, .inr ⟨vs, e.keep _ _ h2 h3.1, e.off h2 h3, VRs.mono e xs vs h4⟩⟩
  | .fn a c q ix xs σ, _, h => by
    rw [VR] at h ⊢
    obtain ⟨h1, h2, h3, vs, h4, h5⟩ := h
    exact ⟨h1, e.keep _ _ h2 h3.1 stay_code, e.off h2 h3, vs, h4, VRs.mono e xs vs h5⟩
theorem VRs.mono (e : Ext φ H φ' H') : ∀ (xs : List IV) (vs : List V), VRs P φ H xs vs → VRs P φ' H' xs vs
  | [], _, h => by simpa only [VRs] using h
  | x :: xs, _, h => by
    rw [VRs] at h ⊢
    obtain ⟨v, r, h1, h2, h3⟩ := h
    exact ⟨v, r, h1, VR.mono e x v h2, VRs.mono e xs r h3⟩
end
theorem VRs.length : ∀ {xs : List IV} {vs : List V}, VRs P φ H xs vs → vs.length = xs.length
  | [], _, h => by rw [VRs] at h; subst h; rfl
  | x :: xs, _, h => by
    rw [VRs] at h
    obtain ⟨v, r, rfl, _, h3⟩ := h
    rw [List.length_cons, List.length_cons, VRs.length h3]
theorem VRs.nil : VRs P φ H [] [] := by rw [VRs]
theorem VRs.cons {x : IV} {v : V} {xs : List IV} {vs : List V} (h : VR P φ H x v) (t : VRs P φ H xs vs) : VRs P φ H (x :: xs) (v :: vs) := by
  rw [VRs]; exact ⟨v, vs, rfl, h, t⟩
theorem VRs.append : ∀ {xs ys : List IV} {vs ws : List V}, VRs P φ H xs vs → VRs P φ H ys ws → VRs P φ H (xs ++ ys) (vs ++ ws)
  | [], _, _, _, h, k => by rw [VRs] at h; subst h; exact k
  | x :: xs, _, _, _, h, k => by
    rw [VRs] at h
    obtain ⟨v, r, rfl, h2, h3⟩ := h
    exact VRs.cons h2 (VRs.append h3 k)
theorem VRs.get : ∀ {xs : List IV} {vs : List V} {i : Nat} {x : IV}, VRs P φ H xs vs → xs[i]? = some x → ∃ v, vs[i]? = some v ∧ VR P φ H x v
  | [], _, i, _, _, e => by simp at e
  | x :: xs, _, i, y, h, e => by
    rw [VRs] at h
    obtain ⟨v, r, rfl, h2, h3⟩ := h
    cases i with
    | zero => simp at e; subst e; exact ⟨v, rfl, h2⟩
    | succ i =>
      obtain ⟨u, e1, e2⟩ := VRs.get (i := i) (x := y) h3 (by simpa using e)
      exact ⟨u, by simpa using e1, e2⟩
theorem VRs.set : ∀ {xs : List IV} {vs : List V} {i : Nat} {x : IV} {v : V}, VRs P φ H xs vs → VR P φ H x v → VRs P φ H (xs.set i x) (vs.set i v)
  | [], _, _, _, _, h, _ => by rw [VRs] at h; subst h; simp [VRs]
  | y :: xs, _, i, x, v, h, r => by
    rw [VRs] at h
    obtain ⟨u, w, rfl, h2, h3⟩ := h
    cases i with
    | zero => exact VRs.cons r h3
    | succ i => exact VRs.cons h2 (VRs.set h3 r)
theorem VRs.take : ∀ {xs : List IV} {vs : List V} (n : Nat), VRs P φ H xs vs → VRs P φ H (xs.take n) (vs.take n)
  | _, _, 0, _ => VRs.nil
  | [], _, n + 1, h => by rw [VRs] at h; subst h; exact VRs.nil
  | x :: xs, _, n + 1, h => by
    rw [VRs] at h
    obtain ⟨u, w, rfl, h2, h3⟩ := h
    exact VRs.cons h2 (VRs.take n h3)
theorem VRs.drop : ∀ {xs : List IV} {vs : List V} (n : Nat), VRs P φ H xs vs → VRs P φ H (xs.drop n) (vs.drop n)
  | _, _, 0, h => h
  | [], _, n + 1, h => by rw [VRs] at h; subst h; exact VRs.nil
  | x :: xs, _, n + 1, h => by
    rw [VRs] at h
    obtain ⟨u, w, rfl, h2, h3⟩ := h
    exact VRs.drop n h3
theorem VRs.reverse : ∀ {xs : List IV} {vs : List V}, VRs P φ H xs vs → VRs P φ H xs.reverse vs.reverse
  | [], _, h => by rw [VRs] at h; subst h; exact VRs.nil
  | x :: xs, _, h => by
    rw [VRs] at h
    obtain ⟨u, w, rfl, h2, h3⟩ := h
    rw [List.reverse_cons, List.reverse_cons]
    exact VRs.append (VRs.reverse h3) (VRs.cons h2 VRs.nil)
end

section
variable (P : Par) (φ : List Addr) (H : Hp)
/-- the slots, as far as they are told -/
def SlV (vs : List (Option IV)) (ws : List (Option V)) : Prop := ∀ (i : Nat) (x : IV), vs[i]? = some (some x) → ∃ v, ws[i]? = some (some v) ∧ VR P φ H x v
/-- what an object of the evaluator's heap stands for -/
def OR (a : Addr) : IO → Prop
  | .lst xs => ∃ vs, H a = some (.lst vs) ∧ VRs P φ H xs vs
  | .dct ks us => ∃ o es, H a = some (DctO a o es) ∧ VRs P φ H ks (es.map (·.2.1)) ∧ VRs P φ H us (es.map (·.2.2)) ∧ KeysOk P.w ks (es.map (·.1))
  | .ins c vs => ∃ dx ws, SlX.Slt H a (P.G c) dx ws ∧ Off P φ dx ∧ dx ≠ a ∧ (∃ o, H dx = some o) ∧ SlV P φ H vs ws
  | .lck ks us => ∃ od o es, H a = some (.frz od (DctO a o es)) ∧ VRs P φ H ks (es.map (·.2.1)) ∧ VRs P φ H us (es.map (·.2.2)) ∧ KeysOk P.w ks (es.map (·.1))
  | .ktp xs => ∃ o vs, H a = some (.frz o (.tup vs)) ∧ o.cls = .type "tuple" ∧ o.dict = none ∧ VRs P φ H xs vs
/-- what is under way stands beside -/
def AvOk : Prop := ∀ a ∈ P.av, a ∉ φ ∧ (∃ o, H a = some o ∧ Stay o ∧ ∀ q, o ≠ LamX.CodeO a q) ∧ (∀ xs, H a ≠ some (.tup xs)) ∧ ∀ o u, H a ≠ some (.frz o u)
/-- a table of code objects, beside what is told -/
def TabE (p : Addr × Str) : Prop := Off P φ p.1 ∧ ∃ ps, H p.1 = some (.tbl ps) ∧ TriplesOk ps.toList ∧ ∀ (pos : Pos) (cv : Value), codeAmong pos ps.toList = some cv → ∃ c, cv = .ref c ∧ H c = some (LamX.CodeO c p.2) ∧ Off P φ c
/-- the heap stands -/
structure SR (h : IH) : Prop where
  len : φ.length = h.length
  nd : φ.Nodup
  av : AvOk P φ H
  obj : ∀ (n : Nat) (o : IO) (a : Addr), h[n]? = some o → φ[n]? = some a → OR P φ H a o
  tab : ∀ p ∈ P.tb, TabE P φ H p
  tbo : True
/-- the names' values stand -/
structure SE (σi : IE) (σ : L2.St) : Prop where
  len : σi.length = σ.length
  val : ∀ (i : Nat) (x : IV), σi[i]? = some (some x) → ∃ v, σ[i]? = some (some v) ∧ VR P φ H x v
end

section
variable {P : Par} {φ φ' : List Addr} {H H' : Hp} {h : IH}
theorem SE.mono {σi : IE} {σ : L2.St} (s : SE P φ H σi σ) (e : Ext φ H φ' H') : SE P φ' H' σi σ :=
  ⟨s.len, fun i x h => let ⟨v, h1, h2⟩ := s.val i x h; ⟨v, h1, h2.mono e⟩⟩
theorem tbo_upd {o : HO} (nt : ∀ ps, o ≠ .tbl ps) (k : True) : True := k
/-- the tables stand where they and their code objects stand -/
theorem TabE.stay {P' : Par} {p : Addr × Str} (t : TabE P φ H p) (k : ∀ b o, H b = some o → Off P φ b → ((∃ ps, o = .tbl ps) ∧ b = p.1 ∨ ∃ q, o = LamX.CodeO b q) → H' b = some o ∧ Off P' φ' b) : TabE P' φ' H' p := by
  obtain ⟨n, ps, h1, h2, h3⟩ := t
  obtain ⟨e1, n1⟩ := k _ _ h1 n (.inl ⟨⟨ps, rfl⟩, rfl⟩)
  refine ⟨n1, ps, e1, h2, fun pos cv hc => ?_⟩
  obtain ⟨c, e2, e3, n2⟩ := h3 pos cv hc
  obtain ⟨e4, n4⟩ := k _ _ e3 n2 (.inr ⟨_, rfl⟩)
  exact ⟨c, e2, e4, n4⟩
theorem AvOk.mono (s : AvOk P φ H) (e : Ext φ H φ' H') : AvOk P φ' H' := fun a m => by
  obtain ⟨h1, ⟨o, h2, t1, t2⟩, h3, h4⟩ := s a m
  have k := e.keep _ _ h2 h1 t1
  exact ⟨e.out h2 h1, ⟨o, k, t1, t2⟩, fun xs z => h3 xs (by rw [h2, ← k, z]), fun o u z => h4 o u (by rw [h2, ← k, z])⟩
theorem SR.fresh (s : SR P φ H h) {a : Addr} (hn : H a = none) : Off P φ a := by
  refine ⟨fun m => ?_, fun m => ?_⟩
  · obtain ⟨n, hl, e⟩ := List.getElem_of_mem m
    have hn' : n < h.length := by rw [← s.len]; exact hl
    have o := s.obj n h[n] a (by simp [hn']) (by simp [hl, e])
    cases q : h[n] with
    | lst xs => rw [q] at o; obtain ⟨vs, e, _⟩ := o; rw [hn] at e; cases e
    | dct ks us => rw [q] at o; obtain ⟨_, vs, e, _⟩ := o; rw [hn] at e; cases e
    | ins c vs => rw [q] at o; obtain ⟨_, _, e, _⟩ := o; obtain ⟨_, e, _⟩ := slAt_obj e; rw [hn] at e; cases e
    | lck ks us => rw [q] at o; obtain ⟨_, _, _, e, _⟩ := o; rw [hn] at e; cases e
    | ktp xs => rw [q] at o; obtain ⟨_, _, e, _⟩ := o; rw [hn] at e; cases e
  · obtain ⟨_, ⟨o, e, _⟩, _⟩ := s.av a m
    rw [hn] at e; cases e
theorem SR.nottup (s : SR P φ H h) {a : Addr} (m : a ∈ φ) : (∃ o, H a = some o) ∧ ∀ xs, H a ≠ some (.tup xs) := by
  obtain ⟨n, hn, e⟩ := List.getElem_of_mem m
  have hn' : n < h.length := by rw [← s.len]; exact hn
  have o := s.obj n h[n] a (by simp [hn']) (by simp [hn, e])
  cases q : h[n] with
  | lst xs => rw [q] at o; obtain ⟨vs, e, _⟩ := o; rw [e]; exact ⟨⟨_, rfl⟩, fun xs z => (by cases z)⟩
  | dct ks us => rw [q] at o; obtain ⟨_, vs, e, _⟩ := o; rw [e]; exact ⟨⟨_, rfl⟩, fun xs z => DctO.ne_tup (Option.some.inj z)⟩
  | ins c vs => rw [q] at o; obtain ⟨_, _, e, _⟩ := o; obtain ⟨_, e, k⟩ := slAt_obj e; rw [e]; exact ⟨⟨_, rfl⟩, fun xs z => k.tup xs (Option.some.inj z)⟩
  | lck ks us => rw [q] at o; obtain ⟨_, _, _, e, _⟩ := o; rw [e]; exact ⟨⟨_, rfl⟩, fun xs z => (by cases z)⟩
  | ktp xs => rw [q] at o; obtain ⟨_, _, e, _⟩ := o; rw [e]; exact ⟨⟨_, rfl⟩, fun xs z => (by cases z)⟩
end
section
variable {P : Par} {φ : List Addr} {H : Hp}
mutual
/-- more is under way: what isn't there yet -/
theorem VR.avI {l : List Addr} (k : ∀ D ∈ l, D ∈ P.av ∨ H D = none) : ∀ (x : IV) (v : V), VR P φ H x v → VR (P.at l) φ H x v
  | .non, _, h | .bl _, _, h | .int _, _, h | .str _, _, h | .ty _, _, h | .glo _, _, h => by simpa only [VR, Par.at] using h
  | .ref n, _, h => by rw [VR] at h ⊢; exact h
  | .tup xs, _, h => by
    rw [VR] at h ⊢
    obtain ⟨a, vs, h1, h2, h3⟩ := h
    exact ⟨a, vs, h1, h2, VRs.avI k xs vs h3⟩
  | .lst xs, _, h => by
    rw [VR] at h ⊢
    obtain ⟨a, vs, h1, h2, h3, h4⟩ := h
    exact ⟨a, vs, h1, h2, ⟨h3.1, fun m => (k a m).elim h3.2 fun z => by rw [h2] at z; cases z⟩, VRs.avI k xs vs h4⟩
  | .scr xs, _, h => by
    rw [VR] at h ⊢
    obtain ⟨a, vs, h1, h2, h3⟩ := h
    exact ⟨a, vs, h1, h2, VRs.avI k xs vs h3⟩
  | .dct ks us, _, h => by
    rw [VR] at h ⊢
    obtain ⟨a, o, es, h1, h2, h3, h4, h5, h6⟩ := h
    exact ⟨a, o, es, h1, h2, ⟨h3.1, fun m => (k a m).elim h3.2 fun z => by rw [h2] at z; cases z⟩, VRs.avI k ks _ h4, VRs.avI k us _ h5, h6⟩
  | .exc a dd ns xs, _, h => by
    rw [VR] at h ⊢
    obtain ⟨h1, h | ⟨vs, h2, h3, h4⟩⟩ := h
    · exact ⟨h1, .inl h⟩
    · exact ⟨h1, .inr ⟨vs, h2, ⟨h3.1, fun m => (k dd m).elim h3.2 fun z => by rw [h2] at z; cases z⟩, VRs.avI k xs vs h4⟩⟩
  | .fn a c q ix xs σ, _, h => by
    rw [VR] at h ⊢
    obtain ⟨h1, h2, h3, vs, h4, h5⟩ := h
    exact ⟨h1, h2, ⟨h3.1, fun m => (k c m).elim h3.2 fun z => by rw [h2] at z; cases z⟩, vs, h4, VRs.avI k xs vs h5⟩
theorem VRs.avI {l : List Addr} (k : ∀ D ∈ l, D ∈ P.av ∨ H D = none) : ∀ (xs : List IV) (vs : List V), VRs P φ H xs vs → VRs (P.at l) φ H xs vs
  | [], _, h => by rw [VRs] at h ⊢; exact h
  | x :: xs, _, h => by
    rw [VRs] at h ⊢
    obtain ⟨v, r, h1, h2, h3⟩ := h
    exact ⟨v, r, h1, VR.avI k x v h2, VRs.avI k xs r h3⟩
end
theorem VR.avD {l : List Addr} {x : IV} {v : V} (k : ∀ D ∈ l, D ∈ P.av) (h : VR P φ H x v) : VR (P.at l) φ H x v := VR.avI (fun D m => .inl (k D m)) x v h
theorem VRs.avD {l : List Addr} {x : List IV} {v : List V} (k : ∀ D ∈ l, D ∈ P.av) (h : VRs P φ H x v) : VRs (P.at l) φ H x v := VRs.avI (fun D m => .inl (k D m)) x v h
theorem OR.avI {l : List Addr} (k : ∀ D ∈ l, D ∈ P.av ∨ H D = none) {a : Addr} : ∀ {o : IO}, OR P φ H a o → OR (P.at l) φ H a o
  | .lst xs, ⟨vs, h1, h2⟩ => ⟨vs, h1, VRs.avI k xs vs h2⟩
  | .dct ks us, ⟨o, es, h1, h2, h3, h4⟩ => ⟨o, es, h1, VRs.avI k ks _ h2, VRs.avI k us _ h3, h4⟩
  | .ins c vs, ⟨dx, ws, h1, h2, n, ⟨o, ho⟩, h3⟩ => ⟨dx, ws, h1, ⟨h2.1, fun m => (k dx m).elim h2.2 fun z => by rw [ho] at z; cases z⟩, n, ⟨o, ho⟩, fun i x e => let ⟨v, e1, r1⟩ := h3 i x e; ⟨v, e1, VR.avI k x v r1⟩⟩
  | .lck ks us, ⟨od, o, es, h1, h2, h3, h4⟩ => ⟨od, o, es, h1, VRs.avI k ks _ h2, VRs.avI k us _ h3, h4⟩
  | .ktp xs, ⟨o, vs, h1, h2, h3, h4⟩ => ⟨o, vs, h1, h2, h3, VRs.avI k xs _ h4⟩
theorem SR.avD {h : IH} {l : List Addr} (k : ∀ D ∈ l, D ∈ P.av) (s : SR P φ H h) : SR (P.at l) φ H h :=
  ⟨s.len, s.nd, fun a m => s.av a (k a m), fun n o a e1 e2 => OR.avI (fun D m => .inl (k D m)) (s.obj n o a e1 e2), fun p hp => (s.tab p hp).stay fun b o e n _ => ⟨e, n.1, fun m => n.2 (k b m)⟩, s.tbo⟩
theorem SE.avI {l : List Addr} (k : ∀ D ∈ l, D ∈ P.av ∨ H D = none) {σi : IE} {σ : L2.St} (s : SE P φ H σi σ) : SE (P.at l) φ H σi σ :=
  ⟨s.len, fun i x e => let ⟨v, h1, h2⟩ := s.val i x e; ⟨v, h1, VR.avI k x v h2⟩⟩
mutual
/-- what is under way may change -/
theorem VR.avU {D : Addr} {o : HO} (m : D ∈ P.av) (nt : ∀ xs, H D ≠ some (.tup xs)) (nf : ∀ o u, H D ≠ some (.frz o u)) : ∀ (x : IV) (v : V), VR P φ H x v → VR P φ (upd H D o) x v
  | .non, _, h | .bl _, _, h | .int _, _, h | .str _, _, h | .ty _, _, h | .glo _, _, h => by simpa only [VR] using h
  | .ref n, _, h => by rw [VR] at h ⊢; exact h
  | .tup xs, _, h => by
    rw [VR] at h ⊢
    obtain ⟨a, vs, h1, h2, h3⟩ := h
    refine ⟨a, vs, h1, ?_, VRs.avU m nt nf xs vs h3⟩
    rcases h2 with (h2 | ⟨o, h2⟩) | h2
    · exact .inl (.inl ((upd_ne (fun z => nt _ (by rw [← z]; exact h2))).trans h2))
    · exact .inl (.inr ⟨o, (upd_ne (fun z => nf _ _ (by rw [← z]; exact h2))).trans h2⟩)
    · exact .inr h2
  | .lst xs, _, h => by
    rw [VR] at h ⊢
    obtain ⟨a, vs, h1, h2, h3, h4⟩ := h
    exact ⟨a, vs, h1, (upd_ne (fun z => h3.2 (by rw [z]; exact m))).trans h2, h3, VRs.avU m nt nf xs vs h4⟩
  | .scr xs, _, h => by
    rw [VR] at h ⊢
    obtain ⟨a, vs, h1, h2, h3⟩ := h
    refine ⟨a, vs, h1, ?_, VRs.avU m nt nf xs vs h3⟩
    rcases h2 with ⟨o, h2⟩ | h2
    · exact .inl ⟨o, (upd_ne (fun z => nf _ _ (by rw [← z]; exact h2))).trans h2⟩
    · exact .inr h2
  | .dct ks us, _, h => by
    rw [VR] at h ⊢
    obtain ⟨a, o, es, h1, h2, h3, h4, h5, h6⟩ := h
    exact ⟨a, o, es, h1, (upd_ne (fun z => h3.2 (by rw [z]; exact m))).trans h2, h3, VRs.avU m nt nf ks _ h4, VRs.avU m nt nf us _ h5, h6⟩
  | .exc a dd ns xs, _, h => by
    rw [VR] at h ⊢
    obtain ⟨h1, h | ⟨vs, h2, h3, h4⟩⟩ := h
    · exact ⟨h1, .inl h⟩
    · exact ⟨h1, .inr ⟨vs, (upd_ne (fun z => h3.2 (by rw [z]; exact m))).trans h2, h3, VRs.avU m nt nf xs vs h4⟩⟩
  | .fn a c q ix xs σ, _, h => by
    rw [VR] at h ⊢
    obtain ⟨h1, h2, h3, vs, h4, h5⟩ := h
    exact ⟨h1, (upd_ne (fun z => h3.2 (by rw [z]; exact m))).trans h2, h3, vs, h4, VRs.avU m nt nf xs vs h5⟩
theorem VRs.avU {D : Addr} {o : HO} (m : D ∈ P.av) (nt : ∀ xs, H D ≠ some (.tup xs)) (nf : ∀ o u, H D ≠ some (.frz o u)) : ∀ (xs : List IV) (vs : List V), VRs P φ H xs vs → VRs P φ (upd H D o) xs vs
  | [], _, h => by rw [VRs] at h ⊢; exact h
  | x :: xs, _, h => by
    rw [VRs] at h ⊢
    obtain ⟨v, r, h1, h2, h3⟩ := h
    exact ⟨v, r, h1, VR.avU m nt nf x v h2, VRs.avU m nt nf xs r h3⟩
end
theorem SE.avU {D : Addr} {o : HO} (m : D ∈ P.av) (nt : ∀ xs, H D ≠ some (.tup xs)) (nf : ∀ o u, H D ≠ some (.frz o u)) {σi : IE} {σ : L2.St} (s : SE P φ H σi σ) : SE P φ (upd H D o) σi σ :=
  ⟨s.len, fun i x e => let ⟨v, h1, h2⟩ := s.val i x e; ⟨v, h1, VR.avU m nt nf x v h2⟩⟩
theorem SR.avU {D : Addr} {o : HO} {h : IH} (m : D ∈ P.av) (o1 : ∀ xs, o ≠ .tup xs) (o2 : ∀ o' u, o ≠ .frz o' u) (s : SR P φ H h) (o3 : Stay o ∧ ∀ q, o ≠ LamX.CodeO D q := by first | exact ⟨stay_lst, fun q => lst_ne_code⟩ | exact ⟨stay_dct, fun q => DctO.ne_code⟩) : SR P φ (upd H D o) h := by
  obtain ⟨n1, n2, nt, nf⟩ := s.av D m
  refine ⟨s.len, s.nd, fun a k => ?_, fun n io a e1 e2 => ?_, fun p hp => (s.tab p hp).stay fun b o' e n _ => ⟨(upd_ne fun z => n.2 (by rw [z]; exact m)).trans e, n⟩, tbo_upd o3.1.tbl s.tbo⟩
  · by_cases z : a = D
    · subst z; exact ⟨n1, ⟨o, upd_same, o3.1, o3.2⟩, fun xs q => o1 xs (by rw [upd_same] at q; exact Option.some.inj q), fun o' u q => o2 o' u (by rw [upd_same] at q; exact Option.some.inj q)⟩
    · rw [upd_ne z]; exact s.av a k
  · have ne : a ≠ D := fun z => n1 (by rw [← z]; exact List.mem_of_getElem? e2)
    cases io with
    | lst xs => obtain ⟨vs, h1, h2⟩ := s.obj n _ a e1 e2; exact ⟨vs, (upd_ne ne).trans h1, VRs.avU m nt nf _ _ h2⟩
    | dct ks us => obtain ⟨ob, es, h1, h2, h3, h4⟩ := s.obj n _ a e1 e2; exact ⟨ob, es, (upd_ne ne).trans h1, VRs.avU m nt nf _ _ h2, VRs.avU m nt nf _ _ h3, h4⟩
    | ins c vs => obtain ⟨dx, ws, h1, h2, hn, ⟨od, ho⟩, h3⟩ := s.obj n _ a e1 e2; have nd : dx ≠ D := fun z => h2.2 (by rw [z]; exact m); exact ⟨dx, ws, slAt_stay h1 (fun o q => (upd_ne ne).trans q) (fun q => (upd_ne nd).trans q), h2, hn, ⟨od, (upd_ne nd).trans ho⟩, fun i x e => let ⟨v, e1, r1⟩ := h3 i x e; ⟨v, e1, VR.avU m nt nf x v r1⟩⟩
    | lck ks us => obtain ⟨od, ob, es, h1, h2, h3, h4⟩ := s.obj n _ a e1 e2; exact ⟨od, ob, es, (upd_ne ne).trans h1, VRs.avU m nt nf _ _ h2, VRs.avU m nt nf _ _ h3, h4⟩
    | ktp xs => obtain ⟨ob, vs, h1, h2, h3, h4⟩ := s.obj n _ a e1 e2; exact ⟨ob, vs, (upd_ne ne).trans h1, h2, h3, VRs.avU m nt nf _ _ h4⟩
/-- a new one is under way -/
theorem SR.avN {D : Addr} {o : HO} {h : IH} (hD : H D = none) (o1 : ∀ xs, o ≠ .tup xs) (o2 : ∀ o' u, o ≠ .frz o' u) (s : SR P φ H h) (o3 : Stay o ∧ ∀ q, o ≠ LamX.CodeO D q := by first | exact ⟨stay_lst, fun q => lst_ne_code⟩ | exact ⟨stay_dct, fun q => DctO.ne_code⟩) : SR (P.at (D :: P.av)) φ (upd H D o) h := by
  have ne : ∀ b u, H b = some u → b ≠ D := fun b u e z => by rw [z, hD] at e; cases e
  have ex : Ext φ H φ (upd H D o) := ⟨⟨[], by simp, by simp⟩, fun b u e _ _ => (upd_ne (ne b u e)).trans e, fun b u e => (upd_ne (ne b _ e)).trans e, fun b _ u e => (upd_ne (ne b _ e)).trans e, fun b u e => ⟨u, (upd_ne (ne b u e)).trans e⟩⟩
  have k : ∀ c ∈ D :: P.av, c ∈ P.av ∨ H c = none := fun c m => by
    rcases List.mem_cons.mp m with rfl | m
    · exact .inr hD
    · exact .inl m
  refine ⟨s.len, s.nd, fun a m => ?_, fun n io a e1 e2 => ?_, fun p hp => (s.tab p hp).stay fun b o' e n _ => ⟨(upd_ne (ne b o' e)).trans e, n.1, fun m => (List.mem_cons.mp m).elim (ne b o' e) n.2⟩, tbo_upd o3.1.tbl s.tbo⟩
  · rcases List.mem_cons.mp m with rfl | m
    · exact ⟨(s.fresh hD).1, ⟨o, upd_same, o3.1, o3.2⟩, fun xs q => o1 xs (by rw [upd_same] at q; exact Option.some.inj q), fun o' u q => o2 o' u (by rw [upd_same] at q; exact Option.some.inj q)⟩
    · exact (AvOk.mono s.av ex) a m
  · cases io with
    | lst xs => obtain ⟨vs, h1, h2⟩ := s.obj n _ a e1 e2; exact ⟨vs, (upd_ne (ne a _ h1)).trans h1, VRs.mono ex _ _ (VRs.avI k _ _ h2)⟩
    | dct ks us => obtain ⟨ob, es, h1, h2, h3, h4⟩ := s.obj n _ a e1 e2; exact ⟨ob, es, (upd_ne (ne a _ h1)).trans h1, VRs.mono ex _ _ (VRs.avI k _ _ h2), VRs.mono ex _ _ (VRs.avI k _ _ h3), h4⟩
    | ins c vs => obtain ⟨dx, ws, h1, h2, hn, ⟨od, ho⟩, h3⟩ := s.obj n _ a e1 e2; exact ⟨dx, ws, slAt_stay h1 (fun o q => (upd_ne (ne a o q)).trans q) (fun q => (upd_ne (ne dx _ q)).trans q), ⟨h2.1, fun m => (List.mem_cons.mp m).elim (ne dx _ ho) h2.2⟩, hn, ⟨od, (upd_ne (ne dx _ ho)).trans ho⟩, fun i x e => let ⟨v, e1, r1⟩ := h3 i x e; ⟨v, e1, VR.mono ex _ _ (VR.avI k x v r1)⟩⟩
    | lck ks us => obtain ⟨od, ob, es, h1, h2, h3, h4⟩ := s.obj n _ a e1 e2; exact ⟨od, ob, es, (upd_ne (ne a _ h1)).trans h1, VRs.mono ex _ _ (VRs.avI k _ _ h2), VRs.mono ex _ _ (VRs.avI k _ _ h3), h4⟩
    | ktp xs => obtain ⟨ob, vs, h1, h2, h3, h4⟩ := s.obj n _ a e1 e2; exact ⟨ob, vs, (upd_ne (ne a _ h1)).trans h1, h2, h3, VRs.mono ex _ _ (VRs.avI k _ _ h4)⟩
end
end EV
namespace EV
open PySem PySem.Spec PyProof.Rows L2

/-- an exception: its class (of the module's), its fields -/
structure IX where
  cls : Nat
  fs : List (Str × IV)
inductive Out (α : Type) where
  | ok (a : α) (h : IH)
  | ex (e : IX) (h : IH)
  | no
abbrev M (α : Type) := IH → Out α
def Out.bind {α β : Type} : Out α → (α → M β) → Out β
  | .ok a h, k => k a h
  | .ex e h, _ => .ex e h
  | .no, _ => .no

def FRs (P : Par) (φ : List Addr) (H : Hp) : List (Str × IV) → List (Str × V) → Prop
  | [], vs => vs = []
  | (f, x) :: r, vs => ∃ v t, vs = (f, v) :: t ∧ VR P φ H x v ∧ FRs P φ H r t
structure XR (P : Par) (φ : List Addr) (H : Hp) (e : IX) (c : Value) (d : Option Addr) : Prop where
  cls : c = .ref (P.G e.cls)
  fs : (e.fs = [] ∧ d = none) ∨ ∃ dd vs, d = some dd ∧ Off P φ dd ∧ H dd = some (.xd vs) ∧ FRs P φ H e.fs vs ∧ e.fs ≠ []

section
variable (P : Par) (W : WX)
def Post (σ : L2.St) (φ : List Addr) (H : Hp) (Q : VK) : Out IV → Prop
  | .ok v h' => ∀ φ' H' x, Ext φ H φ' H' → SR P φ' H' h' → VR P φ' H' v x → Q x H'
  | .ex e h' => ∀ φ' H' c d, Ext φ H φ' H' → SR P φ' H' h' → XR P φ' H' e c d → W c d σ H'
  | .no => False
def tE (f : IE → M IV) : TE := fun σ H Q => ∃ φ h σi, SR P φ H h ∧ SE P φ H σi σ ∧ Post P W σ φ H Q (f σi h)
def PostA (σ : L2.St) (φ : List Addr) (H : Hp) (Q : List V → Hp → Prop) : Out (List IV) → Prop
  | .ok v h' => ∀ φ' H' x, Ext φ H φ' H' → SR P φ' H' h' → VRs P φ' H' v x → Q x H'
  | .ex e h' => ∀ φ' H' c d, Ext φ H φ' H' → SR P φ' H' h' → XR P φ' H' e c d → W c d σ H'
  | .no => False
def tAr (f : IE → M (List IV)) : TA := fun σ H Q => ∃ φ h σi, SR P φ H h ∧ SE P φ H σi σ ∧ PostA P W σ φ H Q (f σi h)
def PostB (σ : L2.St) (φ : List Addr) (H : Hp) (Q : Bool → Hp → Prop) : Out Bool → Prop
  | .ok v h' => ∀ φ' H', Ext φ H φ' H' → SR P φ' H' h' → Q v H'
  | .ex e h' => ∀ φ' H' c d, Ext φ H φ' H' → SR P φ' H' h' → XR P φ' H' e c d → W c d σ H'
  | .no => False
def tT (f : IE → M Bool) : TT := fun σ H Q => ∃ φ h σi, SR P φ H h ∧ SE P φ H σi σ ∧ PostB P W σ φ H Q (f σi h)
end
section
variable {P : Par} {W : WX} {σ : L2.St} {φ φ1 : List Addr} {H H1 : Hp} {Q : VK}
theorem Post.ext {o : Out IV} (p : Post P W σ φ H Q o) (e : Ext φ H φ1 H1) : Post P W σ φ1 H1 Q o := by
  cases o with
  | ok v h => exact fun φ' H' x e' => p φ' H' x (e.trans e')
  | ex v h => exact fun φ' H' c d e' => p φ' H' c d (e.trans e')
  | no => exact p
theorem PostA.ext {Q : List V → Hp → Prop} {o : Out (List IV)} (p : PostA P W σ φ H Q o) (e : Ext φ H φ1 H1) : PostA P W σ φ1 H1 Q o := by
  cases o with
  | ok v h => exact fun φ' H' x e' => p φ' H' x (e.trans e')
  | ex v h => exact fun φ' H' c d e' => p φ' H' c d (e.trans e')
  | no => exact p
theorem PostB.ext {Q : Bool → Hp → Prop} {o : Out Bool} (p : PostB P W σ φ H Q o) (e : Ext φ H φ1 H1) : PostB P W σ φ1 H1 Q o := by
  cases o with
  | ok v h => exact fun φ' H' e' => p φ' H' (e.trans e')
  | ex v h => exact fun φ' H' c d e' => p φ' H' c d (e.trans e')
  | no => exact p
/-- one part, then what hangs on its value -/
theorem tE.bind {fa : IE → M IV} {k : IE → IV → M IV} (h : tE P W (fun σ h => (fa σ h).bind (k σ)) σ H Q) :
    tE P W fa σ H fun x H1 => ∃ φ h σi v, SR P φ H1 h ∧ SE P φ H1 σi σ ∧ VR P φ H1 v x ∧ Post P W σ φ H1 Q (k σi v h) := by
  obtain ⟨φ, hp, σi, s, se, p⟩ := h
  refine ⟨φ, hp, σi, s, se, ?_⟩
  cases e : fa σi hp with
  | ok v h1 =>
    simp only [e, Out.bind] at p
    exact fun φ' H' x ex s' r => ⟨φ', h1, σi, v, s', se.mono ex, r, p.ext ex⟩
  | ex v h1 =>
    simp only [e, Out.bind] at p
    exact p
  | no =>
    simp only [e, Out.bind] at p
    exact p
theorem tE.bindA {fa : IE → M (List IV)} {k : IE → List IV → M IV} (h : tE P W (fun σ h => (fa σ h).bind (k σ)) σ H Q) :
    tAr P W fa σ H fun x H1 => ∃ φ h σi v, SR P φ H1 h ∧ SE P φ H1 σi σ ∧ VRs P φ H1 v x ∧ Post P W σ φ H1 Q (k σi v h) := by
  obtain ⟨φ, hp, σi, s, se, p⟩ := h
  refine ⟨φ, hp, σi, s, se, ?_⟩
  cases e : fa σi hp with
  | ok v h1 =>
    simp only [e, Out.bind] at p
    exact fun φ' H' x ex s' r => ⟨φ', h1, σi, v, s', se.mono ex, r, p.ext ex⟩
  | ex v h1 =>
    simp only [e, Out.bind] at p
    exact p
  | no =>
    simp only [e, Out.bind] at p
    exact p
theorem tE.bindT {fa : IE → M Bool} {k : IE → Bool → M IV} (h : tE P W (fun σ h => (fa σ h).bind (k σ)) σ H Q) :
    tT P W fa σ H fun b H1 => ∃ φ h σi, SR P φ H1 h ∧ SE P φ H1 σi σ ∧ Post P W σ φ H1 Q (k σi b h) := by
  obtain ⟨φ, hp, σi, s, se, p⟩ := h
  refine ⟨φ, hp, σi, s, se, ?_⟩
  cases e : fa σi hp with
  | ok v h1 =>
    simp only [e, Out.bind] at p
    exact fun φ' H' ex s' => ⟨φ', h1, σi, s', se.mono ex, p.ext ex⟩
  | ex v h1 =>
    simp only [e, Out.bind] at p
    exact p
  | no =>
    simp only [e, Out.bind] at p
    exact p
theorem tT.bindE {fa : IE → M IV} {k : IE → IV → M Bool} {Q : Bool → Hp → Prop} (h : tT P W (fun σ h => (fa σ h).bind (k σ)) σ H Q) :
    tE P W fa σ H fun x H1 => ∃ φ h σi v, SR P φ H1 h ∧ SE P φ H1 σi σ ∧ VR P φ H1 v x ∧ PostB P W σ φ H1 Q (k σi v h) := by
  obtain ⟨φ, hp, σi, s, se, p⟩ := h
  refine ⟨φ, hp, σi, s, se, ?_⟩
  cases e : fa σi hp with
  | ok v h1 =>
    simp only [e, Out.bind] at p
    exact fun φ' H' x ex s' r => ⟨φ', h1, σi, v, s', se.mono ex, r, p.ext ex⟩
  | ex v h1 =>
    simp only [e, Out.bind] at p
    exact p
  | no =>
    simp only [e, Out.bind] at p
    exact p
theorem tT.bindT {fa : IE → M Bool} {k : IE → Bool → M Bool} {Q : Bool → Hp → Prop} (h : tT P W (fun σ h => (fa σ h).bind (k σ)) σ H Q) :
    tT P W fa σ H fun b H1 => ∃ φ h σi, SR P φ H1 h ∧ SE P φ H1 σi σ ∧ PostB P W σ φ H1 Q (k σi b h) := by
  obtain ⟨φ, hp, σi, s, se, p⟩ := h
  refine ⟨φ, hp, σi, s, se, ?_⟩
  cases e : fa σi hp with
  | ok v h1 =>
    simp only [e, Out.bind] at p
    exact fun φ' H' ex s' => ⟨φ', h1, σi, s', se.mono ex, p.ext ex⟩
  | ex v h1 =>
    simp only [e, Out.bind] at p
    exact p
  | no =>
    simp only [e, Out.bind] at p
    exact p
theorem tAr.bindE {fa : IE → M IV} {k : IE → IV → M (List IV)} {Q : List V → Hp → Prop} (h : tAr P W (fun σ h => (fa σ h).bind (k σ)) σ H Q) :
    tE P W fa σ H fun x H1 => ∃ φ h σi v, SR P φ H1 h ∧ SE P φ H1 σi σ ∧ VR P φ H1 v x ∧ PostA P W σ φ H1 Q (k σi v h) := by
  obtain ⟨φ, hp, σi, s, se, p⟩ := h
  refine ⟨φ, hp, σi, s, se, ?_⟩
  cases e : fa σi hp with
  | ok v h1 =>
    simp only [e, Out.bind] at p
    exact fun φ' H' x ex s' r => ⟨φ', h1, σi, v, s', se.mono ex, r, p.ext ex⟩
  | ex v h1 =>
    simp only [e, Out.bind] at p
    exact p
  | no =>
    simp only [e, Out.bind] at p
    exact p
/-- from a state on -/
theorem tE.of {f : IE → M IV} {h : IH} {σi : IE} (s : SR P φ H h) (se : SE P φ H σi σ) (p : Post P W σ φ H Q (f σi h)) : tE P W f σ H Q := ⟨φ, h, σi, s, se, p⟩
theorem Post.ret {v : IV} {h : IH} {x : V} (p : Post P W σ φ H Q (.ok v h)) (s : SR P φ H h) (r : VR P φ H v x) : Q x H := p φ H x (Ext.refl _ _) s r
theorem PostB.ret {b : Bool} {h : IH} {Q : Bool → Hp → Prop} (p : PostB P W σ φ H Q (.ok b h)) (s : SR P φ H h) : Q b H := p φ H (Ext.refl _ _) s
theorem PostA.ret {v : List IV} {h : IH} {x : List V} {Q : List V → Hp → Prop} (p : PostA P W σ φ H Q (.ok v h)) (s : SR P φ H h) (r : VRs P φ H v x) : Q x H := p φ H x (Ext.refl _ _) s r
end

/-- weaken a reading -/
theorem PE.weak {X : Cx} {e : Expr} {t t' : TE} (h : PE X e t) (k : ∀ σ H Q, t' σ H Q → t σ H Q) : PE X e t' := ⟨fun pins s σ H Q I hw => h.run pins s σ H Q I (k σ H Q hw)⟩
theorem PT.weak {X : Cx} {e : Expr} {t t' : TT} (h : PT X e t) (k : ∀ σ H Q, t' σ H Q → t σ H Q) : PT X e t' := ⟨fun pins s σ H Q I hw => h.run pins s σ H Q I (k σ H Q hw)⟩
theorem PA.weak {X : Cx} {e : List Expr} {t t' : TA} (h : PA X e t) (k : ∀ σ H Q, t' σ H Q → t σ H Q) : PA X e t' := ⟨fun pos pins s σ H Q I hw => h.run pos pins s σ H Q I (k σ H Q hw)⟩
theorem PS.weak {X : Cx} {e : Stmt} {t t' : TS} (h : PS X e t) (k : ∀ D σ H, t' D σ H → t D σ H) : PS X e t' := ⟨fun pins s σ H D I hw => h.run pins s σ H D I (k D σ H hw)⟩
theorem PSs.weak {X : Cx} {e : List Stmt} {t t' : TS} (h : PSs X e t) (k : ∀ D σ H, t' D σ H → t D σ H) : PSs X e t' := ⟨fun pins s σ H D I hw => h.run pins s σ H D I (k D σ H hw)⟩
end EV
namespace EV
open PySem PySem.Spec PyProof.Rows L2

section
variable {X : Cx} {P : Par} {W : WX} {a b c : Expr} {fa fb fc : IE → M IV} {pos : Pos}
def varE (i : Nat) : IE → M IV := fun σ h => match σ[i]? with
  | some (some v) => .ok v h
  | _ => .no
def cstE (v : IV) : IE → M IV := fun _ h => .ok v h
theorem pe_varI {i : Nat} {x : Str} (h : PE X (.Name x pos) (tVar i)) : PE X (.Name x pos) (tE P W (varE i)) := PE.weak h fun σ H Q hq => by
  obtain ⟨φ, h, σi, s, se, p⟩ := hq
  unfold varE at p
  split at p
  · rename_i v e
    obtain ⟨u, e1, r⟩ := se.val i v e
    exact ⟨u, e1, p.ret s r⟩
  · exact p.elim
theorem pe_cstI {v : IV} {u : V} {e : Expr} (h : PE X e (tC u)) (r : ∀ φ H, VR P φ H v u) : PE X e (tE P W (cstE v)) := PE.weak h fun σ H Q hq => by
  obtain ⟨φ, h, σi, s, se, p⟩ := hq
  exact p.ret s (r φ H)

abbrev G2 := IV → IV → M IV
def rG (P : Par) (W : WX) (g : G2) : R2 := fun x y H Q => ∃ φ h σ va vb, SR P φ H h ∧ VR P φ H va x ∧ VR P φ H vb y ∧ Post P W σ φ H Q (g va vb h)
def binE (g : G2) (fa fb : IE → M IV) : IE → M IV := fun σ h => (fa σ h).bind fun va h => (fb σ h).bind fun vb h => g va vb h
theorem tOp_of {g : G2} {σ : L2.St} {H : Hp} {Q : VK} (hq : tE P W (binE g fa fb) σ H Q) : tOp (rG P W g) (tE P W fa) (tE P W fb) σ H Q := by
  have q1 := tE.bind (k := fun σ va h => (fb σ h).bind fun vb h => g va vb h) hq
  obtain ⟨φ, h, σi, s, se, p⟩ := q1
  refine ⟨φ, h, σi, s, se, ?_⟩
  cases e : fa σi h with
  | ok v h1 =>
    rw [e] at p
    intro φ1 H1 x ex s1 r1
    obtain ⟨φ2, h2, σ2, v2, s2, se2, r2, p2⟩ := p φ1 H1 x ex s1 r1
    refine ⟨φ2, h2, σ2, s2, se2, ?_⟩
    cases e2 : fb σ2 h2 with
    | ok u h3 =>
      rw [e2] at p2
      exact fun φ3 H3 y ex3 s3 r3 => ⟨φ3, h3, σ, v2, u, s3, r2.mono ex3, r3, Post.ext p2 ex3⟩
    | ex u h3 => rw [e2] at p2; exact p2
    | no => rw [e2] at p2; exact p2
  | ex v h1 => rw [e] at p; exact p
  | no => rw [e] at p; exact p
theorem pe_binI {op : Operator} {g : G2} (ho : OpR X (binaryOp op) (rG P W g)) (ha : PE X a (tE P W fa)) (hb : PE X b (tE P W fb)) : PE X (.BinOp a op b pos) (tE P W (binE g fa fb)) :=
  PE.weak (pe_op ho ha hb) fun _ _ _ hq => tOp_of hq
theorem pe_cmpI {op : CmpOp} {g : G2} (ho : OpR X (compareOp op) (rG P W g)) (ha : PE X a (tE P W fa)) (hb : PE X b (tE P W fb)) (hm : behindInMarks op b = false) : PE X (.Compare a [op] [b] pos) (tE P W (binE g fa fb)) :=
  PE.weak (pe_cmpR ho ha hb hm) fun _ _ _ hq => tOp_of hq

theorem OpR.weak {f : Value → Value → Sem Value} {r r' : R2} (h : OpR X f r) (k : ∀ x y H Q, r' x y H Q → r x y H Q) : OpR X f r' :=
  fun pins s σ H x y v u Q I rx ry q => h pins s σ H x y v u Q I rx ry (k x y H Q q)

/-- a new object at p -/
theorem SR.push {φ : List Addr} {H : Hp} {h : IH} (s : SR P φ H h) {p : Addr} (hp : H p = none) {o : HO} {io : IO} (he : Ext φ H (φ ++ [p]) (upd H p o)) (r : OR P (φ ++ [p]) (upd H p o) p io) (mo : ∀ (n : Nat) (io : IO) (a : Addr), h[n]? = some io → φ[n]? = some a → OR P (φ ++ [p]) (upd H p o) a io) (nt : ∀ ps, o ≠ .tbl ps := by first | (intro ps z; cases z; done) | exact fun ps => DctO.ne_tbl | assumption) :
    SR P (φ ++ [p]) (upd H p o) (h ++ [io]) := by
  refine ⟨by simp [s.len], ?_, s.av.mono he, fun n o' a e1 e2 => ?_, fun q hq => (s.tab q hq).stay fun b u e n' _ => ?_, tbo_upd nt s.tbo⟩
  · refine List.nodup_append.mpr ⟨s.nd, by simp, fun a ha b hb e => ?_⟩
    simp at hb; subst hb; subst e
    obtain ⟨o, ho⟩ := (s.nottup ha).1
    rw [hp] at ho; cases ho
  · by_cases hn : n < h.length
    · rw [List.getElem?_append_left hn] at e1
      rw [List.getElem?_append_left (by rw [s.len]; exact hn)] at e2
      exact mo n o' a e1 e2
    · have hn' : n = h.length := by
        have := (List.getElem?_eq_some_iff.mp e1).1
        simp at this; omega
      subst hn'
      simp at e1
      rw [← s.len] at e2
      simp at e2
      subst e1 e2
      exact r
  · have ne : b ≠ p := fun z => by rw [z, hp] at e; cases e
    refine ⟨(upd_ne ne).trans e, fun m => ?_, n'.2⟩
    rcases List.mem_append.mp m with m | m
    · exact n'.1 m
    · exact ne (by simpa using m)
theorem Ext.new {φ : List Addr} {H : Hp} {p : Addr} {o : HO} (hp : H p = none) : Ext φ H φ (upd H p o) := by
  have ne : ∀ b u, H b = some u → b ≠ p := fun b u e z => by rw [z, hp] at e; cases e
  exact ⟨⟨[], by simp, by simp⟩, fun b u e _ _ => (upd_ne (ne b u e)).trans e, fun b u e => (upd_ne (ne b _ e)).trans e, fun b _ u e => (upd_ne (ne b _ e)).trans e, fun b u e => ⟨u, (upd_ne (ne b u e)).trans e⟩⟩
theorem Ext.newA {φ : List Addr} {H : Hp} {p : Addr} {o : HO} (hp : H p = none) : Ext φ H (φ ++ [p]) (upd H p o) := by
  obtain ⟨_, k, t, f, th⟩ := Ext.new (φ := φ) (o := o) hp
  exact ⟨⟨[p], rfl, by simpa using hp⟩, fun b o h n nt => k b o h n nt, t, f, th⟩
theorem OR.keep {φ φ' : List Addr} {H H' : Hp} {a : Addr} (e : Ext φ H φ' H') (k : ∀ o, H a = some o → H' a = some o) : ∀ {io : IO}, OR P φ H a io → OR P φ' H' a io
  | .lst xs, ⟨vs, h1, h2⟩ => ⟨vs, k _ h1, h2.mono e⟩
  | .dct ks us, ⟨o, es, h1, h2, h3, h4⟩ => ⟨o, es, k _ h1, h2.mono e, h3.mono e, h4⟩
  | .ins c vs, ⟨dx, ws, h1, h2, hn, ⟨od, ho⟩, h3⟩ => ⟨dx, ws, slAt_stay h1 k fun q => e.keep _ _ q h2.1, e.off ho h2, hn, e.there _ _ ho, fun i x q => let ⟨v, e1, r1⟩ := h3 i x q; ⟨v, e1, r1.mono e⟩⟩
  | .lck ks us, ⟨od, o, es, h1, h2, h3, h4⟩ => ⟨od, o, es, k _ h1, h2.mono e, h3.mono e, h4⟩
  | .ktp xs, ⟨o, vs, h1, h2, h3, h4⟩ => ⟨o, vs, k _ h1, h2, h3, h4.mono e⟩
theorem SR.untold {φ : List Addr} {H : Hp} {h : IH} (s : SR P φ H h) {p : Addr} (hp : H p = none) {o : HO} (nt : ∀ ps, o ≠ .tbl ps := by first | (intro ps z; cases z; done) | exact fun ps => DctO.ne_tbl | assumption) : SR P φ (upd H p o) h := by
  have ex := Ext.new (φ := φ) (o := o) hp
  exact ⟨s.len, s.nd, s.av.mono ex, fun n io a e1 e2 => OR.keep ex (fun u q => (upd_ne (fun z => by rw [z, hp] at q; cases q)).trans q) (s.obj n io a e1 e2), fun q hq => (s.tab q hq).stay fun b u e n' _ => ⟨(upd_ne (fun z => by rw [z, hp] at e; cases e)).trans e, n'⟩, tbo_upd nt s.tbo⟩
theorem SR.told {φ : List Addr} {H : Hp} {h : IH} (s : SR P φ H h) {p : Addr} (hp : H p = none) {o : HO} {io : IO} (r : OR P (φ ++ [p]) (upd H p o) p io) (nt : ∀ ps, o ≠ .tbl ps := by first | (intro ps z; cases z; done) | exact fun ps => DctO.ne_tbl | assumption) : SR P (φ ++ [p]) (upd H p o) (h ++ [io]) :=
  s.push hp (Ext.newA hp) r fun n io a e1 e2 => OR.keep (Ext.newA hp) (fun u q => (upd_ne (fun z => by rw [z, hp] at q; cases q)).trans q) (s.obj n io a e1 e2)
/-- what is wanted, with a new tuple -/
theorem Post.newTup {σ : L2.St} {φ : List Addr} {H : Hp} {h : IH} {Q : VK} {xs : List IV} {vs : List V} (p : Post P W σ φ H Q (.ok (.tup xs) h)) (s : SR P φ H h) (r : VRs P φ H xs vs) {t : Addr} (ht : H t = none) : Q (.ref t) (upd H t (.tup vs)) := by
  refine p φ _ _ (Ext.new ht) (s.untold ht) ?_
  rw [VR]
  exact ⟨t, vs, rfl, .of upd_same, r.mono (Ext.new ht)⟩
/-- what is wanted, with a new list that is left as it is -/
theorem Post.newLst {σ : L2.St} {φ : List Addr} {H : Hp} {h : IH} {Q : VK} {xs : List IV} {vs : List V} (p : Post P W σ φ H Q (.ok (.lst xs) h)) (s : SR P φ H h) (r : VRs P φ H xs vs) {t : Addr} (ht : H t = none) : Q (.ref t) (upd H t (.lst vs)) := by
  refine p φ _ _ (Ext.new ht) (s.untold ht) ?_
  rw [VR]
  exact ⟨t, vs, rfl, upd_same, s.fresh ht, r.mono (Ext.new ht)⟩
/-- .. that may change -/
theorem Post.newRef {σ : L2.St} {φ : List Addr} {H : Hp} {h : IH} {Q : VK} {xs : List IV} {vs : List V} (p : Post P W σ φ H Q (.ok (.ref h.length) (h ++ [.lst xs]))) (s : SR P φ H h) (r : VRs P φ H xs vs) {t : Addr} (ht : H t = none) : Q (.ref t) (upd H t (.lst vs)) := by
  refine p (φ ++ [t]) _ _ (Ext.newA ht) (s.told ht ⟨vs, upd_same, r.mono (Ext.newA ht)⟩) ?_
  rw [VR]
  exact ⟨t, by rw [← s.len]; simp, rfl⟩
theorem VR.tupI {φ : List Addr} {H : Hp} {xs : List IV} {v : V} (r : VR P φ H (.tup xs) v) : ∃ a vs, v = .ref a ∧ SqT P.K H a vs ∧ VRs P φ H xs vs := by rw [VR] at r; exact r
theorem SR.lst {φ : List Addr} {H : Hp} {h : IH} (s : SR P φ H h) {n : Nat} {xs : List IV} {v : V} (r : VR P φ H (.ref n) v) (e : h[n]? = some (.lst xs)) : ∃ a vs, φ[n]? = some a ∧ v = .ref a ∧ H a = some (.lst vs) ∧ VRs P φ H xs vs := by
  rw [VR] at r
  obtain ⟨a, h1, h2⟩ := r
  obtain ⟨vs, h3, h4⟩ := s.obj n _ a e h1
  exact ⟨a, vs, h1, h2, h3, h4⟩
/-- a list: made here -/
def lsO (h : IH) : IV → Option (List IV)
  | .lst xs => some xs
  | .ref n => match h[n]? with
    | some (.lst xs) => some xs
    | _ => none
  | _ => none
/-- .. or any other -/
def lsR (h : IH) : IV → Option (List IV)
  | .scr xs => some xs
  | v => lsO h v
theorem SR.lsO {φ : List Addr} {H : Hp} {h : IH} (s : SR P φ H h) {x : IV} {xs : List IV} {v : V} (r : VR P φ H x v) (e : lsO h x = some xs) : ∃ a vs, v = .ref a ∧ H a = some (.lst vs) ∧ VRs P φ H xs vs := by
  cases x with
  | lst ys =>
    simp only [EV.lsO] at e; cases e
    rw [VR] at r
    obtain ⟨a, vs, h1, h2, _, h3⟩ := r
    exact ⟨a, vs, h1, h2, h3⟩
  | ref n =>
    simp only [EV.lsO] at e
    split at e
    · rename_i q; cases e
      obtain ⟨a, vs, _, h1, h2, h3⟩ := s.lst r q
      exact ⟨a, vs, h1, h2, h3⟩
    · cases e
  | _ => simp only [EV.lsO] at e; cases e
theorem SR.lsR {φ : List Addr} {H : Hp} {h : IH} (s : SR P φ H h) {x : IV} {xs : List IV} {v : V} (r : VR P φ H x v) (e : lsR h x = some xs) : ∃ a vs, v = .ref a ∧ SqL P.K H a vs ∧ VRs P φ H xs vs := by
  have go : EV.lsO h x = some xs → ∃ a vs, v = .ref a ∧ SqL P.K H a vs ∧ VRs P φ H xs vs := fun e => by
    obtain ⟨a, vs, h1, h2, h3⟩ := s.lsO r e
    exact ⟨a, vs, h1, .of h2, h3⟩
  cases x with
  | scr ys =>
    simp only [EV.lsR] at e; cases e
    rw [VR] at r
    obtain ⟨a, vs, h1, h2, h3⟩ := r
    exact ⟨a, vs, h1, h2.sqL, h3⟩
  | _ => exact go e

/-- the sum, the joining -/
def addI : G2 := fun x y h => match x, y with
  | .int a, .int b => .ok (.int (a + b)) h
  | .str a, .str b => if a.length + b.length ≤ sizeLine then .ok (.str (a ++ b)) h else .no
  | .tup xs, .tup ys => if xs.length + ys.length ≤ sizeLine then .ok (.tup (xs ++ ys)) h else .no
  | x, y => match lsO h x, lsO h y with
    | some xs, some ys => if xs.length + ys.length ≤ sizeLine then .ok (.lst (xs ++ ys)) h else .no
    | _, _ => .no
theorem nil_of {φ : List Addr} {H : Hp} {xs : List IV} (r : VRs P φ H xs []) : xs = [] := by
  have := r.length
  exact List.length_eq_zero_iff.mp this.symm
theorem op_addI (hK : X.K = P.K) : OpR X (binaryOp .Add) (rG P W addI) := by
  have R := (op_add (X := X)).or ((op_add_str (X := X)).or ((op_catA (X := X)).or (op_cat (X := X))))
  refine OpR.weak R fun x y H Q q => ?_
  obtain ⟨φ, h, σ, va, vb, s, ra, rb, p⟩ := q
  unfold addI at p
  split at p
  · rw [VR] at ra rb; subst ra rb
    exact .inl ⟨_, _, rfl, rfl, p.ret s (by rw [VR])⟩
  · rw [VR] at ra rb; subst ra rb
    split at p
    · rename_i z
      exact .inr (.inl ⟨_, _, rfl, rfl, z, p.ret s (by rw [VR])⟩)
    · exact p.elim
  · obtain ⟨a, vs, rfl, h1, r1⟩ := ra.tupI
    obtain ⟨b, us, rfl, h2, r2⟩ := rb.tupI
    split at p
    · rename_i z
      refine .inr (.inr (.inl ⟨a, b, vs, us, rfl, rfl, by rw [hK]; exact h1, by rw [hK]; exact h2, by rw [r1.length, r2.length]; exact z, fun e => ?_, fun e e2 => ?_, fun e e2 t ht => p.newTup s (r1.append r2) ht⟩))
      · subst e
        have z := nil_of r1; subst z
        exact p.ret s (by simpa using rb)
      · subst e2
        have z := nil_of r2; subst z
        exact p.ret s (by simpa using ra)
    · exact p.elim
  · split at p
    · rename_i xs ys e1 e2
      split at p
      · rename_i z
        obtain ⟨a, vs, rfl, h1, r1⟩ := s.lsO ra e1
        obtain ⟨b, us, rfl, h2, r2⟩ := s.lsO rb e2
        exact .inr (.inr (.inr ⟨a, b, vs, us, rfl, rfl, h1, h2, by rw [r1.length, r2.length]; exact z, fun t ht => p.newLst s (r1.append r2) ht⟩))
      · exact p.elim
    · exact p.elim
end
end EV
namespace EV
open PySem PySem.Spec PyProof.Rows L2

def mapO {α β : Type} (f : α → Option β) : List α → Option (List β)
  | [] => some []
  | x :: xs => match f x with
    | some y => match mapO f xs with
      | some ys => some (y :: ys)
      | none => none
    | none => none
theorem mapO_cons {α β : Type} {f : α → Option β} {x : α} {xs : List α} {z : List β} (h : mapO f (x :: xs) = some z) : ∃ y ys, f x = some y ∧ mapO f xs = some ys ∧ z = y :: ys := by
  unfold mapO at h
  split at h
  · split at h
    · cases h; exact ⟨_, _, by assumption, by assumption, rfl⟩
    · cases h
  · cases h
/-- the plain datum that a value is, to a depth -/
def dat (h : IH) : Nat → IV → Option PyData
  | _, .non => some .none
  | _, .bl b => some (.bool b)
  | _, .int i => some (.int i)
  | _, .str x => if PyData.strOk x = true then some (.str x) else none
  | n + 1, .tup xs => match mapO (dat h n) xs with
    | some ys => some (.tuple ys)
    | none => none
  | n + 1, .lst xs => match mapO (dat h n) xs with
    | some ys => some (.list ys)
    | none => none
  | n + 1, .scr xs => match mapO (dat h n) xs with
    | some ys => some (.list ys)
    | none => none
  | n + 1, .ref m => match h[m]? with
    | some (.lst xs) => match mapO (dat h n) xs with
      | some ys => some (.list ys)
      | none => none
    | _ => none
  | _, _ => none

theorem datAll_ok {n : Nat} {f : IV → Option PyData} (hf : ∀ x d, f x = some d → d.canLay0 = true ∧ d.depth ≤ n) : ∀ {xs : List IV} {ds : List PyData}, mapO f xs = some ds → PyData.canLayAll0 ds = true ∧ PyData.depthAll ds ≤ n
  | [], _, h => by simp only [mapO] at h; cases h; exact ⟨by simp [PyData.canLayAll0], by simp [PyData.depthAll]⟩
  | x :: xs, _, h => by
    obtain ⟨y, ys, h1, h2, rfl⟩ := mapO_cons h
    have a := hf x y h1
    have b := datAll_ok hf h2
    exact ⟨by simp [PyData.canLayAll0, a.1, b.1], by simp only [PyData.depthAll]; omega⟩
theorem dat_ok {h : IH} : ∀ (n : Nat) (x : IV) (d : PyData), dat h n x = some d → d.canLay0 = true ∧ d.depth ≤ n
  | n, .non, d, e => by cases n <;> (simp only [dat] at e; cases e; exact ⟨by simp [PyData.canLay0], by simp [PyData.depth]⟩)
  | n, .bl b, d, e => by cases n <;> (simp only [dat] at e; cases e; exact ⟨by simp [PyData.canLay0], by simp [PyData.depth]⟩)
  | n, .int b, d, e => by cases n <;> (simp only [dat] at e; cases e; exact ⟨by simp [PyData.canLay0], by simp [PyData.depth]⟩)
  | n, .str b, d, e => by
    cases n <;> (
      simp only [dat] at e
      split at e
      · rename_i z; cases e; exact ⟨by simpa [PyData.canLay0] using z, by simp [PyData.depth]⟩
      · cases e)
  | 0, .tup _, _, e => by simp [dat] at e
  | 0, .lst _, _, e => by simp [dat] at e
  | 0, .scr _, _, e => by simp [dat] at e
  | n, .dct _ _, _, e => by cases n <;> simp [dat] at e
  | n + 1, .lst xs, d, e => by
    simp only [dat] at e
    split at e
    · rename_i ys z; cases e
      have a := datAll_ok (fun x d q => dat_ok n x d q) z
      exact ⟨by simp [PyData.canLay0, a.1], by simp only [PyData.depth]; omega⟩
    · cases e
  | n + 1, .scr xs, d, e => by
    simp only [dat] at e
    split at e
    · rename_i ys z; cases e
      have a := datAll_ok (fun x d q => dat_ok n x d q) z
      exact ⟨by simp [PyData.canLay0, a.1], by simp only [PyData.depth]; omega⟩
    · cases e
  | 0, .ref _, _, e => by simp [dat] at e
  | n, .ty _, _, e => by cases n <;> simp [dat] at e
  | n, .glo _, _, e => by cases n <;> simp [dat] at e
  | n, .exc .., _, e => by cases n <;> simp [dat] at e
  | n, .fn .., _, e => by cases n <;> simp [dat] at e
  | n + 1, .tup xs, d, e => by
    simp only [dat] at e
    split at e
    · rename_i ys z; cases e
      have a := datAll_ok (fun x d q => dat_ok n x d q) z
      exact ⟨by simp [PyData.canLay0, a.1], by simp only [PyData.depth]; omega⟩
    · cases e
  | n + 1, .ref m, d, e => by
    simp only [dat] at e
    split at e
    · split at e
      · rename_i ys z; cases e
        have a := datAll_ok (fun x d q => dat_ok n x d q) z
        exact ⟨by simp [PyData.canLay0, a.1], by simp only [PyData.depth]; omega⟩
      · cases e
    · cases e
section
variable {P : Par} {φ : List Addr} {H : Hp} {h : IH}
theorem datAll_Dp {f : IV → Option PyData} (hf : ∀ x d v, f x = some d → VR P φ H x v → Dp P.K H v d) : ∀ {xs : List IV} {ds : List PyData} {vs : List V}, mapO f xs = some ds → VRs P φ H xs vs → DpAll P.K H vs ds
  | [], _, _, e, r => by simp only [mapO] at e; cases e; rw [VRs] at r; subst r; exact .nil
  | x :: xs, _, _, e, r => by
    obtain ⟨y, ys, h1, h2, rfl⟩ := mapO_cons e
    rw [VRs] at r
    obtain ⟨v, t, rfl, r1, r2⟩ := r
    exact .cons (hf x y v h1 r1) (datAll_Dp hf h2 r2)
theorem dat_Dp (s : SR P φ H h) : ∀ (n : Nat) (x : IV) (d : PyData) (v : V), dat h n x = some d → VR P φ H x v → Dp P.K H v d
  | n, .non, d, v, e, r => by cases n <;> (simp only [dat] at e; cases e; rw [VR] at r; subst r; exact .non)
  | n, .bl b, d, v, e, r => by cases n <;> (simp only [dat] at e; cases e; rw [VR] at r; subst r; exact .bl b)
  | n, .int b, d, v, e, r => by cases n <;> (simp only [dat] at e; cases e; rw [VR] at r; subst r; exact .int b)
  | n, .str b, d, v, e, r => by
    cases n <;> (
      simp only [dat] at e
      split at e
      · cases e; rw [VR] at r; subst r; exact .str b
      · cases e)
  | 0, .tup _, _, _, e, _ => by simp [dat] at e
  | 0, .lst _, _, _, e, _ => by simp [dat] at e
  | 0, .scr _, _, _, e, _ => by simp [dat] at e
  | n, .dct _ _, _, _, e, _ => by cases n <;> simp [dat] at e
  | n + 1, .lst xs, d, v, e, r => by
    simp only [dat] at e
    split at e
    · rename_i ys z; cases e
      obtain ⟨a, vs, rfl, h1, r1⟩ := s.lsR r (xs := xs) rfl
      exact .lst h1 (datAll_Dp (fun x d v q k => dat_Dp s n x d v q k) z r1)
    · cases e
  | n + 1, .scr xs, d, v, e, r => by
    simp only [dat] at e
    split at e
    · rename_i ys z; cases e
      obtain ⟨a, vs, rfl, h1, r1⟩ := s.lsR r (xs := xs) rfl
      exact .lst h1 (datAll_Dp (fun x d v q k => dat_Dp s n x d v q k) z r1)
    · cases e
  | 0, .ref _, _, _, e, _ => by simp [dat] at e
  | n, .ty _, _, _, e, _ => by cases n <;> simp [dat] at e
  | n, .glo _, _, _, e, _ => by cases n <;> simp [dat] at e
  | n, .exc .., _, _, e, _ => by cases n <;> simp [dat] at e
  | n, .fn .., _, _, e, _ => by cases n <;> simp [dat] at e
  | n + 1, .tup xs, d, v, e, r => by
    simp only [dat] at e
    split at e
    · rename_i ys z; cases e
      obtain ⟨a, vs, rfl, h1, r1⟩ := r.tupI
      exact .tup h1 (datAll_Dp (fun x d v q k => dat_Dp s n x d v q k) z r1)
    · cases e
  | n + 1, .ref m, d, v, e, r => by
    simp only [dat] at e
    split at e
    · rename_i xs hl
      split at e
      · rename_i ys z; cases e
        obtain ⟨a, vs, _, rfl, h1, r1⟩ := s.lst r hl
        exact .lst (.of h1) (datAll_Dp (fun x d v q k => dat_Dp s n x d v q k) z r1)
      · cases e
    · cases e
end
abbrev DEEP : Nat := 12

def eqD (h : IH) (x y : IV) : Option Bool := match dat h DEEP x, dat h DEEP y with
  | some d, some e => some (PyData.eqv d e)
  | _, _ => none
def eqI : G2 := fun x y h => match eqD h x y with
  | some b => .ok (.bl b) h
  | none => .no
def neI : G2 := fun x y h => match eqD h x y with
  | some b => .ok (.bl (!b)) h
  | none => .no
section
variable {X : Cx} {P : Par} {W : WX}
theorem eqD_some {h : IH} {x y : IV} {b : Bool} (e : eqD h x y = some b) : ∃ d d', dat h DEEP x = some d ∧ dat h DEEP y = some d' ∧ b = PyData.eqv d d' := by
  unfold eqD at e
  split at e
  · cases e; exact ⟨_, _, by assumption, by assumption, rfl⟩
  · cases e
theorem shaped_dat {h : IH} {x : IV} {d : PyData} (e : dat h DEEP x = some d) : SeqAt.shaped d = true := by
  have := dat_ok DEEP x d e
  unfold SeqAt.shaped
  rw [this.1, decide_eq_true (Nat.le_trans this.2 (by decide))]
  rfl
theorem op_eqI (hK : X.K = P.K) (hu : X.A.units + 64 < cLine) : OpR X (compareOp .Eq) (rG P W eqI) := OpR.weak (op_eqD hu) fun x y H Q q => by
  obtain ⟨φ, h, σ, va, vb, s, ra, rb, p⟩ := q
  unfold eqI at p
  split at p
  · rename_i b e
    obtain ⟨d, d', e1, e2, rfl⟩ := eqD_some e
    exact ⟨d, d', by rw [hK]; exact dat_Dp s _ _ _ _ e1 ra, by rw [hK]; exact dat_Dp s _ _ _ _ e2 rb, shaped_dat e1, shaped_dat e2, p.ret s (by rw [VR])⟩
  · exact p.elim
theorem op_neI (hK : X.K = P.K) (hu : X.A.units + 64 < cLine) : OpR X (compareOp .NotEq) (rG P W neI) := OpR.weak (op_neD hu) fun x y H Q q => by
  obtain ⟨φ, h, σ, va, vb, s, ra, rb, p⟩ := q
  unfold neI at p
  split at p
  · rename_i b e
    obtain ⟨d, d', e1, e2, rfl⟩ := eqD_some e
    exact ⟨d, d', by rw [hK]; exact dat_Dp s _ _ _ _ e1 ra, by rw [hK]; exact dat_Dp s _ _ _ _ e2 rb, shaped_dat e1, shaped_dat e2, p.ret s (by rw [VR])⟩
  · exact p.elim
end

/-- an order's answer on two numbers -/
def ordI : CmpOp → Int → Int → Option Bool
  | .Lt, a, b => some (decide (a < b))
  | .LtE, a, b => some (decide (a ≤ b))
  | .Gt, a, b => some (decide (b < a))
  | .GtE, a, b => some (decide (b ≤ a))
  | _, _, _ => none
def ordN (op : CmpOp) (a b : Nat) : Option Bool := ordI op a b
mutual
/-- Python's order of plain data (tuples: all common places must be comparable) -/
def cmpD (op : CmpOp) : PyData → PyData → Option Bool
  | .int a, .int b => ordI op a b
  | .str a, .str b => match op with
    | .Lt => some (decide (a.cps.toList < b.cps.toList))
    | _ => none
  | .tuple xs, .tuple ys => cmpDs op xs ys
  | _, _ => none
def cmpDs (op : CmpOp) : List PyData → List PyData → Option Bool
  | [], ys => ordN op 0 ys.length
  | x :: xs, [] => ordN op (xs.length + 1) 0
  | x :: xs, y :: ys => match cmpDs op xs ys with
    | some r => if PyData.eqv x y = true then some r else cmpD op x y
    | none => none
end
section
open SeqAt
/-- what the j-th places give -/
def atD (op : CmpOp) (xs ys : List PyData) (j : Nat) : Bool := match xs[j]?, ys[j]? with
  | some x, some y => (cmpD op x y).getD false
  | _, _ => false
theorem lex_shift {e r : Nat → Bool} {z : Bool} : ∀ (k i : Nat), Ob.lexAt e r z (i + 1) k = Ob.lexAt (fun j => e (j + 1)) (fun j => r (j + 1)) z i k
  | 0, _ => rfl
  | k + 1, i => by rw [Ob.lexAt_succ, Ob.lexAt_succ, lex_shift k (i + 1)]
theorem cmpDs_lex {op : CmpOp} : ∀ {xs ys : List PyData} {b : Bool}, cmpDs op xs ys = some b →
    ∃ z, ordN op xs.length ys.length = some z ∧ b = Ob.lexAt (pairEq xs ys) (atD op xs ys) z 0 (min xs.length ys.length) ∧ ∀ (j : Nat) (x y : PyData), xs[j]? = some x → ys[j]? = some y → PyData.eqv x y = false → ∃ c, cmpD op x y = some c
  | [], ys, b, h => by
    simp only [cmpDs] at h
    refine ⟨b, by simpa using h, ?_, fun j x y h1 => by simp at h1⟩
    simp [Ob.lexAt_zero]
  | x :: xs, [], b, h => by
    simp only [cmpDs] at h
    refine ⟨b, by simpa using h, ?_, fun j x y _ h1 => by simp at h1⟩
    simp [Ob.lexAt_zero]
  | x :: xs, y :: ys, b, h => by
    simp only [cmpDs] at h
    split at h
    · rename_i r hr
      obtain ⟨z, h1, h2, h3⟩ := cmpDs_lex hr
      have hz : ordN op (x :: xs).length (y :: ys).length = some z := by
        have e1 : decide (((xs.length : Nat) : Int) + 1 < (ys.length : Nat) + 1) = decide (((xs.length : Nat) : Int) < (ys.length : Nat)) := by
          congr 1; exact propext ⟨fun q => by omega, fun q => by omega⟩
        have e2 : decide (((xs.length : Nat) : Int) + 1 ≤ (ys.length : Nat) + 1) = decide (((xs.length : Nat) : Int) ≤ (ys.length : Nat)) := by
          congr 1; exact propext ⟨fun q => by omega, fun q => by omega⟩
        have e3 : decide (((ys.length : Nat) : Int) + 1 < (xs.length : Nat) + 1) = decide (((ys.length : Nat) : Int) < (xs.length : Nat)) := by
          congr 1; exact propext ⟨fun q => by omega, fun q => by omega⟩
        have e4 : decide (((ys.length : Nat) : Int) + 1 ≤ (xs.length : Nat) + 1) = decide (((ys.length : Nat) : Int) ≤ (xs.length : Nat)) := by
          congr 1; exact propext ⟨fun q => by omega, fun q => by omega⟩
        unfold ordN at h1 ⊢
        simp only [List.length_cons, Int.natCast_add, Int.cast_ofNat_Int] at h1 ⊢
        cases op <;> simp only [ordI] at h1 ⊢ <;> first | (cases h1; done) | (rw [← h1]; first | exact congrArg some e1 | exact congrArg some e2 | exact congrArg some e3 | exact congrArg some e4)
      have hm : min (x :: xs).length (y :: ys).length = min xs.length ys.length + 1 := by simp only [List.length_cons]; omega
      refine ⟨z, hz, ?_, fun j u v e1 e2 ne => ?_⟩
      · rw [hm, Ob.lexAt_succ, lex_shift]
        have p0 : pairEq (x :: xs) (y :: ys) 0 = PyData.eqv x y := rfl
        have a0 : atD op (x :: xs) (y :: ys) 0 = (cmpD op x y).getD false := rfl
        have p1 : (fun j => pairEq (x :: xs) (y :: ys) (j + 1)) = pairEq xs ys := by funext j; rfl
        have a1 : (fun j => atD op (x :: xs) (y :: ys) (j + 1)) = atD op xs ys := by funext j; simp [atD]
        rw [p0, a0, p1, a1, ← h2]
        by_cases q : PyData.eqv x y = true
        · rw [if_pos q] at h ⊢; exact (Option.some.inj h).symm
        · rw [if_neg q] at h ⊢; rw [h]; rfl
      · cases j with
        | zero =>
          simp at e1 e2; subst e1 e2
          rw [if_neg (by rw [ne]; decide)] at h
          exact ⟨b, h⟩
        | succ j => exact h3 j u v (by simpa using e1) (by simpa using e2) ne
    · cases h

theorem readsAll_get {h : Heap} : ∀ {vs : List Value} {ds : List PyData} {as : List Addr} {j : Nat} {v : Value}, ReadsAll h vs ds as → vs[j]? = some v → ∃ d as', ds[j]? = some d ∧ Reads h v d as'
  | [], _, _, j, _, _, e => by simp at e
  | _ :: _, _, _, 0, v, .cons r _, e => by simp at e; subst e; exact ⟨_, _, rfl, r⟩
  | _ :: _, _, _, j + 1, v, .cons _ t, e => by
    obtain ⟨d, as', h1, h2⟩ := readsAll_get (j := j) t (by simpa using e)
    exact ⟨d, as', by simpa using h1, h2⟩
theorem readsAll_len {h : Heap} : ∀ {vs : List Value} {ds : List PyData} {as : List Addr}, ReadsAll h vs ds as → vs.length = ds.length
  | _, _, _, .nil => rfl
  | _, _, _, .cons _ t => by rw [List.length_cons, List.length_cons, readsAll_len t]
theorem depth_mem {ds : List PyData} {d : PyData} {j : Nat} (h : ds[j]? = some d) : d.depth ≤ PyData.depthAll ds := by
  induction ds generalizing j with
  | nil => simp at h
  | cons x xs ih =>
    simp only [PyData.depthAll]
    cases j with
    | zero => simp at h; subst h; omega
    | succ j => have := ih (j := j) (by simpa using h); omega
theorem canLay_mem {ds : List PyData} {d : PyData} {j : Nat} (hc : PyData.canLayAll0 ds = true) (h : ds[j]? = some d) : d.canLay0 = true := by
  induction ds generalizing j with
  | nil => simp at h
  | cons x xs ih =>
    simp only [PyData.canLayAll0, Bool.and_eq_true] at hc
    cases j with
    | zero => simp at h; subst h; exact hc.1
    | succ j => exact ih (j := j) hc.2 (by simpa using h)
theorem ordI_ok {op : CmpOp} {a b : Int} {c : Bool} (e : ordI op a b = some c) {A : Around} {s : Shared} {t u : Tok} : Ob.RcOp op A s (.int a t) (.int b u) c := by
  cases op <;> simp only [ordI] at e <;> first
    | (cases e; exact Ob.RcOp.lt_int a b t u)
    | (cases e; exact Ob.RcOp.le_int a b t u)
    | (cases e; exact Ob.RcOp.gt_int a b t u)
    | (cases e; exact Ob.RcOp.ge_int a b t u)
    | cases e
/-- the order as the machine has it -/
theorem cmpD_ok : ∀ (n : Nat) (op : CmpOp) (d e : PyData) (b : Bool) (A : Around) (s : Shared) (x y : Value) (as bs : List Addr), d.depth ≤ n → d.canLay0 = true → e.canLay0 = true → Reads s.heap x d as → Reads s.heap y e bs → cmpD op d e = some b →
    A.units + 2 * n + 2 < cLine → Ob.RcOp op A s x y b
  | n, op, .int a, .int c, b, A, s, x, y, as, bs, _, _, _, r1, r2, h, _ => by
    cases r1; cases r2
    simp only [cmpD] at h
    exact ordI_ok h
  | n, op, .str a, .str c, b, A, s, x, y, as, bs, _, _, _, r1, r2, h, _ => by
    cases r1; cases r2
    simp only [cmpD] at h
    split at h
    · cases h
      intro prog w E Q hq
      exact PyProof.Rows.lt_str hq
    · cases h
  | 0, op, .tuple xs, .tuple ys, b, A, s, x, y, as, bs, hd, _, _, _, _, h, hu => by simp [PyData.depth] at hd
  | n + 1, op, .tuple xs, .tuple ys, b, A, s, x, y, as, bs, hd, c1, c2, r1, r2, h, hu => by
    cases r1 with
    | @tuple a o vs k _ _ h1 h2 h3 h4 =>
    cases r2 with
    | @tuple a' o' vs' k' _ _ g1 g2 g3 g4 =>
    simp only [cmpD] at h
    obtain ⟨z, hz, rfl, hc⟩ := cmpDs_lex h
    simp only [PyData.canLay0] at c1 c2
    simp only [PyData.depth] at hd
    have l1 : vs.size = xs.length := by rw [← readsAll_len h4]; simp
    have l2 : vs'.size = ys.length := by rw [← readsAll_len g4]; simp
    have t1 : s.heap.IsTuple a vs := ⟨o, h1, h2, k, h3⟩
    have t2 : s.heap.IsTuple a' vs' := ⟨o', g1, g2, k', g3⟩
    have hu' : A.units < cLine := by omega
    have in1 : A.in1.units = A.units + 1 := rfl
    have heq : ∀ j (p1 : j < vs.size) (p2 : j < vs'.size), EqAt A.in1 s vs[j] vs'[j] (pairEq xs ys j) := fun j p1 p2 => by
      have m1 : min (PyData.depthAll xs) (PyData.depthAll ys) ≤ PyData.depthAll xs := Nat.min_le_left _ _
      have q := eqAt_readsAll xs ys A.in1 s vs.toList vs'.toList _ _ h4 g4 c1 c2 (by rw [in1]; omega) j (by simpa using p1) (by simpa using p2)
      simpa using q
    have hle : ∀ j (p1 : j < vs.size) (p2 : j < vs'.size), pairEq xs ys j = false → Ob.RcOp op A.in1 s vs[j] vs'[j] (atD op xs ys j) := fun j p1 p2 ne => by
      obtain ⟨d1, as1, e1, q1⟩ := readsAll_get (j := j) (v := vs[j]) h4 (by simp)
      obtain ⟨d2, as2, e2, q2⟩ := readsAll_get (j := j) (v := vs'[j]) g4 (by simp)
      have ne' : PyData.eqv d1 d2 = false := by
        unfold pairEq at ne
        rw [List.getD_eq_getElem?_getD, List.getD_eq_getElem?_getD, e1, e2] at ne
        exact ne
      obtain ⟨c, hc'⟩ := hc j d1 d2 e1 e2 ne'
      have : atD op xs ys j = c := by unfold atD; rw [e1, e2]; simp [hc']
      rw [this]
      have dm := depth_mem e1
      exact cmpD_ok n op d1 d2 c A.in1 s _ _ _ _ (by omega) (canLay_mem c1 e1) (canLay_mem c2 e2) q1 q2 hc' (by rw [in1]; omega)
    rw [← l1, ← l2]
    have e1 : ∀ {p q : Prop} [Decidable p] [Decidable q], (p ↔ q) → decide p = decide q := fun h => by congr 1; exact propext h
    cases op <;> simp only [ordN, ordI] at hz <;> first
      | (cases hz; done)
      | (cases hz; rw [← l1, ← l2, e1 Int.ofNat_lt]; exact Ob.RcOp.tuples_lt t1 t2 hu' heq hle)
      | (cases hz; rw [← l1, ← l2, e1 Int.ofNat_le]; exact Ob.RcOp.tuples_le t1 t2 hu' heq hle)
      | (cases hz; rw [← l1, ← l2, e1 Int.ofNat_lt]; exact Ob.RcOp.tuples_gt t1 t2 hu' heq hle)
      | (cases hz; rw [← l1, ← l2, e1 Int.ofNat_le]; exact Ob.RcOp.tuples_ge t1 t2 hu' heq hle)
  | _, _, .none, _, _, _, _, _, _, _, _, _, _, _, _, _, h, _ => by simp [cmpD] at h
  | _, _, .bool _, _, _, _, _, _, _, _, _, _, _, _, _, _, h, _ => by simp [cmpD] at h
  | _, _, .list _, _, _, _, _, _, _, _, _, _, _, _, _, _, h, _ => by simp [cmpD] at h
  | _, _, .dict _, _, _, _, _, _, _, _, _, _, _, _, _, _, h, _ => by simp [cmpD] at h
  | _, _, .int _, .none, _, _, _, _, _, _, _, _, _, _, _, _, h, _ => by simp [cmpD] at h
  | _, _, .int _, .bool _, _, _, _, _, _, _, _, _, _, _, _, _, h, _ => by simp [cmpD] at h
  | _, _, .int _, .str _, _, _, _, _, _, _, _, _, _, _, _, _, h, _ => by simp [cmpD] at h
  | _, _, .int _, .list _, _, _, _, _, _, _, _, _, _, _, _, _, h, _ => by simp [cmpD] at h
  | _, _, .int _, .tuple _, _, _, _, _, _, _, _, _, _, _, _, _, h, _ => by simp [cmpD] at h
  | _, _, .int _, .dict _, _, _, _, _, _, _, _, _, _, _, _, _, h, _ => by simp [cmpD] at h
  | _, _, .str _, .none, _, _, _, _, _, _, _, _, _, _, _, _, h, _ => by simp [cmpD] at h
  | _, _, .str _, .bool _, _, _, _, _, _, _, _, _, _, _, _, _, h, _ => by simp [cmpD] at h
  | _, _, .str _, .int _, _, _, _, _, _, _, _, _, _, _, _, _, h, _ => by simp [cmpD] at h
  | _, _, .str _, .list _, _, _, _, _, _, _, _, _, _, _, _, _, h, _ => by simp [cmpD] at h
  | _, _, .str _, .tuple _, _, _, _, _, _, _, _, _, _, _, _, _, h, _ => by simp [cmpD] at h
  | _, _, .str _, .dict _, _, _, _, _, _, _, _, _, _, _, _, _, h, _ => by simp [cmpD] at h
  | _, _, .tuple _, .none, _, _, _, _, _, _, _, _, _, _, _, _, h, _ => by simp [cmpD] at h
  | _, _, .tuple _, .bool _, _, _, _, _, _, _, _, _, _, _, _, _, h, _ => by simp [cmpD] at h
  | _, _, .tuple _, .int _, _, _, _, _, _, _, _, _, _, _, _, _, h, _ => by simp [cmpD] at h
  | _, _, .tuple _, .str _, _, _, _, _, _, _, _, _, _, _, _, _, h, _ => by simp [cmpD] at h
  | _, _, .tuple _, .list _, _, _, _, _, _, _, _, _, _, _, _, _, h, _ => by simp [cmpD] at h
  | _, _, .tuple _, .dict _, _, _, _, _, _, _, _, _, _, _, _, _, h, _ => by simp [cmpD] at h
end
/-- x op y, an order -/
def ordE (op : CmpOp) : G2 := fun x y h => match x, y with
  | .int a, .int b => match ordI op a b with
    | some c => .ok (.bl c) h
    | none => .no
  | _, _ => match dat h DEEP x, dat h DEEP y with
    | some d, some e => match cmpD op d e with
      | some b => .ok (.bl b) h
      | none => .no
    | _, _ => .no
section
variable {X : Cx} {P : Par} {W : WX}
theorem cmpD_isOrd {op : CmpOp} : ∀ {d e : PyData} {b : Bool}, cmpD op d e = some b → op = .Lt ∨ op = .LtE ∨ op = .Gt ∨ op = .GtE := by
  have hI : ∀ {a b : Int} {c : Bool}, ordI op a b = some c → op = .Lt ∨ op = .LtE ∨ op = .Gt ∨ op = .GtE := fun {a b c} h => by
    cases op <;> simp only [ordI] at h <;> first | (cases h; done) | simp
  intro d e b h
  cases d <;> cases e <;> simp only [cmpD] at h <;> first
    | (cases h; done)
    | exact hI h
    | (split at h
       · simp
       · cases h)
    | (obtain ⟨z, hz, _⟩ := cmpDs_lex h; exact hI hz)
theorem compareOp_rc {op : CmpOp} (ho : op = .Lt ∨ op = .LtE ∨ op = .Gt ∨ op = .GtE) (v u : Value) : compareOp op v u = richCompare op v u := by
  rcases ho with rfl | rfl | rfl | rfl <;> rfl
theorem op_ordI {op : CmpOp} (hK : X.K = P.K) (hu : X.A.units + 64 < cLine) : OpR X (compareOp op) (rG P W (ordE op)) := by
  intro pins s0 σ H x y v u Q I rx ry q
  obtain ⟨φ, h, σ', va, vb, s, ra, rb, p⟩ := q
  have go : ∀ d e b, dat h DEEP va = some d → dat h DEEP vb = some e → cmpD op d e = some b → Q (.bl b) H → wpAny (model X.prog X.w) X.A (compareOp op v u) (EP X pins σ Q) X.xe s0 := fun d e b e1 e2 e3 hq => by
    obtain ⟨as, r1⟩ := Dp.reads I d x v (by rw [hK]; exact dat_Dp s _ _ _ _ e1 ra) rx
    obtain ⟨bs, r2⟩ := Dp.reads I e y u (by rw [hK]; exact dat_Dp s _ _ _ _ e2 rb) ry
    have a1 := dat_ok DEEP va d e1
    have a2 := dat_ok DEEP vb e e2
    rw [compareOp_rc (cmpD_isOrd e3)]
    exact cmpD_ok DEEP op d e b X.A s0 v u as bs a1.2 a1.1 a2.1 r1 r2 e3 (by show X.A.units + 2 * 12 + 2 < cLine; omega) _ _ _ _ ⟨.bl b, H, I, rfl, hq⟩
  unfold ordE at p
  split at p
  · rename_i a b
    split at p
    · rename_i c hc
      exact go (.int a) (.int b) c (by simp [dat]) (by simp [dat]) (by simpa [cmpD] using hc) (p.ret s (by rw [VR]))
    · exact p.elim
  · split at p
    · rename_i d e e1 e2
      split at p
      · rename_i b hb
        exact go d e b e1 e2 hb (p.ret s (by rw [VR]))
      · exact p.elim
    · exact p.elim
end
end EV
namespace EV
open PySem PySem.Spec PyProof.Rows L2

section
variable {X : Cx} {P : Par} {W : WX}
abbrev mulOk (i j : Int) : Prop := (-(2 ^ 64) < i ∧ i < 2 ^ 64) ∨ (-(2 ^ 64) < j ∧ j < 2 ^ 64) ∨ i.natAbs.log2 + j.natAbs.log2 < 1000000
abbrev divOk (j : Int) : Prop := 0 < j ∧ j.natAbs.log2 < 9000
abbrev powOk (i j : Int) : Prop := 0 ≤ j ∧ (Builtin.Int.intBits i : Int) * j ≤ 2 ^ 27
def subI : G2 := fun x y h => match x, y with
  | .int a, .int b => .ok (.int (a - b)) h
  | _, _ => .no
def mulI : G2 := fun x y h => match x, y with
  | .int a, .int b => if mulOk a b then .ok (.int (a * b)) h else .no
  | _, _ => .no
def fdivI : G2 := fun x y h => match x, y with
  | .int a, .int b => if divOk b then .ok (.int (a / b)) h else .no
  | _, _ => .no
def modI : G2 := fun x y h => match x, y with
  | .int a, .int b => if 0 < b then .ok (.int (a % b)) h else .no
  | _, _ => .no
def powI : G2 := fun x y h => match x, y with
  | .int a, .int b => if powOk a b then .ok (.int (a ^ b.toNat)) h else .no
  | _, _ => .no
theorem op_subI : OpR X (binaryOp .Sub) (rG P W subI) := OpR.weak op_sub fun x y H Q q => by
  obtain ⟨φ, h, σ, va, vb, s, ra, rb, p⟩ := q
  unfold subI at p
  split at p
  · rw [VR] at ra rb; subst ra rb
    exact ⟨_, _, rfl, rfl, p.ret s (by rw [VR])⟩
  · exact p.elim
theorem op_mulI : OpR X (binaryOp .Mult) (rG P W mulI) := OpR.weak ((op_mul (X := X)).or op_mulW) fun x y H Q q => by
  obtain ⟨φ, h, σ, va, vb, s, ra, rb, p⟩ := q
  unfold mulI at p
  split at p
  · rw [VR] at ra rb; subst ra rb
    split at p
    · rename_i c
      rcases c with c | c | c
      · exact .inl ⟨_, _, rfl, rfl, .inl c, p.ret s (by rw [VR])⟩
      · exact .inl ⟨_, _, rfl, rfl, .inr c, p.ret s (by rw [VR])⟩
      · exact .inr ⟨_, _, rfl, rfl, c, p.ret s (by rw [VR])⟩
    · exact p.elim
  · exact p.elim
theorem op_fdivI : OpR X (binaryOp .FloorDiv) (rG P W fdivI) := OpR.weak op_fdivW fun x y H Q q => by
  obtain ⟨φ, h, σ, va, vb, s, ra, rb, p⟩ := q
  unfold fdivI at p
  split at p
  · rw [VR] at ra rb; subst ra rb
    split at p
    · rename_i c
      exact ⟨_, _, rfl, rfl, c, p.ret s (by rw [VR])⟩
    · exact p.elim
  · exact p.elim
theorem op_modI : OpR X (binaryOp .Mod) (rG P W modI) := OpR.weak op_mod fun x y H Q q => by
  obtain ⟨φ, h, σ, va, vb, s, ra, rb, p⟩ := q
  unfold modI at p
  split at p
  · rw [VR] at ra rb; subst ra rb
    split at p
    · rename_i c
      exact ⟨_, _, rfl, rfl, c, p.ret s (by rw [VR])⟩
    · exact p.elim
  · exact p.elim
theorem op_powI : OpR X (binaryOp .Pow) (rG P W powI) := by
  have R : OpR X (binaryOp .Pow) (rI (fun i j => powOk i j) fun i j => .int (i ^ j.toNat)) := opI fun _ _ _ _ _ _ _ hc q => pow_int hc.1 hc.2 q
  refine OpR.weak R fun x y H Q q => ?_
  obtain ⟨φ, h, σ, va, vb, s, ra, rb, p⟩ := q
  unfold powI at p
  split at p
  · rw [VR] at ra rb; subst ra rb
    split at p
    · rename_i c
      exact ⟨_, _, rfl, rfl, c, p.ret s (by rw [VR])⟩
    · exact p.elim
  · exact p.elim

/-- is x in y -/
def inB (h : IH) (x y : IV) : Option Bool := match x, y with
  | .str a, .str b => some (!(Builtin.Str.occurrences b a 0 b.length 1).isEmpty)
  | x, y => match dat h DEEP x, dat h DEEP y with
    | some d, some (.tuple ds) => some (ds.any fun z => PyData.eqv z d)
    | some d, some (.list ds) => some (ds.any fun z => PyData.eqv z d)
    | _, _ => none
def inI : G2 := fun x y h => match inB h x y with
  | some b => .ok (.bl b) h
  | none => .no
theorem inB_run {φ : List Addr} {H : Hp} {h : IH} (hK : X.K = P.K) (hu : X.A.units + 65 < cLine) (s : SR P φ H h) {va vb : IV} {x y : V} {b : Bool} (ra : VR P φ H va x) (rb : VR P φ H vb y) (e : inB h va vb = some b)
    {pins : List (Addr × Obj)} {s0 : Shared} {σ : L2.St} {v u : Value} (I : Inv X pins σ H s0) (rx : L2.RelV x v) (ry : L2.RelV y u) {E : Value → Shared → Prop} {Q : Value → Shared → Prop} :
    (Q (.bool b) s0 → wpAny (model X.prog X.w) X.A (compareOp .In v u) Q E s0) ∧ (Q (.bool (!b)) s0 → wpAny (model X.prog X.w) X.A (compareOp .NotIn v u) Q E s0) := by
  unfold inB at e
  split at e
  · cases e
    rw [VR] at ra rb; subst ra rb
    obtain ⟨t, rfl⟩ := rx
    obtain ⟨t', rfl⟩ := ry
    exact ⟨fun q => PyProof.Rows.in_str q, fun q => PyProof.Rows.notIn_str q⟩
  · split at e
    · rename_i d ds e1 e2
      cases e
      obtain ⟨as, r1⟩ := Dp.reads I d x v (by rw [hK]; exact dat_Dp s _ _ _ _ e1 ra) rx
      obtain ⟨bs, r2⟩ := Dp.reads I (.tuple ds) y u (by rw [hK]; exact dat_Dp s _ _ _ _ e2 rb) ry
      have a1 := dat_ok DEEP va d e1
      have a2 := dat_ok DEEP vb _ e2
      have hm : min (PyData.depthAll ds) d.depth ≤ d.depth := Nat.min_le_right _ _
      have hr : X.A.units + 1 + min (PyData.depthAll ds) d.depth < cLine := by have := a1.2; show _ < _; simp only [DEEP] at this; omega
      have c2 : PyData.canLayAll0 ds = true := by simpa [PyData.canLay0] using a2.1
      exact ⟨fun q => SeqAt.in_tuple_reads r2 r1 c2 a1.1 hr q, fun q => SeqAt.notIn_tuple_reads r2 r1 c2 a1.1 hr q⟩
    · rename_i d ds e1 e2
      cases e
      obtain ⟨as, r1⟩ := Dp.reads I d x v (by rw [hK]; exact dat_Dp s _ _ _ _ e1 ra) rx
      obtain ⟨bs, r2⟩ := Dp.reads I (.list ds) y u (by rw [hK]; exact dat_Dp s _ _ _ _ e2 rb) ry
      have a1 := dat_ok DEEP va d e1
      have a2 := dat_ok DEEP vb _ e2
      have hm : min (PyData.depthAll ds) d.depth ≤ d.depth := Nat.min_le_right _ _
      have hr : X.A.units + 1 + min (PyData.depthAll ds) d.depth < cLine := by have := a1.2; show _ < _; simp only [DEEP] at this; omega
      have c2 : PyData.canLayAll0 ds = true := by simpa [PyData.canLay0] using a2.1
      exact ⟨fun q => SeqAt.in_list_reads r2 r1 c2 a1.1 hr q, fun q => SeqAt.notIn_list_reads r2 r1 c2 a1.1 hr q⟩
    · cases e
theorem op_inI (hK : X.K = P.K) (hu : X.A.units + 65 < cLine) : OpR X (compareOp .In) (rG P W inI) := by
  intro pins s0 σ H x y v u Q I rx ry q
  obtain ⟨φ, h, σ', va, vb, s, ra, rb, p⟩ := q
  unfold inI at p
  split at p
  · rename_i b e
    exact (inB_run hK hu s ra rb e I rx ry).1 ⟨.bl b, H, I, rfl, p.ret s (by rw [VR])⟩
  · exact p.elim
def isNonB : IV → Bool
  | .non => true
  | _ => false
theorem VR.non_iff {φ : List Addr} {H : Hp} {x : IV} {v : V} (r : VR P φ H x v) : decide (v = .non) = isNonB x := by
  cases x <;> rw [VR] at r <;> first
    | (subst r; rfl)
    | (obtain ⟨a, vs, rfl, _⟩ := r; rfl)
    | (obtain ⟨a, vs, es, rfl, _⟩ := r; rfl)
    | (obtain ⟨a, _, rfl⟩ := r; rfl)
    | (obtain ⟨rfl, _⟩ := r; rfl)
def isI : G2 := fun x y h => match y with
  | .non => .ok (.bl (isNonB x)) h
  | _ => .no
def isnI : G2 := fun x y h => match y with
  | .non => .ok (.bl (!isNonB x)) h
  | _ => .no
theorem op_isI : OpR X (compareOp .Is) (rG P W isI) := OpR.weak op_isN fun x y H Q q => by
  obtain ⟨φ, h, σ', va, vb, s, ra, rb, p⟩ := q
  unfold isI at p
  split at p
  · rw [VR] at rb; subst rb
    exact ⟨rfl, by rw [ra.non_iff]; exact p.ret s (by rw [VR])⟩
  · exact p.elim
theorem op_isnI : OpR X (compareOp .IsNot) (rG P W isnI) := OpR.weak op_notN fun x y H Q q => by
  obtain ⟨φ, h, σ', va, vb, s, ra, rb, p⟩ := q
  unfold isnI at p
  split at p
  · rw [VR] at rb; subst rb
    exact ⟨rfl, by rw [ra.non_iff]; exact p.ret s (by rw [VR])⟩
  · exact p.elim

def tyName (h : IH) : IV → Option String
  | .non => some "NoneType"
  | .bl _ => some "bool"
  | .int _ => some "int"
  | .str _ => some "str"
  | .tup _ => some "tuple"
  | .lst _ => some "list"
  | .dct _ _ => some "dict"
  | .ref n => match h[n]? with
    | some (.lst _) => some "list"
    | some (.dct _ _) => some "dict"
    | _ => none
  | _ => none
def isaT (t c : String) : Option Bool :=
  if c = "int" then some (t = "int" || t = "bool")
  else if c = "bool" ∨ c = "str" ∨ c = "tuple" ∨ c = "list" ∨ c = "dict" then some (decide (t = c)) else none
theorem isaT_kit {K : PySem.W.Frag} {t c : String} {b : Bool} (ht : t ∈ ["NoneType", "bool", "int", "str", "tuple", "list", "dict"]) (h : isaT t c = some b) : PySem.W.kitOne K (.type t) (.type c) = some b := by
  refine kit_ty ?_
  have hc : c = "int" ∨ c = "bool" ∨ c = "str" ∨ c = "tuple" ∨ c = "list" ∨ c = "dict" := by
    unfold isaT at h
    by_cases c1 : c = "int"
    · exact .inl c1
    · rw [if_neg c1] at h
      by_cases c2 : c = "bool" ∨ c = "str" ∨ c = "tuple" ∨ c = "list" ∨ c = "dict"
      · exact .inr c2
      · rw [if_neg c2] at h; cases h
  have ht' : t = "NoneType" ∨ t = "bool" ∨ t = "int" ∨ t = "str" ∨ t = "tuple" ∨ t = "list" ∨ t = "dict" := by simpa using ht
  have key : ∀ t c : String, t = "NoneType" ∨ t = "bool" ∨ t = "int" ∨ t = "str" ∨ t = "tuple" ∨ t = "list" ∨ t = "dict" → c = "int" ∨ c = "bool" ∨ c = "str" ∨ c = "tuple" ∨ c = "list" ∨ c = "dict" → kitB t c = isaT t c := by
    intro t c ht hc
    rcases ht with rfl | rfl | rfl | rfl | rfl | rfl | rfl <;> rcases hc with rfl | rfl | rfl | rfl | rfl | rfl <;> decide +kernel
  rw [key t c ht' hc, h]
theorem tyName_kit {φ : List Addr} {H : Hp} {h : IH} (s : SR P φ H h) {x : IV} {v : V} {t : String} (r : VR P φ H x v) (e : tyName h x = some t) {pins : List (Addr × Obj)} {s0 : Shared} {σ : L2.St} {u : Value} (I : Inv X pins σ H s0) (hK : X.K = P.K) (rx : L2.RelV v u) :
    t ∈ ["NoneType", "bool", "int", "str", "tuple", "list", "dict"] ∧ ∃ Pr : Heap → Prop, PySem.W.KitX X.K u (.type t) Pr ∧ Pr s0.heap ∧ u ≠ .builtin "__main__.__loader__#opaque" := by
  have lst : ∀ {a : Addr} {vs : List V}, v = .ref a → SqL X.K H a vs → ∃ Pr : Heap → Prop, PySem.W.KitX X.K u (.type "list") Pr ∧ Pr s0.heap ∧ u ≠ .builtin "__main__.__loader__#opaque" := fun {a vs} e q => by
    subst e; cases rx
    obtain ⟨its, _, pl, _⟩ := I.list q
    obtain ⟨o, ho, hc, _⟩ := pl.isList
    exact ⟨_, PySem.W.kitx_list, ⟨o, ho, hc⟩, fun z => nomatch z⟩
  have dct : ∀ {a : Addr} {o : Obj} {es : Raw}, v = .ref a → H a = some (DctO a o es) → ∃ Pr : Heap → Prop, PySem.W.KitX X.K u (.type "dict") Pr ∧ Pr s0.heap ∧ u ≠ .builtin "__main__.__loader__#opaque" := fun {a o es} e q => by
    subst e; cases rx
    have z : ObjOk X.prog X.w H s0.heap a (DctO a o es) := I.hok a _ q
    obtain ⟨⟨h1, _, _, h2, _⟩, _⟩ := z
    exact ⟨_, PySem.W.kitx_dict, ⟨o, h1, h2.1⟩, fun z => nomatch z⟩
  cases x with
  | non => simp only [tyName] at e; cases e; rw [VR] at r; subst r; cases (show u = Value.none from rx); exact ⟨by simp, _, PySem.W.kitx_none, True.intro, fun z => nomatch z⟩
  | bl b => simp only [tyName] at e; cases e; rw [VR] at r; subst r; cases (show u = Value.bool b from rx); exact ⟨by simp, _, PySem.W.kitx_bool, True.intro, fun z => nomatch z⟩
  | int b => simp only [tyName] at e; cases e; rw [VR] at r; subst r; obtain ⟨t, q⟩ := (show ∃ t, u = Value.int b t from rx); cases q; exact ⟨by simp, _, PySem.W.kitx_int, True.intro, fun z => nomatch z⟩
  | str b => simp only [tyName] at e; cases e; rw [VR] at r; subst r; obtain ⟨t, q⟩ := (show ∃ t, u = Value.str b t from rx); cases q; exact ⟨by simp, _, PySem.W.kitx_str, True.intro, fun z => nomatch z⟩
  | tup xs =>
    simp only [tyName] at e; cases e
    obtain ⟨a, vs, rfl, q, _⟩ := r.tupI
    cases rx
    obtain ⟨its, _, ⟨o, ho, hc, _⟩, _⟩ := I.tuple (by rw [hK]; exact q)
    exact ⟨by simp, _, PySem.W.kitx_tuple, ⟨o, ho, hc⟩, fun z => nomatch z⟩
  | lst xs =>
    simp only [tyName] at e; cases e
    obtain ⟨a, vs, h1, h2, _⟩ := s.lsO r (xs := xs) rfl
    exact ⟨by simp, lst h1 (.of h2)⟩
  | dct ks us =>
    simp only [tyName] at e; cases e
    rw [VR] at r
    obtain ⟨a, o, es, h1, h2, _⟩ := r
    exact ⟨by simp, dct h1 h2⟩
  | ref n =>
    simp only [tyName] at e
    split at e
    · rename_i xs q; cases e
      obtain ⟨a, vs, _, h1, h2, _⟩ := s.lst r q
      exact ⟨by simp, lst h1 (.of h2)⟩
    · rename_i ks us q; cases e
      rw [VR] at r
      obtain ⟨a, h1, h2⟩ := r
      obtain ⟨o, es, h3, _⟩ := s.obj n _ a q h1
      exact ⟨by simp, dct h2 h3⟩
    · cases e
  | _ => simp only [tyName] at e; cases e

def truB (h : IH) : IV → Option Bool
  | .non => some false
  | .bl b => some b
  | .int i => some (i != 0)
  | .str x => if x.length ≤ sizeLine then some ((x.length : Int) != 0) else none
  | .tup xs => some (!xs.isEmpty)
  | .dct _ _ => none
  | x => match lsR h x with
    | some xs => some (!xs.isEmpty)
    | none => none
theorem isEmpty_rs {φ : List Addr} {H : Hp} {xs : List IV} {vs : List V} (r : VRs P φ H xs vs) : vs.isEmpty = xs.isEmpty := by
  have := r.length
  cases xs <;> cases vs <;> simp_all
theorem truB_ok {φ : List Addr} {H : Hp} {h : IH} (hK : X.K = P.K) (s : SR P φ H h) {x : IV} {v : V} {b : Bool} (r : VR P φ H x v) (e : truB h x = some b) : TruV X.K v H b := by
  have ls : ∀ xs, EV.lsR h x = some xs → TruV X.K v H (!xs.isEmpty) := fun xs e => by
    obtain ⟨a, vs, rfl, h1, h2⟩ := s.lsR r e
    exact .inl ⟨vs, by rw [hK]; exact h1, by rw [isEmpty_rs h2]⟩
  cases x with
  | non => simp only [truB] at e; cases e; rw [VR] at r; subst r; rfl
  | bl b => simp only [truB] at e; cases e; rw [VR] at r; subst r; rfl
  | int b => simp only [truB] at e; cases e; rw [VR] at r; subst r; rfl
  | str b =>
    simp only [truB] at e
    split at e
    · rename_i z; cases e; rw [VR] at r; subst r; exact ⟨z, rfl⟩
    · cases e
  | tup xs =>
    simp only [truB] at e; cases e
    obtain ⟨a, vs, rfl, q, r1⟩ := r.tupI
    exact .inr (.inl ⟨vs, by rw [hK]; exact q, by rw [isEmpty_rs r1]⟩)
  | dct ks us => simp only [truB] at e; cases e
  | _ =>
    simp only [truB] at e
    split at e
    · cases e; exact ls _ (by assumption)
    · cases e
end
end EV
namespace EV
open PySem PySem.Spec PyProof.Rows L2

section
variable {P : Par} {W : WX} {σ : L2.St} {H : Hp}
theorem Post.mono {φ : List Addr} {Q Q' : VK} {o : Out IV} (p : Post P W σ φ H Q o) (h : ∀ x H1, Q x H1 → Q' x H1) : Post P W σ φ H Q' o := by
  cases o with
  | ok v h' => exact fun φ' H' x e s r => h _ _ (p φ' H' x e s r)
  | ex v h' => exact p
  | no => exact p
theorem PostA.mono {φ : List Addr} {Q Q' : List V → Hp → Prop} {o : Out (List IV)} (p : PostA P W σ φ H Q o) (h : ∀ x H1, Q x H1 → Q' x H1) : PostA P W σ φ H Q' o := by
  cases o with
  | ok v h' => exact fun φ' H' x e s r => h _ _ (p φ' H' x e s r)
  | ex v h' => exact p
  | no => exact p
theorem PostB.mono {φ : List Addr} {Q Q' : Bool → Hp → Prop} {o : Out Bool} (p : PostB P W σ φ H Q o) (h : ∀ x H1, Q x H1 → Q' x H1) : PostB P W σ φ H Q' o := by
  cases o with
  | ok v h' => exact fun φ' H' e s => h _ _ (p φ' H' e s)
  | ex v h' => exact p
  | no => exact p
theorem tE.mono {f : IE → M IV} {Q Q' : VK} (t : tE P W f σ H Q) (h : ∀ x H1, Q x H1 → Q' x H1) : tE P W f σ H Q' := by
  obtain ⟨φ, hp, σi, s, se, p⟩ := t
  exact ⟨φ, hp, σi, s, se, p.mono h⟩
theorem tAr.mono {f : IE → M (List IV)} {Q Q' : List V → Hp → Prop} (t : tAr P W f σ H Q) (h : ∀ x H1, Q x H1 → Q' x H1) : tAr P W f σ H Q' := by
  obtain ⟨φ, hp, σi, s, se, p⟩ := t
  exact ⟨φ, hp, σi, s, se, p.mono h⟩
theorem tT.mono {f : IE → M Bool} {Q Q' : Bool → Hp → Prop} (t : tT P W f σ H Q) (h : ∀ x H1, Q x H1 → Q' x H1) : tT P W f σ H Q' := by
  obtain ⟨φ, hp, σi, s, se, p⟩ := t
  exact ⟨φ, hp, σi, s, se, p.mono h⟩
theorem tAr.bindA {fa : IE → M (List IV)} {k : IE → List IV → M (List IV)} {Q : List V → Hp → Prop} (h : tAr P W (fun σ h => (fa σ h).bind (k σ)) σ H Q) :
    tAr P W fa σ H fun x H1 => ∃ φ h σi v, SR P φ H1 h ∧ SE P φ H1 σi σ ∧ VRs P φ H1 v x ∧ PostA P W σ φ H1 Q (k σi v h) := by
  obtain ⟨φ, hp, σi, s, se, p⟩ := h
  refine ⟨φ, hp, σi, s, se, ?_⟩
  cases e : fa σi hp with
  | ok v h1 =>
    simp only [e, Out.bind] at p
    exact fun φ' H' x ex s' r => ⟨φ', h1, σi, v, s', se.mono ex, r, p.ext ex⟩
  | ex v h1 =>
    simp only [e, Out.bind] at p
    exact p
  | no =>
    simp only [e, Out.bind] at p
    exact p
end

section
variable {X : Cx} {P : Par} {W : WX} {a b c : Expr} {fa fb fc : IE → M IV} {ta tb : IE → M Bool} {pos : Pos} {es : List Expr} {fs : IE → M (List IV)}
def boolM : IV → M Bool := fun v h => match v with
  | .bl b => .ok b h
  | _ => .no
def truM : IV → M Bool := fun v h => match truB h v with
  | some b => .ok b h
  | none => .no
theorem boolM_ok {φ : List Addr} {σ : L2.St} {H : Hp} {h : IH} {v : IV} {x : V} {Q : Bool → Hp → Prop} (s : SR P φ H h) (r : VR P φ H v x) (p : PostB P W σ φ H Q (boolM v h)) : ∃ k, x = .bl k ∧ Q k H := by
  unfold boolM at p
  split at p
  · rw [VR] at r; exact ⟨_, r, p.ret s⟩
  · exact p.elim
theorem truM_ok {φ : List Addr} {σ : L2.St} {H : Hp} {h : IH} {v : IV} {x : V} {Q : Bool → Hp → Prop} (hK : X.K = P.K) (s : SR P φ H h) (r : VR P φ H v x) (p : PostB P W σ φ H Q (truM v h)) : ∃ k, TruV X.K x H k ∧ Q k H := by
  unfold truM at p
  split at p
  · rename_i b e
    exact ⟨b, truB_ok hK s r e, p.ret s⟩
  · exact p.elim
def cmpT (g : G2) (fa fb : IE → M IV) : IE → M Bool := fun σ h => (binE g fa fb σ h).bind boolM
def truT (fa : IE → M IV) : IE → M Bool := fun σ h => (fa σ h).bind truM
theorem pt_cmpI {op : CmpOp} {g : G2} (ho : OpR X (compareOp op) (rG P W g)) (ha : PE X a (tE P W fa)) (hb : PE X b (tE P W fb)) (hm : behindInMarks op b = false) : PT X (.Compare a [op] [b] pos) (tT P W (cmpT g fa fb)) :=
  PT.weak (pt_cmpR ho ha hb hm) fun σ H Q hq => by
    have q1 := tT.bindE (k := fun _ => boolM) hq
    exact tOp_of (q1.mono fun x H1 ⟨φ, h, σi, v, s, _, r, p⟩ => boolM_ok s r p)
theorem pt_truI (hK : X.K = P.K) (ha : PE X a (tE P W fa)) (he : ∀ whole, isTrue a X.env whole = (do let v ← whole; standAt a.pos; holding [v] (truthy v))) : PT X a (tT P W (truT fa)) :=
  PT.weak (pt_truth ha he) fun σ H Q hq => by
    have q1 := tT.bindE (k := fun _ => truM) hq
    exact q1.mono fun x H1 ⟨φ, h, σi, v, s, _, r, p⟩ => truM_ok hK s r p
def notT (ta : IE → M Bool) : IE → M Bool := fun σ h => (ta σ h).bind fun b h => .ok (!b) h
def andT (ta tb : IE → M Bool) : IE → M Bool := fun σ h => (ta σ h).bind fun b h => if b = true then tb σ h else .ok false h
def orT (ta tb : IE → M Bool) : IE → M Bool := fun σ h => (ta σ h).bind fun b h => if b = true then .ok true h else tb σ h
theorem pt_notI (ha : PT X a (tT P W ta)) : PT X (.UnaryOp .Not a pos) (tT P W (notT ta)) := PT.weak (pt_not ha) fun σ H Q hq => by
  have q1 := tT.bindT (k := fun _ b h => .ok (!b) h) hq
  exact q1.mono fun x H1 ⟨φ, h, σi, s, _, p⟩ => p.ret s
theorem pw_andI {rest : List Expr} (ha : PT X a (tT P W ta)) (hb : PW X (.BoolOp .And (b :: rest) pos) (tT P W tb)) : PW X (.BoolOp .And (a :: b :: rest) pos) (tT P W (andT ta tb)) :=
  ⟨fun wh pins s σ H Q I hq => (pw_and ha hb).run wh pins s σ H Q I (by
    have q1 := tT.bindT (k := fun σ b h => if b = true then tb σ h else .ok false h) hq
    refine q1.mono fun x H1 ⟨φ, h, σi, s, se, p⟩ => ?_
    cases x with
    | true => rw [if_pos rfl] at p ⊢; exact ⟨φ, h, σi, s, se, p⟩
    | false => rw [if_neg Bool.false_ne_true] at p ⊢; exact p.ret s)⟩
theorem pw_orI {rest : List Expr} (ha : PT X a (tT P W ta)) (hb : PW X (.BoolOp .Or (b :: rest) pos) (tT P W tb)) : PW X (.BoolOp .Or (a :: b :: rest) pos) (tT P W (orT ta tb)) :=
  ⟨fun wh pins s σ H Q I hq => (pw_or ha hb).run wh pins s σ H Q I (by
    have q1 := tT.bindT (k := fun σ b h => if b = true then .ok true h else tb σ h) hq
    refine q1.mono fun x H1 ⟨φ, h, σi, s, se, p⟩ => ?_
    cases x with
    | true => rw [if_pos rfl] at p ⊢; exact p.ret s
    | false => rw [if_neg Bool.false_ne_true] at p ⊢; exact ⟨φ, h, σi, s, se, p⟩)⟩
/-- a op1 b op2 c -/
def chnE (g g' : G2) (fa fb fc : IE → M IV) : IE → M IV := fun σ h => (fa σ h).bind fun va h => (fb σ h).bind fun vb h => (g va vb h).bind fun z h => match z with
  | .bl true => (fc σ h).bind fun vc h => g' vb vc h
  | .bl false => .ok (.bl false) h
  | _ => .no
theorem tChain_of {g g' : G2} {σ : L2.St} {H : Hp} {Q : VK} (hq : tE P W (chnE g g' fa fb fc) σ H Q) : tChain (rG P W g) (rG P W g') (tE P W fa) (tE P W fb) (tE P W fc) σ H Q := by
  have q1 := tE.bind (k := fun σ va h => (fb σ h).bind fun vb h => (g va vb h).bind fun z h => match z with
    | .bl true => (fc σ h).bind fun vc h => g' vb vc h
    | .bl false => .ok (.bl false) h
    | _ => .no) hq
  refine q1.mono fun x H1 ⟨φ, h, σi, va, s, se, r, p⟩ => ?_
  -- the value of a stands on: it is carried as a name beside
  have q2 : tE P W fb σ H1 fun y H2 => ∃ φ h σi vb, SR P φ H2 h ∧ SE P φ H2 σi σ ∧ VR P φ H2 va x ∧ VR P φ H2 vb y ∧ Post P W σ φ H2 Q ((g va vb h).bind fun z h => match z with
      | .bl true => (fc σi h).bind fun vc h => g' vb vc h
      | .bl false => .ok (.bl false) h
      | _ => .no) := by
    refine ⟨φ, h, σi, s, se, ?_⟩
    cases e : fb σi h with
    | ok v h1 =>
      simp only [e, Out.bind] at p
      exact fun φ' H' y ex s' r' => ⟨φ', h1, σi, v, s', se.mono ex, r.mono ex, r', p.ext ex⟩
    | ex v h1 => simp only [e, Out.bind] at p; exact p
    | no => simp only [e, Out.bind] at p; exact p
  refine q2.mono fun y H2 ⟨φ, h, σi, vb, s, se, ra, rb, p⟩ => ?_
  refine ⟨φ, h, σ, va, vb, s, ra, rb, ?_⟩
  cases e : g va vb h with
  | ok z h1 =>
    simp only [e, Out.bind] at p
    intro φ' H3 z' ex s' rz
    have p' := p.ext ex
    split at p'
    · rw [VR] at rz
      refine ⟨true, rz, ?_⟩
      rw [if_pos rfl]
      refine ⟨φ', h1, σi, s', se.mono ex, ?_⟩
      cases e2 : fc σi h1 with
      | ok u h3 =>
        simp only [e2, Out.bind] at p'
        exact fun φ3 H4 w ex3 s3 r3 => ⟨φ3, h3, σ, vb, u, s3, (rb.mono ex).mono ex3, r3, p'.ext ex3⟩
      | ex u h3 => simp only [e2, Out.bind] at p'; exact p'
      | no => simp only [e2, Out.bind] at p'; exact p'
    · rw [VR] at rz
      refine ⟨false, rz, ?_⟩
      rw [if_neg Bool.false_ne_true]
      exact p'.ret s' (by rw [VR])
    · exact p'.elim
  | ex z h1 => simp only [e, Out.bind] at p; exact p
  | no => simp only [e, Out.bind] at p; exact p
theorem pe_chnI {op op' : CmpOp} {g g' : G2} (ho : OpR X (compareOp op) (rG P W g)) (ho' : OpR X (compareOp op') (rG P W g')) (ha : PE X a (tE P W fa)) (hb : PE X b (tE P W fb)) (hc : PE X c (tE P W fc)) (hm : lastMarks [op, op'] [b, c] = false) :
    PE X (.Compare a [op, op'] [b, c] pos) (tE P W (chnE g g' fa fb fc)) := PE.weak (pe_chain ho ho' ha hb hc hm) fun _ _ _ hq => tChain_of hq
theorem pt_chnI {op op' : CmpOp} {g g' : G2} (ho : OpR X (compareOp op) (rG P W g)) (ho' : OpR X (compareOp op') (rG P W g')) (ha : PE X a (tE P W fa)) (hb : PE X b (tE P W fb)) (hc : PE X c (tE P W fc)) (hm : lastMarks [op, op'] [b, c] = false) :
    PT X (.Compare a [op, op'] [b, c] pos) (tT P W fun σ h => (chnE g g' fa fb fc σ h).bind boolM) := PT.weak (pt_chain ho ho' ha hb hc hm) fun σ H Q hq => by
  have q1 := tT.bindE (k := fun _ => boolM) hq
  exact tChain_of (q1.mono fun x H1 ⟨φ, h, σi, v, s, _, r, p⟩ => boolM_ok s r p)
def andE (fa fb : IE → M IV) : IE → M IV := fun σ h => (fa σ h).bind fun v h => match truB h v with
  | some true => fb σ h
  | some false => .ok v h
  | none => .no
def notE (fa : IE → M IV) : IE → M IV := fun σ h => (fa σ h).bind fun v h => match truB h v with
  | some b => .ok (.bl (!b)) h
  | none => .no
def iteE (ta : IE → M Bool) (fa fb : IE → M IV) : IE → M IV := fun σ h => (ta σ h).bind fun b h => if b = true then fa σ h else fb σ h
theorem pe_andI {rest : List Expr} (hK : X.K = P.K) (ha : PE X a (tE P W fa)) (hb : PE X (.BoolOp .And (b :: rest) pos) (tE P W fb)) : PE X (.BoolOp .And (a :: b :: rest) pos) (tE P W (andE fa fb)) := PE.weak (pe_andT ha hb) fun σ H Q hq => by
  have q1 := tE.bind (k := fun σ v h => match truB h v with
    | some true => fb σ h
    | some false => .ok v h
    | none => .no) hq
  refine q1.mono fun x H1 ⟨φ, h, σi, v, s, se, r, p⟩ => ?_
  split at p
  · rename_i e
    exact ⟨true, truB_ok hK s r e, by rw [if_pos rfl]; exact ⟨φ, h, σi, s, se, p⟩⟩
  · rename_i e
    exact ⟨false, truB_ok hK s r e, by rw [if_neg Bool.false_ne_true]; exact p.ret s r⟩
  · exact p.elim
theorem pe_notI (hK : X.K = P.K) (ha : PE X a (tE P W fa)) : PE X (.UnaryOp .Not a pos) (tE P W (notE fa)) := PE.weak (pe_notT ha) fun σ H Q hq => by
  have q1 := tE.bind (k := fun _ v h => match truB h v with
    | some b => .ok (.bl (!b)) h
    | none => .no) hq
  refine q1.mono fun x H1 ⟨φ, h, σi, v, s, se, r, p⟩ => ?_
  split at p
  · rename_i b e
    exact ⟨b, truB_ok hK s r e, p.ret s (by rw [VR])⟩
  · exact p.elim
theorem pe_iteI (hc : PT X c (tT P W ta)) (ha : PE X a (tE P W fa)) (hb : PE X b (tE P W fb)) : PE X (.IfExp c a b pos) (tE P W (iteE ta fa fb)) := PE.weak (pe_ifExp hc ha hb) fun σ H Q hq => by
  have q1 := tE.bindT (k := fun σ b h => if b = true then fa σ h else fb σ h) hq
  refine q1.mono fun x H1 ⟨φ, h, σi, s, se, p⟩ => ?_
  cases x with
  | true => rw [if_pos rfl] at p ⊢; exact ⟨φ, h, σi, s, se, p⟩
  | false => rw [if_neg Bool.false_ne_true] at p ⊢; exact ⟨φ, h, σi, s, se, p⟩

def nilA : IE → M (List IV) := fun _ h => .ok [] h
def consA (fa : IE → M IV) (fs : IE → M (List IV)) : IE → M (List IV) := fun σ h => (fa σ h).bind fun v h => (fs σ h).bind fun vs h => .ok (v :: vs) h
/-- the items of what is starred -/
def itemsOf (h : IH) : IV → Option (List IV)
  | .tup xs => some xs
  | v => lsR h v
def starA (fa : IE → M IV) (fs : IE → M (List IV)) : IE → M (List IV) := fun σ h => (fa σ h).bind fun v h => match itemsOf h v with
  | some xs => (fs σ h).bind fun vs h => .ok (xs ++ vs) h
  | none => .no
theorem pa_nilI : PA X [] (tAr P W nilA) := PA.weak pa_nil fun σ H Q hq => by
  obtain ⟨φ, h, σi, s, se, p⟩ := hq
  exact p.ret s .nil
theorem pa_consI (ha : PE X a (tE P W fa)) (hr : PA X es (tAr P W fs)) (hs : starEach (a :: es) X.env = (false, eval a X.env) :: starEach es X.env) : PA X (a :: es) (tAr P W (consA fa fs)) := PA.weak (pa_cons ha hr hs) fun σ H Q hq => by
  have q1 := tAr.bindE (k := fun σ v h => (fs σ h).bind fun vs h => .ok (v :: vs) h) hq
  refine q1.mono fun x H1 ⟨φ, h, σi, v, s, se, r, p⟩ => ?_
  refine ⟨φ, h, σi, s, se, ?_⟩
  cases e : fs σi h with
  | ok u h1 =>
    simp only [e, Out.bind] at p
    exact fun φ' H' y ex s' r' => (p.ext ex).ret s' (.cons (r.mono ex) r')
  | ex v h1 => simp only [e, Out.bind] at p; exact p
  | no => simp only [e, Out.bind] at p; exact p
theorem pa_starI {p0 : Pos} (hK : X.K = P.K) (ha : PE X a (tE P W fa)) (hr : PA X es (tAr P W fs)) : PA X (.Starred a p0 :: es) (tAr P W (starA fa fs)) := PA.weak (StX.pa_star ha hr) fun σ H Q hq => by
  have q1 := tAr.bindE (k := fun σ v h => match itemsOf h v with
    | some xs => (fs σ h).bind fun vs h => .ok (xs ++ vs) h
    | none => .no) hq
  refine q1.mono fun x H1 ⟨φ, h, σi, v, s, se, r, p⟩ => ?_
  have fin : ∀ (xs : List IV) (us : List V), VRs P φ H1 xs us → PostA P W σ φ H1 Q ((fs σi h).bind fun vs h => .ok (xs ++ vs) h) → tAr P W fs σ H1 fun ys H2 => Q (us ++ ys) H2 := fun xs us r p => by
    refine ⟨φ, h, σi, s, se, ?_⟩
    cases e : fs σi h with
    | ok u h1 =>
      simp only [e, Out.bind] at p
      exact fun φ' H' y ex s' r' => (p.ext ex).ret s' ((r.mono ex).append r')
    | ex v h1 => simp only [e, Out.bind] at p; exact p
    | no => simp only [e, Out.bind] at p; exact p
  unfold itemsOf at p
  split at p
  · rename_i xs e
    split at e
    · cases e
      obtain ⟨b, vs, rfl, h1, r1⟩ := r.tupI
      exact ⟨b, vs, rfl, .inl (by rw [hK]; exact h1), fin _ _ r1 p⟩
    · obtain ⟨b, vs, rfl, h1, r1⟩ := s.lsR r e
      exact ⟨b, vs, rfl, .inr (by rw [hK]; exact h1), fin _ _ r1 p⟩
  · exact p.elim
def tupE (fs : IE → M (List IV)) : IE → M IV := fun σ h => (fs σ h).bind fun xs h => if xs.length ≤ sizeLine then .ok (.tup xs) h else .no
theorem pe_tupI {k : Nat} (hs : PA X es (tAr P W fs)) : PE X (.Tuple es k pos) (tE P W (tupE fs)) := PE.weak (pe_tup hs) fun σ H Q hq => by
  have q1 := tE.bindA (k := fun _ xs h => if xs.length ≤ sizeLine then .ok (.tup xs) h else .no) hq
  refine q1.mono fun x H1 ⟨φ, h, σi, v, s, se, r, p⟩ => ?_
  split at p
  · rename_i z
    exact ⟨by rw [r.length]; exact z, fun t ht => p.newTup s r ht⟩
  · exact p.elim

def PostL (P : Par) (W : WX) (σ : L2.St) (φ : List Addr) (H : Hp) (Q : VK) : Out (List IV) → Prop
  | .ok xs h' => ∀ φ' H' p vs, Ext φ H φ' H' → SR P φ' H' h' → VRs P φ' H' xs vs → H' p = none → Q (.ref p) (upd H' p (.lst vs))
  | .ex e h' => ∀ φ' H' c d, Ext φ H φ' H' → SR P φ' H' h' → XR P φ' H' e c d → W c d σ H'
  | .no => False
/-- the reading of a maker of new lists -/
def tL (P : Par) (W : WX) (f : IE → M (List IV)) : TE := fun σ H Q => ∃ φ h σi, SR P φ H h ∧ SE P φ H σi σ ∧ PostL P W σ φ H Q (f σi h)
def lstE (f : IE → M (List IV)) : IE → M IV := fun σ h => (f σ h).bind fun xs h => .ok (.lst xs) h
def refE (f : IE → M (List IV)) : IE → M IV := fun σ h => (f σ h).bind fun xs h => .ok (.ref h.length) (h ++ [.lst xs])
theorem pe_lstOf (hp : PE X a (tL P W fs)) : PE X a (tE P W (lstE fs)) := PE.weak hp fun σ H Q hq => by
  obtain ⟨φ, h, σi, s, se, p⟩ := hq
  refine ⟨φ, h, σi, s, se, ?_⟩
  unfold lstE at p
  cases e : fs σi h with
  | ok u h1 =>
    simp only [e, Out.bind] at p
    exact fun φ' H' t vs ex s' r ht => (Post.ext p ex).newLst s' r ht
  | ex v h1 => simp only [e, Out.bind] at p; exact p
  | no => simp only [e, Out.bind] at p; exact p
theorem pe_refOf (hp : PE X a (tL P W fs)) : PE X a (tE P W (refE fs)) := PE.weak hp fun σ H Q hq => by
  obtain ⟨φ, h, σi, s, se, p⟩ := hq
  refine ⟨φ, h, σi, s, se, ?_⟩
  unfold refE at p
  cases e : fs σi h with
  | ok u h1 =>
    simp only [e, Out.bind] at p
    exact fun φ' H' t vs ex s' r ht => (Post.ext p ex).newRef s' r ht
  | ex v h1 => simp only [e, Out.bind] at p; exact p
  | no => simp only [e, Out.bind] at p; exact p
/-- at most so many items -/
def capA (fs : IE → M (List IV)) : IE → M (List IV) := fun σ h => (fs σ h).bind fun xs h => if xs.length ≤ sizeLine then .ok xs h else .no
theorem pl_list (hs : PA X es (tAr P W fs)) : PE X (.List es pos) (tL P W (capA fs)) := PE.weak (pe_lst hs) fun σ H Q hq => by
  obtain ⟨φ, h, σi, s, se, p⟩ := hq
  refine ⟨φ, h, σi, s, se, ?_⟩
  unfold capA at p
  cases e : fs σi h with
  | ok u h1 =>
    simp only [e, Out.bind] at p
    split at p
    · rename_i z
      exact fun φ' H' vs ex s' r => ⟨by rw [r.length]; exact z, fun t ht => p φ' H' t vs ex s' r ht⟩
    · exact p.elim
  | ex v h1 => simp only [e, Out.bind] at p; exact p
  | no => simp only [e, Out.bind] at p; exact p

def subE : G2 := fun x y h => match y with
  | .int i => match x with
    | .tup xs => match atI xs i with
      | some v => .ok v h
      | none => .no
    | .str z => if z.length ≤ sizeLine then match atI z.cps.toList i with
      | some c => .ok (.str ⟨#[c]⟩) h
      | none => .no
      else .no
    | x => match lsR h x with
      | some xs => match atI xs i with
        | some v => .ok v h
        | none => .no
      | none => .no
  | _ => .no
theorem atI_rs {φ : List Addr} {H : Hp} {xs : List IV} {vs : List V} {i : Int} {x : IV} (r : VRs P φ H xs vs) (e : atI xs i = some x) : ∃ v, atI vs i = some v ∧ VR P φ H x v := by
  unfold atI at e ⊢
  rw [r.length]
  cases q : ixN xs.length i with
  | none => rw [q] at e; cases e
  | some j =>
    rw [q] at e
    exact r.get e
theorem IxR.weak {r r' : R2} (h : IxR X r) (k : ∀ x y H Q, r' x y H Q → r x y H Q) : IxR X r' :=
  fun value slice pins s σ H x y v u Q I rx ry q => h value slice pins s σ H x y v u Q I rx ry (k x y H Q q)
theorem ix_subI (hK : X.K = P.K) : IxR X (rG P W subE) := IxR.weak ix_seq fun x y H Q q => by
  obtain ⟨φ, h, σ, va, vb, s, ra, rb, p⟩ := q
  unfold subE at p
  split at p
  · rename_i i
    rw [VR] at rb; subst rb
    split at p
    · rename_i xs
      split at p
      · rename_i v e
        obtain ⟨a, vs, rfl, h1, r1⟩ := ra.tupI
        obtain ⟨u, e1, r2⟩ := atI_rs r1 e
        exact .inr (.inl ⟨a, vs, i, u, rfl, rfl, by rw [hK]; exact h1, e1, p.ret s r2⟩)
      · exact p.elim
    · split at p
      · rename_i z
        rw [VR] at ra; subst ra
        split at p
        · rename_i c e
          exact .inr (.inr ⟨_, i, c, rfl, rfl, z, e, p.ret s (by rw [VR])⟩)
        · exact p.elim
      · exact p.elim
    · split at p
      · rename_i xs e
        split at p
        · rename_i v e1
          obtain ⟨a, vs, rfl, h1, r1⟩ := s.lsR ra e
          obtain ⟨u, e2, r2⟩ := atI_rs r1 e1
          exact .inl ⟨a, vs, i, u, rfl, rfl, by rw [hK]; exact h1, e2, p.ret s r2⟩
        · exact p.elim
      · exact p.elim
  · exact p.elim
def cutL {α : Type} (xs : List α) (lo hi : Option Int) : List α := (xs.drop (HT.sIx xs.length 0 lo)).take (HT.sIx xs.length xs.length hi - HT.sIx xs.length 0 lo)
theorem cut_rs {φ : List Addr} {H : Hp} {xs : List IV} {vs : List V} {lo hi : Option Int} (r : VRs P φ H xs vs) : VRs P φ H (cutL xs lo hi) (cutV vs lo hi) := by
  unfold cutL cutV
  rw [r.length]
  exact (r.drop _).take _
def PostO (P : Par) (W : WX) (σ : L2.St) (φ : List Addr) (H : Hp) (Q : Option Int → Hp → Prop) : Out (Option Int) → Prop
  | .ok v h' => ∀ φ' H', Ext φ H φ' H' → SR P φ' H' h' → Q v H'
  | .ex e h' => ∀ φ' H' c d, Ext φ H φ' H' → SR P φ' H' h' → XR P φ' H' e c d → W c d σ H'
  | .no => False
theorem PostO.ext {φ φ1 : List Addr} {H H1 : Hp} {σ : L2.St} {Q : Option Int → Hp → Prop} {o : Out (Option Int)} (p : PostO P W σ φ H Q o) (e : Ext φ H φ1 H1) : PostO P W σ φ1 H1 Q o := by
  cases o with
  | ok v h => exact fun φ' H' e' => p φ' H' (e.trans e')
  | ex v h => exact fun φ' H' c d e' => p φ' H' c d (e.trans e')
  | no => exact p
def tO (P : Par) (W : WX) (f : IE → M (Option Int)) : TO := fun σ H Q => ∃ φ h σi, SR P φ H h ∧ SE P φ H σi σ ∧ PostO P W σ φ H Q (f σi h)
def noneO : IE → M (Option Int) := fun _ h => .ok none h
def intM : IV → M (Option Int) := fun v h => match v with
  | .int i => .ok (some i) h
  | _ => .no
def someO (fa : IE → M IV) : IE → M (Option Int) := fun σ h => (fa σ h).bind intM
theorem PO.weak {e : Option Expr} {t t' : TO} (h : PO X e t) (k : ∀ σ H Q, t' σ H Q → t σ H Q) : PO X e t' := ⟨fun pins s σ H Q I hw => h.run pins s σ H Q I (k σ H Q hw)⟩
theorem po_noneI : PO X none (tO P W noneO) := PO.weak po_none fun σ H Q hq => by
  obtain ⟨φ, h, σi, s, se, p⟩ := hq
  exact p φ H (Ext.refl _ _) s
theorem po_someI (ha : PE X a (tE P W fa)) : PO X (some a) (tO P W (someO fa)) := PO.weak (po_some ha) fun σ H Q hq => by
  obtain ⟨φ, h, σi, s, se, p⟩ := hq
  refine ⟨φ, h, σi, s, se, ?_⟩
  unfold someO at p
  cases e : fa σi h with
  | ok u h1 =>
    simp only [e, Out.bind, intM] at p
    split at p
    · intro φ' H' x ex s' r
      rw [VR] at r
      exact ⟨_, r, p φ' H' ex s'⟩
    · exact p.elim
  | ex v h1 => simp only [e, Out.bind] at p; exact p
  | no => simp only [e, Out.bind] at p; exact p
def cutE (lo hi : Option Int) : IV → M IV := fun x h => match x with
  | .tup xs => .ok (.tup (cutL xs lo hi)) h
  | .str z => if z.length ≤ sizeLine then .ok (.str (cutS z lo hi)) h else .no
  | x => match lsR h x with
    | some xs => .ok (.lst (cutL xs lo hi)) h
    | none => .no
def sliE (fa : IE → M IV) (fl fu : IE → M (Option Int)) : IE → M IV := fun σ h => (fa σ h).bind fun va h => (fl σ h).bind fun lo h => (fu σ h).bind fun hi h => cutE lo hi va h
theorem cutL_all {α : Type} {xs : List α} {lo hi : Option Int} (h : HT.sIx xs.length 0 lo = 0 ∧ HT.sIx xs.length xs.length hi = xs.length) : cutL xs lo hi = xs := by
  unfold cutL
  rw [h.1, h.2]
  simp
theorem SlR.weak {r r' : V → Option Int → Option Int → Hp → VK → Prop} (h : SlR X r) (k : ∀ x lo hi H Q, r' x lo hi H Q → r x lo hi H Q) : SlR X r' :=
  fun pins s σ H x v vl vu lo hi sl Q I rx hs pl pu q => h pins s σ H x v vl vu lo hi sl Q I rx hs pl pu (k x lo hi H Q q)
def rCut (P : Par) (W : WX) : V → Option Int → Option Int → Hp → VK → Prop := fun x lo hi H Q => ∃ φ h σ v, SR P φ H h ∧ VR P φ H v x ∧ Post P W σ φ H Q (cutE lo hi v h)
theorem sl_cutI (hK : X.K = P.K) : SlR X (rCut P W) := SlR.weak ((sl_list (X := X)).or ((sl_tupA (X := X)).or sl_str)) fun x lo hi H Q q => by
  obtain ⟨φ, h, σ, v, s, r, p⟩ := q
  unfold cutE at p
  split at p
  · rename_i xs
    obtain ⟨a, vs, rfl, h1, r1⟩ := r.tupI
    refine .inr (.inl ⟨a, vs, rfl, by rw [hK]; exact h1, fun z => ?_, fun _ t ht => p.newTup s (cut_rs r1) ht⟩)
    rw [r1.length] at z
    rw [cutL_all z] at p
    exact p.ret s r
  · rename_i z0
    split at p
    · rename_i z
      rw [VR] at r; subst r
      exact .inr (.inr ⟨_, rfl, z, p.ret s (by rw [VR])⟩)
    · exact p.elim
  · split at p
    · rename_i xs e
      obtain ⟨a, vs, rfl, h1, r1⟩ := s.lsR r e
      exact .inl ⟨a, vs, rfl, by rw [hK]; exact h1, fun t ht => p.newLst s (cut_rs r1) ht⟩
    · exact p.elim
theorem pe_sliI {lo hi : Option Expr} {p2 : Pos} {fl fu : IE → M (Option Int)} (hK : X.K = P.K) (ha : PE X a (tE P W fa)) (hl : PO X lo (tO P W fl)) (hu : PO X hi (tO P W fu)) : PE X (.Subscript a (.Slice lo hi none p2) pos) (tE P W (sliE fa fl fu)) := PE.weak (pe_slice (sl_cutI hK) ha hl hu) fun σ H Q hq => by
  have q1 := tE.bind (k := fun σ va h => (fl σ h).bind fun lo h => (fu σ h).bind fun hi h => cutE lo hi va h) hq
  refine q1.mono fun x H1 ⟨φ, h, σi, v, s, se, r, p⟩ => ?_
  refine ⟨φ, h, σi, s, se, ?_⟩
  cases e : fl σi h with
  | ok l h1 =>
    simp only [e, Out.bind] at p
    intro φ2 H2 ex s2
    refine ⟨φ2, h1, σi, s2, se.mono ex, ?_⟩
    cases e2 : fu σi h1 with
    | ok u h2 =>
      simp only [e2] at p
      exact fun φ3 H3 ex3 s3 => ⟨φ3, h2, σ, v, s3, (r.mono ex).mono ex3, (Post.ext p ex).ext ex3⟩
    | ex u h2 => simp only [e2] at p; exact Post.ext p ex
    | no => simp only [e2] at p; exact p
  | ex v h1 => simp only [e, Out.bind] at p; exact p
  | no => simp only [e, Out.bind] at p; exact p
end
end EV
namespace EV
open PySem PySem.Spec PyProof.Rows L2

inductive SOut where
  | nx (σ : IE) (h : IH)
  | rt (v : IV) (h : IH)
  | bk (σ : IE) (h : IH)
  | ct (σ : IE) (h : IH)
  | ex (e : IX) (σ : IE) (h : IH)
  | no
abbrev SM := IE → IH → SOut
/-- an expression's outcome, then what follows -/
def Out.thn {α : Type} (o : Out α) (σ : IE) (k : α → IH → SOut) : SOut := match o with
  | .ok v h => k v h
  | .ex e h => .ex e σ h
  | .no => .no
section
variable (P : Par) (W : WX)
def PostS (φ : List Addr) (H : Hp) (D : Ends) : SOut → Prop
  | .nx σi h' => ∀ φ' H' σ', Ext φ H φ' H' → SR P φ' H' h' → SE P φ' H' σi σ' → D.nx σ' H'
  | .rt v h' => ∀ φ' H' x, Ext φ H φ' H' → SR P φ' H' h' → VR P φ' H' v x → D.rt x H'
  | .bk σi h' => ∀ φ' H' σ', Ext φ H φ' H' → SR P φ' H' h' → SE P φ' H' σi σ' → D.bk σ' H'
  | .ct σi h' => ∀ φ' H' σ', Ext φ H φ' H' → SR P φ' H' h' → SE P φ' H' σi σ' → D.ct σ' H'
  | .ex e σi h' => ∀ φ' H' σ' c d, Ext φ H φ' H' → SR P φ' H' h' → SE P φ' H' σi σ' → XR P φ' H' e c d → W c d σ' H'
  | .no => False
def tS (f : SM) : TS := fun D σ H => ∃ φ h σi, SR P φ H h ∧ SE P φ H σi σ ∧ PostS P W φ H D (f σi h)
/-- a target takes no exception -/
abbrev TM := IV → IE → IH → Option (IE × IH)
abbrev TMs := List IV → IE → IH → Option (IE × IH)
def PostG (φ : List Addr) (H : Hp) (Q : L2.St → Hp → Prop) : Option (IE × IH) → Prop
  | some (σi, h') => ∀ φ' H' σ', Ext φ H φ' H' → SR P φ' H' h' → SE P φ' H' σi σ' → Q σ' H'
  | none => False
/-- a target's reading -/
def tG (f : TM) : TG := fun v σ H Q => ∃ φ h σi iv, SR P φ H h ∧ SE P φ H σi σ ∧ VR P φ H iv v ∧ PostG P φ H Q (f iv σi h)
def tGs (f : TMs) : TGs := fun vs σ H Q => ∃ φ h σi ivs, SR P φ H h ∧ SE P φ H σi σ ∧ VRs P φ H ivs vs ∧ PostG P φ H Q (f ivs σi h)
end
section
variable {P : Par} {W : WX} {φ φ1 : List Addr} {H H1 : Hp}
theorem PostS.ext {D : Ends} {o : SOut} (p : PostS P W φ H D o) (e : Ext φ H φ1 H1) : PostS P W φ1 H1 D o := by
  cases o with
  | nx σi h => exact fun φ' H' σ' e' => p φ' H' σ' (e.trans e')
  | rt σi h => exact fun φ' H' σ' e' => p φ' H' σ' (e.trans e')
  | bk σi h => exact fun φ' H' σ' e' => p φ' H' σ' (e.trans e')
  | ct σi h => exact fun φ' H' σ' e' => p φ' H' σ' (e.trans e')
  | ex x σi h => exact fun φ' H' σ' c d e' => p φ' H' σ' c d (e.trans e')
  | no => exact p
theorem PostG.ext {Q : L2.St → Hp → Prop} {o : Option (IE × IH)} (p : PostG P φ H Q o) (e : Ext φ H φ1 H1) : PostG P φ1 H1 Q o := by
  cases o with
  | some q => exact fun φ' H' σ' e' => p φ' H' σ' (e.trans e')
  | none => exact p
/-- an expression, then what follows: to the reading of the expression -/
theorem Post.thn {D : Ends} {σi : IE} {σ : L2.St} {o : Out IV} {k : IV → IH → SOut} (se : SE P φ H σi σ) (p : PostS P W φ H D (o.thn σi k)) :
    Post P W σ φ H (fun x H1 => ∃ φ1 h1 v, SR P φ1 H1 h1 ∧ SE P φ1 H1 σi σ ∧ VR P φ1 H1 v x ∧ PostS P W φ1 H1 D (k v h1)) o := by
  cases o with
  | ok v h => exact fun φ' H' x e s r => ⟨φ', h, v, s, se.mono e, r, PostS.ext p e⟩
  | ex x h => exact fun φ' H' c d e s r => p φ' H' σ c d e s (se.mono e) r
  | no => exact p
theorem PostB.thn {D : Ends} {σi : IE} {σ : L2.St} {o : Out Bool} {k : Bool → IH → SOut} (se : SE P φ H σi σ) (p : PostS P W φ H D (o.thn σi k)) :
    PostB P W σ φ H (fun x H1 => ∃ φ1 h1, SR P φ1 H1 h1 ∧ SE P φ1 H1 σi σ ∧ PostS P W φ1 H1 D (k x h1)) o := by
  cases o with
  | ok v h => exact fun φ' H' e s => ⟨φ', h, s, se.mono e, PostS.ext p e⟩
  | ex x h => exact fun φ' H' c d e s r => p φ' H' σ c d e s (se.mono e) r
  | no => exact p
def gthn (o : Option (IE × IH)) (k : IE → IH → SOut) : SOut := match o with
  | some (σ, h) => k σ h
  | none => .no
theorem PostG.thn {D : Ends} {o : Option (IE × IH)} {k : IE → IH → SOut} (p : PostS P W φ H D (gthn o k)) :
    PostG P φ H (fun σ' H1 => ∃ φ1 h1 σ2, SR P φ1 H1 h1 ∧ SE P φ1 H1 σ2 σ' ∧ PostS P W φ1 H1 D (k σ2 h1)) o := by
  cases o with
  | some q => exact fun φ' H' σ' e s se => ⟨φ', q.2, q.1, s, se, PostS.ext p e⟩
  | none => exact p
theorem SE.set {σi : IE} {σ : L2.St} {iv : IV} {v : V} (se : SE P φ H σi σ) (r : VR P φ H iv v) (i : Nat) : SE P φ H (σi.set i (some iv)) (σ.set i (some v)) := by
  refine ⟨by simp [se.len], fun j x e => ?_⟩
  by_cases hj : i = j
  · subst hj
    have hl : i < σi.length := by
      by_cases hl : i < σi.length
      · exact hl
      · rw [List.getElem?_eq_none (by simpa using hl)] at e; cases e
    rw [List.getElem?_set_self hl] at e
    cases e
    exact ⟨v, by rw [List.getElem?_set_self (by rw [← se.len]; exact hl)], r⟩
  · rw [List.getElem?_set_ne hj] at e
    obtain ⟨u, e1, r1⟩ := se.val j x e
    exact ⟨u, by rw [List.getElem?_set_ne hj]; exact e1, r1⟩
end

section
variable {X : Cx} {P : Par} {W : WX} {a b c : Expr} {fa fb : IE → M IV} {pos : Pos}
def gNm (i : Nat) : TM := fun v σ h => some (σ.set i (some v), h)
theorem PG.weak {e : Expr} {t t' : TG} (h : PG X e t) (k : ∀ v σ H Q, t' v σ H Q → t v σ H Q) : PG X e t' := ⟨fun pins s σ H v u Q I r hw => h.run pins s σ H v u Q I r (k v σ H Q hw)⟩
theorem PGs.weak {e : List Expr} {t t' : TGs} (h : PGs X e t) (k : ∀ v σ H Q, t' v σ H Q → t v σ H Q) : PGs X e t' := ⟨fun pins s σ H v u Q I r hw => h.run pins s σ H v u Q I r (k v σ H Q hw)⟩
theorem pg_nmI {i : Nat} {x : Str} (hg : PG X (.Name x pos) (gName i)) : PG X (.Name x pos) (tG P (gNm i)) := PG.weak hg fun v σ H Q hq => by
  obtain ⟨φ, h, σi, iv, s, se, r, p⟩ := hq
  exact p φ H _ (Ext.refl _ _) s (se.set r i)
def gsNil : TMs := fun vs σ h => match vs with
  | [] => some (σ, h)
  | _ => none
def gsCons (g : TM) (gs : TMs) : TMs := fun vs σ h => match vs with
  | v :: r => match g v σ h with
    | some (σ1, h1) => gs r σ1 h1
    | none => none
  | [] => none
theorem pgs_nilI : PGs X [] (tGs P gsNil) := PGs.weak pgs_nil fun v σ H Q hq => by
  obtain ⟨φ, h, σi, iv, s, se, r, p⟩ := hq
  unfold gsNil at p
  split at p
  · rw [VRs] at r; exact ⟨r, p φ H _ (Ext.refl _ _) s se⟩
  · exact p.elim
theorem pgs_consI {es : List Expr} {g : TM} {gs : TMs} (h1 : PG X a (tG P g)) (h2 : PGs X es (tGs P gs)) (hs : (assignEach (a :: es) X.env).map (·.2) = assign a X.env :: (assignEach es X.env).map (·.2)) :
    PGs X (a :: es) (tGs P (gsCons g gs)) := PGs.weak (pgs_cons h1 h2 hs) fun vs σ H Q hq => by
  obtain ⟨φ, h, σi, ivs, s, se, r, p⟩ := hq
  unfold gsCons at p
  split at p
  · rename_i v rest
    rw [VRs] at r
    obtain ⟨u, us, rfl, r1, r2⟩ := r
    refine ⟨u, us, rfl, φ, h, σi, v, s, se, r1, ?_⟩
    split at p
    · rename_i σ1 h1' e
      rw [e]
      exact fun φ' H' σ' ex s' se' => ⟨φ', h1', σ1, rest, s', se', r2.mono ex, PostG.ext p ex⟩
    · exact p.elim
  · exact p.elim
/-- (a, b, ..) = a tuple -/
def gTp (n : Nat) (gs : TMs) : TM := fun v σ h => match v with
  | .tup xs => if xs.length = n then gs xs σ h else none
  | _ => none
theorem pg_tupI {es : List Expr} {k n : Nat} {gs : TMs} (hK : X.K = P.K) (hc : X.calm = true) (h2 : PGs X es (tGs P gs)) (hn : (assignEach es X.env).length = n) (hst : (assignEach es X.env).findIdx? (·.1) = none) :
    PG X (.Tuple es k pos) (tG P (gTp n gs)) := PG.weak (pg_tup hc h2 hn hst) fun v σ H Q hq => by
  obtain ⟨φ, h, σi, iv, s, se, r, p⟩ := hq
  unfold gTp at p
  split at p
  · obtain ⟨a, vs, rfl, h1, r1⟩ := r.tupI
    split at p
    · rename_i z
      exact ⟨a, vs, rfl, by rw [hK]; exact h1, by rw [r1.length]; exact z, φ, h, σi, _, s, se, r1, p⟩
    · exact p.elim
  · exact p.elim

def seqS (f g : SM) : SM := fun σ h => match f σ h with
  | .nx σ h => g σ h
  | o => o
def nextS : SM := fun σ h => .nx σ h
theorem pss_nilI : PSs X [] (tS P W nextS) := PSs.weak pss_nil fun D σ H hq => by
  obtain ⟨φ, h, σi, s, se, p⟩ := hq
  exact p φ H σ (Ext.refl _ _) s se
theorem pss_consI {st : Stmt} {rest : List Stmt} {f g : SM} (h1 : PS X st (tS P W f)) (h2 : PSs X rest (tS P W g)) : PSs X (st :: rest) (tS P W (seqS f g)) := PSs.weak (pss_cons h1 h2) fun D σ H hq => by
  obtain ⟨φ, h, σi, s, se, p⟩ := hq
  refine ⟨φ, h, σi, s, se, ?_⟩
  unfold seqS at p
  cases e : f σi h with
  | nx σ1 h1 =>
    rw [e] at p
    exact fun φ' H' σ' ex s' se' => ⟨φ', h1, σ1, s', se', PostS.ext p ex⟩
  | rt v h1 => rw [e] at p; exact p
  | bk v h1 => rw [e] at p; exact p
  | ct v h1 => rw [e] at p; exact p
  | ex v σ h1 => rw [e] at p; exact p
  | no => rw [e] at p; exact p
theorem Ends.eq {D : Ends} : D = { nx := D.nx, rt := D.rt, bk := D.bk, ct := D.ct } := rfl
def retS (fa : IE → M IV) : SM := fun σ h => (fa σ h).thn σ fun v h => .rt v h
theorem ps_retI (ha : PE X a (tE P W fa)) : PS X (.Return (some a) pos) (tS P W (retS fa)) := PS.weak (ps_ret ha) fun D σ H hq => by
  obtain ⟨φ, h, σi, s, se, p⟩ := hq
  exact ⟨φ, h, σi, s, se, (Post.thn se p).mono fun x H1 ⟨φ1, h1, v, s1, _, r, p1⟩ => p1 φ1 H1 x (Ext.refl _ _) s1 r⟩
def exprS (fa : IE → M IV) : SM := fun σ h => (fa σ h).thn σ fun _ h => .nx σ h
theorem ps_exprI (ha : PE X a (tE P W fa)) (hs : swapsWith a none pos.line X.env = pure false) : PS X (.Expr a pos) (tS P W (exprS fa)) := PS.weak (ps_expr ha hs) fun D σ H hq => by
  obtain ⟨φ, h, σi, s, se, p⟩ := hq
  exact ⟨φ, h, σi, s, se, (Post.thn se p).mono fun x H1 ⟨φ1, h1, v, s1, se1, r, p1⟩ => p1 φ1 H1 σ (Ext.refl _ _) s1 se1⟩
def ifS (t : IE → M Bool) (f g : SM) : SM := fun σ h => (t σ h).thn σ fun b h => if b = true then f σ h else g σ h
theorem ps_ifI {t : IE → M Bool} {f g : SM} {sa sb : List Stmt} (hc : PT X c (tT P W t)) (ha : PSs X sa (tS P W f)) (hb : PSs X sb (tS P W g)) : PS X (.If c sa sb pos) (tS P W (ifS t f g)) := PS.weak (ps_if hc ha hb) fun D σ H hq => by
  obtain ⟨φ, h, σi, s, se, p⟩ := hq
  refine ⟨φ, h, σi, s, se, (PostB.thn se p).mono fun b H1 ⟨φ1, h1, s1, se1, p1⟩ => ?_⟩
  cases b with
  | true => rw [if_pos rfl] at p1 ⊢; exact ⟨φ1, h1, σi, s1, se1, p1⟩
  | false => rw [if_neg Bool.false_ne_true] at p1 ⊢; exact ⟨φ1, h1, σi, s1, se1, p1⟩
/-- target = value -/
def asgS (fa : IE → M IV) (g : TM) : SM := fun σ h => (fa σ h).thn σ fun v h => gthn (g v σ h) fun σ h => .nx σ h
theorem ps_asgI {tg : Expr} {g : TM} (ha : PE X a (tE P W fa)) (hg : PG X tg (tG P g)) (hs : swapsWithSole [tg] a pos.line X.env = pure false) (hw : swappedStores [tg] a X.env = pure none) (h1 : (assignEach [tg] X.env).map (·.2) = [assign tg X.env]) :
    PS X (.Assign [tg] a pos) (tS P W (asgS fa g)) := PS.weak (ps_asg ha hg hs hw h1) fun D σ H hq => by
  obtain ⟨φ, h, σi, s, se, p⟩ := hq
  refine ⟨φ, h, σi, s, se, (Post.thn se p).mono fun x H1 ⟨φ1, h1, v, s1, se1, r, p1⟩ => ?_⟩
  refine ⟨φ1, h1, σi, v, s1, se1, r, ?_⟩
  have q := PostG.thn p1
  unfold PostG at q ⊢
  split at q
  · exact fun φ' H' σ' e s' se' => by
      obtain ⟨φ2, h2, σ2, s2, se2, p2⟩ := q φ' H' σ' e s' se'
      exact p2 φ2 H' σ' (Ext.refl _ _) s2 se2
  · exact q.elim
end
end EV
namespace EV
open PySem PySem.Spec PyProof.Rows L2

section
variable {X : Cx} {P : Par} {W : WX} {a b c : Expr} {fa fb : IE → M IV} {pos : Pos}
def whileL (t : IE → M Bool) (f : SM) : Nat → SM
  | 0 => fun _ _ => .no
  | n + 1 => fun σ h => (t σ h).thn σ fun b h => if b = true then (match f σ h with
      | .nx σ h => whileL t f n σ h
      | .ct σ h => whileL t f n σ h
      | .bk σ h => .nx σ h
      | o => o) else .nx σ h
theorem ps_whileI {t : IE → M Bool} {f : SM} {body : List Stmt} {n : Nat} (hp : PassesOwn (model X.prog X.w) X.A X.env X.xe) (hc : PT X c (tT P W t)) (hb : PSs X body (tS P W f)) : PS X (.While c body [] pos) (tS P W (whileL t f n)) := PS.weak (ps_while hp hc hb) fun D σ H hq => by
  obtain ⟨φ, h, σi, s, se, p⟩ := hq
  refine ⟨fun m σ H => ∃ φ h σi, SR P φ H h ∧ SE P φ H σi σ ∧ PostS P W φ H D (whileL t f m σi h), ⟨n, φ, h, σi, s, se, p⟩, ?_⟩
  rintro m σ H ⟨φ, h, σi, s, se, p⟩
  cases m with
  | zero => exact p.elim
  | succ m =>
    unfold whileL at p
    refine ⟨φ, h, σi, s, se, (PostB.thn se p).mono fun b H1 ⟨φ1, h1, s1, se1, p1⟩ => ?_⟩
    cases b with
    | false => rw [if_neg Bool.false_ne_true] at p1 ⊢; exact p1 φ1 H1 σ (Ext.refl _ _) s1 se1
    | true =>
      rw [if_pos rfl] at p1 ⊢
      refine ⟨fun σ H => ∃ φ h σi, SR P φ H h ∧ SE P φ H σi σ ∧ PostS P W φ H D (whileL t f m σi h), fun σ' H' q => ⟨m, Nat.lt_succ_self _, q⟩, ?_⟩
      refine ⟨φ1, h1, σi, s1, se1, ?_⟩
      cases e : f σi h1 with
      | nx σ2 h2 => rw [e] at p1; exact fun φ' H' σ' ex s' se' => ⟨φ', h2, σ2, s', se', PostS.ext p1 ex⟩
      | ct σ2 h2 => rw [e] at p1; exact fun φ' H' σ' ex s' se' => ⟨φ', h2, σ2, s', se', PostS.ext p1 ex⟩
      | bk σ2 h2 => rw [e] at p1; exact p1
      | rt v h2 => rw [e] at p1; exact p1
      | ex v σ2 h2 => rw [e] at p1; exact p1
      | no => rw [e] at p1; exact p1

/-- J walks the items xs, whatever happens to the heap otherwise -/
structure Goes (P : Par) (J : It) (xs : List IV) (φ0 : List Addr) (H0 : Hp) : Prop where
  stop : ∀ φ H, Ext φ0 H0 φ H → J.stop xs.length H
  go : ∀ i φ H, i < xs.length → Ext φ0 H0 φ H → J.go i H
  yld : ∀ i φ H x H', Ext φ0 H0 φ H → J.yld i H x H' → ∀ v, xs[i]? = some v → Ext φ H φ H' ∧ (∀ R h, SR R φ H h → SR R φ H' h) ∧ ∀ l, (∀ D ∈ l, D ∈ P.av ∨ H0 D = none) → VR (P.at l) φ H' v x
def PostI (P : Par) (W : WX) (σ : L2.St) (φ : List Addr) (H : Hp) (R : It → Hp → Prop) : Out (List IV) → Prop
  | .ok xs h' => ∀ φ' H' J, Ext φ H φ' H' → SR P φ' H' h' → Goes P J xs φ' H' → R J H'
  | .ex e h' => ∀ φ' H' c d, Ext φ H φ' H' → SR P φ' H' h' → XR P φ' H' e c d → W c d σ H'
  | .no => False
def tI (P : Par) (W : WX) (fi : IE → M (List IV)) : TI := fun σ H R => ∃ φ h σi, SR P φ H h ∧ SE P φ H σi σ ∧ PostI P W σ φ H R (fi σi h)
theorem PostI.ext {σ : L2.St} {φ φ1 : List Addr} {H H1 : Hp} {R : It → Hp → Prop} {o : Out (List IV)} (p : PostI P W σ φ H R o) (e : Ext φ H φ1 H1) : PostI P W σ φ1 H1 R o := by
  cases o with
  | ok v h => exact fun φ' H' J e' => p φ' H' J (e.trans e')
  | ex v h => exact fun φ' H' c d e' => p φ' H' c d (e.trans e')
  | no => exact p
theorem PostI.mono {σ : L2.St} {φ : List Addr} {H : Hp} {R R' : It → Hp → Prop} {o : Out (List IV)} (p : PostI P W σ φ H R o) (k : ∀ J H, R J H → R' J H) : PostI P W σ φ H R' o := by
  cases o with
  | ok v h => exact fun φ' H' J e s g => k _ _ (p φ' H' J e s g)
  | ex v h => exact p
  | no => exact p
theorem PostI.thn {D : Ends} {σi : IE} {σ : L2.St} {φ : List Addr} {H : Hp} {o : Out (List IV)} {k : List IV → IH → SOut} (se : SE P φ H σi σ) (p : PostS P W φ H D (o.thn σi k)) :
    PostI P W σ φ H (fun J H1 => ∃ φ1 h1 xs, SR P φ1 H1 h1 ∧ SE P φ1 H1 σi σ ∧ Goes P J xs φ1 H1 ∧ PostS P W φ1 H1 D (k xs h1)) o := by
  cases o with
  | ok v h => exact fun φ' H' J e s g => ⟨φ', h, v, s, se.mono e, g, PostS.ext p e⟩
  | ex x h => exact fun φ' H' c d e s r => p φ' H' σ c d e s (se.mono e) r
  | no => exact p
def forL (g : TM) (f : SM) : List IV → SM
  | [] => fun σ h => .nx σ h
  | x :: xs => fun σ h => match g x σ h with
    | none => .no
    | some (σ, h) => match f σ h with
      | .nx σ h => forL g f xs σ h
      | .ct σ h => forL g f xs σ h
      | .bk σ h => .nx σ h
      | o => o
def forS (fi : IE → M (List IV)) (g : TM) (f : SM) : SM := fun σ h => (fi σ h).thn σ fun xs h => forL g f xs σ h
theorem ps_forI {tg iter : Expr} {fi : IE → M (List IV)} {g : TM} {f : SM} {body : List Stmt} (hp : PassesOwn (model X.prog X.w) X.A X.env X.xe) (hc : X.calm = true) (hi : PI X tg iter (tI P W fi)) (hg : PG X tg (tG P g)) (hb : PSs X body (tS P W f))
    (hs : ∀ x, foldedSetIterable iter X.env x = pure x) : PS X (.For tg iter body [] pos) (tS P W (forS fi g f)) := PS.weak (ps_for hp hc hi hg hb hs) fun D σ H hq => by
  obtain ⟨φ, h, σi, s, se, p⟩ := hq
  refine ⟨φ, h, σi, s, se, (PostI.thn se p).mono fun J H0 ⟨φ0, h0, xs, s0, se0, G, p0⟩ => ?_⟩
  refine ⟨fun i m σ H => ∃ φ h σi, SR P φ H h ∧ SE P φ H σi σ ∧ Ext φ0 H0 φ H ∧ i ≤ xs.length ∧ m = xs.length - i ∧ PostS P W φ H D (forL g f (xs.drop i) σi h),
    ⟨xs.length, φ0, h0, σi, s0, se0, Ext.refl _ _, Nat.zero_le _, by simp, by simpa using p0⟩, ?_⟩
  rintro i m σ H ⟨φ, h, σi, s, se, ex, hi, rfl, p⟩
  by_cases hlt : i < xs.length
  · refine .inr ⟨G.go i φ H hlt ex, fun σ' H' => ∃ φ h σi, SR P φ H' h ∧ SE P φ H' σi σ' ∧ Ext φ0 H0 φ H' ∧ i + 1 ≤ xs.length ∧ PostS P W φ H' D (forL g f (xs.drop (i + 1)) σi h), ?_, ?_⟩
    · rintro σ' H' ⟨φ, h, σi, s, se, ex, hi, p⟩
      exact ⟨xs.length - (i + 1), by omega, φ, h, σi, s, se, ex, hi, rfl, p⟩
    · intro x H' y
      have hx : xs[i]? = some xs[i] := by simp [hlt]
      obtain ⟨e1, sr, r⟩ := G.yld i φ H x H' ex y xs[i] hx
      have e2 : xs.drop i = xs[i] :: xs.drop (i + 1) := List.drop_eq_getElem_cons hlt
      rw [e2] at p
      unfold forL at p
      refine ⟨φ, h, σi, xs[i], sr P h s, se.mono e1, r P.av fun D m => .inl m, ?_⟩
      cases q : g xs[i] σi h with
      | none => rw [q] at p; exact p.elim
      | some z =>
        obtain ⟨σ1, h1⟩ := z
        rw [q] at p
        intro φ1 H1 σ1' ex1 s1 se1
        refine ⟨φ1, h1, σ1, s1, se1, ?_⟩
        have p' := (PostS.ext p e1).ext ex1
        dsimp only at p'
        have ex' : ∀ {φ' H'}, Ext φ1 H1 φ' H' → Ext φ0 H0 φ' H' := fun e => ((ex.trans e1).trans ex1).trans e
        cases e : f σ1 h1 with
        | nx σ2 h2 => rw [e] at p'; exact fun φ' H' σ' ex2 s2 se2 => ⟨φ', h2, σ2, s2, se2, ex' ex2, hlt, PostS.ext p' ex2⟩
        | ct σ2 h2 => rw [e] at p'; exact fun φ' H' σ' ex2 s2 se2 => ⟨φ', h2, σ2, s2, se2, ex' ex2, hlt, PostS.ext p' ex2⟩
        | bk σ2 h2 => rw [e] at p'; exact p'
        | rt v h2 => rw [e] at p'; exact p'
        | ex v σ2 h2 => rw [e] at p'; exact p'
        | no => rw [e] at p'; exact p'
  · have e : i = xs.length := by omega
    subst e
    refine .inl ⟨G.stop φ H ex, ?_⟩
    rw [List.drop_length] at p
    exact p φ H σ (Ext.refl _ _) s se

theorem PI.weak {tg e : Expr} {t t' : TI} (h : PI X tg e t) (k : ∀ σ H R, t' σ H R → t σ H R) : PI X tg e t' := ⟨fun pins s σ H R I hw => h.run pins s σ H R I (k σ H R hw)⟩
theorem goes_tup {a : Addr} {xs : List IV} {vs : List V} {φ : List Addr} {H : Hp} (hK : X.K = P.K) (h1 : SqT P.K H a vs) (r : VRs P φ H xs vs) : Goes P (Itt X.K a) xs φ H := by
  have st : ∀ {φ' H'}, Ext φ H φ' H' → SqT X.K H' a vs := fun e => by rw [hK]; exact e.seqT h1
  refine ⟨fun φ' H' e => ⟨vs, st e, by rw [r.length]; exact Nat.le_refl _⟩, fun i φ' H' hi e => ?_, fun i φ' H' x H2 e y v hv => ?_⟩
  · have hl : i < vs.length := by rw [r.length]; exact hi
    exact ⟨vs, vs[i], st e, by simp [hl]⟩
  · obtain ⟨rfl, q⟩ := y
    obtain ⟨u, e1, r1⟩ := r.get hv
    have := q vs (st e)
    rw [this] at e1; cases e1
    exact ⟨Ext.refl _ _, fun _ _ s => s, fun l k => VR.mono e _ _ (VR.avI k _ _ r1)⟩
theorem goes_lst {a : Addr} {xs : List IV} {vs : List V} {φ : List Addr} {H : Hp} (h1 : ∀ φ' H', Ext φ H φ' H' → SqL X.K H' a vs) (r : VRs P φ H xs vs) : Goes P (Itl X.K a) xs φ H := by
  refine ⟨fun φ' H' e => ⟨vs, h1 _ _ e, by rw [r.length]; exact Nat.le_refl _⟩, fun i φ' H' hi e => ?_, fun i φ' H' x H2 e y v hv => ?_⟩
  · have hl : i < vs.length := by rw [r.length]; exact hi
    exact ⟨vs, vs[i], h1 _ _ e, by simp [hl]⟩
  · obtain ⟨rfl, q⟩ := y
    obtain ⟨u, e1, r1⟩ := r.get hv
    have := q vs (h1 _ _ e)
    rw [this] at e1; cases e1
    exact ⟨Ext.refl _ _, fun _ _ s => s, fun l k => VR.mono e _ _ (VR.avI k _ _ r1)⟩
/-- a tuple -/
def tupIt (fa : IE → M IV) : IE → M (List IV) := fun σ h => (fa σ h).bind fun v h => match v with
  | .tup xs => .ok xs h
  | _ => .no
theorem pi_tupI {tg : Expr} (hK : X.K = P.K) (ha : PE X a (tE P W fa)) : PI X tg a (tI P W (tupIt fa)) := PI.weak (pi_tup ha) fun σ H R hq => by
  obtain ⟨φ, h, σi, s, se, p⟩ := hq
  refine ⟨φ, h, σi, s, se, ?_⟩
  unfold tupIt at p
  cases e : fa σi h with
  | ok v h1 =>
    simp only [e, Out.bind] at p
    split at p
    · intro φ' H' x ex s' r
      obtain ⟨b, vs, rfl, h2, r1⟩ := r.tupI
      exact ⟨b, rfl, ⟨vs, by rw [hK]; exact h2⟩, p φ' H' _ ex s' (goes_tup hK h2 r1)⟩
    · exact p.elim
  | ex v h1 => simp only [e, Out.bind] at p; exact p
  | no => simp only [e, Out.bind] at p; exact p
/-- a list that is left as it is -/
def lstIt (fa : IE → M IV) : IE → M (List IV) := fun σ h => (fa σ h).bind fun v h => match v with
  | .lst xs => .ok xs h
  | .scr xs => .ok xs h
  | _ => .no
theorem pi_lstI {tg : Expr} (hK : X.K = P.K) (ha : PE X a (tE P W fa)) : PI X tg a (tI P W (lstIt fa)) := PI.weak (pi_list ha) fun σ H R hq => by
  obtain ⟨φ, h, σi, s, se, p⟩ := hq
  refine ⟨φ, h, σi, s, se, ?_⟩
  unfold lstIt at p
  cases e : fa σi h with
  | ok v h1 =>
    simp only [e, Out.bind] at p
    split at p
    · intro φ' H' x ex s' r
      rw [VR] at r
      obtain ⟨b, vs, rfl, h2, hn, r1⟩ := r
      exact ⟨b, rfl, ⟨vs, .of h2⟩, p φ' H' _ ex s' (goes_lst (fun φ2 H2 e2 => .of (e2.keep _ _ h2 hn.1)) r1)⟩
    · intro φ' H' x ex s' r
      rw [VR] at r
      obtain ⟨b, vs, rfl, h2, r1⟩ := r
      exact ⟨b, rfl, ⟨vs, by rw [hK]; exact h2.sqL⟩, p φ' H' _ ex s' (goes_lst (fun φ2 H2 e2 => by rw [hK]; exact (e2.sqLi h2).sqL) r1)⟩
    · exact p.elim
  | ex v h1 => simp only [e, Out.bind] at p; exact p
  | no => simp only [e, Out.bind] at p; exact p
/-- range(n), range(m, n) -/
def rngL (lo : Int) (n : Nat) : List IV := (List.range n).map fun (i : Nat) => IV.int (lo + (i : Int))
theorem goes_rng {lo : Int} {n : Nat} {φ : List Addr} {H : Hp} : Goes P (Itr lo n) (rngL lo n) φ H := by
  refine ⟨fun φ' H' e => (by show n ≤ (rngL lo n).length; simp [rngL]), fun i φ' H' hi e => (by show i < n; simpa [rngL] using hi), fun i φ' H' x H2 e y v hv => ?_⟩
  obtain ⟨rfl, rfl⟩ := y
  refine ⟨Ext.refl _ _, fun _ _ s => s, fun l k => ?_⟩
  unfold rngL at hv
  rw [List.getElem?_map] at hv
  have hi : i < n := by
    by_cases hi : i < n
    · exact hi
    · rw [List.getElem?_eq_none (by simpa using hi)] at hv; cases hv
  simp [hi] at hv
  subst hv
  rw [VR]
def rngIt (fs : IE → M (List IV)) : IE → M (List IV) := fun σ h => (fs σ h).bind fun xs h => match xs with
  | [.int j] => if -(2 ^ 62) ≤ j ∧ j < 2 ^ 62 then .ok (rngL 0 j.toNat) h else .no
  | _ => .no
theorem pi_rngI {tg : Expr} {p0 : Pos} {fs : IE → M (List IV)} (hg : Gl X "range") (hm : X.mg "range" = none) (ha : PA X [a] (tAr P W fs)) (hs : starEach [a] X.env = [(false, eval a X.env)]) : PI X tg (.Call (.Name "range" p0) [a] [] pos) (tI P W (rngIt fs)) :=
  PI.weak (pi_range1 hg hm ha hs) fun σ H R hq => by
  obtain ⟨φ, h, σi, s, se, p⟩ := hq
  refine ⟨φ, h, σi, s, se, ?_⟩
  unfold rngIt at p
  cases e : fs σi h with
  | ok v h1 =>
    simp only [e, Out.bind] at p
    split at p
    · split at p
      · rename_i z
        intro φ' H' x ex s' r
        simp only [VRs, VR] at r
        obtain ⟨_, _, rfl, rfl, rfl⟩ := r
        exact ⟨_, rfl, z.1, z.2, p φ' H' _ ex s' goes_rng⟩
      · exact p.elim
    · exact p.elim
  | ex v h1 => simp only [e, Out.bind] at p; exact p
  | no => simp only [e, Out.bind] at p; exact p
end
end EV
namespace EV
open PySem PySem.Spec PyProof.Rows L2

mutual
def pureV : IV → Bool
  | .ref _ => false
  | .tup xs => pureVs xs
  | .lst xs => pureVs xs
  | .scr xs => pureVs xs
  | .dct ks vs => pureVs ks && pureVs vs
  | .exc _ _ _ xs => pureVs xs
  | .fn _ _ _ _ xs _ => pureVs xs
  | _ => true
def pureVs : List IV → Bool
  | [] => true
  | x :: xs => pureV x && pureVs xs
end
def pureO : IO → Bool
  | .lst xs => pureVs xs
  | .dct ks vs => pureVs ks && pureVs vs
  | .ins _ _ => false
  | .lck _ _ => false
  | .ktp xs => pureVs xs
def pureH (h : IH) : Bool := h.all pureO
def pureF : List (Str × IV) → Bool
  | [] => true
  | (_, x) :: r => pureV x && pureF r
def IO.val : IO → IV
  | .lst xs => .lst xs
  | .dct ks vs => .dct ks vs
  | .ins _ _ => .non
  | .lck _ _ => .non
  | .ktp xs => .tup xs
/-- what is left behind a call that began with n places -/
def settle (fz : Bool) (n : Nat) : Out IV → Out IV
  | .ok v h => if pureH (h.take n) = true then
      if pureV v = true then .ok v (h.take n)
      else match v with
        | .ref r => match h[r]? with
          | some o => if n ≤ r ∧ pureO o = true then (if fz = true then .ok o.val (h.take n) else .ok (.ref n) (h.take n ++ [o])) else .ok v h
          | none => .ok v h
        | _ => .ok v h
    else .ok v h
  | .ex e h => if pureH (h.take n) = true ∧ pureF e.fs = true then .ex e (h.take n) else .ex e h
  | .no => .no

section
variable {P : Par} {W : WX} {φ φ' : List Addr} {H H' : Hp}
mutual
/-- a plain value stands with fewer places told -/
theorem VR.sub (hs : ∀ c ∈ φ, c ∈ φ') : ∀ (x : IV) (v : V), pureV x = true → VR P φ' H x v → VR P φ H x v
  | .non, _, _, h | .bl _, _, _, h | .int _, _, _, h | .str _, _, _, h | .ty _, _, _, h | .glo _, _, _, h => by simpa only [VR] using h
  | .ref n, _, p, _ => by simp [pureV] at p
  | .tup xs, _, p, h => by
    rw [VR] at h ⊢
    obtain ⟨a, vs, h1, h2, h3⟩ := h
    exact ⟨a, vs, h1, h2, VRs.sub hs xs vs (by simpa [pureV] using p) h3⟩
  | .lst xs, _, p, h => by
    rw [VR] at h ⊢
    obtain ⟨a, vs, h1, h2, h3, h4⟩ := h
    exact ⟨a, vs, h1, h2, ⟨fun m => h3.1 (hs _ m), h3.2⟩, VRs.sub hs xs vs (by simpa [pureV] using p) h4⟩
  | .scr xs, _, p, h => by
    rw [VR] at h ⊢
    obtain ⟨a, vs, h1, h2, h3⟩ := h
    exact ⟨a, vs, h1, h2, VRs.sub hs xs vs (by simpa [pureV] using p) h3⟩
  | .dct ks us, _, p, h => by
    rw [VR] at h ⊢
    obtain ⟨a, o, es, h1, h2, h3, h4, h5, h6⟩ := h
    have p' : pureVs ks = true ∧ pureVs us = true := by simpa [pureV] using p
    exact ⟨a, o, es, h1, h2, ⟨fun m => h3.1 (hs _ m), h3.2⟩, VRs.sub hs ks _ p'.1 h4, VRs.sub hs us _ p'.2 h5, h6⟩
  | .exc a dd ns xs, _, p, h => by
    rw [VR] at h ⊢
    obtain ⟨h1, h | ⟨vs, h2, h3, h4⟩⟩ := h
    · exact ⟨h1, .inl h⟩
    · exact ⟨h1, .inr ⟨vs, h2, ⟨fun m => h3.1 (hs _ m), h3.2⟩, VRs.sub hs xs vs (by simpa [pureV] using p) h4⟩⟩
  | .fn a c q ix xs σ, _, p, h => by
    rw [VR] at h ⊢
    obtain ⟨h1, h2, h3, vs, h4, h5⟩ := h
    exact ⟨h1, h2, ⟨fun m => h3.1 (hs _ m), h3.2⟩, vs, h4, VRs.sub hs xs vs (by simpa [pureV] using p) h5⟩
theorem VRs.sub (hs : ∀ c ∈ φ, c ∈ φ') : ∀ (xs : List IV) (vs : List V), pureVs xs = true → VRs P φ' H xs vs → VRs P φ H xs vs
  | [], _, _, h => by simpa only [VRs] using h
  | x :: xs, _, p, h => by
    rw [VRs] at h ⊢
    obtain ⟨v, r, h1, h2, h3⟩ := h
    have p' : pureV x = true ∧ pureVs xs = true := by simpa [pureVs] using p
    exact ⟨v, r, h1, VR.sub hs x v p'.1 h2, VRs.sub hs xs r p'.2 h3⟩
end
theorem FRs.sub (hs : ∀ c ∈ φ, c ∈ φ') : ∀ {fs : List (Str × IV)} {vs : List (Str × V)}, pureF fs = true → FRs P φ' H fs vs → FRs P φ H fs vs
  | [], _, _, h => by simpa only [FRs] using h
  | (f, x) :: r, _, p, h => by
    rw [FRs] at h ⊢
    obtain ⟨v, t, h1, h2, h3⟩ := h
    have p' : pureV x = true ∧ pureF r = true := by simpa [pureF] using p
    exact ⟨v, t, h1, VR.sub hs x v p'.1 h2, FRs.sub hs p'.2 h3⟩
theorem OR.sub (hs : ∀ c ∈ φ, c ∈ φ') {a : Addr} : ∀ {o : IO}, pureO o = true → OR P φ' H a o → OR P φ H a o
  | .lst xs, p, ⟨vs, h1, h2⟩ => ⟨vs, h1, VRs.sub hs xs vs (by simpa [pureO] using p) h2⟩
  | .dct ks us, p, ⟨o, es, h1, h2, h3, h4⟩ =>
    have p' : pureVs ks = true ∧ pureVs us = true := by simpa [pureO] using p
    ⟨o, es, h1, VRs.sub hs ks _ p'.1 h2, VRs.sub hs us _ p'.2 h3, h4⟩
  | .ins _ _, p, _ => by simp [pureO] at p
  | .lck _ _, p, _ => by simp [pureO] at p
  | .ktp xs, p, ⟨o, vs, h1, h2, h3, h4⟩ => ⟨o, vs, h1, h2, h3, VRs.sub hs xs vs (by simpa [pureO] using p) h4⟩
theorem pureH_get {h : IH} {n : Nat} {o : IO} (p : pureH h = true) (e : h[n]? = some o) : pureO o = true := by
  unfold pureH at p
  exact List.all_eq_true.mp p o (List.mem_of_getElem? e)
theorem Ext.sub (e : Ext φ H φ' H') : ∀ c ∈ φ, c ∈ φ' := by
  obtain ⟨⟨t, rfl, _⟩, _⟩ := e
  exact fun c hc => List.mem_append_left _ hc
theorem Ext.back (e : Ext φ H φ' H') : Ext φ H φ H' := ⟨⟨[], by simp, by simp⟩, fun b o h n nt => e.keep b o h n nt, e.tups, e.frzs, e.there⟩
/-- a place more is told -/
theorem SR.tell {h : IH} (s : SR P φ H h) {t : Addr} (hn : Off P φ t) {io : IO} (r : OR P (φ ++ [t]) H t io) (mo : ∀ (n : Nat) (io : IO) (a : Addr), h[n]? = some io → φ[n]? = some a → OR P (φ ++ [t]) H a io) :
    SR P (φ ++ [t]) H (h ++ [io]) := by
  refine ⟨by simp [s.len], ?_, fun a m => ⟨fun k => ?_, (s.av a m).2⟩, fun n o' a e1 e2 => ?_, fun q hq => (s.tab q hq).stay fun b u e n' w => ⟨e, fun m => ?_, n'.2⟩, s.tbo⟩
  · refine List.nodup_append.mpr ⟨s.nd, by simp, fun a ha b hb e => ?_⟩
    simp at hb; subst hb; subst e
    exact hn.1 ha
  · rcases List.mem_append.mp k with k | k
    · exact (s.av a m).1 k
    · simp at k; subst k; exact hn.2 m
  · by_cases hl : n < h.length
    · rw [List.getElem?_append_left hl] at e1
      rw [List.getElem?_append_left (by rw [s.len]; exact hl)] at e2
      exact mo n o' a e1 e2
    · have hn' : n = h.length := by
        have := (List.getElem?_eq_some_iff.mp e1).1
        simp at this; omega
      subst hn'
      simp at e1
      rw [← s.len] at e2
      simp at e2
      subst e1 e2
      exact r
  · rcases List.mem_append.mp m with m | m
    · exact n'.1 m
    · have z : b = t := by simpa using m
      subst z
      have ro : ∃ o', H b = some o' ∧ (∀ ps, o' ≠ .tbl ps) ∧ ∀ q, o' ≠ LamX.CodeO b q := by
        cases io with
        | lst xs => obtain ⟨vs, e1, _⟩ := r; exact ⟨_, e1, fun ps z => (by cases z), fun q => lst_ne_code⟩
        | dct ks us => obtain ⟨o, es, e1, _⟩ := r; exact ⟨_, e1, fun ps => DctO.ne_tbl, fun q => DctO.ne_code⟩
        | ins c vs => obtain ⟨dx, ws, e1, _⟩ := r; obtain ⟨o, e2, k⟩ := slAt_obj e1; exact ⟨o, e2, k.tbl, fun q => k.code _ q⟩
        | lck ks us => obtain ⟨od, o, es, e1, _⟩ := r; exact ⟨_, e1, fun ps z => (by cases z), fun q z => by unfold LamX.CodeO at z; cases z⟩
        | ktp xs => obtain ⟨o, vs, e1, _⟩ := r; exact ⟨_, e1, fun ps z => (by cases z), fun q z => by unfold LamX.CodeO at z; cases z⟩
      obtain ⟨o', e1, e2, e3⟩ := ro
      rw [e] at e1
      cases e1
      rcases w with ⟨⟨ps, w⟩, _⟩ | ⟨q', w⟩
      · exact e2 _ w
      · exact e3 _ w
/-- the places of the beginning alone -/
theorem SR.back {h' : IH} (e : Ext φ H φ' H') (s : SR P φ' H' h') (p : pureH (h'.take φ.length) = true) (nd : φ.Nodup) : SR P φ H' (h'.take φ.length) := by
  have hs := e.sub
  obtain ⟨⟨t, rfl, ht⟩, k, tu, fz, th⟩ := e
  have hl : φ.length ≤ h'.length := by have := s.len; simp at this; omega
  refine ⟨by simp; omega, nd, fun a m => ⟨fun k => (s.av a m).1 (List.mem_append_left _ k), (s.av a m).2⟩, fun n o a e1 e2 => ?_, fun q hq => (s.tab q hq).stay fun b u e n' _ => ⟨e, fun m => n'.1 (List.mem_append_left _ m), n'.2⟩, s.tbo⟩
  have hn : n < φ.length := (List.getElem?_eq_some_iff.mp e2).1
  have q := pureH_get p e1
  rw [List.getElem?_take_of_lt hn] at e1
  exact OR.sub hs q (s.obj n o a e1 (by rw [List.getElem?_append_left hn]; exact e2))
/-- .. and one more -/
theorem SR.back1 {h' : IH} {a : Addr} {o : IO} (e : Ext φ H φ' H') (s : SR P φ' H' h') (p : pureH (h'.take φ.length) = true) (nd : φ.Nodup) (ha : a ∈ φ') (na : Off P φ a) (po : pureO o = true) (ho : OR P φ' H' a o) : SR P (φ ++ [a]) H' (h'.take φ.length ++ [o]) := by
  have s2 := SR.back e s p nd
  have hs : ∀ c ∈ φ ++ [a], c ∈ φ' := fun c hc => by
    rcases List.mem_append.mp hc with hc | hc
    · exact e.sub c hc
    · simp at hc; subst hc; exact ha
  refine SR.tell s2 na (OR.sub hs po ho) fun n io b e1 e2 => ?_
  have hn : n < φ.length := (List.getElem?_eq_some_iff.mp e2).1
  have q := pureH_get p e1
  rw [List.getElem?_take_of_lt hn] at e1
  exact OR.sub hs q (s.obj n io b e1 (e.get e2))
theorem XR.sub (hs : ∀ c ∈ φ, c ∈ φ') {e : IX} {c : Value} {d : Option Addr} (p : pureF e.fs = true) (x : XR P φ' H e c d) : XR P φ H e c d := by
  refine ⟨x.cls, ?_⟩
  rcases x.fs with h | ⟨dd, vs, h1, h2, h3, h4⟩
  · exact .inl h
  · exact .inr ⟨dd, vs, h1, ⟨fun m => h2.1 (hs _ m), h2.2⟩, h3, FRs.sub hs p h4.1, h4.2⟩
theorem settle_ok {σ : L2.St} {Q : VK} {fz : Bool} {h : IH} {o : Out IV} (s : SR P φ H h) (p : Post P W σ φ H Q (settle fz h.length o)) : Post P W σ φ H Q o := by
  have hlen := s.len
  cases o with
  | no => exact p
  | ex e h' =>
    intro φ' H' c d ex s' x
    simp only [settle] at p
    split at p
    · rename_i z
      rw [← hlen] at z p
      exact p φ H' c d ex.back (SR.back ex s' z.1 s.nd) (XR.sub ex.sub z.2 x)
    · exact p φ' H' c d ex s' x
  | ok v h' =>
    intro φ' H' x ex s' r
    simp only [settle] at p
    split at p
    · rename_i z
      rw [← hlen] at z
      split at p
      · rename_i pv
        rw [← hlen] at p
        exact p φ H' x ex.back (SR.back ex s' z s.nd) (VR.sub ex.sub v x pv r)
      · split at p
        · rename_i rr _
          split at p
          · rename_i o ho
            split at p
            · rename_i q
              obtain ⟨q1, q2⟩ := q
              rw [← hlen] at q1 p
              rw [VR] at r
              obtain ⟨a, ha, rfl⟩ := r
              have ho' := s'.obj rr o a ho ha
              have hat : H a = none ∧ a ∈ φ' := by
                obtain ⟨t, rfl, ht⟩ := ex.pre
                rw [List.getElem?_append_right q1] at ha
                have m := List.mem_of_getElem? ha
                exact ⟨ht a m, List.mem_append_right _ m⟩
              have haφ : Off P φ a := s.fresh hat.1
              split at p
              · refine p φ H' (.ref a) ex.back (SR.back ex s' z s.nd) ?_
                have ho2 : OR P φ H' a o := OR.sub ex.sub q2 ho'
                cases o with
                | lst xs => obtain ⟨vs, k1, k2⟩ := ho2; show VR P φ H' (.lst xs) _; rw [VR]; exact ⟨a, vs, rfl, k1, haφ, k2⟩
                | dct ks us => obtain ⟨ob, es, k1, k2, k3, k4⟩ := ho2; show VR P φ H' (.dct ks us) _; rw [VR]; exact ⟨a, ob, es, rfl, k1, haφ, k2, k3, k4⟩
                | ins c vs => simp [pureO] at q2
                | lck ks us => simp [pureO] at q2
                | ktp xs => obtain ⟨ob, vs, k1, k2, k3, k4⟩ := ho2; show VR P φ H' (.tup xs) _; rw [VR]; exact ⟨a, vs, rfl, .inl (.inr ⟨ob, k1⟩), k4⟩
              · have e4 : Ext φ H (φ ++ [a]) H' := ⟨⟨[a], rfl, by simpa using hat.1⟩, fun b o h n nt => ex.keep b o h n nt, ex.tups, ex.frzs, ex.there⟩
                refine p (φ ++ [a]) H' (.ref a) e4 (SR.back1 ex s' z s.nd hat.2 haφ q2 ho') ?_
                rw [VR]
                exact ⟨a, by simp, rfl⟩
            · exact p φ' H' _ ex s' r
          · exact p φ' H' _ ex s' r
        · exact p φ' H' x ex s' r
    · exact p φ' H' x ex s' r
end

/-- what a call of a def gives: from the values of its parameters -/
abbrev CM := List IV → M IV
def startI (n : Nat) (vs : List IV) : IE := vs.map some ++ List.replicate (n - vs.length) none
/-- a def by its body, with so many names -/
def defM (n : Nat) (f : SM) : CM := fun vs h => match f (startI n vs) h with
  | .rt v h => .ok v h
  | .nx _ h => .ok .non h
  | .ex e _ h => .ex e h
  | _ => .no
/-- the promise of a def with np parameters -/
def spI (P : Par) (np : Nat) (c : CM) : Sp := fun vs H Q E => vs.length = np ∧ ∃ av φ h ivs, SR (P.at av) φ H h ∧ VRs (P.at av) φ H ivs vs ∧ Post (P.at av) (fun c d _ H => E c d H) [] φ H Q (c ivs h)
theorem SE.start {P : Par} {φ : List Addr} {H : Hp} {N : List Str} {ivs : List IV} {vs : List V} (r : VRs P φ H ivs vs) : SE P φ H (startI N.length ivs) (L2.start N vs) := by
  have hl := r.length
  refine ⟨by simp [startI, L2.start, hl], fun i x e => ?_⟩
  unfold startI at e
  unfold L2.start
  by_cases hi : i < ivs.length
  · rw [List.getElem?_append_left (by simpa using hi), List.getElem?_map] at e
    cases q : ivs[i]? with
    | none => rw [q] at e; cases e
    | some y =>
      rw [q] at e
      simp at e; subst e
      obtain ⟨v, e1, r1⟩ := r.get q
      refine ⟨v, ?_, r1⟩
      rw [List.getElem?_append_left (by simp [hl, hi]), List.getElem?_map, e1]; rfl
  · rw [List.getElem?_append_right (by simpa using hi), List.getElem?_replicate] at e
    split at e <;> cases e
theorem Post.sigma {P : Par} {W W' : WX} {σ σ' : L2.St} {φ : List Addr} {H : Hp} {Q : VK} {o : Out IV} (p : Post P W σ φ H Q o) (k : ∀ c d H, W c d σ H → W' c d σ' H) : Post P W' σ' φ H Q o := by
  cases o with
  | ok v h => exact p
  | ex e h => exact fun φ' H' c d ex s x => k c d H' (p φ' H' c d ex s x)
  | no => exact p
/-- a body's reading, from its promise -/
theorem tS_body {P : Par} {N : List Str} {np : Nat} {f : SM} {vs : List V} {H : Hp} {Q : VK} {E : XK} (h : spI P np (defM N.length f) vs H Q E) :
    ∃ av, tS (P.at av) (fun c d _ H => E c d H) f { nx := fun _ H' => Q .non H', rt := Q } (L2.start N vs) H := by
  obtain ⟨_, av, φ, hp, ivs, s, r, p⟩ := h
  refine ⟨av, φ, hp, _, s, SE.start r, ?_⟩
  unfold defM at p
  cases e : f (startI N.length ivs) hp with
  | nx σ h1 => rw [e] at p; exact fun φ' H' σ' ex s' se => p φ' H' .non ex s' (by rw [VR])
  | rt v h1 => rw [e] at p; exact p
  | bk σ h1 => rw [e] at p; exact p.elim
  | ct σ h1 => rw [e] at p; exact p.elim
  | ex x σ h1 => rw [e] at p; exact fun φ' H' σ' c d ex s' se x => p φ' H' c d ex s' x
  | no => rw [e] at p; exact p
theorem PSs.exi {X : Cx} {α : Type} {b : List Stmt} {t : α → TS} (h : ∀ a, PSs X b (t a)) : PSs X b (fun D σ H => ∃ a, t a D σ H) := ⟨fun pins s σ H D I ⟨a, hw⟩ => (h a).run pins s σ H D I hw⟩
/-- the code object of the function at f -/
def codeA (K : PySem.W.Frag) (f : Addr) : Addr := match K.lookup f with
  | some ⟨_, _, .func fd, _⟩ => (match fd.code with
    | .ref c => c
    | _ => 0)
  | _ => 0
/-- a def's promise where no repr is under way -/
structure FnG (Pr : Program) (w : World) (K : PySem.W.Frag) (mg : Str → Option Value) (base : Heap) (CX : CXT) (k : Nat) (f : Addr) (fd : FuncData) (ps : List Str) (sp : Sp) : Prop where
  len : ∀ vs H Q E, sp vs H Q E → vs.length = ps.length
  run : ∀ (A : Around) (outer : List Env) (s : Shared) (H : Hp) (args : Args) (us : List Value) (vs : List V) (Q : VK) (E : XK), Room k A → A.guards = some [] → Env0 Pr w K mg base A outer s H → BindsTo s fd args (ps.zip us) → Vals vs us → sp vs H Q E →
    codeAny (model Pr w) A (.call (.ref f) args) (CR CX outer Pr w H s Q E) s
theorem FnG.mono {Pr : Program} {w : World} {K : PySem.W.Frag} {mg : Str → Option Value} {base : Heap} {CX : CXT} {j k : Nat} {f : Addr} {fd : FuncData} {ps : List Str} {sp : Sp} (F : FnG Pr w K mg base CX j f fd ps sp) (h : j ≤ k) : FnG Pr w K mg base CX k f fd ps sp :=
  ⟨F.len, fun A outer s H args us vs Q E hr hg => F.run A outer s H args us vs Q E (hr.mono h) hg⟩
/-- a def keeps its promise: by its body -/
theorem fn_okI {P : Par} {Pr : Program} {w : World} {mg : Str → Option Value} {base : Heap} {x qual : Str} {params : Arguments} {body : List Stmt} {scope : Scope} {dvs : List V} {kws : List (Str × V)} {fA : Addr} {fd : FuncData} {N ps : List Str} {k : Nat} {f : SM}
    (F : FunD P.K x qual params body scope dvs kws fA fd) (S : FnScope N ps scope)
    (hb : ∀ (av : List Addr) (cdv : Value) (A : Around) (outer : List Env) (s : Shared) (H : Hp) (E : XK), Room k (A.deeper (envOfC qual scope s.heap.objs.size fA cdv)) → A.guards = some [] → cdv = .ref (codeA P.K fA) →
      PSs (cxOf (L2.CX Pr w) Pr w P.K mg base N qual scope fA cdv A outer s H E) body (tS (P.at av) (fun c d _ H => E c d H) f)) :
    FnG Pr w P.K mg base (L2.CX Pr w) (k + 1) fA fd ps (spI P ps.length (defM N.length f)) := by
  obtain ⟨oc, od, dV, kV, doc, pm, an, cdv, ct, osl, rfl, lk, hcd, _, _⟩ := F.ex
  have hc : cdv = .ref (codeA P.K fA) := by
    cases cdv with
    | ref c => unfold codeA; rw [lk]
    | _ => cases hcd
  exact ⟨fun vs H Q E h => h.1, fun A outer s H args us vs Q E hr hg e0 hbi r h => LamX.run_ofS lk hcd S hr e0 hbi r h.1 fun hr' => ⟨_, PSs.exi fun av => hb av cdv A outer s H E hr' hg hc, tS_body h⟩⟩

end EV
namespace EV
open PySem PySem.Spec PyProof.Rows L2

def wipeI (σ : IE) : List Nat → IE
  | [] => σ
  | v :: vs => (wipeI σ vs).set v none
/-- no exception is taken here -/
abbrev WF : WX := fun _ _ _ _ => False
section
variable {P : Par} {φ : List Addr} {H : Hp}
theorem SE.unset {σi : IE} {σ : L2.St} (s : SE P φ H σi σ) (v : Nat) : SE P φ H (σi.set v none) (σ.set v none) := by
  refine ⟨by simp [s.len], fun i x e => ?_⟩
  by_cases hi : v = i
  · subst hi
    by_cases hv : v < σi.length
    · rw [List.getElem?_set_self hv] at e; cases e
    · rw [List.getElem?_eq_none (by simpa using hv)] at e; cases e
  · rw [List.getElem?_set_ne hi] at e ⊢
    exact s.val i x e
theorem SE.wipe {σi : IE} {σ : L2.St} (s : SE P φ H σi σ) : ∀ vs, SE P φ H (wipeI σi vs) (L2.wipe σ vs)
  | [] => s
  | v :: vs => (SE.wipe s vs).unset v
theorem wipe_set {σ : L2.St} {i : Nat} {x : Option V} : ∀ {vs : List Nat}, i ∈ vs → L2.wipe (σ.set i x) vs = L2.wipe σ vs
  | [], m => by simp at m
  | v :: vs, m => by
    unfold L2.wipe
    by_cases e : i ∈ vs
    · rw [wipe_set e]
    · have e2 : i = v := by
        rcases List.mem_cons.mp m with m | m
        · exact m
        · exact absurd m e
      subst e2
      clear m e
      induction vs with
      | nil => simp [L2.wipe]
      | cons w vs ih =>
        unfold L2.wipe
        by_cases z : w = i
        · subst z
          have a : ∀ (l : L2.St), (l.set w none).set w none = l.set w none := fun l => by simp
          rw [a, a]; exact ih
        · rw [List.set_comm _ _ z, ih, List.set_comm _ _ (Ne.symm z)]
theorem wipe_idem {σ : L2.St} : ∀ (vs : List Nat), L2.wipe (L2.wipe σ vs) vs = L2.wipe σ vs := by
  have k : ∀ (v : Nat) (us : List Nat) (σ : L2.St), v ∈ us → (L2.wipe σ us).set v none = L2.wipe σ us := by
    intro v us
    induction us with
    | nil => intro _ m; simp at m
    | cons u us ih =>
      intro σ m
      unfold L2.wipe
      by_cases z : v = u
      · subst z; simp
      · have m' : v ∈ us := by
          rcases List.mem_cons.mp m with m | m
          · exact absurd m z
          · exact m
        rw [List.set_comm _ _ (Ne.symm z), ih σ m']
  have k2 : ∀ (us vs : List Nat) (σ : L2.St), (∀ v ∈ us, v ∈ vs) → L2.wipe (L2.wipe σ vs) us = L2.wipe σ vs := by
    intro us vs σ
    induction us with
    | nil => intro _; rfl
    | cons u us ih =>
      intro m
      unfold L2.wipe
      rw [ih fun v hv => m v (List.mem_cons_of_mem _ hv)]
      cases vs with
      | nil => exact absurd (m u List.mem_cons_self) (by simp)
      | cons w ws => exact k u (w :: ws) σ (m u List.mem_cons_self)
  exact fun vs => k2 vs vs σ fun _ h => h
end

section
variable (P : Par) (vs : List Nat)
def PostGw (σ0 : L2.St) (φ : List Addr) (H : Hp) (Q : L2.St → Hp → Prop) : Option (IE × IH) → Prop
  | some (σi, h') => ∀ φ' H' σ', Ext φ H φ' H' → SR P φ' H' h' → SE P φ' H' σi σ' → L2.wipe σ' vs = L2.wipe σ0 vs → Q σ' H'
  | none => False
def tGw (f : TM) : TG := fun v σ H Q => ∃ φ h σi iv, SR P φ H h ∧ SE P φ H σi σ ∧ VR P φ H iv v ∧ PostGw P vs σ φ H Q (f iv σi h)
def tGsw (f : TMs) : TGs := fun us σ H Q => ∃ φ h σi ivs, SR P φ H h ∧ SE P φ H σi σ ∧ VRs P φ H ivs us ∧ PostGw P vs σ φ H Q (f ivs σi h)
end
section
variable {X : Cx} {P : Par} {vs : List Nat} {pos : Pos} {a : Expr}
theorem PostGw.ext {σ0 : L2.St} {φ φ1 : List Addr} {H H1 : Hp} {Q : L2.St → Hp → Prop} {o : Option (IE × IH)} (p : PostGw P vs σ0 φ H Q o) (e : Ext φ H φ1 H1) : PostGw P vs σ0 φ1 H1 Q o := by
  cases o with
  | some q => exact fun φ' H' σ' e' => p φ' H' σ' (e.trans e')
  | none => exact p
theorem pg_nmW {i : Nat} {x : Str} (hi : i ∈ vs) (hg : PG X (.Name x pos) (gName i)) : PG X (.Name x pos) (tGw P vs (gNm i)) := PG.weak hg fun v σ H Q hq => by
  obtain ⟨φ, h, σi, iv, s, se, r, p⟩ := hq
  exact p φ H _ (Ext.refl _ _) s (se.set r i) (wipe_set hi)
theorem pgs_nilW : PGs X [] (tGsw P vs gsNil) := PGs.weak pgs_nil fun v σ H Q hq => by
  obtain ⟨φ, h, σi, iv, s, se, r, p⟩ := hq
  unfold gsNil at p
  split at p
  · rw [VRs] at r; exact ⟨r, p φ H _ (Ext.refl _ _) s se rfl⟩
  · exact p.elim
theorem pgs_consW {es : List Expr} {g : TM} {gs : TMs} (h1 : PG X a (tGw P vs g)) (h2 : PGs X es (tGsw P vs gs)) (hs : (assignEach (a :: es) X.env).map (·.2) = assign a X.env :: (assignEach es X.env).map (·.2)) :
    PGs X (a :: es) (tGsw P vs (gsCons g gs)) := PGs.weak (pgs_cons h1 h2 hs) fun us σ H Q hq => by
  obtain ⟨φ, h, σi, ivs, s, se, r, p⟩ := hq
  unfold gsCons at p
  split at p
  · rename_i v rest
    rw [VRs] at r
    obtain ⟨u, us, rfl, r1, r2⟩ := r
    refine ⟨u, us, rfl, φ, h, σi, v, s, se, r1, ?_⟩
    split at p
    · rename_i σ1 h1' e
      rw [e]
      refine fun φ' H' σ' ex s' se' w => ⟨φ', h1', σ1, rest, s', se', r2.mono ex, ?_⟩
      have p' := PostGw.ext p ex
      cases q : gs rest σ1 h1' with
      | none => rw [q] at p'; exact p'
      | some z => rw [q] at p'; exact fun φ2 H2 σ2 e2 s2 se2 w2 => p' φ2 H2 σ2 e2 s2 se2 (w2.trans w)
    · exact p.elim
  · exact p.elim
theorem pg_tupW {es : List Expr} {k n : Nat} {gs : TMs} (hK : X.K = P.K) (hc : X.calm = true) (h2 : PGs X es (tGsw P vs gs)) (hn : (assignEach es X.env).length = n) (hst : (assignEach es X.env).findIdx? (·.1) = none) :
    PG X (.Tuple es k pos) (tGw P vs (gTp n gs)) := PG.weak (pg_tup hc h2 hn hst) fun v σ H Q hq => by
  obtain ⟨φ, h, σi, iv, s, se, r, p⟩ := hq
  unfold gTp at p
  split at p
  · obtain ⟨a, vs, rfl, h1, r1⟩ := r.tupI
    split at p
    · rename_i z
      exact ⟨a, vs, rfl, by rw [hK]; exact h1, by rw [r1.length]; exact z, φ, h, σi, _, s, se, r1, p⟩
    · exact p.elim
  · exact p.elim
theorem PTs.weak {es : List Expr} {t t' : TT} (h : PTs X es t) (k : ∀ σ H Q, t' σ H Q → t σ H Q) : PTs X es t' := ⟨fun pins s σ H Q I hw => h.run pins s σ H Q I (k σ H Q hw)⟩
def yesT : IE → M Bool := fun _ h => .ok true h
theorem pts_nilI {W : WX} : PTs X [] (tT P W yesT) := PTs.weak pts_nil fun σ H Q hq => by
  obtain ⟨φ, h, σi, s, se, p⟩ := hq
  exact p φ H (Ext.refl _ _) s
theorem pts_oneI {W : WX} {t : IE → M Bool} (h : PT X a (tT P W t)) : PTs X [a] (tT P W t) := pts_one h
end

def compM (g : TM) (t : IE → M Bool) (f : IE → M IV) (σ0 : IE) : List IV → M (List IV)
  | [] => fun h => .ok [] h
  | x :: xs => fun h => match g x σ0 h with
    | none => .no
    | some (σ1, h1) => match t σ1 h1 with
      | .ok true h2 => (match f σ1 h2 with
        | .ok v h3 => (compM g t f σ0 xs h3).bind fun vs h => .ok (v :: vs) h
        | _ => .no)
      | .ok false h2 => compM g t f σ0 xs h2
      | _ => .no
def lcI (fi : IE → M (List IV)) (g : TM) (t : IE → M Bool) (f : IE → M IV) (ws : List Nat) : IE → M IV := fun σ h => (fi σ h).bind fun xs h =>
  if xs.length ≤ 16777216 then (compM g t f (wipeI σ ws) xs h).bind fun vs h => .ok (.lst vs) h else .no

theorem Out.bind_ok {α β γ : Type} (o : Out α) (k : α → M β) (m : β → M γ) : (o.bind k).bind m = o.bind fun a h => (k a h).bind m := by cases o <;> rfl
theorem Ext.under {φ φ' : List Addr} {H H' : Hp} {D : Addr} {o : HO} (e : Ext φ H φ' H') (hD : H D = none) : Ext φ H φ' (upd H' D o) := by
  have ne : ∀ b u, H b = some u → b ≠ D := fun b u e z => by rw [z, hD] at e; cases e
  exact ⟨e.pre, fun b u k m nt => (upd_ne (ne b u k)).trans (e.keep b u k m nt), fun b u k => (upd_ne (ne b _ k)).trans (e.tups b u k), fun b o' u k => (upd_ne (ne b _ k)).trans (e.frzs b o' u k), fun b u k => let ⟨w, z⟩ := e.there b u k; ⟨w, (upd_ne (ne b u k)).trans z⟩⟩

section
variable {X : Cx} {P : Par} {W : WX}
theorem lc_read {fi : IE → M (List IV)} {g : TM} {t : IE → M Bool} {f : IE → M IV} {own : List (Str × Nat)} {av : List Addr} {σ : L2.St} {H : Hp} {Q : VK}
    (hq : tE (P.at av) W (lcI fi g t f (own.map (·.2))) σ H Q) : 
    tLc (tI (P.at av) W fi) (fun v σ H Q => ∃ l, tGw (P.at l) (own.map (·.2)) g v σ H Q) (fun σ H Q => ∃ l, tT (P.at l) WF t σ H Q) (fun σ H Q => ∃ l, tE (P.at l) WF f σ H Q) (own.map (·.2)) σ H Q := by
  generalize own.map (·.2) = ws at hq ⊢
  obtain ⟨φ, h, σi, s, se, p⟩ := hq
  unfold tLc
  refine ⟨φ, h, σi, s, se, ?_⟩
  unfold lcI at p
  cases e : fi σi h with
  | ex x h1 => rw [e] at p; exact p
  | no => rw [e] at p; exact p
  | ok xs h1 =>
    simp only [e, Out.bind] at p
    split at p
    case isFalse => exact p.elim
    rename_i hlen
    intro φ1 H1 J ex1 s1 G D hD
    have p := Post.ext p ex1
    have se1 := (se.mono ex1).wipe ws
    clear ex1 se s e
    have kD : ∀ c ∈ D :: av, c ∈ (P.at av).av ∨ H1 c = none := fun c m => by
      rcases List.mem_cons.mp m with rfl | m
      · exact .inr hD
      · exact .inl m
    -- the turns
    let I : Nat → Hp → Prop := fun i H => ∃ φ h acc accV, SR (P.at (D :: av)) φ H h ∧ H D = some (.lst accV) ∧ VRs (P.at (D :: av)) φ H acc accV ∧ SE (P.at (D :: av)) φ H (wipeI σi ws) (L2.wipe σ ws) ∧ Ext φ1 H1 φ H ∧ acc.length ≤ i ∧
      Post (P.at av) W σ φ1 H1 Q ((compM g t f (wipeI σi ws) (xs.drop i) h).bind fun vs h => .ok (.lst (acc ++ vs)) h)
    have exN : Ext φ1 H1 φ1 (upd H1 D (.lst [])) := Ext.new hD
    refine ⟨fun i m H => i ≤ xs.length ∧ m = xs.length - i ∧ I i H, ⟨xs.length, Nat.zero_le _, by simp, φ1, h1, [], [], ?_, upd_same, VRs.nil, ?_, exN, Nat.le_refl _, by simp only [List.drop_zero, List.nil_append]; exact p⟩, ?_⟩
    · exact SR.avN hD (fun xs z => by cases z) (fun o u z => by cases z) s1
    · exact SE.mono (SE.avI kD se1) exN
    rintro i m H2 ⟨hi, rfl, φ2, h2, acc, accV, s2, hD2, ra, se2, ex2, hal, p2⟩
    by_cases hlt : i < xs.length
    · refine .inr ⟨G.go i φ2 H2 hlt ex2, fun H' => i + 1 ≤ xs.length ∧ I (i + 1) H', ?_, ?_⟩
      · rintro H' ⟨a, b⟩
        exact ⟨xs.length - (i + 1), by omega, a, rfl, b⟩
      intro x H3 y
      have hx : xs[i]? = some xs[i] := by simp [hlt]
      obtain ⟨e1, sr, r⟩ := G.yld i φ2 H2 x H3 ex2 y xs[i] hx
      have e2 : xs.drop i = xs[i] :: xs.drop (i + 1) := List.drop_eq_getElem_cons hlt
      rw [e2] at p2
      unfold compM at p2
      refine ⟨D :: av, φ2, h2, wipeI σi ws, xs[i], sr _ h2 s2, se2.mono e1, r (D :: av) kD, ?_⟩
      have ra3 := ra.mono e1
      have hD3 : H3 D = some (.lst accV) := e1.keep _ _ hD2 (s2.av D List.mem_cons_self).1
      have ex3 := ex2.trans e1
      have se3 := se2.mono e1
      -- the item is added
      have fin : ∀ {φ4 H4 h4 v u}, Ext φ2 H3 φ4 H4 → SR (P.at (D :: av)) φ4 H4 h4 → VR (P.at (D :: av)) φ4 H4 v u →
          Post (P.at av) W σ φ1 H1 Q (((compM g t f (wipeI σi ws) (xs.drop (i + 1)) h4).bind fun vs h => .ok (v :: vs) h).bind fun vs h => .ok (.lst (acc ++ vs)) h) →
          ∃ acc, H4 D = some (.lst acc) ∧ acc.length < sizeLine ∧ i + 1 ≤ xs.length ∧ I (i + 1) (upd H4 D (.lst (acc ++ [u]))) := by
        intro φ4 H4 h4 v u ex s4 r4 p4
        have a4 := s4.av D List.mem_cons_self
        have hD4 : H4 D = some (.lst accV) := ex.keep _ _ hD3 (s2.av D List.mem_cons_self).1
        refine ⟨accV, hD4, ?_, hlt, φ4, h4, acc ++ [v], accV ++ [u], ?_, upd_same, ?_, ?_, ?_, by simp; omega, ?_⟩
        · rw [ra.length]; show acc.length < 2 ^ 24; omega
        · exact SR.avU List.mem_cons_self (fun xs z => by cases z) (fun o u z => by cases z) s4
        · exact VRs.avU List.mem_cons_self a4.2.2.1 a4.2.2.2 _ _ (VRs.append (ra3.mono ex) (VRs.cons r4 VRs.nil))
        · exact SE.avU List.mem_cons_self a4.2.2.1 a4.2.2.2 (se3.mono ex)
        · exact (ex3.trans ex).under hD
        · rw [Out.bind_ok] at p4
          simpa [Out.bind] using p4
      cases q : g xs[i] (wipeI σi ws) h2 with
      | none => rw [q] at p2; exact p2.elim
      | some z =>
        obtain ⟨σ4, h4⟩ := z
        rw [q] at p2
        dsimp only at p2
        intro φ4 H4 σ4' ex4 s4 se4 w4
        rw [wipe_idem] at w4
        refine ⟨w4, D :: av, φ4, h4, σ4, s4, se4, ?_⟩
        cases q5 : t σ4 h4 with
        | ex x h5 => rw [q5] at p2; exact p2.elim
        | no => rw [q5] at p2; exact p2.elim
        | ok b h5 =>
          rw [q5] at p2
          intro φ5 H5 ex5 s5
          cases b with
          | false =>
            rw [if_neg Bool.false_ne_true]
            dsimp only at p2
            have ex' := ex4.trans ex5
            exact ⟨hlt, φ5, h5, acc, accV, s5, ex'.keep _ _ hD3 (s2.av D List.mem_cons_self).1, ra3.mono ex', se3.mono ex', ex3.trans ex', Nat.le_succ_of_le hal, p2⟩
          | true =>
            rw [if_pos rfl]
            dsimp only at p2
            refine ⟨D :: av, φ5, h5, σ4, s5, se4.mono ex5, ?_⟩
            cases q6 : f σ4 h5 with
            | ex x h6 => rw [q6] at p2; exact p2.elim
            | no => rw [q6] at p2; exact p2.elim
            | ok v h6 =>
              rw [q6] at p2
              dsimp only at p2
              exact fun φ6 H6 u ex6 s6 r6 => fin ((ex4.trans ex5).trans ex6) s6 r6 p2
    · have e : i = xs.length := by omega
      subst e
      refine .inl ⟨G.stop φ2 H2 ex2, ?_⟩
      rw [List.drop_length] at p2
      refine p2 φ2 H2 _ ex2 (SR.avD (P := P.at (D :: av)) (fun c m => List.mem_cons_of_mem _ m) s2) ?_
      rw [VR]
      refine ⟨D, accV, rfl, hD2, ⟨(s2.av D List.mem_cons_self).1, fun m => ?_⟩, ?_⟩
      · obtain ⟨_, ⟨o, z, _⟩, _⟩ := s1.av D m
        rw [hD] at z; cases z
      · rw [List.append_nil]
        exact VRs.avD (P := P.at (D :: av)) (fun c m => List.mem_cons_of_mem _ m) ra
theorem PG.exi {X : Cx} {α : Type} {e : Expr} {t : α → TG} (h : ∀ a, PG X e (t a)) : PG X e (fun v σ H Q => ∃ a, t a v σ H Q) := ⟨fun pins s σ H v u Q I r ⟨a, hw⟩ => (h a).run pins s σ H v u Q I r hw⟩
theorem PTs.exi {X : Cx} {α : Type} {e : List Expr} {t : α → TT} (h : ∀ a, PTs X e (t a)) : PTs X e (fun σ H Q => ∃ a, t a σ H Q) := ⟨fun pins s σ H Q I ⟨a, hw⟩ => (h a).run pins s σ H Q I hw⟩
theorem PE.exi {X : Cx} {α : Type} {e : Expr} {t : α → TE} (h : ∀ a, PE X e (t a)) : PE X e (fun σ H Q => ∃ a, t a σ H Q) := ⟨fun pins s σ H Q I ⟨a, hw⟩ => (h a).run pins s σ H Q I hw⟩
variable {elt tg iter : Expr} {ifs : List Expr} {scope : Scope} {pos : Pos} {fi : IE → M (List IV)} {g : TM} {t : IE → M Bool} {f : IE → M IV} {av : List Addr}
theorem pe_lcI (own : List (Str × Nat)) (hc : X.calm = true) (hN : X.N.Nodup) (hi : PI X tg iter (tI (P.at av) W fi)) (ok : BlkOk X.N X.env.scope scope own)
    (hs : ∀ x, foldedSetIterable iter X.env x = pure x)
    (hg : ∀ (l : List Addr) (s : Shared) (H : Hp) (C : Addr) (cl : List (Str × Addr)) (fp : List Addr), PG (X.blk s H scope (compEnvC scope cl C X.env) fp) tg (tGw (P.at l) (own.map (·.2)) g))
    (ht : ∀ (l : List Addr) (s : Shared) (H : Hp) (C : Addr) (cl : List (Str × Addr)) (fp : List Addr), PTs (X.blk s H scope (compEnvC scope cl C X.env) fp) ifs (tT (P.at l) WF t))
    (he : ∀ (l : List Addr) (s : Shared) (H : Hp) (C : Addr) (cl : List (Str × Addr)) (fp : List Addr), PE (X.blk s H scope (compEnvC scope cl C X.env) fp) elt (tE (P.at l) WF f)) :
    PE X (.ListComp elt [⟨tg, iter, ifs, 0⟩] scope pos) (tE (P.at av) W (lcI fi g t f (own.map (·.2)))) :=
  PE.weak (pe_lc (own := own) hc hN hi ok (fun s H C cl fp => PG.exi fun l => hg l s H C cl fp) (fun s H C cl fp => PTs.exi fun l => ht l s H C cl fp) (fun s H C cl fp => PE.exi fun l => he l s H C cl fp) hs) fun σ H Q hq => lc_read hq
end
end EV
namespace EV
open PySem PySem.Spec PyProof.Rows L2

abbrev RM := List IV → M IV
/-- a builtin's promise -/
def rB (P : Par) (W : WX) (r : RM) : List V → Hp → VK → Prop := fun vs H Q => ∃ φ h σ ivs, SR P φ H h ∧ VRs P φ H ivs vs ∧ Post P W σ φ H Q (r ivs h)
def bltE (r : RM) (fs : IE → M (List IV)) : IE → M IV := fun σ h => (fs σ h).bind r
theorem CallR.weak {X : Cx} {f : Value} {r r' : List V → Hp → VK → Prop} (h : CallR X f r) (k : ∀ xs H Q, r' xs H Q → r xs H Q) : CallR X f r' := fun pins s σ H xs us Q I rs q => h pins s σ H xs us Q I rs (k xs H Q q)
section
variable {X : Cx} {P : Par} {W : WX} {r : RM} {fs : IE → M (List IV)} {x : Str} {p pos : Pos} {e : Expr} {es : List Expr} {id T : String}
theorem blt_read {σ : L2.St} {H : Hp} {Q : VK} (hq : tE P W (bltE r fs) σ H Q) : tCB (rB P W r) (tAr P W fs) σ H Q := by
  obtain ⟨φ, h, σi, s, se, p⟩ := hq
  refine ⟨φ, h, σi, s, se, ?_⟩
  unfold bltE at p
  cases e : fs σi h with
  | ok v h1 =>
    simp only [e, Out.bind] at p
    exact fun φ' H' x ex s' rr => ⟨φ', h1, σ, v, s', rr, Post.ext p ex⟩
  | ex v h1 => simp only [e, Out.bind] at p; exact p
  | no => simp only [e, Out.bind] at p; exact p
theorem pe_bltI (hc : CallR X (.builtin id) (rB P W r)) (hg : Gl X x) (hm : X.mg x = none) (hv : bootBuiltins x = some (.builtin id)) (ha : PA X (e :: es) (tAr P W fs)) (hn : x ≠ "__name__") (hdb : (x == ("__debug__" : Str)) = false)
    (he : starEach (e :: es) X.env = (false, eval e X.env) :: starEach es X.env) (hpl : (backTo pos (starEach es X.env)).any (·.1) = false) : PE X (.Call (.Name x p) (e :: es) [] pos) (tE P W (bltE r fs)) :=
  PE.weak (pe_callB hc hg hm hv ha hn hdb he hpl) fun σ H Q hq => blt_read hq
theorem pe_tyI (hc : CallR X (.type T) (rB P W r)) (hg : Gl X x) (hm : X.mg x = none) (hv : bootBuiltins x = some (.type T)) (ha : PA X (e :: es) (tAr P W fs)) (hn : x ≠ "__name__") (hdb : (x == ("__debug__" : Str)) = false)
    (he : starEach (e :: es) X.env = (false, eval e X.env) :: starEach es X.env) (hpl : (backTo pos (starEach es X.env)).any (·.1) = false) : PE X (.Call (.Name x p) (e :: es) [] pos) (tE P W (bltE r fs)) :=
  PE.weak (pe_callTy hc hg hm hv ha hn hdb he hpl) fun σ H Q hq => blt_read hq
end

def absI : RM := fun xs h => match xs with
  | [.int i] => .ok (.int (if i < 0 then -i else i)) h
  | _ => .no
def maxI : RM := fun xs h => match xs with
  | [.int i, .int j] => .ok (.int (if j > i then j else i)) h
  | _ => .no
def minI : RM := fun xs h => match xs with
  | [.int i, .int j] => .ok (.int (if j < i then j else i)) h
  | _ => .no
def intI : RM := fun xs h => match xs with
  | [.int i] => .ok (.int i) h
  | [.bl b] => .ok (.int (if b then 1 else 0)) h
  | _ => .no
/-- the items of a list or a tuple -/
def sqI (h : IH) : IV → Option (List IV)
  | .tup xs => some xs
  | v => lsR h v
def lenI : RM := fun xs h => match xs with
  | [.str z] => if z.length ≤ 16777216 then .ok (.int z.length) h else .no
  | [v] => match sqI h v with
    | some xs => .ok (.int xs.length) h
    | none => .no
  | _ => .no
/-- list(..): one that is left as it is; tuple(..) -/
def listI : RM := fun xs h => match xs with
  | [v] => match sqI h v with
    | some ys => .ok (.lst ys) h
    | none => .no
  | _ => .no
def tupleI : RM := fun xs h => match xs with
  | [v] => match sqI h v with
    | some ys => .ok (.tup ys) h
    | none => .no
  | _ => .no
def blO : IV → Option Bool
  | .bl b => some b
  | _ => none
def allI : RM := fun xs h => match xs with
  | [v] => match lsR h v with
    | some ys => match mapO blO ys with
      | some bs => .ok (.bl (bs.all id)) h
      | none => .no
    | none => .no
  | _ => .no
def isaIB : RM := fun xs h => match xs with
  | [x, .ty c] => match tyName h x with
    | some t => match isaT t c with
      | some b => .ok (.bl b) h
      | none => .no
    | none => .no
  | _ => .no

section
variable {P : Par} {φ : List Addr} {H : Hp} {h : IH}
theorem VRs.one {x : IV} {vs : List V} (r : VRs P φ H [x] vs) : ∃ v, vs = [v] ∧ VR P φ H x v := by
  rw [VRs] at r
  obtain ⟨v, t, rfl, r1, r2⟩ := r
  rw [VRs] at r2
  subst r2
  exact ⟨v, rfl, r1⟩
theorem VRs.two {x y : IV} {vs : List V} (r : VRs P φ H [x, y] vs) : ∃ v u, vs = [v, u] ∧ VR P φ H x v ∧ VR P φ H y u := by
  rw [VRs] at r
  obtain ⟨v, t, rfl, r1, r2⟩ := r
  obtain ⟨u, rfl, r3⟩ := r2.one
  exact ⟨v, u, rfl, r1, r3⟩
theorem sqI_ok (s : SR P φ H h) {x : IV} {xs : List IV} {v : V} (r : VR P φ H x v) (e : sqI h x = some xs) : ∃ a vs, v = .ref a ∧ (SqL P.K H a vs ∨ SqT P.K H a vs) ∧ VRs P φ H xs vs := by
  unfold sqI at e
  split at e
  · cases e
    obtain ⟨a, vs, rfl, h1, r1⟩ := r.tupI
    exact ⟨a, vs, rfl, .inr h1, r1⟩
  · obtain ⟨a, vs, rfl, h1, r1⟩ := s.lsR r e
    exact ⟨a, vs, rfl, .inl h1, r1⟩
theorem bls_ok : ∀ {xs : List IV} {bs : List Bool} {vs : List V}, mapO blO xs = some bs → VRs P φ H xs vs → vs = bs.map V.bl
  | [], _, _, e, r => by simp only [mapO] at e; cases e; rw [VRs] at r; exact r
  | x :: xs, _, _, e, r => by
    obtain ⟨y, ys, h1, h2, rfl⟩ := mapO_cons e
    rw [VRs] at r
    obtain ⟨v, t, rfl, r1, r2⟩ := r
    rw [bls_ok h2 r2]
    cases x <;> simp [blO] at h1
    subst h1
    rw [VR] at r1
    rw [r1]; rfl
end
section
variable {X : Cx} {P : Par} {W : WX}
theorem cr_absI : CallR X (.builtin "abs") (rB P W absI) := CallR.weak call_abs fun vs H Q ⟨φ, h, σ, ivs, s, r, p⟩ => by
  unfold absI at p
  split at p
  · obtain ⟨v, rfl, r1⟩ := r.one
    rw [VR] at r1; subst r1
    exact ⟨_, rfl, p.ret s (by rw [VR])⟩
  · exact p.elim
theorem cr_maxI (hc : X.calm = true) : CallR X (.builtin "max") (rB P W maxI) := CallR.weak (call_max2 hc) fun vs H Q ⟨φ, h, σ, ivs, s, r, p⟩ => by
  unfold maxI at p
  split at p
  · obtain ⟨v, u, rfl, r1, r2⟩ := r.two
    rw [VR] at r1 r2; subst r1 r2
    exact ⟨_, _, rfl, p.ret s (by rw [VR])⟩
  · exact p.elim
theorem cr_minI (hc : X.calm = true) : CallR X (.builtin "min") (rB P W minI) := CallR.weak (call_min2 hc) fun vs H Q ⟨φ, h, σ, ivs, s, r, p⟩ => by
  unfold minI at p
  split at p
  · obtain ⟨v, u, rfl, r1, r2⟩ := r.two
    rw [VR] at r1 r2; subst r1 r2
    exact ⟨_, _, rfl, p.ret s (by rw [VR])⟩
  · exact p.elim
theorem cr_intI : CallR X (.type "int") (rB P W intI) := CallR.weak call_int1 fun vs H Q ⟨φ, h, σ, ivs, s, r, p⟩ => by
  unfold intI at p
  split at p
  · obtain ⟨v, rfl, r1⟩ := r.one
    rw [VR] at r1; subst r1
    exact .inl ⟨_, rfl, p.ret s (by rw [VR])⟩
  · obtain ⟨v, rfl, r1⟩ := r.one
    rw [VR] at r1; subst r1
    exact .inr ⟨_, rfl, p.ret s (by rw [VR])⟩
  · exact p.elim
theorem cr_lenI (hK : X.K = P.K) : CallR X (.builtin "len") (rB P W lenI) := CallR.weak (CallR.or call_len_seq call_len_str) fun vs H Q ⟨φ, h, σ, ivs, s, r, p⟩ => by
  unfold lenI at p
  split at p
  · obtain ⟨v, rfl, r1⟩ := r.one
    rw [VR] at r1; subst r1
    split at p
    · rename_i z
      exact .inr ⟨_, rfl, z, p.ret s (by rw [VR])⟩
    · exact p.elim
  · obtain ⟨v, rfl, r1⟩ := r.one
    split at p
    · rename_i z
      obtain ⟨a, us, rfl, q, r2⟩ := sqI_ok s r1 z
      rw [← r2.length] at p
      exact .inl ⟨a, us, rfl, by rw [hK]; exact q, p.ret s (by rw [VR])⟩
    · exact p.elim
  · exact p.elim
theorem cr_listI (hK : X.K = P.K) : CallR X (.type "list") (rB P W listI) := CallR.weak call_list_of fun vs H Q ⟨φ, h, σ, ivs, s, r, p⟩ => by
  unfold listI at p
  split at p
  · obtain ⟨v, rfl, r1⟩ := r.one
    split at p
    · rename_i z
      obtain ⟨a, us, rfl, q, r2⟩ := sqI_ok s r1 z
      exact ⟨a, us, rfl, by rw [hK]; exact q, fun l hl => p.newLst s r2 hl⟩
    · exact p.elim
  · exact p.elim
theorem cr_tupleI (hK : X.K = P.K) : CallR X (.type "tuple") (rB P W tupleI) := CallR.weak call_tuple_of fun vs H Q ⟨φ, h, σ, ivs, s, r, p⟩ => by
  unfold tupleI at p
  split at p
  · rename_i v0
    obtain ⟨v, rfl, r1⟩ := r.one
    split at p
    · rename_i ys z
      unfold sqI at z
      split at z
      · cases z
        obtain ⟨a, us, rfl, q, r2⟩ := r1.tupI
        exact ⟨a, us, rfl, .inr ⟨by rw [hK]; exact q, p.ret s r1⟩⟩
      · obtain ⟨a, us, rfl, q, r2⟩ := s.lsR r1 z
        exact ⟨a, us, rfl, .inl ⟨by rw [hK]; exact q, fun l hl => p.newTup s r2 hl⟩⟩
    · exact p.elim
  · exact p.elim
theorem cr_allI (hK : X.K = P.K) (hc : X.calm = true) : CallR X (.builtin "all") (rB P W allI) := CallR.weak (cr_all hc) fun vs H Q ⟨φ, h, σ, ivs, s, r, p⟩ => by
  unfold allI at p
  split at p
  · obtain ⟨v, rfl, r1⟩ := r.one
    split at p
    · rename_i z
      obtain ⟨a, us, rfl, q, r2⟩ := s.lsR r1 z
      split at p
      · rename_i bs e
        rw [bls_ok e r2] at q
        exact ⟨a, bs, rfl, by rw [hK]; exact q, p.ret s (by rw [VR])⟩
      · exact p.elim
    · exact p.elim
  · exact p.elim
theorem cr_isaI (hK : X.K = P.K) : CallR X (.builtin "isinstance") (rB P W isaIB) := by
  intro pins s0 σ H xs us Q I rs ⟨φ, h, σ', ivs, s, r, p⟩
  unfold isaIB at p
  split at p
  · obtain ⟨v, u, rfl, r1, r2⟩ := r.two
    rw [VR] at r2; subst r2
    obtain ⟨u1, u2, rfl, rx, ry⟩ := vals2 rs
    split at p
    · rename_i t e
      split at p
      · rename_i b e2
        obtain ⟨ht, Pp, Z, pp, hx⟩ := tyName_kit s r1 e I hK rx
        cases (show u2 = Value.type _ from ry)
        exact PySem.W.kia_one Z I.kIn pp (isaT_kit ht e2) hx fun tk => ⟨.bl b, H, I.tok tk, rfl, p.ret s (by rw [VR])⟩
      · exact p.elim
    · exact p.elim
  · exact p.elim
end
end EV
namespace EV
open PySem PySem.Spec PyProof.Rows L2

section
variable {X : Cx} {P : Par} {W : WX}
theorem takesF {X : Cx} : Takes X WF := fun u s' ⟨a, B, sI, pins, σ, H, cls, d, e, I, nb, up, sky, na, os, ag, w⟩ => w.elim
end

structure FnI (Pr : Program) (w : World) (K : PySem.W.Frag) (mg : Str → Option Value) (base : Heap) (P : Par) (x : Str) (k np : Nat) (c : CM) : Prop where
  ex : ∃ (fA : Addr) (fd : FuncData) (ps : List Str) (ds : List Value) (dvs : List V) (ivd : List IV) (cc : CM), FnG Pr w K mg base (L2.CX Pr w) k fA fd ps (spI P (np + dvs.length) cc) ∧ mg x = some (.ref fA) ∧ PySem.W.keepIn K (.ref fA) = true ∧
    Binds K fd ps ds ∧ Vals dvs ds ∧ (∀ av φ H, VRs (P.at av) φ H ivd dvs) ∧ c = fun vs => cc (vs ++ ivd)
theorem FnI.mono {Pr : Program} {w : World} {K : PySem.W.Frag} {mg : Str → Option Value} {base : Heap} {P : Par} {x : Str} {j k np : Nat} {c : CM} (F : FnI Pr w K mg base P x j np c) (h : j ≤ k) : FnI Pr w K mg base P x k np c := by
  obtain ⟨fA, fd, ps, ds, dvs, ivd, cc, F1, r⟩ := F.ex
  exact ⟨fA, fd, ps, ds, dvs, ivd, cc, F1.mono h, r⟩
theorem FnI.all {Pr : Program} {w : World} {K : PySem.W.Frag} {mg : Str → Option Value} {base : Heap} {P : Par} {x : Str} {k np : Nat} {c : CM} {fA : Addr} {fd : FuncData} {ps : List Str} (F : FnG Pr w K mg base (L2.CX Pr w) k fA fd ps (spI P np c)) (hm : mg x = some (.ref fA)) (hk : PySem.W.keepIn K (.ref fA) = true) (hb : Binds K fd ps []) :
    FnI Pr w K mg base P x k np c := ⟨fA, fd, ps, [], [], [], c, F, hm, hk, hb, .nil, fun _ _ _ => VRs.nil, by simp⟩
/-- a call -/
def callE (fz : Option Bool) (np : Nat) (c : CM) (fs : IE → M (List IV)) : IE → M IV := fun σ h => (fs σ h).bind fun vs h => if vs.length = np then (match fz with
  | some z => settle z h.length (c vs h)
  | none => c vs h) else .no
section
variable {X : Cx} {P : Par} {W : WX} {a : Expr} {es : List Expr} {fs : IE → M (List IV)} {pos p0 : Pos} {x : Str} {av : List Addr} {k np : Nat} {c : CM}
theorem pe_callG {fA : Addr} {fd : FuncData} {ps : List Str} {sp : Sp} {dvs : List V} {ds : List Value} {t : TA} (F : FnG X.prog X.w X.K X.mg X.base (L2.CX X.prog X.w) k fA fd ps sp) (hr : Room k X.A) (hgd : X.A.guards = some []) (hg : Gl X x) (hm : X.mg x = some (.ref fA)) (hk : PySem.W.keepIn X.K (.ref fA) = true) (hb : Binds X.K fd ps ds) (hd : Vals dvs ds) (tk : Takes X W)
    (ha : PA X (a :: es) t) (hdb : (x == ("__debug__" : Str)) = false) (he : starEach (a :: es) X.env = (false, eval a X.env) :: starEach es X.env) (hpl : (backTo pos (starEach es X.env)).any (·.1) = false) :
    PE X (.Call (.Name x p0) (a :: es) [] pos) (fun σ H Q => t σ H fun vs H1 => sp (vs ++ dvs) H1 Q (fun c d H => W c d σ H)) := by
  refine ⟨fun pins s σ H Q I h => ?_⟩
  refine wpAny_Call_Name_kw (ld_glob I hg hm ?_ hdb)
  refine PySem.W.callWith_K (h₀ := X.base) I.ok.mod.kin hk (thn (ha.run pos pins s σ H _ I h) fun us s1 ⟨vs, H1, I1, r, q⟩ => ⟨I1.kIn, ?_⟩) he hpl
  have r2 : Vals (vs ++ dvs) (us ++ ds) := r.append hd
  have hl : (us ++ ds).length = ps.length := by rw [← r2.length]; exact F.len _ _ _ _ q
  refine wpAny_call (codeAny_mono (F.run X.A X.stack s1 H1 ⟨us, []⟩ (us ++ ds) (vs ++ dvs) Q _ hr hgd I1.env0 (hb s1 us I1.kIn hl) r2 q) fun r s' hq => ?_)
  cases r with
  | error e => exact passAt tk σ pins H1 s1 e s' I1 hq
  | ok fl =>
    cases fl with
    | ret u => exact I1.after hq
    | next => exact False.elim hq
    | brk => exact False.elim hq
    | cont => exact False.elim hq
theorem pe_callI (fz : Option Bool) (F : FnI X.prog X.w X.K X.mg X.base P x k np c) (hr : Room k X.A) (hgd : X.A.guards = some []) (hg : Gl X x) (tk : Takes X W) (ha : PA X (a :: es) (tAr (P.at av) W fs)) (hdb : (x == ("__debug__" : Str)) = false) (he : starEach (a :: es) X.env = (false, eval a X.env) :: starEach es X.env)
    (hpl : (backTo pos (starEach es X.env)).any (·.1) = false) : PE X (.Call (.Name x p0) (a :: es) [] pos) (tE (P.at av) W (callE fz np c fs)) := by
  obtain ⟨fA, fd, ps, ds, dvs, ivd, cc, F1, hm, hk, hb, hd, hdv, rfl⟩ := F.ex
  refine PE.weak (pe_callG F1 hr hgd hg hm hk hb hd tk ha hdb he hpl) fun σ H Q hq => ?_
  obtain ⟨φ, h, σi, s, se, p⟩ := hq
  refine ⟨φ, h, σi, s, se, ?_⟩
  unfold callE at p
  cases e : fs σi h with
  | ok v h1 =>
    simp only [e, Out.bind] at p
    intro φ' H' y ex s' r
    split at p
    · rename_i hl
      have p' := Post.ext p ex
      refine ⟨by rw [List.length_append, r.length, hl], av, φ', h1, v ++ ivd, s', r.append (hdv _ _ _), ?_⟩
      refine Post.sigma (P := P.at av) (W := W) (σ := σ) ?_ fun c d H q => q
      cases fz with
      | none => exact p'
      | some z => exact settle_ok s' p'
    · exact p.elim
  | ex v h1 => simp only [e, Out.bind] at p; exact p
  | no => simp only [e, Out.bind] at p; exact p
end

section
variable {P : Par} {φ : List Addr} {H : Hp} {h : IH}
theorem Ext.upd {p : Addr} {o o' : HO} (m : p ∈ φ) (hp : H p = some o) (n1 : ∀ xs, o ≠ .tup xs) (n2 : ∀ x u, o ≠ .frz x u) : Ext φ H φ (L2.upd H p o') := by
  refine ⟨⟨[], by simp, by simp⟩, fun b u e k _ => (upd_ne (fun z => k (by rw [z]; exact m))).trans e, fun b xs e => (upd_ne (fun z => ?_)).trans e, fun b x u e => (upd_ne (fun z => ?_)).trans e, fun b u e => ?_⟩
  · rw [z, hp] at e; exact n1 _ (Option.some.inj e)
  · rw [z, hp] at e; exact n2 _ _ (Option.some.inj e)
  · by_cases z : b = p
    · subst z; exact ⟨o', upd_same⟩
    · exact ⟨u, (upd_ne z).trans e⟩
theorem SR.ne (s : SR P φ H h) {n m : Nat} {a b : Addr} (e1 : φ[n]? = some a) (e2 : φ[m]? = some b) (hne : n ≠ m) : a ≠ b := by
  intro z
  subst z
  obtain ⟨h1, q1⟩ := List.getElem?_eq_some_iff.mp e1
  obtain ⟨h2, q2⟩ := List.getElem?_eq_some_iff.mp e2
  exact hne ((List.getElem_inj s.nd).mp (q1.trans q2.symm))
theorem SR.write (s : SR P φ H h) {n : Nat} {p : Addr} {o o' : HO} {io : IO} (e : φ[n]? = some p) (hp : H p = some o) (n1 : ∀ xs, o ≠ .tup xs) (n2 : ∀ x u, o ≠ .frz x u) (r : OR P φ (L2.upd H p o') p io) (nt : ∀ ps, o' ≠ .tbl ps := by first | (intro ps z; cases z; done) | exact fun ps => DctO.ne_tbl | assumption) : SR P φ (L2.upd H p o') (h.set n io) := by
  have ex : Ext φ H φ (L2.upd H p o') := Ext.upd (List.mem_of_getElem? e) hp n1 n2
  refine ⟨by rw [List.length_set]; exact s.len, s.nd, s.av.mono ex, fun m io' a e1 e2 => ?_, fun q hq => (s.tab q hq).stay fun b u e' n' _ => ⟨(upd_ne (fun z => n'.1 (by rw [z]; exact List.mem_of_getElem? e))).trans e', n'⟩, tbo_upd nt s.tbo⟩
  by_cases z : n = m
  · subst z
    rw [e] at e2; cases e2
    rw [List.getElem?_set] at e1
    split at e1
    · split at e1
      · cases e1; exact r
      · cases e1
    · rename_i k; exact absurd rfl k
  · rw [List.getElem?_set_ne z] at e1
    exact OR.keep ex (fun u q => (upd_ne (Ne.symm (s.ne e e2 z))).trans q) (s.obj m io' a e1 e2)
end

/-- xs[i] = v, xs a list that may change -/
def setM (o i v : IV) : IH → Option IH := fun h => match o, i with
  | .ref n, .int k => match h[n]? with
    | some (.lst xs) => match ixN xs.length k with
      | some j => some (h.set n (.lst (xs.set j v)))
      | none => none
    | _ => none
  | _, _ => none
def rSt (P : Par) (f : IV → IV → IV → IH → Option IH) : TSet := fun o i v H Q => ∃ φ h io ii iv, SR P φ H h ∧ VR P φ H io o ∧ VR P φ H ii i ∧ VR P φ H iv v ∧ match f io ii iv h with
  | some h' => ∀ H', Ext φ H φ H' → SR P φ H' h' → Q H'
  | none => False
theorem PSet.weak {X : Cx} {t t' : TSet} (h : PSet X t) (k : ∀ o i v H Q, t' o i v H Q → t o i v H Q) : PSet X t' := fun pins s σ H o i v ov iv u Q I ro ri rv q => h pins s σ H o i v ov iv u Q I ro ri rv (k _ _ _ _ _ q)
section
variable {X : Cx} {P : Par} {W : WX} {pos : Pos}
theorem st_setM : PSet X (rSt P setM) := PSet.weak set_list fun o i v H Q q => by
  obtain ⟨φ, h, io, ii, iv, s, ro, ri, rv, p⟩ := q
  unfold setM at p
  split at p
  · rename_i h' e
    split at e
    · split at e
      · rename_i n k hx xs hn
        split at e
        · rename_i j hj
          cases e
          rw [VR] at ri; subst ri
          obtain ⟨a, vs, ha, rfl, hH, r⟩ := s.lst ro hn
          refine ⟨a, vs, k, j, rfl, rfl, hH, by rw [r.length]; exact hj, ?_⟩
          have n1 : ∀ xs, HO.lst vs ≠ .tup xs := fun xs z => by cases z
          have n2 : ∀ x u, HO.lst vs ≠ .frz x u := fun x u z => by cases z
          have ex : Ext φ H φ (L2.upd H a (.lst (vs.set j v))) := Ext.upd (List.mem_of_getElem? ha) hH n1 n2
          exact p _ ex (s.write ha hH n1 n2 ⟨_, upd_same, VRs.set (r.mono ex) (rv.mono ex)⟩)
        · cases e
      · cases e
    · cases e
  · exact p.elim
/-- target o[i]: the value is there first -/
def gSb (f : IV → IV → IV → IH → Option IH) (fo fi : IE → M IV) : TM := fun v σ h => match fo σ h with
  | .ok o h => match fi σ h with
    | .ok i h => match f o i v h with
      | some h => some (σ, h)
      | none => none
    | _ => none
  | _ => none
theorem pg_sbI {f : IV → IV → IV → IH → Option IH} {o i : Expr} {fo fi : IE → M IV} (ho : PE X o (tE P W fo)) (hi : PE X i (tE P W fi)) (hs : PSet X (rSt P f))
    (ha : ∀ v, assign (.Subscript o i pos) X.env v = (do
      let ov ← holding [v] (eval o X.env)
      let iv ← holding [v, ov] (eval i X.env)
      standAt pos
      holding [v, ov, iv] (setItem ov iv v)
      release [v, ov, iv] [])) : PG X (.Subscript o i pos) (tG P (gSb f fo fi)) := PG.weak (pg_sub ho hi hs ha) fun v σ H Q hq => by
  obtain ⟨φ, h, σi, iv, s, se, r, p⟩ := hq
  unfold gSb at p
  refine ⟨φ, h, σi, s, se, ?_⟩
  split at p
  · rename_i io h1 e1
    rw [e1]
    intro φ1 H1 xo ex1 s1 r1
    refine ⟨φ1, h1, σi, s1, se.mono ex1, ?_⟩
    split at p
    · rename_i ii h2 e2
      rw [e2]
      intro φ2 H2 xi ex2 s2 r2
      refine ⟨φ2, h2, io, ii, iv, s2, r1.mono ex2, r2, (r.mono ex1).mono ex2, ?_⟩
      split at p
      · rename_i h3 e3
        exact fun H3 ex3 s3 => p φ2 H3 σ ((ex1.trans ex2).trans ex3) s3 (((se.mono ex1).mono ex2).mono ex3)
      · exact p.elim
    · exact p.elim
  · exact p.elim

abbrev RMt := IV → List IV → M IV
def rM (P : Par) (W : WX) (r : RMt) : V → List V → Hp → VK → Prop := fun x vs H Q => ∃ φ h σ iv ivs, SR P φ H h ∧ VR P φ H iv x ∧ VRs P φ H ivs vs ∧ Post P W σ φ H Q (r iv ivs h)
end
end EV
namespace EV
open PySem PySem.Spec PyProof.Rows L2 RZ

section
variable {P : Par} {φ : List Addr} {H : Hp}
theorem VR.i {i : Int} : VR P φ H (.int i) (.int i) := by rw [VR]
theorem VR.t {i : String} : VR P φ H (.ty i) (.ty i) := by rw [VR]
theorem VR.n : VR P φ H .non .non := by rw [VR]
theorem VR.b {b : Bool} : VR P φ H (.bl b) (.bl b) := by rw [VR]
theorem VR.s {x : Str} : VR P φ H (.str x) (.str x) := by rw [VR]
end
abbrev chnT (g g' : G2) (fa fb fc : IE → M IV) : IE → M Bool := fun σ h => (chnE g g' fa fb fc σ h).bind boolM
theorem units65 {k : Nat} {A : Around} (hr : Room k A) : A.units + 65 < cLine := by have := hr.un; omega
section
variable {X : Cx} {P : Par} {W : WX} {e e2 : Expr} {p pos tpos : Pos}
/-- zip of two lists, of two tuples -/
def zipV (xs ys : List IV) : List IV := (xs.zip ys).map fun p => .tup [p.1, p.2]
def zipIt (fs : IE → M (List IV)) : IE → M (List IV) := fun σ h => (fs σ h).bind fun vs h => match vs with
  | [.tup xs, .tup ys] => .ok (zipV xs ys) h
  | [x, y] => match x, y with
    | .lst xs, .lst ys => .ok (zipV xs ys) h
    | .scr xs, .lst ys => .ok (zipV xs ys) h
    | .lst xs, .scr ys => .ok (zipV xs ys) h
    | .scr xs, .scr ys => .ok (zipV xs ys) h
    | _, _ => .no
  | _ => .no
theorem zipV_get {xs ys : List IV} {i : Nat} {v : IV} (h : (zipV xs ys)[i]? = some v) : ∃ x y, xs[i]? = some x ∧ ys[i]? = some y ∧ v = .tup [x, y] := by
  unfold zipV at h
  rw [List.getElem?_map] at h
  cases q : (xs.zip ys)[i]? with
  | none => rw [q] at h; cases h
  | some z =>
    rw [q] at h
    cases h
    obtain ⟨h1, h2⟩ := List.getElem?_zip_eq_some.mp q
    exact ⟨z.1, z.2, h1, h2, rfl⟩
theorem zipV_length {xs ys : List IV} : (zipV xs ys).length = min xs.length ys.length := by simp [zipV]
theorem goes_zip {a b : Addr} {xs ys : List IV} {vs us : List V} {φ : List Addr} {H : Hp} (st : ∀ φ' H', Ext φ H φ' H' → SqL X.K H' a vs ∧ SqL X.K H' b us) (r : VRs P φ H xs vs) (r2 : VRs P φ H ys us) : Goes P (Itz X.K a b) (zipV xs ys) φ H := by
  refine ⟨fun φ' H' e => ⟨vs, us, (st _ _ e).1, (st _ _ e).2, by rw [r.length, r2.length, zipV_length]; omega⟩, fun i φ' H' hi e => ?_, fun i φ' H' x H2 e y v hv => ?_⟩
  · rw [zipV_length] at hi
    have h1 : i < vs.length := by rw [r.length]; omega
    have h2 : i < us.length := by rw [r2.length]; omega
    exact ⟨vs, us, vs[i], us[i], (st _ _ e).1, (st _ _ e).2, by simp [h1], by simp [h2]⟩
  · obtain ⟨T, x1, y1, rfl, hT, rfl, q1, q2⟩ := y
    obtain ⟨x0, y0, e1, e2, rfl⟩ := zipV_get hv
    obtain ⟨u1, k1, r1⟩ := r.get e1
    obtain ⟨u2, k2, r3⟩ := r2.get e2
    have z1 := q1 vs (st _ _ e).1
    have z2 := q2 us (st _ _ e).2
    rw [z1] at k1; cases k1
    rw [z2] at k2; cases k2
    have ex := Ext.new (φ := φ') (o := .tup [x1, y1]) hT
    refine ⟨ex, fun R h s => s.untold hT, fun l k => ?_⟩
    rw [VR]
    have e' := e.trans ex
    exact ⟨T, [x1, y1], rfl, .of upd_same, VRs.cons (VR.mono e' _ _ (VR.avI k _ _ r1)) (VRs.cons (VR.mono e' _ _ (VR.avI k _ _ r3)) VRs.nil)⟩
theorem goes_zipT {a b : Addr} {xs ys : List IV} {vs us : List V} {φ : List Addr} {H : Hp} (st : ∀ φ' H', Ext φ H φ' H' → SqT X.K H' a vs ∧ SqT X.K H' b us) (r : VRs P φ H xs vs) (r2 : VRs P φ H ys us) : Goes P (ItzT X.K a b) (zipV xs ys) φ H := by
  refine ⟨fun φ' H' e => ⟨vs, us, (st _ _ e).1, (st _ _ e).2, by rw [r.length, r2.length, zipV_length]; omega⟩, fun i φ' H' hi e => ?_, fun i φ' H' x H2 e y v hv => ?_⟩
  · rw [zipV_length] at hi
    have h1 : i < vs.length := by rw [r.length]; omega
    have h2 : i < us.length := by rw [r2.length]; omega
    exact ⟨vs, us, vs[i], us[i], (st _ _ e).1, (st _ _ e).2, by simp [h1], by simp [h2]⟩
  · obtain ⟨T, x1, y1, rfl, hT, rfl, q1, q2⟩ := y
    obtain ⟨x0, y0, e1, e2, rfl⟩ := zipV_get hv
    obtain ⟨u1, k1, r1⟩ := r.get e1
    obtain ⟨u2, k2, r3⟩ := r2.get e2
    have z1 := q1 vs (st _ _ e).1
    have z2 := q2 us (st _ _ e).2
    rw [z1] at k1; cases k1
    rw [z2] at k2; cases k2
    have ex := Ext.new (φ := φ') (o := .tup [x1, y1]) hT
    refine ⟨ex, fun R h s => s.untold hT, fun l k => ?_⟩
    rw [VR]
    have e' := e.trans ex
    exact ⟨T, [x1, y1], rfl, .of upd_same, VRs.cons (VR.mono e' _ _ (VR.avI k _ _ r1)) (VRs.cons (VR.mono e' _ _ (VR.avI k _ _ r3)) VRs.nil)⟩
/-- a list that stands as it is -/
theorem VR.stands (hK : X.K = P.K) {x : IV} {xs : List IV} {v : V} {φ : List Addr} {H : Hp} (hx : x = .lst xs ∨ x = .scr xs) (r : VR P φ H x v) : ∃ a vs, v = .ref a ∧ (∀ φ' H', Ext φ H φ' H' → SqL X.K H' a vs) ∧ VRs P φ H xs vs := by
  rcases hx with rfl | rfl
  · rw [VR] at r
    obtain ⟨a, vs, rfl, h2, hn, r1⟩ := r
    exact ⟨a, vs, rfl, fun φ' H' e => .of (e.keep _ _ h2 hn.1), r1⟩
  · rw [VR] at r
    obtain ⟨a, vs, rfl, h2, r1⟩ := r
    exact ⟨a, vs, rfl, fun φ' H' e => by rw [hK]; exact (e.sqLi h2).sqL, r1⟩
theorem pi_zipI {elts : List Expr} {kk : Nat} {fs : IE → M (List IV)} (hK : X.K = P.K) (hg : Gl X "zip") (hm : X.mg "zip" = none) (ha : PA X [e, e2] (tAr P W fs)) (hs : starEach [e, e2] X.env = (false, eval e X.env) :: starEach [e2] X.env) (hpl : (backTo pos (starEach [e2] X.env)).any (·.1) = false) :
    PI X (.Tuple elts kk tpos) (.Call (.Name "zip" p) [e, e2] [] pos) (tI P W (zipIt fs)) := PI.weak (pi_zipA hg hm ha hs hpl) fun σ H R hq => by
  obtain ⟨φ, h, σi, s, se, p⟩ := hq
  refine ⟨φ, h, σi, s, se, ?_⟩
  unfold zipIt at p
  cases e : fs σi h with
  | ok v h1 =>
    simp only [e, Out.bind] at p
    intro φ' H' us ex s' r
    have two : ∀ {x y : IV} {xs ys : List IV}, (x = .lst xs ∨ x = .scr xs) → (y = .lst ys ∨ y = .scr ys) → VRs P φ' H' [x, y] us → PostI P W σ φ H R (.ok (zipV xs ys) h1) →
        ∃ a b xs ys, us = [V.ref a, V.ref b] ∧ ((SqL X.K H' a xs ∧ SqL X.K H' b ys ∧ R (Itz X.K a b) H') ∨ (SqT X.K H' a xs ∧ SqT X.K H' b ys ∧ R (ItzT X.K a b) H')) := by
      intro x y xs ys hx hy r p
      obtain ⟨v, u, rfl, r1, r2⟩ := r.two
      obtain ⟨a, vs, rfl, h3, h4⟩ := VR.stands hK hx r1
      obtain ⟨b, ws, rfl, h5, h6⟩ := VR.stands hK hy r2
      exact ⟨a, b, vs, ws, rfl, .inl ⟨h3 _ _ (Ext.refl _ _), h5 _ _ (Ext.refl _ _), p φ' H' _ ex s' (goes_zip (fun φ2 H2 e => ⟨h3 _ _ e, h5 _ _ e⟩) h4 h6)⟩⟩
    split at p
    · obtain ⟨v, u, rfl, r1, r2⟩ := r.two
      obtain ⟨a, vs, rfl, h3, h4⟩ := r1.tupI
      obtain ⟨b, ws, rfl, h5, h6⟩ := r2.tupI
      exact ⟨a, b, vs, ws, rfl, .inr ⟨by rw [hK]; exact h3, by rw [hK]; exact h5, p φ' H' _ ex s' (goes_zipT (fun φ2 H2 e => by rw [hK]; exact ⟨e.seqT h3, e.seqT h5⟩) h4 h6)⟩⟩
    · split at p
      · exact two (.inl rfl) (.inl rfl) r p
      · exact two (.inr rfl) (.inl rfl) r p
      · exact two (.inl rfl) (.inr rfl) r p
      · exact two (.inr rfl) (.inr rfl) r p
      · exact p.elim
    · exact p.elim
  | ex v h1 => simp only [e, Out.bind] at p; exact p
  | no => simp only [e, Out.bind] at p; exact p
end
end EV
namespace EV
open PySem PySem.Spec PyProof.Rows L2 RZ

/-- a tuple that can be a key -/
def isKT (x : IV) : Bool := match x, keyOf x with
  | .tup _, some k => decide (k.depth ≤ 8)
  | _, _ => false
def dfind (q : NestedKey) : List IV → List IV → Option IV
  | k :: ks, u :: us => if keyOf k = some q then some u else dfind q ks us
  | _, _ => none
def dset (q : NestedKey) (v : IV) : List IV → List IV → List IV
  | k :: ks, u :: us => if keyOf k = some q then v :: us else u :: dset q v ks us
  | _, us => us
def dhas (q : NestedKey) (ks : List IV) : Bool := ks.any fun k => decide (keyOf k = some q)
/-- d[k] = v -/
def dput (k v : IV) (ks us : List IV) : List IV × List IV := match keyOf k with
  | some q => if dhas q ks = true then (ks, dset q v ks us) else (ks ++ [k], us ++ [v])
  | none => (ks, us)
/-- a dict's keys and values -/
def dctO (h : IH) : IV → Option (List IV × List IV)
  | .dct ks us => some (ks, us)
  | .ref n => match h[n]? with
    | some (.dct ks us) => some (ks, us)
    | _ => none
  | _ => none

/-- an atom that can be a key: no bool -/
def leafOf : IV → Option Leaf
  | .non => some .none
  | .int i => some (.num i)
  | .str x => some (.text x)
  | _ => none
def isKA (x : IV) : Bool := (leafOf x).isSome
def allKT (ks : List IV) : Bool := ks.all isKT
def allKA (ks : List IV) : Bool := ks.all isKA
/-- the key and the dict's keys are all tuples, or all atoms -/
def kindOk (k : IV) (ks : List IV) : Bool := (isKT k && allKT ks) || (isKA k && allKA ks)

def leafIs (k : Leaf) (v : Value) : Bool := match v with
  | .bool _ => false
  | v => Leaf.isOf k v
theorem leafIs_of {k : Leaf} {v : Value} (h : leafIs k v = true) : Leaf.isOf k v = true := by
  unfold leafIs at h
  split at h
  · cases h
  · exact h
def atomKind (prog : Program) (w : World) : KeyKind prog w Leaf where
  is := leafIs
  hash := fun k => k.key.hash w
  inj := fun v a b ha hb => (leafKind prog w).inj v a b (leafIs_of ha) (leafIs_of hb)
  byValue := fun k v h => (leafKind prog w).byValue k v (leafIs_of h)
  pyHash := fun hv h => (leafKind prog w).pyHash (leafIs_of hv) h
  eqBool := fun hu hv h => (leafKind prog w).eqBool (leafIs_of hu) (leafIs_of hv) h
  «strs» := fun k x t v h => by
    have e := (leafKind prog w).strs k x t v (leafIs_of h)
    have e2 : Leaf.isOf k v = v.isStr x := e
    show leafIs k v = v.isStr x
    rw [← e2]
    unfold leafIs
    split
    · rw [e2]; rfl
    · rfl
/-- the atom as a value -/
def vA : Leaf → V
  | .none => .non
  | .num i => .int i
  | .text x => .str x
theorem rel_vA {l : Leaf} {u : Value} : L2.RelV (vA l) u ↔ leafIs l u = true := by
  cases l with
  | none =>
    constructor
    · intro r; cases (show u = Value.none from r); rfl
    · intro h; cases u <;> first | rfl | cases h
  | num i =>
    constructor
    · rintro ⟨t, rfl⟩; exact decide_eq_true rfl
    · intro h
      cases u with
      | int j t =>
        have e : j = i := of_decide_eq_true (show decide (j = i) = true from h)
        subst e; exact ⟨t, rfl⟩
      | _ => cases h
  | text x =>
    constructor
    · rintro ⟨t, rfl⟩
      show Value.isStrOf x (.str x t) = true
      simp [Value.isStrOf]
    · intro h
      have h2 : Value.isStrOf x u = true := by
        have := leafIs_of h
        cases u <;> exact this
      obtain ⟨t, rfl⟩ := Value.isStrOf_shape h2
      exact ⟨t, rfl⟩

abbrev NK (X : Cx) := nestedKind X.prog X.w
abbrev AK (X : Cx) := atomKind X.prog X.w
abbrev XsH := List (NestedKey × Addr × Value)
abbrev XsA := List (Leaf × Value)
/-- the entries by their keys: the key, the key's value, the value -/
abbrev Xs := List (NestedKey × V × Value)
def convH (xs : XsH) : Xs := xs.map fun x => (x.1, V.ref x.2.1, x.2.2)
def convA (xs : XsA) : Xs := xs.map fun x => (x.1.key, vA x.1, x.2)
/-- the raw entry, the entry by its key -/
def EnR (w : World) (p : Int × V × V) (q : NestedKey × V × Value) : Prop := p.1 = q.1.hash w ∧ p.2.1 = q.2.1 ∧ L2.RelV p.2.2 q.2.2
def atG (xs : Xs) (q : NestedKey) : Option (V × Value) := (xs.find? fun x => decide (x.1 = q)).map (·.2)
def putG (q : NestedKey) (v : Value) (x : NestedKey × V × Value) : NestedKey × V × Value := if x.1 = q then (x.1, x.2.1, v) else x
def storedG (xs : Xs) (q : NestedKey) (kv : V) (v : Value) : Xs := if (atG xs q).isSome then xs.map (putG q v) else xs ++ [(q, kv, v)]
theorem atG_pos {x : NestedKey × V × Value} {xs : Xs} {q : NestedKey} (h : x.1 = q) : atG (x :: xs) q = some x.2 := by simp [atG, h]
theorem atG_neg {x : NestedKey × V × Value} {xs : Xs} {q : NestedKey} (h : x.1 ≠ q) : atG (x :: xs) q = atG xs q := by simp [atG, List.find?_cons, h]
theorem atG_mem {q : NestedKey} : ∀ {xs : Xs}, (atG xs q).isSome = true ↔ q ∈ xs.map (·.1)
  | [] => by simp [atG]
  | x :: xs => by
    by_cases h : x.1 = q
    · rw [atG_pos h]; simp [h]
    · rw [atG_neg h, atG_mem (xs := xs)]
      simp only [List.map_cons, List.mem_cons]
      constructor
      · exact .inr
      · rintro (e | e)
        · exact absurd e.symm h
        · exact e
theorem putG_out {q : NestedKey} {v : Value} {xs : Xs} (h : q ∉ xs.map (·.1)) : xs.map (putG q v) = xs := by
  have : ∀ x ∈ xs, putG q v x = x := fun x m => by
    unfold putG
    rw [if_neg fun e => h (List.mem_map.mpr ⟨x, m, e⟩)]
  calc xs.map (putG q v) = xs.map id := List.map_congr_left this
    _ = xs := List.map_id xs
theorem putG_keys {q : NestedKey} {v : Value} {xs : Xs} : (xs.map (putG q v)).map (·.1) = xs.map (·.1) := by
  rw [List.map_map]
  refine List.map_congr_left fun x _ => ?_
  show (putG q v x).1 = x.1
  unfold putG
  split <;> rfl
theorem atG_H {q : NestedKey} : ∀ {xs : XsH}, atG (convH xs) q = (atKey xs q).map fun p => (V.ref p.1, p.2)
  | [] => rfl
  | x :: xs => by
    have ih := atG_H (q := q) (xs := xs)
    by_cases h : x.1 = q
    · show atG ((x.1, V.ref x.2.1, x.2.2) :: convH xs) q = _
      rw [atG_pos h]
      simp [atKey, h]
    · show atG ((x.1, V.ref x.2.1, x.2.2) :: convH xs) q = _
      rw [atG_neg h, ih]
      simp [atKey, List.find?_cons, h]
theorem atG_A {l : Leaf} : ∀ {xs : XsA}, atG (convA xs) l.key = (valueAt xs l).map fun v => (vA l, v)
  | [] => rfl
  | x :: xs => by
    have ih := atG_A (l := l) (xs := xs)
    by_cases h : x.1 = l
    · show atG ((x.1.key, vA x.1, x.2) :: convA xs) l.key = _
      rw [atG_pos (by show x.1.key = l.key; rw [h])]
      simp [valueAt, h]
    · show atG ((x.1.key, vA x.1, x.2) :: convA xs) l.key = _
      rw [atG_neg (fun e => h (Leaf.key_inj e)), ih]
      simp [valueAt, List.find?_cons, h]
theorem storedG_H {q : NestedKey} {a : Addr} {v : Value} {xs : XsH} : storedG (convH xs) q (V.ref a) v = convH (storedH xs q a v) := by
  unfold storedG storedH
  rw [atG_H, Option.isSome_map]
  split
  · unfold convH
    rw [List.map_map, List.map_map]
    refine List.map_congr_left fun x _ => ?_
    show putG q v (x.1, V.ref x.2.1, x.2.2) = ((putAt q v x).1, V.ref (putAt q v x).2.1, (putAt q v x).2.2)
    unfold putG putAt
    by_cases h : x.1 = q
    · rw [if_pos h, if_pos h]
    · rw [if_neg h, if_neg h]
  · simp [convH]
theorem storedG_A {l : Leaf} {v : Value} {xs : XsA} : storedG (convA xs) l.key (vA l) v = convA (stored xs l v) := by
  unfold storedG stored
  have e : (atG (convA xs) l.key).isSome = xs.any fun kv => decide (kv.1 = l) := by
    rw [atG_A, Option.isSome_map]
    unfold valueAt
    rw [Option.isSome_map, Bool.eq_iff_iff, List.find?_isSome, List.any_eq_true]
  rw [e]
  split
  · unfold convA
    rw [List.map_map, List.map_map]
    refine List.map_congr_left fun x _ => ?_
    by_cases h : x.1 = l
    · simp [putG, h]
    · have h2 : x.1.key ≠ l.key := fun e => h (Leaf.key_inj e)
      simp [putG, h, h2]
  · simp [convA]
section
variable {X : Cx} {P : Par} {φ : List Addr} {H : Hp} {h : IH} {pins : List (Addr × Obj)} {σ : L2.St} {s : Shared}
mutual
theorem nested_of (I : Inv X pins σ H s) (hK : X.K = P.K) : ∀ (x : IV) (v : V) (u : Value) (k : NestedKey), keyOf x = some k → VR P φ H x v → L2.RelV v u → NestedIs s.heap k u
  | .non, v, u, k, e, r, rv => by
    simp only [keyOf] at e; cases e; rw [VR] at r; subst r
    cases (show u = Value.none from rv); exact .none
  | .bl b, v, u, k, e, r, rv => by
    simp only [keyOf] at e; cases e; rw [VR] at r; subst r
    cases (show u = Value.bool b from rv); exact .bool rfl
  | .int i, v, u, k, e, r, rv => by
    simp only [keyOf] at e; cases e; rw [VR] at r; subst r
    obtain ⟨t, z⟩ := (show ∃ t, u = Value.int i t from rv); cases z; exact .int i t
  | .str x, v, u, k, e, r, rv => by
    simp only [keyOf] at e; cases e; rw [VR] at r; subst r
    obtain ⟨t, z⟩ := (show ∃ t, u = Value.str x t from rv); cases z; exact .text x t
  | .tup xs, v, u, k, e, r, rv => by
    simp only [keyOf] at e
    split at e
    · rename_i ks q; cases e
      obtain ⟨a, vs, rfl, h1, r1⟩ := r.tupI
      cases (show u = Value.ref a from rv)
      obtain ⟨its, rv', pl, _⟩ := I.tuple (by rw [hK]; exact h1)
      obtain ⟨o, ho, hc, n, hd⟩ := pl
      exact .tup ho hc hd (by simpa using nestedAll_of I hK xs vs its ks q r1 rv')
    · cases e
  | .lst _, _, _, _, e, _, _ => by simp [keyOf] at e
  | .scr _, _, _, _, e, _, _ => by simp [keyOf] at e
  | .dct _ _, _, _, _, e, _, _ => by simp [keyOf] at e
  | .ref _, _, _, _, e, _, _ => by simp [keyOf] at e
  | .ty _, _, _, _, e, _, _ => by simp [keyOf] at e
  | .glo _, _, _, _, e, _, _ => by simp [keyOf] at e
  | .exc .., _, _, _, e, _, _ => by simp [keyOf] at e
  | .fn .., _, _, _, e, _, _ => by simp [keyOf] at e
theorem nestedAll_of (I : Inv X pins σ H s) (hK : X.K = P.K) : ∀ (xs : List IV) (vs : List V) (us : List Value) (ks : List NestedKey), keysOf xs = some ks → VRs P φ H xs vs → Vals vs us → NestedAll s.heap ks us
  | [], _, _, _, e, r, rv => by
    simp only [keysOf] at e; cases e
    rw [VRs] at r; subst r
    cases rv; exact .nil
  | x :: xs, _, _, _, e, r, rv => by
    simp only [keysOf] at e
    split at e
    · rename_i k ks q1 q2; cases e
      rw [VRs] at r
      obtain ⟨v, t, rfl, r1, r2⟩ := r
      cases rv with
      | cons a b => exact .cons (nested_of I hK x v _ k q1 r1 a) (nestedAll_of I hK xs t _ ks q2 r2 b)
    · cases e
end
theorem isKT_ok {x : IV} (e : isKT x = true) : ∃ k, keyOf x = some k ∧ k.depth ≤ 8 ∧ ∃ xs, x = .tup xs := by
  unfold isKT at e
  split at e
  · rename_i xs k q; exact ⟨k, q, of_decide_eq_true e, _, rfl⟩
  · cases e
/-- a key as the kind wants it -/
theorem key_is (I : Inv X pins σ H s) (hK : X.K = P.K) {x : IV} {v : V} {u : Value} (e : isKT x = true) (r : VR P φ H x v) (rv : L2.RelV v u) : ∃ a k, v = .ref a ∧ u = .ref a ∧ keyOf x = some k ∧ (NK X).is s.heap k a := by
  obtain ⟨k, q, d, xs, rfl⟩ := isKT_ok e
  have z := nested_of I hK _ v u k q r rv
  obtain ⟨a, vs, rfl, _, _⟩ := r.tupI
  cases (show u = Value.ref a from rv)
  exact ⟨a, k, rfl, rfl, q, z, d⟩
theorem leaf_is {x : IV} {v : V} (e : isKA x = true) (r : VR P φ H x v) : ∃ l, v = vA l ∧ leafOf x = some l ∧ keyOf x = some l.key := by
  unfold isKA at e
  cases x with
  | non => rw [VR] at r; subst r; exact ⟨.none, rfl, rfl, rfl⟩
  | int i => rw [VR] at r; subst r; exact ⟨.num i, rfl, rfl, rfl⟩
  | str i => rw [VR] at r; subst r; exact ⟨.text i, rfl, rfl, rfl⟩
  | _ => cases e
/-- the dict at a has the entries xs: of tuple keys, of atoms -/
inductive DKind (X : Cx) (h : Heap) (a : Addr) : Xs → Prop
  | tup (xs : XsH) : h.DictOfH (NK X) a xs → DKind X h a (convH xs)
  | atom (xs : XsA) : h.DictOf (AK X) a xs → DKind X h a (convA xs)
/-- .. and the key is of the dict's kind -/
inductive DBoth (X : Cx) (h : Heap) (a : Addr) (u : Value) (v : V) (q : NestedKey) : Xs → Prop
  | tup (xs : XsH) (b : Addr) : h.DictOfH (NK X) a xs → u = .ref b → v = .ref b → (NK X).is h q b → DBoth X h a u v q (convH xs)
  | atom (xs : XsA) (l : Leaf) : h.DictOf (AK X) a xs → leafIs l u = true → v = vA l → q = l.key → DBoth X h a u v q (convA xs)
theorem DBoth.kind {h : Heap} {a : Addr} {u : Value} {v : V} {q : NestedKey} {xs : Xs} (d : DBoth X h a u v q xs) : DKind X h a xs := by
  cases d with
  | tup xs b h _ _ _ => exact .tup xs h
  | atom xs l h _ _ _ => exact .atom xs h
theorem link_H (I : Inv X pins σ H s) (hK : X.K = P.K) (hw : X.w = P.w) : ∀ {es : Raw} {en : List DictEntry} {ks : List IV} {nks : List NestedKey}, Paired (fun (p : Int × V × V) (q : DictEntry) => p.1 = q.hash ∧ L2.RelV p.2.1 q.key ∧ L2.RelV p.2.2 q.val) es en → VRs P φ H ks (es.map (·.2.1)) →
    keysOf ks = some nks → es.map (·.1) = nks.map (·.hash P.w) → (∀ k ∈ ks, isKT k = true) → ∃ xs : XsH, en = xs.map (entryOfKey (NK X)) ∧ (∀ x ∈ xs, (NK X).is s.heap x.1 x.2.1) ∧ xs.map (·.1) = nks ∧ Paired (EnR X.w) es (convH xs)
  | _, _, [], nks, .nil, _, e, _, _ => by
    simp only [keysOf] at e; cases e
    exact ⟨[], rfl, by simp, rfl, .nil⟩
  | _, _, k :: ks, nks, .nil, r, _, _, _ => by
    rw [VRs] at r; obtain ⟨v, t, e, _⟩ := r; cases e
  | _, _, [], nks, .cons a b, r, _, _, _ => by
    rw [VRs] at r; cases r
  | _, _, k :: ks, nks, .cons (a := p) (b := q) c t, r, e, eh, ht => by
    simp only [keysOf] at e
    split at e
    · rename_i nk nks' q1 q2; cases e
      rw [List.map_cons, VRs] at r
      obtain ⟨v, vs, e1, r1, r2⟩ := r
      cases e1
      rw [List.map_cons, List.map_cons] at eh
      obtain ⟨eh1, eh2⟩ := List.cons.inj eh
      obtain ⟨c1, c2, c3⟩ := c
      obtain ⟨a, k', z1, z2, z3, z4⟩ := key_is I hK (ht k List.mem_cons_self) r1 c2
      rw [q1] at z3; cases z3
      obtain ⟨xs, h1, h2, h3, h4⟩ := link_H I hK hw t r2 q2 eh2 (fun k hk => ht k (List.mem_cons_of_mem _ hk))
      refine ⟨(nk, a, q.val) :: xs, ?_, ?_, by rw [List.map_cons, h3], .cons ⟨by rw [hw]; exact eh1, z1, c3⟩ h4⟩
      · rw [List.map_cons, ← h1]
        congr 1
        obtain ⟨qh, qk, qv⟩ := q
        show DictEntry.mk qh qk qv = DictEntry.mk (nk.hash X.w) (.ref a) qv
        rw [show qh = nk.hash X.w by rw [hw, ← eh1]; exact c1.symm, show qk = Value.ref a from z2]
      · intro x hx
        rcases List.mem_cons.mp hx with rfl | hx
        · exact z4
        · exact h2 x hx
    · cases e
theorem link_A (hw : X.w = P.w) : ∀ {es : Raw} {en : List DictEntry} {ks : List IV} {nks : List NestedKey}, Paired (fun (p : Int × V × V) (q : DictEntry) => p.1 = q.hash ∧ L2.RelV p.2.1 q.key ∧ L2.RelV p.2.2 q.val) es en → VRs P φ H ks (es.map (·.2.1)) →
    keysOf ks = some nks → es.map (·.1) = nks.map (·.hash P.w) → (∀ k ∈ ks, isKA k = true) → ∃ xs : XsA, Pairs (AK X) en xs ∧ (∀ e ∈ en, ∃ l, (AK X).is l e.key = true ∧ e.hash = (AK X).hash l) ∧ xs.map (·.1.key) = nks ∧ Paired (EnR X.w) es (convA xs)
  | _, _, [], nks, .nil, _, e, _, _ => by
    simp only [keysOf] at e; cases e
    exact ⟨[], .nil, by simp, rfl, .nil⟩
  | _, _, k :: ks, nks, .nil, r, _, _, _ => by
    rw [VRs] at r; obtain ⟨v, t, e, _⟩ := r; cases e
  | _, _, [], nks, .cons a b, r, _, _, _ => by
    rw [VRs] at r; cases r
  | _, _, k :: ks, nks, .cons (a := p) (b := q) c t, r, e, eh, ht => by
    simp only [keysOf] at e
    split at e
    · rename_i nk nks' q1 q2; cases e
      rw [List.map_cons, VRs] at r
      obtain ⟨v, vs, e1, r1, r2⟩ := r
      cases e1
      rw [List.map_cons, List.map_cons] at eh
      obtain ⟨eh1, eh2⟩ := List.cons.inj eh
      obtain ⟨c1, c2, c3⟩ := c
      obtain ⟨l, z1, z2, z3⟩ := leaf_is (ht k List.mem_cons_self) r1
      rw [q1] at z3; cases z3
      obtain ⟨xs, h1, h2, h3, h4⟩ := link_A hw t r2 q2 eh2 (fun k hk => ht k (List.mem_cons_of_mem _ hk))
      have hq : leafIs l q.key = true := rel_vA.mp (by rw [← z1]; exact c2)
      refine ⟨(l, q.val) :: xs, .cons hq rfl h1, ?_, by rw [List.map_cons, h3], .cons ⟨by rw [hw]; exact eh1, z1, c3⟩ h4⟩
      intro e he
      rcases List.mem_cons.mp he with rfl | he
      · exact ⟨l, hq, by rw [← c1, eh1]; show _ = l.key.hash X.w; rw [hw]⟩
      · exact h2 e he
    · cases e
theorem convH_keys {xs : XsH} : (convH xs).map (·.1) = xs.map (·.1) := by simp [convH, Function.comp_def]
theorem convA_keys {xs : XsA} : (convA xs).map (·.1) = xs.map (·.1.key) := by simp [convA, Function.comp_def]
theorem nodup_leaf {xs : XsA} (h : (xs.map (·.1.key)).Nodup) : (xs.map (·.1)).Nodup := by
  have e : xs.map (·.1.key) = (xs.map (·.1)).map Leaf.key := by rw [List.map_map]; rfl
  rw [e] at h
  exact (List.pairwise_map.mp h).imp fun h z => h (by rw [z])
theorem DKind.nodup {h : Heap} {a : Addr} {xs : Xs} (d : DKind X h a xs) : (xs.map (·.1)).Nodup := by
  cases d with
  | tup xs d => rw [convH_keys]; exact d.nodup
  | atom xs d =>
    obtain ⟨_, _, _, _, _, _, _, _, nd⟩ := d
    rw [convA_keys]
    have e : xs.map (·.1.key) = (xs.map (·.1)).map Leaf.key := by rw [List.map_map]; rfl
    rw [e]
    exact List.pairwise_map.mpr (List.Pairwise.imp (fun h z => h (Leaf.key_inj z)) nd)
theorem DKind.typeIs {s : Shared} {a : Addr} {xs : Xs} (d : DKind X s.heap a xs) : s.TypeIs (.ref a) "dict" := by
  cases d with
  | tup xs d => exact d.typeIs
  | atom xs d => exact d.typeIs
theorem allKT_ok {ks : List IV} (e : allKT ks = true) : ∀ k ∈ ks, isKT k = true := fun k m => List.all_eq_true.mp e k m
theorem allKA_ok {ks : List IV} (e : allKA ks = true) : ∀ k ∈ ks, isKA k = true := fun k m => List.all_eq_true.mp e k m
/-- .. and a key -/
theorem dict_both (I : Inv X pins σ H s) (hK : X.K = P.K) (hw : X.w = P.w) {a : Addr} {o : Obj} {es : Raw} {ks : List IV} (hp : H a = some (DctO a o es)) (rk : VRs P φ H ks (es.map (·.2.1))) (ku : KeysOk P.w ks (es.map (·.1))) {k : IV} {v : V} {u : Value} (hk : kindOk k ks = true) (r : VR P φ H k v) (rv : L2.RelV v u) :
    ∃ (q : NestedKey) (xs : Xs), keyOf k = some q ∧ DBoth X s.heap a u v q xs ∧ (a == sysModules) = false ∧ es.length ≤ sizeLine ∧ Paired (EnR X.w) es xs ∧ keysOf ks = some (xs.map (·.1)) := by
  have z : ObjOk X.prog X.w H s.heap a (DctO a o es) := I.hok a _ hp
  obtain ⟨⟨h1, h2, h3, h4, arr, ep, h5, h6⟩, _⟩ := z
  obtain ⟨nks, e1, nd, e2⟩ := ku.ex
  unfold kindOk at hk
  rcases Bool.or_eq_true_iff.mp hk with hk | hk
  · obtain ⟨k1, k2⟩ := Bool.and_eq_true_iff.mp hk
    obtain ⟨xs, g1, g2, g3, g4⟩ := link_H I hK hw h6 rk e1 e2 (allKT_ok k2)
    subst g3
    obtain ⟨b, q, z1, z2, z3, z4⟩ := key_is I hK k1 r rv
    exact ⟨q, convH xs, z3, .tup xs b ⟨o, arr, ep, h1, h4, h5, g1, g2, nd⟩ z2 z1 z4, h2, h3, g4, by rw [convH_keys]; exact e1⟩
  · obtain ⟨k1, k2⟩ := Bool.and_eq_true_iff.mp hk
    obtain ⟨xs, g1, g2, g3, g4⟩ := link_A hw h6 rk e1 e2 (allKA_ok k2)
    subst g3
    obtain ⟨l, z1, z2, z3⟩ := leaf_is k1 r
    exact ⟨l.key, convA xs, z3, .atom xs l ⟨o, arr, ep, h1, h4, h5, fun e he => g2 e (by simpa using he), g1, nodup_leaf nd⟩ (rel_vA.mp (by rw [← z1]; exact rv)) z1 rfl, h2, h3, g4, by rw [convA_keys]; exact e1⟩
/-- the way back -/
theorem raw_of {hp : Heap} {a : Addr} {xs : Xs} {es : Raw} (hd : DKind X hp a xs) (hs : (a == sysModules) = false) (hl : es.length ≤ sizeLine) (r : Paired (EnR X.w) es xs) : ∃ o, RawAt a o es hp := by
  cases hd with
  | tup xs hd =>
    obtain ⟨o, arr, ep, h1, h2, h3, h4, h5, h6⟩ := hd
    refine ⟨o, h1, hs, hl, h2, arr, ep, h3, ?_⟩
    rw [h4]
    clear h4 h5 h6 h3 hl
    induction xs generalizing es with
    | nil => cases r; exact .nil
    | cons x xs ih =>
      cases r with
      | cons c t => exact .cons ⟨c.1, by rw [c.2.1]; rfl, c.2.2⟩ (ih t)
  | atom xs hd =>
    obtain ⟨o, arr, ep, h1, h2, h3, h4, h5, h6⟩ := hd
    refine ⟨o, h1, hs, hl, h2, arr, ep, h3, ?_⟩
    have hk : ∀ e ∈ arr.toList, ∃ l, (AK X).is l e.key = true ∧ e.hash = (AK X).hash l := fun e he => h4 e (by simpa using he)
    clear h4 h6 h3 hl
    generalize arr.toList = en at h5 hk
    induction xs generalizing es en with
    | nil =>
      cases r
      have := h5.length
      cases en with
      | nil => exact .nil
      | cons _ _ => simp at this
    | cons x xs ih =>
      cases r with
      | cons c t =>
        cases h5 with
        | @cons e _ en _ d1 d2 d3 =>
          obtain ⟨l, hl1, hl2⟩ := hk e List.mem_cons_self
          have el : l = x.1 := (AK X).inj _ _ _ hl1 d1
          refine .cons ⟨by rw [c.1, hl2, el]; rfl, ?_, ?_⟩ (ih t en d3 fun e he => hk e (List.mem_cons_of_mem _ he))
          · rw [c.2.1]; exact rel_vA.mpr d1
          · rw [d2]; exact c.2.2
theorem RawAt.objOk {H : Hp} {hp : Heap} {a : Addr} {o : Obj} {es : Raw} (r : RawAt a o es hp) : ObjOk X.prog X.w H hp a (DctO a o es) := by
  refine ⟨r, ⟨o, r.1⟩, fun h1 h2 q k => ?_⟩
  obtain ⟨q1, q2⟩ := q
  exact ⟨k o q1, q2⟩
end
end EV
namespace EV
open PySem PySem.Spec PyProof.Rows L2 RZ

section
variable {X : Cx} {P : Par} {φ : List Addr} {H : Hp} {h : IH} {pins : List (Addr × Obj)} {σ : L2.St} {s : Shared}
theorem dctO_ok (sr : SR P φ H h) {x : IV} {v : V} {ks us : List IV} (r : VR P φ H x v) (e : dctO h x = some (ks, us)) : ∃ a o es, v = .ref a ∧ H a = some (DctO a o es) ∧ VRs P φ H ks (es.map (·.2.1)) ∧ VRs P φ H us (es.map (·.2.2)) ∧ KeysOk P.w ks (es.map (·.1)) := by
  unfold dctO at e
  split at e
  · cases e
    rw [VR] at r
    obtain ⟨a, o, es, h1, h2, _, h4, h5, h6⟩ := r
    exact ⟨a, o, es, h1, h2, h4, h5, h6⟩
  · split at e
    · rename_i q; cases e
      rw [VR] at r
      obtain ⟨a, h1, h2⟩ := r
      obtain ⟨o, es, h3, h4, h5, h6⟩ := sr.obj _ _ a q h1
      exact ⟨a, o, es, h2, h3, h4, h5, h6⟩
    · cases e
  · cases e
theorem keysOf_cons {x : IV} {xs : List IV} {ks : List NestedKey} (e : keysOf (x :: xs) = some ks) : ∃ k t, ks = k :: t ∧ keyOf x = some k ∧ keysOf xs = some t := by
  simp only [keysOf] at e
  split at e
  · rename_i k t q1 q2; cases e; exact ⟨k, t, rfl, q1, q2⟩
  · cases e
theorem find_ok {q : NestedKey} : ∀ {es : Raw} {xs : Xs} {ks us : List IV}, Paired (EnR X.w) es xs → keysOf ks = some (xs.map (·.1)) → VRs P φ H us (es.map (·.2.2)) →
    match dfind q ks us with
    | some u => ∃ b val v, atG xs q = some (b, val) ∧ VR P φ H u v ∧ L2.RelV v val
    | none => atG xs q = none
  | _, _, [], us, .nil, _, _ => by simp [dfind, atG]
  | _, _, k :: ks, us, .nil, e, _ => by obtain ⟨_, _, z, _⟩ := keysOf_cons e; cases z
  | _, _, [], us, .cons _ _, e, _ => by simp [keysOf] at e
  | _, _, k :: ks, [], .cons _ _, e, r => by rw [List.map_cons, VRs] at r; cases r
  | _, _, k :: ks, u :: us, .cons (a := p) (b := x) (l₁ := es) (l₂ := xs) c t, e, r => by
    obtain ⟨k', t', z1, z2, z3⟩ := keysOf_cons e
    rw [List.map_cons] at z1
    obtain ⟨z4, z5⟩ := List.cons.inj z1
    subst z4 z5
    rw [List.map_cons, VRs] at r
    obtain ⟨v, vs, e1, r1, r2⟩ := r
    cases e1
    have ih := find_ok (q := q) t z3 r2
    unfold dfind
    rw [z2]
    by_cases hk : x.1 = q
    · rw [if_pos (by rw [hk])]
      exact ⟨x.2.1, x.2.2, p.2.2, atG_pos hk, r1, c.2.2⟩
    · rw [if_neg (fun z => hk (Option.some.inj z)), atG_neg hk]
      exact ih
theorem has_ok {q : NestedKey} : ∀ {xs : Xs} {ks : List IV}, keysOf ks = some (xs.map (·.1)) → (atG xs q).isSome = dhas q ks
  | [], [], _ => rfl
  | [], k :: ks, e => by obtain ⟨_, _, z, _⟩ := keysOf_cons e; cases z
  | x :: xs, [], e => by simp [keysOf] at e
  | x :: xs, k :: ks, e => by
    obtain ⟨k', t', z1, z2, z3⟩ := keysOf_cons e
    rw [List.map_cons] at z1
    obtain ⟨z4, z5⟩ := List.cons.inj z1
    subst z4 z5
    have ih := has_ok (q := q) z3
    unfold dhas at ih ⊢
    rw [List.any_cons, z2, ← ih]
    by_cases hk : x.1 = q
    · rw [atG_pos hk]; simp [hk]
    · rw [atG_neg hk]; simp [hk]
theorem set_ok {q : NestedKey} {v : V} {val : Value} {iv : IV} (rv : VR P φ H iv v) (rr : L2.RelV v val) : ∀ {es : Raw} {xs : Xs} {ks us : List IV}, Paired (EnR X.w) es xs → keysOf ks = some (xs.map (·.1)) → VRs P φ H us (es.map (·.2.2)) → (xs.map (·.1)).Nodup →
    ∃ es', Paired (EnR X.w) es' (xs.map (putG q val)) ∧ es'.map (·.1) = es.map (·.1) ∧ es'.map (·.2.1) = es.map (·.2.1) ∧ VRs P φ H (dset q iv ks us) (es'.map (·.2.2))
  | _, _, [], us, .nil, _, r, _ => ⟨[], .nil, rfl, rfl, by simpa [dset] using r⟩
  | _, _, k :: ks, us, .nil, e, _, _ => by obtain ⟨_, _, z, _⟩ := keysOf_cons e; cases z
  | _, _, [], us, .cons _ _, e, _, _ => by simp [keysOf] at e
  | _, _, k :: ks, [], .cons _ _, e, r, _ => by rw [List.map_cons, VRs] at r; cases r
  | _, _, k :: ks, u :: us, .cons (a := p) (b := x) (l₁ := es) (l₂ := xs) c t, e, r, nd => by
    obtain ⟨k', t', z1, z2, z3⟩ := keysOf_cons e
    rw [List.map_cons] at z1
    obtain ⟨z4, z5⟩ := List.cons.inj z1
    subst z4 z5
    rw [List.map_cons, VRs] at r
    obtain ⟨w, vs, e1, r1, r2⟩ := r
    cases e1
    rw [List.map_cons, List.nodup_cons] at nd
    unfold dset
    rw [z2]
    by_cases hk : x.1 = q
    · rw [if_pos (by rw [hk])]
      refine ⟨(p.1, p.2.1, v) :: es, ?_, rfl, rfl, VRs.cons rv r2⟩
      rw [List.map_cons, putG_out (by rw [← hk]; exact nd.1)]
      refine .cons ?_ t
      unfold putG
      rw [if_pos hk]
      exact ⟨c.1, c.2.1, rr⟩
    · rw [if_neg (fun z => hk (Option.some.inj z))]
      obtain ⟨es', h1, h2, h3, h4⟩ := set_ok rv rr t z3 r2 nd.2
      refine ⟨p :: es', ?_, by rw [List.map_cons, h2]; rfl, by rw [List.map_cons, h3]; rfl, VRs.cons r1 h4⟩
      rw [List.map_cons]
      refine .cons ?_ h1
      unfold putG
      rw [if_neg hk]
      exact c
theorem keysOf_append : ∀ {xs ys : List IV} {a b : List NestedKey}, keysOf xs = some a → keysOf ys = some b → keysOf (xs ++ ys) = some (a ++ b)
  | [], _, _, _, e, k => by simp only [keysOf] at e; cases e; exact k
  | x :: xs, _, _, _, e, k => by
    obtain ⟨q, t, rfl, z2, z3⟩ := keysOf_cons e
    simp only [List.cons_append, keysOf, z2, keysOf_append z3 k]
theorem Paired.app {α β : Type} {R : α → β → Prop} : ∀ {a : List α} {b : List β} {c : List α} {d : List β}, Paired R a b → Paired R c d → Paired R (a ++ c) (b ++ d)
  | _, _, _, _, .nil, k => k
  | _, _, _, _, .cons x t, k => .cons x (Paired.app t k)
theorem storedG_keys {q : NestedKey} {kv : V} {v : Value} {xs : Xs} : (storedG xs q kv v).map (·.1) = if (atG xs q).isSome = true then xs.map (·.1) else xs.map (·.1) ++ [q] := by
  unfold storedG
  split
  · exact putG_keys
  · simp
/-- a store -/
theorem put_ok {q : NestedKey} {kv v : V} {val : Value} {ik iv : IV} {es : Raw} {xs : Xs} {ks us : List IV} (rk : VR P φ H ik kv) (ek : keyOf ik = some q) (hw : X.w = P.w) (rv : VR P φ H iv v) (rr : L2.RelV v val) (t : Paired (EnR X.w) es xs) (e : keysOf ks = some (xs.map (·.1))) (rks : VRs P φ H ks (es.map (·.2.1))) (rus : VRs P φ H us (es.map (·.2.2))) (nd : (xs.map (·.1)).Nodup) :
    ∃ es', Paired (EnR X.w) es' (storedG xs q kv val) ∧ VRs P φ H (dput ik iv ks us).1 (es'.map (·.2.1)) ∧ VRs P φ H (dput ik iv ks us).2 (es'.map (·.2.2)) ∧ KeysOk P.w (dput ik iv ks us).1 (es'.map (·.1)) ∧ es'.length ≤ es.length + 1 ∧ keysOf (dput ik iv ks us).1 = some ((storedG xs q kv val).map (·.1)) := by
  have hh := has_ok (q := q) e
  have hash : ∀ {es : Raw} {xs : Xs}, Paired (EnR X.w) es xs → es.map (·.1) = (xs.map (·.1)).map (·.hash P.w) := fun t => by
    induction t with
    | nil => rfl
    | cons c t ih => rw [List.map_cons, List.map_cons, List.map_cons, ih, c.1, hw]
  unfold dput
  rw [ek]
  dsimp only
  by_cases hf : (atG xs q).isSome = true
  · rw [if_pos (by rw [← hh]; exact hf), storedG_keys, if_pos hf]
    unfold storedG
    rw [if_pos hf]
    obtain ⟨es', h1, h2, h3, h4⟩ := set_ok rv rr t e rus nd
    refine ⟨es', h1, by rw [h3]; exact rks, h4, ⟨_, e, nd, by rw [h2]; exact hash t⟩, ?_, e⟩
    have := congrArg List.length h2
    simp at this; omega
  · rw [if_neg (by rw [← hh]; exact hf), storedG_keys, if_neg hf]
    unfold storedG
    rw [if_neg hf]
    have hm : q ∉ xs.map (·.1) := fun m => hf (atG_mem.mpr m)
    have t2 : Paired (EnR X.w) (es ++ [(q.hash X.w, kv, v)]) (xs ++ [(q, kv, val)]) := Paired.app t (.cons ⟨rfl, rfl, rr⟩ .nil)
    have ek3 : keysOf (ks ++ [ik]) = some (xs.map (·.1) ++ [q]) := keysOf_append e (by simp [keysOf, ek])
    refine ⟨es ++ [(q.hash X.w, kv, v)], t2, ?_, ?_, ⟨_, ek3, ?_, ?_⟩, by simp, ek3⟩
    · rw [List.map_append]; exact VRs.append rks (VRs.cons rk VRs.nil)
    · rw [List.map_append]; exact VRs.append rus (VRs.cons rv VRs.nil)
    · exact List.nodup_append.mpr ⟨nd, by simp, fun x hx y hy z => hm (by simp at hy; rw [← hy, ← z]; exact hx)⟩
    · rw [hash t2]; simp
end

section
variable {X : Cx} {s : Shared} {a : Addr} {u : Value} {v : V} {q : NestedKey} {xs : Xs} {A : Around} {E : Value → Shared → Prop}
theorem DBoth.contains {Q : Bool → Shared → Prop} (d : DBoth X s.heap a u v q xs) (hs : (a == sysModules) = false) (hu : A.units + 10 < cLine) (h : ∀ t, Q (atG xs q).isSome { s with toks := t }) : wpAny (model X.prog X.w) A (contains (.ref a) u) Q E s := by
  cases d with
  | tup xs b d e1 _ k =>
    subst e1
    refine wpAny_contains_heap (knd := NK X) (by show A.units + 1 + 8 < cLine; omega) k hs d ?_
    have := h (s.toks + (NK X).draws q)
    rwa [atG_H, Option.isSome_map] at this
  | atom xs l d k _ e2 =>
    subst e2
    have := h (s.toks + 1)
    rw [atG_A, Option.isSome_map] at this
    unfold PySem.contains
    try with_reducible refine wpAny_holding ?_
    refine wpAny_bind (wpAny_specialOf d.typeIs slot_dict_contains.lookup ?_)
    show wpAny _ _ (if (some (Value.builtin "dict.__contains__") == some Value.none) = true then _ else _) _ E s
    rw [if_neg (by rw [beq_builtin_none]; exact Bool.false_ne_true)]
    refine wpAny_bind (wpAny_callSpecialUnlessNone?_slot (name := Str.ofString "__contains__") d.typeIs slot_dict_contains
      (wpAny_call_entry slot_dict_contains d.typeIs entry_dict_contains ?_ (args_dict_contains _ _)))
    show wpAny _ _ (dictGet a u >>= _) _ _ s
    refine wpAny_bind (wpAny_dictGet_of (knd := AK X) k d.mapOf ?_)
    cases hf : valueAt xs l with
    | some v =>
      rw [hf] at this
      show wpAny _ _ (ret (.bool true)) _ _ _
      exact wpAny_pure ⟨_, rfl, wpAny_truthy_bool this⟩
    | none =>
      rw [hf] at this
      show wpAny _ _ (Builtin.Dict.pendingKey? a u >>= _) _ _ _
      exact wpAny_bind (wpAny_pendingKey_other hs (wpAny_pure ⟨_, rfl, wpAny_truthy_bool this⟩))
theorem DBoth.getItem {Q : Value → Shared → Prop} {p : V × Value} (d : DBoth X s.heap a u v q xs) (hu : A.units + 10 < cLine) (e : atG xs q = some p) (h : ∀ t, Q p.2 { s with toks := t }) : wpAny (model X.prog X.w) A (getItem (.ref a) u) Q E s := by
  cases d with
  | tup xs b d e1 _ k =>
    subst e1
    rw [atG_H] at e
    cases hf : atKey xs q with
    | none => rw [hf] at e; cases e
    | some y =>
      rw [hf] at e; cases e
      exact wpAny_getItem_heap (knd := NK X) (by show A.units + 1 + 8 < cLine; omega) k d hf (h _)
  | atom xs l d k _ e2 =>
    subst e2
    rw [atG_A] at e
    cases hf : valueAt xs l with
    | none => rw [hf] at e; cases e
    | some y =>
      rw [hf] at e; cases e
      exact wpAny_getItem_of (knd := AK X) k d.mapOf hf (h _)
theorem DBoth.setItem {Q : Unit → Shared → Prop} {w : Value} (d : DBoth X s.heap a u v q xs) (hu : A.units + 10 < cLine) (hl : xs.length ≤ sizeLine) (h : ∀ h' t, DKind X h' a (storedG xs q v w) → Heap.SameBut a s.heap h' → Q () { s with heap := h', toks := t }) : wpAny (model X.prog X.w) A (setItem (.ref a) u w) Q E s := by
  cases d with
  | tup xs b d e1 e2 k =>
    subst e1 e2
    refine wpAny_setItem_heap (knd := NK X) (by show A.units + 1 + 8 < cLine; omega) k d (fun h' d' sb => h h' _ ?_ sb) (by simpa [convH] using hl)
    rw [storedG_H]; exact .tup _ d'
  | atom xs l d k e1 e2 =>
    subst e1 e2
    refine wpAny_setItem_pairs (knd := AK X) k d (fun h' d' sb => h h' _ ?_ sb) (by simpa [convA] using hl)
    rw [storedG_A]; exact .atom _ d'
end

def inDct : G2 := fun x y h => match dctO h y with
  | some (ks, _) => match kindOk x ks, keyOf x with
    | true, some q => .ok (.bl (dhas q ks)) h
    | _, _ => .no
  | none => inI x y h
def subD : G2 := fun x y h => match dctO h x with
  | some (ks, us) => match kindOk y ks, keyOf y with
    | true, some q => match dfind q ks us with
      | some u => .ok u h
      | none => .no
    | _, _ => .no
  | none => subE x y h
section
variable {X : Cx} {P : Par} {W : WX}
theorem op_inDct (hK : X.K = P.K) (hw : X.w = P.w) (hu : X.A.units + 65 < cLine) : OpR X (compareOp .In) (rG P W inDct) := by
  intro pins s σ H x y v u Q I rx ry ⟨φ, h, σ', va, vb, sr, ra, rb, p⟩
  unfold inDct at p
  split at p
  · rename_i ks us e
    split at p
    · rename_i q b eq
      obtain ⟨a, o, es, rfl, hp, k1, k2, k3⟩ := dctO_ok sr rb e
      cases (show u = Value.ref a from ry)
      obtain ⟨q', xs, e3, d, g2, g3, g4, g5⟩ := dict_both I hK hw hp k1 k3 b ra rx
      rw [eq] at e3; cases e3
      show wpAny _ _ (do return Value.bool (← contains (.ref a) v)) _ _ _
      refine wpAny_bind (d.contains g2 (by omega) fun t => ?_)
      rw [has_ok g5]
      exact wpAny_pure ⟨.bl _, H, I.tok _, rfl, p.ret sr VR.b⟩
    · exact p.elim
  · exact op_inI hK hu pins s σ H x y v u Q I rx ry ⟨φ, h, σ', va, vb, sr, ra, rb, p⟩
theorem ix_subD (hK : X.K = P.K) (hw : X.w = P.w) (hu : X.A.units + 65 < cLine) : IxR X (rG P W subD) := by
  intro value slice pins s σ H x y v u Q I rx ry ⟨φ, h, σ', va, vb, sr, ra, rb, p⟩ hs
  unfold subD at p
  split at p
  · rename_i ks us e
    split at p
    · rename_i q b eq
      obtain ⟨a, o, es, rfl, hp, k1, k2, k3⟩ := dctO_ok sr ra e
      cases (show v = Value.ref a from rx)
      obtain ⟨q', xs, e3, d, g2, g3, g4, g5⟩ := dict_both I hK hw hp k1 k3 b rb ry
      rw [eq] at e3; cases e3
      have f := find_ok (q := q) g4 g5 k2
      split at p
      · rename_i w ew
        rw [ew] at f
        obtain ⟨b', val, vv, f1, f2, f3⟩ := f
        exact subscriptTail_builtinR (x := val) d.kind.typeIs PySem.F.slot_dict_getitem.lookup
          (d.getItem (Q := fun r s' => r = val ∧ EP X pins σ Q r s') (by omega) f1 fun t => ⟨rfl, _, H, I.tok _, f3, p.ret sr f2⟩) hs
      · exact p.elim
    · exact p.elim
  · exact ix_subI hK value slice pins s σ H x y v u Q I rx ry ⟨φ, h, σ', va, vb, sr, ra, rb, p⟩ hs
theorem pe_subD {a b : Expr} {pos : Pos} {fa fb : IE → M IV} (hK : X.K = P.K) (hw : X.w = P.w) (hu : X.A.units + 65 < cLine) (ha : PE X a (tE P W fa)) (hb : PE X b (tE P W fb)) (hs : PlainIx b) : PE X (.Subscript a b pos) (tE P W (binE subD fa fb)) :=
  PE.weak (pe_ix (ix_subD hK hw hu) ha hb hs) fun _ _ _ hq => tOp_of hq
end

def putM (o i v : IV) : IH → Option IH := fun h => match o with
  | .ref n => match h[n]? with
    | some (.dct ks us) => if kindOk i ks && decide (ks.length < 16777216) then some (h.set n (.dct (dput i v ks us).1 (dput i v ks us).2)) else none
    | some (.lst _) => setM o i v h
    | _ => none
  | _ => none
section
variable {X : Cx} {P : Par} {W : WX}
theorem VRs.len' {φ : List Addr} {H : Hp} {xs : List IV} {vs : List V} (r : VRs P φ H xs vs) : xs.length = vs.length := r.length.symm
theorem st_putM (hK : X.K = P.K) (hw : X.w = P.w) (hu : X.A.units + 65 < cLine) : PSet X (rSt P putM) := by
  intro pins s σ H o i v ov iv u Q I ro ri rv ⟨φ, h, io, ii, jv, sr, r1, r2, r3, p⟩
  unfold putM at p
  split at p
  · rename_i h' e
    split at e
    · rename_i n
      split at e
      · rename_i ks us hn
        split at e
        · rename_i c
          cases e
          simp only [Bool.and_eq_true, decide_eq_true_eq] at c
          obtain ⟨c1, c3⟩ := c
          have rd := r1
          rw [VR] at rd
          obtain ⟨a, ha, rfl⟩ := rd
          obtain ⟨ob, es, hp, k1, k2, k3⟩ := sr.obj _ _ a hn ha
          cases (show ov = Value.ref a from ro)
          obtain ⟨q, xs, e3, d, g2, g3, g4, g5⟩ := dict_both I hK hw hp k1 k3 c1 r2 ri
          obtain ⟨es', q1, q2, q3, q4, q5, q6⟩ := put_ok r2 e3 hw r3 rv g4 g5 k1 k2 d.kind.nodup
          have hl : es.length = xs.length := Paired.length g4
          have hkl : ks.length = es.length := by have := k1.len'; simpa using this
          refine d.setItem (by omega) (by rw [← hl]; exact g3) fun h' t d' sb => ?_
          have hl' : es'.length ≤ sizeLine := by
            have : sizeLine = 16777216 := sizeLine_eq
            omega
          obtain ⟨o', raw⟩ := raw_of d' g2 hl' q1
          have n1 : ∀ xs, DctO a ob es ≠ .tup xs := fun xs => DctO.ne_tup
          have n2 : ∀ x u, DctO a ob es ≠ .frz x u := fun x u => DctO.ne_frz
          have ex : Ext φ H φ (L2.upd H a (DctO a o' es')) := Ext.upd (List.mem_of_getElem? ha) hp n1 n2
          refine ⟨_, I.write (x := a) (e := a) (by rw [hp]; trivial) (.inl rfl) (fun b u hb q => (sb.2 b hb).trans q) ⟨_, raw.1⟩ raw.objOk, ?_⟩
          exact p _ ex (sr.write ha hp n1 n2 ⟨o', es', upd_same, q2.mono ex, q3.mono ex, q4⟩)
        · cases e
      · exact st_setM pins s σ H o i v ov iv u Q I ro ri rv ⟨φ, h, .ref n, ii, jv, sr, r1, r2, r3, by rw [e]; exact p⟩
      · cases e
    · cases e
  · exact p.elim
end
end EV
namespace EV
open PySem PySem.Spec PyProof.Rows L2 RZ

/-- values of that builtin type, wherever they stand -/
def TyS (X : Cx) (T : String) (x : V) (H : Hp) : Prop := ∀ (pins : List (Addr × Obj)) (σ : L2.St) (s : Shared) (v : Value), Inv X pins σ H s → L2.RelV x v → s.TypeIs v T ∧ ∀ a, v = .ref a → ∃ ob, s.heap.get? a = some ob ∧ ob.dict = none
def tMth (X : Cx) (T : String) (r : V → List V → Hp → VK → Prop) (to : TE) (t : TA) : TE := fun σ H Q => to σ H fun x H1 => TyS X T x H1 ∧ t σ H1 fun xs H2 => r x xs H2 Q
section
variable {X : Cx} {P : Par} {W : WX} {o e : Expr} {es : List Expr} {name : Str} {apos cpos : Pos} {T id : String}
theorem pe_mth {to : TE} {t : TA} {r : V → List V → Hp → VK → Prop} (pa : PlainAttrs T) (slot : Slot T name id) (hty : typeOf (.builtin id) = pure (.type "method_descriptor")) (hm : MtR X id r) (ho : PE X o to) (ha : PA X (e :: es) t)
    (hbase : attributeBase o name X.env (eval o X.env) = eval o X.env)
    (hfew : ((backTo cpos (starEach (e :: es) X.env)).all (fun x => !x.1) && (backToKw cpos (keywordEach [] X.env)).all (fun x => x.1.isSome)
      && decide ((e :: es).length + ([] : List Keyword).length + (if ([] : List Keyword).isEmpty then 0 else 1) < 30)) = true)
    (hline : (apos.endLine == cpos.line) = true) (hs : starEach (e :: es) X.env = (false, eval e X.env) :: starEach es X.env) (hplain : (backTo cpos (starEach es X.env)).any (·.1) = false) :
    PE X (.Call (.Attribute o name apos) (e :: es) [] cpos) (tMth X T r to t) := by
  refine ⟨fun pins s σ H Q I h => ?_⟩
  refine wpAny_Call_method_late hbase hfew hline rfl (thn (ho.run pins s σ H _ I h) fun v s1 ⟨x, H1, I1, r1, ty, q1⟩ => ?_)
  obtain ⟨h1, h2⟩ := ty pins σ s1 v I1 r1
  refine ⟨T, id, pa, slot, hty, h1, h2, ?_⟩
  have hA := ha.run cpos pins s1 σ H1 _ I1 q1
  rw [hs] at hA ⊢
  refine Calls.callWith_builtin (by show (false || (backTo cpos (starEach es X.env)).any (·.1)) = false; rw [hplain] <;> rfl) (Calls.evalArgs_plain ?_)
  exact thn hA fun us s2 ⟨vs, H2, I2, r2, q2⟩ => hm pins s2 σ H2 x vs v us Q I2 r1 r2 q2
theorem tyName_is {φ : List Addr} {H : Hp} {h : IH} (hK : X.K = P.K) (s : SR P φ H h) {x : IV} {v : V} {t : String} (r : VR P φ H x v) (e : tyName h x = some t) (nb : t = "list" ∨ t = "dict" ∨ t = "str") : TyS X t v H := by
  intro pins σ s0 u I rx
  have lst : ∀ {a : Addr} {vs : List V}, v = .ref a → SqL X.K H a vs → s0.TypeIs u "list" ∧ ∀ a, u = .ref a → ∃ ob, s0.heap.get? a = some ob ∧ ob.dict = none := fun {a vs} e q => by
    subst e; cases rx
    obtain ⟨its, _, pl, _⟩ := I.list q
    refine ⟨pl.isList.typeIs, fun b e => ?_⟩
    cases e
    obtain ⟨o, n, e, c, hd, _⟩ := pl
    exact ⟨o, e, hd⟩
  have dct : ∀ {a : Addr} {o : Obj} {es : Raw}, v = .ref a → H a = some (DctO a o es) → s0.TypeIs u "dict" ∧ ∀ a, u = .ref a → ∃ ob, s0.heap.get? a = some ob ∧ ob.dict = none := fun {a o es} e q => by
    subst e; cases rx
    have z : ObjOk X.prog X.w H s0.heap a (DctO a o es) := I.hok a _ q
    obtain ⟨⟨h1, _, _, h2, _⟩, _⟩ := z
    refine ⟨⟨o, h1, h2.1⟩, fun b e => ?_⟩
    cases e
    exact ⟨o, h1, h2.2.1⟩
  cases x with
  | str b => simp only [tyName] at e; cases e; rw [VR] at r; subst r; obtain ⟨t, q⟩ := (show ∃ t, u = Value.str b t from rx); cases q; exact ⟨typeIs_str s0 b t, fun _ e => nomatch e⟩
  | lst xs =>
    simp only [tyName] at e; cases e
    obtain ⟨a, vs, h1, h2, _⟩ := s.lsO r (xs := xs) rfl
    exact lst h1 (.of h2)
  | dct ks us =>
    simp only [tyName] at e; cases e
    rw [VR] at r
    obtain ⟨a, o, es, h1, h2, _⟩ := r
    exact dct h1 h2
  | ref n =>
    simp only [tyName] at e
    split at e
    · rename_i xs q; cases e
      obtain ⟨a, vs, _, h1, h2, _⟩ := s.lst r q
      exact lst h1 (.of h2)
    · rename_i ks us q; cases e
      rw [VR] at r
      obtain ⟨a, h1, h2⟩ := r
      obtain ⟨o, es, h3, _⟩ := s.obj n _ a q h1
      exact dct h2 h3
    · cases e
  | scr xs => simp only [tyName] at e; cases e
  | tup xs => simp only [tyName] at e; cases e; simp at nb
  | non => simp only [tyName] at e; cases e; simp at nb
  | bl b => simp only [tyName] at e; cases e; simp at nb
  | int b => simp only [tyName] at e; cases e; simp at nb
  | ty b => simp only [tyName] at e; cases e
  | glo b => simp only [tyName] at e; cases e
  | exc a b c d => simp only [tyName] at e; cases e
  | fn a b c d f g => simp only [tyName] at e; cases e

/-- o.m(e, ..) of a list, a dict, a text -/
def mthE (T : String) (r : RMt) (fo : IE → M IV) (fs : IE → M (List IV)) : IE → M IV := fun σ h => (fo σ h).bind fun o h => if tyName h o = some T then (fs σ h).bind fun xs h => r o xs h else .no
theorem mth_read {r : RMt} {fo : IE → M IV} {fs : IE → M (List IV)} {σ : L2.St} {H : Hp} {Q : VK} (hK : X.K = P.K) (nb : T = "list" ∨ T = "dict" ∨ T = "str") (hq : tE P W (mthE T r fo fs) σ H Q) : tMth X T (rM P W r) (tE P W fo) (tAr P W fs) σ H Q := by
  unfold mthE at hq
  obtain ⟨φ, h, σi, s, se, p⟩ := hq
  refine ⟨φ, h, σi, s, se, ?_⟩
  cases e : fo σi h with
  | ok o h1 =>
    simp only [e, Out.bind] at p
    intro φ1 H1 x ex1 s1 r1
    split at p
    · rename_i ty
      refine ⟨tyName_is hK s1 r1 ty nb, φ1, h1, σi, s1, se.mono ex1, ?_⟩
      have p1 := Post.ext p ex1
      cases e2 : fs σi h1 with
      | ok xs h2 =>
        simp only [e2, Out.bind] at p1
        exact fun φ2 H2 vs ex2 s2 r2 => ⟨φ2, h2, σ, o, xs, s2, r1.mono ex2, r2, Post.ext p1 ex2⟩
      | ex v h2 => simp only [e2, Out.bind] at p1; exact p1
      | no => simp only [e2, Out.bind] at p1; exact p1
    · exact p.elim
  | ex v h1 => simp only [e, Out.bind] at p; exact p
  | no => simp only [e, Out.bind] at p; exact p
theorem pe_mthI {r : RMt} {fo : IE → M IV} {fs : IE → M (List IV)} (nb : T = "list" ∨ T = "dict" ∨ T = "str") (pa : PlainAttrs T) (slot : Slot T name id) (hty : typeOf (.builtin id) = pure (.type "method_descriptor")) (hm : MtR X id (rM P W r)) (hK : X.K = P.K) (ho : PE X o (tE P W fo)) (ha : PA X (e :: es) (tAr P W fs))
    (hbase : attributeBase o name X.env (eval o X.env) = eval o X.env)
    (hfew : ((backTo cpos (starEach (e :: es) X.env)).all (fun x => !x.1) && (backToKw cpos (keywordEach [] X.env)).all (fun x => x.1.isSome)
      && decide ((e :: es).length + ([] : List Keyword).length + (if ([] : List Keyword).isEmpty then 0 else 1) < 30)) = true)
    (hline : (apos.endLine == cpos.line) = true) (hs : starEach (e :: es) X.env = (false, eval e X.env) :: starEach es X.env) (hplain : (backTo cpos (starEach es X.env)).any (·.1) = false) :
    PE X (.Call (.Attribute o name apos) (e :: es) [] cpos) (tE P W (mthE T r fo fs)) :=
  PE.weak (pe_mth pa slot hty hm ho ha hbase hfew hline hs hplain) fun σ H Q hq => mth_read hK nb hq
end
theorem MtR.weak {X : Cx} {id : String} {r r' : V → List V → Hp → VK → Prop} (h : MtR X id r) (k : ∀ x xs H Q, r' x xs H Q → r x xs H Q) : MtR X id r' := fun pins s σ H x xs v us Q I rx rs q => h pins s σ H x xs v us Q I rx rs (k _ _ _ _ q)

theorem ext_tup (l : Addr) (items : Array Value) (n : Nat) (b : Addr) (items2 : Array Value) (n2 : Nat) (dd : Option Addr) (sl : Array (Option Value)) (hs0 : ¬(!items.isEmpty && Builtin.List.listTooLong (items.size + items2.size)) = true) (hs1 : items.size ≤ sizeLine) (hs2 : items.size + items2.size ≤ sizeLine + 1) :
    Meets (Builtin.«list.extend» ⟨[.ref l, .ref b], []⟩) (fun _ R s => s.heap.get? l = some { cls := .type "list", dict := none, data := .seq items n, slots := #[] } ∧ s.heap.get? b = some { cls := .type "tuple", dict := dd, data := .seq items2 n2, slots := sl } ∧ R (.ok (.ret Value.none)) { s with heap := s.heap.update l (Obj.mapSeq fun x => x ++ items2), toks := s.toks }) :=
  .of_wp fun prog w A R s h => by
    obtain ⟨hp, g, d, tk, os⟩ := s; obtain ⟨hl, hb, h⟩ := h; have f1 := AutoSeq1.idx_int; have f2 := AutoSeq1.sub_tuple_tuple; have f3 := AutoSeq1.sub_list_list; have f4 := AutoSeq1.sub_tuple_list; have f5 := AutoSeq1.sub_list_tuple;
    have hz' : (items ++ items2).size ≤ sizeLine + 1 := by rw [Array.size_append]; exact hs2
    wp_walk using (wpAny_updateSeq hl rfl (hz := hs1) (_hz' := hz')), AutoSeq1.wpAny_loadPart' hl, AutoSeq1.wpAny_loadPart' hb; exact ⟨_, rfl, h⟩
def appM : RMt := fun o xs h => match o, xs with
  | .ref n, [v] => match h[n]? with
    | some (.lst ys) => if ys.length < 16777216 then .ok .non (h.set n (.lst (ys ++ [v]))) else .no
    | _ => .no
  | _, _ => .no
def extM : RMt := fun o xs h => match o, xs with
  | .ref n, [v] => match h[n]?, (match v with | .tup zs => some zs | .lst zs => some zs | _ => none) with
    | some (.lst ys), some zs => if ys.length + zs.length ≤ 16777216 then .ok .non (h.set n (.lst (ys ++ zs))) else .no
    | _, _ => .no
  | _, _ => .no
section
variable {X : Cx} {P : Par} {W : WX}
theorem mt_appI : MtR X "list.append" (rM P W appM) := fun pins s σ H x xs v us Q I rx rs ⟨φ, h, σ', io, ivs, sr, r1, r2, p⟩ => by
  unfold appM at p
  split at p
  · rename_i n iv
    split at p
    · rename_i ys hn
      split at p
      · rename_i hl
        obtain ⟨w, rfl, rw'⟩ := r2.one
        obtain ⟨a, vs, ha, rfl, hH, r⟩ := sr.lst r1 hn
        have n1 : ∀ xs, HO.lst vs ≠ .tup xs := fun xs z => by cases z
        have n2 : ∀ x u, HO.lst vs ≠ .frz x u := fun x u z => by cases z
        have ex : Ext φ H φ (L2.upd H a (.lst (vs ++ [w]))) := Ext.upd (List.mem_of_getElem? ha) hH n1 n2
        refine mt_append pins s σ H _ _ v us Q I rx rs ⟨a, vs, w, rfl, rfl, hH, by rw [r.length]; exact hl, ?_⟩
        exact p φ _ _ ex (sr.write ha hH n1 n2 ⟨_, upd_same, VRs.append (r.mono ex) (VRs.cons (rw'.mono ex) VRs.nil)⟩) VR.n
      · exact p.elim
    · exact p.elim
  · exact p.elim
theorem mt_extI (hK : X.K = P.K) : MtR X "list.extend" (rM P W extM) := fun pins s σ H x xs v us Q I rx rs ⟨φ, h, σ', io, ivs, sr, r1, r2, p⟩ => by
  unfold extM at p
  split at p
  · rename_i n iv
    split at p
    · rename_i ys zs hn hz
      split at p
      · rename_i hl
        obtain ⟨w, rfl, rw'⟩ := r2.one
        obtain ⟨a, vs, ha, rfl, hH, r⟩ := sr.lst r1 hn
        have n1 : ∀ xs, HO.lst vs ≠ .tup xs := fun xs z => by cases z
        have n2 : ∀ x u, HO.lst vs ≠ .frz x u := fun x u z => by cases z
        split at hz
        · cases hz
          obtain ⟨b, ws, rfl, hb, rb⟩ := rw'.tupI
          have ex : Ext φ H φ (L2.upd H a (.lst (vs ++ ws))) := Ext.upd (List.mem_of_getElem? ha) hH n1 n2
          have hQ := p φ _ .non ex (sr.write ha hH n1 n2 ⟨_, upd_same, VRs.append (r.mono ex) (rb.mono ex)⟩) VR.n
          have hll : vs.length + ws.length ≤ sizeLine := by rw [r.length, rb.length]; exact hl
          cases (show v = Value.ref a from rx)
          obtain ⟨u, rfl, ru⟩ := rs.one
          cases (show u = Value.ref b from ru)
          obtain ⟨z, its, m, rr, hln, e⟩ := I.lstM hH
          obtain ⟨its2, rr2, ⟨⟨cls, dd, data, sl⟩, ho, hc, m2, hd⟩, hz2⟩ := I.tuple (by rw [hK]; exact hb)
          simp only at hc hd
          subst hc hd
          have hl2 := rr2.length
          have hsz : its.toArray.size + its2.toArray.size ≤ sizeLine := by rw [List.size_toArray, List.size_toArray]; omega
          have hlong : ¬ (!its.toArray.isEmpty && Builtin.List.listTooLong (its.toArray.size + its2.toArray.size)) = true := by
            rw [notLongL hsz, Bool.and_false]
            exact Bool.false_ne_true
          refine call_meets F.slot_list_extend ⟨_, e, rfl⟩ F.entry_list_extend (F.args_list_extend_2 _ _) (ext_tup a its.toArray m b its2.toArray m2 dd sl hlong (by rw [List.size_toArray]; omega) (by omega)) ⟨e, ho, ?_⟩
          refine ⟨.non, _, I.lset (its' := its ++ its2) hH e (by simp) (rr.append rr2) ?_, rfl, hQ⟩
          rw [List.length_append]
          exact hll
        · cases hz
          rw [VR] at rw'
          obtain ⟨b, ws, rfl, hb, hoff, rb⟩ := rw'
          have ex : Ext φ H φ (L2.upd H a (.lst (vs ++ ws))) := Ext.upd (List.mem_of_getElem? ha) hH n1 n2
          have hQ := p φ _ .non ex (sr.write ha hH n1 n2 ⟨_, upd_same, VRs.append (r.mono ex) (rb.mono ex)⟩) VR.n
          exact mt_extend pins s σ H _ _ v us Q I rx rs ⟨a, b, vs, ws, rfl, rfl, hH, hb, by rw [r.length, rb.length]; exact hl, hQ⟩
        · cases hz
      · exact p.elim
    · exact p.elim
  · exact p.elim
end
end EV
namespace EV
open PySem PySem.Spec PyProof.Rows L2 RZ

def ItD (a : Addr) (o : Obj) (es : Raw) : It :=
  ⟨fun i H => H a = some (DctO a o es) ∧ i < es.length, fun i H x H' => H' = H ∧ ∃ p, es[i]? = some p ∧ x = p.2.1, fun i H => H a = some (DctO a o es) ∧ es.length ≤ i⟩
theorem Paired.at {α β : Type} {R : α → β → Prop} : ∀ {a : List α} {b : List β} {i : Nat} {x : α}, Paired R a b → a[i]? = some x → ∃ y, b[i]? = some y ∧ R x y
  | _, _, i, _, .nil, e => by simp at e
  | _, _, 0, _, .cons c _, e => by simp at e; subst e; exact ⟨_, rfl, c⟩
  | _, _, i + 1, _, .cons _ t, e => by
    obtain ⟨y, h1, h2⟩ := Paired.at (i := i) t (by simpa using e)
    exact ⟨y, by simpa using h1, h2⟩
section
variable {X : Cx} {pins : List (Addr × Obj)} {σ : L2.St} {H : Hp} {s : Shared}
theorem raw_at (I : Inv X pins σ H s) {a : Addr} {o : Obj} {es : Raw} (h : H a = some (DctO a o es)) : ∃ arr ep, s.heap.get? a = some o ∧ (a == sysModules) = false ∧ o.ExactDict ∧ o.data = .dict arr ep ∧ arr.size = es.length ∧ es.length ≤ sizeLine ∧
    (∀ (i : Nat) p, es[i]? = some p → ∃ en, arr[i]? = some en ∧ L2.RelV p.2.1 en.key ∧ L2.RelV p.2.2 en.val) ∧ s.heap.DictRaw a arr ep := by
  have z : ObjOk X.prog X.w H s.heap a (DctO a o es) := I.hok a _ h
  obtain ⟨⟨h1, h2, h3, h4, arr, ep, h5, h6⟩, _⟩ := z
  refine ⟨arr, ep, h1, h2, h4, h5, ?_, h3, fun i p e => ?_, ⟨o, h1, h4, h5⟩⟩
  · rw [← Array.length_toList]; exact (Paired.length h6).symm
  · obtain ⟨en, g1, g2, g3, g4⟩ := Paired.at h6 e
    exact ⟨en, by rw [← Array.getElem?_toList]; exact g1, g3, g4⟩
end
section
variable {P : Program} {w : World} {K : PySem.W.Frag} {tg : Expr} {d : Addr} {o : Obj} {arr : Array DictEntry} {ep : Nat} {es : Raw}
theorem turn_dk (it : Addr) (hod : o.data = .dict arr ep) : Turn P w K tg (ItD d o es) [it] it (fun i h => h.IsKeyIter it d i es.length ep) where
  mem := by simp
  obj := fun i h st b hb => by
    have e : b = it := by simpa using hb
    subst e
    obtain ⟨oi, e, c, dd⟩ := st
    exact ⟨oi, e, fun v z => by rw [dd] at z; cases z⟩
  keep := fun i h h' st k => st.at fun oi e => k it (by simp) oi e
  item := by
    intro X hP hw hK hc i pins s σ H E I hf st hg
    subst hP hw hK
    obtain ⟨hd, hi⟩ := hg
    obtain ⟨f0, f1, f2, f3, f4, f5⟩ := hf it (by simp)
    obtain ⟨arr', ep', hgd, hs, hx, hdt, hsz, hln, ent, raw⟩ := raw_at I hd
    obtain ⟨rfl, rfl⟩ := dict_ep hod hdt
    obtain ⟨p, hp⟩ : ∃ p, es[i]? = some p := ⟨es[i], List.getElem?_eq_getElem hi⟩
    obtain ⟨en, hen, hkey, hval⟩ := ent i p hp
    refine next_key_item st hgd hdt hsz hen fun h' st' sb => ?_
    have I1 : Inv X pins σ H { s with heap := h' } := I.turned (t' := s.toks) (fun b ob hb e => (sb.2 b hb).trans e) f0 f1 f3 f4 f5
    obtain ⟨oi, e, c, dd⟩ := id st'
    exact ⟨en.key, rfl, go_of (s := { s with heap := h' }) e c dd (by decide) ⟨p.2.1, H, I1, hkey, ⟨rfl, p, hp, rfl⟩, st', fun b hb => (hf b hb).1⟩⟩
  done := by
    intro X hP hw hK hc i pins s σ H E I hf st hg
    subst hP hw hK
    obtain ⟨hd, hi⟩ := hg
    obtain ⟨f0, f1, f2, f3, f4, f5⟩ := hf it (by simp)
    obtain ⟨arr', ep', hgd, hs, hx, hdt, hsz, hln, ent, raw⟩ := raw_at I hd
    obtain ⟨rfl, rfl⟩ := dict_ep hod hdt
    exact next_key_end (I.ok.hd hc) st hgd hdt hsz hi fun h' eb => ⟨rfl, I.turned (t' := s.toks) (fun b ob hb e => eb b ob hb e) f0 f1 f3 f4 f5⟩
  self := fun A i s Q E st h => wpAny_pyIter_keyiter st h
end
/-- the readings -/
def iDk (td : TE) : TI := fun σ H R => td σ H fun x H1 => ∃ a o es, x = .ref a ∧ H1 a = some (DctO a o es) ∧ R (ItD a o es) H1
section
variable {X : Cx} {tg e : Expr} {td : TE} {apos cpos : Pos}
theorem pi_dk (he : PE X e td) : PI X tg e (iDk td) := by
  refine ⟨fun pins s σ H R I h => ?_⟩
  refine thn (he.run pins s σ H _ I h) fun u s1 ⟨x, H1, I1, rx, a, o, es, ex, hd, q⟩ => ?_
  subst ex
  obtain rfl : u = Value.ref a := rx
  obtain ⟨arr, ep, hgd, hs, hx, hdt, hsz, hln, ent, raw⟩ := raw_at I1 hd
  refine iter_keys hs hgd hx hdt (pi_one (tk := s1.toks) I1 _ (turn_dk _ hdt) ⟨_, Heap.get?_push_size _ rfl, rfl, ?_⟩ q)
  rw [hsz] <;> rfl
end
section
variable {X : Cx} {P : Par} {W : WX}
theorem goes_dk {a : Addr} {o : Obj} {es : Raw} {ks : List IV} {φ : List Addr} {H : Hp} (h1 : ∀ φ' H', Ext φ H φ' H' → H' a = some (DctO a o es)) (r : VRs P φ H ks (es.map (·.2.1))) : Goes P (ItD a o es) ks φ H := by
  have hl : ks.length = es.length := by simpa using r.len'
  refine ⟨fun φ' H' e => ⟨h1 _ _ e, by omega⟩, fun i φ' H' hi e => ⟨h1 _ _ e, by omega⟩, fun i φ' H' x H2 e y v hv => ?_⟩
  obtain ⟨rfl, p, hp, rfl⟩ := y
  obtain ⟨u, e1, r1⟩ := r.get hv
  rw [List.getElem?_map, hp] at e1
  cases e1
  exact ⟨Ext.refl _ _, fun _ _ s => s, fun l k => VR.mono e _ _ (VR.avI k _ _ r1)⟩
/-- a walk of whatever is left as it is: a tuple, a list, a dict's keys -/
def anyIt (fa : IE → M IV) : IE → M (List IV) := fun σ h => (fa σ h).bind fun v h => match v with
  | .tup xs => .ok xs h
  | .lst xs => .ok xs h
  | .scr xs => .ok xs h
  | .dct ks _ => .ok ks h
  | _ => .no
theorem PI.or3 {tg e : Expr} {t1 t2 t3 : TI} (h1 : PI X tg e t1) (h2 : PI X tg e t2) (h3 : PI X tg e t3) : PI X tg e (fun σ H R => t1 σ H R ∨ t2 σ H R ∨ t3 σ H R) := ⟨fun pins s σ H R I h => by
  rcases h with h | h | h
  · exact h1.run pins s σ H R I h
  · exact h2.run pins s σ H R I h
  · exact h3.run pins s σ H R I h⟩
theorem pi_anyI {a tg : Expr} {fa : IE → M IV} (hK : X.K = P.K) (ha : PE X a (tE P W fa)) : PI X tg a (tI P W (anyIt fa)) := PI.weak (PI.or3 (pi_tupI hK ha) (pi_lstI hK ha) (pi_dk ha)) fun σ H R hq => by
  obtain ⟨φ, h, σi, s, se, p⟩ := hq
  cases e : fa σi h with
  | ex v h1 =>
    refine .inl ⟨φ, h, σi, s, se, ?_⟩
    unfold anyIt at p; unfold tupIt
    simp only [e, Out.bind] at p ⊢; exact p
  | no => unfold anyIt at p; simp only [e, Out.bind] at p; exact p.elim
  | ok v h1 =>
    have p0 := p
    unfold anyIt at p
    simp only [e, Out.bind] at p
    split at p
    · exact .inl ⟨φ, h, σi, s, se, by unfold tupIt; simp only [e, Out.bind]; exact p⟩
    · exact .inr (.inl ⟨φ, h, σi, s, se, by unfold lstIt; simp only [e, Out.bind]; exact p⟩)
    · exact .inr (.inl ⟨φ, h, σi, s, se, by unfold lstIt; simp only [e, Out.bind]; exact p⟩)
    · refine .inr (.inr ⟨φ, h, σi, s, se, ?_⟩)
      rw [e]
      intro φ' H' x ex s' r
      rw [VR] at r
      obtain ⟨b, o, es, rfl, h2, hn, r1, r2, r3⟩ := r
      exact ⟨b, o, es, rfl, h2, p φ' H' _ ex s' (goes_dk (fun φ2 H2 e2 => e2.keep _ _ h2 hn.1) r1)⟩
    · exact p.elim
theorem Post.newDct {σ : L2.St} {φ : List Addr} {H : Hp} {h : IH} {Q : VK} {ks us : List IV} {o : Obj} {es : Raw} (p : Post P W σ φ H Q (.ok (.dct ks us) h)) (s : SR P φ H h) (r1 : VRs P φ H ks (es.map (·.2.1))) (r2 : VRs P φ H us (es.map (·.2.2))) (r3 : KeysOk P.w ks (es.map (·.1))) {t : Addr} (ht : H t = none) : Q (.ref t) (upd H t (DctO t o es)) := by
  refine p φ _ _ (Ext.new ht) (s.untold ht) ?_
  rw [VR]
  exact ⟨t, o, es, rfl, upd_same, s.fresh ht, r1.mono (Ext.new ht), r2.mono (Ext.new ht), r3⟩
theorem Post.newDctR {σ : L2.St} {φ : List Addr} {H : Hp} {h : IH} {Q : VK} {ks us : List IV} {o : Obj} {es : Raw} (p : Post P W σ φ H Q (.ok (.ref h.length) (h ++ [.dct ks us]))) (s : SR P φ H h) (r1 : VRs P φ H ks (es.map (·.2.1))) (r2 : VRs P φ H us (es.map (·.2.2))) (r3 : KeysOk P.w ks (es.map (·.1))) {t : Addr} (ht : H t = none) : Q (.ref t) (upd H t (DctO t o es)) := by
  refine p (φ ++ [t]) _ _ (Ext.newA ht) (s.told ht ⟨o, es, upd_same, r1.mono (Ext.newA ht), r2.mono (Ext.newA ht), r3⟩) ?_
  rw [VR]
  exact ⟨t, by rw [← s.len]; simp, rfl⟩
def emptyO : Obj := { cls := .type "dict", data := .dict #[] }
theorem keysOk_nil {w : World} : KeysOk w [] [] := ⟨[], rfl, List.nodup_nil, rfl⟩
theorem raw_nil {h : Heap} (hb : sysModules < h.objs.size) : RawAt h.objs.size emptyO [] (h.push emptyO) :=
  ⟨Heap.get?_push_size _ rfl, beq_eq_false_iff_ne.mpr (Ne.symm (Nat.ne_of_lt hb)), Nat.zero_le _, ⟨rfl, rfl, rfl⟩, #[], 0, rfl, .nil⟩
theorem pe_dnewD {pos : Pos} : PE X (.Dict [] [] pos) (fun _ H Q => ∀ p, H p = none → Q (.ref p) (upd H p (DctO p emptyO []))) := ⟨fun pins s σ H Q I h =>
  wpAny_Dict_empty ⟨.ref s.heap.objs.size, _, I.laid (a := s.heap.objs.size) (o := DctO s.heap.objs.size emptyO []) (t' := s.toks) (fun _ _ q => Heap.get?_push_of_some _ q) (Nat.le_refl _) (raw_nil I.big).objOk, rfl, h _ (I.hok.fresh (Nat.le_refl _))⟩⟩
def dct0E : IE → M IV := fun _ h => .ok (.dct [] []) h
def dct0R : IE → M IV := fun _ h => .ok (.ref h.length) (h ++ [.dct [] []])
theorem pe_d0I {pos : Pos} : PE X (.Dict [] [] pos) (tE P W dct0E) := PE.weak pe_dnewD fun σ H Q hq => by
  obtain ⟨φ, h, σi, s, se, p⟩ := hq
  exact fun t ht => Post.newDct p s VRs.nil VRs.nil keysOk_nil ht
theorem pe_d0R {pos : Pos} : PE X (.Dict [] [] pos) (tE P W dct0R) := PE.weak pe_dnewD fun σ H Q hq => by
  obtain ⟨φ, h, σi, s, se, p⟩ := hq
  exact fun t ht => Post.newDctR p s VRs.nil VRs.nil keysOk_nil ht
end
end EV
namespace EV
open PySem PySem.Spec PyProof.Rows L2 RZ

def dkey (h : IH) (x : IV) : PyData := (dat h DEEP x).getD .none
def leI (h : IH) : IV → IV → Bool := PySem.W.dataLe false (dkey h)
def isTupC : PyData → Bool
  | .tuple (_ :: _) => true
  | _ => false
def notNT : PyData → Bool
  | .none => false
  | .tuple _ => false
  | _ => true
def sortOk (h : IH) (xs : List IV) : Bool := match mapO (dat h DEEP) xs with
  | some ds => (ds.all fun d => ds.all fun e => PySem.W.alike d e) && (ds.all isTupC || ds.all notNT)
  | none => false
theorem mapO_all {α β : Type} {f : α → Option β} : ∀ {xs : List α} {ys : List β}, mapO f xs = some ys → ys = xs.filterMap f ∧ ∀ x ∈ xs, ∃ y, f x = some y ∧ y ∈ ys
  | [], _, e => by simp only [mapO] at e; cases e; simp
  | x :: xs, _, e => by
    obtain ⟨y, ys, h1, h2, rfl⟩ := mapO_cons e
    obtain ⟨h3, h4⟩ := mapO_all h2
    refine ⟨by rw [List.filterMap_cons, h1, ← h3], fun z hz => ?_⟩
    rcases List.mem_cons.mp hz with rfl | hz
    · exact ⟨y, h1, List.mem_cons_self⟩
    · obtain ⟨w, h5, h6⟩ := h4 z hz
      exact ⟨w, h5, List.mem_cons_of_mem _ h6⟩
theorem sortOk_ok {h : IH} {xs : List IV} (e : sortOk h xs = true) : (∀ x ∈ xs, ∃ d, dat h DEEP x = some d ∧ dkey h x = d) ∧ PySem.W.AllAlike (xs.map (dkey h)) ∧ PySem.W.Sortable (xs.map (dkey h)) := by
  unfold sortOk at e
  split at e
  · rename_i ds eq
    obtain ⟨e1, e2⟩ := Bool.and_eq_true_iff.mp e
    obtain ⟨_, q⟩ := mapO_all eq
    have key : ∀ x ∈ xs, ∃ d, dat h DEEP x = some d ∧ dkey h x = d ∧ d ∈ ds := fun x hx => by
      obtain ⟨d, h1, h2⟩ := q x hx
      exact ⟨d, h1, by unfold dkey; rw [h1]; rfl, h2⟩
    have mem : ∀ d ∈ xs.map (dkey h), d ∈ ds := fun d hd => by
      obtain ⟨x, hx, rfl⟩ := List.mem_map.mp hd
      obtain ⟨d, _, h2, h3⟩ := key x hx
      rw [h2]; exact h3
    refine ⟨fun x hx => let ⟨d, h1, h2, _⟩ := key x hx; ⟨d, h1, h2⟩, fun d hd d' hd' => ?_, ?_⟩
    · exact List.all_eq_true.mp (List.all_eq_true.mp e1 d (mem d hd)) d' (mem d' hd')
    · rcases Bool.or_eq_true_iff.mp e2 with e2 | e2
      · refine .inl fun d hd => ?_
        have := List.all_eq_true.mp e2 d (mem d hd)
        unfold isTupC at this
        split at this
        · exact ⟨_, _, rfl⟩
        · cases this
      · refine .inr fun d hd => ?_
        have := List.all_eq_true.mp e2 d (mem d hd)
        unfold notNT at this
        split at this
        · cases this
        · cases this
        · rename_i n1 n2
          exact ⟨fun z => n1 z, fun xs z => n2 xs z⟩
  · cases e
/-- the items, sorted -/
def sortL (h : IH) (xs : List IV) : List IV := srtF (leI h) xs.length xs
theorem sortL_eq {h : IH} {xs : List IV} : sortL h xs = xs.mergeSort (leI h) := srtF_eq _ _ (Nat.le_refl _)

section
variable {P : Par} {φ : List Addr} {H : Hp} {h : IH}
theorem VRs.pairs : ∀ {xs : List IV} {vs : List V}, VRs P φ H xs vs → ∃ bs : List (IV × V), xs = bs.map (·.1) ∧ vs = bs.map (·.2) ∧ ∀ b ∈ bs, VR P φ H b.1 b.2
  | [], _, r => by rw [VRs] at r; subst r; exact ⟨[], rfl, rfl, by simp⟩
  | x :: xs, _, r => by
    rw [VRs] at r
    obtain ⟨v, t, rfl, r1, r2⟩ := r
    obtain ⟨bs, h1, h2, h3⟩ := VRs.pairs r2
    exact ⟨(x, v) :: bs, by rw [h1]; rfl, by rw [h2]; rfl, fun b hb => by
      rcases List.mem_cons.mp hb with rfl | hb
      · exact r1
      · exact h3 b hb⟩
theorem VRs.ofPairs : ∀ {bs : List (IV × V)}, (∀ b ∈ bs, VR P φ H b.1 b.2) → VRs P φ H (bs.map (·.1)) (bs.map (·.2))
  | [], _ => VRs.nil
  | b :: bs, h => VRs.cons (h b List.mem_cons_self) (VRs.ofPairs fun c hc => h c (List.mem_cons_of_mem _ hc))
end
theorem each_vals : ∀ {bs : List (IV × V)} {us : List Value}, PySem.W.EachIs (fun (u : Value) (b : IV × V) => L2.RelV b.2 u) us bs → Vals (bs.map (·.2)) us
  | [], _, .nil => .nil
  | _ :: _, _, .cons a b => .cons a (each_vals b)
theorem vals_each : ∀ {bs : List (IV × V)} {us : List Value}, Vals (bs.map (·.2)) us → PySem.W.EachIs (fun (u : Value) (b : IV × V) => L2.RelV b.2 u) us bs
  | [], _, .nil => .nil
  | _ :: _, _, .cons a b => .cons a (vals_each b)
section
variable {X : Cx} {P : Par} {φ : List Addr} {H : Hp} {h : IH} {pins : List (Addr × Obj)} {σ : L2.St} {s : Shared}
theorem each_reads (I : Inv X pins σ H s) (hK : X.K = P.K) (sr : SR P φ H h) : ∀ {bs : List (IV × V)} {us : List Value}, (∀ b ∈ bs, VR P φ H b.1 b.2) → (∀ b ∈ bs, ∃ d, dat h DEEP b.1 = some d ∧ dkey h b.1 = d) → Vals (bs.map (·.2)) us →
    PySem.W.EachIs (fun (u : Value) (b : IV × V) => ∃ as, Reads s.heap u (dkey h b.1) as) us bs
  | [], _, _, _, .nil => .nil
  | b :: bs, _, r, k, .cons a t => by
    refine .cons ?_ (each_reads I hK sr (fun c hc => r c (List.mem_cons_of_mem _ hc)) (fun c hc => k c (List.mem_cons_of_mem _ hc)) t)
    obtain ⟨d, h1, h2⟩ := k b List.mem_cons_self
    rw [h2]
    have dp := dat_Dp sr _ _ _ _ h1 (r b List.mem_cons_self)
    rw [← hK] at dp
    exact Dp.reads I d _ _ dp a
theorem each_mono {α β : Type} {R R' : α → β → Prop} (k : ∀ a b, R a b → R' a b) : ∀ {as : List α} {bs : List β}, PySem.W.EachIs R as bs → PySem.W.EachIs R' as bs
  | _, _, .nil => .nil
  | _, _, .cons a t => .cons (k _ _ a) (each_mono k t)
theorem dkey_depth {x : IV} {d : PyData} (e : dat h DEEP x = some d) (e2 : dkey h x = d) : (dkey h x).depth ≤ 12 := by rw [e2]; exact (dat_ok _ _ _ e).2
theorem sort_pairs {bs : List (IV × V)} : (bs.mergeSort (PySem.W.dataLe false fun b => dkey h b.1)).map (·.1) = sortL h (bs.map (·.1)) := by
  rw [sortL_eq, List.map_mergeSort (s := leI h)]
  intro a _ b _
  rfl
/-- items that read as data are sorted -/
theorem sorted_tail (I : Inv X pins σ H s) (hK : X.K = P.K) (hu : X.A.units + 65 < cLine) (sr : SR P φ H h) {xs : List IV} {vs : List V} {us : List Value} (r : VRs P φ H xs vs) (rv : Vals vs us) (ok : sortOk h xs = true) (hl : xs.length ≤ sizeLine) {h' : Heap} {tk : Nat} (k : ∀ b o, s.heap.get? b = some o → h'.get? b = some o)
    {Q : PySem.Fin → Shared → Prop} {E : Value → Shared → Prop}
    (q : ∀ ws hp, VRs P φ H (sortL h xs) ws → ws.length = xs.length → (∀ b o, h'.get? b = some o → hp.get? b = some o) → (∃ (its : List Value) (e : Nat), Vals ws its ∧ hp.get? h'.objs.size = some (seqObj "list" its.toArray e)) → Q (.done (.ret .none)) { s with heap := hp, toks := tk }) :
    wpAny (model X.prog X.w) X.A.in1.in1 (Builtin.«list.sort» ⟨[.ref h'.objs.size], []⟩) Q E { s with heap := h'.push (seqObj "list" us.toArray 0), toks := tk } := by
  obtain ⟨bs, e1, e2, r1⟩ := r.pairs
  subst e1 e2
  obtain ⟨k1, k2, k3⟩ := sortOk_ok ok
  have k1' : ∀ b ∈ bs, ∃ d, dat h DEEP b.1 = some d ∧ dkey h b.1 = d := fun b hb => k1 b.1 (List.mem_map.mpr ⟨b, hb, rfl⟩)
  have hoL : (h'.push (seqObj "list" us.toArray 0)).get? h'.objs.size = some (seqObj "list" us.toArray 0) := Heap.get?_push_size _ rfl
  have old : ∀ b o, s.heap.get? b = some o → (PySem.W.sortingHeap (h'.push (seqObj "list" us.toArray 0)) h'.objs.size us).get? b = some o := fun b o e =>
    PySem.W.sortingHeap_old (Nat.ne_of_lt (Heap.lt_size (k b o e))) (Heap.get?_push_of_some _ (k b o e))
  have er : PySem.W.EachIs (fun (u : Value) (b : IV × V) => ∃ as, Reads (PySem.W.sortingHeap (h'.push (seqObj "list" us.toArray 0)) h'.objs.size us) u (dkey h b.1) as) us bs :=
    each_mono (fun u b ⟨as, z⟩ => ⟨as, PyProof.Rows.Reads.keeps old z⟩) (each_reads I hK sr r1 k1' rv)
  have ee := vals_each rv
  have em : bs.map (fun b => dkey h b.1) = (bs.map (·.1)).map (dkey h) := by rw [List.map_map]; rfl
  have hal : PySem.W.AllAlike (bs.map fun b => dkey h b.1) := by rw [em]; exact k2
  have hks : PySem.W.Sortable (bs.map fun b => dkey h b.1) := by rw [em]; exact k3
  have hub : ∀ b ∈ bs, X.A.in1.in1.units + (dkey h b.1).depth < cLine := fun b hb => by
    obtain ⟨d, z1, z2⟩ := k1' b hb
    have := dkey_depth z1 z2
    show X.A.units + 1 + 1 + _ < _
    omega
  have hlen : us.length = bs.length := by have := rv.length; simpa using this.symm
  refine PySem.W.list_sort_vals (κ := PySem.W.dataKind (PySem.W.sortingHeap (h'.push (seqObj "list" us.toArray 0)) h'.objs.size us) (bs.map fun b => dkey h b.1)) hoL
    (PySem.W.SortsAt.data (s := { s with heap := PySem.W.sortingHeap (h'.push (seqObj "list" us.toArray 0)) h'.objs.size us, toks := tk }) (PySem.W.each_map (R := fun v d => ∃ as, Reads (PySem.W.sortingHeap (h'.push (seqObj "list" us.toArray 0)) h'.objs.size us) v d as) (fun b : IV × V => dkey h b.1) er) hal hks (PySem.W.bound_map hub)) (by rw [hlen]; simpa using hl) ?_
  have out := PySem.W.sortVals_data false ee er hal
  obtain ⟨e', he'⟩ := PyProof.Rows.sortedHeap_at (vs := us) (out := (PySem.W.sortVals (PySem.W.dataKind (PySem.W.sortingHeap (h'.push (seqObj "list" us.toArray 0)) h'.objs.size us) (bs.map fun b => dkey h b.1)) false us us).toArray) hoL
  refine q ((bs.mergeSort (PySem.W.dataLe false fun b => dkey h b.1)).map (·.2)) _ ?_ (by simp [List.length_mergeSort]) (fun b o e => ?_) ⟨_, e', each_vals out, he'⟩
  · rw [← sort_pairs]
    exact VRs.ofPairs fun b hb => r1 b ((List.mem_mergeSort).mp hb)
  · have hb : b < h'.objs.size := Heap.lt_size e
    rw [PyProof.Rows.sortedHeap_old (Nat.ne_of_lt hb) (by rw [size_push']; exact Nat.lt_succ_of_lt hb)]
    exact Heap.get?_push_of_some _ e
end
/-- the items of a list, of a dict's keys -/
def srcI (h : IH) : IV → Option (List IV)
  | .dct ks _ => some ks
  | .lst xs => some xs
  | .scr xs => some xs
  | .ref n => match h[n]? with
    | some (.lst xs) => some xs
    | some (.dct ks _) => some ks
    | _ => none
  | _ => none
theorem srcI_ok {P : Par} {φ : List Addr} {H : Hp} {h : IH} (sr : SR P φ H h) {x : IV} {xs : List IV} {v : V} (r : VR P φ H x v) (e : srcI h x = some xs) : ∃ a, v = .ref a ∧ ((∃ vs, SqL P.K H a vs ∧ VRs P φ H xs vs) ∨ ∃ o es, H a = some (DctO a o es) ∧ VRs P φ H xs (es.map (·.2.1))) := by
  cases x with
  | dct ks us =>
    simp only [srcI] at e; cases e
    rw [VR] at r
    obtain ⟨a, o, es, h1, h2, _, h4, _⟩ := r
    exact ⟨a, h1, .inr ⟨o, es, h2, h4⟩⟩
  | ref n =>
    simp only [srcI] at e
    split at e
    · rename_i q; cases e
      obtain ⟨a, vs, _, h1, h2, h3⟩ := sr.lst r q
      exact ⟨a, h1, .inl ⟨vs, .of h2, h3⟩⟩
    · rename_i q; cases e
      rw [VR] at r
      obtain ⟨a, h1, h2⟩ := r
      obtain ⟨o, es, h3, h4, _⟩ := sr.obj _ _ a q h1
      exact ⟨a, h2, .inr ⟨o, es, h3, h4⟩⟩
    · cases e
  | lst xs =>
    simp only [srcI] at e; cases e
    obtain ⟨a, vs, h1, h2, h3⟩ := sr.lsR r rfl
    exact ⟨a, h1, .inl ⟨vs, h2, h3⟩⟩
  | scr xs =>
    simp only [srcI] at e; cases e
    obtain ⟨a, vs, h1, h2, h3⟩ := sr.lsR r rfl
    exact ⟨a, h1, .inl ⟨vs, h2, h3⟩⟩
  | _ => simp [srcI] at e
/-- sorted(..) -/
def sortedI : RM := fun xs h => match xs with
  | [v] => match srcI h v with
    | some ys => if sortOk h ys = true ∧ ys.length ≤ 16777216 then .ok (.lst (sortL h ys)) h else .no
    | none => .no
  | _ => .no
section
variable {X : Cx} {P : Par} {W : WX}
/-- the end of sorted -/
theorem sorted_end {φ : List Addr} {H : Hp} {h : IH} {pins : List (Addr × Obj)} {σ σ' : L2.St} {s : Shared} {Q : VK} (I : Inv X pins σ H s) (sr : SR P φ H h) {ys : List IV} {ws : List V} {hp : Heap} {tk : Nat} (p : Post P W σ' φ H Q (.ok (.lst (sortL h ys)) h)) (r : VRs P φ H (sortL h ys) ws) (hl : ws.length ≤ sizeLine) {a : Addr} (k : ∀ b o, s.heap.get? b = some o → hp.get? b = some o) (hsz : s.heap.objs.size ≤ a)
    (e : ∃ (its : List Value) (e : Nat), Vals ws its ∧ hp.get? a = some (seqObj "list" its.toArray e)) : EP X pins σ Q (.ref a) { s with heap := hp, toks := tk } := by
  obtain ⟨its, e0, rv, he⟩ := e
  exact ⟨.ref a, upd H a (.lst ws), I.laid (t' := tk) k hsz (show ObjOk X.prog X.w _ _ _ (.lst ws) from ⟨hl, its, e0, rv, he⟩), rfl, p.newLst sr r (I.hok.fresh hsz)⟩
theorem cr_sortedI (hK : X.K = P.K) (hc : X.calm = true) (hu : X.A.units + 65 < cLine) : CallR X (.builtin "sorted") (rB P W sortedI) := by
  intro pins s σ H xs us Q I rs ⟨φ, h, σ', ivs, sr, r, p⟩
  unfold sortedI at p
  split at p
  · rename_i iv
    split at p
    · rename_i ys ey
      split at p
      · rename_i c
        · obtain ⟨v0, rfl, r1⟩ := r.one
          obtain ⟨u, rfl, ru⟩ := vals1 rs
          obtain ⟨a0, ea0, src⟩ := srcI_ok sr r1 ey
          have cl : ys.length ≤ sizeLine := c.2
          -- a list
          have lst : ∀ {a : Addr} {vs : List V}, v0 = .ref a → SqL X.K H a vs → VRs P φ H ys vs → wpAny (model X.prog X.w) X.A (call (.builtin "sorted") [u]) (EP X pins σ Q) X.xe s := by
            intro a vs ea hq rr
            subst ea
            cases (show u = Value.ref a from ru)
            obtain ⟨its, rv, pl, hz⟩ := I.list hq
            obtain ⟨bs, e1, e2, r1'⟩ := rr.pairs
            subst e1 e2
            obtain ⟨k1, k2, k3⟩ := sortOk_ok c.1
            have k1' : ∀ b ∈ bs, ∃ d, dat h DEEP b.1 = some d ∧ dkey h b.1 = d := fun b hb => k1 b.1 (List.mem_map.mpr ⟨b, hb, rfl⟩)
            have em : bs.map (fun b => dkey h b.1) = (bs.map (·.1)).map (dkey h) := by rw [List.map_map]; rfl
            refine PySem.W.sorted_data pl.isList (vals_each rv) (each_reads I hK sr r1' k1' rv) (by rw [em]; exact k2) (by rw [em]; exact k3) (by simpa using cl) (fun b hb => ?_) fun out ho eo => ?_
            · obtain ⟨d, z1, z2⟩ := k1' b hb
              have := dkey_depth z1 z2
              omega
            · obtain ⟨e', he'⟩ := PyProof.Rows.sortedAll_at s.heap its out.toArray
              refine sorted_end (tk := s.toks) (ws := (bs.mergeSort (PySem.W.dataLe false fun b => dkey h b.1)).map (·.2)) I sr p ?_ (by rw [List.length_map, List.length_mergeSort]; simpa using cl) (fun b o => PyProof.Rows.sortedAll_old) (Nat.le_succ _) ⟨out, e', each_vals eo, he'⟩
              rw [← sort_pairs]
              exact VRs.ofPairs fun b hb => r1' b ((List.mem_mergeSort).mp hb)
          have dct : ∀ {a : Addr} {o : Obj} {es : Raw}, v0 = .ref a → H a = some (DctO a o es) → VRs P φ H ys (es.map (·.2.1)) → wpAny (model X.prog X.w) X.A (call (.builtin "sorted") [u]) (EP X pins σ Q) X.xe s := by
            intro a o es ea hp rr
            subst ea
            cases (show u = Value.ref a from ru)
            obtain ⟨arr, ep, hgd, hs, hx, hdt, hsz, hln, ent, raw⟩ := raw_at I hp
            have hly : ys.length = es.length := by simpa using rr.len'
            refine Calls.call_function_entry PyProof.Rows.kind_sorted PyProof.Rows.plain_sorted PyProof.Rows.entry_sorted (PyProof.Rows.args_sorted1 _) ?_
            unfold Builtin.«sorted»
            refine wpAny_bind (m := checkCount "sorted" 1 1 _) (wpAny_pure ?_)
            refine wpAny_bind (PySem.W.kdu_collect (A := X.A.in1) (kdl_raw hs hx hdt) (I.ok.hd hc) hgd (by omega) fun h' tk acc hk hacc => ?_)
            have hal : acc.toList.length = es.length := by rw [Array.length_toList, hacc.1, hsz]
            have rv : Vals (es.map (·.2.1)) acc.toList := by
              refine vals_of_at (by rw [hal]; simp) fun j x u e1 e2 => ?_
              rw [List.getElem?_map] at e1
              cases e3 : es[j]? with
              | none => rw [e3] at e1; cases e1
              | some p =>
                rw [e3] at e1; cases e1
                obtain ⟨en, g1, g2, g3⟩ := ent j p e3
                obtain ⟨en', g4, g5⟩ := hacc.2 j u (by rw [← Array.getElem?_toList]; exact e2)
                rw [g1] at g4; cases g4
                rw [g5]; exact g2
            have I1 : Inv X pins σ H { s with heap := h', toks := tk } := I.kept hk
            refine wpAny_bind (wpAny_newList ?_ (by rw [hal]; exact hln))
            show wpAny _ _ _ _ _ { s with heap := h'.push (seqObj "list" acc.toList.toArray 0), toks := tk }
            have hoL : (h'.push (seqObj "list" acc.toList.toArray 0)).get? h'.objs.size = some (seqObj "list" acc.toList.toArray 0) := Heap.get?_push_size _ rfl
            refine wpAny_bind (wpAny_holding (wpAny_call_entry PyProof.Rows.slot_list_sort ⟨_, hoL, rfl⟩ PyProof.Rows.entry_list_sort
              (sorted_tail I hK hu sr rr rv c.1 c.2 hk fun ws hp q1 q2 q3 q4 => ⟨_, rfl, ?_⟩) (PyProof.Rows.args_list_sort _)))
            exact wpAny_pure ⟨_, rfl, sorted_end I1 sr p q1 (by rw [q2]; exact c.2) q3 (Nat.le_refl _) q4⟩
          rcases src with ⟨vs, h1, h2⟩ | ⟨o, es, h1, h2⟩
          · exact lst ea0 (by rw [hK]; exact h1) h2
          · exact dct ea0 h1 h2
      · exact p.elim
    · exact p.elim
  · exact p.elim
end
end EV
namespace EV
open PySem PySem.Spec PyProof.Rows L2 RZ

section
variable {X : Cx} {P : Par} {W : WX} {e : Expr} {p pos tpos : Pos}
end
end EV
namespace EV
open PySem PySem.Spec PyProof.Rows L2 RZ

/-- as Ext, but what is under way may change -/
structure ExtA (P : Par) (φ : List Addr) (H : Hp) (φ' : List Addr) (H' : Hp) : Prop where
  pre : ∃ t, φ' = φ ++ t ∧ ∀ a ∈ t, H a = none
  keep : ∀ b o, H b = some o → Off P φ b → (nt : Stay o := by first | exact stay_lst | exact stay_dct | exact stay_xd | exact stay_code | assumption) → H' b = some o
  tups : ∀ b xs, H b = some (.tup xs) → H' b = some (.tup xs)
  frzs : ∀ b o u, H b = some (.frz o u) → H' b = some (.frz o u)
  there : ∀ b o, H b = some o → ∃ o', H' b = some o'
section
variable {P : Par} {φ φ' φ2 : List Addr} {H H' H2 : Hp}
theorem ExtA.refl : ExtA P φ H φ H := ⟨⟨[], by simp, by simp⟩, fun _ _ h _ _ => h, fun _ _ h => h, fun _ _ _ h => h, fun _ o h => ⟨o, h⟩⟩
theorem ExtA.out (e : ExtA P φ H φ' H') {a : Addr} {o : HO} (h : H a = some o) (n : Off P φ a) : Off P φ' a := by
  obtain ⟨t, rfl, ht⟩ := e.pre
  refine ⟨fun m => ?_, n.2⟩
  rcases List.mem_append.mp m with m | m
  · exact n.1 m
  · rw [ht a m] at h; cases h
theorem ExtA.thn (e : ExtA P φ H φ' H') (f : Ext φ' H' φ2 H2) : ExtA P φ H φ2 H2 := by
  have e0 := e
  obtain ⟨⟨t, rfl, ht⟩, k, tu, fz, th⟩ := e
  obtain ⟨⟨t', rfl, ht'⟩, k', tu', fz', th'⟩ := f
  refine ⟨⟨t ++ t', by simp, fun a ha => ?_⟩, fun b o h n nt => k' _ _ (k _ _ h n nt) (e0.out h n).1 nt, fun _ _ h => tu' _ _ (tu _ _ h), fun _ _ _ h => fz' _ _ _ (fz _ _ _ h), fun b o h => ?_⟩
  · rcases List.mem_append.mp ha with ha | ha
    · exact ht a ha
    · have := ht' a ha
      cases q : H a with
      | none => rfl
      | some o =>
        obtain ⟨o', e⟩ := th _ _ q
        rw [this] at e; cases e
  · obtain ⟨o', e⟩ := th _ _ h
    exact th' _ _ e
/-- one that is under way changes -/
theorem ExtA.put {h : IH} (e : ExtA P φ H φ' H') (s : SR P φ' H' h) {D : Addr} {o : HO} (m : D ∈ P.av) : ExtA P φ H φ' (upd H' D o) := by
  obtain ⟨n1, _, nt, nf⟩ := s.av D m
  refine ⟨e.pre, fun b u h n nt' => ?_, fun b xs h => ?_, fun b u w h => ?_, fun b u h => ?_⟩
  · exact (upd_ne fun z => n.2 (by rw [z]; exact m)).trans (e.keep b u h n nt')
  · exact (upd_ne fun z => nt xs (by rw [← z]; exact e.tups b xs h)).trans (e.tups b xs h)
  · exact (upd_ne fun z => nf u w (by rw [← z]; exact e.frzs b u w h)).trans (e.frzs b u w h)
  · by_cases z : b = D
    · subst z; exact ⟨o, upd_same⟩
    · obtain ⟨w, k⟩ := e.there b u h
      exact ⟨w, (upd_ne z).trans k⟩
theorem ExtA.seqT {K : PySem.W.Frag} (e : ExtA P φ H φ' H') {a : Addr} {xs : List V} (h : SqT K H a xs) : SqT K H' a xs := by
  rcases h with (h | ⟨o, h⟩) | h
  · exact .inl (.inl (e.tups _ _ h))
  · exact .inl (.inr ⟨o, e.frzs _ _ _ h⟩)
  · exact .inr h
theorem ExtA.sqLi (e : ExtA P φ H φ' H') {a : Addr} {vs : List V} (h : SqLi P H a vs) : SqLi P H' a vs := by
  rcases h with ⟨o, h⟩ | h
  · exact .inl ⟨o, e.frzs _ _ _ h⟩
  · exact .inr h
mutual
theorem VR.monoA (e : ExtA P φ H φ' H') : ∀ (x : IV) (v : V), VR P φ H x v → VR P φ' H' x v
  | .non, _, h | .bl _, _, h | .int _, _, h | .str _, _, h | .ty _, _, h | .glo _, _, h => by simpa only [VR] using h
  | .ref n, _, h => by
    rw [VR] at h ⊢
    obtain ⟨a, h1, h2⟩ := h
    obtain ⟨t, rfl, _⟩ := e.pre
    exact ⟨a, by rw [List.getElem?_append_left (List.getElem?_eq_some_iff.mp h1).1]; exact h1, h2⟩
  | .tup xs, _, h => by
    rw [VR] at h ⊢
    obtain ⟨a, vs, h1, h2, h3⟩ := h
    exact ⟨a, vs, h1, e.seqT h2, VRs.monoA e xs vs h3⟩
  | .lst xs, _, h => by
    rw [VR] at h ⊢
    obtain ⟨a, vs, h1, h2, h3, h4⟩ := h
    exact ⟨a, vs, h1, e.keep _ _ h2 h3, e.out h2 h3, VRs.monoA e xs vs h4⟩
  | .scr xs, _, h => by
    rw [VR] at h ⊢
    obtain ⟨a, vs, h1, h2, h3⟩ := h
    exact ⟨a, vs, h1, e.sqLi h2, VRs.monoA e xs vs h3⟩
  | .dct ks us, _, h => by
    rw [VR] at h ⊢
    obtain ⟨a, o, es, h1, h2, h3, h4, h5, h6⟩ := h
    exact ⟨a, o, es, h1, e.keep _ _ h2 h3, e.out h2 h3, VRs.monoA e ks _ h4, VRs.monoA e us _ h5, h6⟩
  | .exc a dd ns xs, _, h => by
    rw [VR] at h ⊢
    obtain ⟨h1, h | ⟨vs, h2, h3, h4⟩⟩ := h
    · exact ⟨h1, .inl h⟩
    · exact ⟨h1, .inr ⟨vs, e.keep _ _ h2 h3, e.out h2 h3, VRs.monoA e xs vs h4⟩⟩
  | .fn a c q ix xs σ, _, h => by
    rw [VR] at h ⊢
    obtain ⟨h1, h2, h3, vs, h4, h5⟩ := h
    exact ⟨h1, e.keep _ _ h2 h3 stay_code, e.out h2 h3, vs, h4, VRs.monoA e xs vs h5⟩
theorem VRs.monoA (e : ExtA P φ H φ' H') : ∀ (xs : List IV) (vs : List V), VRs P φ H xs vs → VRs P φ' H' xs vs
  | [], _, h => by simpa only [VRs] using h
  | x :: xs, _, h => by
    rw [VRs] at h ⊢
    obtain ⟨v, r, h1, h2, h3⟩ := h
    exact ⟨v, r, h1, VR.monoA e x v h2, VRs.monoA e xs r h3⟩
end
end
/-- J walks the items xs of an inner clause -/
structure GoesA (P : Par) (J : It) (xs : List IV) (φ0 : List Addr) (H0 : Hp) : Prop where
  stop : ∀ φ H, ExtA P φ0 H0 φ H → J.stop xs.length H
  go : ∀ i φ H, i < xs.length → ExtA P φ0 H0 φ H → J.go i H
  yld : ∀ i φ H x H', ExtA P φ0 H0 φ H → J.yld i H x H' → ∀ v, xs[i]? = some v → Ext φ H φ H' ∧ (∀ R h, SR R φ H h → SR R φ H' h) ∧ VR P φ H' v x
section
variable {X : Cx} {P : Par} {W : WX} {a : Expr} {fa : IE → M IV}
end

section
variable {X : Cx} {P : Par} {W : WX}
theorem PI.exi {X : Cx} {α : Type} {tg e : Expr} {t : α → TI} (h : ∀ a, PI X tg e (t a)) : PI X tg e (fun σ H Q => ∃ a, t a σ H Q) := ⟨fun pins s σ H Q I ⟨a, hw⟩ => (h a).run pins s σ H Q I hw⟩
variable {elt tg iter tg1 iter1 : Expr} {ifs ifs1 : List Expr} {scope : Scope} {pos : Pos} {fi fi1 : IE → M (List IV)} {g g1 : TM} {t t1 : IE → M Bool} {f : IE → M IV} {av : List Addr}
end
end EV
namespace EV
open PySem PySem.Spec PyProof.Rows L2 RZ

section
variable {X : Cx}
end

section
variable {X : Cx} {P : Par} {W : WX}
variable {kx vx tg iter : Expr} {ifs : List Expr} {scope : Scope} {pos : Pos} {fi : IE → M (List IV)} {g : TM} {t : IE → M Bool} {fk fv : IE → M IV} {av : List Addr}
end
end EV
namespace EV
open PySem PySem.Spec PyProof.Rows L2 RZ

def dmerge (ks us : List IV) : List IV → List IV → List IV × List IV
  | k :: ks2, v :: us2 => dmerge (dput k v ks us).1 (dput k v ks us).2 ks2 us2
  | _, _ => (ks, us)
section
variable {X : Cx} {P : Par} {φ : List Addr} {H : Hp} {h : IH} {pins : List (Addr × Obj)} {σ : L2.St} {s : Shared}
/-- a dict of atoms -/
theorem dict_atom (I : Inv X pins σ H s) (hw : X.w = P.w) {a : Addr} {o : Obj} {es : Raw} {ks : List IV} (hp : H a = some (DctO a o es)) (rk : VRs P φ H ks (es.map (·.2.1))) (ku : KeysOk P.w ks (es.map (·.1))) (ht : allKA ks = true) :
    ∃ xs : XsA, s.heap.DictOf (AK X) a xs ∧ (a == sysModules) = false ∧ es.length ≤ sizeLine ∧ Paired (EnR X.w) es (convA xs) ∧ keysOf ks = some ((convA xs).map (·.1)) := by
  have z : ObjOk X.prog X.w H s.heap a (DctO a o es) := I.hok a _ hp
  obtain ⟨⟨h1, h2, h3, h4, arr, ep, h5, h6⟩, _⟩ := z
  obtain ⟨nks, e1, nd, e2⟩ := ku.ex
  obtain ⟨xs, g1, g2, g3, g4⟩ := link_A hw h6 rk e1 e2 (allKA_ok ht)
  subst g3
  exact ⟨xs, ⟨o, arr, ep, h1, h4, h5, fun e he => g2 e (by simpa using he), g1, nodup_leaf nd⟩, h2, h3, g4, by rw [convA_keys]; exact e1⟩
end
section
variable {X : Cx} {P : Par} {W : WX}
end
end EV
namespace EV
open PySem PySem.Spec PyProof.Rows L2 RZ

section
variable {X : Cx} {P : Par} {W : WX}
/-- list(x): of a dict, the keys -/
def listDI : RM := fun xs h => match xs with
  | [v] => match dctO h v with
    | some (ks, _) => .ok (.lst ks) h
    | none => listI xs h
  | _ => .no
theorem raw_keys {X : Cx} {pins : List (Addr × Obj)} {σ : L2.St} {H : Hp} {s : Shared} (I : Inv X pins σ H s) {es : Raw} {arr : Array DictEntry} (ent : ∀ (i : Nat) p, es[i]? = some p → ∃ en, arr[i]? = some en ∧ L2.RelV p.2.1 en.key ∧ L2.RelV p.2.2 en.val) (hsz : arr.size = es.length) {acc : Array Value} (ha : ItemsOf (fun i v => ∃ en, arr[i]? = some en ∧ v = en.key) acc arr.size) : Vals (es.map (·.2.1)) acc.toList := by
  refine vals_of_at (by simp [ha.1, hsz]) fun j x u e1 e2 => ?_
  rw [List.getElem?_map] at e1
  cases e3 : es[j]? with
  | none => rw [e3] at e1; cases e1
  | some p =>
    rw [e3] at e1; cases e1
    obtain ⟨en, g1, g2, g3⟩ := ent j p e3
    obtain ⟨en', g4, g5⟩ := ha.2 j u (by rw [← Array.getElem?_toList]; exact e2)
    rw [g1] at g4; cases g4
    rw [g5]; exact g2
theorem cr_listDI (hK : X.K = P.K) (hc : X.calm = true) : CallR X (.type "list") (rB P W listDI) := by
  intro pins s σ H xs us Q I rs ⟨φ, h, σ', ivs, sr, r, p⟩
  unfold listDI at p
  split at p
  · rename_i iv
    split at p
    · rename_i ks vs e
      obtain ⟨v0, rfl, r1⟩ := r.one
      obtain ⟨u, rfl, ru⟩ := vals1 rs
      obtain ⟨a, o, es, rfl, hp, k1, k2, k3⟩ := dctO_ok sr r1 e
      cases (show u = Value.ref a from ru)
      obtain ⟨arr, ep, hgd, hs, hx, hdt, hsz, hln, ent, raw⟩ := raw_at I hp
      refine PySem.W.kdl_call (kdl_raw hs hx hdt) (I.ok.hd hc) hgd (by omega) fun h' tk acc c' k ho ha => ?_
      have rv := raw_keys I ent hsz ha
      have hz : (es.map (·.2.1)).length ≤ sizeLine := by rw [List.length_map]; exact hln
      exact ⟨.ref s.heap.objs.size, _, I.laid (t' := tk) (o := .lst (es.map (·.2.1))) k (Nat.le_refl _) ⟨hz, acc.toList, c', rv, by simpa [seqObj] using ho⟩, rfl, p.newLst sr k1 (I.hok.fresh (Nat.le_refl _))⟩
    · exact cr_listI hK pins s σ H xs us Q I rs ⟨φ, h, σ', _, sr, r, p⟩
  · exact p.elim
end
end EV
namespace EV
open PySem PySem.Spec PyProof.Rows L2 RZ
def eqDI : G2 := fun x y h => match dctO h x, dctO h y with
  | some (ks, _), some (ks2, _) => if allKA ks = true ∧ allKA ks2 = true ∧ (ks.isEmpty || ks2.isEmpty) = true then .ok (.bl (ks.isEmpty && ks2.isEmpty)) h else .no
  | _, _ => eqI x y h
def neDI : G2 := fun x y h => match dctO h x, dctO h y with
  | some (ks, _), some (ks2, _) => if allKA ks = true ∧ allKA ks2 = true ∧ (ks.isEmpty || ks2.isEmpty) = true then .ok (.bl (!(ks.isEmpty && ks2.isEmpty))) h else .no
  | _, _ => neI x y h
section
variable {X : Cx} {P : Par} {W : WX}
theorem dct_two {pins : List (Addr × Obj)} {σ : L2.St} {H : Hp} {s : Shared} {φ : List Addr} {h : IH} (I : Inv X pins σ H s) (hw : X.w = P.w) (sr : SR P φ H h) {x y : IV} {v u : V} {ks us ks2 us2 : List IV} (ra : VR P φ H x v) (rb : VR P φ H y u) (e1 : dctO h x = some (ks, us)) (e2 : dctO h y = some (ks2, us2))
    (c : allKA ks = true ∧ allKA ks2 = true ∧ (ks.isEmpty || ks2.isEmpty) = true) : ∃ a b xs xs2, v = .ref a ∧ u = .ref b ∧ (a == sysModules) = false ∧ (b == sysModules) = false ∧ s.heap.DictOf (AK X) a xs ∧ s.heap.DictOf (AK X) b xs2 ∧ (xs.length == xs2.length) = (ks.isEmpty && ks2.isEmpty) ∧ (xs.length = xs2.length → xs = []) := by
  obtain ⟨a, o, es, rfl, hp, k1, k2, k3⟩ := dctO_ok sr ra e1
  obtain ⟨b, o2, es2, rfl, hb, j1, j2, j3⟩ := dctO_ok sr rb e2
  obtain ⟨xs1, d1, g1, g2, g3, g4⟩ := dict_atom I hw hp k1 k3 c.1
  obtain ⟨xs2, d2, f1, f2, f3, f4⟩ := dict_atom I hw hb j1 j3 c.2.1
  have l1 : es.length = xs1.length := by have := Paired.length g3; simpa [convA] using this
  have l2 : es2.length = xs2.length := by have := Paired.length f3; simpa [convA] using this
  have m1 : ks.length = es.length := by have := k1.len'; simpa using this
  have m2 : ks2.length = es2.length := by have := j1.len'; simpa using this
  have n1 : xs1.length = ks.length := by omega
  have n2 : xs2.length = ks2.length := by omega
  refine ⟨a, b, xs1, xs2, rfl, rfl, g1, f1, d1, d2, ?_, fun z => ?_⟩
  · rw [n1, n2]
    have := c.2.2
    cases ks <;> cases ks2 <;> simp at this ⊢
  · have cc := c.2.2
    have z0 : xs1.length = 0 := by
      rcases Bool.or_eq_true_iff.mp cc with q | q
      · rw [n1, List.isEmpty_iff.mp q]; rfl
      · rw [z, n2, List.isEmpty_iff.mp q]; rfl
    exact List.length_eq_zero_iff.mp z0
theorem op_eqDI (hK : X.K = P.K) (hw : X.w = P.w) (hu : X.A.units + 64 < cLine) : OpR X (compareOp .Eq) (rG P W eqDI) := by
  intro pins s σ H x y v u Q I rx ry ⟨φ, h, σ', va, vb, sr, ra, rb, p⟩
  unfold eqDI at p
  split at p
  · rename_i ks us ks2 us2 e1 e2
    split at p
    · rename_i c
      obtain ⟨a, b, xs, xs2, rfl, rfl, g1, f1, d1, d2, n1, n2⟩ := dct_two I hw sr ra rb e1 e2 c
      cases (show v = Value.ref a from rx)
      cases (show u = Value.ref b from ry)
      refine PySem.W.keq_eq (knd := AK X) (r := true) g1 f1 d1 d2 (by omega) (fun z => ?_) ⟨.bl _, H, I, rfl, p.ret sr ?_⟩
      · rw [n2 z]; exact .nil
      · rw [n1, Bool.and_true]; exact VR.b
    · exact p.elim
  · exact op_eqI hK hu pins s σ H x y v u Q I rx ry ⟨φ, h, σ', va, vb, sr, ra, rb, p⟩
theorem op_neDI (hK : X.K = P.K) (hw : X.w = P.w) (hu : X.A.units + 64 < cLine) : OpR X (compareOp .NotEq) (rG P W neDI) := by
  intro pins s σ H x y v u Q I rx ry ⟨φ, h, σ', va, vb, sr, ra, rb, p⟩
  unfold neDI at p
  split at p
  · rename_i ks us ks2 us2 e1 e2
    split at p
    · rename_i c
      obtain ⟨a, b, xs, xs2, rfl, rfl, g1, f1, d1, d2, n1, n2⟩ := dct_two I hw sr ra rb e1 e2 c
      cases (show v = Value.ref a from rx)
      cases (show u = Value.ref b from ry)
      refine PySem.W.keq_ne (knd := AK X) (r := true) g1 f1 d1 d2 (by omega) (fun z => ?_) ⟨.bl _, H, I, rfl, p.ret sr ?_⟩
      · rw [n2 z]; exact .nil
      · rw [n1, Bool.and_true]; exact VR.b
    · exact p.elim
  · exact op_neI hK hu pins s σ H x y v u Q I rx ry ⟨φ, h, σ', va, vb, sr, ra, rb, p⟩

def mulDI : G2 := fun x y h => match x, y with
  | .tup xs, .int k => if xs ≠ [] ∧ 2 ≤ k ∧ k ≤ 1000 ∧ xs.length ≤ 1000 then .ok (.tup (List.replicate k.toNat xs).flatten) h else .no
  | _, _ => mulI x y h
theorem VRs.rep {φ : List Addr} {H : Hp} {xs : List IV} {vs : List V} (r : VRs P φ H xs vs) : ∀ n, VRs P φ H (List.replicate n xs).flatten (List.replicate n vs).flatten
  | 0 => VRs.nil
  | n + 1 => by rw [List.replicate_succ, List.replicate_succ, List.flatten_cons, List.flatten_cons]; exact VRs.append r (VRs.rep r n)
theorem op_mulDI (hK : X.K = P.K) : OpR X (binaryOp .Mult) (rG P W mulDI) := by
  intro pins s σ H x y v u Q I rx ry ⟨φ, h, σ', va, vb, sr, ra, rb, p⟩
  unfold mulDI at p
  split at p
  · rename_i xs k
    split at p
    · rename_i c
      obtain ⟨a, vs, rfl, h1, r1⟩ := ra.tupI
      rw [VR] at rb; subst rb
      refine op_repT pins s σ H _ _ v u Q I rx ry ⟨a, k, vs, rfl, rfl, by rw [hK]; exact h1, fun z => c.1 ?_, c.2.1, c.2.2.1, by rw [r1.length]; exact c.2.2.2, fun t ht => p.newTup sr (r1.rep _) ht⟩
      rw [z] at r1
      cases xs with
      | nil => rfl
      | cons x xs => rw [VRs] at r1; obtain ⟨_, _, z, _⟩ := r1; cases z
    · exact p.elim
  · exact op_mulI pins s σ H x y v u Q I rx ry ⟨φ, h, σ', va, vb, sr, ra, rb, p⟩
end
end EV

namespace EV
open PySem PySem.Spec PyProof.Rows L2 RZ
section
variable {prog : Program} {w : World} {A : Around} {E : Value → Shared → Prop} {s : Shared}
theorem pick_rev (xs : Array Value) : ((List.range xs.size).filterMap fun (k : Nat) => xs[(((xs.size : Int) - 1) + (k : Int) * (-1)).toNat]?).toArray = xs.toList.reverse.toArray := by
  have e := PySem.W.krv_pick xs
  unfold slicePick at e
  rw [PySem.W.krv_bounds] at e
  have e2 : sliceRange ((xs.size : Int) - 1) (-1) (-1) = (List.range xs.size).map fun k => xs.size - 1 - k := PySem.W.krv_sliceRange _
  rw [show (((xs.size : Int) - 1, -1, -1) : Int × Int × Int) = ((xs.size : Int) - 1, -1, -1) from rfl] at e
  dsimp only at e
  rw [e2, List.filterMap_map] at e
  rw [← e]
  congr 1
  have fc : ∀ (l : List Nat) (f g : Nat → Option Value), (∀ k ∈ l, f k = g k) → l.filterMap f = l.filterMap g := fun l f g h => by
    induction l with
    | nil => rfl
    | cons a l ih => rw [List.filterMap_cons, List.filterMap_cons, h a List.mem_cons_self, ih fun k hk => h k (List.mem_cons_of_mem _ hk)]
  refine fc _ _ _ fun k hk => ?_
  have := List.mem_range.mp hk
  have e3 : (((xs.size : Int) - 1) + (k : Int) * (-1)).toNat = xs.size - 1 - k := by omega
  rw [e3]; rfl
theorem places_rev (n : Nat) : Builtin.Slice.slicePlaces ((n : Int) - 1) (-1) (-1) = n := by
  unfold Builtin.Slice.slicePlaces
  rw [if_neg (by decide), show (-(-1) : Int) = 1 from rfl, Int.ediv_one]
  split <;> omega
theorem applied_rev {sl : Addr} {vl vu vs : Value} {n : Nat} {Q : Int × Int × Nat → Shared → Prop} (hs : s.heap.IsSliceOf sl vl vu vs) (pl : IsPart vl none) (pu : IsPart vu none) (ps : IsPart vs (some (-1)))
    (h : Q ((n : Int) - 1, -1, n) s) : wpAny (model prog w) A (Builtin.Slice.sliceApplied (.ref sl) (pure (n : Int))) Q E s := by
  obtain ⟨os, hos, hcs, hds⟩ := id hs
  unfold Builtin.Slice.sliceApplied Builtin.Slice.sliceFields
  refine wpAny_bind (wpAny_bind (wpAny_field hos hds (x := vl) rfl (wpAny_bind (wpAny_field hos hds (x := vu) rfl (wpAny_bind (wpAny_field hos hds (x := vs) rfl (wpAny_pure ?_)))))))
  refine wpAny_bind (HT.slicePart_ ps ?_)
  show wpAny _ _ (if ((-1 : Int) == 0) = true then _ else _) _ _ s
  rw [if_neg (by decide)]
  refine wpAny_bind (HT.slicePart_ pl (wpAny_bind (HT.slicePart_ pu (wpAny_bind (wpAny_pure ?_)))))
  show wpAny _ _ (pure ((n : Int) - 1, (-1 : Int), Builtin.Slice.slicePlaces ((n : Int) - 1) (-1) (-1))) _ _ s
  rw [places_rev]
  exact wpAny_pure h
theorem getItem_tuple_rev {t sl : Addr} {items : Array Value} {vl vu vs : Value} {Q : Value → Shared → Prop} (ht : IsTup s.heap t items) (hs : s.heap.IsSliceOf sl vl vu vs) (pl : IsPart vl none) (pu : IsPart vu none) (ps : IsPart vs (some (-1)))
    (h : Q (.ref s.heap.objs.size) { s with heap := s.heap.push { cls := .type "tuple", data := .seq items.toList.reverse.toArray } })
    (hsz : items.size ≤ sizeLine) : wpAny (model prog w) A (getItem (.ref t) (.ref sl)) Q E s := by
  obtain ⟨os, hos, hcs, hds⟩ := id hs
  have hTs : s.TypeIs (.ref sl) "slice" := ⟨os, hos, hcs⟩
  have fit : sizeOk (.seq items.toList.reverse.toArray) := by
    show items.toList.reverse.toArray.size ≤ sizeLine
    simpa using hsz
  unfold getItem
  try with_reducible refine wpAny_holding ?_
  first | refine wpAny_bind (wpAny_pure ?_) | skip
  refine wpAny_bind (wpAny_sequenceKey ht.typeIs (by decide) ?_)
  refine wpAny_bind (wpAny_callSpecial?_slot (name := Str.ofString "__getitem__") ht.typeIs PyProof.Rows.slot_tuple_getitem
    (wpAny_call_entry PyProof.Rows.slot_tuple_getitem ht.typeIs entry_tuple_getitem ?_ (args_tuple_getitem _ _)))
  show wpAny _ _ (Builtin.Tuple.tupleItemsOf (.ref t) >>= _) _ _ s
  refine wpAny_bind (tupleItemsOf_ ht ?_)
  refine wpAny_bind (wpAny_typeOf hTs ?_)
  rw [if_pos (by decide)]
  refine wpAny_bind (applied_rev hs pl pu ps ?_)
  show wpAny _ _ (if (((items.size : Int) - 1) == 0 && (-1 : Int) == 1 && items.size == items.size) = true then _ else _) _ _ s
  rw [if_neg (by rw [show ((-1 : Int) == 1) = false from rfl, Bool.and_false, Bool.false_and]; exact Bool.false_ne_true), pick_rev]
  first
    | exact wpAny_bind (m := Builtin.Tuple.tupleExact _) (wpAny_newObj_type (wpAny_pure ⟨_, rfl, wpAny_pure h⟩) fit)
    | exact wpAny_bind (m := Builtin.Tuple.tupleExact _) (wpAny_newObj_type (wpAny_bind (wpAny_pure (wpAny_pure ⟨_, rfl, wpAny_pure h⟩))) fit)
    | exact wpAny_bind (wpAny_bind (m := Builtin.Tuple.tupleExact _) (wpAny_newObj_type (wpAny_pure (wpAny_pure ⟨_, rfl, wpAny_pure h⟩)) fit))
    | exact wpAny_bind (wpAny_bind (m := Builtin.Tuple.tupleExact _) (wpAny_newObj_type (wpAny_pure ⟨_, rfl, wpAny_pure h⟩) fit))
end
section
variable {X : Cx} {P : Par} {W : WX}
theorem PE.or2 {e : Expr} {t1 t2 : TE} (h1 : PE X e t1) (h2 : PE X e t2) : PE X e (fun σ H R => t1 σ H R ∨ t2 σ H R) := ⟨fun pins s σ H R I h => by
  rcases h with h | h
  · exact h1.run pins s σ H R I h
  · exact h2.run pins s σ H R I h⟩
def tRevT (K : PySem.W.Frag) (te : TE) : TE := fun σ H Q => te σ H fun x H1 => ∃ a xs, x = .ref a ∧ SqT K H1 a xs ∧ ∀ p, H1 p = none → Q (.ref p) (upd H1 p (.tup xs.reverse))
theorem pe_revT {e : Expr} {te : TE} {k : Nat} {p1 p2 p3 pos : Pos} (he : PE X e te) : PE X (.Subscript e (.Slice none none (some (.UnaryOp .USub (.Constant (.int 1) k p1) p2)) p3) pos) (tRevT X.K te) := by
  refine ⟨fun pins s σ H Q I h => ?_⟩
  refine Subscript_ (thn (he.run pins s σ H _ I h) fun v s1 ⟨x, H1, I1, r1, a, xs, ex, hx, q⟩ => ?_)
  subst ex
  cases (show v = Value.ref a from r1)
  have one : PO X (some (.UnaryOp .USub (.Constant (.int 1) k p1) p2)) (tPart (tUn (rU fun i => .int (-i)) (tC (.int 1)))) := po_some (pe_un un_neg pe_int)
  refine wpAny_Slice (thn (po_none.run pins s1 σ H1 (fun o H2 => o = none ∧ H2 = H1) I1 ⟨rfl, rfl⟩) fun vl s2 ⟨l, H2, I2, pl, el, e2⟩ => ?_)
  subst el e2
  refine thn (po_none.run pins s2 σ H2 (fun o H3 => o = none ∧ H3 = H2) I2 ⟨rfl, rfl⟩) fun vu s3 ⟨u, H3, I3, pu, eu, e3⟩ => ?_
  subst eu e3
  refine thn (one.run pins s3 σ H3 (fun o H4 => o = some (-1) ∧ H4 = H3) I3 ⟨1, rfl, -1, rfl, rfl, rfl⟩) fun vs s4 ⟨o, H4, I4, ps, eo, e4⟩ => ?_
  subst eo e4
  have I5 : Inv X pins σ H4 { s4 with heap := s4.heap.push { cls := .type "slice", data := .fields #[vl, vu, vs] } } := I4.kept (t' := s4.toks) fun b ob q => Heap.get?_push_of_some _ q
  obtain ⟨its, r, ht, hz⟩ := I5.tuple hx
  have hlen := r.length
  show wpAny (model X.prog X.w) X.A (subscriptTail e (.Slice none none (some (.UnaryOp .USub (.Constant (.int 1) k p1) p2)) p3) (.ref a) (.ref s4.heap.objs.size)) (EP X pins σ Q) X.xe { s4 with heap := s4.heap.push { cls := .type "slice", data := .fields #[vl, vu, vs] } }
  refine tail_any (ops := [.ref a, .ref s4.heap.objs.size]) ht.typeIs (PyProof.Rows.slot_tuple_getitem.lookup) ?_ (by with_unfolding_all rfl)
  refine getItem_tuple_rev ht (Heap.IsSliceOf.new _ vl vu vs) pl pu ps ?_ (by rw [List.size_toArray]; omega)
  refine ⟨.ref _, _, I5.laid (t' := s4.toks) (o := .tup xs.reverse) (fun b ob q => Heap.get?_push_of_some _ q) (Nat.le_refl _) ?_, rfl, q _ (I5.hok.fresh (Nat.le_refl _))⟩
  exact ⟨by rw [List.length_reverse]; exact hz, _, r.reverse, IsTup.new _ _⟩
def revM : IV → M IV := fun v h => match v with
  | .tup xs => .ok (.tup xs.reverse) h
  | v => match lsR h v with
    | some xs => .ok (.lst xs.reverse) h
    | none => .no
def revE (fa : IE → M IV) : IE → M IV := fun σ h => (fa σ h).bind revM
theorem pe_revI {e : Expr} {fa : IE → M IV} {k : Nat} {p1 p2 p3 pos : Pos} (hK : X.K = P.K) (he : PE X e (tE P W fa)) : PE X (.Subscript e (.Slice none none (some (.UnaryOp .USub (.Constant (.int 1) k p1) p2)) p3) pos) (tE P W (revE fa)) := PE.weak (PE.or2 (pe_revT he) (pe_revL he)) fun σ H R hq => by
  obtain ⟨φ, h, σi, s, se, p⟩ := hq
  unfold revE at p
  cases e : fa σi h with
  | ok v h1 =>
    simp only [e, Out.bind] at p
    unfold revM at p
    split at p
    · refine .inl ⟨φ, h, σi, s, se, ?_⟩
      rw [e]
      intro φ' H' x ex s' r
      obtain ⟨a, vs, rfl, h2, r1⟩ := r.tupI
      exact ⟨a, vs, rfl, by rw [hK]; exact h2, fun t ht => (Post.ext p ex).newTup s' r1.reverse ht⟩
    · split at p
      · rename_i xs el
        refine .inr ⟨φ, h, σi, s, se, ?_⟩
        rw [e]
        intro φ' H' x ex s' r
        obtain ⟨a, vs, rfl, h2, r1⟩ := s'.lsR r el
        exact ⟨a, vs, rfl, by rw [hK]; exact h2, fun t ht => (Post.ext p ex).newLst s' r1.reverse ht⟩
      · exact p.elim
  | ex v h1 => exact .inl ⟨φ, h, σi, s, se, by rw [e]; simp only [e, Out.bind] at p; exact p⟩
  | no => simp only [e, Out.bind] at p; exact p.elim
end
end EV
namespace EV
open PySem PySem.Spec PyProof.Rows L2 RZ

section
variable {P : Program} {w : World} {A : Around} {E : Value → Shared → Prop} {s : Shared}
end
end EV
namespace EV
open PySem PySem.Spec PyProof.Rows L2 RZ

def tupOf (ns : List Int) : IV := .tup (ns.map .int)
section
variable {X : Cx} {P : Par} {W : WX}
theorem CallR.or {f : Value} {r r' : List V → Hp → VK → Prop} (h : CallR X f r) (h' : CallR X f r') : CallR X f (fun xs H Q => r xs H Q ∨ r' xs H Q) := fun pins s σ H xs us Q I rs q => by
  rcases q with q | q
  · exact h pins s σ H xs us Q I rs q
  · exact h' pins s σ H xs us Q I rs q
end
end EV
namespace EV
open PySem PySem.Spec PyProof.Rows L2 RZ

theorem vrs_ints {P : Par} {φ : List Addr} {H : Hp} : ∀ (ns : List Int), VRs P φ H (ns.map .int) (ns.map V.int)
  | [] => VRs.nil
  | n :: ns => VRs.cons VR.i (vrs_ints ns)
section
variable {X : Cx} {P : Par} {W : WX} {e : Expr} {p p2 pos pos2 : Pos} {fs : IE → M (List IV)}
end
end EV
namespace EV
open PySem PySem.Spec PyProof.Rows L2 RZ
section
variable {X : Cx} {P : Par} {W : WX} {fs : IE → M (List IV)}
theorem PostA.thn {φ : List Addr} {H : Hp} {D : Ends} {σi : IE} {σ : L2.St} {o : Out (List IV)} {k : List IV → IH → SOut} (se : SE P φ H σi σ) (p : PostS P W φ H D (o.thn σi k)) :
    PostA P W σ φ H (fun x H1 => ∃ φ1 h1 v, SR P φ1 H1 h1 ∧ SE P φ1 H1 σi σ ∧ VRs P φ1 H1 v x ∧ PostS P W φ1 H1 D (k v h1)) o := by
  cases o with
  | ok v h => exact fun φ' H' x e s r => ⟨φ', h, v, s, se.mono e, r, PostS.ext p e⟩
  | ex x h => exact fun φ' H' c d e s r => p φ' H' σ c d e s (se.mono e) r
  | no => exact p
def parS (i j : Nat) (fs : IE → M (List IV)) : SM := fun σ h => (fs σ h).thn σ fun vs h => match vs with
  | [v, w] => .nx ((σ.set i (some v)).set j (some w)) h
  | _ => .no
theorem ps_parI {i j : Nat} {x y : Str} {a b : Expr} {px py pt pos : Pos} {kt k2 pt2} (hc : X.calm = true) (hN : X.N.Nodup) (hi : X.N[i]? = some x) (hj : X.N[j]? = some y) (hij : i ≠ j)
    (hx : X.env.scope.names.lookup x = some .local) (hy : X.env.scope.names.lookup y = some .local) (ha : PA X [a, b] (tAr P W fs))
    (hw : swappedStores [.Tuple [.Name x px, .Name y py] kt pt] (.Tuple [a, b] k2 pt2) X.env = pure (some [x, y]))
    (hs : swapsWithSole [.Tuple [.Name x px, .Name y py] kt pt] (.Tuple [a, b] k2 pt2) pos.line X.env = pure false) :
    PS X (.Assign [.Tuple [.Name x px, .Name y py] kt pt] (.Tuple [a, b] k2 pt2) pos) (tS P W (parS i j fs)) := PS.weak (ps_par hc hN hi hj hij hx hy ha hw hs) fun D σ H hq => by
  obtain ⟨φ, h, σi, s, se, p⟩ := hq
  refine ⟨φ, h, σi, s, se, (PostA.thn se p).mono fun vs H1 ⟨φ1, h1, v, s1, se1, r, p1⟩ => ?_⟩
  split at p1
  · obtain ⟨v1, v2, rfl, r1, r2⟩ := r.two
    exact ⟨v1, v2, rfl, p1 φ1 H1 _ (Ext.refl _ _) s1 ((se1.set r1 i).set r2 j)⟩
  · exact p1.elim
def negM : IV → M IV := fun v h => match v with
  | .int i => .ok (.int (-i)) h
  | _ => .no
def negE (fa : IE → M IV) : IE → M IV := fun σ h => (fa σ h).bind negM
theorem pe_negI {e : Expr} {fa : IE → M IV} {pos : Pos} (he : PE X e (tE P W fa)) : PE X (.UnaryOp .USub e pos) (tE P W (negE fa)) := PE.weak (pe_un un_neg he) fun σ H R hq => by
  obtain ⟨φ, h, σi, s, se, p⟩ := hq
  refine ⟨φ, h, σi, s, se, ?_⟩
  unfold negE at p
  cases e : fa σi h with
  | ok v h1 =>
    simp only [e, Out.bind] at p
    unfold negM at p
    split at p
    · intro φ' H' x ex s' r
      rw [VR] at r; subst r
      exact ⟨_, rfl, (Post.ext p ex).ret s' VR.i⟩
    · exact p.elim
  | ex v h1 => simp only [e, Out.bind] at p; exact p
  | no => simp only [e, Out.bind] at p; exact p
end
end EV
namespace EV
open PySem PySem.Spec PyProof.Rows L2 RZ

mutual
def eqV : IV → IV → Bool
  | .non, .non => true
  | .bl a, .bl b => a == b
  | .int a, .int b => a == b
  | .str a, .str b => decide (a = b)
  | .tup a, .tup b => eqVs a b
  | .lst a, .lst b => eqVs a b
  | .scr a, .scr b => eqVs a b
  | .dct a c, .dct b d => eqVs a b && eqVs c d
  | .ref a, .ref b => a == b
  | .ty a, .ty b => a == b
  | .glo a, .glo b => a == b
  | .exc a b c d, .exc a' b' c' d' => decide (a = a' ∧ b = b' ∧ c = c') && eqVs d d'
  | .fn a b c d e f, .fn a' b' c' d' e' f' => decide (a = a' ∧ b = b' ∧ c = c' ∧ d = d' ∧ f = f') && eqVs e e'
  | _, _ => false
def eqVs : List IV → List IV → Bool
  | [], [] => true
  | x :: xs, y :: ys => eqV x y && eqVs xs ys
  | _, _ => false
end
mutual
theorem eqV_ok : ∀ {x y : IV}, eqV x y = true → x = y := by
  intro x y h
  cases x <;> cases y <;> simp only [eqV, Bool.false_eq_true] at h <;> first
    | rfl
    | (rw [eq_of_beq h])
    | (rw [of_decide_eq_true h])
    | (rw [eqVs_ok h])
    | (obtain ⟨h1, h2⟩ := Bool.and_eq_true_iff.mp h; rw [eqVs_ok h1, eqVs_ok h2])
    | (obtain ⟨h1, h2⟩ := Bool.and_eq_true_iff.mp h; obtain ⟨rfl, rfl, rfl⟩ := of_decide_eq_true h1; rw [eqVs_ok h2])
    | (obtain ⟨h1, h2⟩ := Bool.and_eq_true_iff.mp h; obtain ⟨rfl, rfl, rfl, rfl, rfl⟩ := of_decide_eq_true h1; rw [eqVs_ok h2])
theorem eqVs_ok : ∀ {xs ys : List IV}, eqVs xs ys = true → xs = ys := by
  intro xs ys h
  cases xs <;> cases ys <;> simp only [eqVs, Bool.false_eq_true] at h <;> first
    | rfl
    | (obtain ⟨h1, h2⟩ := Bool.and_eq_true_iff.mp h; rw [eqV_ok h1, eqVs_ok h2])
end
mutual
theorem eqV_rf : ∀ (x : IV), eqV x x = true
  | .non | .bl _ | .int _ | .str _ | .ref _ | .ty _ | .glo _ => by simp [eqV]
  | .tup a | .lst a | .scr a => by simp only [eqV]; exact eqVs_rf a
  | .dct a b => by simp only [eqV, eqVs_rf a, eqVs_rf b]; rfl
  | .exc a b c d => by simp [eqV, eqVs_rf d]
  | .fn a b c d e f => by simp [eqV, eqVs_rf e]
theorem eqVs_rf : ∀ (xs : List IV), eqVs xs xs = true
  | [] => rfl
  | x :: xs => by simp only [eqVs, eqV_rf x, eqVs_rf xs]; rfl
end
/-- the list at n is still this one -/
def chkL (n : Nat) (xs : List IV) : IH → Bool := fun h => match h[n]? with
  | some (.lst ys) => eqVs ys xs
  | _ => false
theorem chkL_ok {n : Nat} {xs : List IV} {h : IH} (e : chkL n xs h = true) : h[n]? = some (.lst xs) := by
  unfold chkL at e
  split at e
  · rename_i ys q; rw [q, eqVs_ok e]
  · cases e
/-- J walks the items xs, as long as chk holds -/
structure GoesC (P : Par) (J : It) (xs : List IV) (chk : IH → Bool) (φ0 : List Addr) (H0 : Hp) : Prop where
  stop : ∀ φ H, Ext φ0 H0 φ H → ∀ R h, SR R φ H h → chk h = true → J.stop xs.length H
  go : ∀ i φ H, i < xs.length → Ext φ0 H0 φ H → ∀ R h, SR R φ H h → chk h = true → J.go i H
  yld : ∀ i φ H x H', Ext φ0 H0 φ H → ∀ R h, SR R φ H h → chk h = true → J.yld i H x H' → ∀ v, xs[i]? = some v → Ext φ H φ H' ∧ (∀ R h, SR R φ H h → SR R φ H' h) ∧ VR R φ H' v x
def PostIC (P : Par) (W : WX) (σ : L2.St) (φ : List Addr) (H : Hp) (R : It → Hp → Prop) : Out (List IV × (IH → Bool)) → Prop
  | .ok xc h' => ∀ φ' H' J, Ext φ H φ' H' → SR P φ' H' h' → GoesC P J xc.1 xc.2 φ' H' → R J H'
  | .ex e h' => ∀ φ' H' c d, Ext φ H φ' H' → SR P φ' H' h' → XR P φ' H' e c d → W c d σ H'
  | .no => False
def tIC (P : Par) (W : WX) (fi : IE → M (List IV × (IH → Bool))) : TI := fun σ H R => ∃ φ h σi, SR P φ H h ∧ SE P φ H σi σ ∧ PostIC P W σ φ H R (fi σi h)
/-- a list of either kind -/
def refIt (fa : IE → M IV) : IE → M (List IV × (IH → Bool)) := fun σ h => (fa σ h).bind fun v h => match v with
  | .ref n => match h[n]? with
    | some (.lst xs) => .ok (xs, chkL n xs) h
    | _ => .no
  | _ => .no
section
variable {X : Cx} {P : Par} {W : WX}
theorem goes_ref {a : Addr} {n : Nat} {xs : List IV} {φ : List Addr} {H : Hp} (ha : φ[n]? = some a) : GoesC P (Itl X.K a) xs (chkL n xs) φ H := by
  have at' : ∀ {φ' H' R h}, Ext φ H φ' H' → SR R φ' H' h → chkL n xs h = true → ∃ vs, H' a = some (.lst vs) ∧ VRs R φ' H' xs vs := fun {φ' H' R h} e s c => by
    obtain ⟨t, rfl, _⟩ := e.pre
    exact s.obj n _ a (chkL_ok c) (by rw [List.getElem?_append_left (List.getElem?_eq_some_iff.mp ha).1]; exact ha)
  refine ⟨fun φ' H' e R h s c => ?_, fun i φ' H' hi e R h s c => ?_, fun i φ' H' x H2 e R h s c y v hv => ?_⟩
  · obtain ⟨vs, h1, r⟩ := at' e s c
    exact ⟨vs, .of h1, by rw [r.length]; exact Nat.le_refl _⟩
  · obtain ⟨vs, h1, r⟩ := at' e s c
    have hl : i < vs.length := by rw [r.length]; exact hi
    exact ⟨vs, vs[i], .of h1, by simp [hl]⟩
  · obtain ⟨vs, h1, r⟩ := at' e s c
    obtain ⟨rfl, q⟩ := y
    obtain ⟨u, e1, r1⟩ := r.get hv
    have := q vs (.of h1)
    rw [this] at e1; cases e1
    exact ⟨Ext.refl _ _, fun _ _ s => s, r1⟩
theorem pi_refI {tg a : Expr} {fa : IE → M IV} (ha : PE X a (tE P W fa)) : PI X tg a (tIC P W (refIt fa)) := PI.weak (pi_list ha) fun σ H R hq => by
  obtain ⟨φ, h, σi, s, se, p⟩ := hq
  refine ⟨φ, h, σi, s, se, ?_⟩
  unfold refIt at p
  cases e : fa σi h with
  | ok v h1 =>
    simp only [e, Out.bind] at p
    split at p
    · split at p
      · rename_i n xs hn
        intro φ' H' x ex s' r
        rw [VR] at r
        obtain ⟨b, hb, rfl⟩ := r
        obtain ⟨vs, h1, _⟩ := s'.obj _ _ b hn hb
        exact ⟨b, rfl, ⟨vs, .of h1⟩, p φ' H' _ ex s' (goes_ref hb)⟩
      · exact p.elim
    · exact p.elim
  | ex v h1 => simp only [e, Out.bind] at p; exact p
  | no => simp only [e, Out.bind] at p; exact p
end
def compMC (chk : IH → Bool) (g : TM) (t : IE → M Bool) (f : IE → M IV) (σ0 : IE) : List IV → M (List IV)
  | [] => fun h => if chk h = true then .ok [] h else .no
  | x :: xs => fun h => if chk h = true then (match g x σ0 h with
    | none => .no
    | some (σ1, h1) => match t σ1 h1 with
      | .ok true h2 => (match f σ1 h2 with
        | .ok v h3 => (compMC chk g t f σ0 xs h3).bind fun vs h => .ok (v :: vs) h
        | _ => .no)
      | .ok false h2 => compMC chk g t f σ0 xs h2
      | _ => .no) else .no
def lcCI (fi : IE → M (List IV × (IH → Bool))) (g : TM) (t : IE → M Bool) (f : IE → M IV) (ws : List Nat) : IE → M IV := fun σ h => (fi σ h).bind fun xc h =>
  if xc.1.length ≤ 16777216 then (compMC xc.2 g t f (wipeI σ ws) xc.1 h).bind fun vs h => .ok (.lst vs) h else .no
section
variable {X : Cx} {P : Par} {W : WX}
theorem lcC_read {fi : IE → M (List IV × (IH → Bool))} {g : TM} {t : IE → M Bool} {f : IE → M IV} {own : List (Str × Nat)} {av : List Addr} {σ : L2.St} {H : Hp} {Q : VK}
    (hq : tE (P.at av) W (lcCI fi g t f (own.map (·.2))) σ H Q) : 
    tLc (tIC (P.at av) W fi) (fun v σ H Q => ∃ l, tGw (P.at l) (own.map (·.2)) g v σ H Q) (fun σ H Q => ∃ l, tT (P.at l) WF t σ H Q) (fun σ H Q => ∃ l, tE (P.at l) WF f σ H Q) (own.map (·.2)) σ H Q := by
  generalize own.map (·.2) = ws at hq ⊢
  obtain ⟨φ, h, σi, s, se, p⟩ := hq
  unfold tLc
  refine ⟨φ, h, σi, s, se, ?_⟩
  unfold lcCI at p
  cases e : fi σi h with
  | ex x h1 => rw [e] at p; exact p
  | no => rw [e] at p; exact p
  | ok xc h1 =>
    obtain ⟨xs, chk⟩ := xc
    simp only [e, Out.bind] at p
    split at p
    case isFalse => exact p.elim
    rename_i hlen
    intro φ1 H1 J ex1 s1 G D hD
    have p := Post.ext p ex1
    have se1 := (se.mono ex1).wipe ws
    clear ex1 se s e
    have kD : ∀ c ∈ D :: av, c ∈ (P.at av).av ∨ H1 c = none := fun c m => by
      rcases List.mem_cons.mp m with rfl | m
      · exact .inr hD
      · exact .inl m
    -- the turns
    let I : Nat → Hp → Prop := fun i H => ∃ φ h acc accV, SR (P.at (D :: av)) φ H h ∧ H D = some (.lst accV) ∧ VRs (P.at (D :: av)) φ H acc accV ∧ SE (P.at (D :: av)) φ H (wipeI σi ws) (L2.wipe σ ws) ∧ Ext φ1 H1 φ H ∧ acc.length ≤ i ∧
      Post (P.at av) W σ φ1 H1 Q ((compMC chk g t f (wipeI σi ws) (xs.drop i) h).bind fun vs h => .ok (.lst (acc ++ vs)) h)
    have exN : Ext φ1 H1 φ1 (upd H1 D (.lst [])) := Ext.new hD
    refine ⟨fun i m H => i ≤ xs.length ∧ m = xs.length - i ∧ I i H, ⟨xs.length, Nat.zero_le _, by simp, φ1, h1, [], [], ?_, upd_same, VRs.nil, ?_, exN, Nat.le_refl _, by simp only [List.drop_zero, List.nil_append]; exact p⟩, ?_⟩
    · exact SR.avN hD (fun xs z => by cases z) (fun o u z => by cases z) s1
    · exact SE.mono (SE.avI kD se1) exN
    rintro i m H2 ⟨hi, rfl, φ2, h2, acc, accV, s2, hD2, ra, se2, ex2, hal, p2⟩
    by_cases hlt : i < xs.length
    · have hx : xs[i]? = some xs[i] := by simp [hlt]
      have e2 : xs.drop i = xs[i] :: xs.drop (i + 1) := List.drop_eq_getElem_cons hlt
      rw [e2] at p2
      unfold compMC at p2
      split at p2
      case isFalse => exact p2.elim
      rename_i hck
      refine .inr ⟨G.go i φ2 H2 hlt ex2 _ _ s2 hck, fun H' => i + 1 ≤ xs.length ∧ I (i + 1) H', ?_, ?_⟩
      · rintro H' ⟨a, b⟩
        exact ⟨xs.length - (i + 1), by omega, a, rfl, b⟩
      intro x H3 y
      obtain ⟨e1, sr, r⟩ := G.yld i φ2 H2 x H3 ex2 _ _ s2 hck y xs[i] hx
      refine ⟨D :: av, φ2, h2, wipeI σi ws, xs[i], sr _ h2 s2, se2.mono e1, r, ?_⟩
      have ra3 := ra.mono e1
      have hD3 : H3 D = some (.lst accV) := e1.keep _ _ hD2 (s2.av D List.mem_cons_self).1
      have ex3 := ex2.trans e1
      have se3 := se2.mono e1
      -- the item is added
      have fin : ∀ {φ4 H4 h4 v u}, Ext φ2 H3 φ4 H4 → SR (P.at (D :: av)) φ4 H4 h4 → VR (P.at (D :: av)) φ4 H4 v u →
          Post (P.at av) W σ φ1 H1 Q (((compMC chk g t f (wipeI σi ws) (xs.drop (i + 1)) h4).bind fun vs h => .ok (v :: vs) h).bind fun vs h => .ok (.lst (acc ++ vs)) h) →
          ∃ acc, H4 D = some (.lst acc) ∧ acc.length < sizeLine ∧ i + 1 ≤ xs.length ∧ I (i + 1) (upd H4 D (.lst (acc ++ [u]))) := by
        intro φ4 H4 h4 v u ex s4 r4 p4
        have a4 := s4.av D List.mem_cons_self
        have hD4 : H4 D = some (.lst accV) := ex.keep _ _ hD3 (s2.av D List.mem_cons_self).1
        refine ⟨accV, hD4, ?_, hlt, φ4, h4, acc ++ [v], accV ++ [u], ?_, upd_same, ?_, ?_, ?_, by simp; omega, ?_⟩
        · rw [ra.length]; show acc.length < 2 ^ 24; omega
        · exact SR.avU List.mem_cons_self (fun xs z => by cases z) (fun o u z => by cases z) s4
        · exact VRs.avU List.mem_cons_self a4.2.2.1 a4.2.2.2 _ _ (VRs.append (ra3.mono ex) (VRs.cons r4 VRs.nil))
        · exact SE.avU List.mem_cons_self a4.2.2.1 a4.2.2.2 (se3.mono ex)
        · exact (ex3.trans ex).under hD
        · rw [Out.bind_ok] at p4
          simpa [Out.bind] using p4
      cases q : g xs[i] (wipeI σi ws) h2 with
      | none => rw [q] at p2; exact p2.elim
      | some z =>
        obtain ⟨σ4, h4⟩ := z
        rw [q] at p2
        dsimp only at p2
        intro φ4 H4 σ4' ex4 s4 se4 w4
        rw [wipe_idem] at w4
        refine ⟨w4, D :: av, φ4, h4, σ4, s4, se4, ?_⟩
        cases q5 : t σ4 h4 with
        | ex x h5 => rw [q5] at p2; exact p2.elim
        | no => rw [q5] at p2; exact p2.elim
        | ok b h5 =>
          rw [q5] at p2
          intro φ5 H5 ex5 s5
          cases b with
          | false =>
            rw [if_neg Bool.false_ne_true]
            dsimp only at p2
            have ex' := ex4.trans ex5
            exact ⟨hlt, φ5, h5, acc, accV, s5, ex'.keep _ _ hD3 (s2.av D List.mem_cons_self).1, ra3.mono ex', se3.mono ex', ex3.trans ex', Nat.le_succ_of_le hal, p2⟩
          | true =>
            rw [if_pos rfl]
            dsimp only at p2
            refine ⟨D :: av, φ5, h5, σ4, s5, se4.mono ex5, ?_⟩
            cases q6 : f σ4 h5 with
            | ex x h6 => rw [q6] at p2; exact p2.elim
            | no => rw [q6] at p2; exact p2.elim
            | ok v h6 =>
              rw [q6] at p2
              dsimp only at p2
              exact fun φ6 H6 u ex6 s6 r6 => fin ((ex4.trans ex5).trans ex6) s6 r6 p2
    · have e : i = xs.length := by omega
      subst e
      rw [List.drop_length] at p2
      unfold compMC at p2
      split at p2
      case isFalse => exact p2.elim
      rename_i hck
      refine .inl ⟨G.stop φ2 H2 ex2 _ _ s2 hck, ?_⟩
      refine p2 φ2 H2 _ ex2 (SR.avD (P := P.at (D :: av)) (fun c m => List.mem_cons_of_mem _ m) s2) ?_
      rw [VR]
      refine ⟨D, accV, rfl, hD2, ⟨(s2.av D List.mem_cons_self).1, fun m => ?_⟩, ?_⟩
      · obtain ⟨_, ⟨o, z, _⟩, _⟩ := s1.av D m
        rw [hD] at z; cases z
      · rw [List.append_nil]
        exact VRs.avD (P := P.at (D :: av)) (fun c m => List.mem_cons_of_mem _ m) ra
variable {elt tg iter : Expr} {ifs : List Expr} {scope : Scope} {pos : Pos} {fi : IE → M (List IV × (IH → Bool))} {g : TM} {t : IE → M Bool} {f : IE → M IV} {av : List Addr}
theorem pe_lcCI (own : List (Str × Nat)) (hc : X.calm = true) (hN : X.N.Nodup) (hi : PI X tg iter (tIC (P.at av) W fi)) (ok : BlkOk X.N X.env.scope scope own)
    (hs : ∀ x, foldedSetIterable iter X.env x = pure x)
    (hg : ∀ (l : List Addr) (s : Shared) (H : Hp) (C : Addr) (cl : List (Str × Addr)) (fp : List Addr), PG (X.blk s H scope (compEnvC scope cl C X.env) fp) tg (tGw (P.at l) (own.map (·.2)) g))
    (ht : ∀ (l : List Addr) (s : Shared) (H : Hp) (C : Addr) (cl : List (Str × Addr)) (fp : List Addr), PTs (X.blk s H scope (compEnvC scope cl C X.env) fp) ifs (tT (P.at l) WF t))
    (he : ∀ (l : List Addr) (s : Shared) (H : Hp) (C : Addr) (cl : List (Str × Addr)) (fp : List Addr), PE (X.blk s H scope (compEnvC scope cl C X.env) fp) elt (tE (P.at l) WF f)) :
    PE X (.ListComp elt [⟨tg, iter, ifs, 0⟩] scope pos) (tE (P.at av) W (lcCI fi g t f (own.map (·.2)))) :=
  PE.weak (pe_lc (own := own) hc hN hi ok (fun s H C cl fp => PG.exi fun l => hg l s H C cl fp) (fun s H C cl fp => PTs.exi fun l => ht l s H C cl fp) (fun s H C cl fp => PE.exi fun l => he l s H C cl fp) hs) fun σ H Q hq => lcC_read hq
end
end EV
namespace SUPX
open PySem PySem.Builtin PySem.Builtin.ObjectAttr
open HandSPX (excO)
/-- what making such an error and its super().__init__ need -/
structure ExB (B newId initId : String) (bmB : List Value) : Prop where
  new : ∃ (O i0 : String) (bm0 : List Value), ExcBaseFacts O newId i0 bm0 ∧ bmB.contains (.type O) = true ∧ bmB.contains (.type "AttributeError") = false ∧ bmB.contains (.type "NameError") = false
  kind : builtinKind initId = some .slot
  row : Manifest.signature? initId = some ⟨.positional, "*", B, .self, [⟨"args", .varPos, false⟩]⟩
  star : (B != "*") = true
  slot : Slot B "__init__" initId
  entry : entryFor table initId = some Builtin.«BaseException.__init__»
theorem ExB.of {B newId initId : String} {bmB : List Value} (F : ExcBaseFacts B newId initId bmB) : ExB B newId initId bmB := ⟨⟨B, initId, bmB, F, F.hasB, F.noAttr, F.noName⟩, F.initKind, F.initRow, F.noStar, F.init, F.initEntry⟩
section
variable {prog : Program} {w : World} {A : Around} {E : Value → Shared → Prop} {R : Result → Shared → Prop} {h : Heap} {g : Array GenState} {d : Drawn} {t : Nat} {os : OsState} {nm q : Str} {C N : Addr} {bs bm bm0 : List Value} {hdct : Bool} {sn : List Str} {sub : List Value} {ab : Bool} {col : Option Bool} {dd : Option Addr} {k0 k1 k2 k3 k5 : Option Value} {O newId i0 : String}
theorem chkN {M : Model} (F : ExcBaseFacts O newId i0 bm0) (hB : bm.contains (.type O) = true) {rest : List Value} {Q : Unit → Shared → Prop} (hC : h.get? C = some (excClassObj nm q C N bs bm hdct sn sub ab col dd k0 k1 k2 k3 k5 newId)) (hq : Q () ⟨h, g, d, t, os⟩) : wpAny M A (checkBuiltinCall newId ⟨.ref C :: rest, []⟩) Q E ⟨h, g, d, t, os⟩ := by
  have hc2 : (Value.ref C :: bm).contains (.type O) = true := by rw [List.contains_cons, hB, Bool.or_true]
  have hs := F.noStar
  simp only [checkBuiltinCall, F.newKind, F.newSplit, F.newRow]; repeat (first | refine wpAny_loadPart_at hC ?_ | (refine wpAny_isSubtype_exc hC ?_; rw [hc2]) | refine wpAny_staticBase_exc hC ?_ | refine wpAny_madeBy_exc hC ?_ | simp only [bne_self_eq_false, Bool.false_eq_true, if_false] | wp_step)
  exact hq
theorem newN (F : ExcBaseFacts O newId i0 bm0) (hB : bm.contains (.type O) = true) (hA : bm.contains (.type "AttributeError") = false) (hN : bm.contains (.type "NameError") = false) {rest : List Value} (hC : h.get? C = some (excClassObj nm q C N bs bm hdct sn sub ab col dd k0 k1 k2 k3 k5 newId))
    (hq : R (.ok (.ret (.ref (h.objs.size + 1)))) ⟨(h.push { cls := .type "tuple", data := .seq rest.toArray }).push { cls := .ref C, data := .fields #[.ref h.objs.size, .none, .none, .none, .bool false, .none] }, g, d, t, os⟩) (hrest : rest.length ≤ sizeLine) : codeAny (model prog w) A (.builtin newId ⟨.ref C :: rest, []⟩) R ⟨h, g, d, t, os⟩ := by
  have he := F.ends
  have c1 : (Value.ref C :: bm).contains (.type O) = true := by rw [List.contains_cons, hB, Bool.or_true]
  have c2 : (Value.ref C :: bm).contains (.type "AttributeError") = false := by rw [List.contains_cons, hA]; rfl
  have c3 : (Value.ref C :: bm).contains (.type "NameError") = false := by rw [List.contains_cons, hN]; rfl
  refine codeAny_builtinAt F.entry ?_; unfold Builtin.«BaseException.__new__»; refine wpAt_bind ?_
  show wpAt _ _ _ (stack >>= _) _ _ _; refine wpAt_bind (wpAt_stack fun p below => wpAt_of_wpAny ?_); wp_walk
  refine wpAt_of_wpAny ?_
  rw [F.owner]; repeat (first | with_reducible refine wpAny_madeHere_exc F.canon hC ?_ | with_reducible refine wpAny_loadPart_at hC ?_ | (with_reducible refine wpAny_isSubtype_exc hC ?_; first | rw [c1] | rw [c2] | rw [c3]) | wp_step)
  show R _ _
  rw [Heap.size_push]
  exact hq
theorem tcN (F : ExcBaseFacts O newId i0 bm0) (hB : bm.contains (.type O) = true) (hA : bm.contains (.type "AttributeError") = false) (hN : bm.contains (.type "NameError") = false) {rest : List Value} {fI : Addr} {Q : Fin → Shared → Prop} (hC : h.get? C = some (excClassObj nm q C N bs bm hdct sn sub ab col dd k0 k1 k2 k3 k5 newId))
    (hi : PySem.W.Looks (model prog w) h (typeLookup (.ref C) "__init__") (some (.ref fI))) (hb : ∀ self, PySem.W.Looks (model prog w) h (bindSpecial (.ref fI) self) (.ref fI, [self])) (hrest : rest.length ≤ sizeLine)
    (hq : codeAny (model prog w) A (.call (.ref fI) ⟨.ref (h.objs.size + 1) :: rest, []⟩) (fun r s' => match r with | .ok (.ret v) => v = .none ∧ Q (.done (.ret (.ref (h.objs.size + 1)))) s' | .ok _ => False | .error e => E e s') ⟨(h.push (PySem.W.kdv_tup rest)).push (excO C h.objs.size), g, d, t, os⟩) : wpAny (model prog w) A (Builtin.«type.__call__» ⟨.ref C :: rest, []⟩) Q E ⟨h, g, d, t, os⟩ := by
  repeat (first | with_reducible refine wpAny_loadPart_at hC ?_ | with_reducible refine wpAny_madeBy_exc hC ?_ | wp_step)
  refine codeAny_call_builtin_code (Code.quiet_builtin _ F.quiet) (chkN F hB hC (newN F hB hA hN hC ?_ hrest))
  show wpAny _ _ _ _ _ _
  have k : ∀ b o, h.get? b = some o → ((h.push (PySem.W.kdv_tup rest)).push (excO C h.objs.size)).get? b = some o := fun b o e => Heap.get?_push_of_some _ (Heap.get?_push_of_some _ e)
  have hC1 := k _ _ hC
  have hg1 : ((h.push (PySem.W.kdv_tup rest)).push (excO C h.objs.size)).get? (h.objs.size + 1) = some (excO C h.objs.size) := by heap_get
  have hcc : (Value.ref C :: bm).contains (.ref C) = true := by simp
  unfold isInstance; repeat (first | with_reducible refine wpAny_loadPart_at hg1 ?_ | (with_reducible refine wpAny_isSubtype_exc hC1 ?_; rw [hcc]) | wp_step)
  show wpAny _ _ (typeLookup (.ref C) _) _ _ _
  refine (hi.keeps k).at (wpAny_holding (wpAny_bind (((hb (.ref (h.objs.size + 1))).keeps k).at ?_)))
  refine wpAny_bind (wpAny_call (codeAny_mono hq fun r s' z => ?_)); rcases r with e | (v | _ | _ | _) <;> first | exact z | exact z.elim | skip
  obtain ⟨rfl, z⟩ := z
  first | exact wpAny_pure (wpAny_pure z) | (wp_walk; exact z)
theorem callN (F : ExcBaseFacts O newId i0 bm0) (hB : bm.contains (.type O) = true) (hA : bm.contains (.type "AttributeError") = false) (hN : bm.contains (.type "NameError") = false) {rest : List Value} {fI : Addr} (hC : h.get? C = some (excClassObj nm q C N bs bm hdct sn sub ab col dd k0 k1 k2 k3 k5 newId))
    (hi : PySem.W.Looks (model prog w) h (typeLookup (.ref C) "__init__") (some (.ref fI))) (hb : ∀ self, PySem.W.Looks (model prog w) h (bindSpecial (.ref fI) self) (.ref fI, [self])) (hrest : rest.length ≤ sizeLine)
    (hq : codeAny (model prog w) (A.under (.builtin "type.__call__" ⟨.ref C :: rest, []⟩)) (.call (.ref fI) ⟨.ref (h.objs.size + 1) :: rest, []⟩) (PySem.W.InitBack (h.objs.size + 1) R) ⟨(h.push (PySem.W.kdv_tup rest)).push (excO C h.objs.size), g, d, t, os⟩) : codeAny (model prog w) A (.call (.ref C) ⟨rest, []⟩) R ⟨h, g, d, t, os⟩ := by
  have f1 := tc_lookup; have f2 := tc_bind (.ref C)
  have hTy : (⟨h, g, d, t, os⟩ : Shared).TypeIs (.ref C) "type" := ⟨_, hC, rfl⟩
  refine codeAny_of_tree ?_; show wpAny _ _ (callAny (.ref C) _) _ _ _; repeat (any_goals (first | assumption | with_reducible refine wpAny_loadPart_at hC ?_ | wp_step))
  refine ⟨rfl, codeAny_call_builtin_at (Code.quiet_builtin _ (by decide +kernel)) entry_typeCall (wpAny_check_type_call_sub hC (tcN F hB hA hN hC hi hb hrest ?_))⟩
  refine codeAny_mono hq fun r s' z => ?_; rcases r with e | (v | _ | _ | _) <;> exact z
theorem ExB.call {B initId : String} {bmB : List Value} (F : ExB B newId initId bmB) (hT : ∀ X : String, bm.contains (.type X) = bmB.contains (.type X)) {rest : List Value} {fI : Addr} (hC : h.get? C = some (excClassObj nm q C N bs bm hdct sn sub ab col dd k0 k1 k2 k3 k5 newId))
    (hi : PySem.W.Looks (model prog w) h (typeLookup (.ref C) "__init__") (some (.ref fI))) (hb : ∀ self, PySem.W.Looks (model prog w) h (bindSpecial (.ref fI) self) (.ref fI, [self])) (hrest : rest.length ≤ sizeLine)
    (hq : codeAny (model prog w) (A.under (.builtin "type.__call__" ⟨.ref C :: rest, []⟩)) (.call (.ref fI) ⟨.ref (h.objs.size + 1) :: rest, []⟩) (PySem.W.InitBack (h.objs.size + 1) R) ⟨(h.push (PySem.W.kdv_tup rest)).push (excO C h.objs.size), g, d, t, os⟩) : codeAny (model prog w) A (.call (.ref C) ⟨rest, []⟩) R ⟨h, g, d, t, os⟩ := by
  obtain ⟨O, i0, bm0, F0, hB, hA, hN⟩ := F.new
  exact callN F0 (by rw [hT]; exact hB) (by rw [hT]; exact hA) (by rw [hT]; exact hN) hC hi hb hrest hq
end
section
open PySem.W PyProof.Rows PySem.Calls PySem.Spec
variable {prog : Program} {w : World} {A : Around} {E : Value → Shared → Prop} {s : Shared} {h₀ : Heap} {L : Addr} {m : Str → Option Value} {news : List (Addr × Obj)} {K : PySem.W.Frag} {x C D so u : Addr} {B i newId : String} {bmB : List Value}
theorem chkI {M : Model} {h : Heap} {g : Array GenState} {d : Drawn} {t : Nat} {os : OsState} (F : ExB B newId i bmB) {nm q : Str} {C N e : Addr} {oe : Obj} {bs bm : List Value} {hdct : Bool} {sn : List Str} {sub : List Value} {ab : Bool} {col : Option Bool} {dd : Option Addr} {k0 k1 k2 k3 k5 : Option Value} {rest : List Value} {Q : Unit → Shared → Prop}
    (hC : h.get? C = some (excClassObj nm q C N bs bm hdct sn sub ab col dd k0 k1 k2 k3 k5 newId)) (he : h.get? e = some oe) (hcls : oe.cls = .ref C) (hq : Q () ⟨h, g, d, t, os⟩) : wpAny M A (checkBoundCall i ⟨.ref e :: rest, []⟩) Q E ⟨h, g, d, t, os⟩ := by
  have hs := F.star
  simp only [checkBoundCall, F.kind, F.row]; repeat (first | (with_reducible refine wpAny_loadPart_at he ?_; rw [hcls]) | with_reducible refine wpAny_loadPart_at hC ?_ | wp_step)
  refine wpAny_onRaise ?_
  rw [show ∀ (a b : String) (n : Nat), Bind.check ⟨.positional, "*", B, .self, [⟨"args", .varPos, false⟩]⟩ a b n (List.map (fun x => x.fst) ({ pos := Value.ref e :: rest } : Args).kw) = pure () from fun a b n => check_star_args _ _ _ _ _ _]; exact wpAny_pure hq
theorem ExB.init {t : Addr} {dv : Option Addr} {c2 : Value} {rest : List Value} {nw : Obj → List (Addr × Obj)} {Q : Value → Shared → Prop} (F : Fr h₀ L s.heap m) (X₀ : K.In h₀) (N : News h₀ L s.heap news) (FB : ExB B newId i bmB) (q : excInitIn K C bmB newId = true) (hm : (u, kxs_mw i x) ∈ news)
    (U : UpdF x (excObj C t dv c2) news nw) (hz : rest.length ≤ sizeLine) (h : ∀ t' h', Fr h₀ L h' m → News h₀ L h' ((t', excTup rest) :: nw (excObj C t' dv c2)) → (∀ p ∈ news, p.1 < t') → Q .none { s with heap := h' }) : wpAny (model prog w) A (PySem.call (.ref u) rest) Q E s := by
  obtain ⟨nm, N', qn, bs, bm, hdct, sn, sub, ab, col, dd, k0, k1, k2, k3, k5, hC, hT⟩ := excInit_of (X₀.keeps F.keep) q
  have hu := (N _ hm).1; obtain ⟨pre, post, rfl, hg, a, b⟩ := U.split
  have hx := N (x, excObj C t dv c2) (by simp); have he := hx.1
  have lt : ∀ p ∈ pre ++ (x, excObj C t dv c2) :: post, p.1 < s.heap.objs.size := fun p hp => Heap.lt_size (N p hp).1
  have fin : ∀ h', (∀ b o, b ≠ x → s.heap.get? b = some o → h'.get? b = some o) → h'.get? x = some (excObj C s.heap.objs.size dv c2) → h'.get? s.heap.objs.size = some (excTup rest) → Q .none { s with heap := h' } := fun h' k e' t' => by
    obtain ⟨oL, es, ep, hL, r⟩ := F.ns
    refine h s.heap.objs.size h' ⟨⟨oL, es, ep, k _ _ (fun z => hx.2.1 z.symm) hL, r⟩, fun b o z => k b o (fun y => by rw [y, hx.2.2] at z; cases z) (F.keep b o z), F.above⟩ ?_ lt
    rw [hg]; intro p hp
    rcases List.mem_cons.mp hp with rfl | hp
    · refine ⟨t', fun z => ?_, ?_⟩
      · have y := Heap.lt_size (show s.heap.get? L = some oL from hL); rw [← z] at y; exact absurd y (Nat.lt_irrefl _)
      · cases z : h₀.get? s.heap.objs.size with
        | none => rfl
        | some o => exact absurd (Heap.lt_size (F.keep _ _ z)) (Nat.lt_irrefl _)
    rcases List.mem_append.mp hp with hp | hp
    · have y := N p (List.mem_append_left _ hp); exact ⟨k _ _ (a p hp) y.1, y.2⟩
    rcases List.mem_cons.mp hp with rfl | hp
    · exact ⟨e', hx.2⟩
    · have y := N p (List.mem_append_right _ (.tail _ hp)); exact ⟨k _ _ (b p hp) y.1, y.2⟩
  obtain ⟨hh, g, d, tk, os⟩ := s
  refine wpAny_call (codeAny_of_tree ?_); show wpAny _ A.in1 (callAny (.ref u) ⟨rest, []⟩) _ _ _; simp only [callAny]; refine wpAny_bind (wpAny_load hu ?_)
  simp only [kxs_mw, show (Value.type "method-wrapper" == Value.type "method" || Value.type "method-wrapper" == Value.type "builtin_function_or_method" || Value.type "method-wrapper" == Value.type "method-wrapper") = true by decide, if_true]; refine KFB.if_so (by decide) ?_
  refine wpAny_bind (chkI FB hC he rfl (wpAny_bind (wpAny_pure (wpAny_pure ⟨plainId_quiet FB.slot.plain _, codeAny_builtin FB.entry ?_⟩))))
  exact exc_init_tree (cls := .ref C) (t0 := t) (dv := dv) (c2 := c2) (c3 := .none) (b4 := .bool false) he hz fin
end
end SUPX
namespace SUPX
open PySem PySem.Calls PyProof.Rows PySem.Spec
open Builtin Builtin.ObjectAttr
section
variable {prog : Program} {w : World} {A : Around} {E : Value → Shared → Prop} {R : Result → Shared → Prop} {hp : Heap} {g : Array GenState} {d : Drawn} {t : Nat} {os : OsState} {bmB : List Value} {B : String}
end

section
open PySem.W
variable {prog : Program} {w : World} {A : Around} {E : Value → Shared → Prop} {s : Shared} {h₀ : Heap} {L : Addr} {m mg mb : Str → Option Value} {news : List (Addr × Obj)} {K : W.Frag} {x C D f cc cda so : Addr} {ox : Obj} {odx : Option Obj}
end

/-- what the written part says of the class and its __init__ -/
structure SupC (prog : Program) (K : W.Frag) (mg : Str → Option Value) (C fI : Addr) (qual slf arg f : Str) (mt : Str) : Prop where
  ex : ∃ (B newId initId : String) (bmB : List Value), ExB B newId initId bmB ∧ W.KxsFacts B initId ∧ StoreFacts B bmB "object.__setattr__" "object" ∧ W.excInitIn K C bmB newId = true ∧ W.excOver K C bmB = true ∧
    W.subIn K (.ref C) (.type B) = some true ∧ W.ks_superIn K C C "__init__" = some (some (.builtin initId))
  iC : W.findIn K (.ref C) "__init__" = some (some (.ref fI))
  tI : W.typeIn K (.ref fI) = some (.type "function")
  tk : W.takerIn K C f = some none
  hh : W.hasDictIn K C = true
  sa : W.findIn K (.ref C) "__setattr__" = some (some (.builtin "object.__setattr__"))
  op : W.nsIn K cStatics "thirdparty.any" = some none
  mro : W.mroIn K C (.ref C) = some true
  kC : W.keepIn K (.ref C) = true
  exC : W.subIn K (.ref C) (.type "BaseException") = some true
  tyC : W.typeIn K (.ref C) = some (.type "type")
  ms : mg "super" = none
  top : (prog.main.scope.names.lookup ("super" : Str)).isSome = false
  dif : slf ≠ arg
  fn : ∃ (name : Str) (params : Arguments) (scope : Scope) (dV kV doc pm ct oc : Value) (an od : Option Addr) (osl : Array (Option Value)) (cda cc : Addr) (p0 p1 p2 p3 p4 p5 q1 q2 q3 q4 : Pos) (j : Nat) (ccl cl : Value) (cdd cld : Option Addr) (vs : Array Value) (ccs csl : Array (Option Value)) (file : Str) (tf : Tok) (ar : Arg) (cdD : ClassData),
    K.lookup fI = some ⟨oc, od, .func (W.ksFn name qual params
      [.Expr (.Call (.Attribute (.Call (.Name "super" p0) [] [] p1) "__init__" p2) [.Constant (.str mt) j p3] [] p4) p5, .Assign [.Attribute (.Name slf q1) f q2] (.Name arg q3) q4] scope dV kV doc pm an (.ref cda) ct cc), osl⟩ ∧
    W.codeIn K (.ref cda) qual = true ∧ K.lookup cda = some ⟨ccl, cdd, .fields vs, ccs⟩ ∧ vs[2]? = some (.str file tf) ∧ ((prog.main.file : Str) == file) = true ∧ K.lookup cc = some ⟨cl, cld, .cell (some (.ref C)), csl⟩ ∧
    (params.posonlyargs ++ params.args).head? = some ar ∧ ar.arg = slf ∧ W.clsIn K C = some cdD ∧
    (∀ a b : Value, bindArgs (W.ksFn name qual params [.Expr (.Call (.Attribute (.Call (.Name "super" p0) [] [] p1) "__init__" p2) [.Constant (.str mt) j p3] [] p4) p5, .Assign [.Attribute (.Name slf q1) f q2] (.Name arg q3) q4] scope dV kV doc pm an (.ref cda) ct cc) ⟨[a, b], []⟩ = pure [(slf, a), (arg, b)]) ∧
    scope.kind = .function ∧ scope.isCoroutine = false ∧ scope.isGenerator = false ∧ (∀ y ∈ scope.names, y.2 ≠ .cell) ∧ scope.names.lookup slf = some .local ∧ scope.names.lookup arg = some .local ∧
    scope.names.lookup ("super" : Str) = some .globalImplicit ∧ scope.names.lookup ("__class__" : Str) = some .free ∧
    (slf == ("__debug__" : Str)) = false ∧ (arg == ("__debug__" : Str)) = false ∧
    (∀ env : Env, ∃ pl : Sem Bool, eval (.Call (.Attribute (.Call (.Name "super" p0) [] [] p1) "__init__" p2) [.Constant (.str mt) j p3] [] p4) env = (do
      let ov ← attributeBase (.Call (.Name "super" p0) [] [] p1) "__init__" env (eval (.Call (.Name "super" p0) [] [] p1) env)
      standAt p2.atName
      let (f, first) ← holding [ov] (getMethod ov "__init__" pl)
      callWith p4 f first (backTo p4 (starEach [.Constant (.str mt) j p3] env)) []))
section
open PySem.W
variable {prog : Program} {w : World} {A : Around} {R : Result → Shared → Prop} {hp : Heap} {g : Array GenState} {d : Drawn} {t : Nat} {os : OsState} {K : W.Frag} {mg mb : Str → Option Value} {C fI : Addr} {qual slf arg f mt : Str} {u : Value}
end

open L2 in
section
open L2
variable {X : Cx} {x : Str} {e : Expr} {te : TE} {p pos : Pos} {C fI : Addr} {qual slf arg f mt : Str} {k : Nat}
end
end SUPX
namespace EV
open PySem PySem.Spec PyProof.Rows L2

/-- a class of errors without own __init__ -/
structure ErrP (K : PySem.W.Frag) (mg : Str → Option Value) (x : Str) (C : Addr) : Prop where
  ex : ∃ (B newId initId : String) (bmB : List Value), ExcBaseFacts B newId initId bmB ∧ PySem.W.excIn K C bmB newId = true
  gC : mg x = some (.ref C)
  kC : PySem.W.keepIn K (.ref C) = true
  exC : PySem.W.subIn K (.ref C) (.type "BaseException") = some true
  tyC : PySem.W.typeIn K (.ref C) = some (.type "type")
def raiS (n : Nat) : SM := fun σ h => .ex ⟨n, []⟩ σ h
section
variable {X : Cx} {P : Par} {W : WX} {e : Expr} {fa : IE → M IV} {n : Nat} {x m f : Str} {C : Addr} {p p2 pos rpos : Pos} {j : Nat}
theorem ps_raiI (hc : X.calm = true) (tk : Takes X W) (T : ErrP X.K X.mg x C) (hG : P.G n = C) (hg : Gl X x) (hdb : (x == ("__debug__" : Str)) = false) :
    PS X (.Raise (some (.Call (.Name x p) [.Constant (.str m) j p2] [] pos)) none rpos) (tS P W (raiS n)) := by
  obtain ⟨B, newId, initId, bmB, FB, q⟩ := T.ex
  refine PS.weak (ps_raise hc tk (pmk_own FB q T.gC T.kC (raises_own T.exC T.tyC) hg hdb)) fun D σ H hq => ?_
  obtain ⟨φ, h, σi, s, se, pp⟩ := hq
  exact pp φ H σ (.ref C) none (Ext.refl _ _) s se ⟨by rw [hG], .inl ⟨rfl, rfl⟩⟩
end
end EV
namespace L2X
open PySem PySem.Spec PyProof.Rows L2
/-- behind a suite whose clause names slot i: the name is gone -/
def endsAt : Option Nat → Ends → Ends
  | none, D => D
  | some i, D => ⟨fun σ H => D.nx (σ.set i none) H, D.rt, fun σ H => D.bk (σ.set i none) H, fun σ H => D.ct (σ.set i none) H⟩
/-- the state that a suite begins with -/
def begAt : Option Nat → Addr → L2.St → L2.St
  | none, _, σ => σ
  | some i, a, σ => σ.set i (some (.ref a))
/-- what the body's exceptions must bring, clause by clause -/
def wMix (K : PySem.W.Frag) (Wout : WX) (D : Ends) : List (Value × Option Nat × (Addr → Value → Option Addr → TS)) → WX
  | [] => Wout
  | (c, m, ts) :: r => fun cls d σ H => ∃ b, PySem.W.exmOne K cls c = some b ∧
      (b = true → ∀ a, H a = none → ts a cls d (endsAt m D) (begAt m a σ) H) ∧ (b = false → wMix K Wout D r cls d σ H)
inductive HdM (X : Cx) : List ExceptHandler → List (Value × Option Nat × (Addr → Value → Option Addr → TS)) → Prop
  | nil : HdM X [] []
  | only {x : Str} {c : Value} {ts : Addr → Value → Option Addr → TS} {b₀ : Stmt} {suite : List Stmt} {np pos' : Pos} {hds : List ExceptHandler} {l : List (Value × Option Nat × (Addr → Value → Option Addr → TS))} (hc : Names X x c)
      (su : ∀ (a : Addr) (oe : Obj) (cls : Value) (d : Option Addr) (pn : List (Addr × Obj)), Zc cls d oe → (∃ vs, oe.data = .fields vs) → PSs (X.suite a ((a, oe) :: pn)) (b₀ :: suite) (ts a cls d)) (r : HdM X hds l) :
      HdM X (.ExceptHandler (some (.Name x np)) none (b₀ :: suite) pos' :: hds) ((c, none, ts) :: l)
  | named {x n : Str} {i : Nat} {c : Value} {ts : Addr → Value → Option Addr → TS} {b₀ : Stmt} {suite : List Stmt} {np pos' : Pos} {hds : List ExceptHandler} {l : List (Value × Option Nat × (Addr → Value → Option Addr → TS))} (hc : Names X x c)
      (hi : X.N[i]? = some n) (hln : X.env.kindOf n = some .local)
      (su : ∀ (a : Addr) (oe : Obj) (cls : Value) (d : Option Addr) (pn : List (Addr × Obj)), Zc cls d oe → (∃ vs, oe.data = .fields vs) → PSs (X.suite a ((a, oe) :: pn)) (b₀ :: suite) (ts a cls d)) (r : HdM X hds l) :
      HdM X (.ExceptHandler (some (.Name x np)) (some n) (b₀ :: suite) pos' :: hds) ((c, some i, ts) :: l)
section
variable {X : Cx} {body : List Stmt} {h₀ : ExceptHandler} {hds : List ExceptHandler} {l : List (Value × Option Nat × (Addr → Value → Option Addr → TS))} {pos : Pos} {tb : WX → TS} {Wout : WX}
end
end L2X
namespace EV
open PySem PySem.Spec PyProof.Rows L2 L2X

def noX : SOut → SOut
  | .ex _ _ _ => .no
  | o => o
def wipeO (i : Nat) : SOut → SOut
  | .nx σ h => .nx (σ.set i none) h
  | .bk σ h => .bk (σ.set i none) h
  | .ct σ h => .ct (σ.set i none) h
  | .rt v h => .rt v h
  | .ex _ _ _ => .no
  | .no => .no
structure HdI (X : Cx) (P : Par) (W : WX) (hds : List ExceptHandler) (hd : IX → SM) : Prop where
  ex : ∃ l, HdM X hds l ∧ ∀ D φ H e σi h c d σ, SR P φ H h → SE P φ H σi σ → XR P φ H e c d → PostS P W φ H D (hd e σi h) → wMix X.K W D l c d σ H
section
variable {X : Cx} {P : Par} {W : WX} {φ : List Addr} {H : Hp}
theorem PostS.noX {D : Ends} {o : SOut} (p : PostS P W φ H D (EV.noX o)) : PostS P WF φ H D o := by
  cases o with
  | ex x σ1 h1 => exact p.elim
  | nx σ1 h1 => exact p
  | rt σ1 h1 => exact p
  | bk σ1 h1 => exact p
  | ct σ1 h1 => exact p
  | no => exact p
theorem PostS.wipeO {i : Nat} {D : Ends} {o : SOut} (p : PostS P W φ H D (EV.wipeO i o)) : PostS P WF φ H (endsAt (some i) D) o := by
  have wp : ∀ {φ' H' σ1 σ'}, SE P φ' H' σ1 σ' → SE P φ' H' (σ1.set i none) (σ'.set i none) := fun {φ' H' σ1 σ'} se => by
    refine ⟨by simp [se.len], fun j x e => ?_⟩
    by_cases hj : i = j
    · subst hj
      by_cases hl : i < σ1.length
      · rw [List.getElem?_set_self hl] at e; cases e
      · rw [List.getElem?_eq_none (by simpa using hl)] at e; cases e
    · rw [List.getElem?_set_ne hj] at e
      obtain ⟨u, e1, r1⟩ := se.val j x e
      exact ⟨u, by rw [List.getElem?_set_ne hj]; exact e1, r1⟩
  cases o with
  | ex x σ1 h1 => exact p.elim
  | nx σ1 h1 => exact fun φ' H' σ' ex s' se' => p φ' H' _ ex s' (wp se')
  | rt σ1 h1 => exact p
  | bk σ1 h1 => exact fun φ' H' σ' ex s' se' => p φ' H' _ ex s' (wp se')
  | ct σ1 h1 => exact fun φ' H' σ' ex s' se' => p φ' H' _ ex s' (wp se')
  | no => exact p
theorem FRs.zip : ∀ {fs : List (Str × IV)} {vs : List (Str × V)}, FRs P φ H fs vs → ∃ ws, vs = (fs.map (·.1)).zip ws ∧ VRs P φ H (fs.map (·.2)) ws
  | [], _, h => by rw [FRs] at h; subst h; exact ⟨[], rfl, VRs.nil⟩
  | (f, x) :: r, _, h => by
    rw [FRs] at h
    obtain ⟨v, t, rfl, h2, h3⟩ := h
    obtain ⟨ws, rfl, h4⟩ := FRs.zip h3
    exact ⟨v :: ws, rfl, VRs.cons h2 h4⟩
end
end EV
namespace EV
open PySem PySem.Spec PyProof.Rows L2 L2X

section
variable {P : Par} {φ φ' : List Addr} {H H' : Hp}
end
section
variable {X : Cx} {pins : List (Addr × Obj)} {σ : L2.St} {H : Hp} {s : Shared}
end
/-- the call: slot i holds just v -/
noncomputable def callF (i : Nat) (v : IV) (m : M IV) : IE → M IV := fun σ h => match σ[i]? with
  | some (some x) => open Classical in if x = v then m h else .no
  | _ => .no
section
variable {X : Cx} {pins : List (Addr × Obj)} {σ0 : L2.St} {σi0 : IE} {H : Hp} {s : Shared} {P : Par}
end
/-- what a def is that got a thunk: bt, its body with the call read as given; slot i is the thunk's -/
structure ActI (Pr : Program) (w : World) (K : PySem.W.Frag) (mg : Str → Option Value) (base : Heap) (P : Par) (x a : Str) (k : Nat) (c : M IV → M IV) : Prop where
  ex : ∃ (g : Addr) (pg : Arguments) (bg : List Stmt) (sg : Scope) (dV kV doc pm cdv ct oc : Value) (an od : Option Addr) (osl : Array (Option Value)) (Ng : List Str) (bt : (IE → M IV) → SM),
    mg x = some (.ref g) ∧ PySem.W.keepIn K (.ref g) = true ∧ K.lookup g = some ⟨oc, od, .func (PySem.W.fnOf x x pg bg sg dV kV doc pm an cdv ct), osl⟩ ∧ PySem.W.codeIn K cdv x = true ∧ L2.Binds K (PySem.W.fnOf x x pg bg sg dV kV doc pm an cdv ct) [a] [] ∧
    FnScope Ng [a] sg ∧ Ng[0]? = some a ∧ Vis sg a ∧ (∀ v m h, defM Ng.length (bt (callF 0 v m)) [v] h = c m h) ∧
    ∀ (av : List Addr) (A : Around) (outer : List Env) (s : Shared) (H : Hp) (E : XK) (v : IV) (m : M IV), Room k (A.deeper (envOfC x sg s.heap.objs.size g cdv)) → A.guards = some [] →
      (∀ (W : WX) (pn : List (Addr × Obj)) (xe : Value → Shared → Prop) (p1 p2 : Pos), Takes ((cxOf (L2.CX Pr w) Pr w K mg base Ng x sg g cdv A outer s H E).tr pn xe) W →
        PE ((cxOf (L2.CX Pr w) Pr w K mg base Ng x sg g cdv A outer s H E).tr pn xe) (.Call (.Name a p1) [] [] p2) (tE (P.at av) W (callF 0 v m))) →
      PSs (cxOf (L2.CX Pr w) Pr w K mg base Ng x sg g cdv A outer s H E) bg (tS (P.at av) (fun c d _ H => E c d H) (bt (callF 0 v m)))
theorem ActI.mono {Pr : Program} {w : World} {K : PySem.W.Frag} {mg : Str → Option Value} {base : Heap} {P : Par} {x a : Str} {j k : Nat} {c : M IV → M IV} (F : ActI Pr w K mg base P x a j c) (h : j ≤ k) : ActI Pr w K mg base P x a k c := by
  obtain ⟨g, pg, bg, sg, dV, kV, doc, pm, cdv, ct, oc, an, od, osl, Ng, bt, h1, h2, h3, h4, h5, h6, h7, h8, h9, h10⟩ := F.ex
  exact ⟨g, pg, bg, sg, dV, kV, doc, pm, cdv, ct, oc, an, od, osl, Ng, bt, h1, h2, h3, h4, h5, h6, h7, h8, h9, fun av A outer s H E v m hr => h10 av A outer s H E v m (hr.mono h)⟩
section
variable {X : Cx} {P : Par} {W : WX}
end
end EV
namespace EV
open PySem PySem.Spec PyProof.Rows L2 L2X

def reprI : RM := fun xs h => match xs with
  | [v] => match dat h DEEP v with
    | some d => if d.showable = true ∧ d.hasDict = false ∧ d.shown.length ≤ sizeLine then .ok (.str d.shown) h else .no
    | none => .no
  | _ => .no
section
variable {X : Cx} {P : Par} {W : WX} {φ : List Addr} {H : Hp} {h : IH}
theorem cr_reprI (hK : X.K = P.K) (hgd : X.A.guards = some []) (hu : X.A.units + 64 < cLine) : CallR X (.builtin "repr") (rB P W reprI) := by
  intro pins s σ H xs us Q I rs ⟨φ, h, σ', ivs, sr, r, p⟩
  unfold reprI at p
  split at p
  · rename_i v0
    obtain ⟨v, rfl, r1⟩ := r.one
    cases rs with
    | cons rx rr =>
      cases rr
      rename_i u
      split at p
      · rename_i d e1
        split at p
        · rename_i z
          obtain ⟨as, rd⟩ := Dp.reads I d v u (by rw [hK]; exact dat_Dp sr _ _ _ _ e1 r1) rx
          have a1 := dat_ok DEEP v0 d e1
          have hd : d.depth ≤ 12 := a1.2
          have q : Q (.str d.shown) H := p.ret sr (by rw [VR])
          cases rd with
          | none => exact PySem.P.repr_of_none ⟨.str _, H, I.tok _, ⟨_, rfl⟩, q⟩
          | bool b => exact PySem.P.repr_of_bool ⟨.str _, H, I.tok _, ⟨_, rfl⟩, q⟩
          | int i t => exact PySem.P.repr_of_int (by simpa [PyData.showable] using z.1) ⟨.str _, H, I.tok _, ⟨_, rfl⟩, q⟩
          | str x t => exact PySem.P.repr_of_str ⟨.str _, H, I.tok _, ⟨_, rfl⟩, q⟩ (by simpa [PyData.shown] using z.2.2)
          | list h1 h2 h3 h4 =>
            exact repr_of_reads' (.list h1 h2 h3 h4) z.1 (fun e => by rw [z.2.1] at e; cases e) hgd (by omega) (fun _ _ e => e) (fun h' u tk hk => ⟨.str _, H, I.kept (h' := h') (t' := tk) hk, ⟨_, rfl⟩, q⟩) z.2.2
          | tuple h1 h2 h3 h4 =>
            exact repr_of_reads' (.tuple h1 h2 h3 h4) z.1 (fun e => by rw [z.2.1] at e; cases e) hgd (by omega) (fun _ _ e => e) (fun h' u tk hk => ⟨.str _, H, I.kept (h' := h') (t' := tk) hk, ⟨_, rfl⟩, q⟩) z.2.2
          | dict h1 h2 h3 h4 h5 => exact absurd z.2.1 (by simp [PyData.hasDict])
        · exact p.elim
      · exact p.elim
  · exact p.elim
end
end EV
namespace PySem
end PySem
namespace EV
open PySem PySem.Spec PyProof.Rows L2 L2X SeqAt
section
variable {X : Cx} {P : Par} {W : WX}
end
end EV
namespace EV
open PySem PySem.Spec PyProof.Rows L2 LamX
theorem law_callG {P : Program} {w : World} {K : PySem.W.Frag} {mg mb : Str → Option Value} {CX : CXT} {k : Nat} {fa a : Addr} {cs : List (Addr × Addr)} {fd : FuncData} {x : Str} {sp : Sp} {s₁ : Shared} {vs : List Value} {ns : List Int}
    (KX : K.In s₁.heap) (hns : s₁.heap.Ns mainGlobals mg) (hb : s₁.heap.Ns builtinsNs mb) (hbb : ∀ x : Str, x ≠ "__name__" → mb x = bootBuiltins x) (hlim : s₁.heap.NoLimit) (hg : s₁.gens = #[])
    (hT : ∀ p ∈ cs, s₁.heap.get? p.2 = some { cls := .none, data := .fields #[] }) (nT : ∀ p ∈ cs, K.lookup p.2 = none) (C : ∀ p ∈ cs, PySem.W.CodeHd s₁.heap p.1 p.2)
    (hbm : ∃ (bm : Addr) (ob : Obj), mg "__builtins__" = some (.ref bm) ∧ bm ≠ builtinsNs ∧ s₁.heap.get? bm = some ob ∧ ob.cls = .type "module" ∧ ob.dict = some builtinsNs ∧ ob.data = .plain)
    (ha : s₁.heap.get? a = some { cls := .type "list", data := .seq vs.toArray }) (hi : IntsAre vs ns) (hl : ns.length ≤ sizeLine) (hr : Room k callerA)
    (F : ∀ base : Heap, K.In base → base.Ns mainGlobals mg → (∀ p ∈ cs, TabB base mg p.1 p.2) → FnG P w K mg base CX k fa fd [x] sp) (hbind : ∀ (s : Shared) (u : Value), BindsTo s fd ⟨[u], []⟩ [(x, u)])
    (hsp : ∀ H : Hp, (∀ p ∈ cs, H p.2 = some (.tbl #[])) → (∀ b, H b = none ∨ b ∈ cs.map (·.2) ∨ ∃ o xs, H b = some (.frz o (.lst xs))) → SqL K H a (ns.map V.int) → sp [.ref a] H (fun v _ => v = .bl true) fun _ _ _ => False)
    (hCX : ∀ H e s', CX [] H s₁ (fun _ _ _ => False) e s' → False) :
    codeAny (model P w) callerA (.call (.ref fa) ⟨[.ref a], []⟩) (fun r s' => r = .ok (.ret (.bool true)) ∧ OldK s₁.heap s'.heap ∧ s'.os = s₁.os ∧ AllBare s'.gens) s₁ := by
  have rv := vals_ints hi
  have lenV := hi.length
  have isT : ∀ b : Addr, b ∈ cs.map (·.2) → s₁.heap.get? b = some { cls := .none, data := .fields #[] } := fun b hb => by
    obtain ⟨p, hp, e⟩ := List.mem_map.mp hb
    rw [← e]
    exact hT p hp
  have aT : a ∉ cs.map (·.2) := fun z => by
    have q := isT a z
    rw [ha] at q
    have z' : Data.seq vs.toArray _ = Data.fields #[] := congrArg Obj.data (Option.some.inj q)
    cases z'
  have memT : ∀ p ∈ cs, p.2 ∈ cs.map (·.2) := fun p hp => List.mem_map.mpr ⟨p, hp, rfl⟩
  -- from an abstract heap in which nothing but the script and the tables may be tracked
  have core : ∀ H : Hp, (∀ p ∈ cs, H p.2 = some (.tbl #[])) → (∀ b, H b = none ∨ b ∈ cs.map (·.2) ∨ ∃ o xs, H b = some (.frz o (.lst xs))) → SqL K H a (ns.map V.int) → HOk P w H s₁.heap → (∀ b, H b ≠ none → b = a ∨ b ∈ cs.map (·.2)) → (H a ≠ none → K.lookup a = none) →
      codeAny (model P w) callerA (.call (.ref fa) ⟨[.ref a], []⟩) (fun r s' => r = .ok (.ret (.bool true)) ∧ OldK s₁.heap s'.heap ∧ s'.os = s₁.os ∧ AllBare s'.gens) s₁ := by
    intro H hH hO hS hok hA hK
    have base_of : ∀ {b : Addr} {o : Obj}, s₁.heap.get? b = some o → H b = none → (hidT s₁.heap H).get? b = some o := fun e n => hidT_get e n
    have noD : ∀ {b : Addr} {o : Obj}, s₁.heap.get? b = some o → (∀ vs n, o.data ≠ .seq vs n) → o.data ≠ .fields #[] → H b = none := fun {b o} e h1 h2 => by
      cases q : H b with
      | none => rfl
      | some u =>
        rcases hA b (by rw [q]; simp) with e' | e'
        · rw [e', ha] at e
          cases e
          exact (h1 _ _ rfl).elim
        · rw [isT b e'] at e
          cases e
          exact (h2 rfl).elim
    have noA : ∀ {b : Addr} {o : Obj} {es : Array DictEntry} {ep : Nat}, s₁.heap.get? b = some o → o.data = .dict es ep → H b = none := fun {b o es ep} e d => by
      refine noD e (fun vs n z => ?_) fun z => ?_
      · rw [d] at z
        cases z
      · rw [d] at z
        cases z
    have nsK : ∀ {b : Addr} {m : Str → Option Value}, s₁.heap.Ns b m → (hidT s₁.heap H).Ns b m := fun {b m} ⟨o, es, ep, e, d, r⟩ => ⟨o, es, ep, base_of e (noA e d), d, r⟩
    have hKb : K.In (hidT s₁.heap H) := fun b o e => base_of (KX b o e) (by
      cases q : H b with
      | none => rfl
      | some u =>
        rcases hA b (by rw [q]; simp) with e' | e'
        · rw [e'] at e q
          rw [hK (by rw [q]; simp)] at e
          cases e
        · obtain ⟨p, hp, ep⟩ := List.mem_map.mp e'
          rw [← ep, nT p hp] at e
          cases e)
    have hM : L2.Mod K mg (hidT s₁.heap H) := ⟨hKb, nsK hns, ⟨mb, nsK hb, hbb⟩, let ⟨mc, h1, h2⟩ := hlim; ⟨mc, nsK h1, h2⟩⟩
    have TB : ∀ p ∈ cs, TabB (hidT s₁.heap H) mg p.1 p.2 := fun p hp => by
      have hTp := hT p hp
      refine ⟨?_, ?_, fun z => ?_⟩
      · obtain ⟨o, us, file, tf, flags, tg, inF, text, tt, e1, r1, r2, r3, r4, r5, r6, r7, r8, hne⟩ := C p hp
        refine ⟨o, us, file, tf, flags, tg, inF, text, tt, base_of e1 (noD e1 (fun vs n z => ?_) fun z => ?_), r1, r2, r3, r4, r5, r6, r7, r8, hne⟩
        · rw [r2] at z
          cases z
        · rw [r2] at z
          cases z
          simp at r3
      · obtain ⟨bm, ob, b1, b2, b3, b4, b5, b6⟩ := hbm
        have nG : bm ≠ mainGlobals := fun q => by
          obtain ⟨o, es, ep, e, hd, _⟩ := hns
          rw [q, e] at b3
          cases b3
          rw [hd] at b6
          cases b6
        have nP : bm ≠ p.2 := fun q => by
          rw [q, hTp] at b3
          cases b3
          cases b6
        refine ⟨bm, ob, b1, b2, nG, nP, base_of b3 (noD b3 (fun vs n z => ?_) fun z => ?_), b4, b5, b6⟩
        · rw [b6] at z
          cases z
        · rw [b6] at z
          cases z
      · obtain ⟨o, es, ep, e, hd, _⟩ := hns
        rw [z, hTp] at e
        cases e
        cases hd
    have e0 : Env0 P w K mg (hidT s₁.heap H) callerA [] s₁ H := ⟨rfl, hM, fun b o e => of_hidT e, Nat.le_of_eq (hidT_size _ _), trivial, fun b hb => absurd (show b ∈ ([] : List Addr) from hb) (by simp), hok, .of_eq hg⟩
    refine codeAny_mono ((F _ hKb (nsK hns) TB).run callerA [] s₁ H ⟨[.ref a], []⟩ [.ref a] [.ref a] _ _ hr rfl e0 (hbind s₁ (.ref a)) (.cons rfl .nil) (hsp H hH hO hS)) fun r s' h => ?_
    cases r with
    | error e => exact (hCX H e s' h).elim
    | ok fl =>
      cases fl with
      | next => exact False.elim h
      | brk => exact False.elim h
      | cont => exact False.elim h
      | ret u =>
        obtain ⟨v, H', os, bare, un, hok', r', q⟩ := h
        have q' : v = .bl true := q
        subst q'
        obtain rfl : u = Value.bool true := r'
        have key : ∀ b o, b ∉ cs.map (·.2) → s₁.heap.get? b = some o → s'.heap.get? b = some o := fun b o nb e => by
          cases q : H b with
          | none => exact un.keep b o e q (by intro z; exact absurd (show b ∈ ([] : List Addr) from z) (by simp)) (by simp)
          | some u =>
            rcases hO b with z | z | ⟨ob, xs, z⟩
            · rw [q] at z; cases z
            · exact absurd z nb
            · have z2 := un.frzs b ob _ z
              obtain ⟨e1, _⟩ := hok b _ z
              obtain ⟨e2, _⟩ := hok' b _ z2
              rw [e] at e1; cases e1
              exact e2
        have grown : ∀ p ∈ cs, ∃ more : Array Value, s'.heap.get? p.2 = some { cls := .none, data := .fields more } := fun p hp => by
          obtain ⟨more, z⟩ := un.tbls p.2 #[] (hH p hp)
          exact ⟨_, hok' p.2 _ z⟩
        refine ⟨rfl, ⟨fun b o e => ?_, fun b o e => ?_⟩, os, bare⟩
        · by_cases hb : b ∈ cs.map (·.2)
          · obtain ⟨p, hp, ep⟩ := List.mem_map.mp hb
            obtain ⟨more, hm⟩ := grown p hp
            rw [← ep] at e ⊢
            rw [hT p hp] at e
            cases e
            exact .inr (.inl ⟨((C p hp).tab (hT p hp)).isCodeTable, rfl, #[], more, rfl, by rw [Array.empty_append]; exact hm⟩)
          · exact .inl (key b o hb e)
        · by_cases hb : b ∈ cs.map (·.2)
          · obtain ⟨p, hp, ep⟩ := List.mem_map.mp hb
            obtain ⟨more, hm⟩ := grown p hp
            rw [← ep]
            exact ⟨_, hm⟩
          · exact ⟨o, key b o hb e⟩
  cases hk : K.lookup a with
  | some o =>
    have e := KX a o hk
    rw [ha] at e
    cases e
    refine core (fun b => if b ∈ cs.map (·.2) then some (.tbl #[]) else none) (fun p hp => if_pos (memT p hp)) (fun b => ?_) (.inr ⟨_, vs.toArray, _, hk, rfl, rfl, rfl, by rw [List.size_toArray, lenV]; exact hl, by simpa using rv⟩) (fun b u z => ?_) (fun b z => ?_) fun z => absurd (show (if a ∈ cs.map (·.2) then some (HO.tbl #[]) else none) = none from if_neg aT) z
    · by_cases hb : b ∈ cs.map (·.2)
      · exact .inr (.inl hb)
      · exact .inl (if_neg hb)
    · by_cases hb : b ∈ cs.map (·.2)
      · have z' := (if_pos hb).symm.trans z
        cases z'
        exact isT b hb
      · have z' := (if_neg hb).symm.trans z
        cases z'
    · by_cases hb : b ∈ cs.map (·.2)
      · exact .inr hb
      · exact absurd (if_neg hb) z
  | none =>
    refine core (fun b => if b = a then some (.frz { cls := .type "list", data := .seq vs.toArray } (.lst (ns.map V.int))) else if b ∈ cs.map (·.2) then some (.tbl #[]) else none) (fun p hp => (if_neg (show ¬ p.2 = a from fun z => aT (by rw [← z]; exact memT p hp))).trans (if_pos (memT p hp))) (fun b => ?_)
      (.inl (.inr ⟨{ cls := .type "list", data := .seq vs.toArray }, if_pos rfl⟩)) (fun b u z => ?_) (fun b z => ?_) fun _ => hk
    · by_cases hb : b = a
      · exact .inr (.inr ⟨_, _, if_pos hb⟩)
      · by_cases hb2 : b ∈ cs.map (·.2)
        · exact .inr (.inl hb2)
        · exact .inl ((if_neg hb).trans (if_neg hb2))
    · by_cases hb : b = a
      · have z' := (if_pos hb).symm.trans z
        cases z'
        rw [hb]
        exact ⟨ha, by rw [List.length_map]; exact hl, vs, _, rv, ha⟩
      · have z1 := (if_neg hb).symm.trans z
        by_cases hb2 : b ∈ cs.map (·.2)
        · have z' := (if_pos hb2).symm.trans z1
          cases z'
          exact isT b hb2
        · have z' := (if_neg hb2).symm.trans z1
          cases z'
    · by_cases hb : b = a
      · exact .inl hb
      · by_cases hb2 : b ∈ cs.map (·.2)
        · exact .inr hb2
        · exact absurd ((if_neg hb).trans (if_neg hb2)) z
/-- what is known of the law's promise at the head's heap h -/
def LawAtG (l : PySem.W.OpenLaw) (w : World) (K : PySem.W.Frag) (CX : CXT) (k n : Nat) (x : Str) (mg : Str → Option Value) (fa : Addr) (h : Heap) : Prop :=
  ∃ (fd : FuncData) (cs : List (Addr × Addr)) (sp : Sp), (∀ p ∈ cs, h.get? p.2 = some { cls := .none, data := .fields #[] }) ∧ (∀ p ∈ cs, K.lookup p.2 = none) ∧ (∀ p ∈ cs, PySem.W.CodeHd h p.1 p.2) ∧ (∀ (s : Shared) (u : Value), BindsTo s fd ⟨[u], []⟩ [(x, u)]) ∧
    (∀ (H : Hp) (a : Addr) (ns : List Int), ns.length ≤ n → (∀ z ∈ ns, Builtin.Int.intBits z ≤ 1048576) → (∀ p ∈ cs, H p.2 = some (.tbl #[])) → (∀ b, H b = none ∨ b ∈ cs.map (·.2) ∨ ∃ o xs, H b = some (.frz o (.lst xs))) → SqL K H a (ns.map V.int) → sp [.ref a] H (fun v _ => v = .bl true) fun _ _ _ => False) ∧
    ∀ base : Heap, K.In base → base.Ns mainGlobals mg → (∀ p ∈ cs, TabB base mg p.1 p.2) → FnG l.prog w K mg base CX k fa fd [x] sp
theorem walk_ofG {l : PySem.W.OpenLaw} {n k : Nat} {q : Program} {loose : List Str} {XP : (Str → Option Value) → Heap → Prop} {YP : World → Heap → Prop} {d : DefRec} {CX : World → CXT} {x : Str}
    (hn : l.most = some n) (hn2 : n ≤ sizeLine) (hdf : d.params.defaults = []) (hr : Room k callerA)
    (F : ∀ (w : World) (mg : Str → Option Value) (fa : Addr) (h : Heap), YP w h → h.Ns mainGlobals mg → mg d.name = some (.ref fa) → ∃ K : PySem.W.Frag, K.In h ∧ LawAtG l w K (CX w) k n x mg fa h)
    (hCX : ∀ (w : World) (H : Hp) (s : Shared) (e : Value) (s' : Shared), CX w [] H s (fun _ _ _ => False) e s' → False) :
    PySem.W.WalkO q loose XP YP l.row.toRowW d [] (fun f vs => PySem.call f vs) := by
  refine Att.attach_callB hn hdf fun w s₀ s₁ mg mb fa o pm cd doc a vs ns G Y ho hd hcd hmg hobj hints hlen hbits hg => ?_
  obtain ⟨K, KX, fd, cs, sp, hT, nT, C, hb, hsp, hF⟩ := F w mg fa _ Y G.T.g hmg
  exact law_callG KX G.T.g G.T.b G.T.builtins G.T.nolimit hg hT nT C G.T.bmain hobj hints (Nat.le_trans hlen hn2) hr hF hb (fun H hH hO hS => hsp H a ns hlen hbits hH hO hS) fun H e s' => hCX w H s₁ e s'
theorem cxg_never {P : Program} {w : World} {H : Hp} {s s' : Shared} {e : Value} : L2.CX P w [] H s (fun _ _ _ => False) e s' → False := fun ⟨_, _, _, _, _, _, _, _, _, _, _, _, z⟩ => z
end EV
namespace HY
open PySem PySem.Spec PyProof.Rows L2 He

abbrev SupW : Type := Option (Str × Str × Arguments × FuncBody × Scope × Addr × List Str × Addr)
/-- a property's getter -/
def prA (K : PySem.W.Frag) (C : Addr) (f : Str) : Addr := match PySem.W.findIn K (.ref C) f with
  | some (some (.ref p)) => (match PySem.W.recIn K p "property" with
    | some (.ref g :: _) => g
    | _ => 0)
  | _ => 0
def adW (K : PySem.W.Frag) (x : Str × Option Str) : Addr := match x.2 with
  | none => ma K (ga K x.1) "__init__"
  | some f => prA K (ga K x.1) f
def supW (K : PySem.W.Frag) (x : Str × Option Str) : SupW := match K.lookup (adW K x) with
  | some ⟨_, _, .func fd, _⟩ => some (fd.name, fd.qualname, fd.params, fd.body, fd.scope, fd.globals, fd.closure.map (·.1), fd.builtins)
  | _ => none
def newB (m : Nat) : List Addr → List Addr
  | [] => []
  | a :: r => if Nat.beq (Nat.land 1 (Nat.shiftRight m a)) 1 = true then newB m r else a :: newB (Nat.lor m (Nat.shiftLeft 1 a)) r
def maskB (m : Nat) : List Addr → Nat
  | [] => m
  | a :: r => maskB (Nat.lor m (Nat.shiftLeft 1 a)) r
def refB (g : Addr → Option Obj) (a : Addr) : List Addr := match g a with
  | some o => refsD o
  | none => []
/-- what is reached in n steps, each step from what is new alone -/
def growB (g : Addr → Option Obj) : Nat → Nat → List Addr → List Addr
  | 0, _, fr => fr
  | n + 1, m, fr => fr ++ growB g n (maskB m fr) (newB (maskB m fr) (fr.flatMap (refB g)))
def asY (g : Addr → Option Obj) (n : Nat) : List Addr := cStatics :: growB g n 0 [mainGlobals]
abbrev AlY : Type := (AlD × Bool) × List SupW
def frY (g : Addr → Option Obj) (n : Nat) : PySem.W.Frag := frT g (asY g n)
def obsY (n : Nat) (fa : List Fa) (fn : List DefD) (tf : List Defn) (ss : List (Str × Option Str)) (ex : PySem.W.Frag → Bool) (g : Addr → Option Obj) : AlY :=
  ((obsD fa fn (frY g n), ex (frY g n) && tabsB g tf (frY g n)), ss.map (supW (frY g n)))
def valY (fn : List DefD) (sv : List SupW) : AlY := ((valD fn, true), sv)
structure SaysY (fa : List Fa) (fn : List DefD) (tf : List Defn) (ss : List (Str × Option Str)) (sv : List SupW) (ex : PySem.W.Frag → Bool) (h : Heap) (K : PySem.W.Frag) : Prop where
  d : SaysD fa fn K
  more : ex K = true
  hd : ∀ p ∈ tf, PySem.W.codeHdIn K (cT K p).1 (cT K p).2 = true
  out : ∀ p ∈ tf, K.lookup (cT K p).2 = none
  empty : ∀ p ∈ tf, h.get? (cT K p).2 = some { cls := .none, data := .fields #[] }
  su : ss.map (supW K) = sv
theorem saysY_of {n : Nat} {fa : List Fa} {fn : List DefD} {tf : List Defn} {ss : List (Str × Option Str)} {sv : List SupW} {ex : PySem.W.Frag → Bool} {h : Heap} (e : obsY n fa fn tf ss ex h.get? = valY fn sv) : SaysY fa fn tf ss sv ex h (frY h.get? n) := by
  have e1 : obsD fa fn (frY h.get? n) = valD fn := congrArg (fun z : AlY => z.1.1) e
  have e2 : (ex (frY h.get? n) && tabsB h.get? tf (frY h.get? n)) = true := congrArg (fun z : AlY => z.1.2) e
  have e3 : ss.map (supW (frY h.get? n)) = sv := congrArg (fun z : AlY => z.2) e
  obtain ⟨h1, h2⟩ := ba e2
  have key : ∀ p ∈ tf, PySem.W.codeHdIn (frY h.get? n) (cT (frY h.get? n) p).1 (cT (frY h.get? n) p).2 = true ∧ ∃ o, h.get? (cT (frY h.get? n) p).2 = some o ∧ emptyTab o = true := fun p hp => by
    obtain ⟨h3, h4⟩ := ba (List.all_eq_true.mp h2 p hp)
    refine ⟨h3, ?_⟩
    cases q : h.get? (cT (frY h.get? n) p).2 with
    | none => rw [q] at h4; cases h4
    | some o => rw [q] at h4; exact ⟨o, rfl, h4⟩
  refine ⟨e1, h1, fun p hp => (key p hp).1, fun p hp => ?_, fun p hp => ?_, e3⟩
  · obtain ⟨_, o, q, z⟩ := key p hp
    exact frT_none q z
  · obtain ⟨_, o, q, z⟩ := key p hp
    rw [q, emptyTab_eq z]
def hookY (n : Nat) (fa : List Fa) (fn : List DefD) (tf : List Defn) (ss : List (Str × Option Str)) (sv : List SupW) (ex : PySem.W.Frag → Bool) : PySem.W.Hook where
  α := AlY
  obs := fun s => obsY n fa fn tf ss ex s.heap.get?
  val := fun _ => valY fn sv
  says := fun _ h => ∃ K : PySem.W.Frag, K.In h ∧ SaysY fa fn tf ss sv ex h K
  of := fun _ _ e => ⟨_, frT_in, saysY_of e⟩
  keeps := fun _ _ _ ⟨K, hK, c⟩ k => ⟨K, PySem.W.Frag.In.keeps hK k, ⟨c.d, c.more, c.hd, c.out, fun p hp => k _ _ (c.empty p hp), c.su⟩⟩
theorem obsY_eq {n : Nat} {fa : List Fa} {fn : List DefD} {tf : List Defn} {ss : List (Str × Option Str)} {sv : List SupW} {ex : PySem.W.Frag → Bool} {g : Addr → Option Obj} {s : Shared} (h : ∀ a, g a = s.heap.get? a) : obsY n fa fn tf ss ex g = (hookY n fa fn tf ss sv ex).obs s := by
  have e : g = s.heap.get? := funext h
  rw [e] <;> rfl
theorem errP_of {K : PySem.W.Frag} {mg : Str → Option Value} {x : Str} (hm : mg x = some (.ref (ga K x))) (c : (Fa.exc x).ok K = true) : EV.ErrP K mg x (ga K x) := by
  obtain ⟨c1, c2, c3, c4⟩ := exc_ok c
  exact ⟨⟨"ValueError", _, _, _, PySem.F.excBase_ValueError, c1⟩, hm, c2, c3, c4⟩
end HY
namespace EV
open PySem PySem.Spec PyProof.Rows L2 L2X
mutual
def vOf (K : PySem.W.Frag) : IV → Value → Option V
  | .non, .none => some .non
  | .bl b, .bool c => if b = c then some (.bl b) else none
  | .int i, .int j _ => if i = j then some (.int i) else none
  | .str x, .str y _ => if x = y then some (.str x) else none
  | .tup xs, .ref a => (match K.lookup a with
    | some ⟨cls, _, .seq its _, _⟩ => if cls = .type "tuple" ∧ its.size ≤ sizeLine then (match vsOf K xs its.toList with
      | some _ => some (.ref a)
      | none => none) else none
    | _ => none)
  | _, _ => none
def vsOf (K : PySem.W.Frag) : List IV → List Value → Option (List V)
  | [], [] => some []
  | x :: xs, v :: vs => (match vOf K x v, vsOf K xs vs with
    | some u, some us => some (u :: us)
    | _, _ => none)
  | _, _ => none
end
def biT : List String := ["NoneType", "bool", "int", "str", "tuple", "list", "dict"]
end EV
namespace EV
end EV
namespace PySem.W
open PySem PySem.Spec PyProof.Rows L2
section
variable {prog : Program} {w : World} {A : Around} {E : Value → Shared → Prop} {s : Shared} {K : Frag} {x D : Addr} {ox : Obj} {od : Option Obj}
end
end PySem.W
namespace EV
open PySem PySem.Spec PyProof.Rows L2 L2X
section
variable {X : Cx} {P : Par} {W : WX}
end
end EV
namespace EV
open PySem PySem.Spec PyProof.Rows L2 L2X

section
variable {X : Cx} {P : Par} {W : WX} {e : Expr} {fa : IE → M IV} {n : Nat} {x : Str} {C : Addr} {p pos rpos : Pos}
end

section
variable {X : Cx} {P : Par} {W : WX} {a : Expr} {es : List Expr} {fs : IE → M (List IV)} {pos p0 : Pos} {x : Str} {av : List Addr} {k np i : Nat} {tb : List (Nat × CM)}
end

def VPs (P : Par) (φ : List Addr) (H : Hp) : List (IV × IV) → List (V × V) → Prop
  | [], vs => vs = []
  | (k, x) :: r, vs => ∃ a b t, vs = (a, b) :: t ∧ VR P φ H k a ∧ VR P φ H x b ∧ VPs P φ H r t
section
variable {X : Cx} {P : Par} {W : WX}
theorem VPs.mono {φ φ' : List Addr} {H H' : Hp} (e : Ext φ H φ' H') : ∀ {xs : List (IV × IV)} {vs : List (V × V)}, VPs P φ H xs vs → VPs P φ' H' xs vs
  | [], _, h => by rw [VPs] at h ⊢; exact h
  | (k, x) :: r, _, h => by
    rw [VPs] at h ⊢
    obtain ⟨a, b, t, rfl, h1, h2, h3⟩ := h
    exact ⟨a, b, t, rfl, h1.mono e, h2.mono e, VPs.mono e h3⟩
end
def leafD : IV → Option PyData
  | .non => some .none
  | .bl b => some (.bool b)
  | .int i => some (.int i)
  | .str x => some (.str x)
  | _ => none
def reprDI : RM := fun xs h => match xs with
  | [v] => match dctO h v with
    | some (ks, us) => (match mapO leafD ks, mapO leafD us with
      | some a, some b => if (PyData.dict (a.zip b)).showable = true ∧ (PyData.dict (a.zip b)).shown.length ≤ sizeLine then .ok (.str (PyData.dict (a.zip b)).shown) h else .no
      | _, _ => .no)
    | none => reprI xs h
  | _ => .no
section
variable {X : Cx} {P : Par} {W : WX}
theorem leaf_reads {φ : List Addr} {H : Hp} {hp : Heap} {x : IV} {d : PyData} {v : V} {u : Value} (e : leafD x = some d) (r : VR P φ H x v) (rv : L2.RelV v u) : Reads hp u d [] ∧ d.depth = 0 := by
  cases x <;> simp only [leafD] at e <;> cases e <;> rw [VR] at r <;> subst r
  · cases (show u = Value.none from rv); exact ⟨.none, rfl⟩
  · cases (show u = Value.bool _ from rv); exact ⟨.bool _, rfl⟩
  · obtain ⟨t, rfl⟩ := rv; exact ⟨.int _ _, rfl⟩
  · obtain ⟨t, rfl⟩ := rv; exact ⟨.str _ _, rfl⟩
theorem leaves_read {φ : List Addr} {H : Hp} {hp : Heap} : ∀ {xs : List IV} {ds : List PyData} {vs : List V} {us : List Value}, mapO leafD xs = some ds → VRs P φ H xs vs → Paired L2.RelV vs us → ReadsAll hp us ds [] ∧ (∀ d ∈ ds, d.depth = 0) ∧ ds.length = us.length
  | [], _, _, _, e, r, t => by
    simp only [mapO] at e; cases e
    rw [VRs] at r; subst r
    cases t
    exact ⟨.nil, by simp, rfl⟩
  | x :: xs, _, _, _, e, r, t => by
    obtain ⟨y, ys, h1, h2, rfl⟩ := mapO_cons e
    rw [VRs] at r
    obtain ⟨v, w, rfl, r1, r2⟩ := r
    cases t with
    | cons c t =>
      obtain ⟨a1, a2⟩ := leaf_reads (hp := hp) h1 r1 c
      obtain ⟨b1, b2, b3⟩ := leaves_read (hp := hp) h2 r2 t
      exact ⟨.cons (as := []) (bs := []) a1 b1, fun d hd => (List.mem_cons.mp hd).elim (fun z => by rw [z]; exact a2) (b2 d), by rw [List.length_cons, List.length_cons, b3]⟩
theorem depthKv_zero : ∀ {a b : List PyData}, (∀ d ∈ a, d.depth = 0) → (∀ d ∈ b, d.depth = 0) → PyData.depthKv (a.zip b) = 0
  | [], _, _, _ => by simp [PyData.depthKv]
  | _ :: _, [], _, _ => by simp [PyData.depthKv]
  | x :: xs, y :: ys, h1, h2 => by
    rw [List.zip_cons_cons]
    simp only [PyData.depthKv, h1 x List.mem_cons_self, h2 y List.mem_cons_self, depthKv_zero (fun d hd => h1 d (List.mem_cons_of_mem _ hd)) (fun d hd => h2 d (List.mem_cons_of_mem _ hd))]
    rfl
theorem paired_map {α β γ δ : Type} {R : α → β → Prop} {S : γ → δ → Prop} {f : α → γ} {g : β → δ} (k : ∀ a b, R a b → S (f a) (g b)) : ∀ {l : List α} {m : List β}, Paired R l m → Paired S (l.map f) (m.map g)
  | _, _, .nil => .nil
  | _, _, .cons c t => .cons (k _ _ c) (paired_map k t)
theorem cr_reprDI (hK : X.K = P.K) (hgd : X.A.guards = some []) (hu : X.A.units + 64 < cLine) : CallR X (.builtin "repr") (rB P W reprDI) := by
  intro pins s σ H xs us Q I rs ⟨φ, h, σ', ivs, sr, r, p⟩
  unfold reprDI at p
  split at p
  case h_2 => exact p.elim
  rename_i v0
  split at p
  case h_2 => exact cr_reprI hK hgd hu pins s σ H xs us Q I rs ⟨φ, h, σ', [v0], sr, r, p⟩
  rename_i ks ws ed
  split at p
  case h_2 => exact p.elim
  rename_i a b ea eb
  split at p
  case isFalse => exact p.elim
  rename_i z
  obtain ⟨v, rfl, r1⟩ := r.one
  cases rs with
  | cons rx rr =>
    cases rr
    rename_i u
    obtain ⟨ad, o, es, rfl, hH, rk, ru, ko⟩ := dctO_ok sr r1 ed
    cases (show u = Value.ref ad from rx)
    have zz : ObjOk X.prog X.w H s.heap ad (DctO ad o es) := I.hok ad _ hH
    obtain ⟨⟨g1, g2, g3, g4, arr, ep, g5, g6⟩, _⟩ := zz
    have q : Q (.str (PyData.dict (a.zip b)).shown) H := p.ret sr (by rw [VR])
    have pk : Paired L2.RelV (es.map (·.2.1)) (arr.toList.map (·.key)) := paired_map (fun _ _ c => c.2.1) g6
    have pv : Paired L2.RelV (es.map (·.2.2)) (arr.toList.map (·.val)) := paired_map (fun _ _ c => c.2.2) g6
    obtain ⟨k1, k2, k3⟩ := leaves_read (hp := s.heap) ea rk pk
    obtain ⟨u1, u2, u3⟩ := leaves_read (hp := s.heap) eb ru pv
    have hl : a.length = b.length := by rw [k3, u3]; simp
    have rd : Reads s.heap (.ref ad) (.dict (a.zip b)) (ad :: [] ++ []) := .dict g1 g4.1 g5 (by rw [List.map_fst_zip (by omega)]; exact k1) (by rw [List.map_snd_zip (by omega)]; exact u1)
    have hd : (PyData.dict (a.zip b)).depth ≤ 1 := by simp only [PyData.depth, depthKv_zero k2 u2]; omega
    exact repr_of_reads' rd z.1 (fun _ m => by simp at m; rw [← m] at g2; exact absurd g2 (by decide)) hgd (by omega) (fun _ _ e => e) (fun h' u tk hk => ⟨.str _, H, I.kept (h' := h') (t' := tk) hk, ⟨_, rfl⟩, q⟩) z.2
end
section
variable {X : Cx} {P : Par} {W : WX} {pos p0 : Pos} {x : Str} {av : List Addr} {k : Nat} {c : CM}
end
end EV
namespace EV
open PySem PySem.Spec PyProof.Rows L2 L2X
end EV
namespace EV
open PySem PySem.Spec PyProof.Rows L2 L2X
end EV
namespace EV
open PySem PySem.Spec PyProof.Rows L2 L2X
end EV
namespace EV
end EV
namespace EV
open PySem PySem.Spec PyProof.Rows L2 RZ
def mulLI : G2 := fun x y h => match lsR h x, y with
  | some xs, .int k => if 0 ≤ k ∧ k ≤ 1000 ∧ xs.length ≤ 1000 then .ok (.lst (List.replicate k.toNat xs).flatten) h else .no
  | _, _ => mulDI x y h
section
variable {X : Cx} {P : Par} {W : WX}
theorem op_mulLI (hK : X.K = P.K) : OpR X (binaryOp .Mult) (rG P W mulLI) := by
  intro pins s σ H x y v u Q I rx ry ⟨φ, h, σ', _, _, sr, ra, rb, p⟩
  unfold mulLI at p
  split at p
  case h_2 => exact op_mulDI hK pins s σ H x y v u Q I rx ry ⟨φ, h, σ', _, _, sr, ra, rb, p⟩
  rename_i xs k e
  split at p
  case isFalse => exact p.elim
  rename_i c
  obtain ⟨l, vs, rfl, hL, rv⟩ := sr.lsR ra e
  rw [VR] at rb; subst rb
  cases (show v = Value.ref l from rx)
  obtain ⟨t, rfl⟩ := ry
  obtain ⟨its, r, pl, hz⟩ := I.list (a := l) (xs := vs) (by rw [hK]; exact hL)
  obtain ⟨⟨cls, dd, data, sl⟩, n, ho, hc, hdd, hd⟩ := pl
  simp only at hc hd hdd
  subst hc hd hdd
  have hle : its.length = xs.length := by rw [← r.length, rv.length]
  have hsz : its.toArray.size * k.toNat ≤ 2 ^ 24 := by
    rw [List.size_toArray, hle]
    have := Nat.mul_le_mul c.2.2 (show k.toNat ≤ 1000 by omega)
    omega
  have flen : (List.replicate k.toNat its).flatten.length ≤ sizeLine := by
    rw [PyProof.Rows.lm_len_rep_flat, hle, sizeLine_eq]
    have a1 : k.toNat * xs.length ≤ 1000 * 1000 := Nat.mul_le_mul (by omega) c.2.2
    omega
  refine wpAny_binaryOp_repeat_ref (T := "list") (U := "int") (by decide) ⟨_, ho, rfl⟩ (fun s' => typeIs_int s' k t) noFill_list_mul F.fills_int_mul F.slot_int_rmul repeat_list F.slot_int_index.lookup
    (call_meets F.slot_int_rmul (typeIs_int s k t) F.entry_int_rmul (F.args_int_rmul_2 _ _) (lm_int_rmul_list_any k t l its.toArray n _ sl)
      ⟨ho, rfl, ⟨_, ho, rfl⟩, call_meets F.slot_list_mul ⟨_, ho, rfl⟩ F.entry_list_mul (F.args_list_mul_2 _ _) (lm_list_mul_any l its.toArray n _ sl k t (by simp [Builtin.List.listFitsIndex]; omega) (by omega) (by simp [Builtin.List.listTooLong, sizeLine]; omega)) ⟨ho, ?_⟩⟩)
  rw [listMul_foldl_if]
  have rr : Vals (List.replicate k.toNat vs).flatten (List.replicate k.toNat its).flatten := by
    generalize k.toNat = m
    induction m with
    | zero => exact .nil
    | succ m ih => rw [List.replicate_succ, List.replicate_succ, List.flatten_cons, List.flatten_cons]; exact r.append ih
  refine ⟨.ref s.heap.objs.size, _, I.laid (t' := s.toks) (o := .lst (List.replicate k.toNat vs).flatten) (fun b ob q => Heap.get?_push_of_some _ q) (Nat.le_refl _) ?_, rfl, p.newLst sr (rv.rep _) (I.hok.fresh (Nat.le_refl _))⟩
  exact ⟨by rw [PyProof.Rows.lm_len_rep_flat, rv.length, sizeLine_eq]; have a1 : k.toNat * xs.length ≤ 1000 * 1000 := Nat.mul_le_mul (by omega) c.2.2; omega, _, 0, rr, Heap.get?_push_size _ rfl⟩
end
end EV
namespace EV
open PySem PySem.Spec PyProof.Rows L2 L2X

/-- what a def at an address promises -/
structure FnA (Pr : Program) (w : World) (K : PySem.W.Frag) (mg : Str → Option Value) (base : Heap) (P : Par) (fA : Addr) (k np : Nat) (c : CM) : Prop where
  ex : ∃ (fd : FuncData) (ps : List Str) (ds : List Value) (dvs : List V) (ivd : List IV) (cc : CM), FnG Pr w K mg base (L2.CX Pr w) k fA fd ps (spI P (np + dvs.length) cc) ∧
    Binds K fd ps ds ∧ Vals dvs ds ∧ (∀ av φ H, VRs (P.at av) φ H ivd dvs) ∧ c = fun vs => cc (vs ++ ivd)
theorem FnA.mono {Pr : Program} {w : World} {K : PySem.W.Frag} {mg : Str → Option Value} {base : Heap} {P : Par} {fA : Addr} {j k np : Nat} {c : CM} (F : FnA Pr w K mg base P fA j np c) (h : j ≤ k) : FnA Pr w K mg base P fA k np c := by
  obtain ⟨fd, ps, ds, dvs, ivd, cc, F1, r⟩ := F.ex
  exact ⟨fd, ps, ds, dvs, ivd, cc, F1.mono h, r⟩
theorem FnA.all {Pr : Program} {w : World} {K : PySem.W.Frag} {mg : Str → Option Value} {base : Heap} {P : Par} {k np : Nat} {c : CM} {fA : Addr} {fd : FuncData} {ps : List Str} (F : FnG Pr w K mg base (L2.CX Pr w) k fA fd ps (spI P np c)) (hb : Binds K fd ps []) :
    FnA Pr w K mg base P fA k np c := ⟨fd, ps, [], [], [], c, F, hb, .nil, fun _ _ _ => VRs.nil, by simp⟩
/-- a class's slot -/
structure SlotI (K : PySem.W.Frag) (C : Addr) (f : Str) (i : Nat) : Prop where
  cls : SlX.SCls K C
  sl : ∃ p, SlX.Slot1 K C f p i
def putI (i : Nat) (x : IV) (vs : List (Option IV)) : List (Option IV) := (vs ++ List.replicate (i + 1 - vs.length) none).set i (some x)
section
variable {P : Par} {φ : List Addr} {H : Hp} {h : IH}
theorem SlV.nil {ws : List (Option V)} : SlV P φ H [] ws := fun i x e => by simp at e
theorem SlV.put {vs : List (Option IV)} {ws : List (Option V)} (s : SlV P φ H vs ws) (i : Nat) {x : IV} {v : V} (r : VR P φ H x v) : SlV P φ H (putI i x vs) (SlX.putS i v ws) := by
  intro j y hy
  by_cases hj : j = i
  · subst hj
    have e : (putI j x vs)[j]? = some (some x) := by
      unfold putI
      exact List.getElem?_set_self (by simp only [List.length_append, List.length_replicate]; omega)
    rw [e] at hy
    cases hy
    exact ⟨v, SlX.putS_get j v ws, r⟩
  · have e : vs[j]? = some (some y) := by
      unfold putI at hy
      rw [List.getElem?_set_ne (Ne.symm hj)] at hy
      by_cases hl : j < vs.length
      · rwa [List.getElem?_append_left hl] at hy
      · rw [List.getElem?_append_right (by omega), List.getElem?_replicate] at hy
        split at hy <;> cases hy
    obtain ⟨u, e1, r1⟩ := s j y e
    exact ⟨u, (SlX.putS_ne hj).mpr e1, r1⟩
theorem SlV.mono {φ' : List Addr} {H' : Hp} {vs : List (Option IV)} {ws : List (Option V)} (s : SlV P φ H vs ws) (e : Ext φ H φ' H') : SlV P φ' H' vs ws := fun i x q => let ⟨v, e1, r1⟩ := s i x q; ⟨v, e1, r1.mono e⟩
/-- a slot is stored -/
theorem SR.slot (s : SR P φ H h) {n c i : Nat} {a dx : Addr} {vs : List (Option IV)} {ws : List (Option V)} {x : IV} {v : V} (e : φ[n]? = some a) (hh : h[n]? = some (.ins c vs)) (hs : SlX.Slt H a (P.G c) dx ws) (off : Off P φ dx) (ne : dx ≠ a) (hd : H dx = some (.own a) ∨ H dx = some (.xd [])) (sv : SlV P φ H vs ws) (r : VR P φ H x v) :
    Ext φ H φ (SlX.slH H a (P.G c) dx (SlX.putS i v ws)) ∧ SR P φ (SlX.slH H a (P.G c) dx (SlX.putS i v ws)) (h.set n (.ins c (putI i x vs))) := by
  obtain ⟨oa, ea, ka⟩ := slAt_obj hs
  have mem : a ∈ φ := List.mem_of_getElem? e
  have hdx : ∃ od, H dx = some od ∧ (∀ xs, od ≠ .tup xs) ∧ (∀ o u, od ≠ .frz o u) ∧ (∀ ps, od ≠ .tbl ps) ∧ (∀ q, od ≠ LamX.CodeO dx q) := by
    rcases hd with hd | hd
    · exact ⟨_, hd, fun _ z => (by cases z), fun _ _ z => (by cases z), fun _ z => (by cases z), fun _ z => by unfold LamX.CodeO at z; cases z⟩
    · exact ⟨_, hd, fun _ z => (by cases z), fun _ _ z => (by cases z), fun _ z => (by cases z), fun _ z => by unfold LamX.CodeO at z; cases z⟩
  obtain ⟨od, ed, d1, d2, d3, d4⟩ := hdx
  have ex : Ext φ H φ (SlX.slH H a (P.G c) dx (SlX.putS i v ws)) := by
    refine ⟨⟨[], by simp, by simp⟩, fun b u q k st => ?_, fun b xs q => ?_, fun b o u q => ?_, fun b u q => ?_⟩
    · have h1 : b ≠ a := fun z => k (by rw [z]; exact mem)
      by_cases h2 : b = dx
      · subst h2
        rcases hd with hd | hd
        · rw [hd] at q; cases q; exact absurd rfl (st.own _)
        · rw [hd] at q; cases q
          unfold SlX.slH
          rw [upd_ne h1, upd_same]
      · rw [SlX.slH_ne h1 h2]; exact q
    · have h1 : b ≠ a := fun z => by rw [z, ea] at q; exact ka.tup _ (Option.some.inj q)
      have h2 : b ≠ dx := fun z => by rw [z, ed] at q; exact d1 _ (Option.some.inj q)
      rw [SlX.slH_ne h1 h2]; exact q
    · have h1 : b ≠ a := fun z => by rw [z, ea] at q; exact ka.frz _ _ (Option.some.inj q)
      have h2 : b ≠ dx := fun z => by rw [z, ed] at q; exact d2 _ _ (Option.some.inj q)
      rw [SlX.slH_ne h1 h2]; exact q
    · by_cases h1 : b = a
      · subst h1; exact ⟨_, upd_same⟩
      · by_cases h2 : b = dx
        · subst h2; exact ⟨.xd [], by unfold SlX.slH; rw [upd_ne h1, upd_same]⟩
        · exact ⟨u, by rw [SlX.slH_ne h1 h2]; exact q⟩
  refine ⟨ex, ⟨by rw [List.length_set]; exact s.len, s.nd, s.av.mono ex, fun m io' b e1 e2 => ?_, fun q hq => (s.tab q hq).stay fun b u e' n' w => ⟨?_, n'⟩, trivial⟩⟩
  · by_cases z : n = m
    · subst z
      rw [e] at e2; cases e2
      rw [List.getElem?_set] at e1
      split at e1
      · split at e1
        · cases e1
          exact ⟨dx, _, SlX.slH_slt ne, off, ne, ⟨.xd [], by unfold SlX.slH; rw [upd_ne ne, upd_same]⟩, (sv.put i r).mono ex⟩
        · cases e1
      · rename_i k; exact absurd rfl k
    · rw [List.getElem?_set_ne z] at e1
      have nb : b ≠ a := Ne.symm (s.ne e e2 z)
      refine OR.keep ex (fun u q => ?_) (s.obj m io' b e1 e2)
      have h2 : b ≠ dx := fun z => off.1 (by rw [← z]; exact List.mem_of_getElem? e2)
      rw [SlX.slH_ne nb h2]; exact q
  · have h1 : b ≠ a := fun z => n'.1 (by rw [z]; exact mem)
    have h2 : b ≠ dx := fun z => by
      subst z
      rw [ed] at e'
      cases e'
      rcases w with ⟨⟨ps, w⟩, _⟩ | ⟨q', w⟩
      · exact d3 _ w
      · exact d4 _ w
    rw [SlX.slH_ne h1 h2]; exact e'
end
section
variable {X : Cx} {P : Par} {W : WX} {e o value : Expr} {es : List Expr} {f m x : Str} {pos pos' apos p0 : Pos} {fa fo fv : IE → M IV} {fs : IE → M (List IV)} {c i k np : Nat} {cm : CM} {av : List Addr}
end
end EV
namespace EV
open PySem PySem.Spec PyProof.Rows L2 L2X RZ

section
variable {X : Cx} {P : Par} {W : WX} {o : Expr} {name : Str} {apos cpos : Pos} {T id : String}
def lenB (a b : Nat) : Option Bool := if a ≠ b then some false else if a = 0 then some true else none
def eqNilI : G2 := fun a b h => match lsR h a, lsR h b with
  | some xs, some ys => match lenB xs.length ys.length with
    | some k => .ok (.bl k) h
    | none => .no
  | _, _ => .no
def neNilI : G2 := fun a b h => match lsR h a, lsR h b with
  | some xs, some ys => match lenB xs.length ys.length with
    | some k => .ok (.bl !k) h
    | none => .no
  | _, _ => .no
theorem lists_of (hK : X.K = P.K) {φ : List Addr} {H : Hp} {h : IH} (sr : SR P φ H h) {a b : IV} {x y : V} {xs ys : List IV} {k : Bool} (ra : VR P φ H a x) (rb : VR P φ H b y) (ea : lsR h a = some xs) (eb : lsR h b = some ys) (hk : lenB xs.length ys.length = some k) {pins : List (Addr × Obj)} {σ : L2.St} {s : Shared} {v u : Value} (I : Inv X pins σ H s) (rx : L2.RelV x v) (ry : L2.RelV y u) :
    ∃ p q its its2, v = .ref p ∧ u = .ref q ∧ s.heap.IsList p its ∧ s.heap.IsList q its2 ∧ ((its.size != its2.size) = true ∧ k = false ∨ its.size = its2.size ∧ its.size = 0 ∧ k = true) := by
  obtain ⟨p, vs, rfl, h1, h2⟩ := sr.lsR ra ea
  obtain ⟨q, ws, rfl, h3, h4⟩ := sr.lsR rb eb
  cases rx; cases ry
  rw [← hK] at h1 h3
  obtain ⟨its, rv, pl, _⟩ := I.list h1
  obtain ⟨its2, rv2, pl2, _⟩ := I.list h3
  have l1 : its.toArray.size = xs.length := by rw [List.size_toArray, ← rv.length, h2.length]
  have l2 : its2.toArray.size = ys.length := by rw [List.size_toArray, ← rv2.length, h4.length]
  refine ⟨p, q, its.toArray, its2.toArray, rfl, rfl, pl.isList, pl2.isList, ?_⟩
  unfold lenB at hk
  rw [l1, l2]
  split at hk
  · rename_i z
    cases hk
    exact .inl ⟨by simp [z], rfl⟩
  · rename_i z
    have z' : xs.length = ys.length := Decidable.byContradiction z
    split at hk
    · rename_i z2
      cases hk
      exact .inr ⟨z', z2, rfl⟩
    · cases hk
theorem op_eqNilI (hK : X.K = P.K) (hu : X.A.units + 4 < cLine) : OpR X (compareOp .Eq) (rG P W eqNilI) := by
  intro pins s σ H x y v u Q I rx ry ⟨φ, h, σ', va, vb, sr, ra, rb, p⟩
  unfold eqNilI at p
  split at p
  case h_2 => exact p.elim
  rename_i xs ys ea eb
  split at p
  case h_2 => exact p.elim
  rename_i k hk
  obtain ⟨a, b, its, its2, rfl, rfl, i1, i2, d⟩ := lists_of hK sr ra rb ea eb hk I rx ry
  have fin : EP X pins σ Q (.bool k) s := ⟨.bl k, H, I, rfl, p.ret sr (by rw [VR])⟩
  rcases d with ⟨d, rfl⟩ | ⟨d, d0, rfl⟩
  · exact SeqAt.eq_list_lengthsAt i1 i2 d (by omega) fin
  · refine SeqAt.eq_listAt (e := fun _ => true) i1 i2 d (by omega) (fun j h1 _ => by omega) ?_
    rw [d0]; exact fin
theorem op_neNilI (hK : X.K = P.K) (hu : X.A.units + 4 < cLine) : OpR X (compareOp .NotEq) (rG P W neNilI) := by
  intro pins s σ H x y v u Q I rx ry ⟨φ, h, σ', va, vb, sr, ra, rb, p⟩
  unfold neNilI at p
  split at p
  case h_2 => exact p.elim
  rename_i xs ys ea eb
  split at p
  case h_2 => exact p.elim
  rename_i k hk
  obtain ⟨a, b, its, its2, rfl, rfl, i1, i2, d⟩ := lists_of hK sr ra rb ea eb hk I rx ry
  have fin : EP X pins σ Q (.bool !k) s := ⟨.bl !k, H, I, rfl, p.ret sr (by rw [VR])⟩
  rcases d with ⟨d, rfl⟩ | ⟨d, d0, rfl⟩
  · exact SeqAt.RcNeAt.lists_lengths i1 i2 d (by omega) _ _ _ _ fin
  · refine SeqAt.RcNeAt.lists (e := fun _ => true) i1 i2 d (by omega) (fun j h1 _ => by omega) _ _ _ _ ?_
    rw [d0]; exact fin
end

section
variable {P : Program} {w : World} {K : PySem.W.Frag} {tg : Expr} {d : Addr} {o : Obj} {arr : Array DictEntry} {ep : Nat} {es : Raw}
end
section
variable {X : Cx} {tg e : Expr} {td : TE} {apos cpos : Pos}
variable {P : Par} {W : WX}
end
section
variable {X : Cx} {P : Par} {W : WX} {pos : Pos}
end
end EV
namespace EV
open PySem PySem.Spec PyProof.Rows L2 L2X
section
variable {X : Cx} {P : Par} {W : WX}
end
end EV
namespace EV
open PySem PySem.Spec PyProof.Rows L2 L2X
section
variable {P : Par} {φ : List Addr} {H : Hp} {D : Addr} {av : List Addr}
theorem Off.tell (na : D ∉ av) {a : Addr} (h : Off (P.at (D :: av)) φ a) : Off (P.at av) (φ ++ [D]) a := ⟨fun m => by
  rcases List.mem_append.mp m with m | m
  · exact h.1 m
  · exact h.2 (by rw [List.mem_singleton.mp m]; exact List.mem_cons_self), fun m => h.2 (List.mem_cons_of_mem _ m)⟩
mutual
theorem VR.tell (na : D ∉ av) : ∀ (x : IV) (v : V), VR (P.at (D :: av)) φ H x v → VR (P.at av) (φ ++ [D]) H x v
  | .non, _, h | .bl _, _, h | .int _, _, h | .str _, _, h | .ty _, _, h | .glo _, _, h => by simpa only [VR, Par.at] using h
  | .ref n, _, h => by
    rw [VR] at h ⊢
    obtain ⟨a, h1, h2⟩ := h
    exact ⟨a, by rw [List.getElem?_append_left (List.getElem?_eq_some_iff.mp h1).1]; exact h1, h2⟩
  | .tup xs, _, h => by
    rw [VR] at h ⊢
    obtain ⟨a, vs, h1, h2, h3⟩ := h
    exact ⟨a, vs, h1, h2, VRs.tell na xs vs h3⟩
  | .lst xs, _, h => by
    rw [VR] at h ⊢
    obtain ⟨a, vs, h1, h2, h3, h4⟩ := h
    exact ⟨a, vs, h1, h2, h3.tell na, VRs.tell na xs vs h4⟩
  | .scr xs, _, h => by
    rw [VR] at h ⊢
    obtain ⟨a, vs, h1, h2, h3⟩ := h
    exact ⟨a, vs, h1, h2, VRs.tell na xs vs h3⟩
  | .dct ks us, _, h => by
    rw [VR] at h ⊢
    obtain ⟨a, o, es, h1, h2, h3, h4, h5, h6⟩ := h
    exact ⟨a, o, es, h1, h2, h3.tell na, VRs.tell na ks _ h4, VRs.tell na us _ h5, h6⟩
  | .exc a dd ns xs, _, h => by
    rw [VR] at h ⊢
    obtain ⟨h1, h | ⟨vs, h2, h3, h4⟩⟩ := h
    · exact ⟨h1, .inl h⟩
    · exact ⟨h1, .inr ⟨vs, h2, h3.tell na, VRs.tell na xs vs h4⟩⟩
  | .fn a c q ix xs σ, _, h => by
    rw [VR] at h ⊢
    obtain ⟨h1, h2, h3, vs, h4, h5⟩ := h
    exact ⟨h1, h2, h3.tell na, vs, h4, VRs.tell na xs vs h5⟩
theorem VRs.tell (na : D ∉ av) : ∀ (xs : List IV) (vs : List V), VRs (P.at (D :: av)) φ H xs vs → VRs (P.at av) (φ ++ [D]) H xs vs
  | [], _, h => by rw [VRs] at h ⊢; exact h
  | x :: xs, _, h => by
    rw [VRs] at h ⊢
    obtain ⟨v, r, h1, h2, h3⟩ := h
    exact ⟨v, r, h1, VR.tell na x v h2, VRs.tell na xs r h3⟩
end
theorem OR.tellN (na : D ∉ av) {a : Addr} : ∀ {o : IO}, OR (P.at (D :: av)) φ H a o → OR (P.at av) (φ ++ [D]) H a o
  | .lst xs, ⟨vs, h1, h2⟩ => ⟨vs, h1, VRs.tell na xs vs h2⟩
  | .dct ks us, ⟨o, es, h1, h2, h3, h4⟩ => ⟨o, es, h1, VRs.tell na ks _ h2, VRs.tell na us _ h3, h4⟩
  | .ins c vs, ⟨dx, ws, h1, h2, n, o, h3⟩ => ⟨dx, ws, h1, h2.tell na, n, o, fun i x e => let ⟨v, e1, r1⟩ := h3 i x e; ⟨v, e1, VR.tell na x v r1⟩⟩
  | .lck ks us, ⟨od, o, es, h1, h2, h3, h4⟩ => ⟨od, o, es, h1, VRs.tell na ks _ h2, VRs.tell na us _ h3, h4⟩
  | .ktp xs, ⟨o, vs, h1, h2, h3, h4⟩ => ⟨o, vs, h1, h2, h3, VRs.tell na xs _ h4⟩
/-- what was under way is told -/
theorem SR.tellN (na : D ∉ av) {h : IH} {io : IO} (s : SR (P.at (D :: av)) φ H h) (r : OR (P.at av) (φ ++ [D]) H D io) : SR (P.at av) (φ ++ [D]) H (h ++ [io]) := by
  have hD := s.av D List.mem_cons_self
  refine ⟨by simp [s.len], ?_, fun a m => ?_, fun n o a e1 e2 => ?_, fun p hp => (s.tab p hp).stay fun b o e n _ => ⟨e, n.tell na⟩, s.tbo⟩
  · refine List.nodup_append.mpr ⟨s.nd, by simp, fun a ha b hb e => ?_⟩
    rw [List.mem_singleton.mp hb] at e
    exact hD.1 (by rw [← e]; exact ha)
  · obtain ⟨n1, r1⟩ := s.av a (List.mem_cons_of_mem _ m)
    refine ⟨fun m2 => ?_, r1⟩
    rcases List.mem_append.mp m2 with m2 | m2
    · exact n1 m2
    · exact na (by rw [← List.mem_singleton.mp m2]; exact m)
  · by_cases hn : n < φ.length
    · rw [List.getElem?_append_left hn] at e2
      rw [List.getElem?_append_left (by rw [← s.len]; exact hn)] at e1
      exact OR.tellN na (s.obj n o a e1 e2)
    · have hl := (List.getElem?_eq_some_iff.mp e2).1
      have hn2 : n = φ.length := by simp at hl; omega
      subst hn2
      rw [List.getElem?_append_right (Nat.le_refl _), Nat.sub_self] at e2
      rw [s.len, List.getElem?_append_right (Nat.le_refl _), Nat.sub_self] at e1
      cases e1; cases e2
      exact r
end
section
variable {X : Cx} {P : Par} {W : WX}
end
end EV
namespace EV
open PySem PySem.Spec PyProof.Rows L2 L2X
mutual
theorem vOf_ok {K : PySem.W.Frag} : ∀ (x : IV) (v : Value) (u : V), vOf K x v = some u → L2.RelV u v ∧ ∀ P φ H, P.K = K → VR P φ H x u
  | .non, v, u, e => by
    cases v <;> simp only [vOf] at e <;> cases e
    exact ⟨rfl, fun _ _ _ _ => VR.n⟩
  | .bl b, v, u, e => by
    cases v <;> simp only [vOf] at e <;> first | cases e | skip
    split at e
    · rename_i z; cases e; subst z; exact ⟨rfl, fun _ _ _ _ => VR.b⟩
    · cases e
  | .int i, v, u, e => by
    cases v <;> simp only [vOf] at e <;> first | cases e | skip
    split at e
    · rename_i z; cases e; subst z; exact ⟨⟨_, rfl⟩, fun _ _ _ _ => VR.i⟩
    · cases e
  | .str i, v, u, e => by
    cases v <;> simp only [vOf] at e <;> first | cases e | skip
    split at e
    · rename_i z; cases e; subst z; exact ⟨⟨_, rfl⟩, fun _ _ _ _ => VR.s⟩
    · cases e
  | .tup xs, v, u, e => by
    cases v <;> simp only [vOf] at e <;> first | cases e | skip
    rename_i a
    split at e
    · rename_i cls dd its n sl lk
      split at e
      · rename_i z
        split at e
        · rename_i us eu
          cases e
          obtain ⟨r1, r2⟩ := vsOf_ok xs _ _ eu
          exact ⟨rfl, fun P φ H hK => by rw [VR]; exact ⟨a, us, rfl, .inr ⟨_, its, n, by rw [hK]; exact lk, z.1, rfl, z.2, r1⟩, r2 P φ H hK⟩⟩
        · cases e
      · cases e
    · cases e
  | .lst _, v, u, e | .scr _, v, u, e | .dct _ _, v, u, e | .ref _, v, u, e | .ty _, v, u, e | .glo _, v, u, e | .exc _ _ _ _, v, u, e | .fn _ _ _ _ _ _, v, u, e => by simp only [vOf] at e; cases e
theorem vsOf_ok {K : PySem.W.Frag} : ∀ (xs : List IV) (vs : List Value) (us : List V), vsOf K xs vs = some us → Vals us vs ∧ ∀ P φ H, P.K = K → VRs P φ H xs us
  | [], vs, us, e => by
    cases vs <;> simp only [vsOf] at e <;> cases e
    exact ⟨.nil, fun _ _ _ _ => VRs.nil⟩
  | x :: xs, vs, us, e => by
    cases vs <;> simp only [vsOf] at e <;> first | cases e | skip
    split at e
    · rename_i u us' e1 e2
      cases e
      obtain ⟨a1, a2⟩ := vOf_ok x _ _ e1
      obtain ⟨b1, b2⟩ := vsOf_ok xs _ _ e2
      exact ⟨.cons a1 b1, fun P φ H hK => VRs.cons (a2 P φ H hK) (b2 P φ H hK)⟩
    · cases e
end
section
variable {X : Cx} {P : Par} {W : WX}
end
end EV
namespace EV
open PySem PySem.Spec PyProof.Rows
open PySem.Sem (wp)
/-- what zip takes its items from, one by one -/
structure Src (prog : Program) (w : World) (it l : Addr) where
  at_ : Nat → Heap → Prop
  sq : Array Value → Heap → Prop
  atE : ∀ {b : Addr} {h h' : Heap} {k : Nat}, at_ k h → Heap.ExtBut b h h' → it ≠ b → at_ k h'
  atK : ∀ {h h' : Heap} {k : Nat}, at_ k h → (∀ o, h.get? it = some o → h'.get? it = some o) → at_ k h'
  sqE : ∀ {b : Addr} {h h' : Heap} {xs : Array Value}, sq xs h → Heap.ExtBut b h h' → l ≠ b → sq xs h'
  item : ∀ {A : Around} {E : Value → Shared → Prop} {s : Shared} {k : Nat} {xs : Array Value} {x : Value} {Q : Value → Shared → Prop}, at_ k s.heap → sq xs s.heap → xs[k]? = some x → (∀ h', at_ (k + 1) h' → Heap.SameBut it s.heap h' → Q x { s with heap := h' }) → wpAny (model prog w) A (Builtin.SmallTypes.nextOf (.ref it)) Q E s
  end_ : ∀ {A : Around} {E : Value → Shared → Prop} {s : Shared} {k : Nat} {xs : Array Value} {Q : Value → Shared → Prop}, A.handled = none → at_ k s.heap → sq xs s.heap → xs[k]? = none → (∀ h' e, Heap.ExtBut it s.heap h' → (∃ o, h'.get? e = some o ∧ o.cls = .type "StopIteration") → E (.ref e) { s with heap := h' }) → wpAny (model prog w) A (Builtin.SmallTypes.nextOf (.ref it)) Q E s
section
variable {prog : Program} {w : World} {A : Around} {E : Value → Shared → Prop} {s : Shared}
theorem zipM_next_item {zp TI TO i1 i2 l1 l2 : Addr} {k1 k2 : Nat} {xs ys : Array Value} {x y a b : Value} {Q : Value → Shared → Prop} (S1 : Src prog w i1 l1) (S2 : Src prog w i2 l2) (D : ZipApart zp TI TO i1 i2 l1 l2)
    (wz : IsZip s.heap zp TI TO .none) (wTI : IsPair s.heap TI (.ref i1) (.ref i2)) (wTO : IsPair s.heap TO a b)
    (h1 : S1.at_ k1 s.heap) (h2 : S2.at_ k2 s.heap) (hl1 : S1.sq xs s.heap) (hl2 : S2.sq ys s.heap) (hx : xs[k1]? = some x) (wy : ys[k2]? = some y)
    (wQ : ∀ h', IsZip h' zp TI TO (rawInt s.heap.objs.size) → IsPair h' TO x y → S1.at_ (k1 + 1) h' → S2.at_ (k2 + 1) h' → IsPair h' s.heap.objs.size x y → h'.objs.size = s.heap.objs.size + 1 →
      (∀ c o, c ≠ zp → c ≠ TO → c ≠ i1 → c ≠ i2 → s.heap.get? c = some o → h'.get? c = some o) → Q (.ref s.heap.objs.size) { s with heap := h' }) :
    wpAny (model prog w) A (Builtin.«zip.__next__» ⟨[.ref zp], []⟩) (fun fin s' => ∃ v, fin = .done (.ret v) ∧ Q v s') E s := by
  show wpAny _ _ (field (.ref zp) 2 >>= _) _ _ _
  refine wpAny_bind (wpAny_field wz rfl (x := .bool false) rfl ?_); show wpAny _ _ (field (.ref zp) 3 >>= _) _ _ _
  refine wpAny_bind (wpAny_field wz rfl (x := .ref TI) rfl ?_)
  refine wpAny_bind (wpAny_seqItems wTI rfl ?_); show wpAny _ _ (Builtin.SmallTypes.ownedTupleIsFree (.ref zp) >>= _) _ _ _
  refine wpAny_bind ?_; unfold Builtin.SmallTypes.ownedTupleIsFree
  refine wpAny_bind (wpAny_field wz rfl (x := .none) rfl (wpAny_pure ?_))
  simp only [if_true]; refine wpAny_bind (wpAny_rule ?_)
  refine wpAny_bind (wpAny_field wz rfl (x := .ref TO) rfl ?_)
  refine wpAny_bind (wpAny_setField_rec wz (by simp) fun h₁ wz₁ ws₁ => ?_)
  replace wz₁ : IsZip h₁ zp TI TO .ellipsis := wz₁
  refine wpAny_bind ?_; simp only [List.zipIdx_cons, List.zipIdx_nil, List.forIn_cons, List.forIn_nil]

  refine wpAny_bind (wpAny_bind (wpAny_onRaise ?_)); show wpAny _ _ (Builtin.SmallTypes.nextOf (.ref i1) >>= _) _ _ _
  refine wpAny_bind (S1.item (S1.atE h1 ws₁.extBut D.i1z) (S1.sqE hl1 ws₁.extBut D.l1z) hx fun h₂ h1₂ ws₂ => wpAny_pure ?_)
  have wTO₂ : IsPair h₂ TO a b := ws₂.extBut _ _ D.TOi1 (ws₁.extBut _ _ D.TOz wTO)
  refine wpAny_bind (wpAny_seqItems wTO₂ rfl ?_)
  refine wpAny_bind (wpAny_updateSeq_pair wTO₂ fun h₃ wTO₃ ws₃ => ?_)
  replace wTO₃ : IsPair h₃ TO x b := wTO₃; refine wpAny_bind (wpAny_letGo (wpAny_pure ?_))

  refine wpAny_bind (wpAny_bind (wpAny_onRaise ?_)); show wpAny _ _ (Builtin.SmallTypes.nextOf (.ref i2) >>= _) _ _ _
  refine wpAny_bind (S2.item (S2.atE (S2.atE (S2.atE h2 ws₁.extBut D.i2z) ws₂.extBut D.i12.symm) ws₃.extBut D.TOi2.symm)
    (S2.sqE (S2.sqE (S2.sqE hl2 ws₁.extBut D.l2z) ws₂.extBut D.l2i1) ws₃.extBut D.l2TO) wy fun h₄ h2₄ ws₄ => wpAny_pure ?_)
  have wTO₄ : IsPair h₄ TO x b := ws₄.extBut _ _ D.TOi2 wTO₃
  refine wpAny_bind (wpAny_seqItems wTO₄ rfl ?_)
  refine wpAny_bind (wpAny_updateSeq_pair wTO₄ fun h₅ wTO₅ ws₅ => ?_)
  replace wTO₅ : IsPair h₅ TO x y := wTO₅; refine wpAny_bind (wpAny_letGo (wpAny_pure (wpAny_pure ?_)))

  refine wpAny_bind (wpAny_seqItems wTO₅ rfl ?_); refine wpAny_bind (wpAny_newTuple ?_)
  have wsz : h₅.objs.size = s.heap.objs.size := by rw [ws₅.1, ws₄.1, ws₃.1, ws₂.1, ws₁.1]
  have wz₅ : IsZip h₅ zp TI TO .ellipsis := ws₅.extBut _ _ D.TOz.symm (ws₄.extBut _ _ D.i2z.symm (ws₃.extBut _ _ D.TOz.symm (ws₂.extBut _ _ D.i1z.symm wz₁)))
  have wk₅ : ∀ c o, c ≠ zp → c ≠ TO → c ≠ i1 → c ≠ i2 → s.heap.get? c = some o → h₅.get? c = some o := fun c o c1 c2 c3 c4 e =>
    ws₅.extBut _ _ c2 (ws₄.extBut _ _ c4 (ws₃.extBut _ _ c2 (ws₂.extBut _ _ c3 (ws₁.extBut _ _ c1 e))))
  have h1₅ : S1.at_ (k1 + 1) h₅ := S1.atE (S1.atE (S1.atE h1₂ ws₃.extBut D.TOi1.symm) ws₄.extBut D.i12) ws₅.extBut D.TOi1.symm
  have h2₅ : S2.at_ (k2 + 1) h₅ := S2.atE h2₄ ws₅.extBut D.TOi2.symm
  have wzlt : zp < h₅.objs.size := Heap.lt_size wz₅
  have wTOlt : TO < h₅.objs.size := Heap.lt_size wTO₅
  show wpAny _ _ (Builtin.SmallTypes.ownedTupleHandOut (.ref zp) (.ref h₅.objs.size) >>= _) _ _ _
  refine wpAny_bind ?_; unfold Builtin.SmallTypes.ownedTupleHandOut
  have wz₆ : IsZip (h₅.push { cls := .type "tuple", data := .seq #[x, y] }) zp TI TO .ellipsis := Heap.get?_push_of_some _ wz₅
  refine wpAny_bind (wpAny_setField_rec wz₆ (by simp) fun h₇ wz₇ ws₇ => ?_)
  replace wz₇ : IsZip h₇ zp TI TO (rawInt h₅.objs.size) := wz₇
  refine wpAny_setField_rec wz₇ (by simp) fun h₈ wz₈ ws₈ => ?_
  replace wz₈ : IsZip h₈ zp TI TO (rawInt h₅.objs.size) := wz₈
  have up : ∀ c o, c ≠ zp → h₅.get? c = some o → h₈.get? c = some o := fun c o c1 e => ws₈.extBut _ _ c1 (ws₇.extBut _ _ c1 (Heap.get?_push_of_some _ e))
  have wT₈ : IsPair h₈ h₅.objs.size x y := ws₈.extBut _ _ (Nat.ne_of_gt wzlt) (ws₇.extBut _ _ (Nat.ne_of_gt wzlt) (Heap.get?_push_size _ rfl))
  have hz8 : h₈.objs.size = h₅.objs.size + 1 := by rw [ws₈.1, ws₇.1, Heap.size_push]
  rw [wsz] at wz₈ wT₈ hz8; refine wpAny_pure ⟨_, rfl, ?_⟩
  show Q (.ref h₅.objs.size) _
  rw [wsz]
  exact wQ h₈ wz₈ (up _ _ D.TOz wTO₅) (S1.atK h1₅ fun o e => up _ o D.i1z e) (S2.atK h2₅ fun o e => up _ o D.i2z e) wT₈ hz8 fun c o c1 c2 c3 c4 e => up c o c1 (wk₅ c o c1 c2 c3 c4 e)

theorem zipM_next_end {zp TI TO i1 i2 l1 l2 : Addr} {k1 k2 : Nat} {xs ys : Array Value} {a b : Value} {Q : Fin → Shared → Prop} (hh : A.handled = none) (S1 : Src prog w i1 l1) (S2 : Src prog w i2 l2) (D : ZipApart zp TI TO i1 i2 l1 l2)
    (wz : IsZip s.heap zp TI TO .none) (wTI : IsPair s.heap TI (.ref i1) (.ref i2)) (wTO : IsPair s.heap TO a b)
    (h1 : S1.at_ k1 s.heap) (h2 : S2.at_ k2 s.heap) (hl1 : S1.sq xs s.heap) (hl2 : S2.sq ys s.heap) (hend : xs[k1]? = none ∨ ys[k2]? = none)
    (wE : ∀ h' e, (∀ c o, c ≠ zp → c ≠ TO → c ≠ i1 → c ≠ i2 → s.heap.get? c = some o → h'.get? c = some o) → (∃ o, h'.get? e = some o ∧ o.cls = .type "StopIteration") → E (.ref e) { s with heap := h' }) : wpAny (model prog w) A (Builtin.«zip.__next__» ⟨[.ref zp], []⟩) Q E s := by
  show wpAny _ _ (field (.ref zp) 2 >>= _) _ _ _
  refine wpAny_bind (wpAny_field wz rfl (x := .bool false) rfl ?_); show wpAny _ _ (field (.ref zp) 3 >>= _) _ _ _
  refine wpAny_bind (wpAny_field wz rfl (x := .ref TI) rfl ?_)
  refine wpAny_bind (wpAny_seqItems wTI rfl ?_); show wpAny _ _ (Builtin.SmallTypes.ownedTupleIsFree (.ref zp) >>= _) _ _ _
  refine wpAny_bind ?_; unfold Builtin.SmallTypes.ownedTupleIsFree
  refine wpAny_bind (wpAny_field wz rfl (x := .none) rfl (wpAny_pure ?_))
  simp only [if_true]; refine wpAny_bind (wpAny_rule ?_)
  refine wpAny_bind (wpAny_field wz rfl (x := .ref TO) rfl ?_)
  refine wpAny_bind (wpAny_setField_rec wz (by simp) fun h₁ wz₁ ws₁ => ?_)
  replace wz₁ : IsZip h₁ zp TI TO .ellipsis := wz₁
  refine wpAny_bind ?_; simp only [List.zipIdx_cons, List.zipIdx_nil, List.forIn_cons, List.forIn_nil]; refine wpAny_bind (wpAny_bind (wpAny_onRaise ?_)); show wpAny _ _ (Builtin.SmallTypes.nextOf (.ref i1) >>= _) _ _ _
  cases hx : xs[k1]? with
  | none =>
    refine wpAny_bind (S1.end_ hh (S1.atE h1 ws₁.extBut D.i1z) (S1.sqE hl1 ws₁.extBut D.l1z) hx fun h₂ e ws₂ he => ?_)
    obtain ⟨oe, woe, wce⟩ := he
    have wz₂ : IsZip h₂ zp TI TO .ellipsis := ws₂ _ _ D.i1z.symm wz₁
    have wez : e ≠ zp := fun x => by subst x; rw [wz₂] at woe; cases woe; simp at wce
    refine wpAny_setField_rec wz₂ (by simp) fun h₃ _ ws₃ => wE h₃ e (fun c o c1 _ c3 _ x => ws₃.extBut _ _ c1 (ws₂ _ _ c3 (ws₁.extBut _ _ c1 x))) ⟨oe, ws₃.extBut _ _ wez woe, wce⟩
  | some x =>
    have wy : ys[k2]? = none := by rcases hend with h | h; rw [hx] at h; cases h; exact h
    refine wpAny_bind (S1.item (S1.atE h1 ws₁.extBut D.i1z) (S1.sqE hl1 ws₁.extBut D.l1z) hx fun h₂ h1₂ ws₂ => wpAny_pure ?_)
    have wTO₂ : IsPair h₂ TO a b := ws₂.extBut _ _ D.TOi1 (ws₁.extBut _ _ D.TOz wTO)
    refine wpAny_bind (wpAny_seqItems wTO₂ rfl ?_)
    refine wpAny_bind (wpAny_updateSeq_pair wTO₂ fun h₃ wTO₃ ws₃ => ?_); refine wpAny_bind (wpAny_letGo (wpAny_pure ?_)); refine wpAny_bind (wpAny_bind (wpAny_onRaise ?_)); show wpAny _ _ (Builtin.SmallTypes.nextOf (.ref i2) >>= _) _ _ _
    refine wpAny_bind (S2.end_ hh (S2.atE (S2.atE (S2.atE h2 ws₁.extBut D.i2z) ws₂.extBut D.i12.symm) ws₃.extBut D.TOi2.symm)
      (S2.sqE (S2.sqE (S2.sqE hl2 ws₁.extBut D.l2z) ws₂.extBut D.l2i1) ws₃.extBut D.l2TO) wy fun h₄ e ws₄ he => ?_)
    obtain ⟨oe, woe, wce⟩ := he
    have wz₄ : IsZip h₄ zp TI TO .ellipsis := ws₄ _ _ D.i2z.symm (ws₃.extBut _ _ D.TOz.symm (ws₂.extBut _ _ D.i1z.symm wz₁))
    have wez : e ≠ zp := fun x => by subst x; rw [wz₄] at woe; cases woe; simp at wce
    refine wpAny_setField_rec wz₄ (by simp) fun h₅ _ ws₅ => wE h₅ e (fun c o c1 c2 c3 c4 x => ws₅.extBut _ _ c1 (ws₄ _ _ c4 (ws₃.extBut _ _ c2 (ws₂.extBut _ _ c3 (ws₁.extBut _ _ c1 x))))) ⟨oe, ws₅.extBut _ _ wez woe, wce⟩

theorem pyNext_zipM_item {zp TI TO i1 i2 l1 l2 : Addr} {k1 k2 : Nat} {xs ys : Array Value} {x y a b : Value} {Q : Option Value → Shared → Prop} (S1 : Src prog w i1 l1) (S2 : Src prog w i2 l2) (D : ZipApart zp TI TO i1 i2 l1 l2)
    (wz : IsZip s.heap zp TI TO .none) (wTI : IsPair s.heap TI (.ref i1) (.ref i2)) (wTO : IsPair s.heap TO a b)
    (h1 : S1.at_ k1 s.heap) (h2 : S2.at_ k2 s.heap) (hl1 : S1.sq xs s.heap) (hl2 : S2.sq ys s.heap) (hx : xs[k1]? = some x) (wy : ys[k2]? = some y)
    (wQ : ∀ h', IsZip h' zp TI TO (rawInt s.heap.objs.size) → IsPair h' TO x y → S1.at_ (k1 + 1) h' → S2.at_ (k2 + 1) h' → IsPair h' s.heap.objs.size x y → h'.objs.size = s.heap.objs.size + 1 →
      (∀ c o, c ≠ zp → c ≠ TO → c ≠ i1 → c ≠ i2 → s.heap.get? c = some o → h'.get? c = some o) → Q (some (.ref s.heap.objs.size)) { s with heap := h' }) :
    wpAny (model prog w) A (pyNext (.ref zp)) Q E s := by
  have wT : s.TypeIs (.ref zp) "zip" := ⟨_, wz, rfl⟩
  unfold pyNext
  exact wpAny_bind (wpAny_attempt (wpAny_callSpecial?_slot (name := Str.ofString "__next__") wT F.slot_zip_next
    (wpAny_call_entry F.slot_zip_next wT F.entry_zip_next
      (zipM_next_item S1 S2 D wz wTI wTO h1 h2 hl1 hl2 hx wy fun h' a1 a2 a3 a4 a5 a6 a7 => wpAny_pure (wQ h' a1 a2 a3 a4 a5 a6 a7)) (F.args_zip_next_1 _))))

theorem pyNext_zipM_end {zp TI TO i1 i2 l1 l2 : Addr} {k1 k2 : Nat} {xs ys : Array Value} {a b : Value} {Q : Option Value → Shared → Prop} (hh : A.handled = none) (S1 : Src prog w i1 l1) (S2 : Src prog w i2 l2) (D : ZipApart zp TI TO i1 i2 l1 l2)
    (wz : IsZip s.heap zp TI TO .none) (wTI : IsPair s.heap TI (.ref i1) (.ref i2)) (wTO : IsPair s.heap TO a b)
    (h1 : S1.at_ k1 s.heap) (h2 : S2.at_ k2 s.heap) (hl1 : S1.sq xs s.heap) (hl2 : S2.sq ys s.heap) (hend : xs[k1]? = none ∨ ys[k2]? = none)
    (wQ : ∀ h', (∀ c o, c ≠ zp → c ≠ TO → c ≠ i1 → c ≠ i2 → s.heap.get? c = some o → h'.get? c = some o) → Q none { s with heap := h' }) : wpAny (model prog w) A (pyNext (.ref zp)) Q E s := by
  have wT : s.TypeIs (.ref zp) "zip" := ⟨_, wz, rfl⟩
  unfold pyNext
  refine wpAny_bind (wpAny_attempt (wpAny_callSpecial?_slot (name := Str.ofString "__next__") wT F.slot_zip_next
    (wpAny_call_entry F.slot_zip_next wT F.entry_zip_next (zipM_next_end hh S1 S2 D wz wTI wTO h1 h2 hl1 hl2 hend fun h' e hk he => ?_) (F.args_zip_next_1 _))))
  obtain ⟨o, ho, hc⟩ := he; refine wpAny_bind (wpAny_isInstance (T := "StopIteration") (b := true) ⟨o, ho, hc⟩ isSubtype_stop ?_)
  exact wpAny_pure (wQ _ hk)

/-- a tuple's items -/
def srcT (prog : Program) (w : World) (it l : Addr) : Src prog w it l where
  at_ := fun k h => h.IsTupleIter it l k
  sq := fun xs h => h.IsTuple l xs
  atE := fun a e n => a.extBut e n
  atK := fun a k => a.at k
  sqE := fun a e n => a.extBut e n
  item := fun a q e k => RZ.nextOf_tuple_item a q e k
  end_ := fun hh a q e k => RZ.nextOf_tuple_end hh a q e k
/-- a list's items -/
def srcL (prog : Program) (w : World) (it l : Addr) : Src prog w it l where
  at_ := fun k h => h.IsListIter it l k
  sq := fun xs h => h.IsList l xs
  atE := fun a e n => a.extBut e n
  atK := fun a k => a.at k
  sqE := fun a e n => a.extBut e n
  item := fun a q e k => wpAny_nextOf_list_item a q e k
  end_ := fun hh a q e k => wpAny_nextOf_list_end hh a q e k
end
def zM1 (h : Heap) (l1 : Addr) : Heap := h.push { cls := .type "tuple_iterator", data := .fields #[.ref l1, .int 0 0] }
def zM2 (h : Heap) (l1 l2 : Addr) : Heap := (zM1 h l1).push { cls := .type "list_iterator", data := .fields #[.ref l2, .int 0 0] }
def zM3 (h : Heap) (l1 l2 : Addr) : Heap := (zM2 h l1 l2).push { cls := .type "tuple", data := .seq #[.ref h.objs.size, .ref (zM1 h l1).objs.size] }
def zM4 (h : Heap) (l1 l2 : Addr) : Heap := (zM3 h l1 l2).push { cls := .type "tuple", data := .seq #[.none, .none] }
def zM5 (h : Heap) (l1 l2 : Addr) : Heap := (zM4 h l1 l2).push { cls := .type "zip", data := .fields #[.none, .bool false, .bool false, .ref (zM2 h l1 l2).objs.size, .ref (zM3 h l1 l2).objs.size] }
theorem meets_zM (l1 l2 : Addr) (xs ys : Array Value) : Meets (Builtin.«zip.__new__» ⟨[.type "zip", .ref l1, .ref l2], []⟩) (fun _ R s => s.heap.IsTuple l1 xs ∧ s.heap.IsList l2 ys ∧ R (.ok (.ret (.ref (zM4 s.heap l1 l2).objs.size))) { s with heap := zM5 s.heap l1 l2 }) :=
  .of_wp fun prog w A R s h => by
    obtain ⟨hp, g, d, tk, os⟩ := s
    obtain ⟨q1, q2, h⟩ := h
    have hsub := sub_zip
    have k1 : Heap.IsTuple (Shared.heap ⟨hp, g, d, tk, os⟩) l1 xs := q1
    have k2 : Heap.IsList (Shared.heap ⟨hp.push { cls := .type "tuple_iterator", data := .fields #[.ref l1, .int 0 0] }, g, d, tk, os⟩) l2 ys := Heap.IsList.push q2 _
    wp_walk using wpAny_pyIter_tuple k1, wpAny_pyIter_list k2
    exact ⟨_, rfl, h⟩
section
variable {prog : Program} {w : World} {A : Around} {E : Value → Shared → Prop} {s : Shared}
theorem call_zM {l1 l2 : Addr} {xs ys : Array Value} {Q : Value → Shared → Prop} (q1 : s.heap.IsTuple l1 xs) (q2 : s.heap.IsList l2 ys)
    (h : ∀ h', IsZip h' (s.heap.objs.size + 4) (s.heap.objs.size + 2) (s.heap.objs.size + 3) .none → IsPair h' (s.heap.objs.size + 2) (.ref s.heap.objs.size) (.ref (s.heap.objs.size + 1)) → IsPair h' (s.heap.objs.size + 3) .none .none → h'.IsTupleIter s.heap.objs.size l1 0 → h'.IsListIter (s.heap.objs.size + 1) l2 0 →
      (∀ c o, s.heap.get? c = some o → h'.get? c = some o) → Q (.ref (s.heap.objs.size + 4)) { s with heap := h' }) : wpAny (model prog w) A (call (.type "zip") [.ref l1, .ref l2]) Q E s := by
  refine callType_new F.called_zip (by decide) (F.typeCall_zip_2 _ _) (F.newCall_zip_2 _ _) (fun obj => F.args_object_init_3 obj _ _) F.entry_zip_new (meets_zM l1 l2 xs ys) ⟨q1, q2, ?_⟩
  have z1 : (zM1 s.heap l1).objs.size = s.heap.objs.size + 1 := Heap.size_push ..
  have z2 : (zM2 s.heap l1 l2).objs.size = s.heap.objs.size + 2 := by unfold zM2; rw [Heap.size_push, z1]
  have z3 : (zM3 s.heap l1 l2).objs.size = s.heap.objs.size + 3 := by unfold zM3; rw [Heap.size_push, z2]
  have z4 : (zM4 s.heap l1 l2).objs.size = s.heap.objs.size + 4 := by unfold zM4; rw [Heap.size_push, z3]
  have p5 : ∀ {c o}, (zM4 s.heap l1 l2).get? c = some o → (zM5 s.heap l1 l2).get? c = some o := fun e => Heap.get?_push_of_some _ e
  have p4 : ∀ {c o}, (zM3 s.heap l1 l2).get? c = some o → (zM4 s.heap l1 l2).get? c = some o := fun e => Heap.get?_push_of_some _ e
  have p3 : ∀ {c o}, (zM2 s.heap l1 l2).get? c = some o → (zM3 s.heap l1 l2).get? c = some o := fun e => Heap.get?_push_of_some _ e
  have p2 : ∀ {c o}, (zM1 s.heap l1).get? c = some o → (zM2 s.heap l1 l2).get? c = some o := fun e => Heap.get?_push_of_some _ e
  have p1 : ∀ {c o}, s.heap.get? c = some o → (zM1 s.heap l1).get? c = some o := fun e => Heap.get?_push_of_some _ e
  have g5 : (zM5 s.heap l1 l2).get? (zM4 s.heap l1 l2).objs.size = some { cls := .type "zip", data := .fields #[.none, .bool false, .bool false, .ref (zM2 s.heap l1 l2).objs.size, .ref (zM3 s.heap l1 l2).objs.size] } := Heap.get?_push_size _ rfl
  have g4 : (zM5 s.heap l1 l2).get? (zM3 s.heap l1 l2).objs.size = some { cls := .type "tuple", data := .seq #[.none, .none] } := p5 (Heap.get?_push_size _ rfl)
  have g3 : (zM5 s.heap l1 l2).get? (zM2 s.heap l1 l2).objs.size = some { cls := .type "tuple", data := .seq #[.ref s.heap.objs.size, .ref (zM1 s.heap l1).objs.size] } := p5 (p4 (Heap.get?_push_size _ rfl))
  have g2 : (zM5 s.heap l1 l2).get? (zM1 s.heap l1).objs.size = some { cls := .type "list_iterator", data := .fields #[.ref l2, .int 0 0] } := p5 (p4 (p3 (Heap.get?_push_size _ rfl)))
  have g1 : (zM5 s.heap l1 l2).get? s.heap.objs.size = some { cls := .type "tuple_iterator", data := .fields #[.ref l1, .int 0 0] } := p5 (p4 (p3 (p2 (Heap.get?_push_size _ rfl))))
  rw [z2, z3, z4] at g5
  rw [z1, z2] at g3
  rw [z3] at g4
  rw [z1] at g2
  have fin : Q (.ref (s.heap.objs.size + 4)) { s with heap := zM5 s.heap l1 l2 } := h _ g5 g3 g4 ⟨_, g1, rfl, rfl⟩ ⟨_, g2, rfl, rfl⟩ fun c o x => p5 (p4 (p3 (p2 (p1 x))))
  show _ ∧ _
  rw [z4]
  exact ⟨⟨_, g5, rfl⟩, fin⟩
end
open L2 RZ
/-- a tuple and a list as they stand at each turn, the items in new pairs -/
def ItzM (K : PySem.W.Frag) (a b : Addr) : It :=
  ⟨fun i H => ∃ (xs ys : List V) (x y : V), SqT K H a xs ∧ SqL K H b ys ∧ xs[i]? = some x ∧ ys[i]? = some y,
    fun i H v H' => ∃ T x y, v = .ref T ∧ H T = none ∧ H' = upd H T (.tup [x, y]) ∧ (∀ xs, SqT K H a xs → xs[i]? = some x) ∧ ∀ ys, SqL K H b ys → ys[i]? = some y,
    fun i H => ∃ xs ys : List V, SqT K H a xs ∧ SqL K H b ys ∧ (xs.length ≤ i ∨ ys.length ≤ i)⟩
theorem turn_zipM {P : Program} {w : World} {K : PySem.W.Frag} {elts : List Expr} {kk : Nat} {tpos : Pos} {a b zp TI TO i1 i2 : Addr} (D : ZipApart zp TI TO i1 i2 a b) :
    Turn P w K (.Tuple elts kk tpos) (ItzM K a b) [zp, TI, TO, i1, i2] zp (fun i h => IsZip h zp TI TO .none ∧ IsPair h TI (.ref i1) (.ref i2) ∧ (∃ x y, IsPair h TO x y) ∧ h.IsTupleIter i1 a i ∧ h.IsListIter i2 b i) where
  mem := by simp
  obj := fun i h st c hc => by
    obtain ⟨wz, wI, ⟨x, y, wO⟩, ⟨o1, e1, _, d1⟩, ⟨o2, e2, _, d2⟩⟩ := st
    have e' : c = zp ∨ c = TI ∨ c = TO ∨ c = i1 ∨ c = i2 := by simpa using hc
    rcases e' with r | r | r | r | r
    · rw [r]; exact ⟨_, wz, fun v r => nomatch r⟩
    · rw [r]; exact ⟨_, wI, fun v r => nomatch r⟩
    · rw [r]; exact ⟨_, wO, fun v r => nomatch r⟩
    · rw [r]; exact ⟨o1, e1, fun v r => by rw [d1] at r; cases r⟩
    · rw [r]; exact ⟨o2, e2, fun v r => by rw [d2] at r; cases r⟩
  keep := fun i h h' st k => by
    obtain ⟨wz, wI, ⟨x, y, wO⟩, h1, h2⟩ := st
    exact ⟨k zp (by simp) _ wz, k TI (by simp) _ wI, ⟨x, y, k TO (by simp) _ wO⟩, h1.at fun o r => k i1 (by simp) o r, h2.at fun o r => k i2 (by simp) o r⟩
  item := by
    intro X hP hw hK hc i pins s σ H E I hf st hg
    subst hP hw hK
    obtain ⟨wz, wI, ⟨x9, y9, wO⟩, h1, h2⟩ := st
    obtain ⟨xs, ys, x, y, wx, wy, hx, hy⟩ := hg
    obtain ⟨its, rv, p, _⟩ := I.tuple wx
    obtain ⟨its2, rv2, p2, _⟩ := I.list wy
    obtain ⟨u, hu, ru⟩ := rv.get hx
    obtain ⟨u2, hu2, ro2⟩ := rv2.get hy
    have wzl : zp < s.heap.objs.size := Heap.lt_size wz
    refine pyNext_zipM_item (srcT X.prog X.w i1 a) (srcL X.prog X.w i2 b) D wz wI wO h1 h2 p p2.isList (x := u) (y := u2) (by simpa using hu) (by simpa using hu2) fun h' zp' TO' h1' h2' hT hsz hk => ?_
    refine ⟨_, rfl, PySem.wpAny_letOwnedTupleGo_zip (s := { s with heap := h' }) zp' fun h'' zp'' sb => ?_⟩
    have hT2 : h''.get? s.heap.objs.size = some { cls := .type "tuple", data := .seq #[u, u2] } := (sb.2 _ (Nat.ne_of_gt wzl)).trans hT
    have new : ObjOk X.prog X.w (upd H s.heap.objs.size (.tup [x, y])) h'' s.heap.objs.size (.tup [x, y]) :=
      ⟨by show 2 ≤ sizeLine; decide, [u, u2], .cons ru (.cons ro2 .nil), ⟨_, hT2, rfl, _, rfl⟩⟩
    have I1 : Inv X pins σ (upd H s.heap.objs.size (.tup [x, y])) { s with heap := h'' } :=
      I.turnedNew (t' := s.toks) (ch := [zp, TI, TO, i1, i2]) (fun c o hb r => (sb.2 c (fun r' => hb (by simp [r']))).trans (hk c o (fun r' => hb (by simp [r'])) (fun r' => hb (by simp [r'])) (fun r' => hb (by simp [r'])) (fun r' => hb (by simp [r'])) r)) hf (Nat.le_refl _) new
    refine ⟨.ref s.heap.objs.size, _, I1, rfl, ⟨_, x, y, rfl, I.hok.fresh (Nat.le_refl _), rfl, fun l hl => by rw [I.tuple_inj hl wx]; exact hx, fun l hl => by rw [I.list_inj hl wy]; exact hy⟩, ⟨zp'', ?_, ⟨u, u2, ?_⟩, ?_, ?_⟩, fun c hcm => ?_⟩
    · exact (sb.2 _ D.TIz).trans (hk _ _ D.TIz D.TITO D.TIi1 D.TIi2 wI)
    · exact (sb.2 _ D.TOz).trans TO'
    · exact Heap.IsTupleIter.at h1' fun o r => (sb.2 _ D.i1z).trans r
    · exact Heap.IsListIter.at h2' fun o r => (sb.2 _ D.i2z).trans r
    · have hlt : c < s.heap.objs.size := by
        have e' : c = zp ∨ c = TI ∨ c = TO ∨ c = i1 ∨ c = i2 := by simpa using hcm
        rcases e' with r | r | r | r | r
        · rw [r]; exact wzl
        · rw [r]; exact Heap.lt_size wI
        · rw [r]; exact Heap.lt_size wO
        · rw [r]; obtain ⟨_, e1, _⟩ := h1; exact Heap.lt_size e1
        · rw [r]; obtain ⟨_, e2, _⟩ := h2; exact Heap.lt_size e2
      rw [upd_ne (Nat.ne_of_lt hlt)]
      exact (hf c hcm).1
  done := by
    intro X hP hw hK hc i pins s σ H E I hf st hg
    subst hP hw hK
    obtain ⟨wz, wI, ⟨x9, y9, wO⟩, h1, h2⟩ := st
    obtain ⟨xs, ys, wx, wy, hend⟩ := hg
    obtain ⟨its, rv, p, _⟩ := I.tuple wx
    obtain ⟨its2, rv2, p2, _⟩ := I.list wy
    have l1 := rv.length
    have l2 := rv2.length
    have he : its.toArray[i]? = none ∨ its2.toArray[i]? = none := by
      rcases hend with r | r
      · exact .inl (by simp; omega)
      · exact .inr (by simp; omega)
    exact pyNext_zipM_end (I.ok.hd hc) (srcT X.prog X.w i1 a) (srcL X.prog X.w i2 b) D wz wI wO h1 h2 p p2.isList he fun h' hk => ⟨rfl, I.turnedL (t' := s.toks) (ch := [zp, TI, TO, i1, i2]) (fun c o hb r =>
      hk c o (fun r' => hb (by simp [r'])) (fun r' => hb (by simp [r'])) (fun r' => hb (by simp [r'])) (fun r' => hb (by simp [r'])) r) hf⟩
  self := fun A i s Q E st h => wpAny_pyIter_zip st.1 h


def iZipM (K : PySem.W.Frag) (ta : TA) : TI := fun σ H R => ta σ H fun vs H1 => ∃ a b xs ys, vs = [.ref a, .ref b] ∧ SqT K H1 a xs ∧ SqL K H1 b ys ∧ R (ItzM K a b) H1
section
variable {X : Cx} {e e2 : Expr} {p pos tpos : Pos} {elts : List Expr} {kk : Nat}
theorem pi_zipM {ta : TA} (hg : Gl X "zip") (hm : X.mg "zip" = none) (ha : PA X [e, e2] ta) (hs : starEach [e, e2] X.env = (false, eval e X.env) :: starEach [e2] X.env) (hpl : (backTo pos (starEach [e2] X.env)).any (·.1) = false) :
    PI X (.Tuple elts kk tpos) (.Call (.Name "zip" p) [e, e2] [] pos) (iZipM X.K ta) := by
  refine ⟨fun pins s σ H R I h => ?_⟩
  refine Call_ (ld_blt I hg hm PyProof.Rows.boot_zip (PyProof.Rows.callWith_type1 (thn (ha.run pos pins s σ H _ I h) fun us s1 ⟨vs, H1, I1, r1, a, b, xs, ys, ex, wx, wy, q⟩ => ?_) hs hpl))
  subst ex
  cases r1 with
  | cons r rr =>
    cases rr with
    | cons r' rr =>
      cases rr
      cases r
      cases r'
      obtain ⟨its, rv, p1, _⟩ := I1.tuple wx
      obtain ⟨its2, rv2, p2, _⟩ := I1.list wy
      obtain ⟨o1, ho1, _⟩ := id p1
      refine call_zM (show s1.heap.IsTuple a its.toArray from p1) p2.isList fun h' wz wI wO h1 h2 hk => PySem.wpAny_pyIter_zip wz ?_
      have I2 : Inv X pins σ H1 { s1 with heap := h' } := I1.kept (t' := s1.toks) hk
      refine ⟨s1.heap.objs.size + 4, [s1.heap.objs.size + 4, s1.heap.objs.size + 2, s1.heap.objs.size + 3, s1.heap.objs.size, s1.heap.objs.size + 1], _, _, H1, rfl, I2, turn_zipM (PySem.W.ktu_apart s1.heap.objs.size a b (Heap.lt_size ho1) p2.lt), ⟨wz, wI, ⟨_, _, wO⟩, h1, h2⟩, fun c hcm => ?_, q⟩
      have hle : s1.heap.objs.size ≤ c := by
        have e' : c = s1.heap.objs.size + 4 ∨ c = s1.heap.objs.size + 2 ∨ c = s1.heap.objs.size + 3 ∨ c = s1.heap.objs.size ∨ c = s1.heap.objs.size + 1 := by simpa using hcm
        have : s1.heap.objs.size + 0 ≤ c := by rcases e' with rfl | rfl | rfl | rfl | rfl <;> omega
        exact this
      exact I1.fpOk hle (I1.hok.fresh hle)
variable {P : Par} {W : WX}
theorem goes_zipM {a b : Addr} {xs ys : List IV} {vs us : List V} {φ : List Addr} {H : Hp} (st : ∀ φ' H', Ext φ H φ' H' → SqT X.K H' a vs ∧ SqL X.K H' b us) (r : VRs P φ H xs vs) (r2 : VRs P φ H ys us) : Goes P (ItzM X.K a b) (zipV xs ys) φ H := by
  refine ⟨fun φ' H' e => ⟨vs, us, (st _ _ e).1, (st _ _ e).2, by rw [r.length, r2.length, zipV_length]; omega⟩, fun i φ' H' hi e => ?_, fun i φ' H' x H2 e y v hv => ?_⟩
  · rw [zipV_length] at hi
    have h1 : i < vs.length := by rw [r.length]; omega
    have h2 : i < us.length := by rw [r2.length]; omega
    exact ⟨vs, us, vs[i], us[i], (st _ _ e).1, (st _ _ e).2, by simp [h1], by simp [h2]⟩
  · obtain ⟨T, x1, y1, rfl, hT, rfl, q1, q2⟩ := y
    obtain ⟨x0, y0, e1, e2, rfl⟩ := zipV_get hv
    obtain ⟨u1, k1, r1⟩ := r.get e1
    obtain ⟨u2, k2, r3⟩ := r2.get e2
    have z1 := q1 vs (st _ _ e).1
    have z2 := q2 us (st _ _ e).2
    rw [z1] at k1; cases k1
    rw [z2] at k2; cases k2
    have ex := Ext.new (φ := φ') (o := .tup [x1, y1]) hT
    refine ⟨ex, fun R h s => s.untold hT, fun l k => ?_⟩
    rw [VR]
    have e' := e.trans ex
    exact ⟨T, [x1, y1], rfl, .of upd_same, VRs.cons (VR.mono e' _ _ (VR.avI k _ _ r1)) (VRs.cons (VR.mono e' _ _ (VR.avI k _ _ r3)) VRs.nil)⟩
/-- zip of two lists, two tuples, of a tuple and a list -/
def zipAll (fs : IE → M (List IV)) : IE → M (List IV) := fun σ h => (fs σ h).bind fun vs h => match vs with
  | [.tup xs, .lst ys] => .ok (zipV xs ys) h
  | _ => zipIt (fun _ h => .ok vs h) σ h
theorem pi_zipAll {fs : IE → M (List IV)} (hK : X.K = P.K) (hg : Gl X "zip") (hm : X.mg "zip" = none) (ha : PA X [e, e2] (tAr P W fs)) (hs : starEach [e, e2] X.env = (false, eval e X.env) :: starEach [e2] X.env) (hpl : (backTo pos (starEach [e2] X.env)).any (·.1) = false) :
    PI X (.Tuple elts kk tpos) (.Call (.Name "zip" p) [e, e2] [] pos) (tI P W (zipAll fs)) := by
  refine ⟨fun pins s σ H R I hq => ?_⟩
  have hq0 := hq
  obtain ⟨φ, h, σi, sr, se, pp⟩ := hq
  unfold zipAll at pp
  cases e1 : fs σi h with
  | no => simp only [e1, Out.bind] at pp; exact pp.elim
  | ex v h1 =>
    refine (pi_zipI hK hg hm ha hs hpl).run pins s σ H R I ⟨φ, h, σi, sr, se, ?_⟩
    unfold zipIt
    simp only [e1, Out.bind] at pp ⊢; exact pp
  | ok vs h1 =>
    simp only [e1, Out.bind] at pp
    split at pp
    · rename_i xs ys
      refine (PI.weak (pi_zipM (tpos := tpos) (elts := elts) (kk := kk) hg hm ha hs hpl) fun σ' H' R' (z : tI P W (zipAll fs) σ' H' R' ∧ σ' = σ ∧ H' = H ∧ R' = R) => ?_).run pins s σ H R I ⟨hq0, rfl, rfl, rfl⟩
      obtain ⟨_, rfl, rfl, rfl⟩ := z
      refine ⟨φ, h, σi, sr, se, ?_⟩
      rw [e1]
      intro φ2 H2 us ex s2 r
      obtain ⟨v, u, rfl, r1, r2⟩ := r.two
      obtain ⟨a, ws, rfl, q1, q2⟩ := r1.tupI
      obtain ⟨b, ws2, rfl, q3, q4⟩ := VR.stands hK (.inl rfl) r2
      refine ⟨a, b, ws, ws2, rfl, by rw [hK]; exact q1, q3 _ _ (Ext.refl _ _), ?_⟩
      exact pp _ _ _ ex s2 (goes_zipM (fun φ3 H3 e3 => ⟨by rw [hK]; exact e3.seqT q1, q3 _ _ e3⟩) q2 q4)
    · refine (pi_zipI hK hg hm ha hs hpl).run pins s σ H R I ⟨φ, h, σi, sr, se, ?_⟩
      unfold zipIt at pp ⊢
      simp only [e1, Out.bind] at pp ⊢
      exact pp
end
end EV
namespace EV
open PySem PySem.Spec PyProof.Rows L2 L2X RZ
section
variable {prog : Program} {w : World} {A : Around} {E : Value → Shared → Prop} {s : Shared}
end
section
variable {X : Cx} {P : Par} {W : WX} {e lo st : Expr} {p3 pos : Pos}
end
end EV
namespace EV
open PySem PySem.Spec PyProof.Rows L2 RZ
inductive StrsAre : List Value → List Str → Prop
  | nil : StrsAre [] []
  | cons (k : Str) (t : Tok) {us ns} : StrsAre us ns → StrsAre (.str k t :: us) (k :: ns)
theorem StrsAre.length : ∀ {us : List Value} {ns : List Str}, StrsAre us ns → us.length = ns.length
  | _, _, .nil => rfl
  | _, _, .cons _ _ h => by rw [List.length_cons, List.length_cons, h.length]
theorem StrsAre.at : ∀ {us : List Value} {ns : List Str}, StrsAre us ns → ∀ (i : Nat) (v : Value) {hi : i < ns.length}, us[i]? = some v → ∃ t, v = .str ns[i] t
  | _, _, .nil, i, v, _, e => by simp at e
  | _, _, .cons k t h, 0, v, _, e => by simp at e; exact ⟨t, e.symm⟩
  | _, _, .cons k t h, i + 1, v, hi, e => by
    have := h.at i v (hi := by simpa using hi) (by simpa using e)
    simpa using this
def txOf (e : Int × Value) : Str := match e.2 with | .str k _ => k | _ => Str.empty
def GoodS (w : World) (e : Int × Value) : Prop := ∃ k tq, e.2 = Value.str k tq ∧ e.1 = hashStr w k

/-- the set of texts at a: S its members, n their number; its table rises and can be walked -/
def SetS (w : World) (h : Heap) (a : Addr) (S : Str → Bool) (n : Nat) : Prop :=
  ∃ o ee qp t, h.get? a = some o ∧ o.ExactSet ∧ o.data = .set ee qp t ∧ (∀ e ∈ ee.toList, GoodS w e) ∧ (ee.toList.map txOf).Nodup ∧ (∀ k, S k = true ↔ k ∈ ee.toList.map txOf) ∧
    ee.size < scanBound ∧ t.fits ee.size = true ∧ ee.size = n ∧ Ris t.place.toList ∧ (w.params.followText "set-order" = true ∨ t.led = true)

section
variable {P : Program} {w : World} {h h' : Heap} {a : Addr} {S : Str → Bool} {n : Nat}

theorem SetS.at (R : SetS w h a S n) (k : ∀ o, h.get? a = some o → h'.get? a = some o) : SetS w h' a S n := by
  obtain ⟨o, ee, qp, t, oh, r⟩ := R
  exact ⟨o, ee, qp, t, k o oh, r⟩
theorem SetS.lt (R : SetS w h a S n) : a < h.objs.size := by
  obtain ⟨o, ee, qp, t, oh, r⟩ := R
  exact Heap.lt_size oh
theorem SetS.congr {S' : Str → Bool} (R : SetS w h a S n) (e : ∀ k, S' k = S k) : SetS w h a S' n := by
  have q : S' = S := funext e
  rw [q]; exact R
end

section
variable {P : Program} {w : World} {A : Around} {Ex : Value → Shared → Prop} {s : Shared} {a : Addr} {S : Str → Bool} {n : Nat}

end
section
variable {P : Program} {w : World} {A : Around} {Ex : Value → Shared → Prop} {s : Shared}
end
end EV
namespace EV
open PySem PySem.Spec PyProof.Rows L2 RZ
section
variable {X : Cx} {P : Par} {W : WX}
theorem StrsAre.map {es : List (Int × Value)} : ∀ {vs : List Value} {ks : List Str}, StrsAre vs ks → vs.map (fun v => txOf (0, v)) = ks
  | _, _, .nil => rfl
  | _, _, .cons k t h => by rw [List.map_cons, StrsAre.map (es := es) h]; rfl
end
end EV
namespace EV
open PySem PySem.Spec PyProof.Rows L2 RZ
section
variable {X : Cx} {P : Par} {W : WX}
end
end EV
namespace EV
open PySem PySem.Spec PyProof.Rows L2 L2X RZ
/-- pairs apart -/
def prsO : List IV → Option (List IV × List IV)
  | [] => some ([], [])
  | .tup [k, v] :: r => match prsO r with
    | some (ks, us) => some (k :: ks, v :: us)
    | none => none
  | _ => none
section
variable {X : Cx} {P : Par} {W : WX}
/-- keys and values, told of the entries by their keys -/
def PrR (P : Par) (φ : List Addr) (H : Hp) : List IV → List IV → XsH → Prop
  | [], [], [] => True
  | k :: ks, u :: us, x :: xs => (keyOf k = some x.1 ∧ VR P φ H k (V.ref x.2.1) ∧ ∃ v, VR P φ H u v ∧ L2.RelV v x.2.2) ∧ PrR P φ H ks us xs
  | _, _, _ => False
theorem prs_link {φ : List Addr} {H : Hp} {pins : List (Addr × Obj)} {σ : L2.St} {s : Shared} (I : Inv X pins σ H s) (hK : X.K = P.K) : ∀ {ys : List IV} {vs : List V} {its : List Value} {ks us : List IV}, prsO ys = some (ks, us) → allKT ks = true → VRs P φ H ys vs → Vals vs its →
    ∃ ps : XsH, PrR P φ H ks us ps ∧ ps.length = its.length ∧ (∀ (j : Nat) (x : NestedKey × Addr × Value), ps[j]? = some x → ∃ b : Addr, its[j]? = some (Value.ref b) ∧ IsTup s.heap b #[Value.ref x.2.1, x.2.2]) ∧ ∀ x ∈ ps, (NK X).is s.heap x.1 x.2.1
  | [], vs, its, ks, us, e, kt, r, rv => by
    simp only [prsO] at e
    cases e
    rw [VRs] at r
    subst r
    cases rv
    exact ⟨[], trivial, rfl, fun j x e => by simp at e, fun x hx => by cases hx⟩
  | y :: ys, vs, its, ks, us, e, kt, r, rv => by
    unfold prsO at e
    split at e
    · rename_i z
      cases z
    · rename_i k w rest z
      cases z
      split at e
      · rename_i ks' us' e'
        cases e
        rw [VRs] at r
        obtain ⟨v1, vs', rfl, r1, r2⟩ := r
        cases rv with
        | cons c rv =>
          rename_i u1 its'
          obtain ⟨k1, k2⟩ := (Bool.and_eq_true_iff.mp (show (isKT k && allKT ks') = true from kt))
          obtain ⟨ps, h1, h2, h3, h4⟩ := prs_link I hK e' k2 r2 rv
          obtain ⟨b, pv, rfl, hb, rb⟩ := r1.tupI
          cases (show u1 = Value.ref b from c)
          obtain ⟨tits, tv, tp, _⟩ := I.tuple (show SqT X.K H b pv by rw [hK]; exact hb)
          rw [VRs] at rb
          obtain ⟨kv, rb1, rfl, rk, rb⟩ := rb
          rw [VRs] at rb
          obtain ⟨wv, rb2, rfl, rw1, rb⟩ := rb
          rw [VRs] at rb
          subst rb
          obtain ⟨ku, wu, rfl, c1, c2⟩ := vals2 tv
          obtain ⟨a, q, rfl, rfl, hq, hi⟩ := key_is I hK k1 rk c1
          refine ⟨(q, a, wu) :: ps, ⟨⟨hq, rk, wv, rw1, c2⟩, h1⟩, by simp [h2], fun j x ej => ?_, fun x hx => ?_⟩
          · cases j with
            | zero =>
              cases (show (q, a, wu) = x from Option.some.inj ej)
              exact ⟨b, rfl, tp⟩
            | succ j => exact h3 j x (by simpa using ej)
          · rcases List.mem_cons.mp hx with rfl | hx
            · exact hi
            · exact h4 x hx
      · cases e
    · cases e
theorem keys_nodup {ks : List IV} {es : List Int} (k : KeysOk P.w ks es) {nks : List NestedKey} (e : keysOf ks = some nks) : nks.Nodup := by
  obtain ⟨n, w1, w2, _⟩ := k.ex
  rw [e] at w1; cases w1
  exact w2
theorem mergeT_ok {φ : List Addr} {H : Hp} (hw : X.w = P.w) : ∀ {ps : XsH} {ks2 us2 : List IV} {xs : XsH} {es : Raw} {ks us : List IV}, PrR P φ H ks2 us2 ps →
    Paired (EnR X.w) es (convH xs) → keysOf ks = some ((convH xs).map (·.1)) → VRs P φ H ks (es.map (·.2.1)) → VRs P φ H us (es.map (·.2.2)) → ((convH xs).map (·.1)).Nodup → KeysOk P.w ks (es.map (·.1)) →
    ∃ es', Paired (EnR X.w) es' (convH (storedAllH xs ps)) ∧ VRs P φ H (dmerge ks us ks2 us2).1 (es'.map (·.2.1)) ∧ VRs P φ H (dmerge ks us ks2 us2).2 (es'.map (·.2.2)) ∧ KeysOk P.w (dmerge ks us ks2 us2).1 (es'.map (·.1)) ∧ es'.length ≤ es.length + ps.length
  | [], [], [], xs, es, ks, us, _, t, e, r, u, nd, ko => ⟨es, t, by unfold dmerge; exact r, by unfold dmerge; exact u, by unfold dmerge; exact ko, by simp⟩
  | x :: ps, k :: ks2, w :: us2, xs, es, ks, us, h, t, e, r, u, nd, ko => by
    obtain ⟨⟨h1, h2, v, h3, h4⟩, h5⟩ := h
    obtain ⟨es', p1, p2, p3, p4, p5, p6⟩ := put_ok h2 h1 hw h3 h4 t e r u nd
    rw [storedG_H] at p1 p6
    have nd' := keys_nodup p4 p6
    obtain ⟨es'', q1, q2, q3, q4, q5⟩ := mergeT_ok hw (ps := ps) h5 p1 p6 p2 p3 nd' p4
    exact ⟨es'', q1, by unfold dmerge; exact q2, by unfold dmerge; exact q3, by unfold dmerge; exact q4, by rw [List.length_cons]; omega⟩
  | [], [], _ :: _, _, _, _, _, h, _, _, _, _, _, _ => (by simp [PrR] at h)
  | [], _ :: _, _, _, _, _, _, h, _, _, _, _, _, _ => (by simp [PrR] at h)
  | _ :: _, [], _, _, _, _, _, h, _, _, _, _, _, _ => (by simp [PrR] at h)
  | _ :: _, _ :: _, [], _, _, _, _, h, _, _, _, _, _, _ => (by simp [PrR] at h)
end
end EV
namespace EV
open PySem PySem.Spec PyProof.Rows L2 RZ
section
variable {X : Cx} {P : Par} {W : WX}
end
end EV
namespace EV
open PySem PySem.Spec PyProof.Rows L2
section
variable {P : Par} {W : WX} {φ φ' : List Addr} {H H' : Hp} {h h' : IH}
end
section
variable {X : Cx} {P : Par} {W : WX} {a : Expr} {es : List Expr} {x : Str} {k np : Nat} {c : CM} {fs : IE → M (List IV)} {av : List Addr} {p0 pos : Pos}
end
end EV
namespace EV
open PySem PySem.Spec PyProof.Rows L2 RZ
section
variable {X : Cx} {P : Par} {W : WX} {pos : Pos}
theorem PostIC.thn {D : Ends} {σi : IE} {σ : L2.St} {φ : List Addr} {H : Hp} {o : Out (List IV × (IH → Bool))} {k : List IV × (IH → Bool) → IH → SOut} (se : SE P φ H σi σ) (p : PostS P W φ H D (o.thn σi k)) :
    PostIC P W σ φ H (fun J H1 => ∃ φ1 h1 xs, SR P φ1 H1 h1 ∧ SE P φ1 H1 σi σ ∧ GoesC P J xs.1 xs.2 φ1 H1 ∧ PostS P W φ1 H1 D (k xs h1)) o := by
  cases o with
  | ok v h => exact fun φ' H' J e s g => ⟨φ', h, v, s, se.mono e, g, PostS.ext p e⟩
  | ex x h => exact fun φ' H' c d e s r => p φ' H' σ c d e s (se.mono e) r
  | no => exact p
theorem PostIC.mono {σ : L2.St} {φ : List Addr} {H : Hp} {R R' : It → Hp → Prop} {o : Out (List IV × (IH → Bool))} (p : PostIC P W σ φ H R o) (k : ∀ J H, R J H → R' J H) : PostIC P W σ φ H R' o := by
  cases o with
  | ok v h => exact fun φ' H' J e s g => k _ _ (p φ' H' J e s g)
  | ex x h => exact p
  | no => exact p
end
end EV
namespace PySem
open Sem (wp)
end PySem
namespace EV
open PySem PySem.Spec PyProof.Rows L2 RZ
end EV
namespace EV
open PySem PySem.Spec PyProof.Rows L2 RZ
def dropE (fa : IE → M IV) : IE → M IV := fun σ h => settle true h.length (fa σ h)
theorem pe_dropI {X : Cx} {P : Par} {W : WX} {a : Expr} {fa : IE → M IV} (ha : PE X a (tE P W fa)) : PE X a (tE P W (dropE fa)) := PE.weak ha fun σ H Q hq => by
  obtain ⟨φ, h, σi, s, se, p⟩ := hq
  exact ⟨φ, h, σi, s, se, settle_ok s p⟩
end EV
namespace EV
open PySem PySem.Spec PyProof.Rows L2
section
variable {X : Cx} {P : Par} {W : WX}
end
end EV
namespace EV
open PySem PySem.Spec PyProof.Rows L2
section
variable {X : Cx} {P : Par} {W : WX}
end
end EV
namespace EV
open PySem PySem.Spec PyProof.Rows L2
section
variable {X : Cx} {P : Par} {W : WX}
end
end EV
namespace EV
open PySem PySem.Spec PyProof.Rows L2
def addRI : G2 := fun x y h => match lsO h x, lsO h y with
  | some xs, some ys => if xs.length + ys.length ≤ sizeLine then .ok (.ref h.length) (h ++ [.lst (xs ++ ys)]) else .no
  | _, _ => .no
theorem op_addRI {X : Cx} {P : Par} {W : WX} (hK : X.K = P.K) : OpR X (binaryOp .Add) (rG P W addRI) := by
  refine OpR.weak (op_cat (X := X)) fun x y H Q q => ?_
  obtain ⟨φ, h, σ, va, vb, s, ra, rb, p⟩ := q
  unfold addRI at p
  split at p
  · rename_i xs ys e1 e2
    split at p
    · rename_i z
      obtain ⟨a, vs, rfl, h1, r1⟩ := s.lsO ra e1
      obtain ⟨b, us, rfl, h2, r2⟩ := s.lsO rb e2
      exact ⟨a, b, vs, us, rfl, rfl, h1, h2, by rw [r1.length, r2.length]; exact z, fun t ht => p.newRef s (r1.append r2) ht⟩
    · exact p.elim
  · exact p.elim
end EV
namespace EV
open PySem PySem.Spec PyProof.Rows L2 RZ
def fgtI : Option IV → Option IV
  | some v => if pureV v = true then some v else none
  | none => none
def dropS (f : SM) : SM := fun σ h => match f σ h with
  | .nx σ' h' => if pureH (h'.take h.length) = true then .nx (σ'.map fgtI) (h'.take h.length) else .nx σ' h'
  | o => o
theorem SE.fgtI {P : Par} {φ φ' : List Addr} {H : Hp} {σi : IE} {σ : L2.St} (s : SE P φ' H σi σ) (hs : ∀ c ∈ φ, c ∈ φ') : SE P φ H (σi.map EV.fgtI) σ := by
  refine ⟨by rw [List.length_map]; exact s.len, fun i x e => ?_⟩
  rw [List.getElem?_map] at e
  cases g : σi[i]? with
  | none => rw [g] at e; cases e
  | some o =>
    rw [g] at e
    cases o with
    | none => cases e
    | some v =>
      by_cases pv : pureV v = true
      · have e2 : (some (if pureV v = true then some v else none) : Option (Option IV)) = some (some x) := e
        rw [if_pos pv] at e2
        have : v = x := by injection e2 with e3; injection e3
        subst this
        obtain ⟨w, h1, h2⟩ := s.val i v g
        exact ⟨w, h1, VR.sub hs v w pv h2⟩
      · have e2 : (some (if pureV v = true then some v else none) : Option (Option IV)) = some (some x) := e
        rw [if_neg pv] at e2
        cases e2
theorem drop_ok {P : Par} {W : WX} {φ : List Addr} {H : Hp} {D : Ends} {f : SM} {σi : IE} {h : IH} (s : SR P φ H h) (p : PostS P W φ H D (dropS f σi h)) : PostS P W φ H D (f σi h) := by
  have hlen := s.len
  unfold dropS at p
  cases e : f σi h with
  | nx σ' h' =>
    rw [e] at p
    intro φ' H' σ2 ex s' se'
    simp only at p
    split at p
    · rename_i z
      rw [← hlen] at z p
      exact p φ H' σ2 ex.back (SR.back ex s' z s.nd) (se'.fgtI ex.sub)
    · exact p φ' H' σ2 ex s' se'
  | rt v h' => rw [e] at p; exact p
  | bk σ' h' => rw [e] at p; exact p
  | ct σ' h' => rw [e] at p; exact p
  | ex x σ' h' => rw [e] at p; exact p
  | no => rw [e] at p; exact p
theorem pss_dropI {X : Cx} {P : Par} {W : WX} {b : List Stmt} {f : SM} (hb : PSs X b (tS P W f)) : PSs X b (tS P W (dropS f)) := PSs.weak hb fun D σ H hq => by
  obtain ⟨φ, h, σi, s, se, p⟩ := hq
  exact ⟨φ, h, σi, s, se, drop_ok s p⟩
end EV
namespace EV
open PySem PySem.Spec PyProof.Rows L2 L2X

section
variable {X : Cx} {pins : List (Addr × Obj)} {σ : L2.St} {H : Hp} {s : Shared}
end
section
variable {X : Cx} {P : Par} {W : WX}
/-- a generator expression's scope -/
structure GnOk (scope : Scope) : Prop where
  co : scope.isCoroutine = false
  cell : ∀ y ∈ scope.names, y.2 ≠ .cell
  dot : scope.names.lookup (".0" : Str) = some NameKind.local
end
end EV
namespace EV
open PySem PySem.Spec PyProof.Rows L2

section
variable {X : Cx} {P : Par} {W : WX}
end

section
variable {prog : Program} {w : World} {A : Around} {R : Result → Shared → Prop} {I : Addr} {fp wr : List Addr} {n : Nat} {P : Nat → Value → Prop} {St : Nat → Heap → Prop}
end
section
variable {prog : Program} {w : World} {A : Around} {E : Value → Shared → Prop} {s : Shared}
end
section
variable {X : Cx} {P : Par} {W : WX}
end

structure FnK (Pr : Program) (w : World) (K : PySem.W.Frag) (mg : Str → Option Value) (base : Heap) (P : Par) (x : Str) (k n : Nat) (ks : List Str) (c : CM) : Prop where
  ex : ∃ (fA : Addr) (fd : FuncData) (ps : List Str), FnG Pr w K mg base (L2.CX Pr w) k fA fd ps (spI P (n + ks.length) c) ∧ mg x = some (.ref fA) ∧ PySem.W.keepIn K (.ref fA) = true ∧
    ∀ (s : Shared) (us ws : List Value), us.length = n → ws.length = ks.length → BindsTo s fd ⟨us, ks.zip ws⟩ (ps.zip (us ++ ws))
theorem FnK.mono {Pr : Program} {w : World} {K : PySem.W.Frag} {mg : Str → Option Value} {base : Heap} {P : Par} {x : Str} {j k n : Nat} {ks : List Str} {c : CM} (F : FnK Pr w K mg base P x j n ks c) (h : j ≤ k) : FnK Pr w K mg base P x k n ks c := by
  obtain ⟨fA, fd, ps, F1, r⟩ := F.ex
  exact ⟨fA, fd, ps, F1.mono h, r⟩
theorem FnK.all {Pr : Program} {w : World} {K : PySem.W.Frag} {mg : Str → Option Value} {base : Heap} {P : Par} {x qual : Str} {k n : Nat} {ks ps : List Str} {c : CM} {fA : Addr} {fd : FuncData} {params : Arguments} {body : List Stmt} {scope : Scope} {kws : List (Str × V)}
    (F : FunD K x qual params body scope [] kws fA fd) (hm : mg x = some (.ref fA)) (G : FnG Pr w K mg base (L2.CX Pr w) k fA fd ps (spI P (n + ks.length) c))
    (h : ∀ (kV doc pm : Value) (an : Option Addr) (cdv ct : Value) (us ws : List Value), us.length = n → ws.length = ks.length → bindArgs (PySem.W.fnOf x qual params body scope .none kV doc pm an cdv ct) ⟨us, ks.zip ws⟩ = pure (ps.zip (us ++ ws))) : FnK Pr w K mg base P x k n ks c := by
  have kp := F.kp
  obtain ⟨oc, od, dV, kV, doc, pm, an, cdv, ct, osl, rfl, lk, hcd, hD, hK⟩ := F.ex
  rcases hD with ⟨_, rfl⟩ | ⟨e, _⟩
  · exact ⟨fA, _, ps, G, hm, kp, fun s us ws l1 l2 => .of_eq (h kV doc pm an cdv ct us ws l1 l2)⟩
  · exact absurd rfl e
section
variable {X : Cx} {P : Par} {W : WX} {a : Expr} {es : List Expr} {kws : List Keyword} {fs gs : IE → M (List IV)} {pos p0 : Pos} {x : Str} {av : List Addr} {k n : Nat} {ks : List Str} {c : CM}
end
end EV
namespace EV
open PySem PySem.Spec PyProof.Rows L2

theorem Un.off {fs : List Addr} {H H' : Hp} {h0 g h' : Heap} (u : Un fs [] H H' h0 g) (k : ∀ b o, b < h0.objs.size → g.get? b = some o → h'.get? b = some o) : Un fs [] H H' h0 h' :=
  ⟨fun b o e n hb hx => k b o (Heap.lt_size e) (u.keep b o e n hb hx), fun b o e n hb hx => let ⟨sl, q⟩ := u.slot b o e n hb hx; ⟨sl, k b _ (Heap.lt_size e) q⟩, u.free, fun b o e hx => let ⟨o', q⟩ := u.there b o e hx; ⟨o', k b o' (Heap.lt_size e) q⟩, u.tups, u.frzs, u.tbls⟩
section
variable {X : Cx} {P : Par} {pins : List (Addr × Obj)} {σ : L2.St} {H : Hp} {s : Shared} {av : List Addr}
end

section
variable {X : Cx} {P : Par} {W : WX} {av : List Addr}
end
end EV
namespace EV
open PySem PySem.Spec PyProof.Rows L2

section
variable {P : Par} {φ : List Addr} {H : Hp} {D : Addr} {av : List Addr}
theorem Off.tk {a : Addr} (o : Off (P.at (D :: av)) φ a) : Off (P.at av) (φ ++ [D]) a := by
  have h1 : a ∉ φ := o.1
  have h2 : a ∉ D :: av := o.2
  refine ⟨fun m => ?_, fun m => h2 (List.mem_cons_of_mem _ m)⟩
  rcases List.mem_append.mp m with m | m
  · exact h1 m
  · exact h2 (by rw [List.mem_singleton.mp m]; exact List.mem_cons_self)
mutual
/-- what was under way is told -/
theorem VR.tk : ∀ (x : IV) (v : V), VR (P.at (D :: av)) φ H x v → VR (P.at av) (φ ++ [D]) H x v
  | .non, _, h | .bl _, _, h | .int _, _, h | .str _, _, h | .ty _, _, h | .glo _, _, h => by simpa only [VR, Par.at] using h
  | .ref n, _, h => by
    rw [VR] at h ⊢
    obtain ⟨a, e, rfl⟩ := h
    exact ⟨a, by rw [List.getElem?_append_left (List.getElem?_eq_some_iff.mp e).1]; exact e, rfl⟩
  | .tup xs, _, h => by
    rw [VR] at h ⊢
    obtain ⟨a, vs, h1, h2, h3⟩ := h
    exact ⟨a, vs, h1, h2, VRs.tk xs vs h3⟩
  | .lst xs, _, h => by
    rw [VR] at h ⊢
    obtain ⟨a, vs, h1, h2, h3, h4⟩ := h
    exact ⟨a, vs, h1, h2, Off.tk h3, VRs.tk xs vs h4⟩
  | .scr xs, _, h => by
    rw [VR] at h ⊢
    obtain ⟨a, vs, h1, h2, h3⟩ := h
    exact ⟨a, vs, h1, h2, VRs.tk xs vs h3⟩
  | .dct ks us, _, h => by
    rw [VR] at h ⊢
    obtain ⟨a, o, es, h1, h2, h3, h4, h5, h6⟩ := h
    exact ⟨a, o, es, h1, h2, Off.tk h3, VRs.tk ks _ h4, VRs.tk us _ h5, h6⟩
  | .exc a dd ns xs, _, h => by
    rw [VR] at h ⊢
    obtain ⟨h1, h | ⟨vs, h2, h3, h4⟩⟩ := h
    · exact ⟨h1, .inl h⟩
    · exact ⟨h1, .inr ⟨vs, h2, Off.tk h3, VRs.tk xs vs h4⟩⟩
  | .fn a c q ix xs σ, _, h => by
    rw [VR] at h ⊢
    obtain ⟨h1, h2, h3, vs, h4, h5⟩ := h
    exact ⟨h1, h2, Off.tk h3, vs, h4, VRs.tk xs vs h5⟩
theorem VRs.tk : ∀ (xs : List IV) (vs : List V), VRs (P.at (D :: av)) φ H xs vs → VRs (P.at av) (φ ++ [D]) H xs vs
  | [], _, h => by rw [VRs] at h ⊢; exact h
  | x :: xs, _, h => by
    rw [VRs] at h ⊢
    obtain ⟨v, r, h1, h2, h3⟩ := h
    exact ⟨v, r, h1, VR.tk x v h2, VRs.tk xs r h3⟩
end
theorem OR.tk {a : Addr} : ∀ {o : IO}, OR (P.at (D :: av)) φ H a o → OR (P.at av) (φ ++ [D]) H a o
  | .lst xs, ⟨vs, h1, h2⟩ => ⟨vs, h1, VRs.tk xs vs h2⟩
  | .dct ks us, ⟨o, es, h1, h2, h3, h4⟩ => ⟨o, es, h1, VRs.tk ks _ h2, VRs.tk us _ h3, h4⟩
  | .ins c vs, ⟨dx, ws, h1, h2, n, ⟨o, ho⟩, h3⟩ => ⟨dx, ws, h1, Off.tk h2, n, ⟨o, ho⟩, fun i x e => let ⟨v, e1, r1⟩ := h3 i x e; ⟨v, e1, VR.tk x v r1⟩⟩
  | .lck ks us, ⟨od, o, es, h1, h2, h3, h4⟩ => ⟨od, o, es, h1, VRs.tk ks _ h2, VRs.tk us _ h3, h4⟩
  | .ktp xs, ⟨o, vs, h1, h2, h3, h4⟩ => ⟨o, vs, h1, h2, h3, VRs.tk xs _ h4⟩
theorem SR.tk {h : IH} {acc : List IV} {accV : List V} (nD : D ∉ av) (s : SR (P.at (D :: av)) φ H h) (hD : H D = some (.lst accV)) (r : VRs (P.at (D :: av)) φ H acc accV) : SR (P.at av) (φ ++ [D]) H (h ++ [.lst acc]) := by
  have fD : D ∉ φ := (s.av D List.mem_cons_self).1
  refine ⟨by rw [List.length_append, List.length_append, s.len]; rfl, List.nodup_append.mpr ⟨s.nd, List.nodup_cons.mpr ⟨by simp, List.nodup_nil⟩, fun a m b m2 e => fD (by rw [← List.mem_singleton.mp m2, ← e]; exact m)⟩, fun c m => ?_, fun n o a e1 e2 => ?_, fun p hp => (s.tab p hp).stay fun b o e n _ => ⟨e, Off.tk n⟩, s.tbo⟩
  · obtain ⟨k1, k2⟩ := s.av c (List.mem_cons_of_mem _ m)
    refine ⟨fun z => ?_, k2⟩
    rcases List.mem_append.mp z with z | z
    · exact k1 z
    · exact nD (by rw [← List.mem_singleton.mp z]; exact m)
  · by_cases hn : n < h.length
    · rw [List.getElem?_append_left hn] at e1
      rw [List.getElem?_append_left (by rw [s.len]; exact hn)] at e2
      exact OR.tk (s.obj n o a e1 e2)
    · have hl : n < (h ++ [IO.lst acc]).length := (List.getElem?_eq_some_iff.mp e1).1
      rw [List.length_append, List.length_singleton] at hl
      have en : n = h.length := by omega
      subst en
      rw [List.getElem?_append_right (Nat.le_refl _), Nat.sub_self] at e1
      rw [← s.len, List.getElem?_append_right (Nat.le_refl _), Nat.sub_self] at e2
      cases e1
      cases e2
      exact ⟨accV, hD, VRs.tk acc accV r⟩
end
section
variable {X : Cx} {P : Par} {W : WX}
variable {elt tg iter : Expr} {ifs : List Expr} {scope : Scope} {pos : Pos} {fi : IE → M (List IV × (IH → Bool))} {g : TM} {t : IE → M Bool} {f : IE → M IV} {av : List Addr}
end
end EV
namespace EV
open PySem PySem.Spec PyProof.Rows
open PySem.Sem (wp)
def zN1 (h : Heap) (l1 : Addr) : Heap := h.push { cls := .type "list_iterator", data := .fields #[.ref l1, .int 0 0] }
def zN2 (h : Heap) (l1 l2 : Addr) : Heap := (zN1 h l1).push { cls := .type "tuple_iterator", data := .fields #[.ref l2, .int 0 0] }
def zN3 (h : Heap) (l1 l2 : Addr) : Heap := (zN2 h l1 l2).push { cls := .type "tuple", data := .seq #[.ref h.objs.size, .ref (zN1 h l1).objs.size] }
def zN4 (h : Heap) (l1 l2 : Addr) : Heap := (zN3 h l1 l2).push { cls := .type "tuple", data := .seq #[.none, .none] }
def zN5 (h : Heap) (l1 l2 : Addr) : Heap := (zN4 h l1 l2).push { cls := .type "zip", data := .fields #[.none, .bool false, .bool false, .ref (zN2 h l1 l2).objs.size, .ref (zN3 h l1 l2).objs.size] }
theorem meets_zN (l1 l2 : Addr) (xs ys : Array Value) : Meets (Builtin.«zip.__new__» ⟨[.type "zip", .ref l1, .ref l2], []⟩) (fun _ R s => s.heap.IsList l1 xs ∧ s.heap.IsTuple l2 ys ∧ R (.ok (.ret (.ref (zN4 s.heap l1 l2).objs.size))) { s with heap := zN5 s.heap l1 l2 }) :=
  .of_wp fun prog w A R s h => by
    obtain ⟨hp, g, d, tk, os⟩ := s
    obtain ⟨q1, q2, h⟩ := h
    have hsub := sub_zip
    have k1 : Heap.IsList (Shared.heap ⟨hp, g, d, tk, os⟩) l1 xs := q1
    have k2 : Heap.IsTuple (Shared.heap ⟨hp.push { cls := .type "list_iterator", data := .fields #[.ref l1, .int 0 0] }, g, d, tk, os⟩) l2 ys := Heap.IsTuple.push q2 _
    wp_walk using wpAny_pyIter_list k1, wpAny_pyIter_tuple k2
    exact ⟨_, rfl, h⟩
section
variable {prog : Program} {w : World} {A : Around} {E : Value → Shared → Prop} {s : Shared}
theorem call_zN {l1 l2 : Addr} {xs ys : Array Value} {Q : Value → Shared → Prop} (q1 : s.heap.IsList l1 xs) (q2 : s.heap.IsTuple l2 ys)
    (h : ∀ h', IsZip h' (s.heap.objs.size + 4) (s.heap.objs.size + 2) (s.heap.objs.size + 3) .none → IsPair h' (s.heap.objs.size + 2) (.ref s.heap.objs.size) (.ref (s.heap.objs.size + 1)) → IsPair h' (s.heap.objs.size + 3) .none .none → h'.IsListIter s.heap.objs.size l1 0 → h'.IsTupleIter (s.heap.objs.size + 1) l2 0 →
      (∀ c o, s.heap.get? c = some o → h'.get? c = some o) → Q (.ref (s.heap.objs.size + 4)) { s with heap := h' }) : wpAny (model prog w) A (call (.type "zip") [.ref l1, .ref l2]) Q E s := by
  refine callType_new F.called_zip (by decide) (F.typeCall_zip_2 _ _) (F.newCall_zip_2 _ _) (fun obj => F.args_object_init_3 obj _ _) F.entry_zip_new (meets_zN l1 l2 xs ys) ⟨q1, q2, ?_⟩
  have z1 : (zN1 s.heap l1).objs.size = s.heap.objs.size + 1 := Heap.size_push ..
  have z2 : (zN2 s.heap l1 l2).objs.size = s.heap.objs.size + 2 := by unfold zN2; rw [Heap.size_push, z1]
  have z3 : (zN3 s.heap l1 l2).objs.size = s.heap.objs.size + 3 := by unfold zN3; rw [Heap.size_push, z2]
  have z4 : (zN4 s.heap l1 l2).objs.size = s.heap.objs.size + 4 := by unfold zN4; rw [Heap.size_push, z3]
  have p5 : ∀ {c o}, (zN4 s.heap l1 l2).get? c = some o → (zN5 s.heap l1 l2).get? c = some o := fun e => Heap.get?_push_of_some _ e
  have p4 : ∀ {c o}, (zN3 s.heap l1 l2).get? c = some o → (zN4 s.heap l1 l2).get? c = some o := fun e => Heap.get?_push_of_some _ e
  have p3 : ∀ {c o}, (zN2 s.heap l1 l2).get? c = some o → (zN3 s.heap l1 l2).get? c = some o := fun e => Heap.get?_push_of_some _ e
  have p2 : ∀ {c o}, (zN1 s.heap l1).get? c = some o → (zN2 s.heap l1 l2).get? c = some o := fun e => Heap.get?_push_of_some _ e
  have p1 : ∀ {c o}, s.heap.get? c = some o → (zN1 s.heap l1).get? c = some o := fun e => Heap.get?_push_of_some _ e
  have g5 : (zN5 s.heap l1 l2).get? (zN4 s.heap l1 l2).objs.size = some { cls := .type "zip", data := .fields #[.none, .bool false, .bool false, .ref (zN2 s.heap l1 l2).objs.size, .ref (zN3 s.heap l1 l2).objs.size] } := Heap.get?_push_size _ rfl
  have g4 : (zN5 s.heap l1 l2).get? (zN3 s.heap l1 l2).objs.size = some { cls := .type "tuple", data := .seq #[.none, .none] } := p5 (Heap.get?_push_size _ rfl)
  have g3 : (zN5 s.heap l1 l2).get? (zN2 s.heap l1 l2).objs.size = some { cls := .type "tuple", data := .seq #[.ref s.heap.objs.size, .ref (zN1 s.heap l1).objs.size] } := p5 (p4 (Heap.get?_push_size _ rfl))
  have g2 : (zN5 s.heap l1 l2).get? (zN1 s.heap l1).objs.size = some { cls := .type "tuple_iterator", data := .fields #[.ref l2, .int 0 0] } := p5 (p4 (p3 (Heap.get?_push_size _ rfl)))
  have g1 : (zN5 s.heap l1 l2).get? s.heap.objs.size = some { cls := .type "list_iterator", data := .fields #[.ref l1, .int 0 0] } := p5 (p4 (p3 (p2 (Heap.get?_push_size _ rfl))))
  rw [z2, z3, z4] at g5
  rw [z1, z2] at g3
  rw [z3] at g4
  rw [z1] at g2
  have fin : Q (.ref (s.heap.objs.size + 4)) { s with heap := zN5 s.heap l1 l2 } := h _ g5 g3 g4 ⟨_, g1, rfl, rfl⟩ ⟨_, g2, rfl, rfl⟩ fun c o x => p5 (p4 (p3 (p2 (p1 x))))
  show _ ∧ _
  rw [z4]
  exact ⟨⟨_, g5, rfl⟩, fin⟩
end
open L2 RZ
/-- a tuple and a list as they stand at each turn, the items in new pairs -/
def ItzN (K : PySem.W.Frag) (a b : Addr) : It :=
  ⟨fun i H => ∃ (xs ys : List V) (x y : V), SqL K H a xs ∧ SqT K H b ys ∧ xs[i]? = some x ∧ ys[i]? = some y,
    fun i H v H' => ∃ T x y, v = .ref T ∧ H T = none ∧ H' = upd H T (.tup [x, y]) ∧ (∀ xs, SqL K H a xs → xs[i]? = some x) ∧ ∀ ys, SqT K H b ys → ys[i]? = some y,
    fun i H => ∃ xs ys : List V, SqL K H a xs ∧ SqT K H b ys ∧ (xs.length ≤ i ∨ ys.length ≤ i)⟩
theorem turn_zipN {P : Program} {w : World} {K : PySem.W.Frag} {elts : List Expr} {kk : Nat} {tpos : Pos} {a b zp TI TO i1 i2 : Addr} (D : ZipApart zp TI TO i1 i2 a b) :
    Turn P w K (.Tuple elts kk tpos) (ItzN K a b) [zp, TI, TO, i1, i2] zp (fun i h => IsZip h zp TI TO .none ∧ IsPair h TI (.ref i1) (.ref i2) ∧ (∃ x y, IsPair h TO x y) ∧ h.IsListIter i1 a i ∧ h.IsTupleIter i2 b i) where
  mem := by simp
  obj := fun i h st c hc => by
    obtain ⟨wz, wI, ⟨x, y, wO⟩, ⟨o1, e1, _, d1⟩, ⟨o2, e2, _, d2⟩⟩ := st
    have e' : c = zp ∨ c = TI ∨ c = TO ∨ c = i1 ∨ c = i2 := by simpa using hc
    rcases e' with r | r | r | r | r
    · rw [r]; exact ⟨_, wz, fun v r => nomatch r⟩
    · rw [r]; exact ⟨_, wI, fun v r => nomatch r⟩
    · rw [r]; exact ⟨_, wO, fun v r => nomatch r⟩
    · rw [r]; exact ⟨o1, e1, fun v r => by rw [d1] at r; cases r⟩
    · rw [r]; exact ⟨o2, e2, fun v r => by rw [d2] at r; cases r⟩
  keep := fun i h h' st k => by
    obtain ⟨wz, wI, ⟨x, y, wO⟩, h1, h2⟩ := st
    exact ⟨k zp (by simp) _ wz, k TI (by simp) _ wI, ⟨x, y, k TO (by simp) _ wO⟩, h1.at fun o r => k i1 (by simp) o r, h2.at fun o r => k i2 (by simp) o r⟩
  item := by
    intro X hP hw hK hc i pins s σ H E I hf st hg
    subst hP hw hK
    obtain ⟨wz, wI, ⟨x9, y9, wO⟩, h1, h2⟩ := st
    obtain ⟨xs, ys, x, y, wx, wy, hx, hy⟩ := hg
    obtain ⟨its, rv, p, _⟩ := I.list wx
    obtain ⟨its2, rv2, p2, _⟩ := I.tuple wy
    obtain ⟨u, hu, ru⟩ := rv.get hx
    obtain ⟨u2, hu2, ro2⟩ := rv2.get hy
    have wzl : zp < s.heap.objs.size := Heap.lt_size wz
    refine pyNext_zipM_item (srcL X.prog X.w i1 a) (srcT X.prog X.w i2 b) D wz wI wO h1 h2 p.isList p2 (x := u) (y := u2) (by simpa using hu) (by simpa using hu2) fun h' zp' TO' h1' h2' hT hsz hk => ?_
    refine ⟨_, rfl, PySem.wpAny_letOwnedTupleGo_zip (s := { s with heap := h' }) zp' fun h'' zp'' sb => ?_⟩
    have hT2 : h''.get? s.heap.objs.size = some { cls := .type "tuple", data := .seq #[u, u2] } := (sb.2 _ (Nat.ne_of_gt wzl)).trans hT
    have new : ObjOk X.prog X.w (upd H s.heap.objs.size (.tup [x, y])) h'' s.heap.objs.size (.tup [x, y]) :=
      ⟨by show 2 ≤ sizeLine; decide, [u, u2], .cons ru (.cons ro2 .nil), ⟨_, hT2, rfl, _, rfl⟩⟩
    have I1 : Inv X pins σ (upd H s.heap.objs.size (.tup [x, y])) { s with heap := h'' } :=
      I.turnedNew (t' := s.toks) (ch := [zp, TI, TO, i1, i2]) (fun c o hb r => (sb.2 c (fun r' => hb (by simp [r']))).trans (hk c o (fun r' => hb (by simp [r'])) (fun r' => hb (by simp [r'])) (fun r' => hb (by simp [r'])) (fun r' => hb (by simp [r'])) r)) hf (Nat.le_refl _) new
    refine ⟨.ref s.heap.objs.size, _, I1, rfl, ⟨_, x, y, rfl, I.hok.fresh (Nat.le_refl _), rfl, fun l hl => by rw [I.list_inj hl wx]; exact hx, fun l hl => by rw [I.tuple_inj hl wy]; exact hy⟩, ⟨zp'', ?_, ⟨u, u2, ?_⟩, ?_, ?_⟩, fun c hcm => ?_⟩
    · exact (sb.2 _ D.TIz).trans (hk _ _ D.TIz D.TITO D.TIi1 D.TIi2 wI)
    · exact (sb.2 _ D.TOz).trans TO'
    · exact Heap.IsListIter.at h1' fun o r => (sb.2 _ D.i1z).trans r
    · exact Heap.IsTupleIter.at h2' fun o r => (sb.2 _ D.i2z).trans r
    · have hlt : c < s.heap.objs.size := by
        have e' : c = zp ∨ c = TI ∨ c = TO ∨ c = i1 ∨ c = i2 := by simpa using hcm
        rcases e' with r | r | r | r | r
        · rw [r]; exact wzl
        · rw [r]; exact Heap.lt_size wI
        · rw [r]; exact Heap.lt_size wO
        · rw [r]; obtain ⟨_, e1, _⟩ := h1; exact Heap.lt_size e1
        · rw [r]; obtain ⟨_, e2, _⟩ := h2; exact Heap.lt_size e2
      rw [upd_ne (Nat.ne_of_lt hlt)]
      exact (hf c hcm).1
  done := by
    intro X hP hw hK hc i pins s σ H E I hf st hg
    subst hP hw hK
    obtain ⟨wz, wI, ⟨x9, y9, wO⟩, h1, h2⟩ := st
    obtain ⟨xs, ys, wx, wy, hend⟩ := hg
    obtain ⟨its, rv, p, _⟩ := I.list wx
    obtain ⟨its2, rv2, p2, _⟩ := I.tuple wy
    have l1 := rv.length
    have l2 := rv2.length
    have he : its.toArray[i]? = none ∨ its2.toArray[i]? = none := by
      rcases hend with r | r
      · exact .inl (by simp; omega)
      · exact .inr (by simp; omega)
    exact pyNext_zipM_end (I.ok.hd hc) (srcL X.prog X.w i1 a) (srcT X.prog X.w i2 b) D wz wI wO h1 h2 p.isList p2 he fun h' hk => ⟨rfl, I.turnedL (t' := s.toks) (ch := [zp, TI, TO, i1, i2]) (fun c o hb r =>
      hk c o (fun r' => hb (by simp [r'])) (fun r' => hb (by simp [r'])) (fun r' => hb (by simp [r'])) (fun r' => hb (by simp [r'])) r) hf⟩
  self := fun A i s Q E st h => wpAny_pyIter_zip st.1 h


def iZipN (K : PySem.W.Frag) (ta : TA) : TI := fun σ H R => ta σ H fun vs H1 => ∃ a b xs ys, vs = [.ref a, .ref b] ∧ SqL K H1 a xs ∧ SqT K H1 b ys ∧ R (ItzN K a b) H1
section
variable {X : Cx} {e e2 : Expr} {p pos tpos : Pos} {elts : List Expr} {kk : Nat}
theorem pi_zipN {ta : TA} (hg : Gl X "zip") (hm : X.mg "zip" = none) (ha : PA X [e, e2] ta) (hs : starEach [e, e2] X.env = (false, eval e X.env) :: starEach [e2] X.env) (hpl : (backTo pos (starEach [e2] X.env)).any (·.1) = false) :
    PI X (.Tuple elts kk tpos) (.Call (.Name "zip" p) [e, e2] [] pos) (iZipN X.K ta) := by
  refine ⟨fun pins s σ H R I h => ?_⟩
  refine Call_ (ld_blt I hg hm PyProof.Rows.boot_zip (PyProof.Rows.callWith_type1 (thn (ha.run pos pins s σ H _ I h) fun us s1 ⟨vs, H1, I1, r1, a, b, xs, ys, ex, wx, wy, q⟩ => ?_) hs hpl))
  subst ex
  cases r1 with
  | cons r rr =>
    cases rr with
    | cons r' rr =>
      cases rr
      cases r
      cases r'
      obtain ⟨its, rv, p1, _⟩ := I1.list wx
      obtain ⟨its2, rv2, p2, _⟩ := I1.tuple wy
      obtain ⟨o1, ho1, _⟩ := id p2
      refine call_zN p1.isList (show s1.heap.IsTuple b its2.toArray from p2) fun h' wz wI wO h1 h2 hk => PySem.wpAny_pyIter_zip wz ?_
      have I2 : Inv X pins σ H1 { s1 with heap := h' } := I1.kept (t' := s1.toks) hk
      refine ⟨s1.heap.objs.size + 4, [s1.heap.objs.size + 4, s1.heap.objs.size + 2, s1.heap.objs.size + 3, s1.heap.objs.size, s1.heap.objs.size + 1], _, _, H1, rfl, I2, turn_zipN (PySem.W.ktu_apart s1.heap.objs.size a b p1.lt (Heap.lt_size ho1)), ⟨wz, wI, ⟨_, _, wO⟩, h1, h2⟩, fun c hcm => ?_, q⟩
      have hle : s1.heap.objs.size ≤ c := by
        have e' : c = s1.heap.objs.size + 4 ∨ c = s1.heap.objs.size + 2 ∨ c = s1.heap.objs.size + 3 ∨ c = s1.heap.objs.size ∨ c = s1.heap.objs.size + 1 := by simpa using hcm
        have : s1.heap.objs.size + 0 ≤ c := by rcases e' with rfl | rfl | rfl | rfl | rfl <;> omega
        exact this
      exact I1.fpOk hle (I1.hok.fresh hle)
variable {P : Par} {W : WX}
theorem goes_zipN {a b : Addr} {xs ys : List IV} {vs us : List V} {φ : List Addr} {H : Hp} (st : ∀ φ' H', Ext φ H φ' H' → SqL X.K H' a vs ∧ SqT X.K H' b us) (r : VRs P φ H xs vs) (r2 : VRs P φ H ys us) : Goes P (ItzN X.K a b) (zipV xs ys) φ H := by
  refine ⟨fun φ' H' e => ⟨vs, us, (st _ _ e).1, (st _ _ e).2, by rw [r.length, r2.length, zipV_length]; omega⟩, fun i φ' H' hi e => ?_, fun i φ' H' x H2 e y v hv => ?_⟩
  · rw [zipV_length] at hi
    have h1 : i < vs.length := by rw [r.length]; omega
    have h2 : i < us.length := by rw [r2.length]; omega
    exact ⟨vs, us, vs[i], us[i], (st _ _ e).1, (st _ _ e).2, by simp [h1], by simp [h2]⟩
  · obtain ⟨T, x1, y1, rfl, hT, rfl, q1, q2⟩ := y
    obtain ⟨x0, y0, e1, e2, rfl⟩ := zipV_get hv
    obtain ⟨u1, k1, r1⟩ := r.get e1
    obtain ⟨u2, k2, r3⟩ := r2.get e2
    have z1 := q1 vs (st _ _ e).1
    have z2 := q2 us (st _ _ e).2
    rw [z1] at k1; cases k1
    rw [z2] at k2; cases k2
    have ex := Ext.new (φ := φ') (o := .tup [x1, y1]) hT
    refine ⟨ex, fun R h s => s.untold hT, fun l k => ?_⟩
    rw [VR]
    have e' := e.trans ex
    exact ⟨T, [x1, y1], rfl, .of upd_same, VRs.cons (VR.mono e' _ _ (VR.avI k _ _ r1)) (VRs.cons (VR.mono e' _ _ (VR.avI k _ _ r3)) VRs.nil)⟩
/-- zip of lists and tuples in any way -/
def zipAny (fs : IE → M (List IV)) : IE → M (List IV) := fun σ h => (fs σ h).bind fun vs h => match vs with
  | [.lst xs, .tup ys] => .ok (zipV xs ys) h
  | _ => zipAll (fun _ h => .ok vs h) σ h
theorem pi_zipAny {fs : IE → M (List IV)} (hK : X.K = P.K) (hg : Gl X "zip") (hm : X.mg "zip" = none) (ha : PA X [e, e2] (tAr P W fs)) (hs : starEach [e, e2] X.env = (false, eval e X.env) :: starEach [e2] X.env) (hpl : (backTo pos (starEach [e2] X.env)).any (·.1) = false) :
    PI X (.Tuple elts kk tpos) (.Call (.Name "zip" p) [e, e2] [] pos) (tI P W (zipAny fs)) := by
  refine ⟨fun pins s σ H R I hq => ?_⟩
  have hq0 := hq
  obtain ⟨φ, h, σi, sr, se, pp⟩ := hq
  unfold zipAny at pp
  cases e1 : fs σi h with
  | no => simp only [e1, Out.bind] at pp; exact pp.elim
  | ex v h1 =>
    refine (pi_zipAll hK hg hm ha hs hpl).run pins s σ H R I ⟨φ, h, σi, sr, se, ?_⟩
    unfold zipAll
    simp only [e1, Out.bind] at pp ⊢; exact pp
  | ok vs h1 =>
    simp only [e1, Out.bind] at pp
    split at pp
    · rename_i xs ys
      refine (PI.weak (pi_zipN (tpos := tpos) (elts := elts) (kk := kk) hg hm ha hs hpl) fun σ' H' R' (z : tI P W (zipAny fs) σ' H' R' ∧ σ' = σ ∧ H' = H ∧ R' = R) => ?_).run pins s σ H R I ⟨hq0, rfl, rfl, rfl⟩
      obtain ⟨_, rfl, rfl, rfl⟩ := z
      refine ⟨φ, h, σi, sr, se, ?_⟩
      rw [e1]
      intro φ2 H2 us ex s2 r
      obtain ⟨v, u, rfl, r1, r2⟩ := r.two
      obtain ⟨a, ws, rfl, q1, q2⟩ := VR.stands hK (.inl rfl) r1
      obtain ⟨b, ws2, rfl, q3, q4⟩ := r2.tupI
      refine ⟨a, b, ws, ws2, rfl, q1 _ _ (Ext.refl _ _), by rw [hK]; exact q3, ?_⟩
      exact pp _ _ _ ex s2 (goes_zipN (fun φ3 H3 e3 => ⟨q1 _ _ e3, by rw [hK]; exact e3.seqT q3⟩) q2 q4)
    · refine (pi_zipAll hK hg hm ha hs hpl).run pins s σ H R I ⟨φ, h, σi, sr, se, ?_⟩
      unfold zipAll at pp ⊢
      simp only [e1, Out.bind] at pp ⊢
      exact pp
end
end EV
namespace EV
open PySem PySem.Spec PyProof.Rows L2

/-- the def runs: from its values -/
theorem FnA.go {Pr : Program} {w : World} {K : PySem.W.Frag} {mg : Str → Option Value} {base : Heap} {P : Par} {fA : Addr} {k np : Nat} {c : CM} (F : FnA Pr w K mg base P fA k np c) {A : Around} {outer : List Env} {s : Shared} {H : Hp} {us : List Value} {vs : List V} {Q : VK} {E : XK}
    (hr : Room k A) (hg : A.guards = some []) (e0 : Env0 Pr w K mg base A outer s H) (r : Vals vs us) (h : spI P np c vs H Q E) : codeAny (model Pr w) A (.call (.ref fA) ⟨us, []⟩) (CR (L2.CX Pr w) outer Pr w H s Q E) s := by
  obtain ⟨fd, ps, ds, dvs, ivd, cc, F1, hb, hd, hdv, rfl⟩ := F.ex
  obtain ⟨hl, av, φ, hp, ivs, sr, rv, p⟩ := h
  have r2 : Vals (vs ++ dvs) (us ++ ds) := r.append hd
  have hsp : spI P (np + dvs.length) cc (vs ++ dvs) H Q E := ⟨by rw [List.length_append, hl], av, φ, hp, ivs ++ ivd, sr, rv.append (hdv _ _ _), p⟩
  have hl2 : (us ++ ds).length = ps.length := by rw [← r2.length]; exact F1.len _ _ _ _ hsp
  exact F1.run A outer s H ⟨us, []⟩ (us ++ ds) (vs ++ dvs) Q E hr hg e0 (hb s us (e0.mod.kin.keeps fun b o e => (e0.bs b o e).1) hl2) r2 hsp
theorem CX_false {Pr : Program} {w : World} {outer : List Env} {H : Hp} {s s' : Shared} {e : Value} (h : L2.CX Pr w outer H s (fun _ _ _ => False) e s') : False := by
  obtain ⟨_, _, _, _, _, _, _, _, _, _, _, _, z⟩ := h
  exact z
/-- an exception is not covered -/
def noEx {α : Type} : Out α → Out α
  | .ex _ _ => .no
  | o => o
theorem Post.noEx {P : Par} {W W' : WX} {σ σ' : L2.St} {φ : List Addr} {H : Hp} {Q : VK} {o : Out IV} (p : Post P W σ φ H Q (EV.noEx o)) : Post P W' σ' φ H Q o := by
  cases o with
  | ok v h => exact p
  | ex e h => exact False.elim p
  | no => exact p
/-- a class's property: its getter -/
structure PropI (K : PySem.W.Frag) (C : Addr) (f : Str) (g : Addr) : Prop where
  ex : ∃ p, PySem.W.findIn K (.ref C) f = some (some (.ref p)) ∧ PySem.W.specialIn K (.ref p) "__get__" = some (some (.builtin "property.__get__")) ∧ PySem.W.takesIn K (.ref p) = some true ∧ ∃ rest, PySem.W.recIn K p "property" = some (.ref g :: rest)
section
variable {X : Cx} {P : Par} {W : WX} {e o value : Expr} {es : List Expr} {f m x : Str} {pos pos' apos p0 : Pos} {fa fo fv : IE → M IV} {c i k np : Nat} {cm : CM} {av : List Addr}
end
/-- the facts: values of built-in types are no instances; of the classes in cs, those are that are told -/
structure IsaC (K : PySem.W.Frag) (G : Nat → Addr) (c : Nat) (cs : List (Nat × Bool)) : Prop where
  bi : ∀ t ∈ biT, PySem.W.kitOne K (.type t) (.ref (G c)) = some false
  own : ∀ p ∈ cs, SlX.SCls K (G p.1) ∧ SlX.SIsi K (G p.1) ∧ PySem.W.kitOne K (.ref (G p.1)) (.ref (G c)) = some p.2
section
variable {X : Cx} {P : Par} {W : WX}
end
end EV
namespace EV
open PySem PySem.Spec PyProof.Rows L2
section
variable {X : Cx} {A : Around} {E : Value → Shared → Prop} {s : Shared} {a : Addr} {u : Value} {v : V} {q : NestedKey} {xs : Xs}
end
section
variable {X : Cx} {P : Par} {W : WX}
end
end EV
namespace PySem.W
open PySem
section
variable {prog : Program} {w : World} {A : Around} {E : Value → Shared → Prop} {s : Shared} {K : Frag} {x C L f : Addr} {h₀ : Heap} {m : Str → Option Value} {ox : Obj} {od : Option Obj} {b tb : Value}
end
end PySem.W
namespace EV
open PySem PySem.Spec PyProof.Rows L2
structure OwnC (K : PySem.W.Frag) (G : Nat → Addr) (C g : Addr) (cs : List Nat) : Prop where
  eq : PySem.W.findIn K (.ref C) "__eq__" = some (some (.ref g))
  fn : PySem.W.isFn K (.ref g) = true
  bi : ∀ t ∈ biT, PySem.W.notFirst K C (.type t) = true
  ne : PySem.W.findIn K (.ref C) "__ne__" = some (some (.builtin "object.__ne__"))
  mr : PySem.W.mroIn K C (.type "object") = some true
  ot : ∀ c ∈ cs, PySem.W.notFirst K C (.ref (G c)) = true
section
variable {X : Cx} {P : Par} {W : WX} {k np : Nat} {cm : CM} {av : List Addr} {g : Addr}
/-- the def is called from here, without exceptions -/
theorem FnA.callN (F : FnA X.prog X.w X.K X.mg X.base P g k np cm) {A : Around} {pins : List (Addr × Obj)} {σ σ' : L2.St} {H : Hp} {s : Shared} {Q : VK} {E : Value → Shared → Prop} {φ : List Addr} {h : IH} {ivs : List IV} {vs : List V} {us : List Value} (hr : Room k A) (hg : A.guards = some []) (e0 : Env0 X.prog X.w X.K X.mg X.base A X.stack s H) (I : Inv X pins σ H s) (r : Vals vs us)
    (sr : SR (P.at av) φ H h) (rv : VRs (P.at av) φ H ivs vs) (hl : ivs.length = np) (p : Post (P.at av) W σ' φ H Q (noEx (cm ivs h))) : wpAny (model X.prog X.w) A (call (.ref g) us) (EP X pins σ Q) E s := by
  have p3 : Post (P.at av) (fun c d _ H => (fun (_ : Value) (_ : Option Addr) (_ : Hp) => False) c d H) [] φ H Q (cm ivs h) := Post.noEx p
  have hsp : spI P np cm vs H Q (fun _ _ _ => False) := ⟨by rw [rv.length, hl], av, φ, h, ivs, sr, rv, p3⟩
  refine wpAny_call (codeAny_mono (F.go (outer := X.stack) hr hg e0 r hsp) fun r s' hq => ?_)
  cases r with
  | error e => exact (CX_false hq).elim
  | ok fl =>
    cases fl with
    | ret u => exact I.after hq
    | next => exact False.elim hq
    | brk => exact False.elim hq
    | cont => exact False.elim hq
end
end EV
namespace EV
open PySem PySem.Spec PyProof.Rows L2
section
variable {X : Cx} {P : Par} {W : WX} {k np : Nat} {cm : CM} {av : List Addr} {g : Addr}
end
section
variable {X : Cx} {P : Par} {W : WX} {o value : Expr} {f : Str} {pos tpos : Pos} {fo fv : IE → M IV} {c i : Nat} {op : Operator} {g : G2}
end
end EV
namespace PySem.W
open PySem PySem.Calls PyProof.Rows PyProof.V PySem.Spec
section
variable {prog : Program} {w : World} {K : Type} [DecidableEq K] {knd : HeapKind prog w K} {A : Around} {E : Value → Shared → Prop} {s : Shared}
inductive KeqHitsE {K : Type} [DecidableEq K] (A : Around) (s : Shared) (kb : List (K × Addr × Value)) : List (K × Addr × Value) → Bool → Prop
  | nil : KeqHitsE A s kb [] true
  | miss {k : K} {c : Addr} {v : Value} {r : List (K × Addr × Value)} : atKey kb k = none → KeqHitsE A s kb ((k, c, v) :: r) false
  | hit {k : K} {c : Addr} {v : Value} {y : Addr × Value} {r : List (K × Addr × Value)} {e b : Bool} : atKey kb k = some y → SeqAt.EqAt A s v y.2 e → KeqHitsE A s kb r b → KeqHitsE A s kb ((k, c, v) :: r) (e && b)
end
end PySem.W
namespace EV
open PySem PySem.Spec PyProof.Rows L2
section
variable {X : Cx} {P : Par} {W : WX} {φ : List Addr} {H : Hp} {h : IH} {pins : List (Addr × Obj)} {σ : L2.St} {s : Shared}
end
end EV
namespace EV
open PySem PySem.Spec PyProof.Rows L2
end EV
namespace EV
open PySem PySem.Spec PyProof.Rows L2
section
variable {X : Cx} {P : Par} {W : WX} {e : Expr} {es : List Expr} {fa fs : IE → M (List IV)} {p pos p0 : Pos}
end
section
variable {X : Cx} {P : Par} {W : WX} {pins : List (Addr × Obj)} {σ : L2.St} {s : Shared}
end
end EV
namespace EV
open PySem PySem.Spec PyProof.Rows L2 RZ
section
variable {P : Par} {φ : List Addr} {H : Hp} {D : Addr} {o : HO}
mutual
/-- what is told may be unlocked -/
theorem VR.unl (m : D ∈ φ) (nt : ∀ xs, H D ≠ some (.tup xs)) (nf : ∀ o xs, H D ≠ some (.frz o (.tup xs))) (nl : ∀ o xs, H D ≠ some (.frz o (.lst xs))) : ∀ (x : IV) (v : V), VR P φ H x v → VR P φ (upd H D o) x v
  | .non, _, h | .bl _, _, h | .int _, _, h | .str _, _, h | .ty _, _, h | .glo _, _, h => by simpa only [VR] using h
  | .ref n, _, h => by rw [VR] at h ⊢; exact h
  | .tup xs, _, h => by
    rw [VR] at h ⊢
    obtain ⟨a, vs, h1, h2, h3⟩ := h
    refine ⟨a, vs, h1, ?_, VRs.unl m nt nf nl xs vs h3⟩
    rcases h2 with (h2 | ⟨o, h2⟩) | h2
    · exact .inl (.inl ((upd_ne (fun z => nt _ (by rw [← z]; exact h2))).trans h2))
    · exact .inl (.inr ⟨o, (upd_ne (fun z => nf _ _ (by rw [← z]; exact h2))).trans h2⟩)
    · exact .inr h2
  | .lst xs, _, h => by
    rw [VR] at h ⊢
    obtain ⟨a, vs, h1, h2, h3, h4⟩ := h
    exact ⟨a, vs, h1, (upd_ne (fun z => h3.1 (by rw [z]; exact m))).trans h2, h3, VRs.unl m nt nf nl xs vs h4⟩
  | .scr xs, _, h => by
    rw [VR] at h ⊢
    obtain ⟨a, vs, h1, h2, h3⟩ := h
    refine ⟨a, vs, h1, ?_, VRs.unl m nt nf nl xs vs h3⟩
    rcases h2 with ⟨o, h2⟩ | h2
    · exact .inl ⟨o, (upd_ne (fun z => nl _ _ (by rw [← z]; exact h2))).trans h2⟩
    · exact .inr h2
  | .dct ks us, _, h => by
    rw [VR] at h ⊢
    obtain ⟨a, o, es, h1, h2, h3, h4, h5, h6⟩ := h
    exact ⟨a, o, es, h1, (upd_ne (fun z => h3.1 (by rw [z]; exact m))).trans h2, h3, VRs.unl m nt nf nl ks _ h4, VRs.unl m nt nf nl us _ h5, h6⟩
  | .exc a dd ns xs, _, h => by
    rw [VR] at h ⊢
    obtain ⟨h1, h | ⟨vs, h2, h3, h4⟩⟩ := h
    · exact ⟨h1, .inl h⟩
    · exact ⟨h1, .inr ⟨vs, (upd_ne (fun z => h3.1 (by rw [z]; exact m))).trans h2, h3, VRs.unl m nt nf nl xs vs h4⟩⟩
  | .fn a c q ix xs σ, _, h => by
    rw [VR] at h ⊢
    obtain ⟨h1, h2, h3, vs, h4, h5⟩ := h
    exact ⟨h1, (upd_ne (fun z => h3.1 (by rw [z]; exact m))).trans h2, h3, vs, h4, VRs.unl m nt nf nl xs vs h5⟩
theorem VRs.unl (m : D ∈ φ) (nt : ∀ xs, H D ≠ some (.tup xs)) (nf : ∀ o xs, H D ≠ some (.frz o (.tup xs))) (nl : ∀ o xs, H D ≠ some (.frz o (.lst xs))) : ∀ (xs : List IV) (vs : List V), VRs P φ H xs vs → VRs P φ (upd H D o) xs vs
  | [], _, h => by rw [VRs] at h ⊢; exact h
  | x :: xs, _, h => by
    rw [VRs] at h ⊢
    obtain ⟨v, r, h1, h2, h3⟩ := h
    exact ⟨v, r, h1, VR.unl m nt nf nl x v h2, VRs.unl m nt nf nl xs r h3⟩
end
theorem frz_dct {od : Obj} {ob : Obj} {es : Raw} (e : H D = some (.frz od (DctO D ob es))) : (∀ xs, H D ≠ some (.tup xs)) ∧ (∀ o xs, H D ≠ some (.frz o (.tup xs))) ∧ ∀ o xs, H D ≠ some (.frz o (.lst xs)) := by
  refine ⟨fun xs z => ?_, fun o xs z => ?_, fun o xs z => ?_⟩
  · rw [e] at z; cases z
  · rw [e] at z
    have z2 := Option.some.inj z
    injection z2 with _ z3
    exact DctO.ne_tup z3
  · rw [e] at z
    have z2 := Option.some.inj z
    injection z2 with _ z3
    unfold DctO at z3
    cases z3
theorem OR.unl {a : Addr} {od ob : Obj} {es : Raw} (m : D ∈ φ) (e : H D = some (.frz od (DctO D ob es))) (na : a ≠ D) : ∀ {io : IO}, OR P φ H a io → OR P φ (upd H D (DctO D ob es)) a io
  | .lst xs, ⟨vs, h1, h2⟩ => ⟨vs, (upd_ne na).trans h1, VRs.unl m (frz_dct e).1 (frz_dct e).2.1 (frz_dct e).2.2 _ _ h2⟩
  | .dct ks us, ⟨o, es, h1, h2, h3, h4⟩ => ⟨o, es, (upd_ne na).trans h1, VRs.unl m (frz_dct e).1 (frz_dct e).2.1 (frz_dct e).2.2 _ _ h2, VRs.unl m (frz_dct e).1 (frz_dct e).2.1 (frz_dct e).2.2 _ _ h3, h4⟩
  | .lck ks us, ⟨od, o, es, h1, h2, h3, h4⟩ => ⟨od, o, es, (upd_ne na).trans h1, VRs.unl m (frz_dct e).1 (frz_dct e).2.1 (frz_dct e).2.2 _ _ h2, VRs.unl m (frz_dct e).1 (frz_dct e).2.1 (frz_dct e).2.2 _ _ h3, h4⟩
  | .ktp xs, ⟨o, vs, h1, h2, h3, h4⟩ => ⟨o, vs, (upd_ne na).trans h1, h2, h3, VRs.unl m (frz_dct e).1 (frz_dct e).2.1 (frz_dct e).2.2 _ _ h4⟩
  | .ins c vs, ⟨dx, ws, h1, h2, hn, ⟨od, ho⟩, h3⟩ =>
    have nd : dx ≠ D := fun z => h2.1 (by rw [z]; exact m)
    ⟨dx, ws, slAt_stay h1 (fun o q => (upd_ne na).trans q) (fun q => (upd_ne nd).trans q), h2, hn, ⟨od, (upd_ne nd).trans ho⟩, fun i x q => let ⟨v, e1, r1⟩ := h3 i x q; ⟨v, e1, VR.unl m (frz_dct e).1 (frz_dct e).2.1 (frz_dct e).2.2 x v r1⟩⟩
end
section
variable {X : Cx} {P : Par} {W : WX}
end
section
variable {X : Cx} {pins : List (Addr × Obj)} {σ : L2.St} {H : Hp} {s : Shared}
end
section
variable {P : Program} {w : World} {K : PySem.W.Frag} {d : Addr} {od o : Obj} {arr : Array DictEntry} {ep : Nat} {es : Raw}
end
section
variable {X : Cx} {tg e : Expr} {td : TE} {apos cpos : Pos}
end
section
variable {X : Cx} {P : Par} {W : WX}
theorem PI.or2 {tg e : Expr} {t1 t2 : TI} (h1 : PI X tg e t1) (h2 : PI X tg e t2) : PI X tg e (fun σ H R => t1 σ H R ∨ t2 σ H R) := ⟨fun pins s σ H R I h => by
  rcases h with h | h
  · exact h1.run pins s σ H R I h
  · exact h2.run pins s σ H R I h⟩
end
end EV
namespace EV
open PySem PySem.Spec PyProof.Rows L2 RZ
mutual
/-- the value's places lie below n -/
def bndV (n : Nat) : IV → Bool
  | .ref m => decide (m < n)
  | .tup xs => bndVs n xs
  | .lst xs => bndVs n xs
  | .scr xs => bndVs n xs
  | .dct ks vs => bndVs n ks && bndVs n vs
  | .exc _ _ _ xs => bndVs n xs
  | .fn _ _ _ _ xs _ => bndVs n xs
  | _ => true
def bndVs (n : Nat) : List IV → Bool
  | [] => true
  | x :: xs => bndV n x && bndVs n xs
end
def bndW (n : Nat) : Option IV → Bool
  | some x => bndV n x
  | none => true
def bndO (n : Nat) : IO → Bool
  | .lst xs => bndVs n xs
  | .dct ks vs => bndVs n ks && bndVs n vs
  | .ins _ vs => vs.all (bndW n)
  | .lck ks vs => bndVs n ks && bndVs n vs
  | .ktp xs => bndVs n xs
section
variable {P : Par} {W : WX} {φ φ' : List Addr} {H H' : Hp}
mutual
theorem VR.bnd (hp : ∃ t, φ' = φ ++ t) : ∀ (x : IV) (v : V), bndV φ.length x = true → VR P φ' H x v → VR P φ H x v
  | .non, _, _, h | .bl _, _, _, h | .int _, _, _, h | .str _, _, _, h | .ty _, _, _, h | .glo _, _, _, h => by simpa only [VR] using h
  | .ref n, _, p, h => by
    rw [VR] at h ⊢
    obtain ⟨a, h1, h2⟩ := h
    obtain ⟨t, rfl⟩ := hp
    have hn : n < φ.length := by simpa [bndV] using p
    exact ⟨a, by rw [List.getElem?_append_left hn] at h1; exact h1, h2⟩
  | .tup xs, _, p, h => by
    rw [VR] at h ⊢
    obtain ⟨a, vs, h1, h2, h3⟩ := h
    exact ⟨a, vs, h1, h2, VRs.bnd hp xs vs (by simpa [bndV] using p) h3⟩
  | .lst xs, _, p, h => by
    rw [VR] at h ⊢
    obtain ⟨a, vs, h1, h2, h3, h4⟩ := h
    exact ⟨a, vs, h1, h2, ⟨fun m => h3.1 (by obtain ⟨t, rfl⟩ := hp; exact List.mem_append_left _ m), h3.2⟩, VRs.bnd hp xs vs (by simpa [bndV] using p) h4⟩
  | .scr xs, _, p, h => by
    rw [VR] at h ⊢
    obtain ⟨a, vs, h1, h2, h3⟩ := h
    exact ⟨a, vs, h1, h2, VRs.bnd hp xs vs (by simpa [bndV] using p) h3⟩
  | .dct ks us, _, p, h => by
    rw [VR] at h ⊢
    obtain ⟨a, o, es, h1, h2, h3, h4, h5, h6⟩ := h
    have p' : bndVs φ.length ks = true ∧ bndVs φ.length us = true := by simpa [bndV] using p
    exact ⟨a, o, es, h1, h2, ⟨fun m => h3.1 (by obtain ⟨t, rfl⟩ := hp; exact List.mem_append_left _ m), h3.2⟩, VRs.bnd hp ks _ p'.1 h4, VRs.bnd hp us _ p'.2 h5, h6⟩
  | .exc a dd ns xs, _, p, h => by
    rw [VR] at h ⊢
    obtain ⟨h1, h | ⟨vs, h2, h3, h4⟩⟩ := h
    · exact ⟨h1, .inl h⟩
    · exact ⟨h1, .inr ⟨vs, h2, ⟨fun m => h3.1 (by obtain ⟨t, rfl⟩ := hp; exact List.mem_append_left _ m), h3.2⟩, VRs.bnd hp xs vs (by simpa [bndV] using p) h4⟩⟩
  | .fn a c q ix xs σ, _, p, h => by
    rw [VR] at h ⊢
    obtain ⟨h1, h2, h3, vs, h4, h5⟩ := h
    exact ⟨h1, h2, ⟨fun m => h3.1 (by obtain ⟨t, rfl⟩ := hp; exact List.mem_append_left _ m), h3.2⟩, vs, h4, VRs.bnd hp xs vs (by simpa [bndV] using p) h5⟩
theorem VRs.bnd (hp : ∃ t, φ' = φ ++ t) : ∀ (xs : List IV) (vs : List V), bndVs φ.length xs = true → VRs P φ' H xs vs → VRs P φ H xs vs
  | [], _, _, h => by simpa only [VRs] using h
  | x :: xs, _, p, h => by
    rw [VRs] at h ⊢
    obtain ⟨v, r, h1, h2, h3⟩ := h
    have p' : bndV φ.length x = true ∧ bndVs φ.length xs = true := by simpa [bndVs] using p
    exact ⟨v, r, h1, VR.bnd hp x v p'.1 h2, VRs.bnd hp xs r p'.2 h3⟩
end
theorem OR.bnd (hp : ∃ t, φ' = φ ++ t) {a : Addr} : ∀ {o : IO}, bndO φ.length o = true → OR P φ' H a o → OR P φ H a o
  | .lst xs, p, ⟨vs, h1, h2⟩ => ⟨vs, h1, VRs.bnd hp xs vs (by simpa [bndO] using p) h2⟩
  | .dct ks us, p, ⟨o, es, h1, h2, h3, h4⟩ =>
    have p' : bndVs φ.length ks = true ∧ bndVs φ.length us = true := by simpa [bndO] using p
    ⟨o, es, h1, VRs.bnd hp ks _ p'.1 h2, VRs.bnd hp us _ p'.2 h3, h4⟩
  | .lck ks us, p, ⟨od, o, es, h1, h2, h3, h4⟩ =>
    have p' : bndVs φ.length ks = true ∧ bndVs φ.length us = true := by simpa [bndO] using p
    ⟨od, o, es, h1, VRs.bnd hp ks _ p'.1 h2, VRs.bnd hp us _ p'.2 h3, h4⟩
  | .ktp xs, p, ⟨o, vs, h1, h2, h3, h4⟩ => ⟨o, vs, h1, h2, h3, VRs.bnd hp xs vs (by simpa [bndO] using p) h4⟩
  | .ins c vs, p, ⟨dx, ws, h1, h2, hn, ho, h3⟩ => ⟨dx, ws, h1, ⟨fun m => h2.1 (by obtain ⟨t, rfl⟩ := hp; exact List.mem_append_left _ m), h2.2⟩, hn, ho, fun i x e =>
    let ⟨v, e1, r1⟩ := h3 i x e
    have p' : bndW φ.length (some x) = true := List.all_eq_true.mp (by simpa [bndO] using p) _ (List.mem_of_getElem? e)
    ⟨v, e1, VR.bnd hp x v p' r1⟩⟩
end
end EV
namespace EV
open PySem PySem.Spec PyProof.Rows L2 RZ
section
variable {P : Par} {W : WX} {φ φ' : List Addr} {H H' : Hp}
end
end EV
namespace EV
open PySem PySem.Spec PyProof.Rows L2 RZ
section
variable {X : Cx} {P : Par} {W : WX}
end
end EV
namespace EV
open PySem PySem.Spec PyProof.Rows L2 RZ
/-- a global that holds that tuple of texts -/
structure GloT (K : PySem.W.Frag) (mg : Str → Option Value) (x : Str) (ys : List Str) : Prop where
  ex : ∃ (a : Addr) (o : Obj) (its : Array Value) (n : Nat), mg x = some (.ref a) ∧ K.lookup a = some o ∧ o.cls = .type "tuple" ∧ o.dict = none ∧ o.data = .seq its n ∧ its.size ≤ sizeLine ∧ Vals (ys.map V.str) its.toList
section
variable {X : Cx} {P : Par} {W : WX} {e : Expr} {x : Str} {p0 apos cpos : Pos}
end
end EV
namespace EV
open PySem PySem.Spec PyProof.Rows L2
section
variable {X : Cx} {P : Par} {W : WX} {φ : List Addr} {H : Hp} {h : IH} {pins : List (Addr × Obj)} {σ : L2.St} {s : Shared}
end
end EV
namespace EV
open PySem PySem.Spec PyProof.Rows L2 RZ

section
variable {X : Cx} {P : Par} {W : WX} {es : List Expr} {pos : Pos}
theorem Post.newKt {σ : L2.St} {φ : List Addr} {H : Hp} {h : IH} {Q : VK} {xs : List IV} {vs : List V} {o : Obj} (p : Post P W σ φ H Q (.ok (.ref h.length) (h ++ [.ktp xs]))) (s : SR P φ H h) (r : VRs P φ H xs vs) {t : Addr} (ht : H t = none) (oc : o.cls = .type "tuple") (od : o.dict = none) :
    Q (.ref t) (upd H t (.frz o (.tup vs))) := by
  refine p (φ ++ [t]) _ _ (Ext.newA ht) (s.told ht ⟨o, vs, upd_same, oc, od, r.mono (Ext.newA ht)⟩) ?_
  rw [VR]
  exact ⟨t, by rw [← s.len]; simp, rfl⟩
end

def coeK (fa : IE → M IV) : IE → M IV := fun σ h => (fa σ h).bind fun v h => match v with
  | .ref n => (match h[n]? with
    | some (.ktp xs) => .ok (.tup xs) h
    | _ => .ok v h)
  | _ => .ok v h
theorem SR.ktp {P : Par} {φ : List Addr} {H : Hp} {h : IH} (s : SR P φ H h) {n : Nat} {xs : List IV} {v : V} (r : VR P φ H (.ref n) v) (e : h[n]? = some (.ktp xs)) :
    ∃ a o vs, φ[n]? = some a ∧ v = .ref a ∧ H a = some (.frz o (.tup vs)) ∧ o.cls = .type "tuple" ∧ o.dict = none ∧ VRs P φ H xs vs := by
  rw [VR] at r
  obtain ⟨a, h1, h2⟩ := r
  obtain ⟨o, vs, k⟩ := s.obj n _ a e h1
  exact ⟨a, o, vs, h1, h2, k⟩
section
variable {X : Cx} {P : Par} {W : WX} {a : Expr} {fa : IE → M IV}
theorem pe_coeI (ha : PE X a (tE P W fa)) : PE X a (tE P W (coeK fa)) := PE.weak ha fun σ H Q hq => by
  obtain ⟨φ, h, σi, s, se, p⟩ := hq
  refine ⟨φ, h, σi, s, se, ?_⟩
  unfold coeK at p
  cases e : fa σi h with
  | ok v h1 =>
    simp only [e, Out.bind] at p
    intro φ' H' x ex s' r
    split at p
    · split at p
      · rename_i xs q
        obtain ⟨b, o, vs, h1, rfl, h2, _, _, h3⟩ := s'.ktp r q
        exact p φ' H' _ ex s' (by rw [VR]; exact ⟨b, vs, rfl, .inl (.inr ⟨o, h2⟩), h3⟩)
      · exact p φ' H' x ex s' r
    · exact p φ' H' x ex s' r
  | ex v h1 => simp only [e, Out.bind] at p; exact p
  | no => simp only [e, Out.bind] at p; exact p
end

section
variable {X : Cx} {P : Par} {W : WX} {o e : Expr} {apos cpos : Pos}
end

section
variable {P : Par} {W : WX} {φ φ' : List Addr} {H H' : Hp} {h h' : IH}
end
section
variable {X : Cx} {P : Par} {W : WX} {a : Expr} {es : List Expr} {x : Str} {k np : Nat} {c : CM} {fs : IE → M (List IV)} {av : List Addr} {p0 pos : Pos}
end
end EV
namespace EV
open PySem PySem.Spec PyProof.Rows L2
section
variable {X : Cx} {P : Par} {W : WX}
variable {elt tg iter : Expr} {ifs : List Expr} {scope : Scope} {pos : Pos} {fi : IE → M (List IV)} {g : TM} {t : IE → M Bool} {f : IE → M IV} {av : List Addr}
end
end EV
namespace EV
open PySem PySem.Spec PyProof.Rows L2 RZ
theorem tup_mul1 (l : Addr) (items : Array Value) (n : Nat) (dd : Option Addr) (sl : Array (Option Value)) (u : Tok) :
    Meets (Builtin.«tuple.__mul__» ⟨[.ref l, .int 1 u], []⟩) (fun _ R s => s.heap.get? l = some { cls := .type "tuple", dict := dd, data := .seq items n, slots := sl } ∧ R (.ok (.ret (Value.ref l))) s) := .of_wp fun prog w A R s h => by
  obtain ⟨hp, g, d, tk, os⟩ := s; obtain ⟨hl, h⟩ := h; have f1 := AutoSeq1.idx_int
  wp_walk using wpAny_loadPart' hl
  repeat (first
    | (refine wpAny_ite_false (decide_eq_false (by decide)) ?_; wp_walk using wpAny_loadPart' hl)
    | (refine wpAny_ite_true (decide_eq_true (by simp)) ?_; wp_walk using wpAny_loadPart' hl))
  exact ⟨_, rfl, h⟩
def mulEI : G2 := fun x y h => match x, y with
  | .tup xs, .int 1 => .ok (.tup xs) h
  | _, _ => mulLI x y h
section
variable {X : Cx} {P : Par} {W : WX}
theorem op_rep1 : OpR X (binaryOp .Mult) (fun x y H Q => ∃ l xs, x = .ref l ∧ y = .int 1 ∧ SqT X.K H l xs ∧ Q (.ref l) H) := fun pins s σ H x y v u Q I rx ry ⟨l, xs, ex, ey, hT, q⟩ => by
  subst ex; subst ey
  obtain rfl : v = Value.ref l := rx
  obtain ⟨t, rfl⟩ := ry
  obtain ⟨its, r, ⟨⟨cls, dd, data, sl⟩, ho, hc, n, hd⟩, hs⟩ := I.tuple hT
  obtain rfl : cls = _ := hc
  obtain rfl : data = _ := hd
  exact wpAny_binaryOp_repeat_ref (T := "tuple") (U := "int") (by decide) ⟨_, ho, rfl⟩ (fun s' => typeIs_int s' 1 t) noFill_tuple_mul F.fills_int_mul F.slot_int_rmul repeat_tuple F.slot_int_index.lookup
    (call_meets F.slot_int_rmul (typeIs_int s 1 t) F.entry_int_rmul (F.args_int_rmul_2 _ _) (int_rmul_tuple 1 t l its.toArray n dd sl)
      ⟨ho, rfl, ⟨_, ho, rfl⟩, call_meets F.slot_tuple_mul ⟨_, ho, rfl⟩ F.entry_tuple_mul (F.args_tuple_mul_2 _ _) (tup_mul1 l its.toArray n dd sl t) ⟨ho, V.ref l, H, I, rfl, q⟩⟩)
theorem op_mulEI (hK : X.K = P.K) : OpR X (binaryOp .Mult) (rG P W mulEI) := fun pins s σ H x y v u Q I rx ry ⟨φ, h, σ', va, vb, sr, ra, rb, p⟩ => by
  unfold mulEI at p
  split at p
  · rename_i xs
    obtain ⟨a, vs, rfl, h1, r1⟩ := ra.tupI
    rw [VR] at rb; subst rb
    exact op_rep1 pins s σ H _ _ v u Q I rx ry ⟨a, vs, rfl, rfl, by rw [hK]; exact h1, p φ H _ (Ext.refl _ _) sr ra⟩
  · exact op_mulLI hK pins s σ H x y v u Q I rx ry ⟨φ, h, σ', va, vb, sr, ra, rb, p⟩
end
end EV
namespace EV
open PySem PySem.Spec PyProof.Rows L2
section
variable {X : Cx} {P : Par} {pins : List (Addr × Obj)} {σ : L2.St} {H : Hp} {s : Shared} {av : List Addr}
end
/-- a lambda of one parameter, nothing captured -/
structure LamK (X : Cx) (P : Par) (av : List Addr) (k : Nat) (params : Arguments) (body : Expr) (scope : Scope) (y : Str) (N : List Str) (fb : IE → M IV) : Prop where
  sc : FnScope N [y] scope
  clo : cloFrom X.env.cells scope.names [] = []
  bind : ∀ (q : Str) (pm cv ctv u : Value), bindArgs (PySem.W.kla_fn "<lambda>" q params body scope [] pm cv ctv) ⟨[u], []⟩ = pure [(y, u)]
  body : ∀ (f c' : Addr) (A : Around) (outer : List Env) (s : Shared) (H : Hp), Room k (A.deeper (envOfC (X.env.qual ++ "<lambda>") scope s.heap.objs.size f (.ref c'))) → A.guards = some [] →
    PE (cxOf C8.CX0 X.prog X.w X.K X.mg X.base N (X.env.qual ++ "<lambda>") scope f (.ref c') A outer s H C8.E0) body (tE (P.at av) (fun _ _ _ _ => False) fb)
section
variable {X : Cx} {P : Par} {pins : List (Addr × Obj)} {σ : L2.St} {H : Hp} {s : Shared} {av : List Addr}
end
end EV
namespace EV
open PySem PySem.Spec PyProof.Rows L2
/-- a method of the class at C, found under the name m, at g -/
structure OwnM (K : PySem.W.Frag) (C g : Addr) (m : Str) : Prop where
  eq : PySem.W.findIn K (.ref C) m = some (some (.ref g))
  fn : PySem.W.isFn K (.ref g) = true
theorem OwnM.of {K : PySem.W.Frag} {C g : Addr} {m : Str} (T : Meth K C m g) : OwnM K C g m := ⟨T.at_, T.fn⟩
def keepS : Out IV → Out IV
  | .ok (.str x) h => .ok (.str x) h
  | _ => .no
def keepN : Out IV → Out IV
  | .ok (.int i) h => if 0 ≤ i ∧ i < 2 ^ 62 then .ok (.int i) h else .no
  | _ => .no
section
variable {X : Cx} {P : Par} {W : WX} {k : Nat} {cm : CM} {av : List Addr} {g : Addr}
theorem Post.keepS {σ : L2.St} {φ : List Addr} {H : Hp} {Q : VK} {o : Out IV} (p : Post P W σ φ H Q (EV.keepS o)) : Post P W σ φ H (fun z H' => ∃ x, z = V.str x ∧ Q z H') o := by
  cases o with
  | no => exact p.elim
  | ex e h' => exact p.elim
  | ok z h' =>
    cases z with
    | str x =>
      intro φ' H' v ex s' r
      have r' := r
      rw [VR] at r'
      exact ⟨x, r', p φ' H' v ex s' r⟩
    | _ => exact p.elim
theorem Post.keepN {σ : L2.St} {φ : List Addr} {H : Hp} {Q : VK} {o : Out IV} (p : Post P W σ φ H Q (EV.keepN o)) : Post P W σ φ H (fun z H' => ∃ i, z = V.int i ∧ (0 ≤ i ∧ i < 2 ^ 62) ∧ Q z H') o := by
  cases o with
  | no => exact p.elim
  | ex e h' => exact p.elim
  | ok z h' =>
    cases z with
    | int i =>
      have p' : Post P W σ φ H Q (if 0 ≤ i ∧ i < 2 ^ 62 then .ok (.int i) h' else .no) := p
      split at p'
      · rename_i hi
        intro φ' H' v ex s' r
        have r' := r
        rw [VR] at r'
        exact ⟨i, r', hi, p' φ' H' v ex s' r⟩
      · exact p'.elim
    | _ => exact p.elim
end
end EV
namespace EV
open PySem PySem.Spec PyProof.Rows L2
section
variable {X : Cx} {P : Par} {W : WX}
end
end EV
namespace EV
open PySem PySem.Spec PyProof.Rows L2
section
variable {X : Cx} {P : Par} {W : WX} {e : Expr} {p pos apos cpos : Pos}
end
end EV
namespace EV
open PySem PySem.Spec PyProof.Rows L2
section
variable {X : Cx} {P : Par} {pins : List (Addr × Obj)} {σ : L2.St} {H : Hp} {s : Shared} {av : List Addr}
end
section
variable {X : Cx} {P : Par} {W : WX} {av : List Addr}
end
end EV
namespace EV
open PySem PySem.Spec PyProof.Rows L2 RZ
section
variable {X : Cx} {P : Par} {W : WX}
end
end EV
namespace EV
open PySem PySem.Spec PyProof.Rows L2 RZ
section
variable {P : Par} {φ : List Addr} {H : Hp} {D : Addr} {av : List Addr}
end
section
variable {X : Cx} {P : Par} {W : WX}
variable {kx vx tg iter : Expr} {ifs : List Expr} {scope : Scope} {pos : Pos} {fi : IE → M (List IV)} {g : TM} {t : IE → M Bool} {fk fv : IE → M IV} {av : List Addr}
end
end EV
namespace EV
open PySem PySem.Spec PyProof.Rows L2 RZ
mutual
def plnV : IV → Bool
  | .non => true
  | .bl _ => true
  | .int _ => true
  | .str _ => true
  | .tup xs => plnVs xs
  | _ => false
def plnVs : List IV → Bool
  | [] => true
  | x :: xs => plnV x && plnVs xs
end
section
variable {X : Cx} {P : Par} {W : WX} {φ : List Addr} {H : Hp} {h : IH} {pins : List (Addr × Obj)} {σ : L2.St} {s : Shared}
end
end EV
namespace EV
open PySem PySem.Spec PyProof.Rows L2
section
variable {prog : Program} {w : World} {A : Around} {E : Value → Shared → Prop} {s : Shared}
/-- where an enumerate stands: untouched, or with its first pair out -/
def EnSt (h : Heap) (e it : Addr) (i : Nat) (no : Addr → Prop) : Prop :=
  (i = 0 ∧ IsEnum h e it 0 .none) ∨ ∃ T f old oT, IsEnumHeld h e it (i : Int) old T f ∧ h.get? T = some oT ∧ T ≠ e ∧ T ≠ it ∧ no T
end
section
variable {X : Cx} {pins : List (Addr × Obj)} {σ : L2.St} {H : Hp} {s : Shared}
/-- the loop that gathers the pairs -/
structure EnAt (X : Cx) (pins : List (Addr × Obj)) (σ : L2.St) (H : Hp) (S e it a : Addr) (xs : List V) (i : Nat) (acc : Array Value) (c : Nat) (H' : Hp) (s' : Shared) : Prop where
  I : L2.Inv X pins σ H' s'
  ex : ∀ φ, Ext φ H φ H'
  un : ∀ (P : Par) φ h, SR P φ H h → SR P φ H' h
  nS : H' S = none
  ne : H' e = none
  ni : H' it = none
  lS : s'.heap.get? S = some { cls := .type "list", dict := none, data := .seq acc c, slots := #[] }
  en : EnSt s'.heap e it i fun T => T ≠ S
  hit : s'.heap.IsTupleIter it a i
  sq : SqT X.K H' a xs
  sz : acc.size = i
  got : ∀ (j : Nat) (u : Value), acc[j]? = some u → ∃ T x, u = .ref T ∧ H' T = some (.tup [.int (j : Int), x]) ∧ xs[j]? = some x
/-- what the loop leaves -/
structure EnFin (X : Cx) (pins : List (Addr × Obj)) (σ : L2.St) (H : Hp) (S : Addr) (xs : List V) (acc : Array Value) (c : Nat) (H' : Hp) (s' : Shared) : Prop where
  I : L2.Inv X pins σ H' s'
  ex : ∀ φ, Ext φ H φ H'
  un : ∀ (P : Par) φ h, SR P φ H h → SR P φ H' h
  lS : s'.heap.get? S = some { cls := .type "list", dict := none, data := .seq acc c, slots := #[] }
  sz : acc.size = xs.length
  got : ∀ (j : Nat) (u : Value), acc[j]? = some u → ∃ T x, u = .ref T ∧ H' T = some (.tup [.int (j : Int), x]) ∧ xs[j]? = some x
end
section
variable {X : Cx} {P : Par} {W : WX} {e : Expr} {es : List Expr} {fa fs : IE → M (List IV)} {p pos p0 : Pos}
end
end EV
namespace EV
open PySem PySem.Spec PyProof.Rows L2 L2X RZ

def tupKI : RM := fun xs h => match xs with
  | [v] => match lsR h v with
    | some ys => .ok (.ref h.length) (h ++ [.ktp ys])
    | none => .no
  | _ => .no
section
variable {X : Cx} {P : Par} {W : WX}
theorem cr_tupKI (hK : X.K = P.K) : CallR X (.type "tuple") (rB P W tupKI) := by
  intro pins s σ H xs us Q I rs ⟨φ, h, σ', ivs, sr, r, p⟩
  unfold tupKI at p
  split at p
  case h_2 => exact p.elim
  rename_i iv
  split at p
  case h_2 => exact p.elim
  rename_i ys e
  obtain ⟨v0, rfl, r1⟩ := r.one
  obtain ⟨u, rfl, ru⟩ := vals1 rs
  obtain ⟨l, vs, rfl, hl, rv⟩ := sr.lsR r1 e
  cases (show u = Value.ref l from ru)
  obtain ⟨its, tv, pl, hz⟩ := I.list (show SqL X.K H l vs by rw [hK]; exact hl)
  have sz : its.length ≤ sizeLine := by rw [← tv.length]; exact hz
  refine call_tuple_list pl.isList (fun h' hk => ?_) (by simpa using sz)
  have I1 : Inv X pins σ H { s with heap := h', toks := s.toks } := I.kept (t' := s.toks) hk
  have new : H h'.objs.size = none := I1.hok.fresh (Nat.le_refl _)
  have there : (h'.push { cls := .type "tuple", data := .seq its.toArray }).get? h'.objs.size = some { cls := .type "tuple", data := .seq its.toArray } := Heap.get?_push_size _ rfl
  exact ⟨.ref h'.objs.size, _, I1.laid (t' := s.toks) (o := .frz { cls := .type "tuple", data := .seq its.toArray } (.tup vs)) (fun b u e => Heap.get?_push_of_some _ e) (Nat.le_refl _) ⟨there, hz, its, tv, _, there, rfl, _, rfl⟩, rfl, Post.newKt p sr rv new rfl rfl⟩
end

def idxD (h : IH) (x : IV) : List IV → Option Nat
  | [] => none
  | y :: ys => match eqD h y x with
    | some true => if ys.all (fun z => (eqD h z x).isSome) then some 0 else none
    | some false => (idxD h x ys).map (· + 1)
    | none => none
theorem idxD_ok {h : IH} {x : IV} : ∀ {ys : List IV} {j : Nat}, idxD h x ys = some j → (∃ y, ys[j]? = some y ∧ eqD h y x = some true) ∧ (∀ m y, m < j → ys[m]? = some y → eqD h y x = some false) ∧ ∀ y ∈ ys, (eqD h y x).isSome = true
  | [], j, e => by cases e
  | y :: ys, j, e => by
    unfold idxD at e
    split at e
    · rename_i q
      split at e
      · rename_i z
        cases e
        refine ⟨⟨y, rfl, q⟩, fun m _ hm => absurd hm (Nat.not_lt_zero _), fun w hw => ?_⟩
        rcases List.mem_cons.mp hw with rfl | hw
        · rw [q]; rfl
        · exact List.all_eq_true.mp z w hw
      · cases e
    · rename_i q
      obtain ⟨i, ei, rfl⟩ := Option.map_eq_some_iff.mp e
      obtain ⟨⟨w, h1, h2⟩, h3, h4⟩ := idxD_ok ei
      refine ⟨⟨w, by simpa using h1, h2⟩, fun m v hm hv => ?_, fun v hv => ?_⟩
      · cases m with
        | zero => cases (show y = v by simpa using hv); exact q
        | succ m => exact h3 m v (by omega) (by simpa using hv)
      · rcases List.mem_cons.mp hv with rfl | hv
        · rw [q]; rfl
        · exact h4 v hv
    · cases e
def tidxD (fo : IE → M IV) (fs : IE → M (List IV)) : IE → M IV := fun σ h => (fo σ h).bind fun o h => match o with
  | .ref n => (match h[n]? with
    | some (.ktp xs) => (fs σ h).bind fun vs h => (match vs with
      | [x] => (match idxD h x xs with
        | some j => .ok (.int (j : Nat)) h
        | none => .no)
      | _ => .no)
    | _ => .no)
  | _ => .no
section
variable {X : Cx} {P : Par} {W : WX} {o e : Expr} {apos cpos : Pos}
theorem mt_tidxD (hK : X.K = P.K) (hu : X.A.units + 65 < cLine) : MtR X "tuple.index" (fun x vs H Q => ∃ (φ : List Addr) (h : IH) (p : Addr) (ws : List V) (v : V) (xs : List IV) (y : IV) (j : Nat), x = .ref p ∧ vs = [v] ∧ SqT X.K H p ws ∧ SR P φ H h ∧ VRs P φ H xs ws ∧ VR P φ H y v ∧ idxD h y xs = some j ∧ Q (.int (j : Nat)) H) := by
  intro pins s σ H x vs v us Q I rx rs ⟨φ, h, p, ws, vv, xs, y, j, ex, ev, hq, sr, rws, ry, ei, q⟩
  subst ex; subst ev
  obtain rfl : v = Value.ref p := rx
  obtain ⟨u, rfl, t⟩ := vals1 rs
  obtain ⟨its, r, ⟨⟨cls, dd, dt, sl⟩, ho, hc, n, hd⟩, hz⟩ := I.tuple hq
  obtain rfl : cls = _ := hc
  obtain rfl : dt = _ := hd
  obtain ⟨⟨yj, g1, g2⟩, g3, g4⟩ := idxD_ok ei
  obtain ⟨_, dx, _, edx, _⟩ := eqD_some g2
  obtain ⟨asx, kx⟩ := Dp.reads I dx vv u (by rw [hK]; exact dat_Dp sr _ _ _ _ edx ry) t
  have hlen : its.length = xs.length := by rw [← r.length, ← rws.length]
  have item : ∀ m (hm : m < its.toArray.size), ∃ z d as, xs[m]? = some z ∧ z ∈ xs ∧ eqD h z y = some (d.eqv dx) ∧ Reads s.heap its.toArray[m] d as ∧ SeqAt.shaped d = true := fun m hm => by
    have hm' : m < xs.length := by simp at hm; omega
    obtain ⟨w, hw, rw1⟩ := rws.get (List.getElem?_eq_getElem hm')
    obtain ⟨a, ha, rw2⟩ := r.get (i := m) hw
    have mem := List.getElem_mem hm'
    obtain ⟨b, eb⟩ := Option.isSome_iff_exists.mp (g4 _ mem)
    obtain ⟨d, d', e1, e2, rfl⟩ := eqD_some eb
    rw [edx] at e2; cases e2
    obtain ⟨as, k1⟩ := Dp.reads I d w a (by rw [hK]; exact dat_Dp sr _ _ _ _ e1 rw1) rw2
    have ea : its.toArray[m] = a := by
      have := (List.getElem?_eq_some_iff.mp ha).2
      simpa using this
    exact ⟨_, d, as, List.getElem?_eq_getElem hm', mem, eb, by rw [ea]; exact k1, shaped_dat e1⟩
  have val : ∀ {a : Value} {d as}, Reads s.heap a d as → @decide (∃ d as, Reads s.heap a d as ∧ d.eqv dx = true) (Classical.propDecidable _) = d.eqv dx := fun {a d as} k => by
    by_cases z : d.eqv dx = true
    · rw [z]; exact @decide_eq_true _ (Classical.propDecidable _) ⟨d, as, k, z⟩
    · rw [Bool.not_eq_true] at z
      rw [z]
      refine @decide_eq_false _ (Classical.propDecidable _) fun ⟨d2, as2, k2, z2⟩ => ?_
      obtain ⟨rfl, _⟩ := Reads.unique k _ _ k2
      rw [z] at z2; cases z2
  have hj : j < its.toArray.size := by
    have := (List.getElem?_eq_some_iff.mp g1).1
    simp; omega
  refine call_meets PySem.F.slot_tuple_index ⟨_, ho, rfl⟩ PySem.F.entry_tuple_index (PySem.F.args_tuple_index_2 _ _) (TI.tuple_indexAt p its.toArray n dd sl u (fun a => @decide (∃ d as, Reads s.heap a d as ∧ d.eqv dx = true) (Classical.propDecidable _)) j hj ?_ fun m hm hmj => ?_)
    ⟨ho, fun a ha => ?_, .int (j : Nat), H, I.tok _, ⟨_, rfl⟩, q⟩
  · obtain ⟨z, d, as, h1, _, h3, h4, _⟩ := item j hj
    rw [g1] at h1; cases h1
    rw [g2] at h3
    exact (val h4).trans (Option.some.inj h3).symm
  · obtain ⟨z, d, as, h1, _, h3, h4, _⟩ := item m hm
    rw [g3 m z hmj h1] at h3
    exact (val h4).trans (Option.some.inj h3).symm
  · obtain ⟨m, hm, rfl⟩ := Array.mem_iff_getElem.mp ha
    obtain ⟨z, d, as, _, _, _, h4, h5⟩ := item m hm
    have kq := PySem.W.keq_at (A := X.A) h4 kx h5 (shaped_dat edx) ?_
    · rw [← val h4] at kq
      exact kq
    show X.A.units + 1 + 64 < cLine
    omega
theorem pe_tidxDI {fo : IE → M IV} {fs : IE → M (List IV)} (hK : X.K = P.K) (hu : X.A.units + 65 < cLine) (ho : PE X o (tE P W fo)) (ha : PA X [e] (tAr P W fs)) (hbase : attributeBase o "index" X.env (eval o X.env) = eval o X.env)
    (hfew : ((backTo cpos (starEach [e] X.env)).all (fun x => !x.1) && (backToKw cpos (keywordEach [] X.env)).all (fun x => x.1.isSome)
      && decide ([e].length + ([] : List Keyword).length + (if ([] : List Keyword).isEmpty then 0 else 1) < 30)) = true)
    (hline : (apos.endLine == cpos.line) = true) (hs : starEach [e] X.env = (false, eval e X.env) :: starEach [] X.env) (hplain : (backTo cpos (starEach [] X.env)).any (·.1) = false) :
    PE X (.Call (.Attribute o "index" apos) [e] [] cpos) (tE P W (tidxD fo fs)) :=
  PE.weak (pe_mth (T := "tuple") (id := "tuple.index") PySem.F.plainAttrs_tuple PySem.F.slot_tuple_index PySem.F.type_tuple_index (mt_tidxD hK hu) ho ha hbase hfew hline hs hplain) fun σ H Q hq => by
  obtain ⟨φ, h, σi, s, se, p⟩ := hq
  refine ⟨φ, h, σi, s, se, ?_⟩
  unfold tidxD at p
  cases e1 : fo σi h with
  | ex v h1 => simp only [e1, Out.bind] at p; exact p
  | no => simp only [e1, Out.bind] at p; exact p
  | ok v h1 =>
    simp only [e1, Out.bind] at p
    split at p
    case h_2 => exact p.elim
    rename_i n
    split at p
    case h_2 => exact p.elim
    rename_i xs q
    intro φ1 H1 x ex1 s1 r1
    obtain ⟨a, ob, vs, hφ, rfl, hH, oc, od, rvs⟩ := s1.ktp r1 q
    refine ⟨fun pins σ s v I rv => ?_, φ1, h1, σi, s1, se.mono ex1, ?_⟩
    · obtain rfl : v = Value.ref a := rv
      have hg : s.heap.get? a = some ob := (I.hok a _ hH).1
      exact ⟨⟨ob, hg, oc⟩, fun b eb => by cases eb; exact ⟨ob, hg, od⟩⟩
    · cases e2 : fs σi h1 with
      | ex v h2 => simp only [e2] at p; exact Post.ext (Q := Q) (o := .ex v h2) p ex1
      | no => simp only [e2] at p; exact p
      | ok us h2 =>
        simp only [e2] at p
        intro φ2 H2 ws ex2 s2 r2
        split at p
        case h_2 => exact p.elim
        rename_i y
        split at p
        case h_2 => exact p.elim
        rename_i j ej
        obtain ⟨u, rfl, r3⟩ := r2.one
        have p2 := Post.ext (Post.ext p ex1) ex2
        exact ⟨φ2, h2, a, vs, u, xs, y, j, rfl, rfl, .inl (.inr ⟨ob, ex2.frzs _ _ _ hH⟩), s2, rvs.mono ex2, r3, ej, p2.ret s2 VR.i⟩
end

def ktO (h : IH) : IV → Option (List IV)
  | .ref n => (match h[n]? with
    | some (.ktp xs) => some xs
    | _ => none)
  | _ => none
def dctKI : RM := fun xs h => match xs with
  | [v] => match ktO h v with
    | some ys => match prsO ys with
      | some (ks, us) => if allKT ks = true ∧ ys.length ≤ 16777216 then .ok (.dct (dmerge [] [] ks us).1 (dmerge [] [] ks us).2) h else .no
      | none => .no
    | none => .no
  | _ => .no
section
variable {X : Cx} {P : Par} {W : WX}
theorem cr_dctKI (hK : X.K = P.K) (hw : X.w = P.w) (hc : X.calm = true) (hu : X.A.units + 65 < cLine) : CallR X (.type "dict") (rB P W dctKI) := by
  intro pins s σ H xs us Q I rs ⟨φ, h, σ', ivs, sr, r, p⟩
  unfold dctKI at p
  split at p
  case h_2 => exact p.elim
  rename_i iv
  split at p
  case h_2 => exact p.elim
  rename_i ys ey
  split at p
  case h_2 => exact p.elim
  rename_i ks us' ep
  split at p
  case isFalse => exact p.elim
  rename_i c
  obtain ⟨v0, rfl, r1⟩ := r.one
  obtain ⟨u, rfl, ru⟩ := vals1 rs
  unfold ktO at ey
  split at ey
  case h_2 => cases ey
  rename_i n
  split at ey
  case h_2 => cases ey
  rename_i zs qn
  cases ey
  obtain ⟨l, ob, vs, hφ, rfl, hH, oc, od, rv⟩ := sr.ktp r1 qn
  cases (show u = Value.ref l from ru)
  obtain ⟨hg, hz, its, tv, o1, e1, e2, n1, e3⟩ := I.hok l _ hH
  rw [hg] at e1; cases e1
  obtain ⟨ps, h1, h2, h3, h4⟩ := prs_link I hK ep c.1 rv tv
  have lp : its.length ≤ sizeLine := by rw [← tv.length]; exact hz
  refine call_dict_pairsH (knd := NK X) (ps := ps) (PairArg.tuple l its.toArray (fun j => match its[j]? with | some (.ref b) => b | _ => 0) (ps.map fun x => (Value.ref x.2.1, x.2.2))) (I.ok.hd hc) ?_ ⟨⟨ob, n1, hg, oc, od, e3⟩, ?_, fun j k v ej => ?_⟩ ⟨by simp, fun i key v ei => ?_⟩ (fun h' hk x hx => ?_) (by simpa [h2] using lp) fun h' tk hd' hk => ?_
  · show X.A.in1.in1.units + 8 < cLine
    have : X.A.in1.in1.units = X.A.units + 2 := rfl
    omega
  · simp [h2]
  · rw [List.getElem?_map] at ej
    obtain ⟨x, ex, ez⟩ := Option.map_eq_some_iff.mp ej
    cases ez
    obtain ⟨b, e1, e2⟩ := h3 j x ex
    refine ⟨?_, .inl ?_⟩
    · have e1' : its.toArray[j]? = some (Value.ref b) := by simpa using e1
      rw [e1']; simp only [e1]
    · simp only [e1]; exact e2
  · have ei : (ps.map fun x => (Value.ref x.2.1, x.2.2))[i]? = some (key, v) := ei
    rw [List.getElem?_map] at ei
    obtain ⟨x, ex, ez⟩ := Option.map_eq_some_iff.mp ei
    cases ez
    exact ⟨x.1, x.2.1, ex, rfl⟩
  · obtain ⟨g1, g2⟩ := h4 x hx
    refine ⟨NestedIs.at (fun a o vs n ha _ => hk a o (fun z => ?_) (by simp) ha) _ _ g1, g2⟩
    subst z
    exact absurd (Heap.lt_size ha) (Nat.lt_irrefl _)
  · obtain ⟨es', q1, q2, q3, q4, q5⟩ := mergeT_ok (X := X) (P := P) hw (xs := []) (es := []) (ks := []) (us := []) h1 .nil rfl VRs.nil VRs.nil List.nodup_nil keysOk_nil
    have hm : (s.heap.objs.size == sysModules) = false := beq_eq_false_iff_ne.mpr (Nat.ne_of_gt I.big)
    have hl' : es'.length ≤ sizeLine := by
      have : es'.length ≤ ps.length := by simpa using q5
      omega
    obtain ⟨o', raw⟩ := raw_of (X := X) (.tup _ hd') hm hl' q1
    exact ⟨.ref s.heap.objs.size, _, I.laid (t' := tk) (o := DctO s.heap.objs.size o' es') (fun b o e => hk b o (by simp) e) (Nat.le_refl _) raw.objOk, rfl, p.newDct sr q2 q3 q4 (I.hok.fresh (Nat.le_refl _))⟩
end
end EV
namespace K17
open PySem PySem.Spec PyProof.Rows L2 EV
def fuel : Nat := 100000
def top (i : Nat) : Stmt := PySem.Challenge.pw_everycut_k17_whole_rows_told_by_cells.main.body.getD i (.Pass ⟨0, 0, 0, 0⟩)
def gG (K : PySem.W.Frag) : Nat → Addr := fun n => match n with
  | 1 => He.ga K "InvalidBlock"
  | 2 => He.ga K "InvalidRow"
  | _ => 0
def tbs (K : PySem.W.Frag) : List (Addr × Str) := []
def cs (K : PySem.W.Frag) : List (Addr × Addr) := []
abbrev PP (K : PySem.W.Frag) (w : World) : Par := ⟨K, gG K, w, [], tbs K⟩
def N_is_whole : List Str := ["value"]
def b_is_whole : SM := (seqS (retS (andE (bltE isaIB (consA (varE 0) (consA (cstE (.ty "int")) nilA))) (notE (bltE isaIB (consA (varE 0) (consA (cstE (.ty "bool")) nilA))))))
    nextS)
def c_is_whole : CM := defM 1 b_is_whole
def N_cells_of_row : List Str := ["key", "value"]
def b_cells_of_row : SM := (seqS (retS (tupE (consA (bltE lenI (consA (varE 0) nilA)) (starA (varE 0) (consA (bltE lenI (consA (varE 1) nilA)) (starA (varE 1) nilA))))))
    nextS)
def c_cells_of_row : CM := defM 2 b_cells_of_row
def N_part_told : List Str := ["cells", "at", "most", "goal"]
def b_part_told : SM := (seqS (ifS (orT (cmpT (ordE .GtE) (varE 1) (bltE lenI (consA (varE 0) nilA))) (orT (notT (chnT (ordE .LtE) (ordE .LtE) (cstE (.int 1)) (binE subD (varE 0) (varE 1)) (varE 2))) (cmpT (ordE .GtE) (binE addI (varE 1) (binE subD (varE 0) (varE 1))) (bltE lenI (consA (varE 0) nilA))))) (seqS (retS (cstE .non))
    nextS) nextS)
    (seqS (asgS (binE addI (binE addI (varE 1) (cstE (.int 1))) (binE subD (varE 0) (varE 1))) (gNm 3))
    (seqS (retS (tupE (consA (sliE (varE 0) (someO (binE addI (varE 1) (cstE (.int 1)))) (someO (varE 3))) (consA (varE 3) nilA))))
    nextS)))
def c_part_told : CM := defM 4 b_part_told
def N__law_vat : List Str := ["_law_script", "_law_spot", "_law_cell", "_law_great", "_law_mixed"]
def b__law_vat : SM := (seqS (asgS (iteE (cmpT (ordE .Lt) (varE 1) (bltE lenI (consA (varE 0) nilA))) (bltE intI (consA (binE subD (varE 0) (varE 1)) nilA)) (binE addI (binE mulEI (cstE (.int 173)) (varE 1)) (cstE (.int 59)))) (gNm 2))
    (seqS (asgS (binE modI (bltE intI (consA (bltE absI (consA (varE 2) nilA)) nilA)) (binE mulEI (binE powI (cstE (.int 10)) (cstE (.int 55))) (binE powI (cstE (.int 10)) (cstE (.int 58))))) (gNm 3))
    (seqS (asgS (binE addI (binE addI (binE addI (binE mulEI (binE modI (varE 3) (cstE (.int 2305843009213693921))) (cstE (.int 71))) (binE mulEI (cstE (.int 1103)) (varE 1))) (binE mulEI (cstE (.int 37)) (bltE intI (consA (binE (ordE .Lt) (varE 2) (cstE (.int 0))) nilA)))) (cstE (.int 23))) (gNm 4))
    (seqS (retS (refE (capA (consA (bltE maxI (consA (cstE (.int 0)) (consA (binE subI (varE 3) (binE powI (cstE (.int 10)) (cstE (.int 16)))) nilA))) (consA (binE modI (bltE intI (consA (varE 4) nilA)) (cstE (.int 1152921504606846869))) (consA (cstE (.int 0)) nilA))))))
    nextS))))
def c__law_vat : CM := defM 5 b__law_vat
def N__law_drop : List Str := ["_law_vat_here", "_law_total", "_law_one", "_law_two", "_law_found"]
def b__law_drop : SM := (seqS (ifS (cmpT (ordE .Gt) (binE subD (varE 0) (cstE (.int 0))) (cstE (.int 0))) (seqS (asgS (binE modI (bltE intI (consA (binE subD (varE 0) (cstE (.int 0))) nilA)) (varE 1)) (gNm 4))
    (seqS (asgS (binE fdivI (binE subD (varE 0) (cstE (.int 0))) (varE 1)) (gSb putM (varE 0) (cstE (.int 0))))
    (seqS (retS (varE 4))
    nextS))) nextS)
    (seqS (asgS (binE addI (binE subD (varE 0) (cstE (.int 2))) (cstE (.int 1))) (gSb putM (varE 0) (cstE (.int 2))))
    (seqS (asgS (binE modI (bltE intI (consA (binE addI (binE subD (varE 0) (cstE (.int 1))) (binE mulEI (cstE (.int 49979687)) (binE subD (varE 0) (cstE (.int 2))))) nilA)) (cstE (.int 2305843009213693951))) (gNm 2))
    (seqS (asgS (binE addI (binE mulEI (binE modI (bltE intI (consA (binE addI (binE mulEI (varE 2) (varE 2)) (binE mulEI (cstE (.int 101)) (binE subD (varE 0) (cstE (.int 2))))) nilA)) (cstE (.int 2305843009213693921))) (cstE (.int 27644437))) (varE 2)) (gNm 3))
    (seqS (retS (binE modI (bltE intI (consA (binE fdivI (varE 3) (cstE (.int 65537))) nilA)) (varE 1)))
    nextS)))))
def c__law_drop : CM := defM 5 b__law_drop
def N__law_own_cells : List Str := ["_law_rows_here", "_law_found", "_law_key", "_law_value"]
def b__law_own_cells : SM := (seqS (asgS (tupE nilA) (gNm 1))
    (seqS (forS (anyIt (varE 0)) (gTp 2 (gsCons (gNm 2) (gsCons (gNm 3) gsNil))) (seqS (asgS (binE addI (binE addI (binE addI (binE addI (varE 1) (tupE (consA (bltE lenI (consA (varE 2) nilA)) nilA))) (varE 2)) (tupE (consA (bltE lenI (consA (varE 3) nilA)) nilA))) (varE 3)) (gNm 1))
    nextS))
    (seqS (retS (varE 1))
    nextS)))
def c__law_own_cells : CM := defM 4 b__law_own_cells
def N__law_stretch : List Str := ["_law_cells_here", "_law_at", "_law_most"]
def b__law_stretch : SM := (seqS (ifS (orT (cmpT (ordE .GtE) (varE 1) (bltE lenI (consA (varE 0) nilA))) (orT (notT (chnT (ordE .LtE) (ordE .LtE) (cstE (.int 1)) (binE subD (varE 0) (varE 1)) (varE 2))) (cmpT (ordE .GtE) (binE addI (varE 1) (binE subD (varE 0) (varE 1))) (bltE lenI (consA (varE 0) nilA))))) (seqS (retS (cstE .non))
    nextS) nextS)
    (seqS (retS (tupE (consA (sliE (varE 0) (someO (binE addI (varE 1) (cstE (.int 1)))) (someO (binE addI (binE addI (varE 1) (cstE (.int 1))) (binE subD (varE 0) (varE 1))))) (consA (binE addI (binE addI (varE 1) (cstE (.int 1))) (binE subD (varE 0) (varE 1))) nilA))))
    nextS))
def c__law_stretch : CM := defM 3 b__law_stretch
def N__law_is_cells : List Str := ["_law_value", "_law_most", "_law_cell"]
def b__law_is_cells : SM := (seqS (ifS (orT (notT (truT (bltE isaIB (consA (varE 0) (consA (cstE (.ty "tuple")) nilA))))) (notT (chnT (ordE .LtE) (ordE .LtE) (cstE (.int 1)) (bltE lenI (consA (varE 0) nilA)) (varE 1)))) (seqS (retS (cstE (.bl false)))
    nextS) nextS)
    (seqS (retS (binE eqNilI (lcI (anyIt (varE 0)) (gNm 2) (orT (notT (truT (bltE isaIB (consA (varE 2) (consA (cstE (.ty "int")) nilA))))) (orT (truT (bltE isaIB (consA (varE 2) (consA (cstE (.ty "bool")) nilA)))) (notT (chnT (ordE .LtE) (ordE .Lt) (cstE (.int 0)) (varE 2) (binE powI (cstE (.int 10)) (cstE (.int 18))))))) (cstE (.int 1)) [2]) (lstE (capA nilA))))
    nextS))
def c__law_is_cells : CM := defM 3 b__law_is_cells
def N__law_near_rows : List Str := ["_law_vat_here", "_law_rows_here", "_law_found", "_law_row", "_law_at", "_law_odd", "_law_one", "_law_cell"]
def b__law_near_rows : SM := (seqS (asgS (refE (capA (consA (coeK (varE 1)) (consA (revE (coeK (varE 1))) (consA (binE addI (coeK (varE 1)) (coeK (varE 1))) (consA (bltE listDI (consA (coeK (varE 1)) nilA)) (consA (cstE .non) (consA (tupE nilA) (consA dct0E (consA (cstE (.int 5)) (consA (cstE (.str "rows")) (consA (bltE dctKI (consA (varE 1) nilA)) (consA (tupE (consA (tupE (consA (tupE (consA (cstE (.int 1)) nilA)) (consA (tupE (consA (cstE (.int 2)) nilA)) nilA))) nilA)) (consA (tupE (consA (tupE (consA (cstE (.int 1)) nilA)) (consA (tupE (consA (cstE (.int 2)) nilA)) nilA))) nilA)))))))))))))) (gNm 2))
    (seqS (forS (anyIt (binE addI (sliE (coeK (varE 1)) noneO (someO (cstE (.int 1)))) (sliE (coeK (varE 1)) (someO (negE (cstE (.int 1)))) noneO))) (gNm 3) (seqS (asgS (tidxD (varE 1) (consA (varE 3) nilA)) (gNm 4))
    (seqS (asgS (refE (capA (consA (bltE listDI (consA (varE 3) nilA)) (consA (binE addI (varE 3) (varE 3)) (consA (sliE (varE 3) noneO (someO (cstE (.int 1)))) (consA (tupE (consA (bltE listDI (consA (binE subD (varE 3) (cstE (.int 0))) nilA)) (consA (binE subD (varE 3) (cstE (.int 1))) nilA))) (consA (tupE (consA (binE subD (varE 3) (cstE (.int 0))) (consA (bltE listDI (consA (binE subD (varE 3) (cstE (.int 1))) nilA)) nilA))) (consA (tupE (consA (tupE nilA) (consA (binE subD (varE 3) (cstE (.int 1))) nilA))) (consA (tupE (consA (binE subD (varE 3) (cstE (.int 0))) (consA (tupE nilA) nilA))) nilA))))))))) (gNm 5))
    (seqS (asgS (binE addRI (varE 5) (lstE (capA (consA (tupE (consA (binE addI (binE subD (varE 3) (cstE (.int 0))) (tupE (consA (cstE (.int 0)) (consA (cstE (.int 0)) (consA (cstE (.int 0)) nilA))))) (consA (binE subD (varE 3) (cstE (.int 1))) nilA))) (consA (tupE (consA (binE subD (varE 3) (cstE (.int 0))) (consA (binE addI (binE subD (varE 3) (cstE (.int 1))) (binE mulEI (tupE (consA (cstE (.int 0)) nilA)) (cstE (.int 8)))) nilA))) (consA (tupE (consA (binE addI (sliE (binE subD (varE 3) (cstE (.int 0))) noneO (someO (negE (cstE (.int 1))))) (tupE (consA (negE (cstE (.int 1))) nilA))) (consA (binE subD (varE 3) (cstE (.int 1))) nilA))) (consA (cstE .non) nilA))))))) (gNm 5))
    (seqS (asgS (binE addRI (varE 5) (lstE (capA (consA (tupE (consA (binE subD (varE 3) (cstE (.int 0))) (consA (binE addI (sliE (binE subD (varE 3) (cstE (.int 1))) noneO (someO (negE (cstE (.int 1))))) (tupE (consA (binE powI (cstE (.int 10)) (cstE (.int 18))) nilA))) nilA))) (consA (tupE (consA (binE subD (varE 3) (cstE (.int 0))) (consA (binE addI (sliE (binE subD (varE 3) (cstE (.int 1))) noneO (someO (negE (cstE (.int 1))))) (tupE (consA (cstE .non) nilA))) nilA))) (consA (tupE (consA (binE addI (sliE (binE subD (varE 3) (cstE (.int 0))) noneO (someO (negE (cstE (.int 1))))) (tupE (consA (cstE (.str "1")) nilA))) (consA (binE subD (varE 3) (cstE (.int 1))) nilA))) nilA)))))) (gNm 5))
    (seqS (exprS (mthE "list" appM (varE 5) (consA (tupE (consA (bltE tupleI (consA (lcI (anyIt (binE subD (varE 3) (cstE (.int 0)))) (gNm 7) yesT (iteE (cmpT inDct (varE 7) (tupE (consA (cstE (.int 0)) (consA (cstE (.int 1)) nilA)))) (binE eqDI (varE 7) (cstE (.int 1))) (varE 7)) [7]) nilA)) (consA (binE subD (varE 3) (cstE (.int 1))) nilA))) nilA)))
    (seqS (exprS (mthE "list" appM (varE 5) (consA (tupE (consA (binE subD (varE 3) (cstE (.int 0))) (consA (bltE tupleI (consA (lcI (anyIt (binE subD (varE 3) (cstE (.int 1)))) (gNm 7) yesT (iteE (cmpT inDct (varE 7) (tupE (consA (cstE (.int 0)) (consA (cstE (.int 1)) nilA)))) (binE eqDI (varE 7) (cstE (.int 1))) (varE 7)) [7]) nilA)) nilA))) nilA)))
    (seqS (exprS (mthE "list" extM (varE 2) (consA (lcCI (refIt (varE 5)) (gNm 6) yesT (binE addI (binE addI (sliE (coeK (varE 1)) noneO (someO (varE 4))) (tupE (consA (varE 6) nilA))) (sliE (coeK (varE 1)) (someO (binE addI (varE 4) (cstE (.int 1)))) noneO)) [6]) nilA)))
    nextS))))))))
    (seqS (retS (varE 2))
    nextS)))
def c__law_near_rows : CM := defM 8 b__law_near_rows
def N_is_within_bounds : List Str := ["value", "least", "greatest"]
def b_is_within_bounds : SM := (seqS (retS (andE (callE none 1 c_is_whole (consA (varE 0) nilA)) (chnE (ordE .LtE) (ordE .LtE) (varE 1) (varE 0) (varE 2))))
    nextS)
def c_is_within_bounds : CM := defM 3 b_is_within_bounds
def N_row_told : List Str := ["cells", "at", "first", "last"]
def b_row_told : SM := (seqS (asgS (callE none 3 c_part_told (consA (varE 0) (consA (varE 1) (consA (cstE (.int 3)) nilA)))) (gNm 2))
    (seqS (asgS (iteE (cmpT isnI (varE 2) (cstE .non)) (callE none 3 c_part_told (consA (varE 0) (consA (binE subD (varE 2) (cstE (.int 1))) (consA (cstE (.int 8)) nilA)))) (cstE .non)) (gNm 3))
    (seqS (retS (iteE (cmpT isnI (varE 3) (cstE .non)) (tupE (consA (binE subD (varE 2) (cstE (.int 0))) (consA (binE subD (varE 3) (cstE (.int 0))) (consA (binE subD (varE 3) (cstE (.int 1))) nilA)))) (cstE .non)))
    nextS)))
def c_row_told : CM := defM 4 b_row_told
def N__law_taste : List Str := ["_law_vat_here", "_law_items"]
def b__law_taste : SM := (seqS (retS (binE subD (varE 1) (callE none 2 c__law_drop (consA (varE 0) (consA (bltE lenI (consA (varE 1) nilA)) nilA)))))
    nextS)
def c__law_taste : CM := defM 2 b__law_taste
def N__law_read : List Str := ["_law_cells_here", "_law_found", "_law_at", "_law_key", "_law_value", "_law_row"]
def b__law_read : SM := (seqS (parS 1 2 (consA (refE (capA nilA)) (consA (cstE (.int 0)) nilA)))
    (seqS (whileL (cmpT (ordE .Lt) (varE 2) (bltE lenI (consA (varE 0) nilA))) (seqS (asgS (callE none 3 c__law_stretch (consA (varE 0) (consA (varE 2) (consA (cstE (.int 3)) nilA)))) (gNm 3))
    (seqS (asgS (iteE (cmpT isnI (varE 3) (cstE .non)) (callE none 3 c__law_stretch (consA (varE 0) (consA (binE subD (varE 3) (cstE (.int 1))) (consA (cstE (.int 8)) nilA)))) (cstE .non)) (gNm 4))
    (seqS (ifS (orT (cmpT isI (varE 4) (cstE .non)) (cmpT neNilI (lcCI (refIt (varE 1)) (gNm 5) (cmpT (ordE .GtE) (binE subD (varE 5) (cstE (.int 0))) (binE subD (varE 3) (cstE (.int 0)))) (cstE (.int 1)) [5]) (lstE (capA nilA)))) (seqS (retS (cstE .non))
    nextS) nextS)
    (seqS (exprS (mthE "list" appM (varE 1) (consA (tupE (consA (binE subD (varE 3) (cstE (.int 0))) (consA (binE subD (varE 4) (cstE (.int 0))) nilA))) nilA)))
    (seqS (asgS (binE subD (varE 4) (cstE (.int 1))) (gNm 2))
    nextS))))) fuel)
    (seqS (retS (bltE tupleI (consA (varE 1) nilA)))
    nextS)))
def c__law_read : CM := defM 6 b__law_read
def N__law_are_rows : List Str := ["_law_value", "_law_row", "_law_later"]
def b__law_are_rows : SM := (seqS (ifS (notT (truT (bltE isaIB (consA (varE 0) (consA (cstE (.ty "tuple")) nilA))))) (seqS (retS (cstE (.bl false)))
    nextS) nextS)
    (seqS (forS (anyIt (varE 0)) (gNm 1) (seqS (ifS (orT (notT (truT (bltE isaIB (consA (varE 1) (consA (cstE (.ty "tuple")) nilA))))) (orT (cmpT neDI (bltE lenI (consA (varE 1) nilA)) (cstE (.int 2))) (orT (notT (truT (callE none 2 c__law_is_cells (consA (binE subD (varE 1) (cstE (.int 0))) (consA (cstE (.int 3)) nilA))))) (notT (truT (callE none 2 c__law_is_cells (consA (binE subD (varE 1) (cstE (.int 1))) (consA (cstE (.int 8)) nilA)))))))) (seqS (retS (cstE (.bl false)))
    nextS) nextS)
    nextS))
    (seqS (retS (binE eqNilI (lcI (zipAny (consA (varE 0) (consA (sliE (varE 0) (someO (cstE (.int 1))) noneO) nilA))) (gTp 2 (gsCons (gNm 1) (gsCons (gNm 2) gsNil))) (notT (cmpT (ordE .Lt) (binE subD (varE 1) (cstE (.int 0))) (binE subD (varE 2) (cstE (.int 0))))) (cstE (.int 1)) [1, 2]) (lstE (capA nilA))))
    nextS)))
def c__law_are_rows : CM := defM 3 b__law_are_rows
def N_is_cell : List Str := ["value"]
def b_is_cell : SM := (seqS (retS (callE none 3 c_is_within_bounds (consA (varE 0) (consA (cstE (.int 0)) (consA (cstE (.int 999999999999999999)) nilA)))))
    nextS)
def c_is_cell : CM := defM 1 b_is_cell
def N_rows_in : List Str := ["cells", "found", "at", "told"]
def b_rows_in : SM := (seqS (parS 1 2 (consA (refE (capA nilA)) (consA (cstE (.int 0)) nilA)))
    (seqS (whileL (cmpT (ordE .Lt) (varE 2) (bltE lenI (consA (varE 0) nilA))) (seqS (asgS (callE none 2 c_row_told (consA (varE 0) (consA (varE 2) nilA))) (gNm 3))
    (seqS (ifS (orT (cmpT isI (varE 3) (cstE .non)) (andT (cmpT neNilI (varE 1) (lstE (capA nilA))) (cmpT (ordE .LtE) (binE subD (varE 3) (cstE (.int 0))) (binE subD (binE subD (varE 1) (negE (cstE (.int 1)))) (cstE (.int 0)))))) (seqS (retS (cstE .non))
    nextS) nextS)
    (seqS (exprS (mthE "list" appM (varE 1) (consA (tupE (consA (binE subD (varE 3) (cstE (.int 0))) (consA (binE subD (varE 3) (cstE (.int 1))) nilA))) nilA)))
    (seqS (asgS (binE subD (varE 3) (cstE (.int 2))) (gNm 2))
    nextS)))) fuel)
    (seqS (retS (iteE (cmpT (ordE .LtE) (bltE lenI (consA (varE 1) nilA)) (cstE (.int 2000))) (bltE tupleI (consA (varE 1) nilA)) (cstE .non)))
    nextS)))
def c_rows_in : CM := defM 4 b_rows_in
def N__law_cells : List Str := ["_law_vat_here", "_law_least", "_law_most", "_law_many", "_law_top", "_law_turn"]
def b__law_cells : SM := (seqS (asgS (binE addI (varE 1) (callE none 2 c__law_drop (consA (varE 0) (consA (binE addI (binE subI (varE 2) (varE 1)) (cstE (.int 1))) nilA)))) (gNm 3))
    (seqS (asgS (callE none 2 c__law_taste (consA (varE 0) (consA (lstE (capA (consA (cstE (.int 3)) (consA (cstE (.int 3)) (consA (cstE (.int 10)) (consA (binE powI (cstE (.int 10)) (cstE (.int 9))) (consA (binE powI (cstE (.int 10)) (cstE (.int 18))) nilA))))))) nilA))) (gNm 4))
    (seqS (retS (bltE tupleI (consA (lcI (rngIt (consA (varE 3) nilA)) (gNm 5) yesT (callE none 2 c__law_drop (consA (varE 0) (consA (varE 4) nilA))) [5]) nilA)))
    nextS)))
def c__law_cells : CM := defM 6 b__law_cells
def N_are_cells : List Str := ["value", "least", "most", "cell"]
def b_are_cells : SM := (seqS (retS (andE (bltE isaIB (consA (varE 0) (consA (cstE (.ty "tuple")) nilA))) (andE (chnE (ordE .LtE) (ordE .LtE) (varE 1) (bltE lenI (consA (varE 0) nilA)) (varE 2)) (bltE allI (consA (lcI (anyIt (varE 0)) (gNm 3) yesT (callE none 1 c_is_cell (consA (varE 3) nilA)) [3]) nilA)))))
    nextS)
def c_are_cells : CM := defM 4 b_are_cells
def N__law_rows : List Str := ["_law_vat_here", "_law_most", "_law_found", "_law_turn", "_law_key"]
def b__law_rows : SM := (seqS (asgS dct0R (gNm 2))
    (seqS (forS (rngIt (consA (callE none 2 c__law_drop (consA (varE 0) (consA (binE addI (varE 1) (cstE (.int 1))) nilA))) nilA)) (gNm 3) (seqS (asgS (callE none 3 c__law_cells (consA (varE 0) (consA (cstE (.int 1)) (consA (cstE (.int 8)) nilA)))) (gSb putM (varE 2) (callE none 3 c__law_cells (consA (varE 0) (consA (cstE (.int 1)) (consA (cstE (.int 3)) nilA))))))
    nextS))
    (seqS (retS (bltE tupKI (consA (lcI (anyIt (bltE sortedI (consA (varE 2) nilA))) (gNm 4) yesT (tupE (consA (varE 4) (consA (binE subD (varE 2) (varE 4)) nilA))) [4]) nilA)))
    nextS)))
def c__law_rows : CM := defM 5 b__law_rows
def N__law_near_cells : List Str := ["_law_vat_here", "_law_cells_here", "_law_at", "_law_bent", "_law_found"]
def b__law_near_cells : SM := (seqS (asgS (callE none 2 c__law_drop (consA (varE 0) (consA (binE addI (bltE lenI (consA (varE 1) nilA)) (cstE (.int 1))) nilA))) (gNm 2))
    (seqS (asgS (callE none 2 c__law_taste (consA (varE 0) (consA (lstE (capA (consA (cstE (.int 0)) (consA (cstE (.int 1)) (consA (cstE (.int 2)) (consA (cstE (.int 3)) (consA (cstE (.int 4)) (consA (cstE (.int 8)) (consA (cstE (.int 9)) (consA (binE subI (binE powI (cstE (.int 10)) (cstE (.int 18))) (cstE (.int 1))) nilA)))))))))) nilA))) (gNm 3))
    (seqS (asgS (lstE (capA (consA (binE addI (binE addI (sliE (varE 1) noneO (someO (varE 2))) (tupE (consA (varE 3) nilA))) (sliE (varE 1) (someO (binE addI (varE 2) (cstE (.int 1)))) noneO)) (consA (sliE (varE 1) noneO (someO (varE 2))) (consA (sliE (varE 1) (someO (varE 2)) noneO) (consA (binE addI (sliE (varE 1) noneO (someO (varE 2))) (sliE (varE 1) (someO (binE addI (varE 2) (cstE (.int 1)))) noneO)) (consA (binE addI (varE 1) (varE 1)) nilA))))))) (gNm 4))
    (seqS (retS (binE addI (varE 4) (lstE (capA (consA (binE addI (binE addI (sliE (varE 1) noneO (someO (varE 2))) (tupE (consA (varE 3) nilA))) (sliE (varE 1) (someO (varE 2)) noneO)) (consA (binE addI (varE 1) (tupE (consA (varE 3) nilA))) (consA (revE (varE 1)) (consA (callE none 3 c__law_cells (consA (varE 0) (consA (cstE (.int 0)) (consA (cstE (.int 9)) nilA)))) nilA))))))))
    nextS))))
def c__law_near_cells : CM := defM 5 b__law_near_cells
def N_is_key : List Str := ["value"]
def b_is_key : SM := (seqS (retS (callE none 3 c_are_cells (consA (varE 0) (consA (cstE (.int 1)) (consA (cstE (.int 3)) nilA)))))
    nextS)
def c_is_key : CM := defM 1 b_is_key
def N_is_row_value : List Str := ["value"]
def b_is_row_value : SM := (seqS (retS (callE none 3 c_are_cells (consA (varE 0) (consA (cstE (.int 1)) (consA (cstE (.int 8)) nilA)))))
    nextS)
def c_is_row_value : CM := defM 1 b_is_row_value
def N_rows_told : List Str := ["cells"]
def b_rows_told : SM := (seqS (ifS (notT (truT (callE none 3 c_are_cells (consA (varE 0) (consA (cstE (.int 0)) (consA (cstE (.int 30000)) nilA)))))) (seqS (raiS 1)
    nextS) nextS)
    (seqS (retS (callE (some true) 1 c_rows_in (consA (varE 0) nilA)))
    nextS))
def c_rows_told : CM := defM 1 b_rows_told
def N_is_row : List Str := ["value"]
def b_is_row : SM := (seqS (retS (andE (bltE isaIB (consA (varE 0) (consA (cstE (.ty "tuple")) nilA))) (andE (binE eqDI (bltE lenI (consA (varE 0) nilA)) (cstE (.int 2))) (andE (callE none 1 c_is_key (consA (binE subD (varE 0) (cstE (.int 0))) nilA)) (callE none 1 c_is_row_value (consA (binE subD (varE 0) (cstE (.int 1))) nilA))))))
    nextS)
def c_is_row : CM := defM 1 b_is_row
def N_row_cells : List Str := ["key", "value"]
def b_row_cells : SM := (seqS (ifS (orT (notT (truT (callE none 1 c_is_key (consA (varE 0) nilA)))) (notT (truT (callE none 1 c_is_row_value (consA (varE 1) nilA))))) (seqS (raiS 2)
    nextS) nextS)
    (seqS (retS (callE none 2 c_cells_of_row (consA (varE 0) (consA (varE 1) nilA))))
    nextS))
def c_row_cells : CM := defM 2 b_row_cells
def N_are_rows : List Str := ["value", "row", "later"]
def b_are_rows : SM := (seqS (ifS (orT (notT (truT (bltE isaIB (consA (varE 0) (consA (cstE (.ty "tuple")) nilA))))) (orT (cmpT (ordE .Gt) (bltE lenI (consA (varE 0) nilA)) (cstE (.int 2000))) (notT (truT (bltE allI (consA (lcI (anyIt (varE 0)) (gNm 1) yesT (callE none 1 c_is_row (consA (varE 1) nilA)) [1]) nilA)))))) (seqS (retS (cstE (.bl false)))
    nextS) nextS)
    (seqS (retS (bltE allI (consA (lcI (zipAny (consA (varE 0) (consA (sliE (varE 0) (someO (cstE (.int 1))) noneO) nilA))) (gTp 2 (gsCons (gNm 1) (gsCons (gNm 2) gsNil))) yesT (binE (ordE .Lt) (binE subD (varE 1) (cstE (.int 0))) (binE subD (varE 2) (cstE (.int 0)))) [1, 2]) nilA)))
    nextS))
def c_are_rows : CM := defM 3 b_are_rows
def N_require_rows : List Str := ["value"]
def b_require_rows : SM := (seqS (ifS (notT (truT (callE none 1 c_are_rows (consA (varE 0) nilA)))) (seqS (raiS 2)
    nextS) nextS)
    nextS)
def c_require_rows : CM := defM 1 b_require_rows
def N_rows_cells : List Str := ["rows", "found", "key", "value"]
def b_rows_cells : SM := (seqS (exprS (callE none 1 c_require_rows (consA (varE 0) nilA)))
    (seqS (asgS (refE (capA nilA)) (gNm 1))
    (seqS (forS (anyIt (varE 0)) (gTp 2 (gsCons (gNm 2) (gsCons (gNm 3) gsNil))) (seqS (exprS (mthE "list" extM (varE 1) (consA (callE none 2 c_cells_of_row (consA (varE 2) (consA (varE 3) nilA))) nilA)))
    nextS))
    (seqS (retS (bltE tupleI (consA (varE 1) nilA)))
    nextS))))
def c_rows_cells : CM := defM 4 b_rows_cells
def N__law_right : List Str := ["_law_vat_here", "_law_rows_here", "_law_cells_here", "_law_near", "_law_value", "_law_key", "_law_one"]
def b__law_right : SM := (seqS (asgS (callE none 2 c__law_rows (consA (varE 0) (consA (cstE (.int 12)) nilA))) (gNm 1))
    (seqS (asgS (callE none 1 c__law_own_cells (consA (coeK (varE 1)) nilA)) (gNm 2))
    (seqS (ifS (orT (cmpT neDI (callE (some true) 1 c_rows_cells (consA (coeK (varE 1)) nilA)) (varE 2)) (orT (cmpT neDI (callE none 1 c_rows_told (consA (varE 2) nilA)) (coeK (varE 1))) (cmpT neDI (callE (some true) 1 c__law_read (consA (varE 2) nilA)) (coeK (varE 1))))) (seqS (retS (cstE (.bl false)))
    nextS) nextS)
    (seqS (forS (anyIt (coeK (varE 1))) (gTp 2 (gsCons (gNm 5) (gsCons (gNm 4) gsNil))) (seqS (ifS (cmpT neDI (callE none 2 c_row_cells (consA (varE 5) (consA (varE 4) nilA))) (callE none 1 c__law_own_cells (consA (tupE (consA (tupE (consA (varE 5) (consA (varE 4) nilA))) nilA)) nilA))) (seqS (retS (cstE (.bl false)))
    nextS) nextS)
    nextS))
    (seqS (forS (anyIt (callE none 2 c__law_near_cells (consA (varE 0) (consA (varE 2) nilA)))) (gNm 3) (seqS (ifS (cmpT neDI (callE none 1 c_rows_told (consA (varE 3) nilA)) (callE (some true) 1 c__law_read (consA (varE 3) nilA))) (seqS (retS (cstE (.bl false)))
    nextS) nextS)
    nextS))
    (seqS (forS (anyIt (callE (some true) 2 c__law_near_rows (consA (varE 0) (consA (varE 1) nilA)))) (gNm 4) (seqS (ifS (cmpT neDI (bltE reprDI (consA (callE none 1 c_are_rows (consA (varE 4) nilA)) nilA)) (bltE reprDI (consA (callE none 1 c__law_are_rows (consA (varE 4) nilA)) nilA))) (seqS (retS (cstE (.bl false)))
    nextS) nextS)
    (seqS (forS (anyIt (iteE (truT (bltE isaIB (consA (varE 4) (consA (cstE (.ty "tuple")) nilA)))) (varE 4) (tupE nilA))) (gNm 6) (seqS (ifS (cmpT neDI (bltE reprDI (consA (lstE (capA (consA (callE none 1 c_is_key (consA (varE 6) nilA)) (consA (callE none 1 c_is_row_value (consA (varE 6) nilA)) nilA)))) nilA)) (bltE reprDI (consA (lstE (capA (consA (callE none 2 c__law_is_cells (consA (varE 6) (consA (cstE (.int 3)) nilA))) (consA (callE none 2 c__law_is_cells (consA (varE 6) (consA (cstE (.int 8)) nilA))) nilA)))) nilA))) (seqS (retS (cstE (.bl false)))
    nextS) nextS)
    nextS))
    nextS)))
    (seqS (retS (cstE (.bl true)))
    nextS)))))))
def c__law_right : CM := defM 7 b__law_right
def N_law : List Str := ["_law_script", "_law_spot", "_law_told", "_law_keys", "_law_vat_here", "_law_key"]
def b_law : SM := (seqS (forS (rngIt (consA (bltE maxI (consA (cstE (.int 1)) (consA (bltE minI (consA (cstE (.int 3)) (consA (bltE lenI (consA (varE 0) nilA)) nilA))) nilA))) nilA)) (gNm 1) (dropS (seqS (asgS (callE (some false) 2 c__law_vat (consA (varE 0) (consA (varE 1) nilA))) (gNm 4))
    (seqS (ifS (orT (notT (truT (dropE (callE none 1 c__law_right (consA (varE 4) nilA))))) (notT (truT (dropE (callE none 1 c__law_right (consA (varE 4) nilA)))))) (seqS (retS (cstE (.bl false)))
    nextS) nextS)
    nextS))))
    (seqS (asgS (lstE (capA (consA (callE none 2 c_row_cells (consA (tupE (consA (cstE (.int 2)) (consA (cstE (.int 0)) (consA (cstE (.int 7)) nilA)))) (consA (tupE (consA (cstE (.int 16)) nilA)) nilA))) (consA (callE none 1 c_rows_told (consA (tupE (consA (cstE (.int 1)) (consA (cstE (.int 5)) (consA (cstE (.int 1)) (consA (cstE (.int 6)) (consA (cstE (.int 2)) (consA (cstE (.int 5)) (consA (cstE (.int 0)) (consA (cstE (.int 1)) (consA (cstE (.int 6)) nilA)))))))))) nilA)) (consA (callE none 1 c_rows_told (consA (binE mulEI (tupE (consA (cstE (.int 1)) (consA (cstE (.int 5)) (consA (cstE (.int 1)) (consA (cstE (.int 6)) nilA))))) (cstE (.int 2))) nilA)) (consA (callE none 1 c_rows_told (consA (tupE nilA) nilA)) nilA)))))) (gNm 2))
    (seqS (ifS (cmpT neDI (varE 2) (lstE (capA (consA (tupE (consA (cstE (.int 3)) (consA (cstE (.int 2)) (consA (cstE (.int 0)) (consA (cstE (.int 7)) (consA (cstE (.int 1)) (consA (cstE (.int 16)) nilA))))))) (consA (tupE (consA (tupE (consA (tupE (consA (cstE (.int 5)) nilA)) (consA (tupE (consA (cstE (.int 6)) nilA)) nilA))) (consA (tupE (consA (tupE (consA (cstE (.int 5)) (consA (cstE (.int 0)) nilA))) (consA (tupE (consA (cstE (.int 6)) nilA)) nilA))) nilA))) (consA (cstE .non) (consA (tupE nilA) nilA))))))) (seqS (retS (cstE (.bl false)))
    nextS) nextS)
    (seqS (asgS (lstE (capA (consA (tupE nilA) (consA (tupE (consA (cstE (.int 1)) nilA)) (consA (tupE (consA (cstE (.int 1)) (consA (cstE (.int 2)) (consA (cstE (.int 3)) nilA)))) (consA (tupE (consA (cstE (.int 1)) (consA (cstE (.int 2)) (consA (cstE (.int 3)) (consA (cstE (.int 4)) nilA))))) (consA (lstE (capA (consA (cstE (.int 1)) nilA))) (consA (tupE (consA (cstE (.bl true)) nilA)) (consA (tupE (consA (binE powI (cstE (.int 10)) (cstE (.int 18))) nilA)) (consA (cstE .non) nilA)))))))))) (gNm 3))
    (seqS (retS (binE eqDI (lcI (anyIt (varE 3)) (gNm 5) yesT (callE none 1 c_is_key (consA (varE 5) nilA)) [5]) (lstE (capA (consA (cstE (.bl false)) (consA (cstE (.bl true)) (consA (cstE (.bl true)) (consA (cstE (.bl false)) (consA (cstE (.bl false)) (consA (cstE (.bl false)) (consA (cstE (.bl false)) (consA (cstE (.bl false)) nilA))))))))))))
    nextS)))))
def c_law : CM := defM 6 b_law
structure Tab (Pr : Program) (K : PySem.W.Frag) (mg : Str → Option Value) : Prop where
  fr_abs : mg "abs" = none
  fr_all : mg "all" = none
  fr_bool : mg "bool" = none
  fr_dict : mg "dict" = none
  fr_int : mg "int" = none
  fr_isinstance : mg "isinstance" = none
  fr_len : mg "len" = none
  fr_list : mg "list" = none
  fr_max : mg "max" = none
  fr_min : mg "min" = none
  fr_range : mg "range" = none
  fr_repr : mg "repr" = none
  fr_sorted : mg "sorted" = none
  fr_tuple : mg "tuple" = none
  fr_zip : mg "zip" = none
  in_MAX_CELL : ∃ t, mg "MAX_CELL" = some (.int 999999999999999999 t)
  in_MOST_CELLS : ∃ t, mg "MOST_CELLS" = some (.int 30000 t)
  in_MOST_KEY : ∃ t, mg "MOST_KEY" = some (.int 3 t)
  in_MOST_ROWS : ∃ t, mg "MOST_ROWS" = some (.int 2000 t)
  in_MOST_VALUE : ∃ t, mg "MOST_VALUE" = some (.int 8 t)
  in_PAIR : ∃ t, mg "PAIR" = some (.int 2 t)
  fn_is_whole : mg "is_whole" = some (.ref (He.ga K "is_whole")) ∧ ∃ fd, FunD K "is_whole" "is_whole" (defArgs (top 6)) (defBody (top 6)) (defScope (top 6)) [] [] (He.ga K "is_whole") fd
  fn_cells_of_row : mg "cells_of_row" = some (.ref (He.ga K "cells_of_row")) ∧ ∃ fd, FunD K "cells_of_row" "cells_of_row" (defArgs (top 17)) (defBody (top 17)) (defScope (top 17)) [] [] (He.ga K "cells_of_row") fd
  fn_part_told : mg "part_told" = some (.ref (He.ga K "part_told")) ∧ ∃ fd, FunD K "part_told" "part_told" (defArgs (top 18)) (defBody (top 18)) (defScope (top 18)) [] [] (He.ga K "part_told") fd
  fn__law_vat : mg "_law_vat" = some (.ref (He.ga K "_law_vat")) ∧ ∃ fd, FunD K "_law_vat" "_law_vat" (defArgs (top 29)) (defBody (top 29)) (defScope (top 29)) [] [] (He.ga K "_law_vat") fd
  fn__law_drop : mg "_law_drop" = some (.ref (He.ga K "_law_drop")) ∧ ∃ fd, FunD K "_law_drop" "_law_drop" (defArgs (top 30)) (defBody (top 30)) (defScope (top 30)) [] [] (He.ga K "_law_drop") fd
  fn__law_own_cells : mg "_law_own_cells" = some (.ref (He.ga K "_law_own_cells")) ∧ ∃ fd, FunD K "_law_own_cells" "_law_own_cells" (defArgs (top 34)) (defBody (top 34)) (defScope (top 34)) [] [] (He.ga K "_law_own_cells") fd
  fn__law_stretch : mg "_law_stretch" = some (.ref (He.ga K "_law_stretch")) ∧ ∃ fd, FunD K "_law_stretch" "_law_stretch" (defArgs (top 35)) (defBody (top 35)) (defScope (top 35)) [] [] (He.ga K "_law_stretch") fd
  fn__law_is_cells : mg "_law_is_cells" = some (.ref (He.ga K "_law_is_cells")) ∧ ∃ fd, FunD K "_law_is_cells" "_law_is_cells" (defArgs (top 37)) (defBody (top 37)) (defScope (top 37)) [] [] (He.ga K "_law_is_cells") fd
  fn__law_near_rows : mg "_law_near_rows" = some (.ref (He.ga K "_law_near_rows")) ∧ ∃ fd, FunD K "_law_near_rows" "_law_near_rows" (defArgs (top 40)) (defBody (top 40)) (defScope (top 40)) [] [] (He.ga K "_law_near_rows") fd
  fn_is_within_bounds : mg "is_within_bounds" = some (.ref (He.ga K "is_within_bounds")) ∧ ∃ fd, FunD K "is_within_bounds" "is_within_bounds" (defArgs (top 7)) (defBody (top 7)) (defScope (top 7)) [] [] (He.ga K "is_within_bounds") fd
  fn_row_told : mg "row_told" = some (.ref (He.ga K "row_told")) ∧ ∃ fd, FunD K "row_told" "row_told" (defArgs (top 19)) (defBody (top 19)) (defScope (top 19)) [] [] (He.ga K "row_told") fd
  fn__law_taste : mg "_law_taste" = some (.ref (He.ga K "_law_taste")) ∧ ∃ fd, FunD K "_law_taste" "_law_taste" (defArgs (top 31)) (defBody (top 31)) (defScope (top 31)) [] [] (He.ga K "_law_taste") fd
  fn__law_read : mg "_law_read" = some (.ref (He.ga K "_law_read")) ∧ ∃ fd, FunD K "_law_read" "_law_read" (defArgs (top 36)) (defBody (top 36)) (defScope (top 36)) [] [] (He.ga K "_law_read") fd
  fn__law_are_rows : mg "_law_are_rows" = some (.ref (He.ga K "_law_are_rows")) ∧ ∃ fd, FunD K "_law_are_rows" "_law_are_rows" (defArgs (top 38)) (defBody (top 38)) (defScope (top 38)) [] [] (He.ga K "_law_are_rows") fd
  fn_is_cell : mg "is_cell" = some (.ref (He.ga K "is_cell")) ∧ ∃ fd, FunD K "is_cell" "is_cell" (defArgs (top 8)) (defBody (top 8)) (defScope (top 8)) [] [] (He.ga K "is_cell") fd
  fn_rows_in : mg "rows_in" = some (.ref (He.ga K "rows_in")) ∧ ∃ fd, FunD K "rows_in" "rows_in" (defArgs (top 20)) (defBody (top 20)) (defScope (top 20)) [] [] (He.ga K "rows_in") fd
  fn__law_cells : mg "_law_cells" = some (.ref (He.ga K "_law_cells")) ∧ ∃ fd, FunD K "_law_cells" "_law_cells" (defArgs (top 32)) (defBody (top 32)) (defScope (top 32)) [] [] (He.ga K "_law_cells") fd
  fn_are_cells : mg "are_cells" = some (.ref (He.ga K "are_cells")) ∧ ∃ fd, FunD K "are_cells" "are_cells" (defArgs (top 15)) (defBody (top 15)) (defScope (top 15)) [] [] (He.ga K "are_cells") fd
  fn__law_rows : mg "_law_rows" = some (.ref (He.ga K "_law_rows")) ∧ ∃ fd, FunD K "_law_rows" "_law_rows" (defArgs (top 33)) (defBody (top 33)) (defScope (top 33)) [] [] (He.ga K "_law_rows") fd
  fn__law_near_cells : mg "_law_near_cells" = some (.ref (He.ga K "_law_near_cells")) ∧ ∃ fd, FunD K "_law_near_cells" "_law_near_cells" (defArgs (top 39)) (defBody (top 39)) (defScope (top 39)) [] [] (He.ga K "_law_near_cells") fd
  fn_is_key : mg "is_key" = some (.ref (He.ga K "is_key")) ∧ ∃ fd, FunD K "is_key" "is_key" (defArgs (top 22)) (defBody (top 22)) (defScope (top 22)) [] [] (He.ga K "is_key") fd
  fn_is_row_value : mg "is_row_value" = some (.ref (He.ga K "is_row_value")) ∧ ∃ fd, FunD K "is_row_value" "is_row_value" (defArgs (top 23)) (defBody (top 23)) (defScope (top 23)) [] [] (He.ga K "is_row_value") fd
  fn_rows_told : mg "rows_told" = some (.ref (He.ga K "rows_told")) ∧ ∃ fd, FunD K "rows_told" "rows_told" (defArgs (top 27)) (defBody (top 27)) (defScope (top 27)) [] [] (He.ga K "rows_told") fd
  fn_is_row : mg "is_row" = some (.ref (He.ga K "is_row")) ∧ ∃ fd, FunD K "is_row" "is_row" (defArgs (top 16)) (defBody (top 16)) (defScope (top 16)) [] [] (He.ga K "is_row") fd
  fn_row_cells : mg "row_cells" = some (.ref (He.ga K "row_cells")) ∧ ∃ fd, FunD K "row_cells" "row_cells" (defArgs (top 25)) (defBody (top 25)) (defScope (top 25)) [] [] (He.ga K "row_cells") fd
  fn_are_rows : mg "are_rows" = some (.ref (He.ga K "are_rows")) ∧ ∃ fd, FunD K "are_rows" "are_rows" (defArgs (top 24)) (defBody (top 24)) (defScope (top 24)) [] [] (He.ga K "are_rows") fd
  fn_require_rows : mg "require_rows" = some (.ref (He.ga K "require_rows")) ∧ ∃ fd, FunD K "require_rows" "require_rows" (defArgs (top 21)) (defBody (top 21)) (defScope (top 21)) [] [] (He.ga K "require_rows") fd
  fn_rows_cells : mg "rows_cells" = some (.ref (He.ga K "rows_cells")) ∧ ∃ fd, FunD K "rows_cells" "rows_cells" (defArgs (top 26)) (defBody (top 26)) (defScope (top 26)) [] [] (He.ga K "rows_cells") fd
  fn__law_right : mg "_law_right" = some (.ref (He.ga K "_law_right")) ∧ ∃ fd, FunD K "_law_right" "_law_right" (defArgs (top 41)) (defBody (top 41)) (defScope (top 41)) [] [] (He.ga K "_law_right") fd
  fn_law : mg "law" = some (.ref (He.ga K "law")) ∧ ∃ fd, FunD K "law" "law" (defArgs (top 42)) (defBody (top 42)) (defScope (top 42)) [] [] (He.ga K "law") fd
  gl_InvalidBlock : mg "InvalidBlock" = some (.ref (He.ga K "InvalidBlock"))
  gl_InvalidRow : mg "InvalidRow" = some (.ref (He.ga K "InvalidRow"))
  er_InvalidBlock : ErrP K mg "InvalidBlock" (He.ga K "InvalidBlock")
  er_InvalidRow : ErrP K mg "InvalidRow" (He.ga K "InvalidRow")
section
variable {Pr : Program} {w : World} {K : PySem.W.Frag} {mg : Str → Option Value} {base : Heap}
theorem sc_is_whole : FnScope N_is_whole ["value"] (defScope (top 6)) := ⟨rfl, rfl, rfl, by decide +kernel, rfl, by decide +kernel, by decide +kernel⟩
theorem body_is_whole (T : Tab Pr K mg) (av : List Addr) (fA : Addr) (cdv : Value) (A : Around) (outer : List Env) (s : Shared) (H : Hp) (E : XK) (hr : Room 0 (A.deeper (envOfC "is_whole" (defScope (top 6)) s.heap.objs.size fA cdv))) (hgd : A.guards = some []) (hcd : cdv = .ref (codeA K fA)) :
    PSs (cxOf (L2.CX Pr w) Pr w K mg base N_is_whole "is_whole" (defScope (top 6)) fA cdv A outer s H E) (defBody (top 6)) (tS ((PP K w).at av) (fun c d _ H => E c d H) b_is_whole) := by
  have hu := units65 hr
  have hu4 := hr.units
  have sc := sc_is_whole
  have pa := passes_of (X := cxOf (L2.CX Pr w) Pr w K mg base N_is_whole "is_whole" (defScope (top 6)) fA cdv A outer s H E) rfl
  have tk := takes_of (X := cxOf (L2.CX Pr w) Pr w K mg base N_is_whole "is_whole" (defScope (top 6)) fA cdv A outer s H E) rfl rfl rfl rfl
  unfold b_is_whole
  exact (pss_consI (ps_retI (pe_andI rfl (pe_bltI (cr_isaI rfl) rfl T.fr_isinstance boot_isinstance (pa_consI (pe_varI (pe_var rfl (by first | exact Or.inl rfl | exact Or.inr (Or.inl rfl) | exact Or.inr (Or.inr rfl)) rfl rfl)) (pa_consI (pe_cstI (pe_bltn (v := .ty "int") (u := .type "int") rfl T.fr_int boot_int rfl (by decide) rfl) fun _ _ => VR.t) pa_nilI rfl) rfl) (by decide) rfl rfl rfl) (pe_one (pe_notI rfl (pe_bltI (cr_isaI rfl) rfl T.fr_isinstance boot_isinstance (pa_consI (pe_varI (pe_var rfl (by first | exact Or.inl rfl | exact Or.inr (Or.inl rfl) | exact Or.inr (Or.inr rfl)) rfl rfl)) (pa_consI (pe_cstI (pe_bltn (v := .ty "bool") (u := .type "bool") rfl T.fr_bool boot_bool rfl (by decide) rfl) fun _ _ => VR.t) pa_nilI rfl) rfl) (by decide) rfl rfl rfl)))))
    pss_nilI)
theorem ok_is_whole (T : Tab Pr K mg) (TB : ∀ p ∈ cs K, LamX.TabB base mg p.1 p.2) : FnI Pr w K mg base (PP K w) "is_whole" 1 1 c_is_whole := by
  obtain ⟨hm, fd, F⟩ := T.fn_is_whole
  exact FnI.all (ps := ["value"]) (fn_okI (P := PP K w) (f := b_is_whole) (N := N_is_whole) (ps := ["value"]) F sc_is_whole fun av cdv A outer s H E hr hgd hcd => body_is_whole T  av _ cdv A outer s H E hr hgd hcd) hm F.kp (F.bindsN fun _ _ _ _ _ _ us hl => match us, hl with | [_], _ => by kernel_rfl)
theorem sc_cells_of_row : FnScope N_cells_of_row ["key", "value"] (defScope (top 17)) := ⟨rfl, rfl, rfl, by decide +kernel, rfl, by decide +kernel, by decide +kernel⟩
theorem body_cells_of_row (T : Tab Pr K mg) (av : List Addr) (fA : Addr) (cdv : Value) (A : Around) (outer : List Env) (s : Shared) (H : Hp) (E : XK) (hr : Room 0 (A.deeper (envOfC "cells_of_row" (defScope (top 17)) s.heap.objs.size fA cdv))) (hgd : A.guards = some []) (hcd : cdv = .ref (codeA K fA)) :
    PSs (cxOf (L2.CX Pr w) Pr w K mg base N_cells_of_row "cells_of_row" (defScope (top 17)) fA cdv A outer s H E) (defBody (top 17)) (tS ((PP K w).at av) (fun c d _ H => E c d H) b_cells_of_row) := by
  have hu := units65 hr
  have hu4 := hr.units
  have sc := sc_cells_of_row
  have pa := passes_of (X := cxOf (L2.CX Pr w) Pr w K mg base N_cells_of_row "cells_of_row" (defScope (top 17)) fA cdv A outer s H E) rfl
  have tk := takes_of (X := cxOf (L2.CX Pr w) Pr w K mg base N_cells_of_row "cells_of_row" (defScope (top 17)) fA cdv A outer s H E) rfl rfl rfl rfl
  unfold b_cells_of_row
  exact (pss_consI (ps_retI (pe_tupI (pa_consI (pe_bltI (cr_lenI rfl) rfl T.fr_len boot_len (pa_consI (pe_varI (pe_var rfl (by first | exact Or.inl rfl | exact Or.inr (Or.inl rfl) | exact Or.inr (Or.inr rfl)) rfl rfl)) pa_nilI rfl) (by decide) rfl rfl rfl) (pa_starI rfl (pe_varI (pe_var rfl (by first | exact Or.inl rfl | exact Or.inr (Or.inl rfl) | exact Or.inr (Or.inr rfl)) rfl rfl)) (pa_consI (pe_bltI (cr_lenI rfl) rfl T.fr_len boot_len (pa_consI (pe_varI (pe_var rfl (by first | exact Or.inl rfl | exact Or.inr (Or.inl rfl) | exact Or.inr (Or.inr rfl)) rfl rfl)) pa_nilI rfl) (by decide) rfl rfl rfl) (pa_starI rfl (pe_varI (pe_var rfl (by first | exact Or.inl rfl | exact Or.inr (Or.inl rfl) | exact Or.inr (Or.inr rfl)) rfl rfl)) pa_nilI) rfl)) rfl)))
    pss_nilI)
theorem ok_cells_of_row (T : Tab Pr K mg) (TB : ∀ p ∈ cs K, LamX.TabB base mg p.1 p.2) : FnI Pr w K mg base (PP K w) "cells_of_row" 1 2 c_cells_of_row := by
  obtain ⟨hm, fd, F⟩ := T.fn_cells_of_row
  exact FnI.all (ps := ["key", "value"]) (fn_okI (P := PP K w) (f := b_cells_of_row) (N := N_cells_of_row) (ps := ["key", "value"]) F sc_cells_of_row fun av cdv A outer s H E hr hgd hcd => body_cells_of_row T  av _ cdv A outer s H E hr hgd hcd) hm F.kp (F.bindsN fun _ _ _ _ _ _ us hl => match us, hl with | [_, _], _ => by kernel_rfl)
theorem sc_part_told : FnScope N_part_told ["cells", "at", "most"] (defScope (top 18)) := ⟨rfl, rfl, rfl, by decide +kernel, rfl, by decide +kernel, by decide +kernel⟩
theorem body_part_told (T : Tab Pr K mg) (av : List Addr) (fA : Addr) (cdv : Value) (A : Around) (outer : List Env) (s : Shared) (H : Hp) (E : XK) (hr : Room 0 (A.deeper (envOfC "part_told" (defScope (top 18)) s.heap.objs.size fA cdv))) (hgd : A.guards = some []) (hcd : cdv = .ref (codeA K fA)) :
    PSs (cxOf (L2.CX Pr w) Pr w K mg base N_part_told "part_told" (defScope (top 18)) fA cdv A outer s H E) (defBody (top 18)) (tS ((PP K w).at av) (fun c d _ H => E c d H) b_part_told) := by
  have hu := units65 hr
  have hu4 := hr.units
  have sc := sc_part_told
  have pa := passes_of (X := cxOf (L2.CX Pr w) Pr w K mg base N_part_told "part_told" (defScope (top 18)) fA cdv A outer s H E) rfl
  have tk := takes_of (X := cxOf (L2.CX Pr w) Pr w K mg base N_part_told "part_told" (defScope (top 18)) fA cdv A outer s H E) rfl rfl rfl rfl
  unfold b_part_told
  exact (pss_consI (ps_ifI (PW.pt (pw_orI (pt_cmpI (op_ordI rfl hu4) (pe_varI (pe_var rfl (by first | exact Or.inl rfl | exact Or.inr (Or.inl rfl) | exact Or.inr (Or.inr rfl)) rfl rfl)) (pe_bltI (cr_lenI rfl) rfl T.fr_len boot_len (pa_consI (pe_varI (pe_var rfl (by first | exact Or.inl rfl | exact Or.inr (Or.inl rfl) | exact Or.inr (Or.inr rfl)) rfl rfl)) pa_nilI rfl) (by decide) rfl rfl rfl) rfl) (pw_orI (pt_notI (pt_chnI (op_ordI rfl hu4) (op_ordI rfl hu4) (pe_cstI pe_int fun _ _ => VR.i) (pe_subD rfl rfl hu (pe_varI (pe_var rfl (by first | exact Or.inl rfl | exact Or.inr (Or.inl rfl) | exact Or.inr (Or.inr rfl)) rfl rfl)) (pe_varI (pe_var rfl (by first | exact Or.inl rfl | exact Or.inr (Or.inl rfl) | exact Or.inr (Or.inr rfl)) rfl rfl)) fun _ _ => rfl) (pe_varI (pe_var rfl (by first | exact Or.inl rfl | exact Or.inr (Or.inl rfl) | exact Or.inr (Or.inr rfl)) rfl rfl)) rfl)) (pw_or1 (pt_cmpI (op_ordI rfl hu4) (pe_binI (op_addI rfl) (pe_varI (pe_var rfl (by first | exact Or.inl rfl | exact Or.inr (Or.inl rfl) | exact Or.inr (Or.inr rfl)) rfl rfl)) (pe_subD rfl rfl hu (pe_varI (pe_var rfl (by first | exact Or.inl rfl | exact Or.inr (Or.inl rfl) | exact Or.inr (Or.inr rfl)) rfl rfl)) (pe_varI (pe_var rfl (by first | exact Or.inl rfl | exact Or.inr (Or.inl rfl) | exact Or.inr (Or.inr rfl)) rfl rfl)) fun _ _ => rfl)) (pe_bltI (cr_lenI rfl) rfl T.fr_len boot_len (pa_consI (pe_varI (pe_var rfl (by first | exact Or.inl rfl | exact Or.inr (Or.inl rfl) | exact Or.inr (Or.inr rfl)) rfl rfl)) pa_nilI rfl) (by decide) rfl rfl rfl) rfl))))) (pss_consI (ps_retI (pe_cstI pe_non fun _ _ => VR.n))
    pss_nilI) pss_nilI)
    (pss_consI (ps_asgI (pe_binI (op_addI rfl) (pe_binI (op_addI rfl) (pe_varI (pe_var rfl (by first | exact Or.inl rfl | exact Or.inr (Or.inl rfl) | exact Or.inr (Or.inr rfl)) rfl rfl)) (pe_cstI pe_int fun _ _ => VR.i)) (pe_subD rfl rfl hu (pe_varI (pe_var rfl (by first | exact Or.inl rfl | exact Or.inr (Or.inl rfl) | exact Or.inr (Or.inr rfl)) rfl rfl)) (pe_varI (pe_var rfl (by first | exact Or.inl rfl | exact Or.inr (Or.inl rfl) | exact Or.inr (Or.inr rfl)) rfl rfl)) fun _ _ => rfl)) (pg_nmI (pg_name sc.nd rfl (by first | exact Or.inl rfl | exact Or.inr rfl) (by first | exact Or.inl rfl | exact Or.inr rfl))) rfl rfl rfl)
    (pss_consI (ps_retI (pe_tupI (pa_consI (pe_sliI rfl (pe_varI (pe_var rfl (by first | exact Or.inl rfl | exact Or.inr (Or.inl rfl) | exact Or.inr (Or.inr rfl)) rfl rfl)) (po_someI (pe_binI (op_addI rfl) (pe_varI (pe_var rfl (by first | exact Or.inl rfl | exact Or.inr (Or.inl rfl) | exact Or.inr (Or.inr rfl)) rfl rfl)) (pe_cstI pe_int fun _ _ => VR.i))) (po_someI (pe_varI (pe_var rfl (by first | exact Or.inl rfl | exact Or.inr (Or.inl rfl) | exact Or.inr (Or.inr rfl)) rfl rfl)))) (pa_consI (pe_varI (pe_var rfl (by first | exact Or.inl rfl | exact Or.inr (Or.inl rfl) | exact Or.inr (Or.inr rfl)) rfl rfl)) pa_nilI rfl) rfl)))
    pss_nilI)))
theorem ok_part_told (T : Tab Pr K mg) (TB : ∀ p ∈ cs K, LamX.TabB base mg p.1 p.2) : FnI Pr w K mg base (PP K w) "part_told" 1 3 c_part_told := by
  obtain ⟨hm, fd, F⟩ := T.fn_part_told
  exact FnI.all (ps := ["cells", "at", "most"]) (fn_okI (P := PP K w) (f := b_part_told) (N := N_part_told) (ps := ["cells", "at", "most"]) F sc_part_told fun av cdv A outer s H E hr hgd hcd => body_part_told T  av _ cdv A outer s H E hr hgd hcd) hm F.kp (F.bindsN fun _ _ _ _ _ _ us hl => match us, hl with | [_, _, _], _ => by kernel_rfl)
theorem sc__law_vat : FnScope N__law_vat ["_law_script", "_law_spot"] (defScope (top 29)) := ⟨rfl, rfl, rfl, by decide +kernel, rfl, by decide +kernel, by decide +kernel⟩
theorem body__law_vat (T : Tab Pr K mg) (av : List Addr) (fA : Addr) (cdv : Value) (A : Around) (outer : List Env) (s : Shared) (H : Hp) (E : XK) (hr : Room 0 (A.deeper (envOfC "_law_vat" (defScope (top 29)) s.heap.objs.size fA cdv))) (hgd : A.guards = some []) (hcd : cdv = .ref (codeA K fA)) :
    PSs (cxOf (L2.CX Pr w) Pr w K mg base N__law_vat "_law_vat" (defScope (top 29)) fA cdv A outer s H E) (defBody (top 29)) (tS ((PP K w).at av) (fun c d _ H => E c d H) b__law_vat) := by
  have hu := units65 hr
  have hu4 := hr.units
  have sc := sc__law_vat
  have pa := passes_of (X := cxOf (L2.CX Pr w) Pr w K mg base N__law_vat "_law_vat" (defScope (top 29)) fA cdv A outer s H E) rfl
  have tk := takes_of (X := cxOf (L2.CX Pr w) Pr w K mg base N__law_vat "_law_vat" (defScope (top 29)) fA cdv A outer s H E) rfl rfl rfl rfl
  unfold b__law_vat
  exact (pss_consI (ps_asgI (pe_iteI (pt_cmpI (op_ordI rfl hu4) (pe_varI (pe_var rfl (by first | exact Or.inl rfl | exact Or.inr (Or.inl rfl) | exact Or.inr (Or.inr rfl)) rfl rfl)) (pe_bltI (cr_lenI rfl) rfl T.fr_len boot_len (pa_consI (pe_varI (pe_var rfl (by first | exact Or.inl rfl | exact Or.inr (Or.inl rfl) | exact Or.inr (Or.inr rfl)) rfl rfl)) pa_nilI rfl) (by decide) rfl rfl rfl) rfl) (pe_tyI (cr_intI) rfl T.fr_int boot_int (pa_consI (pe_subD rfl rfl hu (pe_varI (pe_var rfl (by first | exact Or.inl rfl | exact Or.inr (Or.inl rfl) | exact Or.inr (Or.inr rfl)) rfl rfl)) (pe_varI (pe_var rfl (by first | exact Or.inl rfl | exact Or.inr (Or.inl rfl) | exact Or.inr (Or.inr rfl)) rfl rfl)) fun _ _ => rfl) pa_nilI rfl) (by decide) rfl rfl rfl) (pe_binI (op_addI rfl) (pe_binI (op_mulEI rfl) (pe_cstI pe_int fun _ _ => VR.i) (pe_varI (pe_var rfl (by first | exact Or.inl rfl | exact Or.inr (Or.inl rfl) | exact Or.inr (Or.inr rfl)) rfl rfl))) (pe_cstI pe_int fun _ _ => VR.i))) (pg_nmI (pg_name sc.nd rfl (by first | exact Or.inl rfl | exact Or.inr rfl) (by first | exact Or.inl rfl | exact Or.inr rfl))) rfl rfl rfl)
    (pss_consI (ps_asgI (pe_binI (op_modI) (pe_tyI (cr_intI) rfl T.fr_int boot_int (pa_consI (pe_bltI (cr_absI) rfl T.fr_abs boot_abs (pa_consI (pe_varI (pe_var rfl (by first | exact Or.inl rfl | exact Or.inr (Or.inl rfl) | exact Or.inr (Or.inr rfl)) rfl rfl)) pa_nilI rfl) (by decide) rfl rfl rfl) pa_nilI rfl) (by decide) rfl rfl rfl) (pe_binI (op_mulEI rfl) (pe_binI (op_powI) (pe_cstI pe_int fun _ _ => VR.i) (pe_cstI pe_int fun _ _ => VR.i)) (pe_binI (op_powI) (pe_cstI pe_int fun _ _ => VR.i) (pe_cstI pe_int fun _ _ => VR.i)))) (pg_nmI (pg_name sc.nd rfl (by first | exact Or.inl rfl | exact Or.inr rfl) (by first | exact Or.inl rfl | exact Or.inr rfl))) rfl rfl rfl)
    (pss_consI (ps_asgI (pe_binI (op_addI rfl) (pe_binI (op_addI rfl) (pe_binI (op_addI rfl) (pe_binI (op_mulEI rfl) (pe_binI (op_modI) (pe_varI (pe_var rfl (by first | exact Or.inl rfl | exact Or.inr (Or.inl rfl) | exact Or.inr (Or.inr rfl)) rfl rfl)) (pe_cstI pe_int fun _ _ => VR.i)) (pe_cstI pe_int fun _ _ => VR.i)) (pe_binI (op_mulEI rfl) (pe_cstI pe_int fun _ _ => VR.i) (pe_varI (pe_var rfl (by first | exact Or.inl rfl | exact Or.inr (Or.inl rfl) | exact Or.inr (Or.inr rfl)) rfl rfl)))) (pe_binI (op_mulEI rfl) (pe_cstI pe_int fun _ _ => VR.i) (pe_tyI (cr_intI) rfl T.fr_int boot_int (pa_consI (pe_cmpI (op_ordI rfl hu4) (pe_varI (pe_var rfl (by first | exact Or.inl rfl | exact Or.inr (Or.inl rfl) | exact Or.inr (Or.inr rfl)) rfl rfl)) (pe_cstI pe_int fun _ _ => VR.i) rfl) pa_nilI rfl) (by decide) rfl rfl rfl))) (pe_cstI pe_int fun _ _ => VR.i)) (pg_nmI (pg_name sc.nd rfl (by first | exact Or.inl rfl | exact Or.inr rfl) (by first | exact Or.inl rfl | exact Or.inr rfl))) rfl rfl rfl)
    (pss_consI (ps_retI (pe_refOf (pl_list (pa_consI (pe_bltI (cr_maxI rfl) rfl T.fr_max boot_max (pa_consI (pe_cstI pe_int fun _ _ => VR.i) (pa_consI (pe_binI (op_subI) (pe_varI (pe_var rfl (by first | exact Or.inl rfl | exact Or.inr (Or.inl rfl) | exact Or.inr (Or.inr rfl)) rfl rfl)) (pe_binI (op_powI) (pe_cstI pe_int fun _ _ => VR.i) (pe_cstI pe_int fun _ _ => VR.i))) pa_nilI rfl) rfl) (by decide) rfl rfl rfl) (pa_consI (pe_binI (op_modI) (pe_tyI (cr_intI) rfl T.fr_int boot_int (pa_consI (pe_varI (pe_var rfl (by first | exact Or.inl rfl | exact Or.inr (Or.inl rfl) | exact Or.inr (Or.inr rfl)) rfl rfl)) pa_nilI rfl) (by decide) rfl rfl rfl) (pe_cstI pe_int fun _ _ => VR.i)) (pa_consI (pe_cstI pe_int fun _ _ => VR.i) pa_nilI rfl) rfl) rfl))))
    pss_nilI))))
theorem ok__law_vat (T : Tab Pr K mg) (TB : ∀ p ∈ cs K, LamX.TabB base mg p.1 p.2) : FnI Pr w K mg base (PP K w) "_law_vat" 1 2 c__law_vat := by
  obtain ⟨hm, fd, F⟩ := T.fn__law_vat
  exact FnI.all (ps := ["_law_script", "_law_spot"]) (fn_okI (P := PP K w) (f := b__law_vat) (N := N__law_vat) (ps := ["_law_script", "_law_spot"]) F sc__law_vat fun av cdv A outer s H E hr hgd hcd => body__law_vat T  av _ cdv A outer s H E hr hgd hcd) hm F.kp (F.bindsN fun _ _ _ _ _ _ us hl => match us, hl with | [_, _], _ => by kernel_rfl)
theorem sc__law_drop : FnScope N__law_drop ["_law_vat_here", "_law_total"] (defScope (top 30)) := ⟨rfl, rfl, rfl, by decide +kernel, rfl, by decide +kernel, by decide +kernel⟩
theorem body__law_drop (T : Tab Pr K mg) (av : List Addr) (fA : Addr) (cdv : Value) (A : Around) (outer : List Env) (s : Shared) (H : Hp) (E : XK) (hr : Room 0 (A.deeper (envOfC "_law_drop" (defScope (top 30)) s.heap.objs.size fA cdv))) (hgd : A.guards = some []) (hcd : cdv = .ref (codeA K fA)) :
    PSs (cxOf (L2.CX Pr w) Pr w K mg base N__law_drop "_law_drop" (defScope (top 30)) fA cdv A outer s H E) (defBody (top 30)) (tS ((PP K w).at av) (fun c d _ H => E c d H) b__law_drop) := by
  have hu := units65 hr
  have hu4 := hr.units
  have sc := sc__law_drop
  have pa := passes_of (X := cxOf (L2.CX Pr w) Pr w K mg base N__law_drop "_law_drop" (defScope (top 30)) fA cdv A outer s H E) rfl
  have tk := takes_of (X := cxOf (L2.CX Pr w) Pr w K mg base N__law_drop "_law_drop" (defScope (top 30)) fA cdv A outer s H E) rfl rfl rfl rfl
  unfold b__law_drop
  exact (pss_consI (ps_ifI (pt_cmpI (op_ordI rfl hu4) (pe_subD rfl rfl hu (pe_varI (pe_var rfl (by first | exact Or.inl rfl | exact Or.inr (Or.inl rfl) | exact Or.inr (Or.inr rfl)) rfl rfl)) (pe_cstI pe_int fun _ _ => VR.i) fun _ _ => rfl) (pe_cstI pe_int fun _ _ => VR.i) rfl) (pss_consI (ps_asgI (pe_binI (op_modI) (pe_tyI (cr_intI) rfl T.fr_int boot_int (pa_consI (pe_subD rfl rfl hu (pe_varI (pe_var rfl (by first | exact Or.inl rfl | exact Or.inr (Or.inl rfl) | exact Or.inr (Or.inr rfl)) rfl rfl)) (pe_cstI pe_int fun _ _ => VR.i) fun _ _ => rfl) pa_nilI rfl) (by decide) rfl rfl rfl) (pe_varI (pe_var rfl (by first | exact Or.inl rfl | exact Or.inr (Or.inl rfl) | exact Or.inr (Or.inr rfl)) rfl rfl))) (pg_nmI (pg_name sc.nd rfl (by first | exact Or.inl rfl | exact Or.inr rfl) (by first | exact Or.inl rfl | exact Or.inr rfl))) rfl rfl rfl)
    (pss_consI (ps_asgI (pe_binI (op_fdivI) (pe_subD rfl rfl hu (pe_varI (pe_var rfl (by first | exact Or.inl rfl | exact Or.inr (Or.inl rfl) | exact Or.inr (Or.inr rfl)) rfl rfl)) (pe_cstI pe_int fun _ _ => VR.i) fun _ _ => rfl) (pe_varI (pe_var rfl (by first | exact Or.inl rfl | exact Or.inr (Or.inl rfl) | exact Or.inr (Or.inr rfl)) rfl rfl))) (pg_sbI (W := WF) (pe_varI (pe_var rfl (by first | exact Or.inl rfl | exact Or.inr (Or.inl rfl) | exact Or.inr (Or.inr rfl)) rfl rfl)) (pe_cstI pe_int fun _ _ => VR.i) (st_putM rfl rfl hu) fun _ => rfl) rfl rfl rfl)
    (pss_consI (ps_retI (pe_varI (pe_var rfl (by first | exact Or.inl rfl | exact Or.inr (Or.inl rfl) | exact Or.inr (Or.inr rfl)) rfl rfl)))
    pss_nilI))) pss_nilI)
    (pss_consI (ps_asgI (pe_binI (op_addI rfl) (pe_subD rfl rfl hu (pe_varI (pe_var rfl (by first | exact Or.inl rfl | exact Or.inr (Or.inl rfl) | exact Or.inr (Or.inr rfl)) rfl rfl)) (pe_cstI pe_int fun _ _ => VR.i) fun _ _ => rfl) (pe_cstI pe_int fun _ _ => VR.i)) (pg_sbI (W := WF) (pe_varI (pe_var rfl (by first | exact Or.inl rfl | exact Or.inr (Or.inl rfl) | exact Or.inr (Or.inr rfl)) rfl rfl)) (pe_cstI pe_int fun _ _ => VR.i) (st_putM rfl rfl hu) fun _ => rfl) rfl rfl rfl)
    (pss_consI (ps_asgI (pe_binI (op_modI) (pe_tyI (cr_intI) rfl T.fr_int boot_int (pa_consI (pe_binI (op_addI rfl) (pe_subD rfl rfl hu (pe_varI (pe_var rfl (by first | exact Or.inl rfl | exact Or.inr (Or.inl rfl) | exact Or.inr (Or.inr rfl)) rfl rfl)) (pe_cstI pe_int fun _ _ => VR.i) fun _ _ => rfl) (pe_binI (op_mulEI rfl) (pe_cstI pe_int fun _ _ => VR.i) (pe_subD rfl rfl hu (pe_varI (pe_var rfl (by first | exact Or.inl rfl | exact Or.inr (Or.inl rfl) | exact Or.inr (Or.inr rfl)) rfl rfl)) (pe_cstI pe_int fun _ _ => VR.i) fun _ _ => rfl))) pa_nilI rfl) (by decide) rfl rfl rfl) (pe_cstI pe_int fun _ _ => VR.i)) (pg_nmI (pg_name sc.nd rfl (by first | exact Or.inl rfl | exact Or.inr rfl) (by first | exact Or.inl rfl | exact Or.inr rfl))) rfl rfl rfl)
    (pss_consI (ps_asgI (pe_binI (op_addI rfl) (pe_binI (op_mulEI rfl) (pe_binI (op_modI) (pe_tyI (cr_intI) rfl T.fr_int boot_int (pa_consI (pe_binI (op_addI rfl) (pe_binI (op_mulEI rfl) (pe_varI (pe_var rfl (by first | exact Or.inl rfl | exact Or.inr (Or.inl rfl) | exact Or.inr (Or.inr rfl)) rfl rfl)) (pe_varI (pe_var rfl (by first | exact Or.inl rfl | exact Or.inr (Or.inl rfl) | exact Or.inr (Or.inr rfl)) rfl rfl))) (pe_binI (op_mulEI rfl) (pe_cstI pe_int fun _ _ => VR.i) (pe_subD rfl rfl hu (pe_varI (pe_var rfl (by first | exact Or.inl rfl | exact Or.inr (Or.inl rfl) | exact Or.inr (Or.inr rfl)) rfl rfl)) (pe_cstI pe_int fun _ _ => VR.i) fun _ _ => rfl))) pa_nilI rfl) (by decide) rfl rfl rfl) (pe_cstI pe_int fun _ _ => VR.i)) (pe_cstI pe_int fun _ _ => VR.i)) (pe_varI (pe_var rfl (by first | exact Or.inl rfl | exact Or.inr (Or.inl rfl) | exact Or.inr (Or.inr rfl)) rfl rfl))) (pg_nmI (pg_name sc.nd rfl (by first | exact Or.inl rfl | exact Or.inr rfl) (by first | exact Or.inl rfl | exact Or.inr rfl))) rfl rfl rfl)
    (pss_consI (ps_retI (pe_binI (op_modI) (pe_tyI (cr_intI) rfl T.fr_int boot_int (pa_consI (pe_binI (op_fdivI) (pe_varI (pe_var rfl (by first | exact Or.inl rfl | exact Or.inr (Or.inl rfl) | exact Or.inr (Or.inr rfl)) rfl rfl)) (pe_cstI pe_int fun _ _ => VR.i)) pa_nilI rfl) (by decide) rfl rfl rfl) (pe_varI (pe_var rfl (by first | exact Or.inl rfl | exact Or.inr (Or.inl rfl) | exact Or.inr (Or.inr rfl)) rfl rfl))))
    pss_nilI)))))
theorem ok__law_drop (T : Tab Pr K mg) (TB : ∀ p ∈ cs K, LamX.TabB base mg p.1 p.2) : FnI Pr w K mg base (PP K w) "_law_drop" 1 2 c__law_drop := by
  obtain ⟨hm, fd, F⟩ := T.fn__law_drop
  exact FnI.all (ps := ["_law_vat_here", "_law_total"]) (fn_okI (P := PP K w) (f := b__law_drop) (N := N__law_drop) (ps := ["_law_vat_here", "_law_total"]) F sc__law_drop fun av cdv A outer s H E hr hgd hcd => body__law_drop T  av _ cdv A outer s H E hr hgd hcd) hm F.kp (F.bindsN fun _ _ _ _ _ _ us hl => match us, hl with | [_, _], _ => by kernel_rfl)
theorem sc__law_own_cells : FnScope N__law_own_cells ["_law_rows_here"] (defScope (top 34)) := ⟨rfl, rfl, rfl, by decide +kernel, rfl, by decide +kernel, by decide +kernel⟩
theorem body__law_own_cells (T : Tab Pr K mg) (av : List Addr) (fA : Addr) (cdv : Value) (A : Around) (outer : List Env) (s : Shared) (H : Hp) (E : XK) (hr : Room 0 (A.deeper (envOfC "_law_own_cells" (defScope (top 34)) s.heap.objs.size fA cdv))) (hgd : A.guards = some []) (hcd : cdv = .ref (codeA K fA)) :
    PSs (cxOf (L2.CX Pr w) Pr w K mg base N__law_own_cells "_law_own_cells" (defScope (top 34)) fA cdv A outer s H E) (defBody (top 34)) (tS ((PP K w).at av) (fun c d _ H => E c d H) b__law_own_cells) := by
  have hu := units65 hr
  have hu4 := hr.units
  have sc := sc__law_own_cells
  have pa := passes_of (X := cxOf (L2.CX Pr w) Pr w K mg base N__law_own_cells "_law_own_cells" (defScope (top 34)) fA cdv A outer s H E) rfl
  have tk := takes_of (X := cxOf (L2.CX Pr w) Pr w K mg base N__law_own_cells "_law_own_cells" (defScope (top 34)) fA cdv A outer s H E) rfl rfl rfl rfl
  unfold b__law_own_cells
  exact (pss_consI (ps_asgI (pe_tupI pa_nilI) (pg_nmI (pg_name sc.nd rfl (by first | exact Or.inl rfl | exact Or.inr rfl) (by first | exact Or.inl rfl | exact Or.inr rfl))) rfl rfl rfl)
    (pss_consI (ps_forI pa rfl (pi_anyI rfl (pe_varI (pe_var rfl (by first | exact Or.inl rfl | exact Or.inr (Or.inl rfl) | exact Or.inr (Or.inr rfl)) rfl rfl))) (pg_tupI rfl rfl (pgs_consI (pg_nmI (pg_name sc.nd rfl (by first | exact Or.inl rfl | exact Or.inr rfl) (by first | exact Or.inl rfl | exact Or.inr rfl))) (pgs_consI (pg_nmI (pg_name sc.nd rfl (by first | exact Or.inl rfl | exact Or.inr rfl) (by first | exact Or.inl rfl | exact Or.inr rfl))) pgs_nilI rfl) rfl) rfl rfl) (pss_consI (ps_asgI (pe_binI (op_addI rfl) (pe_binI (op_addI rfl) (pe_binI (op_addI rfl) (pe_binI (op_addI rfl) (pe_varI (pe_var rfl (by first | exact Or.inl rfl | exact Or.inr (Or.inl rfl) | exact Or.inr (Or.inr rfl)) rfl rfl)) (pe_tupI (pa_consI (pe_bltI (cr_lenI rfl) rfl T.fr_len boot_len (pa_consI (pe_varI (pe_var rfl (by first | exact Or.inl rfl | exact Or.inr (Or.inl rfl) | exact Or.inr (Or.inr rfl)) rfl rfl)) pa_nilI rfl) (by decide) rfl rfl rfl) pa_nilI rfl))) (pe_varI (pe_var rfl (by first | exact Or.inl rfl | exact Or.inr (Or.inl rfl) | exact Or.inr (Or.inr rfl)) rfl rfl))) (pe_tupI (pa_consI (pe_bltI (cr_lenI rfl) rfl T.fr_len boot_len (pa_consI (pe_varI (pe_var rfl (by first | exact Or.inl rfl | exact Or.inr (Or.inl rfl) | exact Or.inr (Or.inr rfl)) rfl rfl)) pa_nilI rfl) (by decide) rfl rfl rfl) pa_nilI rfl))) (pe_varI (pe_var rfl (by first | exact Or.inl rfl | exact Or.inr (Or.inl rfl) | exact Or.inr (Or.inr rfl)) rfl rfl))) (pg_nmI (pg_name sc.nd rfl (by first | exact Or.inl rfl | exact Or.inr rfl) (by first | exact Or.inl rfl | exact Or.inr rfl))) rfl rfl rfl)
    pss_nilI) fun _ => rfl)
    (pss_consI (ps_retI (pe_varI (pe_var rfl (by first | exact Or.inl rfl | exact Or.inr (Or.inl rfl) | exact Or.inr (Or.inr rfl)) rfl rfl)))
    pss_nilI)))
theorem ok__law_own_cells (T : Tab Pr K mg) (TB : ∀ p ∈ cs K, LamX.TabB base mg p.1 p.2) : FnI Pr w K mg base (PP K w) "_law_own_cells" 1 1 c__law_own_cells := by
  obtain ⟨hm, fd, F⟩ := T.fn__law_own_cells
  exact FnI.all (ps := ["_law_rows_here"]) (fn_okI (P := PP K w) (f := b__law_own_cells) (N := N__law_own_cells) (ps := ["_law_rows_here"]) F sc__law_own_cells fun av cdv A outer s H E hr hgd hcd => body__law_own_cells T  av _ cdv A outer s H E hr hgd hcd) hm F.kp (F.bindsN fun _ _ _ _ _ _ us hl => match us, hl with | [_], _ => by kernel_rfl)
theorem sc__law_stretch : FnScope N__law_stretch ["_law_cells_here", "_law_at", "_law_most"] (defScope (top 35)) := ⟨rfl, rfl, rfl, by decide +kernel, rfl, by decide +kernel, by decide +kernel⟩
theorem body__law_stretch (T : Tab Pr K mg) (av : List Addr) (fA : Addr) (cdv : Value) (A : Around) (outer : List Env) (s : Shared) (H : Hp) (E : XK) (hr : Room 0 (A.deeper (envOfC "_law_stretch" (defScope (top 35)) s.heap.objs.size fA cdv))) (hgd : A.guards = some []) (hcd : cdv = .ref (codeA K fA)) :
    PSs (cxOf (L2.CX Pr w) Pr w K mg base N__law_stretch "_law_stretch" (defScope (top 35)) fA cdv A outer s H E) (defBody (top 35)) (tS ((PP K w).at av) (fun c d _ H => E c d H) b__law_stretch) := by
  have hu := units65 hr
  have hu4 := hr.units
  have sc := sc__law_stretch
  have pa := passes_of (X := cxOf (L2.CX Pr w) Pr w K mg base N__law_stretch "_law_stretch" (defScope (top 35)) fA cdv A outer s H E) rfl
  have tk := takes_of (X := cxOf (L2.CX Pr w) Pr w K mg base N__law_stretch "_law_stretch" (defScope (top 35)) fA cdv A outer s H E) rfl rfl rfl rfl
  unfold b__law_stretch
  exact (pss_consI (ps_ifI (PW.pt (pw_orI (pt_cmpI (op_ordI rfl hu4) (pe_varI (pe_var rfl (by first | exact Or.inl rfl | exact Or.inr (Or.inl rfl) | exact Or.inr (Or.inr rfl)) rfl rfl)) (pe_bltI (cr_lenI rfl) rfl T.fr_len boot_len (pa_consI (pe_varI (pe_var rfl (by first | exact Or.inl rfl | exact Or.inr (Or.inl rfl) | exact Or.inr (Or.inr rfl)) rfl rfl)) pa_nilI rfl) (by decide) rfl rfl rfl) rfl) (pw_orI (pt_notI (pt_chnI (op_ordI rfl hu4) (op_ordI rfl hu4) (pe_cstI pe_int fun _ _ => VR.i) (pe_subD rfl rfl hu (pe_varI (pe_var rfl (by first | exact Or.inl rfl | exact Or.inr (Or.inl rfl) | exact Or.inr (Or.inr rfl)) rfl rfl)) (pe_varI (pe_var rfl (by first | exact Or.inl rfl | exact Or.inr (Or.inl rfl) | exact Or.inr (Or.inr rfl)) rfl rfl)) fun _ _ => rfl) (pe_varI (pe_var rfl (by first | exact Or.inl rfl | exact Or.inr (Or.inl rfl) | exact Or.inr (Or.inr rfl)) rfl rfl)) rfl)) (pw_or1 (pt_cmpI (op_ordI rfl hu4) (pe_binI (op_addI rfl) (pe_varI (pe_var rfl (by first | exact Or.inl rfl | exact Or.inr (Or.inl rfl) | exact Or.inr (Or.inr rfl)) rfl rfl)) (pe_subD rfl rfl hu (pe_varI (pe_var rfl (by first | exact Or.inl rfl | exact Or.inr (Or.inl rfl) | exact Or.inr (Or.inr rfl)) rfl rfl)) (pe_varI (pe_var rfl (by first | exact Or.inl rfl | exact Or.inr (Or.inl rfl) | exact Or.inr (Or.inr rfl)) rfl rfl)) fun _ _ => rfl)) (pe_bltI (cr_lenI rfl) rfl T.fr_len boot_len (pa_consI (pe_varI (pe_var rfl (by first | exact Or.inl rfl | exact Or.inr (Or.inl rfl) | exact Or.inr (Or.inr rfl)) rfl rfl)) pa_nilI rfl) (by decide) rfl rfl rfl) rfl))))) (pss_consI (ps_retI (pe_cstI pe_non fun _ _ => VR.n))
    pss_nilI) pss_nilI)
    (pss_consI (ps_retI (pe_tupI (pa_consI (pe_sliI rfl (pe_varI (pe_var rfl (by first | exact Or.inl rfl | exact Or.inr (Or.inl rfl) | exact Or.inr (Or.inr rfl)) rfl rfl)) (po_someI (pe_binI (op_addI rfl) (pe_varI (pe_var rfl (by first | exact Or.inl rfl | exact Or.inr (Or.inl rfl) | exact Or.inr (Or.inr rfl)) rfl rfl)) (pe_cstI pe_int fun _ _ => VR.i))) (po_someI (pe_binI (op_addI rfl) (pe_binI (op_addI rfl) (pe_varI (pe_var rfl (by first | exact Or.inl rfl | exact Or.inr (Or.inl rfl) | exact Or.inr (Or.inr rfl)) rfl rfl)) (pe_cstI pe_int fun _ _ => VR.i)) (pe_subD rfl rfl hu (pe_varI (pe_var rfl (by first | exact Or.inl rfl | exact Or.inr (Or.inl rfl) | exact Or.inr (Or.inr rfl)) rfl rfl)) (pe_varI (pe_var rfl (by first | exact Or.inl rfl | exact Or.inr (Or.inl rfl) | exact Or.inr (Or.inr rfl)) rfl rfl)) fun _ _ => rfl)))) (pa_consI (pe_binI (op_addI rfl) (pe_binI (op_addI rfl) (pe_varI (pe_var rfl (by first | exact Or.inl rfl | exact Or.inr (Or.inl rfl) | exact Or.inr (Or.inr rfl)) rfl rfl)) (pe_cstI pe_int fun _ _ => VR.i)) (pe_subD rfl rfl hu (pe_varI (pe_var rfl (by first | exact Or.inl rfl | exact Or.inr (Or.inl rfl) | exact Or.inr (Or.inr rfl)) rfl rfl)) (pe_varI (pe_var rfl (by first | exact Or.inl rfl | exact Or.inr (Or.inl rfl) | exact Or.inr (Or.inr rfl)) rfl rfl)) fun _ _ => rfl)) pa_nilI rfl) rfl)))
    pss_nilI))
theorem ok__law_stretch (T : Tab Pr K mg) (TB : ∀ p ∈ cs K, LamX.TabB base mg p.1 p.2) : FnI Pr w K mg base (PP K w) "_law_stretch" 1 3 c__law_stretch := by
  obtain ⟨hm, fd, F⟩ := T.fn__law_stretch
  exact FnI.all (ps := ["_law_cells_here", "_law_at", "_law_most"]) (fn_okI (P := PP K w) (f := b__law_stretch) (N := N__law_stretch) (ps := ["_law_cells_here", "_law_at", "_law_most"]) F sc__law_stretch fun av cdv A outer s H E hr hgd hcd => body__law_stretch T  av _ cdv A outer s H E hr hgd hcd) hm F.kp (F.bindsN fun _ _ _ _ _ _ us hl => match us, hl with | [_, _, _], _ => by kernel_rfl)
theorem sc__law_is_cells : FnScope N__law_is_cells ["_law_value", "_law_most"] (defScope (top 37)) := ⟨rfl, rfl, rfl, by decide +kernel, rfl, by decide +kernel, by decide +kernel⟩
theorem body__law_is_cells (T : Tab Pr K mg) (av : List Addr) (fA : Addr) (cdv : Value) (A : Around) (outer : List Env) (s : Shared) (H : Hp) (E : XK) (hr : Room 0 (A.deeper (envOfC "_law_is_cells" (defScope (top 37)) s.heap.objs.size fA cdv))) (hgd : A.guards = some []) (hcd : cdv = .ref (codeA K fA)) :
    PSs (cxOf (L2.CX Pr w) Pr w K mg base N__law_is_cells "_law_is_cells" (defScope (top 37)) fA cdv A outer s H E) (defBody (top 37)) (tS ((PP K w).at av) (fun c d _ H => E c d H) b__law_is_cells) := by
  have hu := units65 hr
  have hu4 := hr.units
  have sc := sc__law_is_cells
  have pa := passes_of (X := cxOf (L2.CX Pr w) Pr w K mg base N__law_is_cells "_law_is_cells" (defScope (top 37)) fA cdv A outer s H E) rfl
  have tk := takes_of (X := cxOf (L2.CX Pr w) Pr w K mg base N__law_is_cells "_law_is_cells" (defScope (top 37)) fA cdv A outer s H E) rfl rfl rfl rfl
  unfold b__law_is_cells
  exact (pss_consI (ps_ifI (PW.pt (pw_orI (pt_notI (pt_truI rfl (pe_bltI (cr_isaI rfl) rfl T.fr_isinstance boot_isinstance (pa_consI (pe_varI (pe_var rfl (by first | exact Or.inl rfl | exact Or.inr (Or.inl rfl) | exact Or.inr (Or.inr rfl)) rfl rfl)) (pa_consI (pe_cstI (pe_bltn (v := .ty "tuple") (u := .type "tuple") rfl T.fr_tuple boot_tuple rfl (by decide) rfl) fun _ _ => VR.t) pa_nilI rfl) rfl) (by decide) rfl rfl rfl) fun _ => rfl)) (pw_or1 (pt_notI (pt_chnI (op_ordI rfl hu4) (op_ordI rfl hu4) (pe_cstI pe_int fun _ _ => VR.i) (pe_bltI (cr_lenI rfl) rfl T.fr_len boot_len (pa_consI (pe_varI (pe_var rfl (by first | exact Or.inl rfl | exact Or.inr (Or.inl rfl) | exact Or.inr (Or.inr rfl)) rfl rfl)) pa_nilI rfl) (by decide) rfl rfl rfl) (pe_varI (pe_var rfl (by first | exact Or.inl rfl | exact Or.inr (Or.inl rfl) | exact Or.inr (Or.inr rfl)) rfl rfl)) rfl))))) (pss_consI (ps_retI (pe_cstI pe_bl fun _ _ => VR.b))
    pss_nilI) pss_nilI)
    (pss_consI (ps_retI (pe_cmpI (op_eqNilI rfl (Nat.lt_of_le_of_lt (Nat.add_le_add_left (by decide) _) hu4)) (pe_lcI [("_law_cell", 2)] rfl sc.nd (pi_anyI rfl (pe_varI (pe_var rfl (by first | exact Or.inl rfl | exact Or.inr (Or.inl rfl) | exact Or.inr (Or.inr rfl)) rfl rfl))) (blkOk_by (by kernel_rfl)) (fun _ => rfl) (fun _ _ _ _ _ _ => (pg_nmW (by decide) (pg_name sc.nd rfl (by first | exact Or.inl rfl | exact Or.inr rfl) (by first | exact Or.inl rfl | exact Or.inr rfl)))) (fun _ _ _ _ _ _ => (pts_oneI (PW.pt (pw_orI (pt_notI (pt_truI rfl (pe_bltI (cr_isaI rfl) rfl T.fr_isinstance boot_isinstance (pa_consI (pe_varI (pe_var rfl (by first | exact Or.inl rfl | exact Or.inr (Or.inl rfl) | exact Or.inr (Or.inr rfl)) rfl rfl)) (pa_consI (pe_cstI (pe_bltn (v := .ty "int") (u := .type "int") rfl T.fr_int boot_int rfl (by decide) rfl) fun _ _ => VR.t) pa_nilI rfl) rfl) (by decide) rfl rfl rfl) fun _ => rfl)) (pw_orI (pt_truI rfl (pe_bltI (cr_isaI rfl) rfl T.fr_isinstance boot_isinstance (pa_consI (pe_varI (pe_var rfl (by first | exact Or.inl rfl | exact Or.inr (Or.inl rfl) | exact Or.inr (Or.inr rfl)) rfl rfl)) (pa_consI (pe_cstI (pe_bltn (v := .ty "bool") (u := .type "bool") rfl T.fr_bool boot_bool rfl (by decide) rfl) fun _ _ => VR.t) pa_nilI rfl) rfl) (by decide) rfl rfl rfl) fun _ => rfl) (pw_or1 (pt_notI (pt_chnI (op_ordI rfl hu4) (op_ordI rfl hu4) (pe_cstI pe_int fun _ _ => VR.i) (pe_varI (pe_var rfl (by first | exact Or.inl rfl | exact Or.inr (Or.inl rfl) | exact Or.inr (Or.inr rfl)) rfl rfl)) (pe_binI (op_powI) (pe_cstI pe_int fun _ _ => VR.i) (pe_cstI pe_int fun _ _ => VR.i)) rfl)))))))) (fun _ _ _ _ _ _ => (pe_cstI pe_int fun _ _ => VR.i))) (pe_lstOf (pl_list pa_nilI)) rfl))
    pss_nilI))
theorem ok__law_is_cells (T : Tab Pr K mg) (TB : ∀ p ∈ cs K, LamX.TabB base mg p.1 p.2) : FnI Pr w K mg base (PP K w) "_law_is_cells" 1 2 c__law_is_cells := by
  obtain ⟨hm, fd, F⟩ := T.fn__law_is_cells
  exact FnI.all (ps := ["_law_value", "_law_most"]) (fn_okI (P := PP K w) (f := b__law_is_cells) (N := N__law_is_cells) (ps := ["_law_value", "_law_most"]) F sc__law_is_cells fun av cdv A outer s H E hr hgd hcd => body__law_is_cells T  av _ cdv A outer s H E hr hgd hcd) hm F.kp (F.bindsN fun _ _ _ _ _ _ us hl => match us, hl with | [_, _], _ => by kernel_rfl)
theorem sc__law_near_rows : FnScope N__law_near_rows ["_law_vat_here", "_law_rows_here"] (defScope (top 40)) := ⟨rfl, rfl, rfl, by decide +kernel, rfl, by decide +kernel, by decide +kernel⟩
theorem body__law_near_rows (T : Tab Pr K mg) (av : List Addr) (fA : Addr) (cdv : Value) (A : Around) (outer : List Env) (s : Shared) (H : Hp) (E : XK) (hr : Room 0 (A.deeper (envOfC "_law_near_rows" (defScope (top 40)) s.heap.objs.size fA cdv))) (hgd : A.guards = some []) (hcd : cdv = .ref (codeA K fA)) :
    PSs (cxOf (L2.CX Pr w) Pr w K mg base N__law_near_rows "_law_near_rows" (defScope (top 40)) fA cdv A outer s H E) (defBody (top 40)) (tS ((PP K w).at av) (fun c d _ H => E c d H) b__law_near_rows) := by
  have hu := units65 hr
  have hu4 := hr.units
  have sc := sc__law_near_rows
  have pa := passes_of (X := cxOf (L2.CX Pr w) Pr w K mg base N__law_near_rows "_law_near_rows" (defScope (top 40)) fA cdv A outer s H E) rfl
  have tk := takes_of (X := cxOf (L2.CX Pr w) Pr w K mg base N__law_near_rows "_law_near_rows" (defScope (top 40)) fA cdv A outer s H E) rfl rfl rfl rfl
  unfold b__law_near_rows
  exact (pss_consI (ps_asgI (pe_refOf (pl_list (pa_consI (pe_coeI (pe_varI (pe_var rfl (by first | exact Or.inl rfl | exact Or.inr (Or.inl rfl) | exact Or.inr (Or.inr rfl)) rfl rfl))) (pa_consI (pe_revI rfl (pe_coeI (pe_varI (pe_var rfl (by first | exact Or.inl rfl | exact Or.inr (Or.inl rfl) | exact Or.inr (Or.inr rfl)) rfl rfl)))) (pa_consI (pe_binI (op_addI rfl) (pe_coeI (pe_varI (pe_var rfl (by first | exact Or.inl rfl | exact Or.inr (Or.inl rfl) | exact Or.inr (Or.inr rfl)) rfl rfl))) (pe_coeI (pe_varI (pe_var rfl (by first | exact Or.inl rfl | exact Or.inr (Or.inl rfl) | exact Or.inr (Or.inr rfl)) rfl rfl)))) (pa_consI (pe_tyI (cr_listDI rfl rfl) rfl T.fr_list boot_list (pa_consI (pe_coeI (pe_varI (pe_var rfl (by first | exact Or.inl rfl | exact Or.inr (Or.inl rfl) | exact Or.inr (Or.inr rfl)) rfl rfl))) pa_nilI rfl) (by decide) rfl rfl rfl) (pa_consI (pe_cstI pe_non fun _ _ => VR.n) (pa_consI (pe_tupI pa_nilI) (pa_consI pe_d0I (pa_consI (pe_cstI pe_int fun _ _ => VR.i) (pa_consI (pe_cstI pe_str fun _ _ => VR.s) (pa_consI (pe_tyI (cr_dctKI rfl rfl rfl hu) rfl T.fr_dict boot_dict (pa_consI (pe_varI (pe_var rfl (by first | exact Or.inl rfl | exact Or.inr (Or.inl rfl) | exact Or.inr (Or.inr rfl)) rfl rfl)) pa_nilI rfl) (by decide) rfl rfl rfl) (pa_consI (pe_tupI (pa_consI (pe_tupI (pa_consI (pe_tupI (pa_consI (pe_cstI pe_int fun _ _ => VR.i) pa_nilI rfl)) (pa_consI (pe_tupI (pa_consI (pe_cstI pe_int fun _ _ => VR.i) pa_nilI rfl)) pa_nilI rfl) rfl)) pa_nilI rfl)) (pa_consI (pe_tupI (pa_consI (pe_tupI (pa_consI (pe_cstI pe_int fun _ _ => VR.i) pa_nilI rfl)) (pa_consI (pe_tupI (pa_consI (pe_cstI pe_int fun _ _ => VR.i) pa_nilI rfl)) pa_nilI rfl) rfl)) pa_nilI rfl) rfl) rfl) rfl) rfl) rfl) rfl) rfl) rfl) rfl) rfl) rfl))) (pg_nmI (pg_name sc.nd rfl (by first | exact Or.inl rfl | exact Or.inr rfl) (by first | exact Or.inl rfl | exact Or.inr rfl))) rfl rfl rfl)
    (pss_consI (ps_forI pa rfl (pi_anyI rfl (pe_binI (op_addI rfl) (pe_sliI rfl (pe_coeI (pe_varI (pe_var rfl (by first | exact Or.inl rfl | exact Or.inr (Or.inl rfl) | exact Or.inr (Or.inr rfl)) rfl rfl))) po_noneI (po_someI (pe_cstI pe_int fun _ _ => VR.i))) (pe_sliI rfl (pe_coeI (pe_varI (pe_var rfl (by first | exact Or.inl rfl | exact Or.inr (Or.inl rfl) | exact Or.inr (Or.inr rfl)) rfl rfl))) (po_someI (pe_negI (pe_cstI pe_int fun _ _ => VR.i))) po_noneI))) (pg_nmI (pg_name sc.nd rfl (by first | exact Or.inl rfl | exact Or.inr rfl) (by first | exact Or.inl rfl | exact Or.inr rfl))) (pss_consI (ps_asgI (pe_tidxDI rfl hu (pe_varI (pe_var rfl (by first | exact Or.inl rfl | exact Or.inr (Or.inl rfl) | exact Or.inr (Or.inr rfl)) rfl rfl)) (pa_consI (pe_varI (pe_var rfl (by first | exact Or.inl rfl | exact Or.inr (Or.inl rfl) | exact Or.inr (Or.inr rfl)) rfl rfl)) pa_nilI rfl) rfl rfl rfl rfl rfl) (pg_nmI (pg_name sc.nd rfl (by first | exact Or.inl rfl | exact Or.inr rfl) (by first | exact Or.inl rfl | exact Or.inr rfl))) rfl rfl rfl)
    (pss_consI (ps_asgI (pe_refOf (pl_list (pa_consI (pe_tyI (cr_listDI rfl rfl) rfl T.fr_list boot_list (pa_consI (pe_varI (pe_var rfl (by first | exact Or.inl rfl | exact Or.inr (Or.inl rfl) | exact Or.inr (Or.inr rfl)) rfl rfl)) pa_nilI rfl) (by decide) rfl rfl rfl) (pa_consI (pe_binI (op_addI rfl) (pe_varI (pe_var rfl (by first | exact Or.inl rfl | exact Or.inr (Or.inl rfl) | exact Or.inr (Or.inr rfl)) rfl rfl)) (pe_varI (pe_var rfl (by first | exact Or.inl rfl | exact Or.inr (Or.inl rfl) | exact Or.inr (Or.inr rfl)) rfl rfl))) (pa_consI (pe_sliI rfl (pe_varI (pe_var rfl (by first | exact Or.inl rfl | exact Or.inr (Or.inl rfl) | exact Or.inr (Or.inr rfl)) rfl rfl)) po_noneI (po_someI (pe_cstI pe_int fun _ _ => VR.i))) (pa_consI (pe_tupI (pa_consI (pe_tyI (cr_listDI rfl rfl) rfl T.fr_list boot_list (pa_consI (pe_subD rfl rfl hu (pe_varI (pe_var rfl (by first | exact Or.inl rfl | exact Or.inr (Or.inl rfl) | exact Or.inr (Or.inr rfl)) rfl rfl)) (pe_cstI pe_int fun _ _ => VR.i) fun _ _ => rfl) pa_nilI rfl) (by decide) rfl rfl rfl) (pa_consI (pe_subD rfl rfl hu (pe_varI (pe_var rfl (by first | exact Or.inl rfl | exact Or.inr (Or.inl rfl) | exact Or.inr (Or.inr rfl)) rfl rfl)) (pe_cstI pe_int fun _ _ => VR.i) fun _ _ => rfl) pa_nilI rfl) rfl)) (pa_consI (pe_tupI (pa_consI (pe_subD rfl rfl hu (pe_varI (pe_var rfl (by first | exact Or.inl rfl | exact Or.inr (Or.inl rfl) | exact Or.inr (Or.inr rfl)) rfl rfl)) (pe_cstI pe_int fun _ _ => VR.i) fun _ _ => rfl) (pa_consI (pe_tyI (cr_listDI rfl rfl) rfl T.fr_list boot_list (pa_consI (pe_subD rfl rfl hu (pe_varI (pe_var rfl (by first | exact Or.inl rfl | exact Or.inr (Or.inl rfl) | exact Or.inr (Or.inr rfl)) rfl rfl)) (pe_cstI pe_int fun _ _ => VR.i) fun _ _ => rfl) pa_nilI rfl) (by decide) rfl rfl rfl) pa_nilI rfl) rfl)) (pa_consI (pe_tupI (pa_consI (pe_tupI pa_nilI) (pa_consI (pe_subD rfl rfl hu (pe_varI (pe_var rfl (by first | exact Or.inl rfl | exact Or.inr (Or.inl rfl) | exact Or.inr (Or.inr rfl)) rfl rfl)) (pe_cstI pe_int fun _ _ => VR.i) fun _ _ => rfl) pa_nilI rfl) rfl)) (pa_consI (pe_tupI (pa_consI (pe_subD rfl rfl hu (pe_varI (pe_var rfl (by first | exact Or.inl rfl | exact Or.inr (Or.inl rfl) | exact Or.inr (Or.inr rfl)) rfl rfl)) (pe_cstI pe_int fun _ _ => VR.i) fun _ _ => rfl) (pa_consI (pe_tupI pa_nilI) pa_nilI rfl) rfl)) pa_nilI rfl) rfl) rfl) rfl) rfl) rfl) rfl))) (pg_nmI (pg_name sc.nd rfl (by first | exact Or.inl rfl | exact Or.inr rfl) (by first | exact Or.inl rfl | exact Or.inr rfl))) rfl rfl rfl)
    (pss_consI (ps_asgI (pe_binI (op_addRI rfl) (pe_varI (pe_var rfl (by first | exact Or.inl rfl | exact Or.inr (Or.inl rfl) | exact Or.inr (Or.inr rfl)) rfl rfl)) (pe_lstOf (pl_list (pa_consI (pe_tupI (pa_consI (pe_binI (op_addI rfl) (pe_subD rfl rfl hu (pe_varI (pe_var rfl (by first | exact Or.inl rfl | exact Or.inr (Or.inl rfl) | exact Or.inr (Or.inr rfl)) rfl rfl)) (pe_cstI pe_int fun _ _ => VR.i) fun _ _ => rfl) (pe_tupI (pa_consI (pe_cstI pe_int fun _ _ => VR.i) (pa_consI (pe_cstI pe_int fun _ _ => VR.i) (pa_consI (pe_cstI pe_int fun _ _ => VR.i) pa_nilI rfl) rfl) rfl))) (pa_consI (pe_subD rfl rfl hu (pe_varI (pe_var rfl (by first | exact Or.inl rfl | exact Or.inr (Or.inl rfl) | exact Or.inr (Or.inr rfl)) rfl rfl)) (pe_cstI pe_int fun _ _ => VR.i) fun _ _ => rfl) pa_nilI rfl) rfl)) (pa_consI (pe_tupI (pa_consI (pe_subD rfl rfl hu (pe_varI (pe_var rfl (by first | exact Or.inl rfl | exact Or.inr (Or.inl rfl) | exact Or.inr (Or.inr rfl)) rfl rfl)) (pe_cstI pe_int fun _ _ => VR.i) fun _ _ => rfl) (pa_consI (pe_binI (op_addI rfl) (pe_subD rfl rfl hu (pe_varI (pe_var rfl (by first | exact Or.inl rfl | exact Or.inr (Or.inl rfl) | exact Or.inr (Or.inr rfl)) rfl rfl)) (pe_cstI pe_int fun _ _ => VR.i) fun _ _ => rfl) (pe_binI (op_mulEI rfl) (pe_tupI (pa_consI (pe_cstI pe_int fun _ _ => VR.i) pa_nilI rfl)) (pe_cstI pe_int fun _ _ => VR.i))) pa_nilI rfl) rfl)) (pa_consI (pe_tupI (pa_consI (pe_binI (op_addI rfl) (pe_sliI rfl (pe_subD rfl rfl hu (pe_varI (pe_var rfl (by first | exact Or.inl rfl | exact Or.inr (Or.inl rfl) | exact Or.inr (Or.inr rfl)) rfl rfl)) (pe_cstI pe_int fun _ _ => VR.i) fun _ _ => rfl) po_noneI (po_someI (pe_negI (pe_cstI pe_int fun _ _ => VR.i)))) (pe_tupI (pa_consI (pe_negI (pe_cstI pe_int fun _ _ => VR.i)) pa_nilI rfl))) (pa_consI (pe_subD rfl rfl hu (pe_varI (pe_var rfl (by first | exact Or.inl rfl | exact Or.inr (Or.inl rfl) | exact Or.inr (Or.inr rfl)) rfl rfl)) (pe_cstI pe_int fun _ _ => VR.i) fun _ _ => rfl) pa_nilI rfl) rfl)) (pa_consI (pe_cstI pe_non fun _ _ => VR.n) pa_nilI rfl) rfl) rfl) rfl)))) (pg_nmI (pg_name sc.nd rfl (by first | exact Or.inl rfl | exact Or.inr rfl) (by first | exact Or.inl rfl | exact Or.inr rfl))) rfl rfl rfl)
    (pss_consI (ps_asgI (pe_binI (op_addRI rfl) (pe_varI (pe_var rfl (by first | exact Or.inl rfl | exact Or.inr (Or.inl rfl) | exact Or.inr (Or.inr rfl)) rfl rfl)) (pe_lstOf (pl_list (pa_consI (pe_tupI (pa_consI (pe_subD rfl rfl hu (pe_varI (pe_var rfl (by first | exact Or.inl rfl | exact Or.inr (Or.inl rfl) | exact Or.inr (Or.inr rfl)) rfl rfl)) (pe_cstI pe_int fun _ _ => VR.i) fun _ _ => rfl) (pa_consI (pe_binI (op_addI rfl) (pe_sliI rfl (pe_subD rfl rfl hu (pe_varI (pe_var rfl (by first | exact Or.inl rfl | exact Or.inr (Or.inl rfl) | exact Or.inr (Or.inr rfl)) rfl rfl)) (pe_cstI pe_int fun _ _ => VR.i) fun _ _ => rfl) po_noneI (po_someI (pe_negI (pe_cstI pe_int fun _ _ => VR.i)))) (pe_tupI (pa_consI (pe_binI (op_powI) (pe_cstI pe_int fun _ _ => VR.i) (pe_cstI pe_int fun _ _ => VR.i)) pa_nilI rfl))) pa_nilI rfl) rfl)) (pa_consI (pe_tupI (pa_consI (pe_subD rfl rfl hu (pe_varI (pe_var rfl (by first | exact Or.inl rfl | exact Or.inr (Or.inl rfl) | exact Or.inr (Or.inr rfl)) rfl rfl)) (pe_cstI pe_int fun _ _ => VR.i) fun _ _ => rfl) (pa_consI (pe_binI (op_addI rfl) (pe_sliI rfl (pe_subD rfl rfl hu (pe_varI (pe_var rfl (by first | exact Or.inl rfl | exact Or.inr (Or.inl rfl) | exact Or.inr (Or.inr rfl)) rfl rfl)) (pe_cstI pe_int fun _ _ => VR.i) fun _ _ => rfl) po_noneI (po_someI (pe_negI (pe_cstI pe_int fun _ _ => VR.i)))) (pe_tupI (pa_consI (pe_cstI pe_non fun _ _ => VR.n) pa_nilI rfl))) pa_nilI rfl) rfl)) (pa_consI (pe_tupI (pa_consI (pe_binI (op_addI rfl) (pe_sliI rfl (pe_subD rfl rfl hu (pe_varI (pe_var rfl (by first | exact Or.inl rfl | exact Or.inr (Or.inl rfl) | exact Or.inr (Or.inr rfl)) rfl rfl)) (pe_cstI pe_int fun _ _ => VR.i) fun _ _ => rfl) po_noneI (po_someI (pe_negI (pe_cstI pe_int fun _ _ => VR.i)))) (pe_tupI (pa_consI (pe_cstI pe_str fun _ _ => VR.s) pa_nilI rfl))) (pa_consI (pe_subD rfl rfl hu (pe_varI (pe_var rfl (by first | exact Or.inl rfl | exact Or.inr (Or.inl rfl) | exact Or.inr (Or.inr rfl)) rfl rfl)) (pe_cstI pe_int fun _ _ => VR.i) fun _ _ => rfl) pa_nilI rfl) rfl)) pa_nilI rfl) rfl) rfl)))) (pg_nmI (pg_name sc.nd rfl (by first | exact Or.inl rfl | exact Or.inr rfl) (by first | exact Or.inl rfl | exact Or.inr rfl))) rfl rfl rfl)
    (pss_consI (ps_exprI (pe_mthI (.inl rfl) F.plainAttrs_list F.slot_list_append F.type_list_append (mt_appI) rfl (pe_varI (pe_var rfl (by first | exact Or.inl rfl | exact Or.inr (Or.inl rfl) | exact Or.inr (Or.inr rfl)) rfl rfl)) (pa_consI (pe_tupI (pa_consI (pe_tyI (cr_tupleI rfl) rfl T.fr_tuple boot_tuple (pa_consI (pe_lcI [("_law_cell", 7)] rfl sc.nd (pi_anyI rfl (pe_subD rfl rfl hu (pe_varI (pe_var rfl (by first | exact Or.inl rfl | exact Or.inr (Or.inl rfl) | exact Or.inr (Or.inr rfl)) rfl rfl)) (pe_cstI pe_int fun _ _ => VR.i) fun _ _ => rfl)) (blkOk_by (by kernel_rfl)) (fun _ => rfl) (fun _ _ _ _ _ _ => (pg_nmW (by decide) (pg_name sc.nd rfl (by first | exact Or.inl rfl | exact Or.inr rfl) (by first | exact Or.inl rfl | exact Or.inr rfl)))) (fun _ _ _ _ _ _ => pts_nilI) (fun _ _ _ _ _ _ => (pe_iteI (pt_cmpI (op_inDct rfl rfl hu) (pe_varI (pe_var rfl (by first | exact Or.inl rfl | exact Or.inr (Or.inl rfl) | exact Or.inr (Or.inr rfl)) rfl rfl)) (pe_tupI (pa_consI (pe_cstI pe_int fun _ _ => VR.i) (pa_consI (pe_cstI pe_int fun _ _ => VR.i) pa_nilI rfl) rfl)) rfl) (pe_cmpI (op_eqDI rfl rfl hu4) (pe_varI (pe_var rfl (by first | exact Or.inl rfl | exact Or.inr (Or.inl rfl) | exact Or.inr (Or.inr rfl)) rfl rfl)) (pe_cstI pe_int fun _ _ => VR.i) rfl) (pe_varI (pe_var rfl (by first | exact Or.inl rfl | exact Or.inr (Or.inl rfl) | exact Or.inr (Or.inr rfl)) rfl rfl))))) pa_nilI rfl) (by decide) rfl rfl rfl) (pa_consI (pe_subD rfl rfl hu (pe_varI (pe_var rfl (by first | exact Or.inl rfl | exact Or.inr (Or.inl rfl) | exact Or.inr (Or.inr rfl)) rfl rfl)) (pe_cstI pe_int fun _ _ => VR.i) fun _ _ => rfl) pa_nilI rfl) rfl)) pa_nilI rfl) rfl rfl rfl rfl rfl) rfl)
    (pss_consI (ps_exprI (pe_mthI (.inl rfl) F.plainAttrs_list F.slot_list_append F.type_list_append (mt_appI) rfl (pe_varI (pe_var rfl (by first | exact Or.inl rfl | exact Or.inr (Or.inl rfl) | exact Or.inr (Or.inr rfl)) rfl rfl)) (pa_consI (pe_tupI (pa_consI (pe_subD rfl rfl hu (pe_varI (pe_var rfl (by first | exact Or.inl rfl | exact Or.inr (Or.inl rfl) | exact Or.inr (Or.inr rfl)) rfl rfl)) (pe_cstI pe_int fun _ _ => VR.i) fun _ _ => rfl) (pa_consI (pe_tyI (cr_tupleI rfl) rfl T.fr_tuple boot_tuple (pa_consI (pe_lcI [("_law_cell", 7)] rfl sc.nd (pi_anyI rfl (pe_subD rfl rfl hu (pe_varI (pe_var rfl (by first | exact Or.inl rfl | exact Or.inr (Or.inl rfl) | exact Or.inr (Or.inr rfl)) rfl rfl)) (pe_cstI pe_int fun _ _ => VR.i) fun _ _ => rfl)) (blkOk_by (by kernel_rfl)) (fun _ => rfl) (fun _ _ _ _ _ _ => (pg_nmW (by decide) (pg_name sc.nd rfl (by first | exact Or.inl rfl | exact Or.inr rfl) (by first | exact Or.inl rfl | exact Or.inr rfl)))) (fun _ _ _ _ _ _ => pts_nilI) (fun _ _ _ _ _ _ => (pe_iteI (pt_cmpI (op_inDct rfl rfl hu) (pe_varI (pe_var rfl (by first | exact Or.inl rfl | exact Or.inr (Or.inl rfl) | exact Or.inr (Or.inr rfl)) rfl rfl)) (pe_tupI (pa_consI (pe_cstI pe_int fun _ _ => VR.i) (pa_consI (pe_cstI pe_int fun _ _ => VR.i) pa_nilI rfl) rfl)) rfl) (pe_cmpI (op_eqDI rfl rfl hu4) (pe_varI (pe_var rfl (by first | exact Or.inl rfl | exact Or.inr (Or.inl rfl) | exact Or.inr (Or.inr rfl)) rfl rfl)) (pe_cstI pe_int fun _ _ => VR.i) rfl) (pe_varI (pe_var rfl (by first | exact Or.inl rfl | exact Or.inr (Or.inl rfl) | exact Or.inr (Or.inr rfl)) rfl rfl))))) pa_nilI rfl) (by decide) rfl rfl rfl) pa_nilI rfl) rfl)) pa_nilI rfl) rfl rfl rfl rfl rfl) rfl)
    (pss_consI (ps_exprI (pe_mthI (.inl rfl) F.plainAttrs_list F.slot_list_extend F.type_list_extend (mt_extI rfl) rfl (pe_varI (pe_var rfl (by first | exact Or.inl rfl | exact Or.inr (Or.inl rfl) | exact Or.inr (Or.inr rfl)) rfl rfl)) (pa_consI (pe_lcCI [("_law_one", 6)] rfl sc.nd (pi_refI (pe_varI (pe_var rfl (by first | exact Or.inl rfl | exact Or.inr (Or.inl rfl) | exact Or.inr (Or.inr rfl)) rfl rfl))) (blkOk_by (by kernel_rfl)) (fun _ => rfl) (fun _ _ _ _ _ _ => (pg_nmW (by decide) (pg_name sc.nd rfl (by first | exact Or.inl rfl | exact Or.inr rfl) (by first | exact Or.inl rfl | exact Or.inr rfl)))) (fun _ _ _ _ _ _ => pts_nilI) (fun _ _ _ _ _ _ => (pe_binI (op_addI rfl) (pe_binI (op_addI rfl) (pe_sliI rfl (pe_coeI (pe_varI (pe_var rfl (by first | exact Or.inl rfl | exact Or.inr (Or.inl rfl) | exact Or.inr (Or.inr rfl)) rfl rfl))) po_noneI (po_someI (pe_varI (pe_var rfl (by first | exact Or.inl rfl | exact Or.inr (Or.inl rfl) | exact Or.inr (Or.inr rfl)) rfl rfl)))) (pe_tupI (pa_consI (pe_varI (pe_var rfl (by first | exact Or.inl rfl | exact Or.inr (Or.inl rfl) | exact Or.inr (Or.inr rfl)) rfl rfl)) pa_nilI rfl))) (pe_sliI rfl (pe_coeI (pe_varI (pe_var rfl (by first | exact Or.inl rfl | exact Or.inr (Or.inl rfl) | exact Or.inr (Or.inr rfl)) rfl rfl))) (po_someI (pe_binI (op_addI rfl) (pe_varI (pe_var rfl (by first | exact Or.inl rfl | exact Or.inr (Or.inl rfl) | exact Or.inr (Or.inr rfl)) rfl rfl)) (pe_cstI pe_int fun _ _ => VR.i))) po_noneI)))) pa_nilI rfl) rfl rfl rfl rfl rfl) rfl)
    pss_nilI))))))) fun _ => rfl)
    (pss_consI (ps_retI (pe_varI (pe_var rfl (by first | exact Or.inl rfl | exact Or.inr (Or.inl rfl) | exact Or.inr (Or.inr rfl)) rfl rfl)))
    pss_nilI)))
theorem ok__law_near_rows (T : Tab Pr K mg) (TB : ∀ p ∈ cs K, LamX.TabB base mg p.1 p.2) : FnI Pr w K mg base (PP K w) "_law_near_rows" 1 2 c__law_near_rows := by
  obtain ⟨hm, fd, F⟩ := T.fn__law_near_rows
  exact FnI.all (ps := ["_law_vat_here", "_law_rows_here"]) (fn_okI (P := PP K w) (f := b__law_near_rows) (N := N__law_near_rows) (ps := ["_law_vat_here", "_law_rows_here"]) F sc__law_near_rows fun av cdv A outer s H E hr hgd hcd => body__law_near_rows T  av _ cdv A outer s H E hr hgd hcd) hm F.kp (F.bindsN fun _ _ _ _ _ _ us hl => match us, hl with | [_, _], _ => by kernel_rfl)
theorem sc_is_within_bounds : FnScope N_is_within_bounds ["value", "least", "greatest"] (defScope (top 7)) := ⟨rfl, rfl, rfl, by decide +kernel, rfl, by decide +kernel, by decide +kernel⟩
theorem body_is_within_bounds (T : Tab Pr K mg) (F_is_whole : FnI Pr w K mg base (PP K w) "is_whole" 1 1 c_is_whole) (av : List Addr) (fA : Addr) (cdv : Value) (A : Around) (outer : List Env) (s : Shared) (H : Hp) (E : XK) (hr : Room 1 (A.deeper (envOfC "is_within_bounds" (defScope (top 7)) s.heap.objs.size fA cdv))) (hgd : A.guards = some []) (hcd : cdv = .ref (codeA K fA)) :
    PSs (cxOf (L2.CX Pr w) Pr w K mg base N_is_within_bounds "is_within_bounds" (defScope (top 7)) fA cdv A outer s H E) (defBody (top 7)) (tS ((PP K w).at av) (fun c d _ H => E c d H) b_is_within_bounds) := by
  have hu := units65 hr
  have hu4 := hr.units
  have sc := sc_is_within_bounds
  have pa := passes_of (X := cxOf (L2.CX Pr w) Pr w K mg base N_is_within_bounds "is_within_bounds" (defScope (top 7)) fA cdv A outer s H E) rfl
  have tk := takes_of (X := cxOf (L2.CX Pr w) Pr w K mg base N_is_within_bounds "is_within_bounds" (defScope (top 7)) fA cdv A outer s H E) rfl rfl rfl rfl
  unfold b_is_within_bounds
  exact (pss_consI (ps_retI (pe_andI rfl (pe_callI none F_is_whole hr hgd rfl tk (pa_consI (pe_varI (pe_var rfl (by first | exact Or.inl rfl | exact Or.inr (Or.inl rfl) | exact Or.inr (Or.inr rfl)) rfl rfl)) pa_nilI rfl) rfl rfl rfl) (pe_one (pe_chnI (op_ordI rfl hu4) (op_ordI rfl hu4) (pe_varI (pe_var rfl (by first | exact Or.inl rfl | exact Or.inr (Or.inl rfl) | exact Or.inr (Or.inr rfl)) rfl rfl)) (pe_varI (pe_var rfl (by first | exact Or.inl rfl | exact Or.inr (Or.inl rfl) | exact Or.inr (Or.inr rfl)) rfl rfl)) (pe_varI (pe_var rfl (by first | exact Or.inl rfl | exact Or.inr (Or.inl rfl) | exact Or.inr (Or.inr rfl)) rfl rfl)) rfl))))
    pss_nilI)
theorem ok_is_within_bounds (T : Tab Pr K mg) (TB : ∀ p ∈ cs K, LamX.TabB base mg p.1 p.2) : FnI Pr w K mg base (PP K w) "is_within_bounds" 2 3 c_is_within_bounds := by
  obtain ⟨hm, fd, F⟩ := T.fn_is_within_bounds
  have F_is_whole := (ok_is_whole (Pr := Pr) (w := w) (base := base) T TB).mono (by decide : 1 ≤ 1)
  exact FnI.all (ps := ["value", "least", "greatest"]) (fn_okI (P := PP K w) (f := b_is_within_bounds) (N := N_is_within_bounds) (ps := ["value", "least", "greatest"]) F sc_is_within_bounds fun av cdv A outer s H E hr hgd hcd => body_is_within_bounds T F_is_whole av _ cdv A outer s H E hr hgd hcd) hm F.kp (F.bindsN fun _ _ _ _ _ _ us hl => match us, hl with | [_, _, _], _ => by kernel_rfl)
theorem sc_row_told : FnScope N_row_told ["cells", "at"] (defScope (top 19)) := ⟨rfl, rfl, rfl, by decide +kernel, rfl, by decide +kernel, by decide +kernel⟩
theorem body_row_told (T : Tab Pr K mg) (F_part_told : FnI Pr w K mg base (PP K w) "part_told" 1 3 c_part_told) (av : List Addr) (fA : Addr) (cdv : Value) (A : Around) (outer : List Env) (s : Shared) (H : Hp) (E : XK) (hr : Room 1 (A.deeper (envOfC "row_told" (defScope (top 19)) s.heap.objs.size fA cdv))) (hgd : A.guards = some []) (hcd : cdv = .ref (codeA K fA)) :
    PSs (cxOf (L2.CX Pr w) Pr w K mg base N_row_told "row_told" (defScope (top 19)) fA cdv A outer s H E) (defBody (top 19)) (tS ((PP K w).at av) (fun c d _ H => E c d H) b_row_told) := by
  have hu := units65 hr
  have hu4 := hr.units
  have sc := sc_row_told
  have pa := passes_of (X := cxOf (L2.CX Pr w) Pr w K mg base N_row_told "row_told" (defScope (top 19)) fA cdv A outer s H E) rfl
  have tk := takes_of (X := cxOf (L2.CX Pr w) Pr w K mg base N_row_told "row_told" (defScope (top 19)) fA cdv A outer s H E) rfl rfl rfl rfl
  unfold b_row_told
  exact (pss_consI (ps_asgI (pe_callI none F_part_told hr hgd rfl tk (pa_consI (pe_varI (pe_var rfl (by first | exact Or.inl rfl | exact Or.inr (Or.inl rfl) | exact Or.inr (Or.inr rfl)) rfl rfl)) (pa_consI (pe_varI (pe_var rfl (by first | exact Or.inl rfl | exact Or.inr (Or.inl rfl) | exact Or.inr (Or.inr rfl)) rfl rfl)) (pa_consI (pe_cstI (pe_glob (v := .int 3) rfl T.in_MOST_KEY.choose_spec ⟨_, rfl⟩ rfl) fun _ _ => VR.i) pa_nilI rfl) rfl) rfl) rfl rfl rfl) (pg_nmI (pg_name sc.nd rfl (by first | exact Or.inl rfl | exact Or.inr rfl) (by first | exact Or.inl rfl | exact Or.inr rfl))) rfl rfl rfl)
    (pss_consI (ps_asgI (pe_iteI (pt_cmpI (op_isnI) (pe_varI (pe_var rfl (by first | exact Or.inl rfl | exact Or.inr (Or.inl rfl) | exact Or.inr (Or.inr rfl)) rfl rfl)) (pe_cstI pe_non fun _ _ => VR.n) rfl) (pe_callI none F_part_told hr hgd rfl tk (pa_consI (pe_varI (pe_var rfl (by first | exact Or.inl rfl | exact Or.inr (Or.inl rfl) | exact Or.inr (Or.inr rfl)) rfl rfl)) (pa_consI (pe_subD rfl rfl hu (pe_varI (pe_var rfl (by first | exact Or.inl rfl | exact Or.inr (Or.inl rfl) | exact Or.inr (Or.inr rfl)) rfl rfl)) (pe_cstI pe_int fun _ _ => VR.i) fun _ _ => rfl) (pa_consI (pe_cstI (pe_glob (v := .int 8) rfl T.in_MOST_VALUE.choose_spec ⟨_, rfl⟩ rfl) fun _ _ => VR.i) pa_nilI rfl) rfl) rfl) rfl rfl rfl) (pe_cstI pe_non fun _ _ => VR.n)) (pg_nmI (pg_name sc.nd rfl (by first | exact Or.inl rfl | exact Or.inr rfl) (by first | exact Or.inl rfl | exact Or.inr rfl))) rfl rfl rfl)
    (pss_consI (ps_retI (pe_iteI (pt_cmpI (op_isnI) (pe_varI (pe_var rfl (by first | exact Or.inl rfl | exact Or.inr (Or.inl rfl) | exact Or.inr (Or.inr rfl)) rfl rfl)) (pe_cstI pe_non fun _ _ => VR.n) rfl) (pe_tupI (pa_consI (pe_subD rfl rfl hu (pe_varI (pe_var rfl (by first | exact Or.inl rfl | exact Or.inr (Or.inl rfl) | exact Or.inr (Or.inr rfl)) rfl rfl)) (pe_cstI pe_int fun _ _ => VR.i) fun _ _ => rfl) (pa_consI (pe_subD rfl rfl hu (pe_varI (pe_var rfl (by first | exact Or.inl rfl | exact Or.inr (Or.inl rfl) | exact Or.inr (Or.inr rfl)) rfl rfl)) (pe_cstI pe_int fun _ _ => VR.i) fun _ _ => rfl) (pa_consI (pe_subD rfl rfl hu (pe_varI (pe_var rfl (by first | exact Or.inl rfl | exact Or.inr (Or.inl rfl) | exact Or.inr (Or.inr rfl)) rfl rfl)) (pe_cstI pe_int fun _ _ => VR.i) fun _ _ => rfl) pa_nilI rfl) rfl) rfl)) (pe_cstI pe_non fun _ _ => VR.n)))
    pss_nilI)))
theorem ok_row_told (T : Tab Pr K mg) (TB : ∀ p ∈ cs K, LamX.TabB base mg p.1 p.2) : FnI Pr w K mg base (PP K w) "row_told" 2 2 c_row_told := by
  obtain ⟨hm, fd, F⟩ := T.fn_row_told
  have F_part_told := (ok_part_told (Pr := Pr) (w := w) (base := base) T TB).mono (by decide : 1 ≤ 1)
  exact FnI.all (ps := ["cells", "at"]) (fn_okI (P := PP K w) (f := b_row_told) (N := N_row_told) (ps := ["cells", "at"]) F sc_row_told fun av cdv A outer s H E hr hgd hcd => body_row_told T F_part_told av _ cdv A outer s H E hr hgd hcd) hm F.kp (F.bindsN fun _ _ _ _ _ _ us hl => match us, hl with | [_, _], _ => by kernel_rfl)
theorem sc__law_taste : FnScope N__law_taste ["_law_vat_here", "_law_items"] (defScope (top 31)) := ⟨rfl, rfl, rfl, by decide +kernel, rfl, by decide +kernel, by decide +kernel⟩
theorem body__law_taste (T : Tab Pr K mg) (F__law_drop : FnI Pr w K mg base (PP K w) "_law_drop" 1 2 c__law_drop) (av : List Addr) (fA : Addr) (cdv : Value) (A : Around) (outer : List Env) (s : Shared) (H : Hp) (E : XK) (hr : Room 1 (A.deeper (envOfC "_law_taste" (defScope (top 31)) s.heap.objs.size fA cdv))) (hgd : A.guards = some []) (hcd : cdv = .ref (codeA K fA)) :
    PSs (cxOf (L2.CX Pr w) Pr w K mg base N__law_taste "_law_taste" (defScope (top 31)) fA cdv A outer s H E) (defBody (top 31)) (tS ((PP K w).at av) (fun c d _ H => E c d H) b__law_taste) := by
  have hu := units65 hr
  have hu4 := hr.units
  have sc := sc__law_taste
  have pa := passes_of (X := cxOf (L2.CX Pr w) Pr w K mg base N__law_taste "_law_taste" (defScope (top 31)) fA cdv A outer s H E) rfl
  have tk := takes_of (X := cxOf (L2.CX Pr w) Pr w K mg base N__law_taste "_law_taste" (defScope (top 31)) fA cdv A outer s H E) rfl rfl rfl rfl
  unfold b__law_taste
  exact (pss_consI (ps_retI (pe_subD rfl rfl hu (pe_varI (pe_var rfl (by first | exact Or.inl rfl | exact Or.inr (Or.inl rfl) | exact Or.inr (Or.inr rfl)) rfl rfl)) (pe_callI none F__law_drop hr hgd rfl tk (pa_consI (pe_varI (pe_var rfl (by first | exact Or.inl rfl | exact Or.inr (Or.inl rfl) | exact Or.inr (Or.inr rfl)) rfl rfl)) (pa_consI (pe_bltI (cr_lenI rfl) rfl T.fr_len boot_len (pa_consI (pe_varI (pe_var rfl (by first | exact Or.inl rfl | exact Or.inr (Or.inl rfl) | exact Or.inr (Or.inr rfl)) rfl rfl)) pa_nilI rfl) (by decide) rfl rfl rfl) pa_nilI rfl) rfl) rfl rfl rfl) fun _ _ => rfl))
    pss_nilI)
theorem ok__law_taste (T : Tab Pr K mg) (TB : ∀ p ∈ cs K, LamX.TabB base mg p.1 p.2) : FnI Pr w K mg base (PP K w) "_law_taste" 2 2 c__law_taste := by
  obtain ⟨hm, fd, F⟩ := T.fn__law_taste
  have F__law_drop := (ok__law_drop (Pr := Pr) (w := w) (base := base) T TB).mono (by decide : 1 ≤ 1)
  exact FnI.all (ps := ["_law_vat_here", "_law_items"]) (fn_okI (P := PP K w) (f := b__law_taste) (N := N__law_taste) (ps := ["_law_vat_here", "_law_items"]) F sc__law_taste fun av cdv A outer s H E hr hgd hcd => body__law_taste T F__law_drop av _ cdv A outer s H E hr hgd hcd) hm F.kp (F.bindsN fun _ _ _ _ _ _ us hl => match us, hl with | [_, _], _ => by kernel_rfl)
theorem sc__law_read : FnScope N__law_read ["_law_cells_here"] (defScope (top 36)) := ⟨rfl, rfl, rfl, by decide +kernel, rfl, by decide +kernel, by decide +kernel⟩
theorem body__law_read (T : Tab Pr K mg) (F__law_stretch : FnI Pr w K mg base (PP K w) "_law_stretch" 1 3 c__law_stretch) (av : List Addr) (fA : Addr) (cdv : Value) (A : Around) (outer : List Env) (s : Shared) (H : Hp) (E : XK) (hr : Room 1 (A.deeper (envOfC "_law_read" (defScope (top 36)) s.heap.objs.size fA cdv))) (hgd : A.guards = some []) (hcd : cdv = .ref (codeA K fA)) :
    PSs (cxOf (L2.CX Pr w) Pr w K mg base N__law_read "_law_read" (defScope (top 36)) fA cdv A outer s H E) (defBody (top 36)) (tS ((PP K w).at av) (fun c d _ H => E c d H) b__law_read) := by
  have hu := units65 hr
  have hu4 := hr.units
  have sc := sc__law_read
  have pa := passes_of (X := cxOf (L2.CX Pr w) Pr w K mg base N__law_read "_law_read" (defScope (top 36)) fA cdv A outer s H E) rfl
  have tk := takes_of (X := cxOf (L2.CX Pr w) Pr w K mg base N__law_read "_law_read" (defScope (top 36)) fA cdv A outer s H E) rfl rfl rfl rfl
  unfold b__law_read
  exact (pss_consI (ps_parI rfl sc.nd rfl rfl (by decide) rfl rfl (pa_consI (pe_refOf (pl_list pa_nilI)) (pa_consI (pe_cstI pe_int fun _ _ => VR.i) pa_nilI rfl) rfl) rfl rfl)
    (pss_consI (ps_whileI pa (pt_cmpI (op_ordI rfl hu4) (pe_varI (pe_var rfl (by first | exact Or.inl rfl | exact Or.inr (Or.inl rfl) | exact Or.inr (Or.inr rfl)) rfl rfl)) (pe_bltI (cr_lenI rfl) rfl T.fr_len boot_len (pa_consI (pe_varI (pe_var rfl (by first | exact Or.inl rfl | exact Or.inr (Or.inl rfl) | exact Or.inr (Or.inr rfl)) rfl rfl)) pa_nilI rfl) (by decide) rfl rfl rfl) rfl) (pss_consI (ps_asgI (pe_callI none F__law_stretch hr hgd rfl tk (pa_consI (pe_varI (pe_var rfl (by first | exact Or.inl rfl | exact Or.inr (Or.inl rfl) | exact Or.inr (Or.inr rfl)) rfl rfl)) (pa_consI (pe_varI (pe_var rfl (by first | exact Or.inl rfl | exact Or.inr (Or.inl rfl) | exact Or.inr (Or.inr rfl)) rfl rfl)) (pa_consI (pe_cstI pe_int fun _ _ => VR.i) pa_nilI rfl) rfl) rfl) rfl rfl rfl) (pg_nmI (pg_name sc.nd rfl (by first | exact Or.inl rfl | exact Or.inr rfl) (by first | exact Or.inl rfl | exact Or.inr rfl))) rfl rfl rfl)
    (pss_consI (ps_asgI (pe_iteI (pt_cmpI (op_isnI) (pe_varI (pe_var rfl (by first | exact Or.inl rfl | exact Or.inr (Or.inl rfl) | exact Or.inr (Or.inr rfl)) rfl rfl)) (pe_cstI pe_non fun _ _ => VR.n) rfl) (pe_callI none F__law_stretch hr hgd rfl tk (pa_consI (pe_varI (pe_var rfl (by first | exact Or.inl rfl | exact Or.inr (Or.inl rfl) | exact Or.inr (Or.inr rfl)) rfl rfl)) (pa_consI (pe_subD rfl rfl hu (pe_varI (pe_var rfl (by first | exact Or.inl rfl | exact Or.inr (Or.inl rfl) | exact Or.inr (Or.inr rfl)) rfl rfl)) (pe_cstI pe_int fun _ _ => VR.i) fun _ _ => rfl) (pa_consI (pe_cstI pe_int fun _ _ => VR.i) pa_nilI rfl) rfl) rfl) rfl rfl rfl) (pe_cstI pe_non fun _ _ => VR.n)) (pg_nmI (pg_name sc.nd rfl (by first | exact Or.inl rfl | exact Or.inr rfl) (by first | exact Or.inl rfl | exact Or.inr rfl))) rfl rfl rfl)
    (pss_consI (ps_ifI (PW.pt (pw_orI (pt_cmpI (op_isI) (pe_varI (pe_var rfl (by first | exact Or.inl rfl | exact Or.inr (Or.inl rfl) | exact Or.inr (Or.inr rfl)) rfl rfl)) (pe_cstI pe_non fun _ _ => VR.n) rfl) (pw_or1 (pt_cmpI (op_neNilI rfl (Nat.lt_of_le_of_lt (Nat.add_le_add_left (by decide) _) hu4)) (pe_lcCI [("_law_row", 5)] rfl sc.nd (pi_refI (pe_varI (pe_var rfl (by first | exact Or.inl rfl | exact Or.inr (Or.inl rfl) | exact Or.inr (Or.inr rfl)) rfl rfl))) (blkOk_by (by kernel_rfl)) (fun _ => rfl) (fun _ _ _ _ _ _ => (pg_nmW (by decide) (pg_name sc.nd rfl (by first | exact Or.inl rfl | exact Or.inr rfl) (by first | exact Or.inl rfl | exact Or.inr rfl)))) (fun _ _ _ _ _ _ => (pts_oneI (pt_cmpI (op_ordI rfl hu4) (pe_subD rfl rfl hu (pe_varI (pe_var rfl (by first | exact Or.inl rfl | exact Or.inr (Or.inl rfl) | exact Or.inr (Or.inr rfl)) rfl rfl)) (pe_cstI pe_int fun _ _ => VR.i) fun _ _ => rfl) (pe_subD rfl rfl hu (pe_varI (pe_var rfl (by first | exact Or.inl rfl | exact Or.inr (Or.inl rfl) | exact Or.inr (Or.inr rfl)) rfl rfl)) (pe_cstI pe_int fun _ _ => VR.i) fun _ _ => rfl) rfl))) (fun _ _ _ _ _ _ => (pe_cstI pe_int fun _ _ => VR.i))) (pe_lstOf (pl_list pa_nilI)) rfl)))) (pss_consI (ps_retI (pe_cstI pe_non fun _ _ => VR.n))
    pss_nilI) pss_nilI)
    (pss_consI (ps_exprI (pe_mthI (.inl rfl) F.plainAttrs_list F.slot_list_append F.type_list_append (mt_appI) rfl (pe_varI (pe_var rfl (by first | exact Or.inl rfl | exact Or.inr (Or.inl rfl) | exact Or.inr (Or.inr rfl)) rfl rfl)) (pa_consI (pe_tupI (pa_consI (pe_subD rfl rfl hu (pe_varI (pe_var rfl (by first | exact Or.inl rfl | exact Or.inr (Or.inl rfl) | exact Or.inr (Or.inr rfl)) rfl rfl)) (pe_cstI pe_int fun _ _ => VR.i) fun _ _ => rfl) (pa_consI (pe_subD rfl rfl hu (pe_varI (pe_var rfl (by first | exact Or.inl rfl | exact Or.inr (Or.inl rfl) | exact Or.inr (Or.inr rfl)) rfl rfl)) (pe_cstI pe_int fun _ _ => VR.i) fun _ _ => rfl) pa_nilI rfl) rfl)) pa_nilI rfl) rfl rfl rfl rfl rfl) rfl)
    (pss_consI (ps_asgI (pe_subD rfl rfl hu (pe_varI (pe_var rfl (by first | exact Or.inl rfl | exact Or.inr (Or.inl rfl) | exact Or.inr (Or.inr rfl)) rfl rfl)) (pe_cstI pe_int fun _ _ => VR.i) fun _ _ => rfl) (pg_nmI (pg_name sc.nd rfl (by first | exact Or.inl rfl | exact Or.inr rfl) (by first | exact Or.inl rfl | exact Or.inr rfl))) rfl rfl rfl)
    pss_nilI))))))
    (pss_consI (ps_retI (pe_tyI (cr_tupleI rfl) rfl T.fr_tuple boot_tuple (pa_consI (pe_varI (pe_var rfl (by first | exact Or.inl rfl | exact Or.inr (Or.inl rfl) | exact Or.inr (Or.inr rfl)) rfl rfl)) pa_nilI rfl) (by decide) rfl rfl rfl))
    pss_nilI)))
theorem ok__law_read (T : Tab Pr K mg) (TB : ∀ p ∈ cs K, LamX.TabB base mg p.1 p.2) : FnI Pr w K mg base (PP K w) "_law_read" 2 1 c__law_read := by
  obtain ⟨hm, fd, F⟩ := T.fn__law_read
  have F__law_stretch := (ok__law_stretch (Pr := Pr) (w := w) (base := base) T TB).mono (by decide : 1 ≤ 1)
  exact FnI.all (ps := ["_law_cells_here"]) (fn_okI (P := PP K w) (f := b__law_read) (N := N__law_read) (ps := ["_law_cells_here"]) F sc__law_read fun av cdv A outer s H E hr hgd hcd => body__law_read T F__law_stretch av _ cdv A outer s H E hr hgd hcd) hm F.kp (F.bindsN fun _ _ _ _ _ _ us hl => match us, hl with | [_], _ => by kernel_rfl)
theorem sc__law_are_rows : FnScope N__law_are_rows ["_law_value"] (defScope (top 38)) := ⟨rfl, rfl, rfl, by decide +kernel, rfl, by decide +kernel, by decide +kernel⟩
theorem body__law_are_rows (T : Tab Pr K mg) (F__law_is_cells : FnI Pr w K mg base (PP K w) "_law_is_cells" 1 2 c__law_is_cells) (av : List Addr) (fA : Addr) (cdv : Value) (A : Around) (outer : List Env) (s : Shared) (H : Hp) (E : XK) (hr : Room 1 (A.deeper (envOfC "_law_are_rows" (defScope (top 38)) s.heap.objs.size fA cdv))) (hgd : A.guards = some []) (hcd : cdv = .ref (codeA K fA)) :
    PSs (cxOf (L2.CX Pr w) Pr w K mg base N__law_are_rows "_law_are_rows" (defScope (top 38)) fA cdv A outer s H E) (defBody (top 38)) (tS ((PP K w).at av) (fun c d _ H => E c d H) b__law_are_rows) := by
  have hu := units65 hr
  have hu4 := hr.units
  have sc := sc__law_are_rows
  have pa := passes_of (X := cxOf (L2.CX Pr w) Pr w K mg base N__law_are_rows "_law_are_rows" (defScope (top 38)) fA cdv A outer s H E) rfl
  have tk := takes_of (X := cxOf (L2.CX Pr w) Pr w K mg base N__law_are_rows "_law_are_rows" (defScope (top 38)) fA cdv A outer s H E) rfl rfl rfl rfl
  unfold b__law_are_rows
  exact (pss_consI (ps_ifI (pt_notI (pt_truI rfl (pe_bltI (cr_isaI rfl) rfl T.fr_isinstance boot_isinstance (pa_consI (pe_varI (pe_var rfl (by first | exact Or.inl rfl | exact Or.inr (Or.inl rfl) | exact Or.inr (Or.inr rfl)) rfl rfl)) (pa_consI (pe_cstI (pe_bltn (v := .ty "tuple") (u := .type "tuple") rfl T.fr_tuple boot_tuple rfl (by decide) rfl) fun _ _ => VR.t) pa_nilI rfl) rfl) (by decide) rfl rfl rfl) fun _ => rfl)) (pss_consI (ps_retI (pe_cstI pe_bl fun _ _ => VR.b))
    pss_nilI) pss_nilI)
    (pss_consI (ps_forI pa rfl (pi_anyI rfl (pe_varI (pe_var rfl (by first | exact Or.inl rfl | exact Or.inr (Or.inl rfl) | exact Or.inr (Or.inr rfl)) rfl rfl))) (pg_nmI (pg_name sc.nd rfl (by first | exact Or.inl rfl | exact Or.inr rfl) (by first | exact Or.inl rfl | exact Or.inr rfl))) (pss_consI (ps_ifI (PW.pt (pw_orI (pt_notI (pt_truI rfl (pe_bltI (cr_isaI rfl) rfl T.fr_isinstance boot_isinstance (pa_consI (pe_varI (pe_var rfl (by first | exact Or.inl rfl | exact Or.inr (Or.inl rfl) | exact Or.inr (Or.inr rfl)) rfl rfl)) (pa_consI (pe_cstI (pe_bltn (v := .ty "tuple") (u := .type "tuple") rfl T.fr_tuple boot_tuple rfl (by decide) rfl) fun _ _ => VR.t) pa_nilI rfl) rfl) (by decide) rfl rfl rfl) fun _ => rfl)) (pw_orI (pt_cmpI (op_neDI rfl rfl hu4) (pe_bltI (cr_lenI rfl) rfl T.fr_len boot_len (pa_consI (pe_varI (pe_var rfl (by first | exact Or.inl rfl | exact Or.inr (Or.inl rfl) | exact Or.inr (Or.inr rfl)) rfl rfl)) pa_nilI rfl) (by decide) rfl rfl rfl) (pe_cstI pe_int fun _ _ => VR.i) rfl) (pw_orI (pt_notI (pt_truI rfl (pe_callI none F__law_is_cells hr hgd rfl tk (pa_consI (pe_subD rfl rfl hu (pe_varI (pe_var rfl (by first | exact Or.inl rfl | exact Or.inr (Or.inl rfl) | exact Or.inr (Or.inr rfl)) rfl rfl)) (pe_cstI pe_int fun _ _ => VR.i) fun _ _ => rfl) (pa_consI (pe_cstI pe_int fun _ _ => VR.i) pa_nilI rfl) rfl) rfl rfl rfl) fun _ => rfl)) (pw_or1 (pt_notI (pt_truI rfl (pe_callI none F__law_is_cells hr hgd rfl tk (pa_consI (pe_subD rfl rfl hu (pe_varI (pe_var rfl (by first | exact Or.inl rfl | exact Or.inr (Or.inl rfl) | exact Or.inr (Or.inr rfl)) rfl rfl)) (pe_cstI pe_int fun _ _ => VR.i) fun _ _ => rfl) (pa_consI (pe_cstI pe_int fun _ _ => VR.i) pa_nilI rfl) rfl) rfl rfl rfl) fun _ => rfl))))))) (pss_consI (ps_retI (pe_cstI pe_bl fun _ _ => VR.b))
    pss_nilI) pss_nilI)
    pss_nilI) fun _ => rfl)
    (pss_consI (ps_retI (pe_cmpI (op_eqNilI rfl (Nat.lt_of_le_of_lt (Nat.add_le_add_left (by decide) _) hu4)) (pe_lcI [("_law_row", 1), ("_law_later", 2)] rfl sc.nd (pi_zipAny rfl rfl T.fr_zip (pa_consI (pe_varI (pe_var rfl (by first | exact Or.inl rfl | exact Or.inr (Or.inl rfl) | exact Or.inr (Or.inr rfl)) rfl rfl)) (pa_consI (pe_sliI rfl (pe_varI (pe_var rfl (by first | exact Or.inl rfl | exact Or.inr (Or.inl rfl) | exact Or.inr (Or.inr rfl)) rfl rfl)) (po_someI (pe_cstI pe_int fun _ _ => VR.i)) po_noneI) pa_nilI rfl) rfl) rfl rfl) (blkOk_by (by kernel_rfl)) (fun _ => rfl) (fun _ _ _ _ _ _ => (pg_tupW rfl rfl (pgs_consW (pg_nmW (by decide) (pg_name sc.nd rfl (by first | exact Or.inl rfl | exact Or.inr rfl) (by first | exact Or.inl rfl | exact Or.inr rfl))) (pgs_consW (pg_nmW (by decide) (pg_name sc.nd rfl (by first | exact Or.inl rfl | exact Or.inr rfl) (by first | exact Or.inl rfl | exact Or.inr rfl))) pgs_nilW rfl) rfl) rfl rfl)) (fun _ _ _ _ _ _ => (pts_oneI (pt_notI (pt_cmpI (op_ordI rfl hu4) (pe_subD rfl rfl hu (pe_varI (pe_var rfl (by first | exact Or.inl rfl | exact Or.inr (Or.inl rfl) | exact Or.inr (Or.inr rfl)) rfl rfl)) (pe_cstI pe_int fun _ _ => VR.i) fun _ _ => rfl) (pe_subD rfl rfl hu (pe_varI (pe_var rfl (by first | exact Or.inl rfl | exact Or.inr (Or.inl rfl) | exact Or.inr (Or.inr rfl)) rfl rfl)) (pe_cstI pe_int fun _ _ => VR.i) fun _ _ => rfl) rfl)))) (fun _ _ _ _ _ _ => (pe_cstI pe_int fun _ _ => VR.i))) (pe_lstOf (pl_list pa_nilI)) rfl))
    pss_nilI)))
theorem ok__law_are_rows (T : Tab Pr K mg) (TB : ∀ p ∈ cs K, LamX.TabB base mg p.1 p.2) : FnI Pr w K mg base (PP K w) "_law_are_rows" 2 1 c__law_are_rows := by
  obtain ⟨hm, fd, F⟩ := T.fn__law_are_rows
  have F__law_is_cells := (ok__law_is_cells (Pr := Pr) (w := w) (base := base) T TB).mono (by decide : 1 ≤ 1)
  exact FnI.all (ps := ["_law_value"]) (fn_okI (P := PP K w) (f := b__law_are_rows) (N := N__law_are_rows) (ps := ["_law_value"]) F sc__law_are_rows fun av cdv A outer s H E hr hgd hcd => body__law_are_rows T F__law_is_cells av _ cdv A outer s H E hr hgd hcd) hm F.kp (F.bindsN fun _ _ _ _ _ _ us hl => match us, hl with | [_], _ => by kernel_rfl)
theorem sc_is_cell : FnScope N_is_cell ["value"] (defScope (top 8)) := ⟨rfl, rfl, rfl, by decide +kernel, rfl, by decide +kernel, by decide +kernel⟩
theorem body_is_cell (T : Tab Pr K mg) (F_is_within_bounds : FnI Pr w K mg base (PP K w) "is_within_bounds" 2 3 c_is_within_bounds) (av : List Addr) (fA : Addr) (cdv : Value) (A : Around) (outer : List Env) (s : Shared) (H : Hp) (E : XK) (hr : Room 2 (A.deeper (envOfC "is_cell" (defScope (top 8)) s.heap.objs.size fA cdv))) (hgd : A.guards = some []) (hcd : cdv = .ref (codeA K fA)) :
    PSs (cxOf (L2.CX Pr w) Pr w K mg base N_is_cell "is_cell" (defScope (top 8)) fA cdv A outer s H E) (defBody (top 8)) (tS ((PP K w).at av) (fun c d _ H => E c d H) b_is_cell) := by
  have hu := units65 hr
  have hu4 := hr.units
  have sc := sc_is_cell
  have pa := passes_of (X := cxOf (L2.CX Pr w) Pr w K mg base N_is_cell "is_cell" (defScope (top 8)) fA cdv A outer s H E) rfl
  have tk := takes_of (X := cxOf (L2.CX Pr w) Pr w K mg base N_is_cell "is_cell" (defScope (top 8)) fA cdv A outer s H E) rfl rfl rfl rfl
  unfold b_is_cell
  exact (pss_consI (ps_retI (pe_callI none F_is_within_bounds hr hgd rfl tk (pa_consI (pe_varI (pe_var rfl (by first | exact Or.inl rfl | exact Or.inr (Or.inl rfl) | exact Or.inr (Or.inr rfl)) rfl rfl)) (pa_consI (pe_cstI pe_int fun _ _ => VR.i) (pa_consI (pe_cstI (pe_glob (v := .int 999999999999999999) rfl T.in_MAX_CELL.choose_spec ⟨_, rfl⟩ rfl) fun _ _ => VR.i) pa_nilI rfl) rfl) rfl) rfl rfl rfl))
    pss_nilI)
theorem ok_is_cell (T : Tab Pr K mg) (TB : ∀ p ∈ cs K, LamX.TabB base mg p.1 p.2) : FnI Pr w K mg base (PP K w) "is_cell" 3 1 c_is_cell := by
  obtain ⟨hm, fd, F⟩ := T.fn_is_cell
  have F_is_within_bounds := (ok_is_within_bounds (Pr := Pr) (w := w) (base := base) T TB).mono (by decide : 2 ≤ 2)
  exact FnI.all (ps := ["value"]) (fn_okI (P := PP K w) (f := b_is_cell) (N := N_is_cell) (ps := ["value"]) F sc_is_cell fun av cdv A outer s H E hr hgd hcd => body_is_cell T F_is_within_bounds av _ cdv A outer s H E hr hgd hcd) hm F.kp (F.bindsN fun _ _ _ _ _ _ us hl => match us, hl with | [_], _ => by kernel_rfl)
theorem sc_rows_in : FnScope N_rows_in ["cells"] (defScope (top 20)) := ⟨rfl, rfl, rfl, by decide +kernel, rfl, by decide +kernel, by decide +kernel⟩
theorem body_rows_in (T : Tab Pr K mg) (F_row_told : FnI Pr w K mg base (PP K w) "row_told" 2 2 c_row_told) (av : List Addr) (fA : Addr) (cdv : Value) (A : Around) (outer : List Env) (s : Shared) (H : Hp) (E : XK) (hr : Room 2 (A.deeper (envOfC "rows_in" (defScope (top 20)) s.heap.objs.size fA cdv))) (hgd : A.guards = some []) (hcd : cdv = .ref (codeA K fA)) :
    PSs (cxOf (L2.CX Pr w) Pr w K mg base N_rows_in "rows_in" (defScope (top 20)) fA cdv A outer s H E) (defBody (top 20)) (tS ((PP K w).at av) (fun c d _ H => E c d H) b_rows_in) := by
  have hu := units65 hr
  have hu4 := hr.units
  have sc := sc_rows_in
  have pa := passes_of (X := cxOf (L2.CX Pr w) Pr w K mg base N_rows_in "rows_in" (defScope (top 20)) fA cdv A outer s H E) rfl
  have tk := takes_of (X := cxOf (L2.CX Pr w) Pr w K mg base N_rows_in "rows_in" (defScope (top 20)) fA cdv A outer s H E) rfl rfl rfl rfl
  unfold b_rows_in
  exact (pss_consI (ps_parI rfl sc.nd rfl rfl (by decide) rfl rfl (pa_consI (pe_refOf (pl_list pa_nilI)) (pa_consI (pe_cstI pe_int fun _ _ => VR.i) pa_nilI rfl) rfl) rfl rfl)
    (pss_consI (ps_whileI pa (pt_cmpI (op_ordI rfl hu4) (pe_varI (pe_var rfl (by first | exact Or.inl rfl | exact Or.inr (Or.inl rfl) | exact Or.inr (Or.inr rfl)) rfl rfl)) (pe_bltI (cr_lenI rfl) rfl T.fr_len boot_len (pa_consI (pe_varI (pe_var rfl (by first | exact Or.inl rfl | exact Or.inr (Or.inl rfl) | exact Or.inr (Or.inr rfl)) rfl rfl)) pa_nilI rfl) (by decide) rfl rfl rfl) rfl) (pss_consI (ps_asgI (pe_callI none F_row_told hr hgd rfl tk (pa_consI (pe_varI (pe_var rfl (by first | exact Or.inl rfl | exact Or.inr (Or.inl rfl) | exact Or.inr (Or.inr rfl)) rfl rfl)) (pa_consI (pe_varI (pe_var rfl (by first | exact Or.inl rfl | exact Or.inr (Or.inl rfl) | exact Or.inr (Or.inr rfl)) rfl rfl)) pa_nilI rfl) rfl) rfl rfl rfl) (pg_nmI (pg_name sc.nd rfl (by first | exact Or.inl rfl | exact Or.inr rfl) (by first | exact Or.inl rfl | exact Or.inr rfl))) rfl rfl rfl)
    (pss_consI (ps_ifI (PW.pt (pw_orI (pt_cmpI (op_isI) (pe_varI (pe_var rfl (by first | exact Or.inl rfl | exact Or.inr (Or.inl rfl) | exact Or.inr (Or.inr rfl)) rfl rfl)) (pe_cstI pe_non fun _ _ => VR.n) rfl) (pw_or1 (PW.pt (pw_andI (pt_cmpI (op_neNilI rfl (Nat.lt_of_le_of_lt (Nat.add_le_add_left (by decide) _) hu4)) (pe_varI (pe_var rfl (by first | exact Or.inl rfl | exact Or.inr (Or.inl rfl) | exact Or.inr (Or.inr rfl)) rfl rfl)) (pe_lstOf (pl_list pa_nilI)) rfl) (pw_and1 (pt_cmpI (op_ordI rfl hu4) (pe_subD rfl rfl hu (pe_varI (pe_var rfl (by first | exact Or.inl rfl | exact Or.inr (Or.inl rfl) | exact Or.inr (Or.inr rfl)) rfl rfl)) (pe_cstI pe_int fun _ _ => VR.i) fun _ _ => rfl) (pe_subD rfl rfl hu (pe_subD rfl rfl hu (pe_varI (pe_var rfl (by first | exact Or.inl rfl | exact Or.inr (Or.inl rfl) | exact Or.inr (Or.inr rfl)) rfl rfl)) (pe_negI (pe_cstI pe_int fun _ _ => VR.i)) fun _ _ => rfl) (pe_cstI pe_int fun _ _ => VR.i) fun _ _ => rfl) rfl))))))) (pss_consI (ps_retI (pe_cstI pe_non fun _ _ => VR.n))
    pss_nilI) pss_nilI)
    (pss_consI (ps_exprI (pe_mthI (.inl rfl) F.plainAttrs_list F.slot_list_append F.type_list_append (mt_appI) rfl (pe_varI (pe_var rfl (by first | exact Or.inl rfl | exact Or.inr (Or.inl rfl) | exact Or.inr (Or.inr rfl)) rfl rfl)) (pa_consI (pe_tupI (pa_consI (pe_subD rfl rfl hu (pe_varI (pe_var rfl (by first | exact Or.inl rfl | exact Or.inr (Or.inl rfl) | exact Or.inr (Or.inr rfl)) rfl rfl)) (pe_cstI pe_int fun _ _ => VR.i) fun _ _ => rfl) (pa_consI (pe_subD rfl rfl hu (pe_varI (pe_var rfl (by first | exact Or.inl rfl | exact Or.inr (Or.inl rfl) | exact Or.inr (Or.inr rfl)) rfl rfl)) (pe_cstI pe_int fun _ _ => VR.i) fun _ _ => rfl) pa_nilI rfl) rfl)) pa_nilI rfl) rfl rfl rfl rfl rfl) rfl)
    (pss_consI (ps_asgI (pe_subD rfl rfl hu (pe_varI (pe_var rfl (by first | exact Or.inl rfl | exact Or.inr (Or.inl rfl) | exact Or.inr (Or.inr rfl)) rfl rfl)) (pe_cstI pe_int fun _ _ => VR.i) fun _ _ => rfl) (pg_nmI (pg_name sc.nd rfl (by first | exact Or.inl rfl | exact Or.inr rfl) (by first | exact Or.inl rfl | exact Or.inr rfl))) rfl rfl rfl)
    pss_nilI)))))
    (pss_consI (ps_retI (pe_iteI (pt_cmpI (op_ordI rfl hu4) (pe_bltI (cr_lenI rfl) rfl T.fr_len boot_len (pa_consI (pe_varI (pe_var rfl (by first | exact Or.inl rfl | exact Or.inr (Or.inl rfl) | exact Or.inr (Or.inr rfl)) rfl rfl)) pa_nilI rfl) (by decide) rfl rfl rfl) (pe_cstI (pe_glob (v := .int 2000) rfl T.in_MOST_ROWS.choose_spec ⟨_, rfl⟩ rfl) fun _ _ => VR.i) rfl) (pe_tyI (cr_tupleI rfl) rfl T.fr_tuple boot_tuple (pa_consI (pe_varI (pe_var rfl (by first | exact Or.inl rfl | exact Or.inr (Or.inl rfl) | exact Or.inr (Or.inr rfl)) rfl rfl)) pa_nilI rfl) (by decide) rfl rfl rfl) (pe_cstI pe_non fun _ _ => VR.n)))
    pss_nilI)))
theorem ok_rows_in (T : Tab Pr K mg) (TB : ∀ p ∈ cs K, LamX.TabB base mg p.1 p.2) : FnI Pr w K mg base (PP K w) "rows_in" 3 1 c_rows_in := by
  obtain ⟨hm, fd, F⟩ := T.fn_rows_in
  have F_row_told := (ok_row_told (Pr := Pr) (w := w) (base := base) T TB).mono (by decide : 2 ≤ 2)
  exact FnI.all (ps := ["cells"]) (fn_okI (P := PP K w) (f := b_rows_in) (N := N_rows_in) (ps := ["cells"]) F sc_rows_in fun av cdv A outer s H E hr hgd hcd => body_rows_in T F_row_told av _ cdv A outer s H E hr hgd hcd) hm F.kp (F.bindsN fun _ _ _ _ _ _ us hl => match us, hl with | [_], _ => by kernel_rfl)
theorem sc__law_cells : FnScope N__law_cells ["_law_vat_here", "_law_least", "_law_most"] (defScope (top 32)) := ⟨rfl, rfl, rfl, by decide +kernel, rfl, by decide +kernel, by decide +kernel⟩
theorem body__law_cells (T : Tab Pr K mg) (F__law_drop : FnI Pr w K mg base (PP K w) "_law_drop" 2 2 c__law_drop) (F__law_taste : FnI Pr w K mg base (PP K w) "_law_taste" 2 2 c__law_taste) (av : List Addr) (fA : Addr) (cdv : Value) (A : Around) (outer : List Env) (s : Shared) (H : Hp) (E : XK) (hr : Room 2 (A.deeper (envOfC "_law_cells" (defScope (top 32)) s.heap.objs.size fA cdv))) (hgd : A.guards = some []) (hcd : cdv = .ref (codeA K fA)) :
    PSs (cxOf (L2.CX Pr w) Pr w K mg base N__law_cells "_law_cells" (defScope (top 32)) fA cdv A outer s H E) (defBody (top 32)) (tS ((PP K w).at av) (fun c d _ H => E c d H) b__law_cells) := by
  have hu := units65 hr
  have hu4 := hr.units
  have sc := sc__law_cells
  have pa := passes_of (X := cxOf (L2.CX Pr w) Pr w K mg base N__law_cells "_law_cells" (defScope (top 32)) fA cdv A outer s H E) rfl
  have tk := takes_of (X := cxOf (L2.CX Pr w) Pr w K mg base N__law_cells "_law_cells" (defScope (top 32)) fA cdv A outer s H E) rfl rfl rfl rfl
  unfold b__law_cells
  exact (pss_consI (ps_asgI (pe_binI (op_addI rfl) (pe_varI (pe_var rfl (by first | exact Or.inl rfl | exact Or.inr (Or.inl rfl) | exact Or.inr (Or.inr rfl)) rfl rfl)) (pe_callI none F__law_drop hr hgd rfl tk (pa_consI (pe_varI (pe_var rfl (by first | exact Or.inl rfl | exact Or.inr (Or.inl rfl) | exact Or.inr (Or.inr rfl)) rfl rfl)) (pa_consI (pe_binI (op_addI rfl) (pe_binI (op_subI) (pe_varI (pe_var rfl (by first | exact Or.inl rfl | exact Or.inr (Or.inl rfl) | exact Or.inr (Or.inr rfl)) rfl rfl)) (pe_varI (pe_var rfl (by first | exact Or.inl rfl | exact Or.inr (Or.inl rfl) | exact Or.inr (Or.inr rfl)) rfl rfl))) (pe_cstI pe_int fun _ _ => VR.i)) pa_nilI rfl) rfl) rfl rfl rfl)) (pg_nmI (pg_name sc.nd rfl (by first | exact Or.inl rfl | exact Or.inr rfl) (by first | exact Or.inl rfl | exact Or.inr rfl))) rfl rfl rfl)
    (pss_consI (ps_asgI (pe_callI none F__law_taste hr hgd rfl tk (pa_consI (pe_varI (pe_var rfl (by first | exact Or.inl rfl | exact Or.inr (Or.inl rfl) | exact Or.inr (Or.inr rfl)) rfl rfl)) (pa_consI (pe_lstOf (pl_list (pa_consI (pe_cstI pe_int fun _ _ => VR.i) (pa_consI (pe_cstI pe_int fun _ _ => VR.i) (pa_consI (pe_cstI pe_int fun _ _ => VR.i) (pa_consI (pe_binI (op_powI) (pe_cstI pe_int fun _ _ => VR.i) (pe_cstI pe_int fun _ _ => VR.i)) (pa_consI (pe_binI (op_powI) (pe_cstI pe_int fun _ _ => VR.i) (pe_cstI pe_int fun _ _ => VR.i)) pa_nilI rfl) rfl) rfl) rfl) rfl))) pa_nilI rfl) rfl) rfl rfl rfl) (pg_nmI (pg_name sc.nd rfl (by first | exact Or.inl rfl | exact Or.inr rfl) (by first | exact Or.inl rfl | exact Or.inr rfl))) rfl rfl rfl)
    (pss_consI (ps_retI (pe_tyI (cr_tupleI rfl) rfl T.fr_tuple boot_tuple (pa_consI (pe_lcI [("_law_turn", 5)] rfl sc.nd (pi_rngI rfl T.fr_range (pa_consI (pe_varI (pe_var rfl (by first | exact Or.inl rfl | exact Or.inr (Or.inl rfl) | exact Or.inr (Or.inr rfl)) rfl rfl)) pa_nilI rfl) rfl) (blkOk_by (by kernel_rfl)) (fun _ => rfl) (fun _ _ _ _ _ _ => (pg_nmW (by decide) (pg_name sc.nd rfl (by first | exact Or.inl rfl | exact Or.inr rfl) (by first | exact Or.inl rfl | exact Or.inr rfl)))) (fun _ _ _ _ _ _ => pts_nilI) (fun _ _ _ _ _ _ => (pe_callI none F__law_drop hr hgd rfl takesF (pa_consI (pe_varI (pe_var rfl (by first | exact Or.inl rfl | exact Or.inr (Or.inl rfl) | exact Or.inr (Or.inr rfl)) rfl rfl)) (pa_consI (pe_varI (pe_var rfl (by first | exact Or.inl rfl | exact Or.inr (Or.inl rfl) | exact Or.inr (Or.inr rfl)) rfl rfl)) pa_nilI rfl) rfl) rfl rfl rfl))) pa_nilI rfl) (by decide) rfl rfl rfl))
    pss_nilI)))
theorem ok__law_cells (T : Tab Pr K mg) (TB : ∀ p ∈ cs K, LamX.TabB base mg p.1 p.2) : FnI Pr w K mg base (PP K w) "_law_cells" 3 3 c__law_cells := by
  obtain ⟨hm, fd, F⟩ := T.fn__law_cells
  have F__law_drop := (ok__law_drop (Pr := Pr) (w := w) (base := base) T TB).mono (by decide : 1 ≤ 2)
  have F__law_taste := (ok__law_taste (Pr := Pr) (w := w) (base := base) T TB).mono (by decide : 2 ≤ 2)
  exact FnI.all (ps := ["_law_vat_here", "_law_least", "_law_most"]) (fn_okI (P := PP K w) (f := b__law_cells) (N := N__law_cells) (ps := ["_law_vat_here", "_law_least", "_law_most"]) F sc__law_cells fun av cdv A outer s H E hr hgd hcd => body__law_cells T F__law_drop F__law_taste av _ cdv A outer s H E hr hgd hcd) hm F.kp (F.bindsN fun _ _ _ _ _ _ us hl => match us, hl with | [_, _, _], _ => by kernel_rfl)
theorem sc_are_cells : FnScope N_are_cells ["value", "least", "most"] (defScope (top 15)) := ⟨rfl, rfl, rfl, by decide +kernel, rfl, by decide +kernel, by decide +kernel⟩
theorem body_are_cells (T : Tab Pr K mg) (F_is_cell : FnI Pr w K mg base (PP K w) "is_cell" 3 1 c_is_cell) (av : List Addr) (fA : Addr) (cdv : Value) (A : Around) (outer : List Env) (s : Shared) (H : Hp) (E : XK) (hr : Room 3 (A.deeper (envOfC "are_cells" (defScope (top 15)) s.heap.objs.size fA cdv))) (hgd : A.guards = some []) (hcd : cdv = .ref (codeA K fA)) :
    PSs (cxOf (L2.CX Pr w) Pr w K mg base N_are_cells "are_cells" (defScope (top 15)) fA cdv A outer s H E) (defBody (top 15)) (tS ((PP K w).at av) (fun c d _ H => E c d H) b_are_cells) := by
  have hu := units65 hr
  have hu4 := hr.units
  have sc := sc_are_cells
  have pa := passes_of (X := cxOf (L2.CX Pr w) Pr w K mg base N_are_cells "are_cells" (defScope (top 15)) fA cdv A outer s H E) rfl
  have tk := takes_of (X := cxOf (L2.CX Pr w) Pr w K mg base N_are_cells "are_cells" (defScope (top 15)) fA cdv A outer s H E) rfl rfl rfl rfl
  unfold b_are_cells
  exact (pss_consI (ps_retI (pe_andI rfl (pe_bltI (cr_isaI rfl) rfl T.fr_isinstance boot_isinstance (pa_consI (pe_varI (pe_var rfl (by first | exact Or.inl rfl | exact Or.inr (Or.inl rfl) | exact Or.inr (Or.inr rfl)) rfl rfl)) (pa_consI (pe_cstI (pe_bltn (v := .ty "tuple") (u := .type "tuple") rfl T.fr_tuple boot_tuple rfl (by decide) rfl) fun _ _ => VR.t) pa_nilI rfl) rfl) (by decide) rfl rfl rfl) (pe_andI rfl (pe_chnI (op_ordI rfl hu4) (op_ordI rfl hu4) (pe_varI (pe_var rfl (by first | exact Or.inl rfl | exact Or.inr (Or.inl rfl) | exact Or.inr (Or.inr rfl)) rfl rfl)) (pe_bltI (cr_lenI rfl) rfl T.fr_len boot_len (pa_consI (pe_varI (pe_var rfl (by first | exact Or.inl rfl | exact Or.inr (Or.inl rfl) | exact Or.inr (Or.inr rfl)) rfl rfl)) pa_nilI rfl) (by decide) rfl rfl rfl) (pe_varI (pe_var rfl (by first | exact Or.inl rfl | exact Or.inr (Or.inl rfl) | exact Or.inr (Or.inr rfl)) rfl rfl)) rfl) (pe_one (pe_bltI (cr_allI rfl rfl) rfl T.fr_all boot_all (pa_consI (pe_lcI [("cell", 3)] rfl sc.nd (pi_anyI rfl (pe_varI (pe_var rfl (by first | exact Or.inl rfl | exact Or.inr (Or.inl rfl) | exact Or.inr (Or.inr rfl)) rfl rfl))) (blkOk_by (by kernel_rfl)) (fun _ => rfl) (fun _ _ _ _ _ _ => (pg_nmW (by decide) (pg_name sc.nd rfl (by first | exact Or.inl rfl | exact Or.inr rfl) (by first | exact Or.inl rfl | exact Or.inr rfl)))) (fun _ _ _ _ _ _ => pts_nilI) (fun _ _ _ _ _ _ => (pe_callI none F_is_cell hr hgd rfl takesF (pa_consI (pe_varI (pe_var rfl (by first | exact Or.inl rfl | exact Or.inr (Or.inl rfl) | exact Or.inr (Or.inr rfl)) rfl rfl)) pa_nilI rfl) rfl rfl rfl))) pa_nilI rfl) (by decide) rfl rfl rfl)))))
    pss_nilI)
theorem ok_are_cells (T : Tab Pr K mg) (TB : ∀ p ∈ cs K, LamX.TabB base mg p.1 p.2) : FnI Pr w K mg base (PP K w) "are_cells" 4 3 c_are_cells := by
  obtain ⟨hm, fd, F⟩ := T.fn_are_cells
  have F_is_cell := (ok_is_cell (Pr := Pr) (w := w) (base := base) T TB).mono (by decide : 3 ≤ 3)
  exact FnI.all (ps := ["value", "least", "most"]) (fn_okI (P := PP K w) (f := b_are_cells) (N := N_are_cells) (ps := ["value", "least", "most"]) F sc_are_cells fun av cdv A outer s H E hr hgd hcd => body_are_cells T F_is_cell av _ cdv A outer s H E hr hgd hcd) hm F.kp (F.bindsN fun _ _ _ _ _ _ us hl => match us, hl with | [_, _, _], _ => by kernel_rfl)
theorem sc__law_rows : FnScope N__law_rows ["_law_vat_here", "_law_most"] (defScope (top 33)) := ⟨rfl, rfl, rfl, by decide +kernel, rfl, by decide +kernel, by decide +kernel⟩
theorem body__law_rows (T : Tab Pr K mg) (F__law_cells : FnI Pr w K mg base (PP K w) "_law_cells" 3 3 c__law_cells) (F__law_drop : FnI Pr w K mg base (PP K w) "_law_drop" 3 2 c__law_drop) (av : List Addr) (fA : Addr) (cdv : Value) (A : Around) (outer : List Env) (s : Shared) (H : Hp) (E : XK) (hr : Room 3 (A.deeper (envOfC "_law_rows" (defScope (top 33)) s.heap.objs.size fA cdv))) (hgd : A.guards = some []) (hcd : cdv = .ref (codeA K fA)) :
    PSs (cxOf (L2.CX Pr w) Pr w K mg base N__law_rows "_law_rows" (defScope (top 33)) fA cdv A outer s H E) (defBody (top 33)) (tS ((PP K w).at av) (fun c d _ H => E c d H) b__law_rows) := by
  have hu := units65 hr
  have hu4 := hr.units
  have sc := sc__law_rows
  have pa := passes_of (X := cxOf (L2.CX Pr w) Pr w K mg base N__law_rows "_law_rows" (defScope (top 33)) fA cdv A outer s H E) rfl
  have tk := takes_of (X := cxOf (L2.CX Pr w) Pr w K mg base N__law_rows "_law_rows" (defScope (top 33)) fA cdv A outer s H E) rfl rfl rfl rfl
  unfold b__law_rows
  exact (pss_consI (ps_asgI pe_d0R (pg_nmI (pg_name sc.nd rfl (by first | exact Or.inl rfl | exact Or.inr rfl) (by first | exact Or.inl rfl | exact Or.inr rfl))) rfl rfl rfl)
    (pss_consI (ps_forI pa rfl (pi_rngI rfl T.fr_range (pa_consI (pe_callI none F__law_drop hr hgd rfl tk (pa_consI (pe_varI (pe_var rfl (by first | exact Or.inl rfl | exact Or.inr (Or.inl rfl) | exact Or.inr (Or.inr rfl)) rfl rfl)) (pa_consI (pe_binI (op_addI rfl) (pe_varI (pe_var rfl (by first | exact Or.inl rfl | exact Or.inr (Or.inl rfl) | exact Or.inr (Or.inr rfl)) rfl rfl)) (pe_cstI pe_int fun _ _ => VR.i)) pa_nilI rfl) rfl) rfl rfl rfl) pa_nilI rfl) rfl) (pg_nmI (pg_name sc.nd rfl (by first | exact Or.inl rfl | exact Or.inr rfl) (by first | exact Or.inl rfl | exact Or.inr rfl))) (pss_consI (ps_asgI (pe_callI none F__law_cells hr hgd rfl tk (pa_consI (pe_varI (pe_var rfl (by first | exact Or.inl rfl | exact Or.inr (Or.inl rfl) | exact Or.inr (Or.inr rfl)) rfl rfl)) (pa_consI (pe_cstI pe_int fun _ _ => VR.i) (pa_consI (pe_cstI pe_int fun _ _ => VR.i) pa_nilI rfl) rfl) rfl) rfl rfl rfl) (pg_sbI (W := WF) (pe_varI (pe_var rfl (by first | exact Or.inl rfl | exact Or.inr (Or.inl rfl) | exact Or.inr (Or.inr rfl)) rfl rfl)) (pe_callI none F__law_cells hr hgd rfl takesF (pa_consI (pe_varI (pe_var rfl (by first | exact Or.inl rfl | exact Or.inr (Or.inl rfl) | exact Or.inr (Or.inr rfl)) rfl rfl)) (pa_consI (pe_cstI pe_int fun _ _ => VR.i) (pa_consI (pe_cstI pe_int fun _ _ => VR.i) pa_nilI rfl) rfl) rfl) rfl rfl rfl) (st_putM rfl rfl hu) fun _ => rfl) rfl rfl rfl)
    pss_nilI) fun _ => rfl)
    (pss_consI (ps_retI (pe_tyI (cr_tupKI rfl) rfl T.fr_tuple boot_tuple (pa_consI (pe_lcI [("_law_key", 4)] rfl sc.nd (pi_anyI rfl (pe_bltI (cr_sortedI rfl rfl hu) rfl T.fr_sorted boot_sorted (pa_consI (pe_varI (pe_var rfl (by first | exact Or.inl rfl | exact Or.inr (Or.inl rfl) | exact Or.inr (Or.inr rfl)) rfl rfl)) pa_nilI rfl) (by decide) rfl rfl rfl)) (blkOk_by (by kernel_rfl)) (fun _ => rfl) (fun _ _ _ _ _ _ => (pg_nmW (by decide) (pg_name sc.nd rfl (by first | exact Or.inl rfl | exact Or.inr rfl) (by first | exact Or.inl rfl | exact Or.inr rfl)))) (fun _ _ _ _ _ _ => pts_nilI) (fun _ _ _ _ _ _ => (pe_tupI (pa_consI (pe_varI (pe_var rfl (by first | exact Or.inl rfl | exact Or.inr (Or.inl rfl) | exact Or.inr (Or.inr rfl)) rfl rfl)) (pa_consI (pe_subD rfl rfl hu (pe_varI (pe_var rfl (by first | exact Or.inl rfl | exact Or.inr (Or.inl rfl) | exact Or.inr (Or.inr rfl)) rfl rfl)) (pe_varI (pe_var rfl (by first | exact Or.inl rfl | exact Or.inr (Or.inl rfl) | exact Or.inr (Or.inr rfl)) rfl rfl)) fun _ _ => rfl) pa_nilI rfl) rfl)))) pa_nilI rfl) (by decide) rfl rfl rfl))
    pss_nilI)))
theorem ok__law_rows (T : Tab Pr K mg) (TB : ∀ p ∈ cs K, LamX.TabB base mg p.1 p.2) : FnI Pr w K mg base (PP K w) "_law_rows" 4 2 c__law_rows := by
  obtain ⟨hm, fd, F⟩ := T.fn__law_rows
  have F__law_cells := (ok__law_cells (Pr := Pr) (w := w) (base := base) T TB).mono (by decide : 3 ≤ 3)
  have F__law_drop := (ok__law_drop (Pr := Pr) (w := w) (base := base) T TB).mono (by decide : 1 ≤ 3)
  exact FnI.all (ps := ["_law_vat_here", "_law_most"]) (fn_okI (P := PP K w) (f := b__law_rows) (N := N__law_rows) (ps := ["_law_vat_here", "_law_most"]) F sc__law_rows fun av cdv A outer s H E hr hgd hcd => body__law_rows T F__law_cells F__law_drop av _ cdv A outer s H E hr hgd hcd) hm F.kp (F.bindsN fun _ _ _ _ _ _ us hl => match us, hl with | [_, _], _ => by kernel_rfl)
theorem sc__law_near_cells : FnScope N__law_near_cells ["_law_vat_here", "_law_cells_here"] (defScope (top 39)) := ⟨rfl, rfl, rfl, by decide +kernel, rfl, by decide +kernel, by decide +kernel⟩
theorem body__law_near_cells (T : Tab Pr K mg) (F__law_cells : FnI Pr w K mg base (PP K w) "_law_cells" 3 3 c__law_cells) (F__law_drop : FnI Pr w K mg base (PP K w) "_law_drop" 3 2 c__law_drop) (F__law_taste : FnI Pr w K mg base (PP K w) "_law_taste" 3 2 c__law_taste) (av : List Addr) (fA : Addr) (cdv : Value) (A : Around) (outer : List Env) (s : Shared) (H : Hp) (E : XK) (hr : Room 3 (A.deeper (envOfC "_law_near_cells" (defScope (top 39)) s.heap.objs.size fA cdv))) (hgd : A.guards = some []) (hcd : cdv = .ref (codeA K fA)) :
    PSs (cxOf (L2.CX Pr w) Pr w K mg base N__law_near_cells "_law_near_cells" (defScope (top 39)) fA cdv A outer s H E) (defBody (top 39)) (tS ((PP K w).at av) (fun c d _ H => E c d H) b__law_near_cells) := by
  have hu := units65 hr
  have hu4 := hr.units
  have sc := sc__law_near_cells
  have pa := passes_of (X := cxOf (L2.CX Pr w) Pr w K mg base N__law_near_cells "_law_near_cells" (defScope (top 39)) fA cdv A outer s H E) rfl
  have tk := takes_of (X := cxOf (L2.CX Pr w) Pr w K mg base N__law_near_cells "_law_near_cells" (defScope (top 39)) fA cdv A outer s H E) rfl rfl rfl rfl
  unfold b__law_near_cells
  exact (pss_consI (ps_asgI (pe_callI none F__law_drop hr hgd rfl tk (pa_consI (pe_varI (pe_var rfl (by first | exact Or.inl rfl | exact Or.inr (Or.inl rfl) | exact Or.inr (Or.inr rfl)) rfl rfl)) (pa_consI (pe_binI (op_addI rfl) (pe_bltI (cr_lenI rfl) rfl T.fr_len boot_len (pa_consI (pe_varI (pe_var rfl (by first | exact Or.inl rfl | exact Or.inr (Or.inl rfl) | exact Or.inr (Or.inr rfl)) rfl rfl)) pa_nilI rfl) (by decide) rfl rfl rfl) (pe_cstI pe_int fun _ _ => VR.i)) pa_nilI rfl) rfl) rfl rfl rfl) (pg_nmI (pg_name sc.nd rfl (by first | exact Or.inl rfl | exact Or.inr rfl) (by first | exact Or.inl rfl | exact Or.inr rfl))) rfl rfl rfl)
    (pss_consI (ps_asgI (pe_callI none F__law_taste hr hgd rfl tk (pa_consI (pe_varI (pe_var rfl (by first | exact Or.inl rfl | exact Or.inr (Or.inl rfl) | exact Or.inr (Or.inr rfl)) rfl rfl)) (pa_consI (pe_lstOf (pl_list (pa_consI (pe_cstI pe_int fun _ _ => VR.i) (pa_consI (pe_cstI pe_int fun _ _ => VR.i) (pa_consI (pe_cstI pe_int fun _ _ => VR.i) (pa_consI (pe_cstI pe_int fun _ _ => VR.i) (pa_consI (pe_cstI pe_int fun _ _ => VR.i) (pa_consI (pe_cstI pe_int fun _ _ => VR.i) (pa_consI (pe_cstI pe_int fun _ _ => VR.i) (pa_consI (pe_binI (op_subI) (pe_binI (op_powI) (pe_cstI pe_int fun _ _ => VR.i) (pe_cstI pe_int fun _ _ => VR.i)) (pe_cstI pe_int fun _ _ => VR.i)) pa_nilI rfl) rfl) rfl) rfl) rfl) rfl) rfl) rfl))) pa_nilI rfl) rfl) rfl rfl rfl) (pg_nmI (pg_name sc.nd rfl (by first | exact Or.inl rfl | exact Or.inr rfl) (by first | exact Or.inl rfl | exact Or.inr rfl))) rfl rfl rfl)
    (pss_consI (ps_asgI (pe_lstOf (pl_list (pa_consI (pe_binI (op_addI rfl) (pe_binI (op_addI rfl) (pe_sliI rfl (pe_varI (pe_var rfl (by first | exact Or.inl rfl | exact Or.inr (Or.inl rfl) | exact Or.inr (Or.inr rfl)) rfl rfl)) po_noneI (po_someI (pe_varI (pe_var rfl (by first | exact Or.inl rfl | exact Or.inr (Or.inl rfl) | exact Or.inr (Or.inr rfl)) rfl rfl)))) (pe_tupI (pa_consI (pe_varI (pe_var rfl (by first | exact Or.inl rfl | exact Or.inr (Or.inl rfl) | exact Or.inr (Or.inr rfl)) rfl rfl)) pa_nilI rfl))) (pe_sliI rfl (pe_varI (pe_var rfl (by first | exact Or.inl rfl | exact Or.inr (Or.inl rfl) | exact Or.inr (Or.inr rfl)) rfl rfl)) (po_someI (pe_binI (op_addI rfl) (pe_varI (pe_var rfl (by first | exact Or.inl rfl | exact Or.inr (Or.inl rfl) | exact Or.inr (Or.inr rfl)) rfl rfl)) (pe_cstI pe_int fun _ _ => VR.i))) po_noneI)) (pa_consI (pe_sliI rfl (pe_varI (pe_var rfl (by first | exact Or.inl rfl | exact Or.inr (Or.inl rfl) | exact Or.inr (Or.inr rfl)) rfl rfl)) po_noneI (po_someI (pe_varI (pe_var rfl (by first | exact Or.inl rfl | exact Or.inr (Or.inl rfl) | exact Or.inr (Or.inr rfl)) rfl rfl)))) (pa_consI (pe_sliI rfl (pe_varI (pe_var rfl (by first | exact Or.inl rfl | exact Or.inr (Or.inl rfl) | exact Or.inr (Or.inr rfl)) rfl rfl)) (po_someI (pe_varI (pe_var rfl (by first | exact Or.inl rfl | exact Or.inr (Or.inl rfl) | exact Or.inr (Or.inr rfl)) rfl rfl))) po_noneI) (pa_consI (pe_binI (op_addI rfl) (pe_sliI rfl (pe_varI (pe_var rfl (by first | exact Or.inl rfl | exact Or.inr (Or.inl rfl) | exact Or.inr (Or.inr rfl)) rfl rfl)) po_noneI (po_someI (pe_varI (pe_var rfl (by first | exact Or.inl rfl | exact Or.inr (Or.inl rfl) | exact Or.inr (Or.inr rfl)) rfl rfl)))) (pe_sliI rfl (pe_varI (pe_var rfl (by first | exact Or.inl rfl | exact Or.inr (Or.inl rfl) | exact Or.inr (Or.inr rfl)) rfl rfl)) (po_someI (pe_binI (op_addI rfl) (pe_varI (pe_var rfl (by first | exact Or.inl rfl | exact Or.inr (Or.inl rfl) | exact Or.inr (Or.inr rfl)) rfl rfl)) (pe_cstI pe_int fun _ _ => VR.i))) po_noneI)) (pa_consI (pe_binI (op_addI rfl) (pe_varI (pe_var rfl (by first | exact Or.inl rfl | exact Or.inr (Or.inl rfl) | exact Or.inr (Or.inr rfl)) rfl rfl)) (pe_varI (pe_var rfl (by first | exact Or.inl rfl | exact Or.inr (Or.inl rfl) | exact Or.inr (Or.inr rfl)) rfl rfl))) pa_nilI rfl) rfl) rfl) rfl) rfl))) (pg_nmI (pg_name sc.nd rfl (by first | exact Or.inl rfl | exact Or.inr rfl) (by first | exact Or.inl rfl | exact Or.inr rfl))) rfl rfl rfl)
    (pss_consI (ps_retI (pe_binI (op_addI rfl) (pe_varI (pe_var rfl (by first | exact Or.inl rfl | exact Or.inr (Or.inl rfl) | exact Or.inr (Or.inr rfl)) rfl rfl)) (pe_lstOf (pl_list (pa_consI (pe_binI (op_addI rfl) (pe_binI (op_addI rfl) (pe_sliI rfl (pe_varI (pe_var rfl (by first | exact Or.inl rfl | exact Or.inr (Or.inl rfl) | exact Or.inr (Or.inr rfl)) rfl rfl)) po_noneI (po_someI (pe_varI (pe_var rfl (by first | exact Or.inl rfl | exact Or.inr (Or.inl rfl) | exact Or.inr (Or.inr rfl)) rfl rfl)))) (pe_tupI (pa_consI (pe_varI (pe_var rfl (by first | exact Or.inl rfl | exact Or.inr (Or.inl rfl) | exact Or.inr (Or.inr rfl)) rfl rfl)) pa_nilI rfl))) (pe_sliI rfl (pe_varI (pe_var rfl (by first | exact Or.inl rfl | exact Or.inr (Or.inl rfl) | exact Or.inr (Or.inr rfl)) rfl rfl)) (po_someI (pe_varI (pe_var rfl (by first | exact Or.inl rfl | exact Or.inr (Or.inl rfl) | exact Or.inr (Or.inr rfl)) rfl rfl))) po_noneI)) (pa_consI (pe_binI (op_addI rfl) (pe_varI (pe_var rfl (by first | exact Or.inl rfl | exact Or.inr (Or.inl rfl) | exact Or.inr (Or.inr rfl)) rfl rfl)) (pe_tupI (pa_consI (pe_varI (pe_var rfl (by first | exact Or.inl rfl | exact Or.inr (Or.inl rfl) | exact Or.inr (Or.inr rfl)) rfl rfl)) pa_nilI rfl))) (pa_consI (pe_revI rfl (pe_varI (pe_var rfl (by first | exact Or.inl rfl | exact Or.inr (Or.inl rfl) | exact Or.inr (Or.inr rfl)) rfl rfl))) (pa_consI (pe_callI none F__law_cells hr hgd rfl tk (pa_consI (pe_varI (pe_var rfl (by first | exact Or.inl rfl | exact Or.inr (Or.inl rfl) | exact Or.inr (Or.inr rfl)) rfl rfl)) (pa_consI (pe_cstI pe_int fun _ _ => VR.i) (pa_consI (pe_cstI pe_int fun _ _ => VR.i) pa_nilI rfl) rfl) rfl) rfl rfl rfl) pa_nilI rfl) rfl) rfl) rfl)))))
    pss_nilI))))
theorem ok__law_near_cells (T : Tab Pr K mg) (TB : ∀ p ∈ cs K, LamX.TabB base mg p.1 p.2) : FnI Pr w K mg base (PP K w) "_law_near_cells" 4 2 c__law_near_cells := by
  obtain ⟨hm, fd, F⟩ := T.fn__law_near_cells
  have F__law_cells := (ok__law_cells (Pr := Pr) (w := w) (base := base) T TB).mono (by decide : 3 ≤ 3)
  have F__law_drop := (ok__law_drop (Pr := Pr) (w := w) (base := base) T TB).mono (by decide : 1 ≤ 3)
  have F__law_taste := (ok__law_taste (Pr := Pr) (w := w) (base := base) T TB).mono (by decide : 2 ≤ 3)
  exact FnI.all (ps := ["_law_vat_here", "_law_cells_here"]) (fn_okI (P := PP K w) (f := b__law_near_cells) (N := N__law_near_cells) (ps := ["_law_vat_here", "_law_cells_here"]) F sc__law_near_cells fun av cdv A outer s H E hr hgd hcd => body__law_near_cells T F__law_cells F__law_drop F__law_taste av _ cdv A outer s H E hr hgd hcd) hm F.kp (F.bindsN fun _ _ _ _ _ _ us hl => match us, hl with | [_, _], _ => by kernel_rfl)
theorem sc_is_key : FnScope N_is_key ["value"] (defScope (top 22)) := ⟨rfl, rfl, rfl, by decide +kernel, rfl, by decide +kernel, by decide +kernel⟩
theorem body_is_key (T : Tab Pr K mg) (F_are_cells : FnI Pr w K mg base (PP K w) "are_cells" 4 3 c_are_cells) (av : List Addr) (fA : Addr) (cdv : Value) (A : Around) (outer : List Env) (s : Shared) (H : Hp) (E : XK) (hr : Room 4 (A.deeper (envOfC "is_key" (defScope (top 22)) s.heap.objs.size fA cdv))) (hgd : A.guards = some []) (hcd : cdv = .ref (codeA K fA)) :
    PSs (cxOf (L2.CX Pr w) Pr w K mg base N_is_key "is_key" (defScope (top 22)) fA cdv A outer s H E) (defBody (top 22)) (tS ((PP K w).at av) (fun c d _ H => E c d H) b_is_key) := by
  have hu := units65 hr
  have hu4 := hr.units
  have sc := sc_is_key
  have pa := passes_of (X := cxOf (L2.CX Pr w) Pr w K mg base N_is_key "is_key" (defScope (top 22)) fA cdv A outer s H E) rfl
  have tk := takes_of (X := cxOf (L2.CX Pr w) Pr w K mg base N_is_key "is_key" (defScope (top 22)) fA cdv A outer s H E) rfl rfl rfl rfl
  unfold b_is_key
  exact (pss_consI (ps_retI (pe_callI none F_are_cells hr hgd rfl tk (pa_consI (pe_varI (pe_var rfl (by first | exact Or.inl rfl | exact Or.inr (Or.inl rfl) | exact Or.inr (Or.inr rfl)) rfl rfl)) (pa_consI (pe_cstI pe_int fun _ _ => VR.i) (pa_consI (pe_cstI (pe_glob (v := .int 3) rfl T.in_MOST_KEY.choose_spec ⟨_, rfl⟩ rfl) fun _ _ => VR.i) pa_nilI rfl) rfl) rfl) rfl rfl rfl))
    pss_nilI)
theorem ok_is_key (T : Tab Pr K mg) (TB : ∀ p ∈ cs K, LamX.TabB base mg p.1 p.2) : FnI Pr w K mg base (PP K w) "is_key" 5 1 c_is_key := by
  obtain ⟨hm, fd, F⟩ := T.fn_is_key
  have F_are_cells := (ok_are_cells (Pr := Pr) (w := w) (base := base) T TB).mono (by decide : 4 ≤ 4)
  exact FnI.all (ps := ["value"]) (fn_okI (P := PP K w) (f := b_is_key) (N := N_is_key) (ps := ["value"]) F sc_is_key fun av cdv A outer s H E hr hgd hcd => body_is_key T F_are_cells av _ cdv A outer s H E hr hgd hcd) hm F.kp (F.bindsN fun _ _ _ _ _ _ us hl => match us, hl with | [_], _ => by kernel_rfl)
theorem sc_is_row_value : FnScope N_is_row_value ["value"] (defScope (top 23)) := ⟨rfl, rfl, rfl, by decide +kernel, rfl, by decide +kernel, by decide +kernel⟩
theorem body_is_row_value (T : Tab Pr K mg) (F_are_cells : FnI Pr w K mg base (PP K w) "are_cells" 4 3 c_are_cells) (av : List Addr) (fA : Addr) (cdv : Value) (A : Around) (outer : List Env) (s : Shared) (H : Hp) (E : XK) (hr : Room 4 (A.deeper (envOfC "is_row_value" (defScope (top 23)) s.heap.objs.size fA cdv))) (hgd : A.guards = some []) (hcd : cdv = .ref (codeA K fA)) :
    PSs (cxOf (L2.CX Pr w) Pr w K mg base N_is_row_value "is_row_value" (defScope (top 23)) fA cdv A outer s H E) (defBody (top 23)) (tS ((PP K w).at av) (fun c d _ H => E c d H) b_is_row_value) := by
  have hu := units65 hr
  have hu4 := hr.units
  have sc := sc_is_row_value
  have pa := passes_of (X := cxOf (L2.CX Pr w) Pr w K mg base N_is_row_value "is_row_value" (defScope (top 23)) fA cdv A outer s H E) rfl
  have tk := takes_of (X := cxOf (L2.CX Pr w) Pr w K mg base N_is_row_value "is_row_value" (defScope (top 23)) fA cdv A outer s H E) rfl rfl rfl rfl
  unfold b_is_row_value
  exact (pss_consI (ps_retI (pe_callI none F_are_cells hr hgd rfl tk (pa_consI (pe_varI (pe_var rfl (by first | exact Or.inl rfl | exact Or.inr (Or.inl rfl) | exact Or.inr (Or.inr rfl)) rfl rfl)) (pa_consI (pe_cstI pe_int fun _ _ => VR.i) (pa_consI (pe_cstI (pe_glob (v := .int 8) rfl T.in_MOST_VALUE.choose_spec ⟨_, rfl⟩ rfl) fun _ _ => VR.i) pa_nilI rfl) rfl) rfl) rfl rfl rfl))
    pss_nilI)
theorem ok_is_row_value (T : Tab Pr K mg) (TB : ∀ p ∈ cs K, LamX.TabB base mg p.1 p.2) : FnI Pr w K mg base (PP K w) "is_row_value" 5 1 c_is_row_value := by
  obtain ⟨hm, fd, F⟩ := T.fn_is_row_value
  have F_are_cells := (ok_are_cells (Pr := Pr) (w := w) (base := base) T TB).mono (by decide : 4 ≤ 4)
  exact FnI.all (ps := ["value"]) (fn_okI (P := PP K w) (f := b_is_row_value) (N := N_is_row_value) (ps := ["value"]) F sc_is_row_value fun av cdv A outer s H E hr hgd hcd => body_is_row_value T F_are_cells av _ cdv A outer s H E hr hgd hcd) hm F.kp (F.bindsN fun _ _ _ _ _ _ us hl => match us, hl with | [_], _ => by kernel_rfl)
theorem sc_rows_told : FnScope N_rows_told ["cells"] (defScope (top 27)) := ⟨rfl, rfl, rfl, by decide +kernel, rfl, by decide +kernel, by decide +kernel⟩
theorem body_rows_told (T : Tab Pr K mg) (F_are_cells : FnI Pr w K mg base (PP K w) "are_cells" 4 3 c_are_cells) (F_rows_in : FnI Pr w K mg base (PP K w) "rows_in" 4 1 c_rows_in) (av : List Addr) (fA : Addr) (cdv : Value) (A : Around) (outer : List Env) (s : Shared) (H : Hp) (E : XK) (hr : Room 4 (A.deeper (envOfC "rows_told" (defScope (top 27)) s.heap.objs.size fA cdv))) (hgd : A.guards = some []) (hcd : cdv = .ref (codeA K fA)) :
    PSs (cxOf (L2.CX Pr w) Pr w K mg base N_rows_told "rows_told" (defScope (top 27)) fA cdv A outer s H E) (defBody (top 27)) (tS ((PP K w).at av) (fun c d _ H => E c d H) b_rows_told) := by
  have hu := units65 hr
  have hu4 := hr.units
  have sc := sc_rows_told
  have pa := passes_of (X := cxOf (L2.CX Pr w) Pr w K mg base N_rows_told "rows_told" (defScope (top 27)) fA cdv A outer s H E) rfl
  have tk := takes_of (X := cxOf (L2.CX Pr w) Pr w K mg base N_rows_told "rows_told" (defScope (top 27)) fA cdv A outer s H E) rfl rfl rfl rfl
  unfold b_rows_told
  exact (pss_consI (ps_ifI (pt_notI (pt_truI rfl (pe_callI none F_are_cells hr hgd rfl tk (pa_consI (pe_varI (pe_var rfl (by first | exact Or.inl rfl | exact Or.inr (Or.inl rfl) | exact Or.inr (Or.inr rfl)) rfl rfl)) (pa_consI (pe_cstI pe_int fun _ _ => VR.i) (pa_consI (pe_cstI (pe_glob (v := .int 30000) rfl T.in_MOST_CELLS.choose_spec ⟨_, rfl⟩ rfl) fun _ _ => VR.i) pa_nilI rfl) rfl) rfl) rfl rfl rfl) fun _ => rfl)) (pss_consI (ps_raiI rfl tk T.er_InvalidBlock rfl rfl rfl)
    pss_nilI) pss_nilI)
    (pss_consI (ps_retI (pe_callI (some true) F_rows_in hr hgd rfl tk (pa_consI (pe_varI (pe_var rfl (by first | exact Or.inl rfl | exact Or.inr (Or.inl rfl) | exact Or.inr (Or.inr rfl)) rfl rfl)) pa_nilI rfl) rfl rfl rfl))
    pss_nilI))
theorem ok_rows_told (T : Tab Pr K mg) (TB : ∀ p ∈ cs K, LamX.TabB base mg p.1 p.2) : FnI Pr w K mg base (PP K w) "rows_told" 5 1 c_rows_told := by
  obtain ⟨hm, fd, F⟩ := T.fn_rows_told
  have F_are_cells := (ok_are_cells (Pr := Pr) (w := w) (base := base) T TB).mono (by decide : 4 ≤ 4)
  have F_rows_in := (ok_rows_in (Pr := Pr) (w := w) (base := base) T TB).mono (by decide : 3 ≤ 4)
  exact FnI.all (ps := ["cells"]) (fn_okI (P := PP K w) (f := b_rows_told) (N := N_rows_told) (ps := ["cells"]) F sc_rows_told fun av cdv A outer s H E hr hgd hcd => body_rows_told T F_are_cells F_rows_in av _ cdv A outer s H E hr hgd hcd) hm F.kp (F.bindsN fun _ _ _ _ _ _ us hl => match us, hl with | [_], _ => by kernel_rfl)
theorem sc_is_row : FnScope N_is_row ["value"] (defScope (top 16)) := ⟨rfl, rfl, rfl, by decide +kernel, rfl, by decide +kernel, by decide +kernel⟩
theorem body_is_row (T : Tab Pr K mg) (F_is_key : FnI Pr w K mg base (PP K w) "is_key" 5 1 c_is_key) (F_is_row_value : FnI Pr w K mg base (PP K w) "is_row_value" 5 1 c_is_row_value) (av : List Addr) (fA : Addr) (cdv : Value) (A : Around) (outer : List Env) (s : Shared) (H : Hp) (E : XK) (hr : Room 5 (A.deeper (envOfC "is_row" (defScope (top 16)) s.heap.objs.size fA cdv))) (hgd : A.guards = some []) (hcd : cdv = .ref (codeA K fA)) :
    PSs (cxOf (L2.CX Pr w) Pr w K mg base N_is_row "is_row" (defScope (top 16)) fA cdv A outer s H E) (defBody (top 16)) (tS ((PP K w).at av) (fun c d _ H => E c d H) b_is_row) := by
  have hu := units65 hr
  have hu4 := hr.units
  have sc := sc_is_row
  have pa := passes_of (X := cxOf (L2.CX Pr w) Pr w K mg base N_is_row "is_row" (defScope (top 16)) fA cdv A outer s H E) rfl
  have tk := takes_of (X := cxOf (L2.CX Pr w) Pr w K mg base N_is_row "is_row" (defScope (top 16)) fA cdv A outer s H E) rfl rfl rfl rfl
  unfold b_is_row
  exact (pss_consI (ps_retI (pe_andI rfl (pe_bltI (cr_isaI rfl) rfl T.fr_isinstance boot_isinstance (pa_consI (pe_varI (pe_var rfl (by first | exact Or.inl rfl | exact Or.inr (Or.inl rfl) | exact Or.inr (Or.inr rfl)) rfl rfl)) (pa_consI (pe_cstI (pe_bltn (v := .ty "tuple") (u := .type "tuple") rfl T.fr_tuple boot_tuple rfl (by decide) rfl) fun _ _ => VR.t) pa_nilI rfl) rfl) (by decide) rfl rfl rfl) (pe_andI rfl (pe_cmpI (op_eqDI rfl rfl hu4) (pe_bltI (cr_lenI rfl) rfl T.fr_len boot_len (pa_consI (pe_varI (pe_var rfl (by first | exact Or.inl rfl | exact Or.inr (Or.inl rfl) | exact Or.inr (Or.inr rfl)) rfl rfl)) pa_nilI rfl) (by decide) rfl rfl rfl) (pe_cstI (pe_glob (v := .int 2) rfl T.in_PAIR.choose_spec ⟨_, rfl⟩ rfl) fun _ _ => VR.i) rfl) (pe_andI rfl (pe_callI none F_is_key hr hgd rfl tk (pa_consI (pe_subD rfl rfl hu (pe_varI (pe_var rfl (by first | exact Or.inl rfl | exact Or.inr (Or.inl rfl) | exact Or.inr (Or.inr rfl)) rfl rfl)) (pe_cstI pe_int fun _ _ => VR.i) fun _ _ => rfl) pa_nilI rfl) rfl rfl rfl) (pe_one (pe_callI none F_is_row_value hr hgd rfl tk (pa_consI (pe_subD rfl rfl hu (pe_varI (pe_var rfl (by first | exact Or.inl rfl | exact Or.inr (Or.inl rfl) | exact Or.inr (Or.inr rfl)) rfl rfl)) (pe_cstI pe_int fun _ _ => VR.i) fun _ _ => rfl) pa_nilI rfl) rfl rfl rfl))))))
    pss_nilI)
theorem ok_is_row (T : Tab Pr K mg) (TB : ∀ p ∈ cs K, LamX.TabB base mg p.1 p.2) : FnI Pr w K mg base (PP K w) "is_row" 6 1 c_is_row := by
  obtain ⟨hm, fd, F⟩ := T.fn_is_row
  have F_is_key := (ok_is_key (Pr := Pr) (w := w) (base := base) T TB).mono (by decide : 5 ≤ 5)
  have F_is_row_value := (ok_is_row_value (Pr := Pr) (w := w) (base := base) T TB).mono (by decide : 5 ≤ 5)
  exact FnI.all (ps := ["value"]) (fn_okI (P := PP K w) (f := b_is_row) (N := N_is_row) (ps := ["value"]) F sc_is_row fun av cdv A outer s H E hr hgd hcd => body_is_row T F_is_key F_is_row_value av _ cdv A outer s H E hr hgd hcd) hm F.kp (F.bindsN fun _ _ _ _ _ _ us hl => match us, hl with | [_], _ => by kernel_rfl)
theorem sc_row_cells : FnScope N_row_cells ["key", "value"] (defScope (top 25)) := ⟨rfl, rfl, rfl, by decide +kernel, rfl, by decide +kernel, by decide +kernel⟩
theorem body_row_cells (T : Tab Pr K mg) (F_cells_of_row : FnI Pr w K mg base (PP K w) "cells_of_row" 5 2 c_cells_of_row) (F_is_key : FnI Pr w K mg base (PP K w) "is_key" 5 1 c_is_key) (F_is_row_value : FnI Pr w K mg base (PP K w) "is_row_value" 5 1 c_is_row_value) (av : List Addr) (fA : Addr) (cdv : Value) (A : Around) (outer : List Env) (s : Shared) (H : Hp) (E : XK) (hr : Room 5 (A.deeper (envOfC "row_cells" (defScope (top 25)) s.heap.objs.size fA cdv))) (hgd : A.guards = some []) (hcd : cdv = .ref (codeA K fA)) :
    PSs (cxOf (L2.CX Pr w) Pr w K mg base N_row_cells "row_cells" (defScope (top 25)) fA cdv A outer s H E) (defBody (top 25)) (tS ((PP K w).at av) (fun c d _ H => E c d H) b_row_cells) := by
  have hu := units65 hr
  have hu4 := hr.units
  have sc := sc_row_cells
  have pa := passes_of (X := cxOf (L2.CX Pr w) Pr w K mg base N_row_cells "row_cells" (defScope (top 25)) fA cdv A outer s H E) rfl
  have tk := takes_of (X := cxOf (L2.CX Pr w) Pr w K mg base N_row_cells "row_cells" (defScope (top 25)) fA cdv A outer s H E) rfl rfl rfl rfl
  unfold b_row_cells
  exact (pss_consI (ps_ifI (PW.pt (pw_orI (pt_notI (pt_truI rfl (pe_callI none F_is_key hr hgd rfl tk (pa_consI (pe_varI (pe_var rfl (by first | exact Or.inl rfl | exact Or.inr (Or.inl rfl) | exact Or.inr (Or.inr rfl)) rfl rfl)) pa_nilI rfl) rfl rfl rfl) fun _ => rfl)) (pw_or1 (pt_notI (pt_truI rfl (pe_callI none F_is_row_value hr hgd rfl tk (pa_consI (pe_varI (pe_var rfl (by first | exact Or.inl rfl | exact Or.inr (Or.inl rfl) | exact Or.inr (Or.inr rfl)) rfl rfl)) pa_nilI rfl) rfl rfl rfl) fun _ => rfl))))) (pss_consI (ps_raiI rfl tk T.er_InvalidRow rfl rfl rfl)
    pss_nilI) pss_nilI)
    (pss_consI (ps_retI (pe_callI none F_cells_of_row hr hgd rfl tk (pa_consI (pe_varI (pe_var rfl (by first | exact Or.inl rfl | exact Or.inr (Or.inl rfl) | exact Or.inr (Or.inr rfl)) rfl rfl)) (pa_consI (pe_varI (pe_var rfl (by first | exact Or.inl rfl | exact Or.inr (Or.inl rfl) | exact Or.inr (Or.inr rfl)) rfl rfl)) pa_nilI rfl) rfl) rfl rfl rfl))
    pss_nilI))
theorem ok_row_cells (T : Tab Pr K mg) (TB : ∀ p ∈ cs K, LamX.TabB base mg p.1 p.2) : FnI Pr w K mg base (PP K w) "row_cells" 6 2 c_row_cells := by
  obtain ⟨hm, fd, F⟩ := T.fn_row_cells
  have F_cells_of_row := (ok_cells_of_row (Pr := Pr) (w := w) (base := base) T TB).mono (by decide : 1 ≤ 5)
  have F_is_key := (ok_is_key (Pr := Pr) (w := w) (base := base) T TB).mono (by decide : 5 ≤ 5)
  have F_is_row_value := (ok_is_row_value (Pr := Pr) (w := w) (base := base) T TB).mono (by decide : 5 ≤ 5)
  exact FnI.all (ps := ["key", "value"]) (fn_okI (P := PP K w) (f := b_row_cells) (N := N_row_cells) (ps := ["key", "value"]) F sc_row_cells fun av cdv A outer s H E hr hgd hcd => body_row_cells T F_cells_of_row F_is_key F_is_row_value av _ cdv A outer s H E hr hgd hcd) hm F.kp (F.bindsN fun _ _ _ _ _ _ us hl => match us, hl with | [_, _], _ => by kernel_rfl)
theorem sc_are_rows : FnScope N_are_rows ["value"] (defScope (top 24)) := ⟨rfl, rfl, rfl, by decide +kernel, rfl, by decide +kernel, by decide +kernel⟩
theorem body_are_rows (T : Tab Pr K mg) (F_is_row : FnI Pr w K mg base (PP K w) "is_row" 6 1 c_is_row) (av : List Addr) (fA : Addr) (cdv : Value) (A : Around) (outer : List Env) (s : Shared) (H : Hp) (E : XK) (hr : Room 6 (A.deeper (envOfC "are_rows" (defScope (top 24)) s.heap.objs.size fA cdv))) (hgd : A.guards = some []) (hcd : cdv = .ref (codeA K fA)) :
    PSs (cxOf (L2.CX Pr w) Pr w K mg base N_are_rows "are_rows" (defScope (top 24)) fA cdv A outer s H E) (defBody (top 24)) (tS ((PP K w).at av) (fun c d _ H => E c d H) b_are_rows) := by
  have hu := units65 hr
  have hu4 := hr.units
  have sc := sc_are_rows
  have pa := passes_of (X := cxOf (L2.CX Pr w) Pr w K mg base N_are_rows "are_rows" (defScope (top 24)) fA cdv A outer s H E) rfl
  have tk := takes_of (X := cxOf (L2.CX Pr w) Pr w K mg base N_are_rows "are_rows" (defScope (top 24)) fA cdv A outer s H E) rfl rfl rfl rfl
  unfold b_are_rows
  exact (pss_consI (ps_ifI (PW.pt (pw_orI (pt_notI (pt_truI rfl (pe_bltI (cr_isaI rfl) rfl T.fr_isinstance boot_isinstance (pa_consI (pe_varI (pe_var rfl (by first | exact Or.inl rfl | exact Or.inr (Or.inl rfl) | exact Or.inr (Or.inr rfl)) rfl rfl)) (pa_consI (pe_cstI (pe_bltn (v := .ty "tuple") (u := .type "tuple") rfl T.fr_tuple boot_tuple rfl (by decide) rfl) fun _ _ => VR.t) pa_nilI rfl) rfl) (by decide) rfl rfl rfl) fun _ => rfl)) (pw_orI (pt_cmpI (op_ordI rfl hu4) (pe_bltI (cr_lenI rfl) rfl T.fr_len boot_len (pa_consI (pe_varI (pe_var rfl (by first | exact Or.inl rfl | exact Or.inr (Or.inl rfl) | exact Or.inr (Or.inr rfl)) rfl rfl)) pa_nilI rfl) (by decide) rfl rfl rfl) (pe_cstI (pe_glob (v := .int 2000) rfl T.in_MOST_ROWS.choose_spec ⟨_, rfl⟩ rfl) fun _ _ => VR.i) rfl) (pw_or1 (pt_notI (pt_truI rfl (pe_bltI (cr_allI rfl rfl) rfl T.fr_all boot_all (pa_consI (pe_lcI [("row", 1)] rfl sc.nd (pi_anyI rfl (pe_varI (pe_var rfl (by first | exact Or.inl rfl | exact Or.inr (Or.inl rfl) | exact Or.inr (Or.inr rfl)) rfl rfl))) (blkOk_by (by kernel_rfl)) (fun _ => rfl) (fun _ _ _ _ _ _ => (pg_nmW (by decide) (pg_name sc.nd rfl (by first | exact Or.inl rfl | exact Or.inr rfl) (by first | exact Or.inl rfl | exact Or.inr rfl)))) (fun _ _ _ _ _ _ => pts_nilI) (fun _ _ _ _ _ _ => (pe_callI none F_is_row hr hgd rfl takesF (pa_consI (pe_varI (pe_var rfl (by first | exact Or.inl rfl | exact Or.inr (Or.inl rfl) | exact Or.inr (Or.inr rfl)) rfl rfl)) pa_nilI rfl) rfl rfl rfl))) pa_nilI rfl) (by decide) rfl rfl rfl) fun _ => rfl)))))) (pss_consI (ps_retI (pe_cstI pe_bl fun _ _ => VR.b))
    pss_nilI) pss_nilI)
    (pss_consI (ps_retI (pe_bltI (cr_allI rfl rfl) rfl T.fr_all boot_all (pa_consI (pe_lcI [("row", 1), ("later", 2)] rfl sc.nd (pi_zipAny rfl rfl T.fr_zip (pa_consI (pe_varI (pe_var rfl (by first | exact Or.inl rfl | exact Or.inr (Or.inl rfl) | exact Or.inr (Or.inr rfl)) rfl rfl)) (pa_consI (pe_sliI rfl (pe_varI (pe_var rfl (by first | exact Or.inl rfl | exact Or.inr (Or.inl rfl) | exact Or.inr (Or.inr rfl)) rfl rfl)) (po_someI (pe_cstI pe_int fun _ _ => VR.i)) po_noneI) pa_nilI rfl) rfl) rfl rfl) (blkOk_by (by kernel_rfl)) (fun _ => rfl) (fun _ _ _ _ _ _ => (pg_tupW rfl rfl (pgs_consW (pg_nmW (by decide) (pg_name sc.nd rfl (by first | exact Or.inl rfl | exact Or.inr rfl) (by first | exact Or.inl rfl | exact Or.inr rfl))) (pgs_consW (pg_nmW (by decide) (pg_name sc.nd rfl (by first | exact Or.inl rfl | exact Or.inr rfl) (by first | exact Or.inl rfl | exact Or.inr rfl))) pgs_nilW rfl) rfl) rfl rfl)) (fun _ _ _ _ _ _ => pts_nilI) (fun _ _ _ _ _ _ => (pe_cmpI (op_ordI rfl hu4) (pe_subD rfl rfl hu (pe_varI (pe_var rfl (by first | exact Or.inl rfl | exact Or.inr (Or.inl rfl) | exact Or.inr (Or.inr rfl)) rfl rfl)) (pe_cstI pe_int fun _ _ => VR.i) fun _ _ => rfl) (pe_subD rfl rfl hu (pe_varI (pe_var rfl (by first | exact Or.inl rfl | exact Or.inr (Or.inl rfl) | exact Or.inr (Or.inr rfl)) rfl rfl)) (pe_cstI pe_int fun _ _ => VR.i) fun _ _ => rfl) rfl))) pa_nilI rfl) (by decide) rfl rfl rfl))
    pss_nilI))
theorem ok_are_rows (T : Tab Pr K mg) (TB : ∀ p ∈ cs K, LamX.TabB base mg p.1 p.2) : FnI Pr w K mg base (PP K w) "are_rows" 7 1 c_are_rows := by
  obtain ⟨hm, fd, F⟩ := T.fn_are_rows
  have F_is_row := (ok_is_row (Pr := Pr) (w := w) (base := base) T TB).mono (by decide : 6 ≤ 6)
  exact FnI.all (ps := ["value"]) (fn_okI (P := PP K w) (f := b_are_rows) (N := N_are_rows) (ps := ["value"]) F sc_are_rows fun av cdv A outer s H E hr hgd hcd => body_are_rows T F_is_row av _ cdv A outer s H E hr hgd hcd) hm F.kp (F.bindsN fun _ _ _ _ _ _ us hl => match us, hl with | [_], _ => by kernel_rfl)
theorem sc_require_rows : FnScope N_require_rows ["value"] (defScope (top 21)) := ⟨rfl, rfl, rfl, by decide +kernel, rfl, by decide +kernel, by decide +kernel⟩
theorem body_require_rows (T : Tab Pr K mg) (F_are_rows : FnI Pr w K mg base (PP K w) "are_rows" 7 1 c_are_rows) (av : List Addr) (fA : Addr) (cdv : Value) (A : Around) (outer : List Env) (s : Shared) (H : Hp) (E : XK) (hr : Room 7 (A.deeper (envOfC "require_rows" (defScope (top 21)) s.heap.objs.size fA cdv))) (hgd : A.guards = some []) (hcd : cdv = .ref (codeA K fA)) :
    PSs (cxOf (L2.CX Pr w) Pr w K mg base N_require_rows "require_rows" (defScope (top 21)) fA cdv A outer s H E) (defBody (top 21)) (tS ((PP K w).at av) (fun c d _ H => E c d H) b_require_rows) := by
  have hu := units65 hr
  have hu4 := hr.units
  have sc := sc_require_rows
  have pa := passes_of (X := cxOf (L2.CX Pr w) Pr w K mg base N_require_rows "require_rows" (defScope (top 21)) fA cdv A outer s H E) rfl
  have tk := takes_of (X := cxOf (L2.CX Pr w) Pr w K mg base N_require_rows "require_rows" (defScope (top 21)) fA cdv A outer s H E) rfl rfl rfl rfl
  unfold b_require_rows
  exact (pss_consI (ps_ifI (pt_notI (pt_truI rfl (pe_callI none F_are_rows hr hgd rfl tk (pa_consI (pe_varI (pe_var rfl (by first | exact Or.inl rfl | exact Or.inr (Or.inl rfl) | exact Or.inr (Or.inr rfl)) rfl rfl)) pa_nilI rfl) rfl rfl rfl) fun _ => rfl)) (pss_consI (ps_raiI rfl tk T.er_InvalidRow rfl rfl rfl)
    pss_nilI) pss_nilI)
    pss_nilI)
theorem ok_require_rows (T : Tab Pr K mg) (TB : ∀ p ∈ cs K, LamX.TabB base mg p.1 p.2) : FnI Pr w K mg base (PP K w) "require_rows" 8 1 c_require_rows := by
  obtain ⟨hm, fd, F⟩ := T.fn_require_rows
  have F_are_rows := (ok_are_rows (Pr := Pr) (w := w) (base := base) T TB).mono (by decide : 7 ≤ 7)
  exact FnI.all (ps := ["value"]) (fn_okI (P := PP K w) (f := b_require_rows) (N := N_require_rows) (ps := ["value"]) F sc_require_rows fun av cdv A outer s H E hr hgd hcd => body_require_rows T F_are_rows av _ cdv A outer s H E hr hgd hcd) hm F.kp (F.bindsN fun _ _ _ _ _ _ us hl => match us, hl with | [_], _ => by kernel_rfl)
theorem sc_rows_cells : FnScope N_rows_cells ["rows"] (defScope (top 26)) := ⟨rfl, rfl, rfl, by decide +kernel, rfl, by decide +kernel, by decide +kernel⟩
theorem body_rows_cells (T : Tab Pr K mg) (F_cells_of_row : FnI Pr w K mg base (PP K w) "cells_of_row" 8 2 c_cells_of_row) (F_require_rows : FnI Pr w K mg base (PP K w) "require_rows" 8 1 c_require_rows) (av : List Addr) (fA : Addr) (cdv : Value) (A : Around) (outer : List Env) (s : Shared) (H : Hp) (E : XK) (hr : Room 8 (A.deeper (envOfC "rows_cells" (defScope (top 26)) s.heap.objs.size fA cdv))) (hgd : A.guards = some []) (hcd : cdv = .ref (codeA K fA)) :
    PSs (cxOf (L2.CX Pr w) Pr w K mg base N_rows_cells "rows_cells" (defScope (top 26)) fA cdv A outer s H E) (defBody (top 26)) (tS ((PP K w).at av) (fun c d _ H => E c d H) b_rows_cells) := by
  have hu := units65 hr
  have hu4 := hr.units
  have sc := sc_rows_cells
  have pa := passes_of (X := cxOf (L2.CX Pr w) Pr w K mg base N_rows_cells "rows_cells" (defScope (top 26)) fA cdv A outer s H E) rfl
  have tk := takes_of (X := cxOf (L2.CX Pr w) Pr w K mg base N_rows_cells "rows_cells" (defScope (top 26)) fA cdv A outer s H E) rfl rfl rfl rfl
  unfold b_rows_cells
  exact (pss_consI (ps_exprI (pe_callI none F_require_rows hr hgd rfl tk (pa_consI (pe_varI (pe_var rfl (by first | exact Or.inl rfl | exact Or.inr (Or.inl rfl) | exact Or.inr (Or.inr rfl)) rfl rfl)) pa_nilI rfl) rfl rfl rfl) rfl)
    (pss_consI (ps_asgI (pe_refOf (pl_list pa_nilI)) (pg_nmI (pg_name sc.nd rfl (by first | exact Or.inl rfl | exact Or.inr rfl) (by first | exact Or.inl rfl | exact Or.inr rfl))) rfl rfl rfl)
    (pss_consI (ps_forI pa rfl (pi_anyI rfl (pe_varI (pe_var rfl (by first | exact Or.inl rfl | exact Or.inr (Or.inl rfl) | exact Or.inr (Or.inr rfl)) rfl rfl))) (pg_tupI rfl rfl (pgs_consI (pg_nmI (pg_name sc.nd rfl (by first | exact Or.inl rfl | exact Or.inr rfl) (by first | exact Or.inl rfl | exact Or.inr rfl))) (pgs_consI (pg_nmI (pg_name sc.nd rfl (by first | exact Or.inl rfl | exact Or.inr rfl) (by first | exact Or.inl rfl | exact Or.inr rfl))) pgs_nilI rfl) rfl) rfl rfl) (pss_consI (ps_exprI (pe_mthI (.inl rfl) F.plainAttrs_list F.slot_list_extend F.type_list_extend (mt_extI rfl) rfl (pe_varI (pe_var rfl (by first | exact Or.inl rfl | exact Or.inr (Or.inl rfl) | exact Or.inr (Or.inr rfl)) rfl rfl)) (pa_consI (pe_callI none F_cells_of_row hr hgd rfl tk (pa_consI (pe_varI (pe_var rfl (by first | exact Or.inl rfl | exact Or.inr (Or.inl rfl) | exact Or.inr (Or.inr rfl)) rfl rfl)) (pa_consI (pe_varI (pe_var rfl (by first | exact Or.inl rfl | exact Or.inr (Or.inl rfl) | exact Or.inr (Or.inr rfl)) rfl rfl)) pa_nilI rfl) rfl) rfl rfl rfl) pa_nilI rfl) rfl rfl rfl rfl rfl) rfl)
    pss_nilI) fun _ => rfl)
    (pss_consI (ps_retI (pe_tyI (cr_tupleI rfl) rfl T.fr_tuple boot_tuple (pa_consI (pe_varI (pe_var rfl (by first | exact Or.inl rfl | exact Or.inr (Or.inl rfl) | exact Or.inr (Or.inr rfl)) rfl rfl)) pa_nilI rfl) (by decide) rfl rfl rfl))
    pss_nilI))))
theorem ok_rows_cells (T : Tab Pr K mg) (TB : ∀ p ∈ cs K, LamX.TabB base mg p.1 p.2) : FnI Pr w K mg base (PP K w) "rows_cells" 9 1 c_rows_cells := by
  obtain ⟨hm, fd, F⟩ := T.fn_rows_cells
  have F_cells_of_row := (ok_cells_of_row (Pr := Pr) (w := w) (base := base) T TB).mono (by decide : 1 ≤ 8)
  have F_require_rows := (ok_require_rows (Pr := Pr) (w := w) (base := base) T TB).mono (by decide : 8 ≤ 8)
  exact FnI.all (ps := ["rows"]) (fn_okI (P := PP K w) (f := b_rows_cells) (N := N_rows_cells) (ps := ["rows"]) F sc_rows_cells fun av cdv A outer s H E hr hgd hcd => body_rows_cells T F_cells_of_row F_require_rows av _ cdv A outer s H E hr hgd hcd) hm F.kp (F.bindsN fun _ _ _ _ _ _ us hl => match us, hl with | [_], _ => by kernel_rfl)
theorem sc__law_right : FnScope N__law_right ["_law_vat_here"] (defScope (top 41)) := ⟨rfl, rfl, rfl, by decide +kernel, rfl, by decide +kernel, by decide +kernel⟩
theorem body__law_right (T : Tab Pr K mg) (F__law_are_rows : FnI Pr w K mg base (PP K w) "_law_are_rows" 9 1 c__law_are_rows) (F__law_is_cells : FnI Pr w K mg base (PP K w) "_law_is_cells" 9 2 c__law_is_cells) (F__law_near_cells : FnI Pr w K mg base (PP K w) "_law_near_cells" 9 2 c__law_near_cells) (F__law_near_rows : FnI Pr w K mg base (PP K w) "_law_near_rows" 9 2 c__law_near_rows) (F__law_own_cells : FnI Pr w K mg base (PP K w) "_law_own_cells" 9 1 c__law_own_cells) (F__law_read : FnI Pr w K mg base (PP K w) "_law_read" 9 1 c__law_read) (F__law_rows : FnI Pr w K mg base (PP K w) "_law_rows" 9 2 c__law_rows) (F_are_rows : FnI Pr w K mg base (PP K w) "are_rows" 9 1 c_are_rows) (F_is_key : FnI Pr w K mg base (PP K w) "is_key" 9 1 c_is_key) (F_is_row_value : FnI Pr w K mg base (PP K w) "is_row_value" 9 1 c_is_row_value) (F_row_cells : FnI Pr w K mg base (PP K w) "row_cells" 9 2 c_row_cells) (F_rows_cells : FnI Pr w K mg base (PP K w) "rows_cells" 9 1 c_rows_cells) (F_rows_told : FnI Pr w K mg base (PP K w) "rows_told" 9 1 c_rows_told) (av : List Addr) (fA : Addr) (cdv : Value) (A : Around) (outer : List Env) (s : Shared) (H : Hp) (E : XK) (hr : Room 9 (A.deeper (envOfC "_law_right" (defScope (top 41)) s.heap.objs.size fA cdv))) (hgd : A.guards = some []) (hcd : cdv = .ref (codeA K fA)) :
    PSs (cxOf (L2.CX Pr w) Pr w K mg base N__law_right "_law_right" (defScope (top 41)) fA cdv A outer s H E) (defBody (top 41)) (tS ((PP K w).at av) (fun c d _ H => E c d H) b__law_right) := by
  have hu := units65 hr
  have hu4 := hr.units
  have sc := sc__law_right
  have pa := passes_of (X := cxOf (L2.CX Pr w) Pr w K mg base N__law_right "_law_right" (defScope (top 41)) fA cdv A outer s H E) rfl
  have tk := takes_of (X := cxOf (L2.CX Pr w) Pr w K mg base N__law_right "_law_right" (defScope (top 41)) fA cdv A outer s H E) rfl rfl rfl rfl
  unfold b__law_right
  exact (pss_consI (ps_asgI (pe_callI none F__law_rows hr hgd rfl tk (pa_consI (pe_varI (pe_var rfl (by first | exact Or.inl rfl | exact Or.inr (Or.inl rfl) | exact Or.inr (Or.inr rfl)) rfl rfl)) (pa_consI (pe_cstI pe_int fun _ _ => VR.i) pa_nilI rfl) rfl) rfl rfl rfl) (pg_nmI (pg_name sc.nd rfl (by first | exact Or.inl rfl | exact Or.inr rfl) (by first | exact Or.inl rfl | exact Or.inr rfl))) rfl rfl rfl)
    (pss_consI (ps_asgI (pe_callI none F__law_own_cells hr hgd rfl tk (pa_consI (pe_coeI (pe_varI (pe_var rfl (by first | exact Or.inl rfl | exact Or.inr (Or.inl rfl) | exact Or.inr (Or.inr rfl)) rfl rfl))) pa_nilI rfl) rfl rfl rfl) (pg_nmI (pg_name sc.nd rfl (by first | exact Or.inl rfl | exact Or.inr rfl) (by first | exact Or.inl rfl | exact Or.inr rfl))) rfl rfl rfl)
    (pss_consI (ps_ifI (PW.pt (pw_orI (pt_cmpI (op_neDI rfl rfl hu4) (pe_callI (some true) F_rows_cells hr hgd rfl tk (pa_consI (pe_coeI (pe_varI (pe_var rfl (by first | exact Or.inl rfl | exact Or.inr (Or.inl rfl) | exact Or.inr (Or.inr rfl)) rfl rfl))) pa_nilI rfl) rfl rfl rfl) (pe_varI (pe_var rfl (by first | exact Or.inl rfl | exact Or.inr (Or.inl rfl) | exact Or.inr (Or.inr rfl)) rfl rfl)) rfl) (pw_orI (pt_cmpI (op_neDI rfl rfl hu4) (pe_callI none F_rows_told hr hgd rfl tk (pa_consI (pe_varI (pe_var rfl (by first | exact Or.inl rfl | exact Or.inr (Or.inl rfl) | exact Or.inr (Or.inr rfl)) rfl rfl)) pa_nilI rfl) rfl rfl rfl) (pe_coeI (pe_varI (pe_var rfl (by first | exact Or.inl rfl | exact Or.inr (Or.inl rfl) | exact Or.inr (Or.inr rfl)) rfl rfl))) rfl) (pw_or1 (pt_cmpI (op_neDI rfl rfl hu4) (pe_callI (some true) F__law_read hr hgd rfl tk (pa_consI (pe_varI (pe_var rfl (by first | exact Or.inl rfl | exact Or.inr (Or.inl rfl) | exact Or.inr (Or.inr rfl)) rfl rfl)) pa_nilI rfl) rfl rfl rfl) (pe_coeI (pe_varI (pe_var rfl (by first | exact Or.inl rfl | exact Or.inr (Or.inl rfl) | exact Or.inr (Or.inr rfl)) rfl rfl))) rfl))))) (pss_consI (ps_retI (pe_cstI pe_bl fun _ _ => VR.b))
    pss_nilI) pss_nilI)
    (pss_consI (ps_forI pa rfl (pi_anyI rfl (pe_coeI (pe_varI (pe_var rfl (by first | exact Or.inl rfl | exact Or.inr (Or.inl rfl) | exact Or.inr (Or.inr rfl)) rfl rfl)))) (pg_tupI rfl rfl (pgs_consI (pg_nmI (pg_name sc.nd rfl (by first | exact Or.inl rfl | exact Or.inr rfl) (by first | exact Or.inl rfl | exact Or.inr rfl))) (pgs_consI (pg_nmI (pg_name sc.nd rfl (by first | exact Or.inl rfl | exact Or.inr rfl) (by first | exact Or.inl rfl | exact Or.inr rfl))) pgs_nilI rfl) rfl) rfl rfl) (pss_consI (ps_ifI (pt_cmpI (op_neDI rfl rfl hu4) (pe_callI none F_row_cells hr hgd rfl tk (pa_consI (pe_varI (pe_var rfl (by first | exact Or.inl rfl | exact Or.inr (Or.inl rfl) | exact Or.inr (Or.inr rfl)) rfl rfl)) (pa_consI (pe_varI (pe_var rfl (by first | exact Or.inl rfl | exact Or.inr (Or.inl rfl) | exact Or.inr (Or.inr rfl)) rfl rfl)) pa_nilI rfl) rfl) rfl rfl rfl) (pe_callI none F__law_own_cells hr hgd rfl tk (pa_consI (pe_tupI (pa_consI (pe_tupI (pa_consI (pe_varI (pe_var rfl (by first | exact Or.inl rfl | exact Or.inr (Or.inl rfl) | exact Or.inr (Or.inr rfl)) rfl rfl)) (pa_consI (pe_varI (pe_var rfl (by first | exact Or.inl rfl | exact Or.inr (Or.inl rfl) | exact Or.inr (Or.inr rfl)) rfl rfl)) pa_nilI rfl) rfl)) pa_nilI rfl)) pa_nilI rfl) rfl rfl rfl) rfl) (pss_consI (ps_retI (pe_cstI pe_bl fun _ _ => VR.b))
    pss_nilI) pss_nilI)
    pss_nilI) fun _ => rfl)
    (pss_consI (ps_forI pa rfl (pi_anyI rfl (pe_callI none F__law_near_cells hr hgd rfl tk (pa_consI (pe_varI (pe_var rfl (by first | exact Or.inl rfl | exact Or.inr (Or.inl rfl) | exact Or.inr (Or.inr rfl)) rfl rfl)) (pa_consI (pe_varI (pe_var rfl (by first | exact Or.inl rfl | exact Or.inr (Or.inl rfl) | exact Or.inr (Or.inr rfl)) rfl rfl)) pa_nilI rfl) rfl) rfl rfl rfl)) (pg_nmI (pg_name sc.nd rfl (by first | exact Or.inl rfl | exact Or.inr rfl) (by first | exact Or.inl rfl | exact Or.inr rfl))) (pss_consI (ps_ifI (pt_cmpI (op_neDI rfl rfl hu4) (pe_callI none F_rows_told hr hgd rfl tk (pa_consI (pe_varI (pe_var rfl (by first | exact Or.inl rfl | exact Or.inr (Or.inl rfl) | exact Or.inr (Or.inr rfl)) rfl rfl)) pa_nilI rfl) rfl rfl rfl) (pe_callI (some true) F__law_read hr hgd rfl tk (pa_consI (pe_varI (pe_var rfl (by first | exact Or.inl rfl | exact Or.inr (Or.inl rfl) | exact Or.inr (Or.inr rfl)) rfl rfl)) pa_nilI rfl) rfl rfl rfl) rfl) (pss_consI (ps_retI (pe_cstI pe_bl fun _ _ => VR.b))
    pss_nilI) pss_nilI)
    pss_nilI) fun _ => rfl)
    (pss_consI (ps_forI pa rfl (pi_anyI rfl (pe_callI (some true) F__law_near_rows hr hgd rfl tk (pa_consI (pe_varI (pe_var rfl (by first | exact Or.inl rfl | exact Or.inr (Or.inl rfl) | exact Or.inr (Or.inr rfl)) rfl rfl)) (pa_consI (pe_varI (pe_var rfl (by first | exact Or.inl rfl | exact Or.inr (Or.inl rfl) | exact Or.inr (Or.inr rfl)) rfl rfl)) pa_nilI rfl) rfl) rfl rfl rfl)) (pg_nmI (pg_name sc.nd rfl (by first | exact Or.inl rfl | exact Or.inr rfl) (by first | exact Or.inl rfl | exact Or.inr rfl))) (pss_consI (ps_ifI (pt_cmpI (op_neDI rfl rfl hu4) (pe_bltI (cr_reprDI rfl hgd hu4) rfl T.fr_repr boot_repr (pa_consI (pe_callI none F_are_rows hr hgd rfl tk (pa_consI (pe_varI (pe_var rfl (by first | exact Or.inl rfl | exact Or.inr (Or.inl rfl) | exact Or.inr (Or.inr rfl)) rfl rfl)) pa_nilI rfl) rfl rfl rfl) pa_nilI rfl) (by decide) rfl rfl rfl) (pe_bltI (cr_reprDI rfl hgd hu4) rfl T.fr_repr boot_repr (pa_consI (pe_callI none F__law_are_rows hr hgd rfl tk (pa_consI (pe_varI (pe_var rfl (by first | exact Or.inl rfl | exact Or.inr (Or.inl rfl) | exact Or.inr (Or.inr rfl)) rfl rfl)) pa_nilI rfl) rfl rfl rfl) pa_nilI rfl) (by decide) rfl rfl rfl) rfl) (pss_consI (ps_retI (pe_cstI pe_bl fun _ _ => VR.b))
    pss_nilI) pss_nilI)
    (pss_consI (ps_forI pa rfl (pi_anyI rfl (pe_iteI (pt_truI rfl (pe_bltI (cr_isaI rfl) rfl T.fr_isinstance boot_isinstance (pa_consI (pe_varI (pe_var rfl (by first | exact Or.inl rfl | exact Or.inr (Or.inl rfl) | exact Or.inr (Or.inr rfl)) rfl rfl)) (pa_consI (pe_cstI (pe_bltn (v := .ty "tuple") (u := .type "tuple") rfl T.fr_tuple boot_tuple rfl (by decide) rfl) fun _ _ => VR.t) pa_nilI rfl) rfl) (by decide) rfl rfl rfl) fun _ => rfl) (pe_varI (pe_var rfl (by first | exact Or.inl rfl | exact Or.inr (Or.inl rfl) | exact Or.inr (Or.inr rfl)) rfl rfl)) (pe_tupI pa_nilI))) (pg_nmI (pg_name sc.nd rfl (by first | exact Or.inl rfl | exact Or.inr rfl) (by first | exact Or.inl rfl | exact Or.inr rfl))) (pss_consI (ps_ifI (pt_cmpI (op_neDI rfl rfl hu4) (pe_bltI (cr_reprDI rfl hgd hu4) rfl T.fr_repr boot_repr (pa_consI (pe_lstOf (pl_list (pa_consI (pe_callI none F_is_key hr hgd rfl tk (pa_consI (pe_varI (pe_var rfl (by first | exact Or.inl rfl | exact Or.inr (Or.inl rfl) | exact Or.inr (Or.inr rfl)) rfl rfl)) pa_nilI rfl) rfl rfl rfl) (pa_consI (pe_callI none F_is_row_value hr hgd rfl tk (pa_consI (pe_varI (pe_var rfl (by first | exact Or.inl rfl | exact Or.inr (Or.inl rfl) | exact Or.inr (Or.inr rfl)) rfl rfl)) pa_nilI rfl) rfl rfl rfl) pa_nilI rfl) rfl))) pa_nilI rfl) (by decide) rfl rfl rfl) (pe_bltI (cr_reprDI rfl hgd hu4) rfl T.fr_repr boot_repr (pa_consI (pe_lstOf (pl_list (pa_consI (pe_callI none F__law_is_cells hr hgd rfl tk (pa_consI (pe_varI (pe_var rfl (by first | exact Or.inl rfl | exact Or.inr (Or.inl rfl) | exact Or.inr (Or.inr rfl)) rfl rfl)) (pa_consI (pe_cstI pe_int fun _ _ => VR.i) pa_nilI rfl) rfl) rfl rfl rfl) (pa_consI (pe_callI none F__law_is_cells hr hgd rfl tk (pa_consI (pe_varI (pe_var rfl (by first | exact Or.inl rfl | exact Or.inr (Or.inl rfl) | exact Or.inr (Or.inr rfl)) rfl rfl)) (pa_consI (pe_cstI pe_int fun _ _ => VR.i) pa_nilI rfl) rfl) rfl rfl rfl) pa_nilI rfl) rfl))) pa_nilI rfl) (by decide) rfl rfl rfl) rfl) (pss_consI (ps_retI (pe_cstI pe_bl fun _ _ => VR.b))
    pss_nilI) pss_nilI)
    pss_nilI) fun _ => rfl)
    pss_nilI)) fun _ => rfl)
    (pss_consI (ps_retI (pe_cstI pe_bl fun _ _ => VR.b))
    pss_nilI)))))))
theorem ok__law_right (T : Tab Pr K mg) (TB : ∀ p ∈ cs K, LamX.TabB base mg p.1 p.2) : FnI Pr w K mg base (PP K w) "_law_right" 10 1 c__law_right := by
  obtain ⟨hm, fd, F⟩ := T.fn__law_right
  have F__law_are_rows := (ok__law_are_rows (Pr := Pr) (w := w) (base := base) T TB).mono (by decide : 2 ≤ 9)
  have F__law_is_cells := (ok__law_is_cells (Pr := Pr) (w := w) (base := base) T TB).mono (by decide : 1 ≤ 9)
  have F__law_near_cells := (ok__law_near_cells (Pr := Pr) (w := w) (base := base) T TB).mono (by decide : 4 ≤ 9)
  have F__law_near_rows := (ok__law_near_rows (Pr := Pr) (w := w) (base := base) T TB).mono (by decide : 1 ≤ 9)
  have F__law_own_cells := (ok__law_own_cells (Pr := Pr) (w := w) (base := base) T TB).mono (by decide : 1 ≤ 9)
  have F__law_read := (ok__law_read (Pr := Pr) (w := w) (base := base) T TB).mono (by decide : 2 ≤ 9)
  have F__law_rows := (ok__law_rows (Pr := Pr) (w := w) (base := base) T TB).mono (by decide : 4 ≤ 9)
  have F_are_rows := (ok_are_rows (Pr := Pr) (w := w) (base := base) T TB).mono (by decide : 7 ≤ 9)
  have F_is_key := (ok_is_key (Pr := Pr) (w := w) (base := base) T TB).mono (by decide : 5 ≤ 9)
  have F_is_row_value := (ok_is_row_value (Pr := Pr) (w := w) (base := base) T TB).mono (by decide : 5 ≤ 9)
  have F_row_cells := (ok_row_cells (Pr := Pr) (w := w) (base := base) T TB).mono (by decide : 6 ≤ 9)
  have F_rows_cells := (ok_rows_cells (Pr := Pr) (w := w) (base := base) T TB).mono (by decide : 9 ≤ 9)
  have F_rows_told := (ok_rows_told (Pr := Pr) (w := w) (base := base) T TB).mono (by decide : 5 ≤ 9)
  exact FnI.all (ps := ["_law_vat_here"]) (fn_okI (P := PP K w) (f := b__law_right) (N := N__law_right) (ps := ["_law_vat_here"]) F sc__law_right fun av cdv A outer s H E hr hgd hcd => body__law_right T F__law_are_rows F__law_is_cells F__law_near_cells F__law_near_rows F__law_own_cells F__law_read F__law_rows F_are_rows F_is_key F_is_row_value F_row_cells F_rows_cells F_rows_told av _ cdv A outer s H E hr hgd hcd) hm F.kp (F.bindsN fun _ _ _ _ _ _ us hl => match us, hl with | [_], _ => by kernel_rfl)
theorem sc_law : FnScope N_law ["_law_script"] (defScope (top 42)) := ⟨rfl, rfl, rfl, by decide +kernel, rfl, by decide +kernel, by decide +kernel⟩
theorem body_law (T : Tab Pr K mg) (F__law_right : FnI Pr w K mg base (PP K w) "_law_right" 10 1 c__law_right) (F__law_vat : FnI Pr w K mg base (PP K w) "_law_vat" 10 2 c__law_vat) (F_is_key : FnI Pr w K mg base (PP K w) "is_key" 10 1 c_is_key) (F_row_cells : FnI Pr w K mg base (PP K w) "row_cells" 10 2 c_row_cells) (F_rows_told : FnI Pr w K mg base (PP K w) "rows_told" 10 1 c_rows_told) (av : List Addr) (fA : Addr) (cdv : Value) (A : Around) (outer : List Env) (s : Shared) (H : Hp) (E : XK) (hr : Room 10 (A.deeper (envOfC "law" (defScope (top 42)) s.heap.objs.size fA cdv))) (hgd : A.guards = some []) (hcd : cdv = .ref (codeA K fA)) :
    PSs (cxOf (L2.CX Pr w) Pr w K mg base N_law "law" (defScope (top 42)) fA cdv A outer s H E) (defBody (top 42)) (tS ((PP K w).at av) (fun c d _ H => E c d H) b_law) := by
  have hu := units65 hr
  have hu4 := hr.units
  have sc := sc_law
  have pa := passes_of (X := cxOf (L2.CX Pr w) Pr w K mg base N_law "law" (defScope (top 42)) fA cdv A outer s H E) rfl
  have tk := takes_of (X := cxOf (L2.CX Pr w) Pr w K mg base N_law "law" (defScope (top 42)) fA cdv A outer s H E) rfl rfl rfl rfl
  unfold b_law
  exact (pss_consI (ps_forI pa rfl (pi_rngI rfl T.fr_range (pa_consI (pe_bltI (cr_maxI rfl) rfl T.fr_max boot_max (pa_consI (pe_cstI pe_int fun _ _ => VR.i) (pa_consI (pe_bltI (cr_minI rfl) rfl T.fr_min boot_min (pa_consI (pe_cstI pe_int fun _ _ => VR.i) (pa_consI (pe_bltI (cr_lenI rfl) rfl T.fr_len boot_len (pa_consI (pe_varI (pe_var rfl (by first | exact Or.inl rfl | exact Or.inr (Or.inl rfl) | exact Or.inr (Or.inr rfl)) rfl rfl)) pa_nilI rfl) (by decide) rfl rfl rfl) pa_nilI rfl) rfl) (by decide) rfl rfl rfl) pa_nilI rfl) rfl) (by decide) rfl rfl rfl) pa_nilI rfl) rfl) (pg_nmI (pg_name sc.nd rfl (by first | exact Or.inl rfl | exact Or.inr rfl) (by first | exact Or.inl rfl | exact Or.inr rfl))) (pss_dropI (pss_consI (ps_asgI (pe_callI (some false) F__law_vat hr hgd rfl tk (pa_consI (pe_varI (pe_var rfl (by first | exact Or.inl rfl | exact Or.inr (Or.inl rfl) | exact Or.inr (Or.inr rfl)) rfl rfl)) (pa_consI (pe_varI (pe_var rfl (by first | exact Or.inl rfl | exact Or.inr (Or.inl rfl) | exact Or.inr (Or.inr rfl)) rfl rfl)) pa_nilI rfl) rfl) rfl rfl rfl) (pg_nmI (pg_name sc.nd rfl (by first | exact Or.inl rfl | exact Or.inr rfl) (by first | exact Or.inl rfl | exact Or.inr rfl))) rfl rfl rfl)
    (pss_consI (ps_ifI (PW.pt (pw_orI (pt_notI (pt_truI rfl (pe_dropI (pe_callI none F__law_right hr hgd rfl tk (pa_consI (pe_varI (pe_var rfl (by first | exact Or.inl rfl | exact Or.inr (Or.inl rfl) | exact Or.inr (Or.inr rfl)) rfl rfl)) pa_nilI rfl) rfl rfl rfl)) fun _ => rfl)) (pw_or1 (pt_notI (pt_truI rfl (pe_dropI (pe_callI none F__law_right hr hgd rfl tk (pa_consI (pe_varI (pe_var rfl (by first | exact Or.inl rfl | exact Or.inr (Or.inl rfl) | exact Or.inr (Or.inr rfl)) rfl rfl)) pa_nilI rfl) rfl rfl rfl)) fun _ => rfl))))) (pss_consI (ps_retI (pe_cstI pe_bl fun _ _ => VR.b))
    pss_nilI) pss_nilI)
    pss_nilI))) fun _ => rfl)
    (pss_consI (ps_asgI (pe_lstOf (pl_list (pa_consI (pe_callI none F_row_cells hr hgd rfl tk (pa_consI (pe_tupI (pa_consI (pe_cstI pe_int fun _ _ => VR.i) (pa_consI (pe_cstI pe_int fun _ _ => VR.i) (pa_consI (pe_cstI pe_int fun _ _ => VR.i) pa_nilI rfl) rfl) rfl)) (pa_consI (pe_tupI (pa_consI (pe_cstI pe_int fun _ _ => VR.i) pa_nilI rfl)) pa_nilI rfl) rfl) rfl rfl rfl) (pa_consI (pe_callI none F_rows_told hr hgd rfl tk (pa_consI (pe_tupI (pa_consI (pe_cstI pe_int fun _ _ => VR.i) (pa_consI (pe_cstI pe_int fun _ _ => VR.i) (pa_consI (pe_cstI pe_int fun _ _ => VR.i) (pa_consI (pe_cstI pe_int fun _ _ => VR.i) (pa_consI (pe_cstI pe_int fun _ _ => VR.i) (pa_consI (pe_cstI pe_int fun _ _ => VR.i) (pa_consI (pe_cstI pe_int fun _ _ => VR.i) (pa_consI (pe_cstI pe_int fun _ _ => VR.i) (pa_consI (pe_cstI pe_int fun _ _ => VR.i) pa_nilI rfl) rfl) rfl) rfl) rfl) rfl) rfl) rfl) rfl)) pa_nilI rfl) rfl rfl rfl) (pa_consI (pe_callI none F_rows_told hr hgd rfl tk (pa_consI (pe_binI (op_mulEI rfl) (pe_tupI (pa_consI (pe_cstI pe_int fun _ _ => VR.i) (pa_consI (pe_cstI pe_int fun _ _ => VR.i) (pa_consI (pe_cstI pe_int fun _ _ => VR.i) (pa_consI (pe_cstI pe_int fun _ _ => VR.i) pa_nilI rfl) rfl) rfl) rfl)) (pe_cstI pe_int fun _ _ => VR.i)) pa_nilI rfl) rfl rfl rfl) (pa_consI (pe_callI none F_rows_told hr hgd rfl tk (pa_consI (pe_tupI pa_nilI) pa_nilI rfl) rfl rfl rfl) pa_nilI rfl) rfl) rfl) rfl))) (pg_nmI (pg_name sc.nd rfl (by first | exact Or.inl rfl | exact Or.inr rfl) (by first | exact Or.inl rfl | exact Or.inr rfl))) rfl rfl rfl)
    (pss_consI (ps_ifI (pt_cmpI (op_neDI rfl rfl hu4) (pe_varI (pe_var rfl (by first | exact Or.inl rfl | exact Or.inr (Or.inl rfl) | exact Or.inr (Or.inr rfl)) rfl rfl)) (pe_lstOf (pl_list (pa_consI (pe_tupI (pa_consI (pe_cstI pe_int fun _ _ => VR.i) (pa_consI (pe_cstI pe_int fun _ _ => VR.i) (pa_consI (pe_cstI pe_int fun _ _ => VR.i) (pa_consI (pe_cstI pe_int fun _ _ => VR.i) (pa_consI (pe_cstI pe_int fun _ _ => VR.i) (pa_consI (pe_cstI pe_int fun _ _ => VR.i) pa_nilI rfl) rfl) rfl) rfl) rfl) rfl)) (pa_consI (pe_tupI (pa_consI (pe_tupI (pa_consI (pe_tupI (pa_consI (pe_cstI pe_int fun _ _ => VR.i) pa_nilI rfl)) (pa_consI (pe_tupI (pa_consI (pe_cstI pe_int fun _ _ => VR.i) pa_nilI rfl)) pa_nilI rfl) rfl)) (pa_consI (pe_tupI (pa_consI (pe_tupI (pa_consI (pe_cstI pe_int fun _ _ => VR.i) (pa_consI (pe_cstI pe_int fun _ _ => VR.i) pa_nilI rfl) rfl)) (pa_consI (pe_tupI (pa_consI (pe_cstI pe_int fun _ _ => VR.i) pa_nilI rfl)) pa_nilI rfl) rfl)) pa_nilI rfl) rfl)) (pa_consI (pe_cstI pe_non fun _ _ => VR.n) (pa_consI (pe_tupI pa_nilI) pa_nilI rfl) rfl) rfl) rfl))) rfl) (pss_consI (ps_retI (pe_cstI pe_bl fun _ _ => VR.b))
    pss_nilI) pss_nilI)
    (pss_consI (ps_asgI (pe_lstOf (pl_list (pa_consI (pe_tupI pa_nilI) (pa_consI (pe_tupI (pa_consI (pe_cstI pe_int fun _ _ => VR.i) pa_nilI rfl)) (pa_consI (pe_tupI (pa_consI (pe_cstI pe_int fun _ _ => VR.i) (pa_consI (pe_cstI pe_int fun _ _ => VR.i) (pa_consI (pe_cstI pe_int fun _ _ => VR.i) pa_nilI rfl) rfl) rfl)) (pa_consI (pe_tupI (pa_consI (pe_cstI pe_int fun _ _ => VR.i) (pa_consI (pe_cstI pe_int fun _ _ => VR.i) (pa_consI (pe_cstI pe_int fun _ _ => VR.i) (pa_consI (pe_cstI pe_int fun _ _ => VR.i) pa_nilI rfl) rfl) rfl) rfl)) (pa_consI (pe_lstOf (pl_list (pa_consI (pe_cstI pe_int fun _ _ => VR.i) pa_nilI rfl))) (pa_consI (pe_tupI (pa_consI (pe_cstI pe_bl fun _ _ => VR.b) pa_nilI rfl)) (pa_consI (pe_tupI (pa_consI (pe_binI (op_powI) (pe_cstI pe_int fun _ _ => VR.i) (pe_cstI pe_int fun _ _ => VR.i)) pa_nilI rfl)) (pa_consI (pe_cstI pe_non fun _ _ => VR.n) pa_nilI rfl) rfl) rfl) rfl) rfl) rfl) rfl) rfl))) (pg_nmI (pg_name sc.nd rfl (by first | exact Or.inl rfl | exact Or.inr rfl) (by first | exact Or.inl rfl | exact Or.inr rfl))) rfl rfl rfl)
    (pss_consI (ps_retI (pe_cmpI (op_eqDI rfl rfl hu4) (pe_lcI [("_law_key", 5)] rfl sc.nd (pi_anyI rfl (pe_varI (pe_var rfl (by first | exact Or.inl rfl | exact Or.inr (Or.inl rfl) | exact Or.inr (Or.inr rfl)) rfl rfl))) (blkOk_by (by kernel_rfl)) (fun _ => rfl) (fun _ _ _ _ _ _ => (pg_nmW (by decide) (pg_name sc.nd rfl (by first | exact Or.inl rfl | exact Or.inr rfl) (by first | exact Or.inl rfl | exact Or.inr rfl)))) (fun _ _ _ _ _ _ => pts_nilI) (fun _ _ _ _ _ _ => (pe_callI none F_is_key hr hgd rfl takesF (pa_consI (pe_varI (pe_var rfl (by first | exact Or.inl rfl | exact Or.inr (Or.inl rfl) | exact Or.inr (Or.inr rfl)) rfl rfl)) pa_nilI rfl) rfl rfl rfl))) (pe_lstOf (pl_list (pa_consI (pe_cstI pe_bl fun _ _ => VR.b) (pa_consI (pe_cstI pe_bl fun _ _ => VR.b) (pa_consI (pe_cstI pe_bl fun _ _ => VR.b) (pa_consI (pe_cstI pe_bl fun _ _ => VR.b) (pa_consI (pe_cstI pe_bl fun _ _ => VR.b) (pa_consI (pe_cstI pe_bl fun _ _ => VR.b) (pa_consI (pe_cstI pe_bl fun _ _ => VR.b) (pa_consI (pe_cstI pe_bl fun _ _ => VR.b) pa_nilI rfl) rfl) rfl) rfl) rfl) rfl) rfl) rfl))) rfl))
    pss_nilI)))))
theorem fok_law (T : Tab Pr K mg) (TB : ∀ p ∈ cs K, LamX.TabB base mg p.1 p.2) {fA : Addr} {fd : FuncData} (F : FunD K "law" "law" (defArgs (top 42)) (defBody (top 42)) (defScope (top 42)) [] [] fA fd) : FnG Pr w K mg base (L2.CX Pr w) 11 fA fd ["_law_script"] (spI (PP K w) 1 c_law) := by
  have F__law_right := (ok__law_right (Pr := Pr) (w := w) (base := base) T TB).mono (by decide : 10 ≤ 10)
  have F__law_vat := (ok__law_vat (Pr := Pr) (w := w) (base := base) T TB).mono (by decide : 1 ≤ 10)
  have F_is_key := (ok_is_key (Pr := Pr) (w := w) (base := base) T TB).mono (by decide : 5 ≤ 10)
  have F_row_cells := (ok_row_cells (Pr := Pr) (w := w) (base := base) T TB).mono (by decide : 6 ≤ 10)
  have F_rows_told := (ok_rows_told (Pr := Pr) (w := w) (base := base) T TB).mono (by decide : 5 ≤ 10)
  exact fn_okI (P := PP K w) (f := b_law) (N := N_law) (ps := ["_law_script"]) F sc_law fun av cdv A outer s H E hr hgd hcd => body_law T F__law_right F__law_vat F_is_key F_row_cells F_rows_told av _ cdv A outer s H E hr hgd hcd
end
end K17
namespace K17
open PySem PySem.Spec PyProof.Rows EV
open L2 hiding eqV keyOf
abbrev T3 (a b c : Int) : IO := .lst [.int a, .int b, .int c]
def Hok (h : IH) : Prop := ∀ o ∈ h, ∃ a b c, o = T3 a b c
theorem Hok.at {h : IH} (k : Hok h) {r : Nat} (hr : r < h.length) : ∃ a b c, h[r]? = some (T3 a b c) := by
  obtain ⟨a, b, c, e⟩ := k h[r] (List.getElem_mem hr)
  exact ⟨a, b, c, by rw [List.getElem?_eq_getElem hr, e]⟩
theorem Hok.set {h : IH} (k : Hok h) (r : Nat) (a b c : Int) : Hok (h.set r (T3 a b c)) := fun o ho => by
  rcases List.mem_or_eq_of_mem_set ho with h1 | h1
  · exact k o h1
  · exact ⟨a, b, c, h1⟩
theorem mod_ok {a b : Int} {hh : IH} (h : 0 < b) : modI (.int a) (.int b) hh = .ok (.int (a % b)) hh := by
  show (if 0 < b then _ else _) = _
  rw [if_pos h]
theorem div_ok {a b : Int} {hh : IH} (h : divOk b) : fdivI (.int a) (.int b) hh = .ok (.int (a / b)) hh := by
  show (if divOk b then _ else _) = _
  rw [if_pos h]
theorem div_big {t : Int} (ht : 0 < t) (ht2 : t < 2 ^ 64) : divOk t := ⟨ht, by
  have h3 : t.natAbs < 2 ^ 64 := by omega
  have := (Nat.log2_lt (n := t.natAbs) (k := 64) (by omega)).mpr h3
  omega⟩
theorem comp_one {g : TM} {f : IE → M IV} {σ0 σ1 : IE} {x v : IV} {xs vs : List IV} {h h1 h2 h3 : IH} (e1 : g x σ0 h = some (σ1, h1)) (e2 : f σ1 h1 = .ok v h2) (e3 : compM g yesT f σ0 xs h2 = .ok vs h3) : compM g yesT f σ0 (x :: xs) h = .ok (v :: vs) h3 := by
  unfold compM yesT
  rw [e1]
  show (match f σ1 h1 with
    | .ok v h3 => (compM g yesT f σ0 xs h3).bind fun vs h => .ok (v :: vs) h
    | _ => .no) = _
  rw [e2]
  show (compM g yesT f σ0 xs h2).bind _ = _
  rw [e3]; rfl
theorem lc_ok {fi : IE → M (List IV)} {g : TM} {t : IE → M Bool} {f : IE → M IV} {ws : List Nat} {σ : IE} {h h1 h2 : IH} {xs vs : List IV} (e1 : fi σ h = .ok xs h1) (hl : xs.length ≤ 16777216) (e2 : compM g t f (wipeI σ ws) xs h1 = .ok vs h2) : lcI fi g t f ws σ h = .ok (.lst vs) h2 := by
  unfold lcI
  rw [e1]
  show (if xs.length ≤ 16777216 then _ else _) = _
  rw [if_pos hl, e2]; rfl
theorem seq_nx {f g : SM} {σ σ' : IE} {h h' : IH} (e : f σ h = .nx σ' h') : seqS f g σ h = g σ' h' := by unfold seqS; rw [e]
theorem seq_rt {f g : SM} {σ : IE} {v : IV} {h h' : IH} (e : f σ h = .rt v h') : seqS f g σ h = .rt v h' := by unfold seqS; rw [e]
theorem asg_nm {fa : IE → M IV} {i : Nat} {σ : IE} {v : IV} {h h' : IH} (e : fa σ h = .ok v h') : asgS fa (gNm i) σ h = .nx (σ.set i (some v)) h' := by unfold asgS; rw [e]; rfl
theorem ret_ok {fa : IE → M IV} {σ : IE} {v : IV} {h h' : IH} (e : fa σ h = .ok v h') : retS fa σ h = .rt v h' := by unfold retS; rw [e]; rfl
theorem def_rt {k : Nat} {f : SM} {vs : List IV} {v : IV} {h h' : IH} (e : f (startI k vs) h = .rt v h') : defM k f vs h = .ok v h' := by unfold defM; rw [e]
theorem tuple_of {fa : IE → M IV} {σ : IE} {vs : List IV} {h h' : IH} (e : fa σ h = .ok (.lst vs) h') : bltE tupleI (consA fa nilA) σ h = .ok (.tup vs) h' := by unfold bltE consA; rw [e]; rfl
theorem map_inj {α β : Type} {f : α → β} (hf : ∀ x y, f x = f y → x = y) : ∀ {xs ys : List α}, xs.map f = ys.map f → xs = ys
  | [], [], _ => rfl
  | [], _ :: _, e => by cases e
  | _ :: _, [], e => by cases e
  | x :: xs, y :: ys, e => by
    rw [List.map_cons, List.map_cons] at e
    injection e with e1 e2
    rw [hf x y e1, map_inj hf e2]
def cl : Nat → IV → Bool
  | _, .non => true
  | _, .int _ => true
  | _, .str x => PyData.strOk x
  | n + 1, .tup xs => xs.all (cl n)
  | n + 1, .lst xs => xs.all (cl n)
  | _, _ => false
theorem mapO_cl {n : Nat} {h : IH} (ih : ∀ {x}, cl n x = true → ∃ d, dat h n x = some d) : ∀ {xs : List IV}, xs.all (cl n) = true → ∃ ds, mapO (dat h n) xs = some ds
  | [], _ => ⟨[], rfl⟩
  | x :: xs, c => by
    simp only [List.all_cons, Bool.and_eq_true] at c
    obtain ⟨d, e⟩ := ih c.1
    obtain ⟨ds, es⟩ := mapO_cl ih c.2
    exact ⟨d :: ds, by simp [mapO, e, es]⟩
theorem dat_cl {h : IH} : ∀ (n : Nat) {x : IV}, cl n x = true → ∃ d, dat h n x = some d
  | n, .non, _ => ⟨.none, by cases n <;> rfl⟩
  | n, .int i, _ => ⟨.int i, by cases n <;> rfl⟩
  | n, .str x, c => ⟨.str x, by
      have : PyData.strOk x = true := by cases n <;> exact c
      cases n <;> simp [dat, this]⟩
  | n + 1, .tup xs, c => by
    obtain ⟨ds, e⟩ := mapO_cl (h := h) (dat_cl n) (xs := xs) (by simpa only [cl] using c)
    exact ⟨.tuple ds, by simp only [dat, e]⟩
  | n + 1, .lst xs, c => by
    obtain ⟨ds, e⟩ := mapO_cl (h := h) (dat_cl n) (xs := xs) (by simpa only [cl] using c)
    exact ⟨.list ds, by simp only [dat, e]⟩
  | 0, .tup xs, c => by simp [cl] at c
  | 0, .lst xs, c => by simp [cl] at c
  | n, .bl _, c => by cases n <;> simp [cl] at c
  | n, .scr _, c => by cases n <;> simp [cl] at c
  | n, .dct _ _, c => by cases n <;> simp [cl] at c
  | n, .ref _, c => by cases n <;> simp [cl] at c
  | n, .ty _, c => by cases n <;> simp [cl] at c
  | n, .glo _, c => by cases n <;> simp [cl] at c
  | n, .exc _ _ _ _, c => by cases n <;> simp [cl] at c
  | n, .fn _ _ _ _ _ _, c => by cases n <;> simp [cl] at c
inductive Sh (h : IH) : Nat → IV → PyData → Prop
  | non {n} : Sh h n .non .none
  | int {n i} : Sh h n (.int i) (.int i)
  | str {n x} : Sh h n (.str x) (.str x)
  | tup {n xs ds} : xs.all (cl n) = true → mapO (dat h n) xs = some ds → Sh h (n + 1) (.tup xs) (.tuple ds)
  | lst {n xs ds} : xs.all (cl n) = true → mapO (dat h n) xs = some ds → Sh h (n + 1) (.lst xs) (.list ds)
theorem sh_cl {h : IH} {n : Nat} {x : IV} {d : PyData} (c : cl n x = true) (e : dat h n x = some d) : Sh h n x d := by
  cases x with
  | non => cases n <;> (simp only [dat] at e; cases e; exact .non)
  | int i => cases n <;> (simp only [dat] at e; cases e; exact .int)
  | str x =>
    have : PyData.strOk x = true := by cases n <;> exact c
    cases n <;> (simp only [dat, this, if_true] at e; cases e; exact .str)
  | tup xs =>
    cases n with
    | zero => simp [cl] at c
    | succ n =>
      simp only [cl] at c
      obtain ⟨ds, e2⟩ := mapO_cl (h := h) (dat_cl n) c
      simp only [dat, e2] at e
      cases e
      exact .tup c e2
  | lst xs =>
    cases n with
    | zero => simp [cl] at c
    | succ n =>
      simp only [cl] at c
      obtain ⟨ds, e2⟩ := mapO_cl (h := h) (dat_cl n) c
      simp only [dat, e2] at e
      cases e
      exact .lst c e2
  | _ => cases n <;> simp [cl] at c
theorem eqvs_cl {h : IH} {n m : Nat} (ih : ∀ {x y d e}, Sh h n x d → Sh h m y e → PyData.eqv d e = eqV x y) : ∀ {xs ys : List IV} {ds es : List PyData}, xs.all (cl n) = true → ys.all (cl m) = true → mapO (dat h n) xs = some ds → mapO (dat h m) ys = some es → PyData.eqvAll ds es = eqVs xs ys
  | [], [], _, _, _, _, e1, e2 => by simp only [mapO] at e1 e2; cases e1; cases e2; simp [PyData.eqvAll, eqVs]
  | [], y :: ys, _, _, _, _, e1, e2 => by
    obtain ⟨b, bs, _, _, rfl⟩ := mapO_cons e2
    simp only [mapO] at e1; cases e1; simp [PyData.eqvAll, eqVs]
  | x :: xs, [], _, _, _, _, e1, e2 => by
    obtain ⟨b, bs, _, _, rfl⟩ := mapO_cons e1
    simp only [mapO] at e2; cases e2; simp [PyData.eqvAll, eqVs]
  | x :: xs, y :: ys, _, _, c1, c2, e1, e2 => by
    obtain ⟨a, as, p1, p2, rfl⟩ := mapO_cons e1
    obtain ⟨b, bs, q1, q2, rfl⟩ := mapO_cons e2
    simp only [List.all_cons, Bool.and_eq_true] at c1 c2
    simp only [PyData.eqvAll, eqVs]
    rw [ih (sh_cl c1.1 p1) (sh_cl c2.1 q1), eqvs_cl ih c1.2 c2.2 p2 q2]
theorem strEq {x y : Str} : (x == y) = decide (x = y) := by
  rw [Bool.eq_iff_iff, decide_eq_true_iff]; exact beq_iff_eq
theorem eqv_sh {h : IH} : ∀ (n : Nat) {m : Nat} {x y : IV} {d e : PyData}, Sh h n x d → Sh h m y e → PyData.eqv d e = eqV x y := by
  intro n
  induction n with
  | zero =>
    intro m x y d e s t
    cases s <;> cases t <;> simp [PyData.eqv, eqV, strEq]
  | succ n ih =>
    intro m x y d e s t
    cases s with
    | non => cases t <;> simp [PyData.eqv, eqV]
    | int => cases t <;> simp [PyData.eqv, eqV]
    | str => cases t <;> simp [PyData.eqv, eqV, strEq]
    | tup c1 e1 =>
      cases t with
      | tup c2 e2 => simp only [PyData.eqv, eqV]; exact eqvs_cl ih c1 c2 e1 e2
      | _ => simp [PyData.eqv, eqV]
    | lst c1 e1 =>
      cases t with
      | lst c2 e2 => simp only [PyData.eqv, eqV]; exact eqvs_cl ih c1 c2 e1 e2
      | _ => simp [PyData.eqv, eqV]
theorem eqv_cl {h : IH} {n m : Nat} {x y : IV} {d e : PyData} (cx : cl n x = true) (cy : cl m y = true) (ex : dat h n x = some d) (ey : dat h m y = some e) : PyData.eqv d e = eqV x y := eqv_sh n (sh_cl cx ex) (sh_cl cy ey)
theorem dctO_cl {h : IH} {n : Nat} {x : IV} (c : cl n x = true) : dctO h x = none := by
  cases x <;> first | rfl | (cases n <;> simp [cl] at c)
theorem eqI_cl {h : IH} {x y : IV} (cx : cl DEEP x = true) (cy : cl DEEP y = true) : eqI x y h = .ok (.bl (eqV x y)) h := by
  obtain ⟨d, ed⟩ := dat_cl (h := h) _ cx
  obtain ⟨e, ee⟩ := dat_cl (h := h) _ cy
  unfold eqI eqD
  rw [ed, ee]
  show Out.ok (IV.bl (PyData.eqv d e)) h = _
  rw [eqv_cl cx cy ed ee]
theorem neI_cl {h : IH} {x y : IV} (cx : cl DEEP x = true) (cy : cl DEEP y = true) : neI x y h = .ok (.bl (!eqV x y)) h := by
  obtain ⟨d, ed⟩ := dat_cl (h := h) _ cx
  obtain ⟨e, ee⟩ := dat_cl (h := h) _ cy
  unfold neI eqD
  rw [ed, ee]
  show Out.ok (IV.bl (!PyData.eqv d e)) h = _
  rw [eqv_cl cx cy ed ee]
theorem eqDI_cl {h : IH} {x y : IV} (cx : cl DEEP x = true) (cy : cl DEEP y = true) : eqDI x y h = .ok (.bl (eqV x y)) h := by
  unfold eqDI
  rw [dctO_cl cx]
  exact eqI_cl cx cy
theorem neDI_cl {h : IH} {x y : IV} (cx : cl DEEP x = true) (cy : cl DEEP y = true) : neDI x y h = .ok (.bl (!eqV x y)) h := by
  unfold neDI
  rw [dctO_cl cx]
  exact neI_cl cx cy
theorem any_cl {h : IH} {n m : Nat} {x : IV} {d : PyData} (cx : cl m x = true) (ex : dat h m x = some d) : ∀ {ys : List IV} {ds : List PyData}, ys.all (cl n) = true → mapO (dat h n) ys = some ds → (ds.any fun z => PyData.eqv z d) = ys.any fun y => eqV y x
  | [], _, _, e => by simp only [mapO] at e; cases e; rfl
  | y :: ys, _, c, e => by
    obtain ⟨a, as, p1, p2, rfl⟩ := mapO_cons e
    simp only [List.all_cons, Bool.and_eq_true] at c
    simp only [List.any_cons]
    rw [eqv_cl c.1 cx p1 ex, any_cl cx ex c.2 p2]
theorem inB_cl {h : IH} {x : IV} {ys : List IV} (cx : cl DEEP x = true) (cy : ys.all (cl 11) = true) : inB h x (.tup ys) = some (ys.any fun y => eqV y x) ∧ inB h x (.lst ys) = some (ys.any fun y => eqV y x) := by
  obtain ⟨d, ed⟩ := dat_cl (h := h) _ cx
  obtain ⟨ds, ee⟩ := mapO_cl (h := h) (dat_cl 11) cy
  have e1 : dat h DEEP (.tup ys) = some (.tuple ds) := by show (match mapO (dat h 11) ys with | some ys => some (PyData.tuple ys) | none => none) = _; rw [ee]
  have e2 : dat h DEEP (.lst ys) = some (.list ds) := by show (match mapO (dat h 11) ys with | some ys => some (PyData.list ys) | none => none) = _; rw [ee]
  constructor
  · cases x <;> (unfold inB; simp only [ed, e1, any_cl cx ed cy ee])
  · cases x <;> (unfold inB; simp only [ed, e2, any_cl cx ed cy ee])
theorem eqV_iff {x y : IV} : eqV x y = true ↔ x = y := ⟨eqV_ok, fun e => e ▸ eqV_rf x⟩
theorem eqV_dec {x y : IV} {p : Prop} [Decidable p] (e : x = y ↔ p) : eqV x y = decide p := by
  rw [Bool.eq_iff_iff, eqV_iff, decide_eq_true_iff]; exact e
theorem cl_int {n : Nat} {i : Int} : cl n (.int i) = true := by cases n <;> rfl
theorem eq_int {a b : Int} {h : IH} : eqDI (.int a) (.int b) h = .ok (.bl (decide (a = b))) h := by
  rw [eqDI_cl cl_int cl_int, eqV_dec (p := a = b) (by simp)]
theorem ne_int {a b : Int} {h : IH} : neDI (.int a) (.int b) h = .ok (.bl (!decide (a = b))) h := by
  rw [neDI_cl cl_int cl_int, eqV_dec (p := a = b) (by simp)]
theorem comp_typ {α : Type} {h : IH} {g : TM} {t : IE → M Bool} {f : IE → M IV} {σ0 : IE} (V : α → IV) (T : α → Bool) (F : α → IV) : ∀ (ys : List α), (∀ y ∈ ys, ∃ σ1, g (V y) σ0 h = some (σ1, h) ∧ t σ1 h = .ok (T y) h ∧ (T y = true → f σ1 h = .ok (F y) h)) → compM g t f σ0 (ys.map V) h = .ok ((ys.filter T).map F) h
  | [], _ => rfl
  | y :: ys, H => by
    obtain ⟨σ1, e1, e2, e3⟩ := H y List.mem_cons_self
    have ih := comp_typ V T F ys fun z hz => H z (List.mem_cons_of_mem _ hz)
    rw [List.map_cons]
    unfold compM
    simp only [e1, e2]
    cases hT : T y with
    | true =>
      simp only [e3 hT, ih]
      simp [Out.bind, hT]
    | false =>
      simp only [ih]
      simp [hT]
theorem lc_typ {α : Type} {σ : IE} {h : IH} {fi : IE → M (List IV)} {g : TM} {t : IE → M Bool} {f : IE → M IV} {ws : List Nat} (V : α → IV) (T : α → Bool) (F : α → IV) (ys : List α) (e : fi σ h = .ok (ys.map V) h) (hl : ys.length ≤ 16777216)
    (H : ∀ y ∈ ys, ∃ σ1, g (V y) (wipeI σ ws) h = some (σ1, h) ∧ t σ1 h = .ok (T y) h ∧ (T y = true → f σ1 h = .ok (F y) h)) : lcI fi g t f ws σ h = .ok (.lst ((ys.filter T).map F)) h :=
  lc_ok e (by simpa using hl) (comp_typ V T F ys H)
theorem filter_yes {α : Type} (ys : List α) : ys.filter (fun _ => true) = ys := List.filter_eq_self.mpr fun _ _ => rfl
theorem lc_all {α : Type} {σ : IE} {h : IH} {fi : IE → M (List IV)} {g : TM} {f : IE → M IV} {ws : List Nat} (V : α → IV) (F : α → IV) (ys : List α) (e : fi σ h = .ok (ys.map V) h) (hl : ys.length ≤ 16777216)
    (H : ∀ y ∈ ys, ∃ σ1, g (V y) (wipeI σ ws) h = some (σ1, h) ∧ f σ1 h = .ok (F y) h) : lcI fi g yesT f ws σ h = .ok (.lst (ys.map F)) h := by
  have q := lc_typ (t := yesT) (f := f) (g := g) (ws := ws) V (fun _ => true) F ys e hl fun y hy => by
    obtain ⟨σ1, e1, e2⟩ := H y hy
    exact ⟨σ1, e1, rfl, fun _ => e2⟩
  rw [filter_yes] at q
  exact q
theorem for_inv {α : Type} {g : TM} {f : SM} (V : α → IV) (I : List α → IE → IH → Prop) (step : ∀ y ys σ h, I (y :: ys) σ h → ∃ σ1 h1 σ2 h2, g (V y) σ h = some (σ1, h1) ∧ f σ1 h1 = .nx σ2 h2 ∧ I ys σ2 h2) : ∀ (ys : List α) (σ : IE) (h : IH), I ys σ h → ∃ σ' h', forL g f (ys.map V) σ h = .nx σ' h' ∧ I [] σ' h'
  | [], σ, h, i => ⟨σ, h, rfl, i⟩
  | y :: ys, σ, h, i => by
    obtain ⟨σ1, h1, σ2, h2, e1, e2, i2⟩ := step y ys σ h i
    obtain ⟨σ3, h3, e3, i3⟩ := for_inv V I step ys σ2 h2 i2
    refine ⟨σ3, h3, ?_, i3⟩
    rw [List.map_cons]
    unfold forL
    simp only [e1, e2, e3]
theorem for_nx {fi : IE → M (List IV)} {g : TM} {f : SM} {σ σ' : IE} {h h1 h' : IH} {xs : List IV} (e : fi σ h = .ok xs h1) (e2 : forL g f xs σ h1 = .nx σ' h') : forS fi g f σ h = .nx σ' h' := by
  unfold forS
  rw [e]; exact e2
theorem call_ok {np : Nat} {c : CM} {fs : IE → M (List IV)} {vs : List IV} {σ : IE} {h h' : IH} {o : Out IV} (e : fs σ h = .ok vs h') (hl : vs.length = np) (q : c vs h' = o) : callE none np c fs σ h = o := by
  unfold callE
  rw [e]
  show (if vs.length = np then _ else _) = _
  rw [if_pos hl]; exact q
theorem arg_ok {fa : IE → M IV} {fs : IE → M (List IV)} {σ : IE} {h h1 h2 : IH} {v : IV} {vs : List IV} (e1 : fa σ h = .ok v h1) (e2 : fs σ h1 = .ok vs h2) : consA fa fs σ h = .ok (v :: vs) h2 := by
  unfold consA
  rw [e1]
  show (fs σ h1).bind _ = _
  rw [e2]; rfl
theorem bin_ok {g : G2} {fa fb : IE → M IV} {σ : IE} {h h1 h2 : IH} {v u : IV} {o : Out IV} (e1 : fa σ h = .ok v h1) (e2 : fb σ h1 = .ok u h2) (e3 : g v u h2 = o) : binE g fa fb σ h = o := by
  unfold binE
  rw [e1]
  show (fb σ h1).bind _ = _
  rw [e2]; exact e3
theorem cmp_ok {g : G2} {fa fb : IE → M IV} {σ : IE} {h h1 h2 h3 : IH} {v u : IV} {b : Bool} (e1 : fa σ h = .ok v h1) (e2 : fb σ h1 = .ok u h2) (e3 : g v u h2 = .ok (.bl b) h3) : cmpT g fa fb σ h = .ok b h3 := by
  unfold cmpT
  rw [bin_ok e1 e2 e3]; rfl
theorem tru_bl {fa : IE → M IV} {σ : IE} {h h1 : IH} {b : Bool} (e : fa σ h = .ok (.bl b) h1) : truT fa σ h = .ok b h1 := by
  unfold truT
  rw [e]; rfl
theorem and_ok {ta tb : IE → M Bool} {σ : IE} {h h1 h2 : IH} {a b : Bool} (e1 : ta σ h = .ok a h1) (e2 : a = true → tb σ h1 = .ok b h2) (e3 : a = false → h2 = h1) : andT ta tb σ h = .ok (a && b) h2 := by
  unfold andT
  rw [e1]
  show (if a = true then _ else _) = _
  cases a with
  | true => rw [if_pos rfl, e2 rfl]; rfl
  | false => rw [if_neg (by simp), e3 rfl]; rfl
theorem or_ok {ta tb : IE → M Bool} {σ : IE} {h h1 h2 : IH} {a b : Bool} (e1 : ta σ h = .ok a h1) (e2 : a = false → tb σ h1 = .ok b h2) (e3 : a = true → h2 = h1) : orT ta tb σ h = .ok (a || b) h2 := by
  unfold orT
  rw [e1]
  show (if a = true then _ else _) = _
  cases a with
  | false => rw [if_neg (by simp), e2 rfl]; rfl
  | true => rw [if_pos rfl, e3 rfl]; rfl
theorem not_ok {ta : IE → M Bool} {σ : IE} {h h1 : IH} {a : Bool} (e1 : ta σ h = .ok a h1) : notT ta σ h = .ok (!a) h1 := by
  unfold notT
  rw [e1]; rfl
theorem if_ok {t : IE → M Bool} {f g : SM} {σ : IE} {h h1 : IH} {b : Bool} {o : SOut} (e : t σ h = .ok b h1) (q : (if b = true then f σ h1 else g σ h1) = o) : ifS t f g σ h = o := by
  unfold ifS
  rw [e]; exact q
theorem expr_ok {fa : IE → M IV} {σ : IE} {h h1 : IH} {v : IV} (e : fa σ h = .ok v h1) : exprS fa σ h = .nx σ h1 := by
  unfold exprS
  rw [e]; rfl
theorem ite_ok {t : IE → M Bool} {fa fb : IE → M IV} {σ : IE} {h h1 : IH} {b : Bool} {o : Out IV} (e : t σ h = .ok b h1) (q : (if b = true then fa σ h1 else fb σ h1) = o) : iteE t fa fb σ h = o := by
  unfold iteE
  rw [e]; exact q
theorem and_e {fa fb : IE → M IV} {σ : IE} {h h1 : IH} {a b : Bool} (e1 : fa σ h = .ok (.bl a) h1) (e2 : a = true → fb σ h1 = .ok (.bl b) h1) : andE fa fb σ h = .ok (.bl (a && b)) h1 := by
  unfold andE
  rw [e1]
  cases a with
  | true => exact e2 rfl
  | false => rfl
theorem blt_ok {r : RM} {fs : IE → M (List IV)} {σ : IE} {h h1 : IH} {vs : List IV} {o : Out IV} (e : fs σ h = .ok vs h1) (q : r vs h1 = o) : bltE r fs σ h = o := by
  unfold bltE
  rw [e]; exact q
theorem mth_ok {T : String} {r : RMt} {fo : IE → M IV} {fs : IE → M (List IV)} {σ : IE} {h h1 h2 : IH} {o : IV} {xs : List IV} {z : Out IV} (e1 : fo σ h = .ok o h1) (ty : tyName h1 o = some T) (e2 : fs σ h1 = .ok xs h2) (e3 : r o xs h2 = z) : mthE T r fo fs σ h = z := by
  unfold mthE
  rw [e1]
  show (if tyName h1 o = some T then _ else _) = _
  rw [if_pos ty, e2]; exact e3
theorem sub_tup {xs : List IV} {k : Nat} {v : IV} {h : IH} (e : xs[k]? = some v) : subD (.tup xs) (.int k) h = .ok v h := by
  have hk : k < xs.length := (List.getElem?_eq_some_iff.mp e).1
  have : atI xs (k : Int) = some v := by
    unfold atI ixN
    rw [if_pos (by omega), if_pos (by omega)]
    simpa using e
  show (match atI xs (k : Int) with | some v => Out.ok v h | none => .no) = _
  rw [this]
theorem get_last {h : IH} {o : IO} : (h ++ [o])[h.length]? = some o := by simp
theorem set_last {h : IH} {o o' : IO} : (h ++ [o]).set h.length o' = h ++ [o'] := by simp
theorem pure_ints : ∀ (ns : List Int), pureVs (ns.map IV.int) = true
  | [] => rfl
  | n :: ns => by simp [pureVs, pureV, pure_ints ns]
theorem pure_all {xs : List IV} (k : ∀ x ∈ xs, pureV x = true) : pureVs xs = true := by
  induction xs with
  | nil => rfl
  | cons x xs ih =>
    simp only [pureVs, k x List.mem_cons_self, Bool.true_and]
    exact ih fun y hy => k y (List.mem_cons_of_mem _ hy)
theorem settle_pure {fz : Bool} {v : IV} {h t : IH} (ph : pureH h = true) (pv : pureV v = true) : EV.settle fz h.length (.ok v (h ++ t)) = .ok v h := by
  show (if pureH (List.take h.length (h ++ t)) = true then (if pureV v = true then Out.ok v (List.take h.length (h ++ t)) else _) else _) = _
  rw [List.take_left, if_pos ph, if_pos pv]
theorem settle_ref {h t : IH} {o : IO} {r : Nat} (ph : pureH h = true) (e : (h ++ t)[r]? = some o) (hr : h.length ≤ r) (po : pureO o = true) : EV.settle true h.length (.ok (.ref r) (h ++ t)) = .ok o.val h := by
  show (if pureH (List.take h.length (h ++ t)) = true then (match (h ++ t)[r]? with
    | some o => if h.length ≤ r ∧ pureO o = true then (if true = true then Out.ok o.val (List.take h.length (h ++ t)) else _) else _
    | none => _) else _) = _
  rw [List.take_left, if_pos ph, e]
  show (if h.length ≤ r ∧ pureO o = true then _ else _) = _
  rw [if_pos ⟨hr, po⟩, if_pos rfl]
theorem callz_ok {np : Nat} {c : CM} {fs : IE → M (List IV)} {vs : List IV} {σ : IE} {h h' : IH} {o : Out IV} {z : Bool} (e : fs σ h = .ok vs h') (hl : vs.length = np) (q : EV.settle z h'.length (c vs h') = o) : callE (some z) np c fs σ h = o := by
  unfold callE
  rw [e]
  show (if vs.length = np then _ else _) = _
  rw [if_pos hl]; exact q
theorem mapO_bl {α : Type} (f : α → Bool) : ∀ (ys : List α), mapO blO (ys.map fun y => IV.bl (f y)) = some (ys.map f)
  | [] => rfl
  | y :: ys => by simp [mapO, blO, mapO_bl f ys]
theorem all_ok {α : Type} {f : α → Bool} {ys : List α} {h : IH} : allI [.lst (ys.map fun y => IV.bl (f y))] h = .ok (.bl (ys.all f)) h := by
  unfold allI
  simp only [lsR, lsO, mapO_bl]
  congr 2
  rw [List.all_map]; rfl
theorem tup_ok {fs : IE → M (List IV)} {σ : IE} {h h1 : IH} {xs : List IV} (e : fs σ h = .ok xs h1) (hl : xs.length ≤ 1000) : tupE fs σ h = .ok (.tup xs) h1 := by
  unfold tupE
  rw [e]
  show (if xs.length ≤ sizeLine then _ else _) = _
  rw [if_pos (by rw [sizeLine_eq]; omega)]
theorem lst_ok {fs : IE → M (List IV)} {σ : IE} {h h1 : IH} {xs : List IV} (e : fs σ h = .ok xs h1) (hl : xs.length ≤ 1000) : lstE (capA fs) σ h = .ok (.lst xs) h1 := by
  unfold lstE capA
  rw [e]
  show (if xs.length ≤ sizeLine then Out.ok xs h1 else _).bind _ = _
  rw [if_pos (by rw [sizeLine_eq]; omega)]; rfl
theorem ref_ok {fs : IE → M (List IV)} {σ : IE} {h h1 : IH} {xs : List IV} (e : fs σ h = .ok xs h1) (hl : xs.length ≤ 1000) : refE (capA fs) σ h = .ok (.ref h1.length) (h1 ++ [.lst xs]) := by
  unfold refE capA
  rw [e]
  show (if xs.length ≤ sizeLine then Out.ok xs h1 else _).bind _ = _
  rw [if_pos (by rw [sizeLine_eq]; omega)]; rfl
theorem ret_ok' {fa : IE → M IV} {σ : IE} {v : IV} {h h' : IH} (e : fa σ h = .ok v h') : seqS (retS fa) nextS σ h = .rt v h' := seq_rt (ret_ok e)
theorem forL_nx {g : TM} {f : SM} {x : IV} {rest : List IV} {σ σ1 σ2 : IE} {h h1 h2 : IH} (e1 : g x σ h = some (σ1, h1)) (e2 : f σ1 h1 = .nx σ2 h2) : forL g f (x :: rest) σ h = forL g f rest σ2 h2 := by
  rw [forL]
  simp only [e1, e2]
def Drw {α : Type} (m : Out α) (n : Nat) (tl : IH) (Q : α → Prop) : Prop := ∃ v h1, m = .ok v (h1 ++ tl) ∧ Hok h1 ∧ h1.length = n ∧ Q v
theorem Hok.pure {h : IH} (k : Hok h) : pureH h = true := by
  unfold pureH
  rw [List.all_eq_true]; intro o ho
  obtain ⟨a, b, c, rfl⟩ := k o ho
  exact pure_ints [a, b, c]
theorem par_ok {i j : Nat} {fs : IE → M (List IV)} {σ : IE} {h h1 : IH} {v w : IV} (e : fs σ h = .ok [v, w] h1) : parS i j fs σ h = .nx ((σ.set i (some v)).set j (some w)) h1 := by
  unfold parS
  rw [e]; rfl
theorem app_ok {fa : IE → M IV} {σ : IE} {h h1 : IH} {n i : Nat} {xs : List IV} {v : IV} (ei : σ[i]? = some (some (.ref n))) (hn : h.length = n) (e : fa σ (h ++ [.lst xs]) = .ok v (h1 ++ [.lst xs])) (hn1 : h1.length = n) (hl : xs.length ≤ 1000) : exprS (mthE "list" appM (varE i) (consA fa nilA)) σ (h ++ [.lst xs]) = .nx σ (h1 ++ [.lst (xs ++ [v])]) := by
  subst hn
  have g1 : (h1 ++ [EV.IO.lst xs])[h.length]? = some (.lst xs) := by rw [← hn1]; exact get_last
  have s1 : (h1 ++ [EV.IO.lst xs]).set h.length (.lst (xs ++ [v])) = h1 ++ [.lst (xs ++ [v])] := by rw [← hn1]; exact set_last
  have vi : ∀ H, varE i σ H = .ok (.ref h.length) H := fun H => by unfold varE; rw [ei]
  refine expr_ok (v := .non) (mth_ok (o := .ref h.length) (vi _) (by simp only [tyName, get_last]) (arg_ok e rfl) ?_)
  unfold appM
  simp only [g1]
  rw [if_pos (by omega), s1]
theorem addLL {h : IH} {xs ys : List IV} (hl : xs.length + ys.length ≤ 1000) : addI (.lst xs) (.lst ys) h = .ok (.lst (xs ++ ys)) h := by
  show (if xs.length + ys.length ≤ sizeLine then Out.ok (IV.lst (xs ++ ys)) h else .no) = _
  rw [if_pos (by rw [sizeLine_eq]; omega)]
theorem settle_at {fz : Bool} {v : IV} {h t : IH} {n : Nat} (hn : h.length = n) (ph : pureH h = true) (pv : pureV v = true) : EV.settle fz n (.ok v (h ++ t)) = .ok v h := by
  subst hn; exact settle_pure ph pv
theorem settle_new {h : IH} {o : EV.IO} (ph : pureH h = true) (po : pureO o = true) : EV.settle false h.length (.ok (.ref h.length) (h ++ [o])) = .ok (.ref h.length) (h ++ [o]) := by
  have g : (h ++ [o])[h.length]? = some o := by simp
  show (if pureH (List.take h.length (h ++ [o])) = true then (match (h ++ [o])[h.length]? with
    | some o' => if h.length ≤ h.length ∧ pureO o' = true then (if false = true then Out.ok o'.val (List.take h.length (h ++ [o])) else Out.ok (IV.ref h.length) (List.take h.length (h ++ [o]) ++ [o'])) else _
    | none => _) else _) = _
  rw [List.take_left, if_pos ph, g]
  show (if h.length ≤ h.length ∧ pureO o = true then _ else _) = _
  rw [if_pos ⟨Nat.le_refl _, po⟩, if_neg (by simp)]
end K17
namespace K17
open PySem PySem.Spec PyProof.Rows EV
open L2 hiding eqV keyOf
theorem le_ints {a b : Int} {h : IH} : ordE .LtE (.int a) (.int b) h = .ok (.bl (decide (a ≤ b))) h := rfl
theorem lt_ints {a b : Int} {h : IH} : ordE .Lt (.int a) (.int b) h = .ok (.bl (decide (a < b))) h := rfl
theorem gt_ints {a b : Int} {h : IH} : ordE .Gt (.int a) (.int b) h = .ok (.bl (decide (b < a))) h := rfl
theorem add_int {a b : Int} {h : IH} : addI (.int a) (.int b) h = .ok (.int (a + b)) h := rfl
theorem sub_int {a b : Int} {h : IH} : subI (.int a) (.int b) h = .ok (.int (a - b)) h := rfl
theorem chn_ok {g g' : G2} {fa fb fc : IE → M IV} {σ : IE} {h : IH} {va vb vc : IV} {b b' : Bool} (ea : fa σ h = .ok va h) (eb : fb σ h = .ok vb h) (ec : fc σ h = .ok vc h) (e1 : g va vb h = .ok (.bl b) h) (e2 : g' vb vc h = .ok (.bl b') h) : chnT g g' fa fb fc σ h = .ok (b && b') h := by
  unfold chnT chnE
  cases b
  · simp [ea, eb, ec, e1, Out.bind, truB, boolM]
  · simp [ea, eb, ec, e1, e2, Out.bind, truB, boolM]
theorem chnE_ok {g g' : G2} {fa fb fc : IE → M IV} {σ : IE} {h : IH} {va vb vc : IV} {b b' : Bool} (ea : fa σ h = .ok va h) (eb : fb σ h = .ok vb h) (ec : fc σ h = .ok vc h) (e1 : g va vb h = .ok (.bl b) h) (e2 : g' vb vc h = .ok (.bl b') h) : chnE g g' fa fb fc σ h = .ok (.bl (b && b')) h := by
  unfold chnE
  cases b
  · simp [ea, eb, ec, e1, Out.bind, truB, boolM]
  · simp [ea, eb, ec, e1, e2, Out.bind, truB, boolM]
theorem var_ok {i : Nat} {σ : IE} {v : IV} {h : IH} (e : σ[i]? = some (some v)) : varE i σ h = .ok v h := by unfold varE; rw [e]
/-- a value's slices -/
theorem cut_take {α : Type} (xs : List α) (k : Nat) : cutL xs none (some (k : Int)) = xs.take k := by
  unfold cutL
  rw [HT.sIx_nat, HT.sIx_none]
  simp only [List.drop_zero, Nat.sub_zero]
  rw [List.take_eq_take_iff]; omega
theorem cut_drop {α : Type} (xs : List α) (j : Nat) : cutL xs (some (j : Int)) none = xs.drop j := by
  unfold cutL
  rw [HT.sIx_nat]
  simp only [HT.sIx]
  rcases Nat.lt_or_ge xs.length j with c | c
  · rw [List.drop_eq_nil_of_le (by omega), List.drop_eq_nil_of_le (by omega), List.take_nil]
  · rw [show min j xs.length = j by omega, List.take_of_length_le (by rw [List.length_drop]; omega)]
theorem sli_to {xs : List IV} {k : Nat} {fa fu : IE → M IV} {σ : IE} {h : IH} (e1 : fa σ h = .ok (.tup xs) h) (e2 : fu σ h = .ok (.int k) h) : sliE fa noneO (someO fu) σ h = .ok (.tup (xs.take k)) h := by
  have e3 : someO fu σ h = .ok (some (k : Int)) h := by unfold someO; rw [e2]; rfl
  unfold sliE
  rw [e1]
  show ((someO fu σ h).bind fun hi h => cutE none hi (.tup xs) h) = _
  rw [e3]
  show Out.ok (IV.tup (cutL xs none (some (k : Int)))) h = _
  rw [cut_take]
theorem sli_from {xs : List IV} {j : Nat} {fa fl : IE → M IV} {σ : IE} {h : IH} (e1 : fa σ h = .ok (.tup xs) h) (e2 : fl σ h = .ok (.int j) h) : sliE fa (someO fl) noneO σ h = .ok (.tup (xs.drop j)) h := by
  have e3 : someO fl σ h = .ok (some (j : Int)) h := by unfold someO; rw [e2]; rfl
  unfold sliE
  rw [e1]
  show ((someO fl σ h).bind fun lo h => (noneO σ h).bind fun hi h => cutE lo hi (.tup xs) h) = _
  rw [e3]
  show Out.ok (IV.tup (cutL xs (some (j : Int)) none)) h = _
  rw [cut_drop]
theorem any_tup {fa : IE → M IV} {xs : List IV} {σ : IE} {h h1 : IH} (e : fa σ h = .ok (.tup xs) h1) : anyIt fa σ h = .ok xs h1 := by unfold anyIt; rw [e]; rfl
theorem any_lst {fa : IE → M IV} {xs : List IV} {σ : IE} {h h1 : IH} (e : fa σ h = .ok (.lst xs) h1) : anyIt fa σ h = .ok xs h1 := by unfold anyIt; rw [e]; rfl

abbrev iL (ns : List Int) : List IV := ns.map .int
abbrev tI (ns : List Int) : IV := .tup (iL ns)
theorem add_tup {xs ys : List IV} {h : IH} (hl : xs.length + ys.length ≤ 1000) : addI (.tup xs) (.tup ys) h = .ok (.tup (xs ++ ys)) h := by
  show (if xs.length + ys.length ≤ sizeLine then Out.ok (IV.tup (xs ++ ys)) h else .no) = _
  rw [if_pos (by rw [sizeLine_eq]; omega)]
theorem len_tup {xs : List IV} {i : Nat} {σ : IE} {h : IH} (e : σ[i]? = some (some (.tup xs))) : bltE lenI (consA (varE i) nilA) σ h = .ok (.int (xs.length : Int)) h := by
  unfold bltE consA varE nilA
  rw [e]
  rfl
theorem ge_ints {a b : Int} {h : IH} : ordE .GtE (.int a) (.int b) h = .ok (.bl (decide (b ≤ a))) h := rfl
theorem sub_at {L : List IV} {j : Nat} {v : IV} {i k : Nat} {σ : IE} {h : IH} (ei : σ[i]? = some (some (.tup L))) (ek : σ[k]? = some (some (.int (j : Int)))) (e : L[j]? = some v) : binE subD (varE i) (varE k) σ h = .ok v h :=
  bin_ok (var_ok ei) (var_ok ek) (sub_tup e)
theorem last_of {xs : List IV} {x : IV} {n : Nat} {σ : IE} {i : Nat} {h : IH} (ei : σ[i]? = some (some (.ref n))) (e : h[n]? = some (.lst (xs ++ [x]))) : binE subD (varE i) (negE (cstE (.int 1))) σ h = .ok x h := by
  have d : dctO h (.ref n) = none := by show (match h[n]? with | some (.dct ks us) => some (ks, us) | _ => none) = none; rw [e]
  have l : EV.lsR h (.ref n) = some (xs ++ [x]) := by simp only [EV.lsR, EV.lsO, e]
  refine bin_ok (var_ok ei) (u := .int (-1)) (h2 := h) rfl ?_
  have a : atI (xs ++ [x]) (-1) = some x := by
    unfold atI ixN
    simp
    rw [if_pos (by omega)]
    show (xs ++ [x])[(-1 + ((xs.length : Int) + 1)).toNat]? = some x
    rw [show (-1 + ((xs.length : Int) + 1)).toNat = xs.length by omega]
    simp
  unfold subD
  rw [d]
  show (match EV.lsR h (.ref n) with
    | some xs => (match atI xs (-1) with
      | some v => Out.ok v h
      | none => .no)
    | none => .no) = _
  rw [l]
  show (match atI (xs ++ [x]) (-1) with
      | some v => Out.ok v h
      | none => .no) = _
  rw [a]
end K17
namespace K17
open PySem PySem.Spec PyProof.Rows EV
open L2 hiding eqV keyOf
/-- the order of tuples -/
def ltB : List Int → List Int → Bool
  | [], [] => false
  | [], _ :: _ => true
  | _ :: _, [] => false
  | x :: xs, y :: ys => if x = y then ltB xs ys else decide (x < y)
def leL (a b : List Int) : Bool := !ltB b a
theorem ltB_irr : ∀ a, ltB a a = false
  | [] => rfl
  | x :: xs => by rw [ltB, if_pos rfl, ltB_irr xs]
theorem ltB_tr : ∀ {a b c : List Int}, ltB a b = true → ltB b c = true → ltB a c = true
  | [], [], _, h, _ => by cases h
  | [], _ :: _, [], _, h => by cases h
  | [], _ :: _, _ :: _, _, _ => rfl
  | _ :: _, [], _, h, _ => by cases h
  | _ :: _, _ :: _, [], _, h => by cases h
  | x :: xs, y :: ys, z :: zs, h, k => by
    rw [ltB] at h k ⊢
    split at h
    · rename_i e
      subst e
      split at k
      · rename_i e
        subst e
        rw [if_pos rfl]
        exact ltB_tr h k
      · rw [if_neg ‹_›]; exact k
    · split at k
      · rename_i e
        subst e
        rw [if_neg ‹_›]; exact h
      · have h1 := of_decide_eq_true h
        have k1 := of_decide_eq_true k
        rw [if_neg (by omega)]
        exact decide_eq_true (by omega)
theorem ltB_tot : ∀ {a b : List Int}, ltB a b = false → ltB b a = false → a = b
  | [], [], _, _ => rfl
  | [], _ :: _, h, _ => by cases h
  | _ :: _, [], _, h => by cases h
  | x :: xs, y :: ys, h, k => by
    rw [ltB] at h k
    by_cases e : x = y
    · subst e
      rw [if_pos rfl] at h k
      rw [ltB_tot h k]
    · rw [if_neg e] at h
      rw [if_neg (Ne.symm e)] at k
      have h1 := of_decide_eq_false h
      have k1 := of_decide_eq_false k
      omega
theorem ltB_as {a b : List Int} (h : ltB a b = true) : ltB b a = false := by
  cases k : ltB b a with
  | false => rfl
  | true => have := ltB_tr h k; rw [ltB_irr] at this; cases this
theorem leL_lt {a b : List Int} (h : leL a b = true) (n : a ≠ b) : ltB a b = true := by
  cases k : ltB a b with
  | true => rfl
  | false =>
    unfold leL at h
    rw [Bool.not_eq_true'] at h
    exact absurd (ltB_tot k h) n
theorem leL_tr {a b c : List Int} (h : leL a b = true) (k : leL b c = true) : leL a c = true := by
  unfold leL at *
  rw [Bool.not_eq_true'] at *
  cases e : ltB c a with
  | false => rfl
  | true =>
    by_cases q : a = b
    · subst q; rw [k] at e; cases e
    · have := ltB_tr e (leL_lt (by unfold leL; rw [h]; rfl) q)
      rw [k] at this; cases this
theorem leL_tot (a b : List Int) : (leL a b || leL b a) = true := by
  unfold leL
  cases e : ltB b a with
  | false => rfl
  | true => rw [ltB_as e]; rfl
abbrev dI (a : List Int) : PyData := .tuple (a.map .int)
theorem mapO_dat {h : IH} {n : Nat} : ∀ (ns : List Int), mapO (dat h n) (ns.map IV.int) = some (ns.map PyData.int)
  | [] => rfl
  | i :: ns => by
    have : dat h n (.int i) = some (.int i) := by cases n <;> rfl
    simp [mapO, this, mapO_dat ns]
theorem dat_tI {h : IH} {n : Nat} (a : List Int) : dat h (n + 1) (tI a) = some (dI a) := by
  show (match mapO (dat h n) (a.map IV.int) with | some ys => some (PyData.tuple ys) | none => none) = _
  rw [mapO_dat]
theorem eqv_int (a b : Int) : PyData.eqv (.int a) (.int b) = decide (a = b) := by
  simp [PyData.eqv]
  by_cases e : a = b <;> simp [e]
theorem cmp_lt : ∀ (a b : List Int), cmpDs .Lt (a.map PyData.int) (b.map PyData.int) = some (ltB a b)
  | [], [] => rfl
  | [], y :: ys => by
    show ordN .Lt 0 ((y :: ys).map PyData.int).length = _
    simp [ordN, ordI, ltB]
    try omega
  | x :: xs, [] => by
    show ordN .Lt ((xs.map PyData.int).length + 1) 0 = _
    simp [ordN, ordI, ltB]
    try omega
  | x :: xs, y :: ys => by
    rw [List.map_cons, List.map_cons, cmpDs, cmp_lt xs ys]
    simp only [eqv_int, ltB]
    by_cases e : x = y
    · simp [e]
    · simp [e, cmpD, ordI]
theorem cmp_le : ∀ (a b : List Int), cmpDs .LtE (a.map PyData.int) (b.map PyData.int) = some (!ltB b a)
  | [], [] => rfl
  | [], y :: ys => by
    show ordN .LtE 0 ((y :: ys).map PyData.int).length = _
    simp [ordN, ordI, ltB, leL]
    try omega
  | x :: xs, [] => by
    show ordN .LtE ((xs.map PyData.int).length + 1) 0 = _
    simp [ordN, ordI, ltB, leL]
    try omega
  | x :: xs, y :: ys => by
    rw [List.map_cons, List.map_cons, cmpDs, cmp_le xs ys]
    simp only [eqv_int, leL, ltB]
    by_cases e : x = y
    · simp [e]
    · simp [e, Ne.symm e, cmpD, ordI]
      by_cases q : x ≤ y
      · (simp [q]; try omega)
      · (simp [q]; try omega)
theorem cmp_ge : ∀ (a b : List Int), cmpDs .GtE (a.map PyData.int) (b.map PyData.int) = some (!ltB a b)
  | [], [] => rfl
  | [], y :: ys => by
    show ordN .GtE 0 ((y :: ys).map PyData.int).length = _
    simp [ordN, ordI, ltB, leL]
    try omega
  | x :: xs, [] => by
    show ordN .GtE ((xs.map PyData.int).length + 1) 0 = _
    simp [ordN, ordI, ltB, leL]
    try omega
  | x :: xs, y :: ys => by
    rw [List.map_cons, List.map_cons, cmpDs, cmp_ge xs ys]
    simp only [eqv_int, leL, ltB]
    by_cases e : x = y
    · simp [e]
    · simp [e, Ne.symm e, cmpD, ordI]
      by_cases q : y ≤ x
      · (simp [q]; try omega)
      · (simp [q]; try omega)
theorem lt_tI {a b : List Int} {h : IH} : ordE .Lt (tI a) (tI b) h = .ok (.bl (ltB a b)) h := by
  have c : cmpD .Lt (dI a) (dI b) = some (ltB a b) := cmp_lt a b
  unfold ordE
  simp only [dat_tI (n := 11), DEEP, c]
theorem le_tI {a b : List Int} {h : IH} : ordE .LtE (tI a) (tI b) h = .ok (.bl (!ltB b a)) h := by
  have c : cmpD .LtE (dI a) (dI b) = some (!ltB b a) := cmp_le a b
  unfold ordE
  simp only [dat_tI (n := 11), DEEP, c]
theorem ge_tI {a b : List Int} {h : IH} : ordE .GtE (tI a) (tI b) h = .ok (.bl (!ltB a b)) h := by
  have c : cmpD .GtE (dI a) (dI b) = some (!ltB a b) := cmp_ge a b
  unfold ordE
  simp only [dat_tI (n := 11), DEEP, c]
theorem toks_lt : ∀ (a b : List Int), PyProof.Rows.lexLt PyProof.Rows.itemOrd (PySem.W.keyToksAll (a.map PyData.int)) (PySem.W.keyToksAll (b.map PyData.int)) = ltB a b
  | [], [] => by simp [PySem.W.keyToksAll, PyProof.Rows.lexLt, PyProof.Rows.itemLt, ltB]
  | [], y :: ys => by simp [PySem.W.keyToksAll, PySem.W.keyToks, PyProof.Rows.lexLt, PyProof.Rows.itemLt, ltB]
  | x :: xs, [] => by simp [PySem.W.keyToksAll, PySem.W.keyToks, PyProof.Rows.lexLt, PyProof.Rows.itemLt, ltB]
  | x :: xs, y :: ys => by
    have ih := toks_lt xs ys
    simp [PySem.W.keyToksAll, PySem.W.keyToks, PyProof.Rows.lexLt, PyProof.Rows.itemLt, ltB, ih]
    by_cases e : x = y
    · simp [e]
    · rw [if_neg e]
      by_cases q : x < y
      · simp [q]
      · (simp [q]; try omega)
theorem leI_tI {h : IH} (a b : List Int) : leI h (tI a) (tI b) = leL a b := by
  have d : ∀ c, dkey h (tI c) = dI c := fun c => by unfold dkey; rw [dat_tI (n := 11)]; rfl
  show (!PyProof.Rows.lexLt PyProof.Rows.itemOrd (PySem.W.keyToks (dkey h (tI b))) (PySem.W.keyToks (dkey h (tI a)))) = _
  rw [d, d]
  simp only [PySem.W.keyToks, toks_lt, leL]
theorem alike_ints : ∀ (a b : List Int), PySem.W.alikeAll (a.map PyData.int) (b.map PyData.int) = true
  | [], b => by simp [PySem.W.alikeAll]
  | x :: xs, [] => by simp [PySem.W.alikeAll]
  | x :: xs, y :: ys => by simp [PySem.W.alikeAll, PySem.W.alike, alike_ints xs ys]
theorem sortOk_tI {ks : List (List Int)} {h : IH} (ne : ∀ k ∈ ks, k ≠ []) : sortOk h (ks.map tI) = true := by
  have m : mapO (dat h DEEP) (ks.map tI) = some (ks.map dI) := by
    clear ne
    induction ks with
    | nil => rfl
    | cons y ys ih => simp only [List.map_cons, mapO, DEEP, dat_tI]; rw [show mapO (dat h 12) (ys.map tI) = _ from ih]
  unfold sortOk
  rw [m]
  show ((((ks.map dI).all fun d => (ks.map dI).all fun e => PySem.W.alike d e) && ((ks.map dI).all isTupC || (ks.map dI).all notNT)) = true)
  rw [Bool.and_eq_true, Bool.or_eq_true]
  refine ⟨?_, .inl ?_⟩
  · rw [List.all_eq_true]
    intro d hd
    rw [List.all_eq_true]
    intro e he
    obtain ⟨a, ha, rfl⟩ := List.mem_map.mp hd
    obtain ⟨b, hb, rfl⟩ := List.mem_map.mp he
    simp [PySem.W.alike, alike_ints]
  · rw [List.all_eq_true]
    intro d hd
    obtain ⟨a, ha, rfl⟩ := List.mem_map.mp hd
    cases a with
    | nil => exact absurd rfl (ne _ ha)
    | cons x xs => rfl
def srtL (ks : List (List Int)) : List (List Int) := ks.mergeSort leL
theorem srtL_perm (ks : List (List Int)) : (srtL ks).Perm ks := List.mergeSort_perm _ _
theorem srtL_pw {ks : List (List Int)} (nd : ks.Nodup) : (srtL ks).Pairwise fun a b => ltB a b = true := by
  have p := List.pairwise_mergeSort (le := leL) (fun a b c => leL_tr) leL_tot ks
  have n : (srtL ks).Nodup := (srtL_perm ks).nodup_iff.mpr nd
  exact (List.Pairwise.and p n).imp fun ⟨h, k⟩ => leL_lt h k
theorem sortL_tI {ks : List (List Int)} {h : IH} : sortL h (ks.map tI) = (srtL ks).map tI := by
  rw [sortL_eq]
  exact (List.map_mergeSort (r := leL) (s := leI h) (f := tI) fun a _ b _ => (leI_tI a b).symm).symm
end K17
namespace K17
open PySem PySem.Spec PyProof.Rows EV
open L2 hiding eqV keyOf
/-- the cells that a number tells at an index, the index behind them -/
def partF (L : List Int) (j : Nat) (m : Int) : Option (List Int × Nat) := match L[j]? with
  | none => none
  | some c => if 1 ≤ c ∧ c ≤ m ∧ (j : Int) + c < (L.length : Int) then some ((L.drop (j + 1)).take c.toNat, j + 1 + c.toNat) else none
def partV : Option (List Int × Nat) → IV
  | none => .non
  | some p => .tup [tI p.1, .int (p.2 : Int)]
abbrev partT : IE → M Bool := orT (cmpT (ordE .GtE) (varE 1) (bltE lenI (consA (varE 0) nilA))) (orT (notT (chnT (ordE .LtE) (ordE .LtE) (cstE (.int 1)) (binE subD (varE 0) (varE 1)) (varE 2))) (cmpT (ordE .GtE) (binE addI (varE 1) (binE subD (varE 0) (varE 1))) (bltE lenI (consA (varE 0) nilA))))
theorem part_test {L : List Int} {j : Nat} {m : Int} {x : List (Option IV)} {h : IH} : partT (some (tI L) :: some (.int (j : Int)) :: some (.int m) :: x) h = .ok (partF L j m).isNone h := by
  have ln := len_tup (i := 0) (xs := L.map .int) (σ := some (tI L) :: some (.int (j : Int)) :: some (.int m) :: x) (h := h) rfl
  rw [List.length_map] at ln
  have c1 := cmp_ok (g := ordE .GtE) (fa := varE 1) (v := .int (j : Int)) (σ := some (tI L) :: some (.int (j : Int)) :: some (.int m) :: x) (h := h) rfl ln ge_ints
  unfold partF
  by_cases hj : j < L.length
  · rw [decide_eq_false (by omega)] at c1
    rw [List.getElem?_eq_getElem hj]
    have sb := sub_at (i := 0) (k := 1) (L := L.map .int) (j := j) (v := .int L[j]) (σ := some (tI L) :: some (.int (j : Int)) :: some (.int m) :: x) (h := h) rfl rfl (by rw [List.getElem?_map, List.getElem?_eq_getElem hj]; rfl)
    have c2 := not_ok (chn_ok (g := ordE .LtE) (g' := ordE .LtE) (fa := cstE (.int 1)) (fc := varE 2) (va := .int 1) (vc := .int m) rfl sb rfl le_ints le_ints)
    have c3 := cmp_ok (g := ordE .GtE) (bin_ok (fa := varE 1) (v := .int (j : Int)) rfl sb (add_int (h := h))) ln ge_ints
    have q := or_ok (a := false) c1 (fun _ => or_ok c2 (fun _ => c3) (fun _ => rfl)) (fun z => by cases z)
    refine q.trans ?_
    congr 1
    simp only [Bool.false_or]
    by_cases k : 1 ≤ L[j] ∧ L[j] ≤ m ∧ (j : Int) + L[j] < (L.length : Int)
    · rw [if_pos k, decide_eq_true k.1, decide_eq_true k.2.1, decide_eq_false (by omega)]
      rfl
    · rw [if_neg k]
      show _ = true
      by_cases k1 : 1 ≤ L[j]
      · by_cases k2 : L[j] ≤ m
        · rw [decide_eq_true k1, decide_eq_true k2, decide_eq_true (by omega)]; rfl
        · rw [decide_eq_false k2]; simp
      · rw [decide_eq_false k1]; simp
  · rw [decide_eq_true (by omega)] at c1
    rw [List.getElem?_eq_none (by omega)]
    exact or_ok (a := true) (b := false) c1 (fun z => by cases z) (fun _ => rfl)
theorem partF_some {L : List Int} {j : Nat} {m : Int} {p : List Int × Nat} (e : partF L j m = some p) : ∃ c : Nat, L[j]? = some (c : Int) ∧ 1 ≤ c ∧ (c : Int) ≤ m ∧ j + c < L.length ∧ p = ((L.drop (j + 1)).take c, j + 1 + c) := by
  unfold partF at e
  split at e
  · cases e
  · rename_i c ec
    split at e
    · rename_i k
      cases e
      exact ⟨c.toNat, by rw [ec, Int.toNat_of_nonneg (by omega)], by omega, by omega, by omega, rfl⟩
    · cases e
theorem cut_from {xs : List IV} {j c : Nat} (hj : j + c < xs.length) : cutL xs (some ((j : Int) + 1)) (some (((j + 1 + c : Nat) : Int))) = (xs.drop (j + 1)).take c := by
  have e1 : HT.sIx xs.length 0 (some ((j : Int) + 1)) = j + 1 := by
    simp only [HT.sIx]
    rw [if_neg (by omega)]
    omega
  have e2 : HT.sIx xs.length xs.length (some (((j + 1 + c : Nat) : Int))) = j + 1 + c := by
    simp only [HT.sIx]
    rw [if_neg (by omega)]
    omega
  unfold cutL
  rw [e1, e2, show j + 1 + c - (j + 1) = c by omega]
theorem sliC_from {L : List Int} {j c : Nat} {fl fu : IE → M IV} {i : Nat} {σ : IE} {h : IH} (e0 : σ[i]? = some (some (tI L))) (hj : j + c < L.length) (el : fl σ h = .ok (.int ((j : Int) + 1)) h) (eu : fu σ h = .ok (.int ((j + 1 + c : Nat) : Int)) h) : sliE (varE i) (someO fl) (someO fu) σ h = .ok (tI ((L.drop (j + 1)).take c)) h := by
  have e1 : varE i σ h = .ok (tI L) h := var_ok e0
  have e2 : someO fl σ h = .ok (some ((j : Int) + 1)) h := by unfold someO; rw [el]; rfl
  have e3 : someO fu σ h = .ok (some ((j + 1 + c : Nat) : Int)) h := by unfold someO; rw [eu]; rfl
  unfold sliE
  rw [e1]
  show ((someO fl σ h).bind fun lo h => (someO fu σ h).bind fun hi h => cutE lo hi (tI L) h) = _
  rw [e2]
  show ((someO fu σ h).bind fun hi h => cutE (some ((j : Int) + 1)) hi (tI L) h) = _
  rw [e3]
  show Out.ok (IV.tup (cutL (L.map .int) (some ((j : Int) + 1)) (some ((j + 1 + c : Nat) : Int)))) h = _
  rw [cut_from (by rw [List.length_map]; exact hj), ← List.map_drop, ← List.map_take]
theorem ev_law_part' {L : List Int} {j : Nat} {m : Int} {h : IH} : c__law_stretch [tI L, .int (j : Int), .int m] h = .ok (partV (partF L j m)) h := by
  have t := part_test (L := L) (j := j) (m := m) (x := []) (h := h)
  cases e : partF L j m with
  | none =>
    rw [e] at t
    exact def_rt (seq_rt (if_ok (b := true) t rfl))
  | some p =>
    rw [e] at t
    obtain ⟨c, ec, _, _, hj, rfl⟩ := partF_some e
    have sb := sub_at (i := 0) (k := 1) (L := L.map .int) (j := j) (v := .int (c : Int)) (σ := [some (tI L), some (.int (j : Int)), some (.int m)]) (h := h) rfl rfl (by rw [List.getElem?_map, ec]; rfl)
    have g := bin_ok (bin_ok (fa := varE 1) (fb := cstE (.int 1)) (v := .int (j : Int)) (u := .int 1) rfl rfl add_int) sb (add_int (h := h))
    rw [show (j : Int) + 1 + (c : Int) = ((j + 1 + c : Nat) : Int) by omega] at g
    have sl := sliC_from (i := 0) (fl := binE addI (varE 1) (cstE (.int 1))) (σ := [some (tI L), some (.int (j : Int)), some (.int m)]) (h := h) rfl hj (bin_ok (v := .int (j : Int)) (u := .int 1) rfl rfl add_int) g
    exact def_rt ((seq_nx (if_ok (b := false) t rfl)).trans (ret_ok' (tup_ok (arg_ok sl (arg_ok g rfl)) (by simp))))
theorem ev_part' {L : List Int} {j : Nat} {m : Int} {h : IH} : c_part_told [tI L, .int (j : Int), .int m] h = .ok (partV (partF L j m)) h := by
  have t := part_test (L := L) (j := j) (m := m) (x := [none]) (h := h)
  cases e : partF L j m with
  | none =>
    rw [e] at t
    exact def_rt (seq_rt (if_ok (b := true) t rfl))
  | some p =>
    rw [e] at t
    obtain ⟨c, ec, _, _, hj, rfl⟩ := partF_some e
    have sb := sub_at (i := 0) (k := 1) (L := L.map .int) (j := j) (v := .int (c : Int)) (σ := [some (tI L), some (.int (j : Int)), some (.int m), none]) (h := h) rfl rfl (by rw [List.getElem?_map, ec]; rfl)
    have g := bin_ok (bin_ok (fa := varE 1) (fb := cstE (.int 1)) (v := .int (j : Int)) (u := .int 1) rfl rfl add_int) sb (add_int (h := h))
    rw [show (j : Int) + 1 + (c : Int) = ((j + 1 + c : Nat) : Int) by omega] at g
    have s2 := asg_nm (i := 3) g
    have sl := sliC_from (i := 0) (fl := binE addI (varE 1) (cstE (.int 1))) (fu := varE 3) (σ := [some (tI L), some (.int (j : Int)), some (.int m), some (.int ((j + 1 + c : Nat) : Int))]) (h := h) rfl hj (bin_ok (v := .int (j : Int)) (u := .int 1) rfl rfl add_int) rfl
    exact def_rt ((seq_nx (if_ok (b := false) t rfl)).trans ((seq_nx s2).trans (ret_ok' (tup_ok (arg_ok sl (arg_ok rfl rfl)) (by simp)))))
end K17
namespace K17
open PySem PySem.Spec PyProof.Rows EV
open L2 hiding eqV keyOf
/-- the row that cells tell at an index: key, value, the index behind it -/
def rowF (L : List Int) (j : Nat) : Option (List Int × List Int × Nat) := match partF L j 3 with
  | none => none
  | some p => match partF L p.2 8 with
    | none => none
    | some q => some (p.1, q.1, q.2)
def rowV : Option (List Int × List Int × Nat) → IV
  | none => .non
  | some r => .tup [tI r.1, tI r.2.1, .int (r.2.2 : Int)]
theorem ev_row' {L : List Int} {j : Nat} {h : IH} : c_row_told [tI L, .int (j : Int)] h = .ok (rowV (rowF L j)) h := by
  have p0 : consA (varE 0) (consA (varE 1) (consA (cstE (.int 3)) nilA)) [some (tI L), some (.int (j : Int)), none, none] h = .ok [tI L, .int (j : Int), .int 3] h := rfl
  have s1 := asg_nm (i := 2) (call_ok (np := 3) p0 rfl (ev_part' (h := h)))
  unfold rowF
  cases e : partF L j 3 with
  | none =>
    rw [e] at s1
    have s2 : asgS (iteE (cmpT isnI (varE 2) (cstE .non)) (callE none 3 c_part_told (consA (varE 0) (consA (binE subD (varE 2) (cstE (.int 1))) (consA (cstE (.int 8)) nilA)))) (cstE .non)) (gNm 3) [some (tI L), some (.int (j : Int)), some .non, none] h = .nx [some (tI L), some (.int (j : Int)), some .non, some .non] h := asg_nm (i := 3) (ite_ok (b := false) (h1 := h) rfl rfl)
    exact def_rt ((seq_nx s1).trans ((seq_nx s2).trans (ret_ok' (ite_ok (b := false) (h1 := h) rfl rfl))))
  | some p =>
    rw [e] at s1
    have p1 : consA (varE 0) (consA (binE subD (varE 2) (cstE (.int 1))) (consA (cstE (.int 8)) nilA)) [some (tI L), some (.int (j : Int)), some (partV (some p)), none] h = .ok [tI L, .int (p.2 : Int), .int 8] h := rfl
    have s2 : asgS (iteE (cmpT isnI (varE 2) (cstE .non)) (callE none 3 c_part_told (consA (varE 0) (consA (binE subD (varE 2) (cstE (.int 1))) (consA (cstE (.int 8)) nilA)))) (cstE .non)) (gNm 3) [some (tI L), some (.int (j : Int)), some (partV (some p)), none] h = .nx [some (tI L), some (.int (j : Int)), some (partV (some p)), some (partV (partF L p.2 8))] h := asg_nm (i := 3) (ite_ok (b := true) (h1 := h) rfl (by rw [if_pos rfl]; exact call_ok (np := 3) p1 rfl (ev_part' (h := h))))
    show c_row_told _ h = .ok (rowV (match partF L p.2 8 with
      | none => none
      | some q => some (p.1, q.1, q.2))) h
    cases e2 : partF L p.2 8 with
    | none =>
      rw [e2] at s2
      exact def_rt ((seq_nx s1).trans ((seq_nx s2).trans (ret_ok' (ite_ok (b := false) (h1 := h) rfl rfl))))
    | some q =>
      rw [e2] at s2
      exact def_rt ((seq_nx s1).trans ((seq_nx s2).trans (ret_ok' (ite_ok (b := true) (h1 := h) rfl (by rw [if_pos rfl]; rfl)))))
theorem rowF_some {L : List Int} {j : Nat} {r : List Int × List Int × Nat} (e : rowF L j = some r) : j < r.2.2 ∧ r.2.2 ≤ L.length ∧ 1 ≤ r.1.length ∧ r.1.length ≤ 3 ∧ 1 ≤ r.2.1.length ∧ r.2.1.length ≤ 8 := by
  unfold rowF at e
  split at e
  · cases e
  · rename_i p ep
    split at e
    · cases e
    · rename_i q eq
      cases e
      obtain ⟨c, h1, h2, h3, h4, rfl⟩ := partF_some ep
      obtain ⟨d, k1, k2, k3, k4, rfl⟩ := partF_some eq
      simp only [List.length_take, List.length_drop]
      refine ⟨?_, ?_, ?_, ?_, ?_, ?_⟩ <;> omega
end K17
namespace K17
open PySem PySem.Spec PyProof.Rows EV
open L2 hiding eqV keyOf
theorem ne_nilR {n : Nat} {xs : List IV} {h : IH} (e : h[n]? = some (.lst xs)) : neNilI (.ref n) (.lst []) h = .ok (.bl (!xs.isEmpty)) h := by
  have l : EV.lsR h (.ref n) = some xs := by simp only [EV.lsR, EV.lsO, e]
  unfold neNilI
  rw [l]
  cases xs <;> rfl
theorem ne_nil {xs : List IV} {h : IH} : neNilI (.lst xs) (.lst []) h = .ok (.bl (!xs.isEmpty)) h := by cases xs <;> rfl
theorem len_ref {n : Nat} {xs : List IV} {i : Nat} {σ : IE} {h : IH} (ei : σ[i]? = some (some (.ref n))) (e : h[n]? = some (.lst xs)) : bltE lenI (consA (varE i) nilA) σ h = .ok (.int (xs.length : Int)) h := by
  refine blt_ok (arg_ok (var_ok ei) rfl) ?_
  have l : EV.lsR h (.ref n) = some xs := by simp only [EV.lsR, EV.lsO, e]
  show (match sqI h (.ref n) with
    | some xs => Out.ok (IV.int xs.length) h
    | none => .no) = _
  have : sqI h (.ref n) = some xs := by
    show EV.lsR h (.ref n) = some xs
    exact l
  rw [this]
theorem tup_ref {n : Nat} {xs : List IV} {i : Nat} {σ : IE} {h : IH} (ei : σ[i]? = some (some (.ref n))) (e : h[n]? = some (.lst xs)) : bltE tupleI (consA (varE i) nilA) σ h = .ok (.tup xs) h := by
  refine blt_ok (arg_ok (var_ok ei) rfl) ?_
  simp only [tupleI, sqI, EV.lsR, EV.lsO, e]
theorem lt_loop {L : List IV} {j : Nat} {σ : IE} {h : IH} (e0 : σ[0]? = some (some (.tup L))) (e2 : σ[2]? = some (some (.int (j : Int)))) : cmpT (ordE .Lt) (varE 2) (bltE lenI (consA (varE 0) nilA)) σ h = .ok (decide (j < L.length)) h := by
  have := cmp_ok (g := ordE .Lt) (var_ok (h := h) e2) (len_tup (h := h) e0) lt_ints
  rw [this]
  congr 1
  rw [decide_eq_decide]
  omega
abbrev Rw := List Int × List Int
def rwV (r : Rw) : IV := .tup [tI r.1, tI r.2]
def okLast (acc : List Rw) (k : List Int) : Bool := match acc.getLast? with
  | none => true
  | some p => ltB p.1 k
def rowsF (L : List Int) : Nat → Nat → List Rw → Option (List Rw)
  | 0, _, _ => none
  | f + 1, j, acc => if j < L.length then (match rowF L j with
    | none => none
    | some r => if okLast acc r.1 = true then rowsF L f r.2.2 (acc ++ [(r.1, r.2.1)]) else none) else some acc
theorem whl_stop {t : IE → M Bool} {f : SM} {n : Nat} {σ : IE} {h : IH} (e : t σ h = .ok false h) (hn : 0 < n) : whileL t f n σ h = .nx σ h := by
  cases n with
  | zero => omega
  | succ n =>
    unfold whileL
    rw [e]
    rfl
theorem whl_step {t : IE → M Bool} {f : SM} {n : Nat} {σ σ1 : IE} {h h1 : IH} (e : t σ h = .ok true h) (e1 : f σ h = .nx σ1 h1) : whileL t f (n + 1) σ h = whileL t f n σ1 h1 := by
  rw [whileL]
  show (t σ h).thn σ _ = _
  rw [e]
  show (if true = true then (match f σ h with
      | .nx σ h => whileL t f n σ h
      | .ct σ h => whileL t f n σ h
      | .bk σ h => .nx σ h
      | o => o) else .nx σ h) = _
  rw [if_pos rfl, e1]
theorem whl_rt {t : IE → M Bool} {f : SM} {n : Nat} {σ : IE} {h h1 : IH} {v : IV} (e : t σ h = .ok true h) (e1 : f σ h = .rt v h1) : whileL t f (n + 1) σ h = .rt v h1 := by
  rw [whileL]
  show (t σ h).thn σ _ = _
  rw [e]
  show (if true = true then (match f σ h with
      | .nx σ h => whileL t f n σ h
      | .ct σ h => whileL t f n σ h
      | .bk σ h => .nx σ h
      | o => o) else .nx σ h) = _
  rw [if_pos rfl, e1]
abbrev rowsT : IE → M Bool := cmpT (ordE .Lt) (varE 2) (bltE lenI (consA (varE 0) nilA))
abbrev rowsB : SM := (seqS (asgS (callE none 2 c_row_told (consA (varE 0) (consA (varE 2) nilA))) (gNm 3))
    (seqS (ifS (orT (cmpT isI (varE 3) (cstE .non)) (andT (cmpT neNilI (varE 1) (lstE (capA nilA))) (cmpT (ordE .LtE) (binE subD (varE 3) (cstE (.int 0))) (binE subD (binE subD (varE 1) (negE (cstE (.int 1)))) (cstE (.int 0)))))) (seqS (retS (cstE .non))
    nextS) nextS)
    (seqS (exprS (mthE "list" appM (varE 1) (consA (tupE (consA (binE subD (varE 3) (cstE (.int 0))) (consA (binE subD (varE 3) (cstE (.int 1))) nilA))) nilA)))
    (seqS (asgS (binE subD (varE 3) (cstE (.int 2))) (gNm 2))
    nextS))))
theorem pure_rw (acc : List Rw) : pureVs (acc.map rwV) = true := pure_all fun x hx => by
  obtain ⟨r, _, rfl⟩ := List.mem_map.mp hx
  show (pureVs (r.1.map .int) && (pureVs (r.2.map .int) && true)) = true
  rw [pure_ints, pure_ints]
  rfl
theorem rows_loop {L : List Int} {h : IH} : ∀ (f : Nat) {j n : Nat} {acc : List Rw} {x : Option IV}, L.length - j < f → f ≤ n → acc.length + f ≤ 900 →
    (∃ res, rowsF L f j acc = some res ∧ ∃ σ', whileL rowsT rowsB n [some (tI L), some (.ref h.length), some (.int (j : Int)), x] (h ++ [.lst (acc.map rwV)]) = .nx σ' (h ++ [.lst (res.map rwV)]) ∧ σ'[1]? = some (some (.ref h.length)) ∧ res.length ≤ acc.length + f) ∨
    (rowsF L f j acc = none ∧ ∃ o, whileL rowsT rowsB n [some (tI L), some (.ref h.length), some (.int (j : Int)), x] (h ++ [.lst (acc.map rwV)]) = .rt .non (h ++ [o]) ∧ pureO o = true)
  | 0, j, n, acc, x, h0, _, _ => by omega
  | f + 1, j, n, acc, x, h0, h1, h2 => by
    have lt := lt_loop (L := L.map .int) (j := j) (σ := [some (tI L), some (.ref h.length), some (.int (j : Int)), x]) (h := h ++ [.lst (acc.map rwV)]) rfl rfl
    rw [List.length_map] at lt
    unfold rowsF
    by_cases hj : j < L.length
    · rw [decide_eq_true (by omega)] at lt
      rw [if_pos hj]
      obtain ⟨n', rfl⟩ : ∃ n', n = n' + 1 := ⟨n - 1, by omega⟩
      have gl : (h ++ [IO.lst (acc.map rwV)])[h.length]? = some (.lst (acc.map rwV)) := get_last
      have s0 : consA (varE 0) (consA (varE 2) nilA) [some (tI L), some (.ref h.length), some (.int (j : Int)), x] (h ++ [.lst (acc.map rwV)]) = .ok [tI L, .int (j : Int)] (h ++ [.lst (acc.map rwV)]) := rfl
      have r0 := ev_row' (L := L) (j := j) (h := h ++ [.lst (acc.map rwV)])
      have s00 := call_ok (np := 2) (c := c_row_told) s0 rfl r0
      have s1 := asg_nm (i := 3) s00
      have pacc : pureO (.lst (acc.map rwV)) = true := pure_rw acc
      cases er : rowF L j with
      | none =>
        rw [er] at s1
        generalize hH : h ++ [IO.lst (acc.map rwV)] = H at s1 lt gl ⊢
        have c0 : cmpT isI (varE 3) (cstE .non) [some (tI L), some (.ref h.length), some (.int (j : Int)), some .non] H = .ok true H := rfl
        have cc := or_ok (a := true) (b := false) (tb := andT (cmpT neNilI (varE 1) (lstE (capA nilA))) (cmpT (ordE .LtE) (binE subD (varE 3) (cstE (.int 0))) (binE subD (binE subD (varE 1) (negE (cstE (.int 1)))) (cstE (.int 0))))) c0 (fun z => by cases z) (fun _ => rfl)
        have s2 := if_ok (f := seqS (retS (cstE .non)) nextS) (g := nextS) (b := true) cc (o := .rt .non H) rfl
        have bd : rowsB [some (tI L), some (.ref h.length), some (.int (j : Int)), x] H = .rt .non H := (seq_nx s1).trans (seq_rt s2)
        exact .inr ⟨rfl, .lst (acc.map rwV), by rw [hH]; exact whl_rt lt bd, pacc⟩
      | some r =>
        rw [er] at s1
        obtain ⟨T, hT⟩ : ∃ T, T = rowV (some r) := ⟨_, rfl⟩
        rw [← hT] at s1
        have c0 : cmpT isI (varE 3) (cstE .non) [some (tI L), some (.ref h.length), some (.int (j : Int)), some T] (h ++ [.lst (acc.map rwV)]) = .ok false (h ++ [.lst (acc.map rwV)]) := by rw [hT]; rfl
        have c1 := cmp_ok (g := neNilI) (fa := varE 1) (fb := lstE (capA nilA)) (σ := [some (tI L), some (.ref h.length), some (.int (j : Int)), some T]) (h := h ++ [.lst (acc.map rwV)]) (u := .lst []) (v := .ref h.length) rfl rfl (ne_nilR gl)
        have c2 : andT (cmpT neNilI (varE 1) (lstE (capA nilA))) (cmpT (ordE .LtE) (binE subD (varE 3) (cstE (.int 0))) (binE subD (binE subD (varE 1) (negE (cstE (.int 1)))) (cstE (.int 0)))) [some (tI L), some (.ref h.length), some (.int (j : Int)), some T] (h ++ [.lst (acc.map rwV)]) = .ok (!okLast acc r.1) (h ++ [.lst (acc.map rwV)]) := by
          rcases List.eq_nil_or_concat acc with rfl | ⟨a', p, rfl⟩
          · exact and_ok (a := false) (b := false) c1 (fun z => by cases z) (fun _ => rfl)
          · rw [List.concat_eq_append] at *
            have l1 := last_of (xs := a'.map rwV) (x := rwV p) (n := h.length) (i := 1) (σ := [some (tI L), some (.ref h.length), some (.int (j : Int)), some T]) (h := h ++ [.lst ((a' ++ [p]).map rwV)]) rfl (by rw [gl, List.map_append]; rfl)
            have l2 := bin_ok (fb := cstE (.int 0)) (g := subD) l1 (u := .int 0) rfl (o := .ok (tI p.1) (h ++ [.lst ((a' ++ [p]).map rwV)])) rfl
            have l3 : binE subD (varE 3) (cstE (.int 0)) [some (tI L), some (.ref h.length), some (.int (j : Int)), some T] (h ++ [.lst ((a' ++ [p]).map rwV)]) = .ok (tI r.1) (h ++ [.lst ((a' ++ [p]).map rwV)]) := by rw [hT]; rfl
            have c := cmp_ok (g := ordE .LtE) l3 l2 le_tI
            have ne : (!((a' ++ [p]).map rwV).isEmpty) = true := by simp
            rw [ne] at c1
            have q := and_ok (a := true) c1 (fun _ => c) (fun z => by cases z)
            have ol : okLast (a' ++ [p]) r.1 = ltB p.1 r.1 := by unfold okLast; rw [List.getLast?_append]; rfl
            rw [ol]
            exact q
        have cc := or_ok (a := false) c0 (fun _ => c2) (fun z => by cases z)
        show (∃ res, (if okLast acc r.1 = true then rowsF L f r.2.2 (acc ++ [(r.1, r.2.1)]) else none) = some res ∧ _) ∨ ((if okLast acc r.1 = true then rowsF L f r.2.2 (acc ++ [(r.1, r.2.1)]) else none) = none ∧ _)
        by_cases ok : okLast acc r.1 = true
        · rw [ok] at cc
          rw [if_pos ok]
          have s2 := if_ok (f := seqS (retS (cstE .non)) nextS) (g := nextS) (b := false) cc (o := .nx [some (tI L), some (.ref h.length), some (.int (j : Int)), some T] (h ++ [.lst (acc.map rwV)])) rfl
          have s3 := app_ok (fa := tupE (consA (binE subD (varE 3) (cstE (.int 0))) (consA (binE subD (varE 3) (cstE (.int 1))) nilA))) (σ := [some (tI L), some (.ref h.length), some (.int (j : Int)), some T]) (i := 1) (h := h) (h1 := h) (n := h.length) (xs := acc.map rwV) (v := rwV (r.1, r.2.1)) rfl rfl (by rw [hT]; rfl) rfl (by rw [List.length_map]; omega)
          have s4 : asgS (binE subD (varE 3) (cstE (.int 2))) (gNm 2) [some (tI L), some (.ref h.length), some (.int (j : Int)), some T] (h ++ [.lst (acc.map rwV ++ [rwV (r.1, r.2.1)])]) = .nx [some (tI L), some (.ref h.length), some (.int (r.2.2 : Int)), some T] (h ++ [.lst (acc.map rwV ++ [rwV (r.1, r.2.1)])]) := by rw [hT]; rfl
          have bd : rowsB [some (tI L), some (.ref h.length), some (.int (j : Int)), x] (h ++ [.lst (acc.map rwV)]) = .nx [some (tI L), some (.ref h.length), some (.int (r.2.2 : Int)), some T] (h ++ [.lst (acc.map rwV ++ [rwV (r.1, r.2.1)])]) := (seq_nx s1).trans ((seq_nx s2).trans ((seq_nx s3).trans ((seq_nx s4).trans rfl)))
          have st := whl_step (n := n') lt bd
          obtain ⟨g1, g2, _⟩ := rowF_some er
          have ih := rows_loop (L := L) (h := h) f (j := r.2.2) (n := n') (acc := acc ++ [(r.1, r.2.1)]) (x := some T) (by omega) (by omega) (by rw [List.length_append]; simp; omega)
          rw [List.map_append] at ih
          rcases ih with ⟨res, a1, σ', a2, a3, a4⟩ | ⟨a1, o, a2, a3⟩
          · exact .inl ⟨res, a1, σ', st.trans a2, a3, by rw [List.length_append] at a4; simp at a4; omega⟩
          · exact .inr ⟨a1, o, st.trans a2, a3⟩
        · have of := (Bool.not_eq_true _).mp ok
          rw [of] at cc
          rw [if_neg ok]
          have s2 := if_ok (f := seqS (retS (cstE .non)) nextS) (g := nextS) (b := true) cc (o := .rt .non (h ++ [.lst (acc.map rwV)])) rfl
          have bd : rowsB [some (tI L), some (.ref h.length), some (.int (j : Int)), x] (h ++ [.lst (acc.map rwV)]) = .rt .non (h ++ [.lst (acc.map rwV)]) := (seq_nx s1).trans (seq_rt s2)
          exact .inr ⟨rfl, _, whl_rt lt bd, pacc⟩
    · rw [decide_eq_false (by omega)] at lt
      rw [if_neg hj]
      exact .inl ⟨acc, rfl, _, whl_stop lt (by omega), rfl, by omega⟩
end K17
namespace K17
open PySem PySem.Spec PyProof.Rows EV
open L2 hiding eqV keyOf
theorem ev_rows' {L : List Int} {h : IH} (hl : L.length ≤ 800) :
    (∃ res, rowsF L (L.length + 1) 0 [] = some res ∧ c_rows_in [tI L] h = .ok (.tup (res.map rwV)) (h ++ [.lst (res.map rwV)])) ∨
    (rowsF L (L.length + 1) 0 [] = none ∧ ∃ o, c_rows_in [tI L] h = .ok .non (h ++ [o]) ∧ pureO o = true) := by
  have st : parS 1 2 (consA (refE (capA nilA)) (consA (cstE (.int 0)) nilA)) (startI 4 [tI L]) h = .nx [some (tI L), some (.ref h.length), some (.int ((0 : Nat) : Int)), none] (h ++ [.lst []]) := par_ok (arg_ok (ref_ok rfl (by simp)) (arg_ok rfl rfl))
  rcases rows_loop (L := L) (h := h) (L.length + 1) (j := 0) (n := fuel) (acc := []) (x := none) (by omega) (by unfold fuel; omega) (by simp; omega) with ⟨res, a1, σ', a2, a3, a4⟩ | ⟨a1, o, a2, a3⟩
  · refine .inl ⟨res, a1, ?_⟩
    have gl : (h ++ [IO.lst (res.map rwV)])[h.length]? = some (.lst (res.map rwV)) := get_last
    have ln := len_ref (i := 1) (σ := σ') (h := h ++ [.lst (res.map rwV)]) a3 gl
    have c := cmp_ok (g := ordE .LtE) ln (fb := cstE (.int 2000)) rfl le_ints
    rw [decide_eq_true (by rw [List.length_map]; simp at a4; omega)] at c
    exact def_rt ((seq_nx st).trans ((seq_nx a2).trans (ret_ok' (ite_ok c (by rw [if_pos rfl]; exact tup_ref a3 gl)))))
  · refine .inr ⟨a1, o, ?_, a3⟩
    exact def_rt ((seq_nx st).trans (seq_rt a2))
end K17
namespace K17
open PySem PySem.Spec PyProof.Rows EV
open L2 hiding eqV keyOf
end K17
namespace K17
open PySem PySem.Spec PyProof.Rows EV
open L2 hiding eqV keyOf
theorem compC_typ {α : Type} {chk : IH → Bool} {h : IH} {g : TM} {t : IE → M Bool} {f : IE → M IV} {σ0 : IE} (V : α → IV) (T : α → Bool) (F : α → IV) (hc : chk h = true) : ∀ (ys : List α), (∀ y ∈ ys, ∃ σ1, g (V y) σ0 h = some (σ1, h) ∧ t σ1 h = .ok (T y) h ∧ (T y = true → f σ1 h = .ok (F y) h)) → compMC chk g t f σ0 (ys.map V) h = .ok ((ys.filter T).map F) h
  | [], _ => by
    unfold compMC
    simp [hc]
  | y :: ys, k => by
    obtain ⟨σ1, e1, e2, e3⟩ := k y List.mem_cons_self
    have ih := compC_typ V T F hc ys fun z hz => k z (List.mem_cons_of_mem _ hz)
    rw [List.map_cons]
    unfold compMC
    simp only [hc, if_true, e1, e2]
    cases q : T y with
    | false =>
      simp only [q]
      rw [ih, List.filter_cons, q]
      simp
    | true =>
      simp only [q]
      rw [e3 q]
      simp only [ih, Out.bind]
      rw [List.filter_cons, q]
      simp
theorem lcC_typ {α : Type} {chk : IH → Bool} {h : IH} {fi : IE → M (List IV × (IH → Bool))} {g : TM} {t : IE → M Bool} {f : IE → M IV} {σ : IE} {ws : List Nat} (V : α → IV) (T : α → Bool) (F : α → IV) (ys : List α) (e : fi σ h = .ok (ys.map V, chk) h) (hc : chk h = true) (hl : ys.length ≤ 16777216)
    (k : ∀ y ∈ ys, ∃ σ1, g (V y) (wipeI σ ws) h = some (σ1, h) ∧ t σ1 h = .ok (T y) h ∧ (T y = true → f σ1 h = .ok (F y) h)) : lcCI fi g t f ws σ h = .ok (.lst ((ys.filter T).map F)) h := by
  unfold lcCI
  rw [e]
  simp only [Out.bind]
  rw [if_pos (by rw [List.length_map]; exact hl), compC_typ V T F hc ys k]
theorem chk_ok {n : Nat} {xs : List IV} {h : IH} (e : h[n]? = some (.lst xs)) : chkL n xs h = true := by
  unfold chkL
  rw [e]
  exact eqVs_rf xs
theorem rngL_eq {j : Nat} : rngL 0 j = (List.range j).map fun k : Nat => IV.int (k : Int) := by
  unfold rngL
  simp
theorem it_pos {α : Type} {p : Prop} [inst : Decidable p] {a b c : α} (k : p) (e : a = c) : (@ite α p inst a b) = c := by rw [if_pos k, e]
theorem lo62 (j : Nat) : -(2 ^ 62 : Int) ≤ (j : Int) := Int.le_trans (show -(2 ^ 62 : Int) ≤ 0 by decide) (Int.natCast_nonneg j)
theorem hi62 {j : Nat} (h : j ≤ 1000) : (j : Int) < 2 ^ 62 := Int.lt_of_le_of_lt (show (j : Int) ≤ 1000 by omega) (by decide)
theorem rngK {fs : IE → M (List IV)} {j : Int} {σ : IE} {h h1 : IH} (e : fs σ h = .ok [.int j] h1) (c : -(2 ^ 62) ≤ j ∧ j < 2 ^ 62) : rngIt fs σ h = .ok (rngL 0 j.toNat) h1 := by
  unfold rngIt
  rw [e]
  exact it_pos c rfl
theorem rng_any {fs : IE → M (List IV)} {σ : IE} {h h1 : IH} {j : Nat} (e : fs σ h = .ok [.int (j : Int)] h1) (hj : j ≤ 1000) : rngIt fs σ h = .ok ((List.range j).map fun k : Nat => IV.int (k : Int)) h1 := by
  rw [rngK e ⟨lo62 j, hi62 hj⟩, Int.toNat_natCast, rngL_eq]
theorem refIt_ok {fa : IE → M IV} {σ : IE} {h : IH} {n : Nat} {xs : List IV} (e : fa σ h = .ok (.ref n) h) (e2 : h[n]? = some (.lst xs)) : refIt fa σ h = .ok (xs, chkL n xs) h := by
  unfold refIt
  rw [e]
  show (match h[n]? with
    | some (.lst xs) => Out.ok (xs, chkL n xs) h
    | _ => .no) = _
  rw [e2]
end K17
namespace K17
open PySem PySem.Spec PyProof.Rows EV
open L2 hiding eqV keyOf
abbrev anyLe : IE → M Bool := cmpT neNilI (lcCI (refIt (varE 1)) (gNm 5) (cmpT (ordE .GtE) (binE subD (varE 5) (cstE (.int 0))) (binE subD (varE 3) (cstE (.int 0)))) (cstE (.int 1)) [5]) (lstE (capA nilA))
abbrev lreadB : SM := (seqS (asgS (callE none 3 c__law_stretch (consA (varE 0) (consA (varE 2) (consA (cstE (.int 3)) nilA)))) (gNm 3))
    (seqS (asgS (iteE (cmpT isnI (varE 3) (cstE .non)) (callE none 3 c__law_stretch (consA (varE 0) (consA (binE subD (varE 3) (cstE (.int 1))) (consA (cstE (.int 8)) nilA)))) (cstE .non)) (gNm 4))
    (seqS (ifS (orT (cmpT isI (varE 4) (cstE .non)) anyLe) (seqS (retS (cstE .non))
    nextS) nextS)
    (seqS (exprS (mthE "list" appM (varE 1) (consA (tupE (consA (binE subD (varE 3) (cstE (.int 0))) (consA (binE subD (varE 4) (cstE (.int 0))) nilA))) nilA)))
    (seqS (asgS (binE subD (varE 4) (cstE (.int 1))) (gNm 2))
    nextS)))))
theorem lrow_six {L : List Int} {j : Nat} {x y z : Option IV} {n : Nat} {H : IH} : ∃ P Q : IV, asgS (callE none 3 c__law_stretch (consA (varE 0) (consA (varE 2) (consA (cstE (.int 3)) nilA)))) (gNm 3) [some (tI L), some (.ref n), some (.int (j : Int)), x, y, z] H = .nx [some (tI L), some (.ref n), some (.int (j : Int)), some P, y, z] H ∧
    asgS (iteE (cmpT isnI (varE 3) (cstE .non)) (callE none 3 c__law_stretch (consA (varE 0) (consA (binE subD (varE 3) (cstE (.int 1))) (consA (cstE (.int 8)) nilA)))) (cstE .non)) (gNm 4) [some (tI L), some (.ref n), some (.int (j : Int)), some P, y, z] H = .nx [some (tI L), some (.ref n), some (.int (j : Int)), some P, some Q, z] H ∧
    (rowF L j = none ∧ Q = .non ∨ ∃ r e, rowF L j = some r ∧ P = .tup [tI r.1, e] ∧ Q = .tup [tI r.2.1, .int (r.2.2 : Int)]) := by
  have p0 : consA (varE 0) (consA (varE 2) (consA (cstE (.int 3)) nilA)) [some (tI L), some (.ref n), some (.int (j : Int)), x, y, z] H = .ok [tI L, .int (j : Int), .int 3] H := rfl
  have r0 := ev_law_part' (L := L) (j := j) (m := 3) (h := H)
  have s00 := call_ok (np := 3) (c := c__law_stretch) p0 rfl r0
  have s1 := asg_nm (i := 3) s00
  unfold rowF
  cases e : partF L j 3 with
  | none =>
    rw [e] at s1
    exact ⟨_, .non, s1, asg_nm (i := 4) (ite_ok (b := false) (h1 := H) rfl rfl), .inl ⟨rfl, rfl⟩⟩
  | some p =>
    rw [e] at s1
    have p1 : consA (varE 0) (consA (binE subD (varE 3) (cstE (.int 1))) (consA (cstE (.int 8)) nilA)) [some (tI L), some (.ref n), some (.int (j : Int)), some (partV (some p)), y, z] H = .ok [tI L, .int (p.2 : Int), .int 8] H := rfl
    have r1 := ev_law_part' (L := L) (j := p.2) (m := 8) (h := H)
    have s01 := call_ok (np := 3) (c := c__law_stretch) p1 rfl r1
    have s2 := asg_nm (i := 4) (ite_ok (t := cmpT isnI (varE 3) (cstE .non)) (fb := cstE .non) (b := true) (h1 := H) rfl (by rw [if_pos rfl]; exact s01))
    refine ⟨_, _, s1, s2, ?_⟩
    show ((match partF L p.2 8 with
      | none => none
      | some q => some (p.1, q.1, q.2)) = none ∧ _) ∨ ∃ r e, (match partF L p.2 8 with
      | none => none
      | some q => some (p.1, q.1, q.2)) = some r ∧ _
    cases e2 : partF L p.2 8 with
    | none => exact .inl ⟨rfl, rfl⟩
    | some q => exact .inr ⟨_, _, rfl, rfl, rfl⟩
def Asc (acc : List Rw) : Prop := acc.Pairwise fun a b => ltB a.1 b.1 = true
theorem Asc.all {acc : List Rw} (a : Asc acc) (k : List Int) : (acc.filter fun p => !ltB p.1 k).isEmpty = okLast acc k := by
  rcases List.eq_nil_or_concat acc with rfl | ⟨a', p, rfl⟩
  · rfl
  · rw [List.concat_eq_append] at *
    have ol : okLast (a' ++ [p]) k = ltB p.1 k := by unfold okLast; rw [List.getLast?_append]; rfl
    rw [ol]
    cases e : ltB p.1 k with
    | true =>
      rw [List.isEmpty_iff, List.filter_eq_nil_iff]
      intro q hq
      rcases List.mem_append.mp hq with hq | hq
      · have := (List.pairwise_append.mp a).2.2 q hq p (by simp)
        rw [ltB_tr this e]; simp
      · rw [List.mem_singleton.mp hq, e]; simp
    | false =>
      rw [List.filter_append]
      simp [e]
theorem Asc.app {acc : List Rw} (a : Asc acc) {r : Rw} (o : okLast acc r.1 = true) : Asc (acc ++ [r]) := by
  refine List.pairwise_append.mpr ⟨a, List.pairwise_singleton _ _, fun p hp q hq => ?_⟩
  rw [List.mem_singleton.mp hq]
  have k := a.all r.1
  rw [o, List.isEmpty_iff, List.filter_eq_nil_iff] at k
  have := k p hp
  simpa using this
theorem lrows_loop {L : List Int} {h : IH} : ∀ (f : Nat) {j n : Nat} {acc : List Rw} {x y z : Option IV}, Asc acc → L.length - j < f → f ≤ n → acc.length + f ≤ 900 →
    (∃ res, rowsF L f j acc = some res ∧ ∃ σ', whileL rowsT lreadB n [some (tI L), some (.ref h.length), some (.int (j : Int)), x, y, z] (h ++ [.lst (acc.map rwV)]) = .nx σ' (h ++ [.lst (res.map rwV)]) ∧ σ'[1]? = some (some (.ref h.length)) ∧ res.length ≤ acc.length + f) ∨
    (rowsF L f j acc = none ∧ ∃ o, whileL rowsT lreadB n [some (tI L), some (.ref h.length), some (.int (j : Int)), x, y, z] (h ++ [.lst (acc.map rwV)]) = .rt .non (h ++ [o]) ∧ pureO o = true)
  | 0, j, n, acc, x, y, z, ha, h0, _, _ => by omega
  | f + 1, j, n, acc, x, y, z, ha, h0, h1, h2 => by
    have lt := lt_loop (L := L.map .int) (j := j) (σ := [some (tI L), some (.ref h.length), some (.int (j : Int)), x, y, z]) (h := h ++ [.lst (acc.map rwV)]) rfl rfl
    rw [List.length_map] at lt
    unfold rowsF
    by_cases hj : j < L.length
    · rw [decide_eq_true (by omega)] at lt
      rw [if_pos hj]
      obtain ⟨n', rfl⟩ : ∃ n', n = n' + 1 := ⟨n - 1, by omega⟩
      have gl : (h ++ [IO.lst (acc.map rwV)])[h.length]? = some (.lst (acc.map rwV)) := get_last
      have pacc : pureO (.lst (acc.map rwV)) = true := pure_rw acc
      obtain ⟨P, Q, s1, s1b, ⟨er, rfl⟩ | ⟨r, e, er, rfl, rfl⟩⟩ := lrow_six (L := L) (j := j) (x := x) (y := y) (z := z) (n := h.length) (H := h ++ [.lst (acc.map rwV)])
      · rw [er]
        generalize hH : h ++ [IO.lst (acc.map rwV)] = H at s1 s1b lt gl ⊢
        have c0 : cmpT isI (varE 4) (cstE .non) [some (tI L), some (.ref h.length), some (.int (j : Int)), some P, some .non, z] H = .ok true H := rfl
        have cc := or_ok (a := true) (b := false) (tb := anyLe) c0 (fun z => by cases z) (fun _ => rfl)
        have s2 := if_ok (f := seqS (retS (cstE .non)) nextS) (g := nextS) (b := true) cc (o := .rt .non H) rfl
        have bd : lreadB [some (tI L), some (.ref h.length), some (.int (j : Int)), x, y, z] H = .rt .non H := (seq_nx s1).trans ((seq_nx s1b).trans (seq_rt s2))
        exact .inr ⟨rfl, .lst (acc.map rwV), by rw [hH]; exact whl_rt lt bd, pacc⟩
      · rw [er]
        obtain ⟨T, hT⟩ : ∃ T, T = IV.tup [tI r.1, e] := ⟨_, rfl⟩
        obtain ⟨U, hU⟩ : ∃ U, U = IV.tup [tI r.2.1, .int (r.2.2 : Int)] := ⟨_, rfl⟩
        rw [← hT, ← hU] at s1b
        rw [← hT] at s1
        have c0 : cmpT isI (varE 4) (cstE .non) [some (tI L), some (.ref h.length), some (.int (j : Int)), some T, some U, z] (h ++ [.lst (acc.map rwV)]) = .ok false (h ++ [.lst (acc.map rwV)]) := by rw [hU]; rfl
        have c2 : anyLe [some (tI L), some (.ref h.length), some (.int (j : Int)), some T, some U, z] (h ++ [.lst (acc.map rwV)]) = .ok (!okLast acc r.1) (h ++ [.lst (acc.map rwV)]) := by
          have lc := lcC_typ (g := gNm 5) (t := cmpT (ordE .GtE) (binE subD (varE 5) (cstE (.int 0))) (binE subD (varE 3) (cstE (.int 0)))) (f := cstE (.int 1)) (ws := [5]) (σ := [some (tI L), some (.ref h.length), some (.int (j : Int)), some T, some U, z]) (h := h ++ [.lst (acc.map rwV)]) rwV (fun p => !ltB p.1 r.1) (fun _ => .int 1) acc (refIt_ok (fa := varE 1) rfl gl) (chk_ok gl) (by omega) fun y _ =>
            ⟨[some (tI L), some (.ref h.length), some (.int (j : Int)), some T, some U, some (rwV y)], rfl, cmp_ok (v := tI y.1) (u := tI r.1) rfl (by rw [hT]; rfl) ge_tI, fun _ => rfl⟩
          have c := cmp_ok (g := neNilI) lc (fb := lstE (capA nilA)) (u := .lst []) rfl ne_nil
          have e : ((acc.filter fun p => !ltB p.1 r.1).map fun _ => IV.int 1).isEmpty = okLast acc r.1 := by
            rw [← ha.all r.1]
            cases (acc.filter fun p => !ltB p.1 r.1) <;> rfl
          rw [e] at c
          exact c
        have cc := or_ok (a := false) c0 (fun _ => c2) (fun z => by cases z)
        show (∃ res, (if okLast acc r.1 = true then rowsF L f r.2.2 (acc ++ [(r.1, r.2.1)]) else none) = some res ∧ _) ∨ ((if okLast acc r.1 = true then rowsF L f r.2.2 (acc ++ [(r.1, r.2.1)]) else none) = none ∧ _)
        by_cases ok : okLast acc r.1 = true
        · rw [ok] at cc
          rw [if_pos ok]
          have s2 := if_ok (f := seqS (retS (cstE .non)) nextS) (g := nextS) (b := false) cc (o := .nx [some (tI L), some (.ref h.length), some (.int (j : Int)), some T, some U, z] (h ++ [.lst (acc.map rwV)])) rfl
          have s3 := app_ok (fa := tupE (consA (binE subD (varE 3) (cstE (.int 0))) (consA (binE subD (varE 4) (cstE (.int 0))) nilA))) (σ := [some (tI L), some (.ref h.length), some (.int (j : Int)), some T, some U, z]) (i := 1) (h := h) (h1 := h) (n := h.length) (xs := acc.map rwV) (v := rwV (r.1, r.2.1)) rfl rfl (by rw [hT, hU]; rfl) rfl (by rw [List.length_map]; omega)
          have s4 : asgS (binE subD (varE 4) (cstE (.int 1))) (gNm 2) [some (tI L), some (.ref h.length), some (.int (j : Int)), some T, some U, z] (h ++ [.lst (acc.map rwV ++ [rwV (r.1, r.2.1)])]) = .nx [some (tI L), some (.ref h.length), some (.int (r.2.2 : Int)), some T, some U, z] (h ++ [.lst (acc.map rwV ++ [rwV (r.1, r.2.1)])]) := by rw [hU]; rfl
          have bd : lreadB [some (tI L), some (.ref h.length), some (.int (j : Int)), x, y, z] (h ++ [.lst (acc.map rwV)]) = .nx [some (tI L), some (.ref h.length), some (.int (r.2.2 : Int)), some T, some U, z] (h ++ [.lst (acc.map rwV ++ [rwV (r.1, r.2.1)])]) := (seq_nx s1).trans ((seq_nx s1b).trans ((seq_nx s2).trans ((seq_nx s3).trans ((seq_nx s4).trans rfl))))
          have st := whl_step (n := n') lt bd
          obtain ⟨g1, g2, _⟩ := rowF_some er
          have ih := lrows_loop (L := L) (h := h) f (j := r.2.2) (n := n') (acc := acc ++ [(r.1, r.2.1)]) (x := some T) (y := some U) (z := z) (ha.app (r := (r.1, r.2.1)) ok) (by omega) (by omega) (by rw [List.length_append]; simp; omega)
          rw [List.map_append] at ih
          rcases ih with ⟨res, a1, σ', a2, a3, a4⟩ | ⟨a1, o, a2, a3⟩
          · exact .inl ⟨res, a1, σ', st.trans a2, a3, by rw [List.length_append] at a4; simp at a4; omega⟩
          · exact .inr ⟨a1, o, st.trans a2, a3⟩
        · have of := (Bool.not_eq_true _).mp ok
          rw [of] at cc
          rw [if_neg ok]
          have s2 := if_ok (f := seqS (retS (cstE .non)) nextS) (g := nextS) (b := true) cc (o := .rt .non (h ++ [.lst (acc.map rwV)])) rfl
          have bd : lreadB [some (tI L), some (.ref h.length), some (.int (j : Int)), x, y, z] (h ++ [.lst (acc.map rwV)]) = .rt .non (h ++ [.lst (acc.map rwV)]) := (seq_nx s1).trans ((seq_nx s1b).trans (seq_rt s2))
          exact .inr ⟨rfl, _, whl_rt lt bd, pacc⟩
    · rw [decide_eq_false (by omega)] at lt
      rw [if_neg hj]
      exact .inl ⟨acc, rfl, _, whl_stop lt (by omega), rfl, by omega⟩
theorem ev_law_read' {L : List Int} {h : IH} (hl : L.length ≤ 800) :
    (∃ res, rowsF L (L.length + 1) 0 [] = some res ∧ c__law_read [tI L] h = .ok (.tup (res.map rwV)) (h ++ [.lst (res.map rwV)])) ∨
    (rowsF L (L.length + 1) 0 [] = none ∧ ∃ o, c__law_read [tI L] h = .ok .non (h ++ [o]) ∧ pureO o = true) := by
  have st : parS 1 2 (consA (refE (capA nilA)) (consA (cstE (.int 0)) nilA)) (startI 6 [tI L]) h = .nx [some (tI L), some (.ref h.length), some (.int ((0 : Nat) : Int)), none, none, none] (h ++ [.lst []]) := par_ok (arg_ok (ref_ok rfl (by simp)) (arg_ok rfl rfl))
  rcases lrows_loop (L := L) (h := h) (L.length + 1) (j := 0) (n := fuel) (acc := []) (x := none) (y := none) (z := none) List.Pairwise.nil (by omega) (by unfold fuel; omega) (by simp; omega) with ⟨res, a1, σ', a2, a3, a4⟩ | ⟨a1, o, a2, a3⟩
  · refine .inl ⟨res, a1, ?_⟩
    have gl : (h ++ [IO.lst (res.map rwV)])[h.length]? = some (.lst (res.map rwV)) := get_last
    exact def_rt ((seq_nx st).trans ((seq_nx a2).trans (ret_ok' (tup_ref a3 gl))))
  · refine .inr ⟨a1, o, ?_, a3⟩
    exact def_rt ((seq_nx st).trans (seq_rt a2))
end K17
namespace K17
open PySem PySem.Spec PyProof.Rows EV
open L2 hiding eqV keyOf
abbrev tupOf (ns : List Int) : IV := .tup (ns.map IV.int)
def insD {κ : Type} [DecidableEq κ] (d : List κ) (x : κ) : List κ := if x ∈ d then d else d ++ [x]
/-- keys of a kind -/
structure KeyV {κ : Type} [DecidableEq κ] (KV : κ → IV) : Prop where
  inj : ∀ a b, keyOf (KV a) = keyOf (KV b) → a = b
  is : ∀ a, ∃ q, keyOf (KV a) = some q
  ok : ∀ a (ds : List κ), kindOk (KV a) (ds.map KV) = true
theorem keysOf_ints : ∀ (ns : List Int), keysOf (ns.map IV.int) = some (ns.map NestedKey.num)
  | [] => rfl
  | n :: ns => by simp [keysOf, keyOf, keysOf_ints ns]
theorem keyOf_tupOf (ns : List Int) : keyOf (tupOf ns) = some (.tup (ns.map .num)) := by
  simp [tupOf, keyOf, keysOf_ints]
theorem depth_nums : ∀ (ns : List Int), NestedKey.depthAll (ns.map NestedKey.num) = 0
  | [] => by simp [NestedKey.depthAll]
  | n :: ns => by simp [NestedKey.depthAll, NestedKey.depth, depth_nums ns]
theorem isKT_tupOf (ns : List Int) : isKT (tupOf ns) = true := by
  have e := keyOf_tupOf ns
  unfold isKT
  unfold tupOf at e ⊢
  simp [e, NestedKey.depth, depth_nums]
theorem keyV_tup : KeyV tupOf where
  inj a b e := by
    rw [keyOf_tupOf, keyOf_tupOf] at e
    injection e with e
    injection e with e
    exact map_inj (fun x y z => by injection z) e
  is a := ⟨_, keyOf_tupOf a⟩
  ok a ds := by
    unfold kindOk allKT
    rw [isKT_tupOf]
    have : (ds.map tupOf).all isKT = true := by
      rw [List.all_eq_true]; intro x hx
      obtain ⟨d, _, rfl⟩ := List.mem_map.mp hx
      exact isKT_tupOf d
    rw [this]; rfl

section
variable {κ : Type} [DecidableEq κ] {KV : κ → IV}
theorem dhas_typ (K : KeyV KV) (x : κ) {q : NestedKey} (e : keyOf (KV x) = some q) (ds : List κ) : dhas q (ds.map KV) = decide (x ∈ ds) := by
  unfold dhas
  rw [Bool.eq_iff_iff, List.any_eq_true, decide_eq_true_iff]
  constructor
  · rintro ⟨k, hk, hq⟩
    obtain ⟨d, hd, rfl⟩ := List.mem_map.mp hk
    have := K.inj d x ((of_decide_eq_true hq).trans e.symm)
    exact this ▸ hd
  · exact fun hx => ⟨KV x, List.mem_map.mpr ⟨x, hx, rfl⟩, decide_eq_true e⟩
theorem dput_new (K : KeyV KV) {x : κ} {v : IV} {ds : List κ} {us : List IV} (n : x ∉ ds) : dput (KV x) v (ds.map KV) us = ((ds ++ [x]).map KV, us ++ [v]) := by
  obtain ⟨q, e⟩ := K.is x
  unfold dput
  simp only [e, dhas_typ K x e, n, decide_false, Bool.false_eq_true, if_false]
  rw [List.map_append]; rfl
theorem dfind_at (K : KeyV KV) {x : κ} {q : NestedKey} (f : κ → IV) (e : keyOf (KV x) = some q) : ∀ {ds : List κ}, x ∈ ds → dfind q (ds.map KV) (ds.map f) = some (f x)
  | d :: ds, h => by
    rw [List.map_cons, List.map_cons]
    unfold dfind
    by_cases c : keyOf (KV d) = some q
    · rw [if_pos c]
      rw [K.inj d x (c.trans e.symm)]
    · rw [if_neg c]
      refine dfind_at K f e ?_
      rcases List.mem_cons.mp h with h | h
      · rw [h] at e; exact absurd e c
      · exact h
/-- the function with another value at one place -/
def upd (f : κ → IV) (x : κ) (v : IV) : κ → IV := fun y => if y = x then v else f y
theorem upd_eq (f : κ → IV) (x : κ) (v : IV) : upd f x v x = v := if_pos rfl
theorem upd_ne (f : κ → IV) {x y : κ} (v : IV) (n : y ≠ x) : upd f x v y = f y := if_neg n
theorem upd_map {f : κ → IV} {x : κ} {v : IV} {ds : List κ} (n : x ∉ ds) : ds.map (upd f x v) = ds.map f :=
  List.map_congr_left fun y hy => upd_ne f v fun e => n (e ▸ hy)
theorem dset_upd (K : KeyV KV) {x : κ} {q : NestedKey} {v : IV} (f : κ → IV) (e : keyOf (KV x) = some q) : ∀ {ds : List κ}, ds.Nodup → x ∈ ds → dset q v (ds.map KV) (ds.map f) = ds.map (upd f x v)
  | d :: ds, nd, h => by
    rw [List.map_cons, List.map_cons]
    unfold dset
    have n2 := (List.nodup_cons.mp nd)
    by_cases c : keyOf (KV d) = some q
    · rw [if_pos c]
      have c2 := K.inj d x (c.trans e.symm)
      subst c2
      rw [List.map_cons, upd_eq, upd_map n2.1]
    · rw [if_neg c]
      have c2 : d ≠ x := fun z => c (z ▸ e)
      rcases List.mem_cons.mp h with h | h
      · exact absurd h.symm c2
      · rw [List.map_cons, upd_ne f v c2, dset_upd K f e n2.2 h]
theorem dput_upd (K : KeyV KV) {x : κ} {v : IV} (f : κ → IV) {ds : List κ} (nd : ds.Nodup) : dput (KV x) v (ds.map KV) (ds.map f) = ((insD ds x).map KV, (insD ds x).map (upd f x v)) := by
  obtain ⟨q, e⟩ := K.is x
  unfold insD
  by_cases c : x ∈ ds
  · rw [if_pos c]
    unfold dput
    simp only [e, dhas_typ K x e, c, decide_true, if_true]
    rw [dset_upd K f e nd c]
  · rw [if_neg c, dput_new K c, List.map_append (f := upd f x v), upd_map c]
    simp [upd_eq]
theorem insD_nodup {ds : List κ} {x : κ} (nd : ds.Nodup) : (insD ds x).Nodup := by
  unfold insD
  split
  · exact nd
  · rename_i c
    exact List.nodup_append.mpr ⟨nd, (by simp), fun a ha b hb => by
      rw [List.mem_singleton] at hb
      subst hb
      exact fun e => c (e ▸ ha)⟩
theorem mem_insD {ds : List κ} {x y : κ} : y ∈ insD ds x ↔ y ∈ ds ∨ y = x := by
  unfold insD
  split
  · rename_i c
    exact ⟨.inl, fun h => h.elim id fun e => e ▸ c⟩
  · simp
theorem sub_dct (K : KeyV KV) {n : Nat} {x : κ} (f : κ → IV) {ds : List κ} {h : IH} (en : h[n]? = some (.dct (ds.map KV) (ds.map f))) (m : x ∈ ds) : subD (.ref n) (KV x) h = .ok (f x) h := by
  obtain ⟨q, e⟩ := K.is x
  have e0 : dctO h (.ref n) = some (ds.map KV, ds.map f) := by
    show (match h[n]? with
      | some (.dct ks us) => some (ks, us)
      | _ => none) = _
    rw [en]
  unfold subD
  rw [e0]
  show (match kindOk (KV x) (ds.map KV), keyOf (KV x) with
    | true, some q => (match dfind q (ds.map KV) (ds.map f) with
      | some u => Out.ok u h
      | none => .no)
    | _, _ => .no) = _
  rw [K.ok, e]
  show (match dfind q (ds.map KV) (ds.map f) with
      | some u => Out.ok u h
      | none => .no) = _
  rw [dfind_at K f e m]
theorem putM_dct (K : KeyV KV) {n : Nat} {x : κ} {v : IV} (f : κ → IV) {ds : List κ} {h : IH} (en : h[n]? = some (.dct (ds.map KV) (ds.map f))) (hl : ds.length < 16777216) (nd : ds.Nodup) : putM (.ref n) (KV x) v h = some (h.set n (.dct ((insD ds x).map KV) ((insD ds x).map (upd f x v)))) := by
  unfold putM
  simp only [en, K.ok, Bool.true_and]
  rw [List.length_map, decide_eq_true hl, if_pos rfl, dput_upd K f nd]
end
end K17
namespace K17
open PySem PySem.Spec PyProof.Rows EV
open L2 hiding eqV keyOf
theorem mulE_ok {a b : Int} {hh : IH} (h : mulOk a b) : mulEI (.int a) (.int b) hh = .ok (.int (a * b)) hh := by
  show (if mulOk a b then _ else _) = _
  rw [if_pos h]
/-- a draw from n triples -/
def Dr {α : Type} (m : Out α) (n : Nat) (Q : α → Prop) : Prop := ∃ v h1, m = .ok v h1 ∧ Hok h1 ∧ h1.length = n ∧ Q v
theorem pull_at {h : IH} {r : Nat} {a b c : Int} (hr : r < h.length) (e : h[r]? = some (T3 a b c)) {t : Int} (ht : 0 < t) (ht2 : t < 2 ^ 64) : ∃ i a' b' c' : Int, c__law_drop [.ref r, .int t] h = .ok (.int i) (h.set r (T3 a' b' c')) ∧ 0 ≤ i ∧ i < t := by
  have hd := div_big ht ht2
  by_cases ha : a > 0
  · refine ⟨a % t, a / t, b, c, ?_, Int.emod_nonneg _ (by omega), Int.emod_lt_of_pos _ ht⟩
    simp [c__law_drop, b__law_drop, N__law_drop, defM, startI, seqS, ifS, asgS, retS, cmpT, binE, varE, cstE, ordE, ordI, bltE, consA, nilA, intI, addI, subD, dctO, subE, lsR, lsO, atI, gNm, gSb, putM, setM, ixN, gthn, Out.bind, Out.thn, boolM, nextS, e, ha, mod_ok ht, div_ok hd]
  · have one := Int.emod_nonneg (b + 49979687 * (c + 1)) (b := 2305843009213693951) (by omega)
    have one2 := Int.emod_lt_of_pos (b + 49979687 * (c + 1)) (b := 2305843009213693951) (by omega)
    generalize eo : (b + 49979687 * (c + 1)) % 2305843009213693951 = o1 at one one2
    generalize et : (o1 * o1 + 101 * (c + 1)) % 2305843009213693921 * 27644437 + o1 = o2
    refine ⟨o2 / 65537 % t, a, b, c + 1, ?_, Int.emod_nonneg _ (by omega), Int.emod_lt_of_pos _ ht⟩
    have m1 : ∀ x : Int, mulOk 49979687 x := fun x => .inl (by omega)
    have m2 : mulOk o1 o1 := .inl (by omega)
    have m3 : ∀ x : Int, mulOk 101 x := fun x => .inl (by omega)
    have m4 : ∀ x : Int, mulOk x 27644437 := fun x => .inr (.inl (by omega))
    have hd2 : divOk 65537 := div_big (by omega) (by omega)
    have hset : (h.set r (T3 a b (c + 1)))[r]? = some (T3 a b (c + 1)) := by rw [List.getElem?_set_self hr]
    simp [c__law_drop, b__law_drop, N__law_drop, defM, startI, seqS, ifS, asgS, retS, cmpT, binE, varE, cstE, ordE, ordI, bltE, consA, nilA, intI, addI, subD, dctO, subE, lsR, lsO, atI, gNm, gSb, putM, setM, ixN, gthn, Out.bind, Out.thn, boolM, nextS, e, hset, ha, mod_ok, mod_ok ht, div_ok hd, div_ok hd2, mulE_ok (m1 _), mulE_ok m2, mulE_ok (m3 _), mulE_ok (m4 _), eo, et]
theorem pull_tl {h tl : IH} {n r : Nat} (k : Hok h) (hn : h.length = n) (hr : r < n) {t : Int} (ht : 0 < t) (ht2 : t < 2 ^ 64) : Drw (c__law_drop [.ref r, .int t] (h ++ tl)) n tl fun v => ∃ i : Nat, v = .int i ∧ (i : Int) < t := by
  subst hn
  obtain ⟨a, b, c, e⟩ := k.at hr
  obtain ⟨i, a', b', c', q, i0, i1⟩ := pull_at (h := h ++ tl) (r := r) (by rw [List.length_append]; omega) (by rw [List.getElem?_append_left hr]; exact e) ht ht2
  exact ⟨.int i, h.set r (T3 a' b' c'), by rw [q, List.set_append_left _ _ hr], k.set r _ _ _, by simp, i.toNat, by rw [Int.toNat_of_nonneg i0], by rw [Int.toNat_of_nonneg i0]; exact i1⟩
theorem any_tl {h tl : IH} {n r : Nat} (k : Hok h) (hn : h.length = n) (hr : r < n) {xs : List IV} (h1 : xs ≠ []) (h2 : xs.length < 2 ^ 64) : Drw (c__law_taste [.ref r, .lst xs] (h ++ tl)) n tl fun v => v ∈ xs := by
  have hl : 0 < xs.length := List.length_pos_iff.mpr h1
  obtain ⟨v, h3, e, k3, n3, i, rfl, i1⟩ := pull_tl (tl := tl) k hn hr (t := xs.length) (by omega) (by omega)
  have hi : i < xs.length := by omega
  refine ⟨xs[i], h3, ?_, k3, n3, List.getElem_mem hi⟩
  refine def_rt (seq_rt (ret_ok (bin_ok rfl (call_ok (arg_ok rfl (arg_ok (v := .int xs.length) rfl rfl)) rfl e) ?_)))
  have e : atI xs (i : Int) = some xs[i] := by simp [atI, ixN, hi]
  show (match atI xs (i : Int) with | some v => Out.ok v _ | none => .no) = _
  rw [e]
theorem pow_ok {a b : Int} {h : IH} (c : powOk a b) : powI (.int a) (.int b) h = .ok (.int (a ^ b.toNat)) h := by
  show (if powOk a b then _ else _) = _
  rw [if_pos c]
theorem vat_t {ns : List Int} {s : Nat} {h : IH} (hs : s ≤ 10) : ∃ a b c, c__law_vat [.scr (ns.map .int), .int (s : Int)] h = .ok (.ref h.length) (h ++ [T3 a b c]) := by
  have m1 : ∀ x : Int, mulOk 173 x := fun x => .inl (by omega)
  have m2 : ∀ x : Int, mulOk 1103 x := fun x => .inl (by omega)
  have m3 : ∀ x : Int, mulOk 37 x := fun x => .inl (by omega)
  have m4 : ∀ x : Int, mulOk x 71 := fun x => .inr (.inl (by omega))
  have ln : ∀ σ : IE, σ[0]? = some (some (.scr (ns.map .int))) → bltE lenI (consA (varE 0) nilA) σ h = .ok (.int (ns.length : Int)) h := fun σ e => by
    have v0 : varE 0 σ h = .ok (.scr (ns.map .int)) h := by unfold varE; rw [e]
    refine blt_ok (arg_ok v0 rfl) ?_
    show Out.ok (IV.int ((ns.map IV.int).length : Int)) h = _
    rw [List.length_map]
  have st1 : ∃ c : Int, asgS (iteE (cmpT (ordE .Lt) (varE 1) (bltE lenI (consA (varE 0) nilA))) (bltE intI (consA (binE subD (varE 0) (varE 1)) nilA)) (binE addI (binE mulEI (cstE (.int 173)) (varE 1)) (cstE (.int 59)))) (gNm 2) (startI 5 [.scr (ns.map .int), .int (s : Int)]) h = .nx [some (.scr (ns.map .int)), some (.int s), some (.int c), none, none] h := by
    by_cases hl : s < ns.length
    · refine ⟨ns[s], asg_nm (ite_ok (h1 := h) (b := true) (cmp_ok rfl (ln _ rfl) ?_) ?_)⟩
      · rw [lt_ints, decide_eq_true (by omega)]
      · rw [if_pos rfl]
        have a : atI (ns.map IV.int) (s : Int) = some (.int ns[s]) := by
          unfold atI ixN
          rw [if_pos (by omega), if_pos (by rw [List.length_map]; omega)]
          simp [hl]
        refine blt_ok (vs := [.int ns[s]]) (arg_ok (bin_ok rfl rfl ?_) rfl) rfl
        show (match atI (ns.map IV.int) (s : Int) with | some v => Out.ok v h | none => .no) = _
        rw [a]
    · refine ⟨173 * (s : Int) + 59, asg_nm (ite_ok (h1 := h) (b := false) (cmp_ok rfl (ln _ rfl) ?_) ?_)⟩
      · rw [lt_ints, decide_eq_false (by omega)]
      · rw [if_neg (by simp)]
        exact bin_ok (bin_ok rfl rfl (mulE_ok (m1 _))) rfl add_int
  obtain ⟨c, st1⟩ := st1
  have p57 : binE mulEI (binE powI (cstE (.int 10)) (cstE (.int 55))) (binE powI (cstE (.int 10)) (cstE (.int 58))) [some (.scr (ns.map .int)), some (.int s), some (.int c), none, none] h = .ok (.int (10 ^ (55 : Int).toNat * 10 ^ (58 : Int).toNat)) h := bin_ok (bin_ok rfl rfl (pow_ok (by decide +kernel))) (bin_ok rfl rfl (pow_ok (by decide +kernel))) (mulE_ok (by decide +kernel))
  have st2 : asgS (binE modI (bltE intI (consA (bltE absI (consA (varE 2) nilA)) nilA)) (binE mulEI (binE powI (cstE (.int 10)) (cstE (.int 55))) (binE powI (cstE (.int 10)) (cstE (.int 58))))) (gNm 3) [some (.scr (ns.map .int)), some (.int s), some (.int c), none, none] h = .nx [some (.scr (ns.map .int)), some (.int s), some (.int c), some (.int ((if c < 0 then -c else c) % (10 ^ (55 : Int).toNat * 10 ^ (58 : Int).toNat))), none] h :=
    asg_nm (bin_ok (v := .int (if c < 0 then -c else c)) rfl p57 (mod_ok (by decide +kernel)))
  generalize (if c < 0 then -c else c) % (10 ^ (55 : Int).toNat * 10 ^ (58 : Int).toNat) = g at st2
  have z3 : ∃ z : Int, asgS (binE addI (binE addI (binE addI (binE mulEI (binE modI (varE 3) (cstE (.int 2305843009213693921))) (cstE (.int 71))) (binE mulEI (cstE (.int 1103)) (varE 1))) (binE mulEI (cstE (.int 37)) (bltE intI (consA (binE (ordE .Lt) (varE 2) (cstE (.int 0))) nilA)))) (cstE (.int 23))) (gNm 4) [some (.scr (ns.map .int)), some (.int s), some (.int c), some (.int g), none] h = .nx [some (.scr (ns.map .int)), some (.int s), some (.int c), some (.int g), some (.int z)] h :=
    ⟨_, asg_nm (bin_ok (bin_ok (bin_ok (bin_ok (bin_ok (v := .int g) rfl rfl (mod_ok (by omega))) rfl (mulE_ok (m4 _))) (bin_ok rfl rfl (mulE_ok (m2 _))) add_int) (bin_ok (u := .int (if decide (c < 0) = true then 1 else 0)) rfl rfl (mulE_ok (m3 _))) add_int) rfl add_int)⟩
  obtain ⟨z, z3⟩ := z3
  have p16 : binE powI (cstE (.int 10)) (cstE (.int 16)) [some (.scr (ns.map .int)), some (.int s), some (.int c), some (.int g), some (.int z)] h = .ok (.int (10 ^ (16 : Int).toNat)) h := bin_ok rfl rfl (pow_ok (by decide +kernel))
  have en : refE (capA (consA (bltE maxI (consA (cstE (.int 0)) (consA (binE subI (varE 3) (binE powI (cstE (.int 10)) (cstE (.int 16)))) nilA))) (consA (binE modI (bltE intI (consA (varE 4) nilA)) (cstE (.int 1152921504606846869))) (consA (cstE (.int 0)) nilA)))) [some (.scr (ns.map .int)), some (.int s), some (.int c), some (.int g), some (.int z)] h = .ok (.ref h.length) (h ++ [.lst [.int (if g - 10 ^ (16 : Int).toNat > 0 then g - 10 ^ (16 : Int).toNat else 0), .int (z % 1152921504606846869), .int 0]]) :=
    ref_ok (arg_ok (blt_ok (arg_ok rfl (arg_ok (bin_ok rfl p16 rfl) rfl)) rfl) (arg_ok (bin_ok (v := .int z) rfl rfl (mod_ok (by omega))) (arg_ok rfl rfl))) (by simp)
  exact ⟨_, _, _, def_rt ((seq_nx st1).trans ((seq_nx st2).trans ((seq_nx z3).trans (seq_rt (ret_ok en)))))⟩
theorem Hok.app {h : IH} (k : Hok h) (a b c : Int) : Hok (h ++ [T3 a b c]) := fun o ho => by
  rcases List.mem_append.mp ho with ho | ho
  · exact k o ho
  · exact ⟨a, b, c, List.mem_singleton.mp ho⟩
end K17
namespace K17
open PySem PySem.Spec PyProof.Rows EV
open L2 hiding eqV keyOf
def kd0 : IV → Bool
  | .non => true
  | .bl _ => true
  | .int _ => true
  | .str _ => true
  | .tup _ => true
  | .lst _ => true
  | .dct _ _ => true
  | _ => false
def isTupB : IV → Bool
  | .tup _ => true
  | _ => false
def isIntB : IV → Bool
  | .int _ => true
  | _ => false
theorem isa_tup {v : IV} {h : IH} (k : kd0 v = true) : isaIB [v, .ty "tuple"] h = .ok (.bl (isTupB v)) h := by
  cases v <;> first | rfl | cases k
def cellB : IV → Bool
  | .int i => decide (0 ≤ i) && decide (i ≤ 999999999999999999)
  | _ => false
theorem ev_is_whole {v : IV} {h : IH} (k : kd0 v = true) : c_is_whole [v] h = .ok (.bl (isIntB v)) h := by
  cases v <;> first | rfl | cases k
theorem ev_is_cell {v : IV} {h : IH} (k : kd0 v = true) : c_is_cell [v] h = .ok (.bl (cellB v)) h := by
  have e : c_is_within_bounds [v, .int 0, .int 999999999999999999] h = .ok (.bl (cellB v)) h := by
    refine def_rt (ret_ok' ?_)
    cases v with
    | int i => exact and_e (b := cellB (.int i)) (call_ok (arg_ok rfl rfl) rfl (ev_is_whole k)) (fun _ => chnE_ok (va := .int 0) (vb := .int i) (vc := .int 999999999999999999) rfl rfl rfl le_ints le_ints)
    | ref n => cases k
    | scr n => cases k
    | ty n => cases k
    | glo n => cases k
    | exc a b c d => cases k
    | fn a b c d f g => cases k
    | _ => exact and_e (b := false) (call_ok (arg_ok rfl rfl) rfl (ev_is_whole k)) (fun z => by cases z)
  exact def_rt (ret_ok' (call_ok (arg_ok rfl (arg_ok rfl (arg_ok rfl rfl))) rfl e))
def kd : Nat → IV → Bool
  | 0, v => kd0 v
  | n + 1, .tup xs => decide (xs.length ≤ 900) && xs.all (kd n)
  | _ + 1, v => kd0 v
theorem kd_0 : ∀ {n : Nat} {v : IV}, kd n v = true → kd0 v = true
  | 0, _, k => k
  | n + 1, v, k => by cases v <;> first | rfl | exact k
def cellsB (a b : Nat) : IV → Bool
  | .tup xs => decide (a ≤ xs.length) && decide (xs.length ≤ b) && xs.all cellB
  | _ => false
theorem all_lst {ys : List IV} {f : IV → Bool} {h : IH} : allI [.lst (ys.map fun y => IV.bl (f y))] h = .ok (.bl (ys.all f)) h := all_ok
theorem lc_id {σ : IE} {h : IH} {fi : IE → M (List IV)} {g : TM} {f : IE → M IV} {ws : List Nat} (F : IV → IV) (ys : List IV) (e : fi σ h = .ok ys h) (hl : ys.length ≤ 16777216)
    (H : ∀ y ∈ ys, ∃ σ1, g y (wipeI σ ws) h = some (σ1, h) ∧ f σ1 h = .ok (F y) h) : lcI fi g yesT f ws σ h = .ok (.lst (ys.map F)) h := by
  have := lc_all (fi := fi) (h := h) (σ := σ) (fun y : IV => y) F ys (by rw [List.map_id']; exact e) hl H
  exact this
theorem lc_fl {σ : IE} {h : IH} {fi : IE → M (List IV)} {g : TM} {t : IE → M Bool} {f : IE → M IV} {ws : List Nat} (T : IV → Bool) (F : IV → IV) (ys : List IV) (e : fi σ h = .ok ys h) (hl : ys.length ≤ 16777216)
    (H : ∀ y ∈ ys, ∃ σ1, g y (wipeI σ ws) h = some (σ1, h) ∧ t σ1 h = .ok (T y) h ∧ (T y = true → f σ1 h = .ok (F y) h)) : lcI fi g t f ws σ h = .ok (.lst ((ys.filter T).map F)) h := by
  have := lc_typ (fi := fi) (h := h) (σ := σ) (fun y : IV => y) T F ys (by rw [List.map_id']; exact e) hl H
  exact this
theorem kd_tup {n : Nat} {xs : List IV} (k : kd (n + 1) (.tup xs) = true) : xs.length ≤ 900 ∧ ∀ x ∈ xs, kd n x = true := by
  have := Bool.and_eq_true_iff.mp (show (decide (xs.length ≤ 900) && xs.all (kd n)) = true from k)
  exact ⟨of_decide_eq_true this.1, List.all_eq_true.mp this.2⟩
theorem ev_are_cells {v : IV} {h : IH} {a b : Nat} (k : kd 1 v = true) : c_are_cells [v, .int (a : Int), .int (b : Int)] h = .ok (.bl (cellsB a b v)) h := by
  refine def_rt (ret_ok' ?_)
  have i := isa_tup (h := h) (kd_0 k)
  cases v with
  | tup xs =>
    have lx := (kd_tup k).1
    have e1 : bltE isaIB (consA (varE 0) (consA (cstE (.ty "tuple")) nilA)) (startI 4 [.tup xs, .int (a : Int), .int (b : Int)]) h = .ok (.bl true) h := blt_ok (arg_ok rfl (arg_ok rfl rfl)) i
    have e2 := chnE_ok (g := ordE .LtE) (g' := ordE .LtE) (fa := varE 1) (fc := varE 2) (σ := startI 4 [.tup xs, .int (a : Int), .int (b : Int)]) (h := h) rfl (len_tup (i := 0) rfl) rfl le_ints le_ints
    have lc := lc_id (σ := startI 4 [.tup xs, .int (a : Int), .int (b : Int)]) (h := h) (fi := anyIt (varE 0)) (g := gNm 3) (f := callE none 1 c_is_cell (consA (varE 3) nilA)) (ws := [3]) (fun y => .bl (cellB y)) xs (any_tup rfl) (by omega) fun y hy => ⟨_, rfl, call_ok (arg_ok rfl rfl) rfl (ev_is_cell ((kd_tup k).2 y hy))⟩
    have e3 := blt_ok (r := allI) (arg_ok (fs := nilA) lc rfl) all_lst
    have q := and_e e1 (fun _ => and_e e2 (fun _ => e3))
    rw [q]
    unfold cellsB
    congr 2
    rw [Bool.true_and]
    congr 1
    congr 1 <;> rw [decide_eq_decide] <;> omega
  | ref n => cases k
  | scr n => cases k
  | ty n => cases k
  | glo n => cases k
  | exc a b c d => cases k
  | fn a b c d f g => cases k
  | _ => exact and_e (a := false) (b := false) (blt_ok (arg_ok rfl (arg_ok rfl rfl)) i) (fun z => by cases z)
theorem ev_is_key {v : IV} {h : IH} (k : kd 1 v = true) : c_is_key [v] h = .ok (.bl (cellsB 1 3 v)) h :=
  def_rt (ret_ok' (call_ok (arg_ok rfl (arg_ok rfl (arg_ok rfl rfl))) rfl (ev_are_cells (a := 1) (b := 3) k)))
theorem ev_is_val {v : IV} {h : IH} (k : kd 1 v = true) : c_is_row_value [v] h = .ok (.bl (cellsB 1 8 v)) h :=
  def_rt (ret_ok' (call_ok (arg_ok rfl (arg_ok rfl (arg_ok rfl rfl))) rfl (ev_are_cells (a := 1) (b := 8) k)))
theorem eq_nilL {xs : List IV} {h : IH} : eqNilI (.lst xs) (.lst []) h = .ok (.bl xs.isEmpty) h := by cases xs <;> rfl
theorem p18 {σ : IE} {h : IH} : binE powI (cstE (.int 10)) (cstE (.int 18)) σ h = .ok (.int (10 ^ (18 : Int).toNat)) h := bin_ok rfl rfl (pow_ok (by decide +kernel))
theorem empty_filter {xs : List IV} {T : IV → Bool} {F : IV → IV} : ((xs.filter T).map F).isEmpty = xs.all fun x => !T x := by
  induction xs with
  | nil => rfl
  | cons x xs ih =>
    rw [List.filter_cons, List.all_cons, ← ih]
    cases T x <;> simp
theorem ev_law_cells {v : IV} {h : IH} {b : Nat} (k : kd 1 v = true) : c__law_is_cells [v, .int (b : Int)] h = .ok (.bl (cellsB 1 b v)) h := by
  have i := isa_tup (h := h) (kd_0 k)
  have no : isTupB v = false → c__law_is_cells [v, .int (b : Int)] h = .ok (.bl false) h := fun z => by
    rw [z] at i
    have c := or_ok (ta := notT (truT (bltE isaIB (consA (varE 0) (consA (cstE (.ty "tuple")) nilA))))) (tb := notT (chnT (ordE .LtE) (ordE .LtE) (cstE (.int 1)) (bltE lenI (consA (varE 0) nilA)) (varE 1))) (σ := startI 3 [v, .int (b : Int)]) (h := h) (a := true) (b := true) (not_ok (a := false) (tru_bl (blt_ok (arg_ok rfl (arg_ok rfl rfl)) i))) (fun z => by cases z) (fun _ => rfl)
    exact def_rt (seq_rt (if_ok (b := true) c rfl))
  cases v with
  | tup xs =>
    have lx := (kd_tup k).1
    have e1 : notT (truT (bltE isaIB (consA (varE 0) (consA (cstE (.ty "tuple")) nilA)))) (startI 3 [.tup xs, .int (b : Int)]) h = .ok false h := not_ok (a := true) (tru_bl (blt_ok (arg_ok rfl (arg_ok rfl rfl)) i))
    have e2 := not_ok (chn_ok (g := ordE .LtE) (g' := ordE .LtE) (fa := cstE (.int 1)) (fc := varE 1) (σ := startI 3 [.tup xs, .int (b : Int)]) (h := h) rfl (len_tup (i := 0) rfl) rfl le_ints le_ints)
    have c := or_ok e1 (fun _ => e2) (fun z => by cases z)
    have dd : (decide ((1 : Int) ≤ xs.length) && decide ((xs.length : Int) ≤ b)) = (decide (1 ≤ xs.length) && decide (xs.length ≤ b)) := by
      congr 1 <;> rw [decide_eq_decide] <;> omega
    rw [dd, Bool.false_or] at c
    have lc := lc_fl (σ := startI 3 [.tup xs, .int (b : Int)]) (h := h) (fi := anyIt (varE 0)) (g := gNm 2) (t := orT (notT (truT (bltE isaIB (consA (varE 2) (consA (cstE (.ty "int")) nilA))))) (orT (truT (bltE isaIB (consA (varE 2) (consA (cstE (.ty "bool")) nilA)))) (notT (chnT (ordE .LtE) (ordE .Lt) (cstE (.int 0)) (varE 2) (binE powI (cstE (.int 10)) (cstE (.int 18))))))) (f := cstE (.int 1)) (ws := [2])
      (fun y => !cellB y) (fun _ => .int 1) xs (any_tup rfl) (by omega) fun y hy => ⟨[some (.tup xs), some (.int (b : Int)), some y], rfl, (by
        have ky : kd0 y = true := (kd_tup k).2 y hy
        cases y with
        | int i =>
          have c3 := chn_ok (g := ordE .LtE) (g' := ordE .Lt) (fa := cstE (.int 0)) (fb := varE 2) (σ := [some (.tup xs), some (.int (b : Int)), some (.int i)]) (h := h) (va := .int 0) (vb := .int i) rfl rfl p18 le_ints lt_ints
          have q := or_ok (ta := notT (truT (bltE isaIB (consA (varE 2) (consA (cstE (.ty "int")) nilA))))) (a := false) (σ := [some (.tup xs), some (.int (b : Int)), some (.int i)]) (h := h) rfl (fun _ => or_ok (ta := truT (bltE isaIB (consA (varE 2) (consA (cstE (.ty "bool")) nilA)))) (a := false) rfl (fun _ => not_ok c3) (fun z => by cases z)) (fun z => by cases z)
          rw [q]
          unfold cellB
          congr 1
          rw [Bool.false_or, Bool.false_or]
          congr 2
          rw [decide_eq_decide]
          have : (10 : Int) ^ (18 : Int).toNat = 1000000000000000000 := by decide
          rw [this]
          omega
        | bl b => rfl
        | non => rfl
        | str z => rfl
        | tup z => rfl
        | lst z => rfl
        | dct z w => rfl
        | ref n => cases ky
        | scr n => cases ky
        | ty n => cases ky
        | glo n => cases ky
        | exc a b c d => cases ky
        | fn a b c d f g => cases ky), fun _ => rfl⟩
    have fin := bin_ok (g := eqNilI) lc (fb := lstE (capA nilA)) (u := .lst []) rfl eq_nilL
    rw [empty_filter] at fin
    show _ = Out.ok (IV.bl (decide (1 ≤ xs.length) && decide (xs.length ≤ b) && xs.all cellB)) h
    cases d : decide (1 ≤ xs.length) && decide (xs.length ≤ b) with
    | true =>
      rw [d] at c
      have st := if_ok (f := seqS (retS (cstE (.bl false))) nextS) (g := nextS) (b := false) c (o := .nx (startI 3 [.tup xs, .int (b : Int)]) h) rfl
      have r := def_rt ((seq_nx st).trans (ret_ok' fin))
      show c__law_is_cells [.tup xs, .int (b : Int)] h = _
      refine r.trans ?_
      simp only [Bool.not_not, Bool.true_and]
    | false =>
      rw [d] at c
      have st := if_ok (f := seqS (retS (cstE (.bl false))) nextS) (g := nextS) (b := true) c (o := .rt (.bl false) h) rfl
      exact def_rt (seq_rt st)
  | ref n => cases k
  | scr n => cases k
  | ty n => cases k
  | glo n => cases k
  | exc a b c d => cases k
  | fn a b c d f g => cases k
  | _ => exact no rfl
end K17
namespace K17
open PySem PySem.Spec PyProof.Rows EV
open L2 hiding eqV keyOf
def rowB : IV → Bool
  | .tup [a, b] => cellsB 1 3 a && cellsB 1 8 b
  | _ => false
theorem cells_ints : ∀ {xs : List IV}, xs.all cellB = true → ∃ L : List Int, xs = iL L
  | [], _ => ⟨[], rfl⟩
  | x :: xs, k => by
    obtain ⟨k1, k2⟩ := Bool.and_eq_true_iff.mp (show (cellB x && xs.all cellB) = true from k)
    obtain ⟨L, rfl⟩ := cells_ints k2
    cases x with
    | int i => exact ⟨i :: L, rfl⟩
    | _ => cases k1
theorem cellsB_tI {a b : Nat} {v : IV} (k : cellsB a b v = true) : ∃ L : List Int, v = tI L := by
  cases v with
  | tup xs =>
    obtain ⟨_, k2⟩ := Bool.and_eq_true_iff.mp (show (decide (a ≤ xs.length) && decide (xs.length ≤ b) && xs.all cellB) = true from k)
    obtain ⟨L, rfl⟩ := cells_ints k2
    exact ⟨L, rfl⟩
  | _ => cases k
theorem rowB_rw {v : IV} (k : rowB v = true) : ∃ r : Rw, v = rwV r := by
  unfold rowB at k
  split at k
  · obtain ⟨k1, k2⟩ := Bool.and_eq_true_iff.mp k
    obtain ⟨L, rfl⟩ := cellsB_tI k1
    obtain ⟨M, rfl⟩ := cellsB_tI k2
    exact ⟨(L, M), rfl⟩
  · cases k
theorem rows_rw : ∀ {xs : List IV}, xs.all rowB = true → ∃ R : List Rw, xs = R.map rwV
  | [], _ => ⟨[], rfl⟩
  | x :: xs, k => by
    obtain ⟨k1, k2⟩ := Bool.and_eq_true_iff.mp (show (rowB x && xs.all rowB) = true from k)
    obtain ⟨R, rfl⟩ := rows_rw k2
    obtain ⟨r, rfl⟩ := rowB_rw k1
    exact ⟨r :: R, rfl⟩
theorem two_len {xs : List IV} (h : xs.length = 2) : ∃ a b, xs = [a, b] := by
  match xs, h with
  | [a, b], _ => exact ⟨a, b, rfl⟩
theorem rowB_len {xs : List IV} (h : xs.length ≠ 2) : rowB (.tup xs) = false := by
  match xs, h with
  | [], _ => rfl
  | [a], _ => rfl
  | [a, b], h => exact absurd rfl h
  | a :: b :: c :: r, _ => rfl
theorem ev_is_row {v : IV} {h : IH} (k : kd 2 v = true) : c_is_row [v] h = .ok (.bl (rowB v)) h := by
  have i := isa_tup (h := h) (kd_0 k)
  have e0 : bltE isaIB (consA (varE 0) (consA (cstE (.ty "tuple")) nilA)) (startI 1 [v]) h = .ok (.bl (isTupB v)) h := blt_ok (arg_ok rfl (arg_ok rfl rfl)) i
  have no : isTupB v = false → c_is_row [v] h = .ok (.bl false) h := fun z => by
    rw [z] at e0
    exact def_rt (ret_ok' (and_e (a := false) (b := false) e0 (fun z => by cases z)))
  cases v with
  | tup xs =>
    have e1 := bin_ok (g := eqDI) (len_tup (i := 0) (σ := startI 1 [.tup xs]) (h := h) rfl) (fb := cstE (.int 2)) (u := .int 2) rfl eq_int
    by_cases z : xs.length = 2
    · obtain ⟨a, b, rfl⟩ := two_len z
      obtain ⟨_, kk⟩ := kd_tup k
      have ea : binE subD (varE 0) (cstE (.int 0)) (startI 1 [.tup [a, b]]) h = .ok a h := rfl
      have eb : binE subD (varE 0) (cstE (.int 1)) (startI 1 [.tup [a, b]]) h = .ok b h := rfl
      have c1 := call_ok (np := 1) (c := c_is_key) (arg_ok (fs := nilA) ea rfl) rfl (ev_is_key (h := h) (kk a (by simp)))
      have c2 := call_ok (np := 1) (c := c_is_row_value) (arg_ok (fs := nilA) eb rfl) rfl (ev_is_val (h := h) (kk b (by simp)))
      exact def_rt (ret_ok' (and_e (a := true) e0 (fun _ => and_e (a := true) e1 (fun _ => and_e c1 (fun _ => c2)))))
    · rw [decide_eq_false (by omega)] at e1
      rw [rowB_len z]
      exact def_rt (ret_ok' (and_e (a := true) (b := false) e0 (fun _ => and_e (a := false) (b := false) e1 (fun z => by cases z))))
  | ref n => cases k
  | scr n => cases k
  | ty n => cases k
  | glo n => cases k
  | exc a b c d => cases k
  | fn a b c d f g => cases k
  | _ => exact no rfl
def kx : IV → List Int
  | .tup (.tup ks :: _) => ks.filterMap fun
    | .int i => some i
    | _ => none
  | _ => []
theorem kx_rw (r : Rw) : kx (rwV r) = r.1 := by
  show (r.1.map IV.int).filterMap _ = _
  rw [List.filterMap_map]
  exact List.filterMap_some
def adjB (xs : List IV) : Bool := (xs.zip (xs.drop 1)).all fun p => ltB (kx p.1) (kx p.2)
def rowsJ : IV → Bool
  | .tup xs => xs.all rowB && adjB xs
  | _ => false
theorem zip_of {fs : IE → M (List IV)} {σ : IE} {h : IH} {xs ys : List IV} (e : fs σ h = .ok [.tup xs, .tup ys] h) : zipAny fs σ h = .ok (zipV xs ys) h := by
  unfold zipAny
  rw [e]
  rfl
theorem lc_pair {σ : IE} {h : IH} {fi : IE → M (List IV)} {g : TM} {t : IE → M Bool} {f : IE → M IV} {ws : List Nat} (T : IV × IV → Bool) (F : IV × IV → IV) (xs ys : List IV) (e : fi σ h = .ok (zipV xs ys) h) (hl : xs.length ≤ 900)
    (H : ∀ y ∈ xs.zip ys, ∃ σ1, g (.tup [y.1, y.2]) (wipeI σ ws) h = some (σ1, h) ∧ t σ1 h = .ok (T y) h ∧ (T y = true → f σ1 h = .ok (F y) h)) : lcI fi g t f ws σ h = .ok (.lst (((xs.zip ys).filter T).map F)) h :=
  lc_typ (fi := fi) (h := h) (σ := σ) (fun y : IV × IV => .tup [y.1, y.2]) T F (xs.zip ys) e (by rw [List.length_zip]; omega) H
theorem sli_1 {xs : List IV} {i : Nat} {σ : IE} {h : IH} (e : σ[i]? = some (some (.tup xs))) : sliE (varE i) (someO (cstE (.int 1))) noneO σ h = .ok (.tup (xs.drop 1)) h := sli_from (j := 1) (var_ok e) rfl
theorem rw_mem {R : List Rw} {p : IV × IV} (m : p ∈ (R.map rwV).zip ((R.map rwV).drop 1)) : ∃ a b : Rw, p = (rwV a, rwV b) := by
  obtain ⟨h1, h2⟩ := List.of_mem_zip (show (p.1, p.2) ∈ _ from m)
  obtain ⟨a, _, ea⟩ := List.mem_map.mp h1
  obtain ⟨b, _, eb⟩ := List.mem_map.mp (List.mem_of_mem_drop h2)
  exact ⟨a, b, by rw [ea, eb]⟩
theorem ev_are_rows {v : IV} {h : IH} (k : kd 3 v = true) : c_are_rows [v] h = .ok (.bl (rowsJ v)) h := by
  have i := isa_tup (h := h) (kd_0 k)
  have e0 : notT (truT (bltE isaIB (consA (varE 0) (consA (cstE (.ty "tuple")) nilA)))) (startI 3 [v]) h = .ok (!isTupB v) h := not_ok (tru_bl (blt_ok (arg_ok rfl (arg_ok rfl rfl)) i))
  have no : isTupB v = false → c_are_rows [v] h = .ok (.bl false) h := fun z => by
    rw [z] at e0
    exact def_rt (seq_rt (if_ok (b := true) (or_ok (a := true) (b := true) e0 (fun z => by cases z) (fun _ => rfl)) rfl))
  cases v with
  | tup xs =>
    obtain ⟨lx, kk⟩ := kd_tup k
    have e1 := cmp_ok (g := ordE .Gt) (len_tup (i := 0) (σ := startI 3 [.tup xs]) (h := h) rfl) (fb := cstE (.int 2000)) (u := .int 2000) rfl gt_ints
    rw [decide_eq_false (by omega)] at e1
    have lc := lc_id (σ := startI 3 [.tup xs]) (h := h) (fi := anyIt (varE 0)) (g := gNm 1) (f := callE none 1 c_is_row (consA (varE 1) nilA)) (ws := [1]) (fun y => .bl (rowB y)) xs (any_tup rfl) (by omega) fun y hy => ⟨[some (.tup xs), some y, none], rfl, call_ok (arg_ok rfl rfl) rfl (ev_is_row (kk y hy))⟩
    have e2 := not_ok (tru_bl (blt_ok (r := allI) (arg_ok (fs := nilA) lc rfl) all_lst))
    have c := or_ok (a := false) e0 (fun _ => or_ok e1 (fun _ => e2) (fun z => by cases z)) (fun z => by cases z)
    rw [Bool.false_or, Bool.false_or] at c
    show _ = Out.ok (IV.bl (xs.all rowB && adjB xs)) h
    cases q : xs.all rowB with
    | false =>
      rw [q] at c
      exact def_rt (seq_rt (if_ok (b := true) c rfl))
    | true =>
      rw [q] at c
      obtain ⟨R, rfl⟩ := rows_rw q
      have lz := lc_pair (σ := startI 3 [.tup (R.map rwV)]) (h := h) (fi := zipAny (consA (varE 0) (consA (sliE (varE 0) (someO (cstE (.int 1))) noneO) nilA))) (g := gTp 2 (gsCons (gNm 1) (gsCons (gNm 2) gsNil))) (t := yesT) (f := binE (ordE .Lt) (binE subD (varE 1) (cstE (.int 0))) (binE subD (varE 2) (cstE (.int 0)))) (ws := [1, 2])
        (fun _ => true) (fun p => .bl (ltB (kx p.1) (kx p.2))) (R.map rwV) ((R.map rwV).drop 1) (zip_of (arg_ok rfl (arg_ok (sli_1 rfl) rfl))) lx fun p hp => by
          obtain ⟨a, b, rfl⟩ := rw_mem hp
          refine ⟨[some (.tup (R.map rwV)), some (rwV a), some (rwV b)], rfl, rfl, fun _ => ?_⟩
          rw [kx_rw, kx_rw]
          exact bin_ok (v := tI a.1) (u := tI b.1) rfl rfl lt_tI
      rw [filter_yes] at lz
      have al := blt_ok (r := allI) (arg_ok (fs := nilA) lz rfl) (all_ok (f := fun p : IV × IV => ltB (kx p.1) (kx p.2)))
      have st := if_ok (f := seqS (retS (cstE (.bl false))) nextS) (g := nextS) (b := false) c (o := .nx (startI 3 [.tup (R.map rwV)]) h) rfl
      exact def_rt ((seq_nx st).trans (ret_ok' al))
  | ref n => cases k
  | scr n => cases k
  | ty n => cases k
  | glo n => cases k
  | exc a b c d => cases k
  | fn a b c d f g => cases k
  | _ => exact no rfl
theorem for_nx' {fi : IE → M (List IV)} {g : TM} {f : SM} {σ : IE} {h h1 : IH} {xs : List IV} {o : SOut} (e : fi σ h = .ok xs h1) (e2 : forL g f xs σ h1 = o) : forS fi g f σ h = o := by
  unfold forS
  rw [e]
  exact e2
theorem forL_rt {g : TM} {f : SM} {x : IV} {rest : List IV} {σ σ1 : IE} {h h1 h2 : IH} {w : IV} (e1 : g x σ h = some (σ1, h1)) (e2 : f σ1 h1 = .rt w h2) : forL g f (x :: rest) σ h = .rt w h2 := by
  rw [forL]
  simp only [e1, e2]
theorem for_bad {g : TM} {f : SM} {h : IH} (bad : IV → Bool) (w : IV) (F : Option IV → IE) : ∀ (xs : List IV) (x : Option IV), (∀ y ∈ xs, ∀ x, g y (F x) h = some (F (some y), h) ∧ f (F (some y)) h = if bad y = true then .rt w h else .nx (F (some y)) h) →
    ∃ x', forL g f xs (F x) h = if xs.any bad = true then .rt w h else .nx (F x') h
  | [], x, _ => ⟨x, rfl⟩
  | y :: ys, x, k => by
    obtain ⟨e1, e2⟩ := k y List.mem_cons_self x
    rw [List.any_cons]
    cases q : bad y with
    | true =>
      rw [q, if_pos rfl] at e2
      exact ⟨x, by rw [forL_rt e1 e2]; rfl⟩
    | false =>
      rw [q, if_neg (by simp)] at e2
      obtain ⟨x', e⟩ := for_bad bad w F ys (some y) fun z hz => k z (List.mem_cons_of_mem _ hz)
      exact ⟨x', by rw [forL_nx e1 e2, e]; rfl⟩
theorem ev_law_rows {v : IV} {h : IH} (k : kd 3 v = true) : c__law_are_rows [v] h = .ok (.bl (rowsJ v)) h := by
  have i := isa_tup (h := h) (kd_0 k)
  have e0 : notT (truT (bltE isaIB (consA (varE 0) (consA (cstE (.ty "tuple")) nilA)))) (startI 3 [v]) h = .ok (!isTupB v) h := not_ok (tru_bl (blt_ok (arg_ok rfl (arg_ok rfl rfl)) i))
  have no : isTupB v = false → c__law_are_rows [v] h = .ok (.bl false) h := fun z => by
    rw [z] at e0
    exact def_rt (seq_rt (if_ok (b := true) e0 rfl))
  cases v with
  | tup xs =>
    obtain ⟨lx, kk⟩ := kd_tup k
    have st := if_ok (f := seqS (retS (cstE (.bl false))) nextS) (g := nextS) (b := false) e0 (o := .nx (startI 3 [.tup xs]) h) rfl
    obtain ⟨x', lp⟩ := for_bad (g := gNm 1) (f := seqS (ifS (orT (notT (truT (bltE isaIB (consA (varE 1) (consA (cstE (.ty "tuple")) nilA))))) (orT (cmpT neDI (bltE lenI (consA (varE 1) nilA)) (cstE (.int 2))) (orT (notT (truT (callE none 2 c__law_is_cells (consA (binE subD (varE 1) (cstE (.int 0))) (consA (cstE (.int 3)) nilA))))) (notT (truT (callE none 2 c__law_is_cells (consA (binE subD (varE 1) (cstE (.int 1))) (consA (cstE (.int 8)) nilA)))))))) (seqS (retS (cstE (.bl false))) nextS) nextS) nextS) (h := h)
      (fun y => !rowB y) (.bl false) (fun x => [some (.tup xs), x, none]) xs none fun y hy x => ⟨rfl, by
        have ky := kk y hy
        have iy := isa_tup (h := h) (kd_0 ky)
        have c0 : notT (truT (bltE isaIB (consA (varE 1) (consA (cstE (.ty "tuple")) nilA)))) [some (.tup xs), some y, none] h = .ok (!isTupB y) h := not_ok (tru_bl (blt_ok (arg_ok rfl (arg_ok rfl rfl)) iy))
        have fin : ∀ {b : Bool}, orT (notT (truT (bltE isaIB (consA (varE 1) (consA (cstE (.ty "tuple")) nilA))))) (orT (cmpT neDI (bltE lenI (consA (varE 1) nilA)) (cstE (.int 2))) (orT (notT (truT (callE none 2 c__law_is_cells (consA (binE subD (varE 1) (cstE (.int 0))) (consA (cstE (.int 3)) nilA))))) (notT (truT (callE none 2 c__law_is_cells (consA (binE subD (varE 1) (cstE (.int 1))) (consA (cstE (.int 8)) nilA))))))) [some (.tup xs), some y, none] h = .ok b h →
          seqS (ifS (orT (notT (truT (bltE isaIB (consA (varE 1) (consA (cstE (.ty "tuple")) nilA))))) (orT (cmpT neDI (bltE lenI (consA (varE 1) nilA)) (cstE (.int 2))) (orT (notT (truT (callE none 2 c__law_is_cells (consA (binE subD (varE 1) (cstE (.int 0))) (consA (cstE (.int 3)) nilA))))) (notT (truT (callE none 2 c__law_is_cells (consA (binE subD (varE 1) (cstE (.int 1))) (consA (cstE (.int 8)) nilA)))))))) (seqS (retS (cstE (.bl false))) nextS) nextS) nextS [some (.tup xs), some y, none] h = if b = true then .rt (.bl false) h else .nx [some (.tup xs), some y, none] h := fun {b} e => by
          cases b with
          | true => exact seq_rt (if_ok (b := true) e rfl)
          | false => exact (seq_nx (if_ok (f := seqS (retS (cstE (.bl false))) nextS) (g := nextS) (b := false) e (o := .nx [some (.tup xs), some y, none] h) rfl)).trans rfl
        refine fin ?_
        have not : isTupB y = false → orT (notT (truT (bltE isaIB (consA (varE 1) (consA (cstE (.ty "tuple")) nilA))))) (orT (cmpT neDI (bltE lenI (consA (varE 1) nilA)) (cstE (.int 2))) (orT (notT (truT (callE none 2 c__law_is_cells (consA (binE subD (varE 1) (cstE (.int 0))) (consA (cstE (.int 3)) nilA))))) (notT (truT (callE none 2 c__law_is_cells (consA (binE subD (varE 1) (cstE (.int 1))) (consA (cstE (.int 8)) nilA))))))) [some (.tup xs), some y, none] h = .ok true h := fun z => by
          rw [z] at c0
          exact or_ok (a := true) (b := true) c0 (fun z => by cases z) (fun _ => rfl)
        cases y with
        | tup ys =>
          have e1 := cmp_ok (g := neDI) (len_tup (i := 1) (σ := [some (.tup xs), some (.tup ys), none]) (h := h) rfl) (fb := cstE (.int 2)) (u := .int 2) rfl ne_int
          by_cases z : ys.length = 2
          · obtain ⟨a, b, rfl⟩ := two_len z
            obtain ⟨_, k2⟩ := kd_tup ky
            have ea : binE subD (varE 1) (cstE (.int 0)) [some (.tup xs), some (.tup [a, b]), none] h = .ok a h := rfl
            have eb : binE subD (varE 1) (cstE (.int 1)) [some (.tup xs), some (.tup [a, b]), none] h = .ok b h := rfl
            have c1 := not_ok (tru_bl (call_ok (np := 2) (c := c__law_is_cells) (arg_ok ea (arg_ok (fa := cstE (.int 3)) (fs := nilA) rfl rfl)) rfl (ev_law_cells (h := h) (b := 3) (k2 a (by simp)))))
            have c2 := not_ok (tru_bl (call_ok (np := 2) (c := c__law_is_cells) (arg_ok eb (arg_ok (fa := cstE (.int 8)) (fs := nilA) rfl rfl)) rfl (ev_law_cells (h := h) (b := 8) (k2 b (by simp)))))
            have q := or_ok (a := false) c0 (fun _ => or_ok (a := false) e1 (fun _ => or_ok c1 (fun _ => c2) (fun _ => rfl)) (fun z => by cases z)) (fun z => by cases z)
            rw [q]
            show Out.ok (false || (false || (!cellsB 1 3 a || !cellsB 1 8 b))) h = Out.ok (!(cellsB 1 3 a && cellsB 1 8 b)) h
            cases cellsB 1 3 a <;> cases cellsB 1 8 b <;> rfl
          · rw [decide_eq_false (by omega)] at e1
            show _ = Out.ok (!rowB (.tup ys)) h
            rw [rowB_len z]
            exact or_ok (a := false) c0 (fun _ => or_ok (a := true) (b := true) e1 (fun z => by cases z) (fun _ => rfl)) (fun z => by cases z)
        | ref n => cases ky
        | scr n => cases ky
        | ty n => cases ky
        | glo n => cases ky
        | exc a b c d => cases ky
        | fn a b c d f g => cases ky
        | _ => exact not rfl⟩
    have an : xs.any (fun y => !rowB y) = !xs.all rowB := by
      clear lp st e0 i k kk lx no
      induction xs with
      | nil => rfl
      | cons x xs ih => rw [List.any_cons, List.all_cons, ih, Bool.not_and]
    rw [an] at lp
    have fs := for_nx' (any_tup (fa := varE 0) (σ := startI 3 [.tup xs]) (h := h) rfl) lp
    show _ = Out.ok (IV.bl (xs.all rowB && adjB xs)) h
    cases q : xs.all rowB with
    | false =>
      rw [q] at fs
      exact def_rt ((seq_nx st).trans (seq_rt fs))
    | true =>
      rw [q] at fs
      obtain ⟨R, rfl⟩ := rows_rw q
      have lz := lc_pair (σ := [some (.tup (R.map rwV)), x', none]) (h := h) (fi := zipAny (consA (varE 0) (consA (sliE (varE 0) (someO (cstE (.int 1))) noneO) nilA))) (g := gTp 2 (gsCons (gNm 1) (gsCons (gNm 2) gsNil))) (t := notT (cmpT (ordE .Lt) (binE subD (varE 1) (cstE (.int 0))) (binE subD (varE 2) (cstE (.int 0))))) (f := cstE (.int 1)) (ws := [1, 2])
        (fun p => !ltB (kx p.1) (kx p.2)) (fun _ => .int 1) (R.map rwV) ((R.map rwV).drop 1) (zip_of (arg_ok rfl (arg_ok (sli_1 rfl) rfl))) lx fun p hp => by
          obtain ⟨a, b, rfl⟩ := rw_mem hp
          refine ⟨[some (.tup (R.map rwV)), some (rwV a), some (rwV b)], rfl, ?_, fun _ => rfl⟩
          rw [kx_rw, kx_rw]
          exact not_ok (cmp_ok (v := tI a.1) (u := tI b.1) rfl rfl lt_tI)
      have fin := bin_ok (g := eqNilI) lz (fb := lstE (capA nilA)) (u := .lst []) rfl eq_nilL
      have em : ((((R.map rwV).zip ((R.map rwV).drop 1)).filter fun p => !ltB (kx p.1) (kx p.2)).map fun _ => IV.int 1).isEmpty = adjB (R.map rwV) := by
        unfold adjB
        induction ((R.map rwV).zip ((R.map rwV).drop 1)) with
        | nil => rfl
        | cons x xs ih =>
          rw [List.filter_cons, List.all_cons, ← ih]
          cases ltB (kx x.1) (kx x.2) <;> simp
      rw [em] at fin
      exact def_rt ((seq_nx st).trans ((seq_nx fs).trans (ret_ok' fin)))
  | ref n => cases k
  | scr n => cases k
  | ty n => cases k
  | glo n => cases k
  | exc a b c d => cases k
  | fn a b c d f g => cases k
  | _ => exact no rfl
end K17
namespace K17
open PySem PySem.Spec PyProof.Rows EV
open L2 hiding eqV keyOf
abbrev rowsV (R : List Rw) : IV := .tup (R.map rwV)
def flat1 (r : Rw) : List Int := ((r.1.length : Int) :: r.1) ++ ((r.2.length : Int) :: r.2)
def flatR (R : List Rw) : List Int := R.flatMap flat1
theorem flatR_cons (r : Rw) (R : List Rw) : flatR (r :: R) = flat1 r ++ flatR R := by unfold flatR; rw [List.flatMap_cons]
theorem flatR_app (A B : List Rw) : flatR (A ++ B) = flatR A ++ flatR B := by unfold flatR; rw [List.flatMap_append]
theorem flat1_len (r : Rw) : (flat1 r).length = r.1.length + r.2.length + 2 := by unfold flat1; simp; omega
def okR (r : Rw) : Prop := (1 ≤ r.1.length ∧ r.1.length ≤ 3) ∧ 1 ≤ r.2.length ∧ r.2.length ≤ 8
def inR (r : Rw) : Prop := (∀ x ∈ r.1, 0 ≤ x ∧ x ≤ 999999999999999999) ∧ ∀ x ∈ r.2, 0 ≤ x ∧ x ≤ 999999999999999999
theorem partF_at {pre k rest : List Int} {m : Nat} (hk : 1 ≤ k.length) (hm : k.length ≤ m) : partF (pre ++ ((k.length : Int) :: (k ++ rest))) pre.length (m : Int) = some (k, pre.length + 1 + k.length) := by
  unfold partF
  rw [List.getElem?_append_right (Nat.le_refl _), Nat.sub_self]
  show (if 1 ≤ (k.length : Int) ∧ (k.length : Int) ≤ (m : Int) ∧ ((pre.length : Int)) + (k.length : Int) < ((pre ++ ((k.length : Int) :: (k ++ rest))).length : Int) then _ else _) = _
  rw [if_pos ⟨by omega, by omega, by simp; omega⟩]
  have e : (pre ++ ((k.length : Int) :: (k ++ rest))).drop (pre.length + 1) = k ++ rest := by
    rw [List.drop_append]
    simp
  rw [e, Int.toNat_natCast, List.take_left']
  rfl
theorem rowF_at {pre rest : List Int} {r : Rw} (o : okR r) : rowF (pre ++ (flat1 r ++ rest)) pre.length = some (r.1, r.2, (pre ++ flat1 r).length) := by
  have e1 : pre ++ (flat1 r ++ rest) = pre ++ ((r.1.length : Int) :: (r.1 ++ ((r.2.length : Int) :: (r.2 ++ rest)))) := by unfold flat1; simp
  have e2 : pre ++ (flat1 r ++ rest) = (pre ++ ((r.1.length : Int) :: r.1)) ++ ((r.2.length : Int) :: (r.2 ++ rest)) := by unfold flat1; simp
  have p1 : partF (pre ++ (flat1 r ++ rest)) pre.length 3 = some (r.1, pre.length + 1 + r.1.length) := by rw [e1]; exact partF_at (m := 3) o.1.1 o.1.2
  have p2 : partF (pre ++ (flat1 r ++ rest)) (pre.length + 1 + r.1.length) 8 = some (r.2, pre.length + 1 + r.1.length + 1 + r.2.length) := by
    have := partF_at (pre := pre ++ ((r.1.length : Int) :: r.1)) (k := r.2) (rest := rest) (m := 8) o.2.1 o.2.2
    rw [← e2] at this
    have el : (pre ++ ((r.1.length : Int) :: r.1)).length = pre.length + 1 + r.1.length := by simp; omega
    rw [el] at this
    exact this
  unfold rowF
  rw [p1]
  show (match partF (pre ++ (flat1 r ++ rest)) (pre.length + 1 + r.1.length) 8 with
    | none => none
    | some q => some (r.1, q.1, q.2)) = _
  rw [p2]
  show some (r.1, r.2, pre.length + 1 + r.1.length + 1 + r.2.length) = _
  rw [List.length_append, flat1_len]
  congr 3
  omega
theorem Asc.last {A B : List Rw} {r : Rw} (a : Asc (A ++ r :: B)) : okLast A r.1 = true := by
  have p := List.pairwise_append.mp a
  have q : Asc A := p.1
  rw [← q.all r.1, List.isEmpty_iff, List.filter_eq_nil_iff]
  intro x hx
  rw [p.2.2 x hx r (by simp)]
  simp
theorem rowsF_flat : ∀ (B A : List Rw) (f : Nat), Asc (A ++ B) → (∀ r ∈ B, okR r) → B.length < f → rowsF (flatR (A ++ B)) f (flatR A).length A = some (A ++ B)
  | [], A, f + 1, _, _, _ => by
    unfold rowsF
    rw [List.append_nil, if_neg (by omega)]
  | r :: B, A, f + 1, a, o, hf => by
    have e : flatR (A ++ r :: B) = flatR A ++ (flat1 r ++ flatR B) := by rw [flatR_app, flatR_cons]
    have rf := rowF_at (pre := flatR A) (rest := flatR B) (r := r) (o r (by simp))
    rw [← e] at rf
    unfold rowsF
    rw [if_pos (by rw [e, List.length_append, List.length_append, flat1_len]; omega), rf]
    show (if okLast A r.1 = true then rowsF (flatR (A ++ r :: B)) f (flatR A ++ flat1 r).length (A ++ [(r.1, r.2)]) else none) = _
    rw [if_pos a.last]
    have ih := rowsF_flat B (A ++ [r]) f (by rw [List.append_assoc]; exact a) (fun q hq => o q (List.mem_cons_of_mem _ hq)) (by simp at hf; omega)
    rw [List.append_assoc] at ih
    have e2 : flatR (A ++ [r]) = flatR A ++ flat1 r := by rw [flatR_app, flatR_cons]; unfold flatR; simp
    rw [e2] at ih
    exact ih
theorem flat_ge : ∀ (R : List Rw), R.length ≤ (flatR R).length
  | [] => Nat.zero_le _
  | r :: R => by rw [flatR_cons, List.length_append, flat1_len]; have := flat_ge R; simp; omega
theorem flat_le : ∀ {R : List Rw}, (∀ r ∈ R, okR r) → (flatR R).length ≤ 13 * R.length
  | [], _ => Nat.zero_le _
  | r :: R, o => by
    rw [flatR_cons, List.length_append, flat1_len]
    have := flat_le fun q hq => o q (List.mem_cons_of_mem r hq)
    obtain ⟨⟨_, _⟩, _, _⟩ := o r (by simp)
    simp; omega
theorem rows_back {R : List Rw} (a : Asc R) (o : ∀ r ∈ R, okR r) : rowsF (flatR R) ((flatR R).length + 1) 0 [] = some R :=
  rowsF_flat R [] _ a o (by have := flat_ge R; omega)
def optRs : Option (List Rw) → IV
  | none => .non
  | some R => rowsV R
theorem pure_rows (R : List Rw) : pureV (rowsV R) = true := pure_rw R
theorem all_cells {L : List Int} (k : ∀ x ∈ L, 0 ≤ x ∧ x ≤ 999999999999999999) : (iL L).all cellB = true := by
  rw [List.all_eq_true]
  intro v hv
  obtain ⟨x, hx, rfl⟩ := List.mem_map.mp hv
  show (decide (0 ≤ x) && decide (x ≤ 999999999999999999)) = true
  rw [decide_eq_true (k x hx).1, decide_eq_true (k x hx).2]
  rfl
theorem kd_ints {n : Nat} (L : List Int) : (iL L).all (kd n) = true := by
  rw [List.all_eq_true]
  intro v hv
  obtain ⟨x, hx, rfl⟩ := List.mem_map.mp hv
  cases n <;> rfl
theorem kd_tI {n : Nat} {L : List Int} (hl : L.length ≤ 900) : kd (n + 1) (tI L) = true := by
  show (decide ((iL L).length ≤ 900) && (iL L).all (kd n)) = true
  rw [kd_ints, decide_eq_true (by rw [List.length_map]; exact hl)]
  rfl
theorem cellsB_of {a b : Nat} {L : List Int} (k : ∀ x ∈ L, 0 ≤ x ∧ x ≤ 999999999999999999) (ha : a ≤ L.length) (hb : L.length ≤ b) : cellsB a b (tI L) = true := by
  show (decide (a ≤ (iL L).length) && decide ((iL L).length ≤ b) && (iL L).all cellB) = true
  rw [all_cells k, decide_eq_true (by rw [List.length_map]; exact ha), decide_eq_true (by rw [List.length_map]; exact hb)]
  rfl
theorem ev_rows_told {L : List Int} {h : IH} (ph : pureH h = true) (hl : L.length ≤ 800) (k : ∀ x ∈ L, 0 ≤ x ∧ x ≤ 999999999999999999) : c_rows_told [tI L] h = .ok (optRs (rowsF L (L.length + 1) 0 [])) h := by
  have c1 := ev_are_cells (v := tI L) (h := h) (a := 0) (b := 30000) (kd_tI (by omega))
  rw [cellsB_of k (Nat.zero_le _) (by omega)] at c1
  have c := not_ok (tru_bl (call_ok (np := 3) (c := c_are_cells) (fs := consA (varE 0) (consA (cstE (.int 0)) (consA (cstE (.int 30000)) nilA))) (σ := startI 1 [tI L]) (h := h) rfl rfl c1))
  have st := if_ok (f := seqS (raiS 1) nextS) (g := nextS) (b := false) c (o := .nx (startI 1 [tI L]) h) rfl
  refine def_rt ((seq_nx st).trans (ret_ok' ?_))
  refine callz_ok (vs := [tI L]) rfl rfl ?_
  rcases ev_rows' (L := L) (h := h) hl with ⟨res, e1, e2⟩ | ⟨e1, o, e2, po⟩
  · rw [e1, e2]
    exact settle_pure ph (pure_rows res)
  · rw [e1, e2]
    exact settle_pure ph rfl
theorem ev_law_read {L : List Int} {h : IH} {fs : IE → M (List IV)} {σ : IE} (ph : pureH h = true) (hl : L.length ≤ 800) (e : fs σ h = .ok [tI L] h) : callE (some true) 1 c__law_read fs σ h = .ok (optRs (rowsF L (L.length + 1) 0 [])) h := by
  refine callz_ok (vs := [tI L]) e rfl ?_
  rcases ev_law_read' (L := L) (h := h) hl with ⟨res, e1, e2⟩ | ⟨e1, o, e2, po⟩
  · rw [e1, e2]
    exact settle_pure ph (pure_rows res)
  · rw [e1, e2]
    exact settle_pure ph rfl
theorem star_tup {fa : IE → M IV} {fs : IE → M (List IV)} {σ : IE} {h : IH} {xs vs : List IV} (e : fa σ h = .ok (.tup xs) h) (e2 : fs σ h = .ok vs h) : starA fa fs σ h = .ok (xs ++ vs) h := by
  unfold starA
  rw [e]
  show (match itemsOf h (.tup xs) with
    | some xs => (fs σ h).bind fun vs h => Out.ok (xs ++ vs) h
    | none => .no) = _
  show ((fs σ h).bind fun vs h => Out.ok (xs ++ vs) h) = _
  rw [e2]
  rfl
theorem len_tI {L : List Int} {i : Nat} {σ : IE} {h : IH} (e : σ[i]? = some (some (tI L))) : bltE lenI (consA (varE i) nilA) σ h = .ok (.int (L.length : Int)) h := by
  have := len_tup (h := h) e
  rw [List.length_map] at this
  exact this
theorem ev_cells_of {r : Rw} {h : IH} (hl : r.1.length + r.2.length ≤ 900) : c_cells_of_row [tI r.1, tI r.2] h = .ok (tI (flat1 r)) h := by
  refine def_rt (ret_ok' ?_)
  have a := arg_ok (len_tI (i := 0) (L := r.1) (σ := startI 2 [tI r.1, tI r.2]) (h := h) rfl) (star_tup (fa := varE 0) (xs := iL r.1) rfl (arg_ok (len_tI (i := 1) (L := r.2) rfl) (star_tup (fa := varE 1) (xs := iL r.2) (fs := nilA) (vs := []) rfl rfl)))
  have t := tup_ok a (by simp; omega)
  rw [t]
  unfold flat1
  simp
theorem ev_own_cells {R : List Rw} {h : IH} (hl : (flatR R).length ≤ 900) : c__law_own_cells [rowsV R] h = .ok (tI (flatR R)) h := by
  have s1 : asgS (tupE nilA) (gNm 1) (startI 4 [rowsV R]) h = .nx [some (rowsV R), some (tI []), none, none] h := rfl
  obtain ⟨σ', h', e, rfl, acc, x, y, rfl, ea⟩ := for_inv (g := gTp 2 (gsCons (gNm 2) (gsCons (gNm 3) gsNil))) (f := seqS (asgS (binE addI (binE addI (binE addI (binE addI (varE 1) (tupE (consA (bltE lenI (consA (varE 2) nilA)) nilA))) (varE 2)) (tupE (consA (bltE lenI (consA (varE 3) nilA)) nilA))) (varE 3)) (gNm 1)) nextS)
    rwV (fun ys σ h' => h' = h ∧ ∃ (acc : List Int) (x y : Option IV), σ = [some (rowsV R), some (tI acc), x, y] ∧ acc ++ flatR ys = flatR R)
    (fun r ys σ h' => by
      rintro ⟨rfl, acc, x, y, rfl, ea⟩
      have ll : acc.length + r.1.length + r.2.length + 2 ≤ 900 := by
        have := congrArg List.length ea
        rw [flatR_cons, List.length_append, List.length_append, flat1_len] at this
        omega
      refine ⟨[some (rowsV R), some (tI acc), some (tI r.1), some (tI r.2)], h', [some (rowsV R), some (tI (acc ++ flat1 r)), some (tI r.1), some (tI r.2)], h', rfl, ?_, rfl, acc ++ flat1 r, _, _, rfl, by rw [List.append_assoc, ← flatR_cons]; exact ea⟩
      have t1 : tupE (consA (bltE lenI (consA (varE 2) nilA)) nilA) [some (rowsV R), some (tI acc), some (tI r.1), some (tI r.2)] h' = .ok (.tup [.int (r.1.length : Int)]) h' := tup_ok (arg_ok (len_tI (i := 2) rfl) rfl) (by simp)
      have t2 : tupE (consA (bltE lenI (consA (varE 3) nilA)) nilA) [some (rowsV R), some (tI acc), some (tI r.1), some (tI r.2)] h' = .ok (.tup [.int (r.2.length : Int)]) h' := tup_ok (arg_ok (len_tI (i := 3) rfl) rfl) (by simp)
      have a1 := bin_ok (g := addI) (fa := varE 1) (v := tI acc) rfl t1 (add_tup (by simp; omega))
      have a2 := bin_ok (g := addI) a1 (fb := varE 2) (u := tI r.1) rfl (add_tup (by simp; omega))
      have a3 := bin_ok (g := addI) a2 t2 (add_tup (by simp; omega))
      have a4 := bin_ok (g := addI) a3 (fb := varE 3) (u := tI r.2) rfl (add_tup (by simp; omega))
      have ee : IV.tup (iL acc ++ [IV.int (r.1.length : Int)] ++ iL r.1 ++ [IV.int (r.2.length : Int)] ++ iL r.2) = tI (acc ++ flat1 r) := by unfold flat1; simp
      rw [ee] at a4
      exact (seq_nx (asg_nm a4)).trans rfl)
    R [some (rowsV R), some (tI []), none, none] h ⟨rfl, [], none, none, rfl, rfl⟩
  have e0 : acc = flatR R := by rw [← ea]; unfold flatR; simp
  subst e0
  exact def_rt ((seq_nx s1).trans ((seq_nx (for_nx (any_tup rfl) e)).trans (ret_ok' rfl)))
theorem rowsJ_of {R : List Rw} (a : Asc R) (o : ∀ r ∈ R, okR r) (k : ∀ r ∈ R, inR r) : rowsJ (rowsV R) = true := by
  show ((R.map rwV).all rowB && adjB (R.map rwV)) = true
  rw [Bool.and_eq_true]
  constructor
  · rw [List.all_eq_true]
    intro v hv
    obtain ⟨r, hr, rfl⟩ := List.mem_map.mp hv
    obtain ⟨⟨o1, o2⟩, o3, o4⟩ := o r hr
    obtain ⟨k1, k2⟩ := k r hr
    show (cellsB 1 3 (tI r.1) && cellsB 1 8 (tI r.2)) = true
    rw [cellsB_of k1 o1 o2, cellsB_of k2 o3 o4]
    rfl
  · unfold adjB
    rw [List.all_eq_true]
    intro p hp
    obtain ⟨i, hi, rfl⟩ := List.getElem_of_mem hp
    rw [List.length_zip, List.length_drop, List.length_map] at hi
    rw [List.getElem_zip, List.getElem_drop, List.getElem_map, List.getElem_map, kx_rw, kx_rw]
    exact List.pairwise_iff_getElem.mp a i (1 + i) (by omega) (by omega) (by omega)
theorem kd_rw {n : Nat} {r : Rw} (o : okR r) : kd (n + 2) (rwV r) = true := by
  obtain ⟨⟨o1, o2⟩, o3, o4⟩ := o
  show (decide (2 ≤ 900) && (kd (n + 1) (tI r.1) && (kd (n + 1) (tI r.2) && true))) = true
  rw [kd_tI (by omega), kd_tI (by omega)]
  rfl
theorem kd_rows {R : List Rw} (o : ∀ r ∈ R, okR r) (hl : R.length ≤ 900) : kd 3 (rowsV R) = true := by
  show (decide ((R.map rwV).length ≤ 900) && (R.map rwV).all (kd 2)) = true
  rw [decide_eq_true (by rw [List.length_map]; exact hl), Bool.true_and, List.all_eq_true]
  intro v hv
  obtain ⟨r, hr, rfl⟩ := List.mem_map.mp hv
  exact kd_rw (o r hr)
theorem ext_ok {fa : IE → M IV} {σ : IE} {h : IH} {i : Nat} {xs zs : List IV} (ei : σ[i]? = some (some (.ref h.length))) (e : fa σ (h ++ [.lst xs]) = .ok (.tup zs) (h ++ [.lst xs])) (hl : xs.length + zs.length ≤ 16777216) : exprS (mthE "list" extM (varE i) (consA fa nilA)) σ (h ++ [.lst xs]) = .nx σ (h ++ [.lst (xs ++ zs)]) := by
  refine expr_ok (v := .non) (mth_ok (o := .ref h.length) (var_ok ei) (by simp only [tyName, get_last]) (arg_ok (fs := nilA) e rfl) ?_)
  show (match (h ++ [IO.lst xs])[h.length]?, some zs with
    | some (.lst ys), some zs => if ys.length + zs.length ≤ 16777216 then Out.ok IV.non ((h ++ [IO.lst xs]).set h.length (.lst (ys ++ zs))) else .no
    | _, _ => .no) = _
  rw [get_last]
  show (if xs.length + zs.length ≤ 16777216 then Out.ok IV.non ((h ++ [IO.lst xs]).set h.length (.lst (xs ++ zs))) else .no) = _
  rw [if_pos hl, set_last]
theorem ev_rows_cells {R : List Rw} {h : IH} {fs : IE → M (List IV)} {σ : IE} (ph : pureH h = true) (a : Asc R) (o : ∀ r ∈ R, okR r) (k : ∀ r ∈ R, inR r) (hl : R.length ≤ 12) (e0 : fs σ h = .ok [rowsV R] h) : callE (some true) 1 c_rows_cells fs σ h = .ok (tI (flatR R)) h := by
  have fl := flat_le o
  refine callz_ok e0 rfl ?_
  have j := ev_are_rows (h := h) (kd_rows o (by omega))
  rw [rowsJ_of a o k] at j
  have rq : c_require_rows [rowsV R] h = .ok .non h := by
    have c := not_ok (tru_bl (call_ok (np := 1) (c := c_are_rows) (fs := consA (varE 0) nilA) (σ := startI 1 [rowsV R]) (h := h) rfl rfl j))
    have st := if_ok (f := seqS (raiS 2) nextS) (g := nextS) (b := false) c (o := .nx (startI 1 [rowsV R]) h) rfl
    show (match seqS _ nextS (startI 1 [rowsV R]) h with
      | .rt v h => Out.ok v h
      | .nx _ h => .ok .non h
      | .ex e _ h => .ex e h
      | _ => .no) = _
    rw [seq_nx st]
    rfl
  have s0 := expr_ok (call_ok (np := 1) (c := c_require_rows) (fs := consA (varE 0) nilA) (σ := startI 4 [rowsV R]) (h := h) rfl rfl rq)
  have s1 : asgS (refE (capA nilA)) (gNm 1) (startI 4 [rowsV R]) h = .nx [some (rowsV R), some (.ref h.length), none, none] (h ++ [.lst []]) := asg_nm (i := 1) (ref_ok rfl (by simp))
  obtain ⟨σ', h', e, acc, x, y, rfl, rfl, ea⟩ := for_inv (g := gTp 2 (gsCons (gNm 2) (gsCons (gNm 3) gsNil))) (f := seqS (exprS (mthE "list" extM (varE 1) (consA (callE none 2 c_cells_of_row (consA (varE 2) (consA (varE 3) nilA))) nilA))) nextS)
    rwV (fun ys σ h' => ∃ (acc : List Int) (x y : Option IV), h' = h ++ [.lst (iL acc)] ∧ σ = [some (rowsV R), some (.ref h.length), x, y] ∧ acc ++ flatR ys = flatR R)
    (fun r ys σ h' => by
      rintro ⟨acc, x, y, rfl, rfl, ea⟩
      have ll : acc.length + r.1.length + r.2.length + 2 ≤ 900 := by
        have := congrArg List.length ea
        rw [flatR_cons, List.length_append, List.length_append, flat1_len] at this
        omega
      refine ⟨[some (rowsV R), some (.ref h.length), some (tI r.1), some (tI r.2)], h ++ [.lst (iL acc)], [some (rowsV R), some (.ref h.length), some (tI r.1), some (tI r.2)], h ++ [.lst (iL (acc ++ flat1 r))], rfl, ?_, acc ++ flat1 r, _, _, rfl, rfl, by rw [List.append_assoc, ← flatR_cons]; exact ea⟩
      have c := call_ok (np := 2) (c := c_cells_of_row) (fs := consA (varE 2) (consA (varE 3) nilA)) (σ := [some (rowsV R), some (.ref h.length), some (tI r.1), some (tI r.2)]) (h := h ++ [.lst (iL acc)]) rfl rfl (ev_cells_of (r := r) (by omega))
      have q := ext_ok (i := 1) rfl c (by rw [List.length_map, List.length_map, flat1_len]; omega)
      refine (seq_nx q).trans ?_
      rw [← List.map_append]
      rfl)
    R [some (rowsV R), some (.ref h.length), none, none] (h ++ [.lst (iL [])]) ⟨[], none, none, rfl, rfl, rfl⟩
  have e1 : acc = flatR R := by rw [← ea]; unfold flatR; simp
  subst e1
  have run : c_rows_cells [rowsV R] h = .ok (tI (flatR R)) (h ++ [.lst (iL (flatR R))]) := def_rt ((seq_nx s0).trans ((seq_nx s1).trans ((seq_nx (for_nx (any_tup rfl) e)).trans (ret_ok' (tup_ref rfl get_last)))))
  rw [run]
  exact settle_pure ph (pure_ints _)
theorem ev_row_cells {r : Rw} {h : IH} (o : okR r) (k : inR r) : c_row_cells [tI r.1, tI r.2] h = .ok (tI (flat1 r)) h := by
  obtain ⟨⟨o1, o2⟩, o3, o4⟩ := o
  have j1 := ev_is_key (v := tI r.1) (h := h) (kd_tI (by omega))
  have j2 := ev_is_val (v := tI r.2) (h := h) (kd_tI (by omega))
  rw [cellsB_of k.1 o1 o2] at j1
  rw [cellsB_of k.2 o3 o4] at j2
  have c1 := not_ok (tru_bl (call_ok (np := 1) (c := c_is_key) (fs := consA (varE 0) nilA) (σ := startI 2 [tI r.1, tI r.2]) (h := h) rfl rfl j1))
  have c2 := not_ok (tru_bl (call_ok (np := 1) (c := c_is_row_value) (fs := consA (varE 1) nilA) (σ := startI 2 [tI r.1, tI r.2]) (h := h) rfl rfl j2))
  have c := or_ok c1 (fun _ => c2) (fun z => by cases z)
  have st := if_ok (f := seqS (raiS 2) nextS) (g := nextS) (b := false) c (o := .nx (startI 2 [tI r.1, tI r.2]) h) rfl
  exact def_rt ((seq_nx st).trans (ret_ok' (call_ok rfl rfl (ev_cells_of (r := r) (by omega)))))
end K17
namespace K17
open PySem PySem.Spec PyProof.Rows EV
open L2 hiding eqV keyOf
theorem comp_t {α β : Type} {n : Nat} {tl : IH} {g : TM} {f : IE → M IV} {σ0 : IE} (V : α → IV) (F : β → IV) (p : β → Prop) : ∀ {ys : List α} {h : IH}, (∀ y ∈ ys, ∀ h, Hok h → h.length = n → ∃ σ1, g (V y) σ0 (h ++ tl) = some (σ1, h ++ tl) ∧ Drw (f σ1 (h ++ tl)) n tl fun v => ∃ b, v = F b ∧ p b) → Hok h → h.length = n →
    Drw (compM g yesT f σ0 (ys.map V) (h ++ tl)) n tl fun vs => ∃ bs : List β, vs = bs.map F ∧ bs.length = ys.length ∧ ∀ b ∈ bs, p b
  | [], h, _, k, hn => ⟨[], h, rfl, k, hn, [], rfl, rfl, by simp⟩
  | y :: ys, h, st, k, hn => by
    obtain ⟨σ1, e1, v, h2, e2, k2, n2, b, rfl, r⟩ := st y List.mem_cons_self h k hn
    obtain ⟨vs, h3, e3, k3, n3, bs, rfl, l, rs⟩ := comp_t V F p (ys := ys) (h := h2) (fun z hz => st z (List.mem_cons_of_mem _ hz)) k2 n2
    refine ⟨_, h3, comp_one e1 e2 e3, k3, n3, b :: bs, rfl, by simp [l], fun c hc => ?_⟩
    rcases List.mem_cons.mp hc with rfl | hc
    · exact r
    · exact rs c hc
theorem lc_t {α β : Type} {n : Nat} {tl : IH} {fi : IE → M (List IV)} {g : TM} {f : IE → M IV} {ws : List Nat} {σ : IE} {h h1 : IH} (V : α → IV) (F : β → IV) (p : β → Prop) {ys : List α} (e : fi σ h = .ok (ys.map V) (h1 ++ tl)) (k : Hok h1) (hn : h1.length = n) (hl : ys.length ≤ 16777216) (st : ∀ y ∈ ys, ∀ h, Hok h → h.length = n → ∃ σ1, g (V y) (wipeI σ ws) (h ++ tl) = some (σ1, h ++ tl) ∧ Drw (f σ1 (h ++ tl)) n tl fun v => ∃ b, v = F b ∧ p b) :
    Drw (lcI fi g yesT f ws σ h) n tl fun v => ∃ bs : List β, v = .lst (bs.map F) ∧ bs.length = ys.length ∧ ∀ b ∈ bs, p b := by
  obtain ⟨vs, h2, e2, k2, n2, bs, rfl, l, rs⟩ := comp_t V F p st k hn
  exact ⟨_, h2, lc_ok e (by rw [List.length_map]; exact hl) e2, k2, n2, bs, rfl, l, rs⟩
theorem Drw.nil {α : Type} {m : Out α} {n : Nat} {Q : α → Prop} (d : Drw m n [] Q) : Dr m n Q := by
  obtain ⟨v, h1, e, k, l, q⟩ := d
  exact ⟨v, h1, by rw [e, List.append_nil], k, l, q⟩
theorem Dr.nil {α : Type} {m : Out α} {n : Nat} {Q : α → Prop} (d : Dr m n Q) : Drw m n [] Q := by
  obtain ⟨v, h1, e, k, l, q⟩ := d
  exact ⟨v, h1, by rw [e, List.append_nil], k, l, q⟩
theorem dip_e {h tl : IH} {n r : Nat} {fs : IE → M (List IV)} {σ : IE} (k : Hok h) (hn : h.length = n) (hr : r < n) {t : Int} (ht : 0 < t) (ht2 : t < 2 ^ 64) (ea : fs σ (h ++ tl) = .ok [.ref r, .int t] (h ++ tl)) : ∃ (i : Nat) (h1 : IH), callE none 2 c__law_drop fs σ (h ++ tl) = .ok (.int (i : Int)) (h1 ++ tl) ∧ Hok h1 ∧ h1.length = n ∧ (i : Int) < t := by
  obtain ⟨v, h1, e, k1, n1, i, rfl, i1⟩ := pull_tl (tl := tl) k hn hr ht ht2
  exact ⟨i, h1, call_ok ea rfl e, k1, n1, i1⟩
theorem taste_e {h tl : IH} {n r : Nat} {fs : IE → M (List IV)} {σ : IE} {xs : List IV} (k : Hok h) (hn : h.length = n) (hr : r < n) (x0 : xs ≠ []) (x1 : xs.length < 2 ^ 64) (ea : fs σ (h ++ tl) = .ok [.ref r, .lst xs] (h ++ tl)) : ∃ (v : IV) (h1 : IH), callE none 2 c__law_taste fs σ (h ++ tl) = .ok v (h1 ++ tl) ∧ Hok h1 ∧ h1.length = n ∧ v ∈ xs := by
  obtain ⟨v, h1, e, k1, n1, q⟩ := any_tl (tl := tl) k hn hr x0 x1
  exact ⟨v, h1, call_ok ea rfl e, k1, n1, q⟩
theorem rng_of {fa : IE → M IV} {σ : IE} {h h1 : IH} {m : Nat} (e : fa σ h = .ok (.int (m : Int)) h1) (hm : m ≤ 100000) : rngIt (consA fa nilA) σ h = .ok ((List.range m).map fun i : Nat => IV.int (i : Int)) h1 := by
  rw [rngK (arg_ok (fs := nilA) e rfl) ⟨Int.le_trans (show -(2 ^ 62 : Int) ≤ 0 by decide) (Int.natCast_nonneg m), Int.lt_of_le_of_lt (show (m : Int) ≤ 100000 by omega) (by decide)⟩, show (m : Int).toNat = m by omega, rngL_eq]

abbrev topX : Int := 999999999999999999
abbrev inC (L : List Int) : Prop := ∀ x ∈ L, 0 ≤ x ∧ x ≤ topX
theorem cells_d {h tl : IH} {n r a b : Nat} (k : Hok h) (hn : h.length = n) (hr : r < n) (hab : a ≤ b) (hb : b ≤ 20) : Drw (c__law_cells [.ref r, .int (a : Int), .int (b : Int)] (h ++ tl)) n tl fun v => ∃ L : List Int, v = tI L ∧ a ≤ L.length ∧ L.length ≤ b ∧ inC L := by
  obtain ⟨i, h1, e1, k1, n1, i1⟩ := dip_e (tl := tl) (fs := consA (varE 0) (consA (binE addI (binE subI (varE 2) (varE 1)) (cstE (.int 1))) nilA)) (σ := startI 6 [.ref r, .int (a : Int), .int (b : Int)]) k hn hr (t := (b : Int) - a + 1) (by omega) (by omega) rfl
  have s1 : asgS (binE addI (varE 1) (callE none 2 c__law_drop (consA (varE 0) (consA (binE addI (binE subI (varE 2) (varE 1)) (cstE (.int 1))) nilA)))) (gNm 3) (startI 6 [.ref r, .int (a : Int), .int (b : Int)]) (h ++ tl) = .nx [some (.ref r), some (.int (a : Int)), some (.int (b : Int)), some (.int ((a + i : Nat) : Int)), none, none] (h1 ++ tl) :=
    asg_nm (i := 3) (bin_ok (v := .int (a : Int)) rfl e1 (by rw [add_int]; simp))
  have hz : a ≤ a + i ∧ a + i ≤ b := by omega
  generalize a + i = z at s1 hz
  have p9 : binE powI (cstE (.int 10)) (cstE (.int 9)) [some (.ref r), some (.int (a : Int)), some (.int (b : Int)), some (.int (z : Int)), none, none] (h1 ++ tl) = .ok (.int (10 ^ (9 : Int).toNat)) (h1 ++ tl) := bin_ok rfl rfl (pow_ok (by decide +kernel))
  have p18' := p18 (σ := [some (.ref r), some (.int (a : Int)), some (.int (b : Int)), some (.int (z : Int)), none, none]) (h := h1 ++ tl)
  have ea := arg_ok (fa := varE 0) (v := .ref r) (σ := [some (.ref r), some (.int (a : Int)), some (.int (b : Int)), some (.int (z : Int)), none, none]) (h := h1 ++ tl) rfl (arg_ok (lst_ok (arg_ok (fa := cstE (.int 3)) rfl (arg_ok (fa := cstE (.int 3)) rfl (arg_ok (fa := cstE (.int 10)) rfl (arg_ok p9 (arg_ok p18' (show nilA _ _ = .ok [] _ from rfl)))))) (by simp)) (show nilA _ _ = .ok [] _ from rfl))
  obtain ⟨v, h2, e2, k2, n2, hv⟩ := taste_e k1 n1 hr (by simp) (by simp) ea
  obtain ⟨t, rfl, t0, t1⟩ : ∃ t : Int, v = .int t ∧ 0 < t ∧ t ≤ 10 ^ (18 : Int).toNat := by
    simp only [List.mem_cons, List.not_mem_nil, or_false] at hv
    rcases hv with rfl | rfl | rfl | rfl | rfl
    all_goals exact ⟨_, rfl, by decide, by decide⟩
  have t2 : t ≤ 1000000000000000000 := by
    have : (10 : Int) ^ (18 : Int).toNat = 1000000000000000000 := by decide
    omega
  have s2 := asg_nm (i := 4) e2
  have rg := rng_of (fa := varE 3) (σ := [some (.ref r), some (.int (a : Int)), some (.int (b : Int)), some (.int (z : Int)), some (.int t), none]) (h := h2 ++ tl) (h1 := h2 ++ tl) (m := z) rfl (by omega)
  obtain ⟨w, h3, e3, k3, n3, L, rfl, lL, pL⟩ := lc_t (n := n) (tl := tl) (fi := rngIt (consA (varE 3) nilA)) (g := gNm 5) (f := callE none 2 c__law_drop (consA (varE 0) (consA (varE 4) nilA))) (ws := [5]) (σ := [some (.ref r), some (.int (a : Int)), some (.int (b : Int)), some (.int (z : Int)), some (.int t), none]) (fun i : Nat => IV.int (i : Int)) IV.int (fun x : Int => 0 ≤ x ∧ x ≤ topX) (ys := List.range z) rg k2 n2 (by rw [List.length_range]; omega) fun y _ h' k' n' => ⟨[some (.ref r), some (.int (a : Int)), some (.int (b : Int)), some (.int (z : Int)), some (.int t), some (.int (y : Int))], rfl, by
      obtain ⟨i, h3, e3, k3, n3, i3⟩ := dip_e (tl := tl) (fs := consA (varE 0) (consA (varE 4) nilA)) (σ := [some (.ref r), some (.int (a : Int)), some (.int (b : Int)), some (.int (z : Int)), some (.int t), some (.int (y : Int))]) k' n' hr (t := t) t0 (by omega) rfl
      exact ⟨_, h3, e3, k3, n3, (i : Int), rfl, by omega, by unfold topX; omega⟩⟩
  rw [List.length_range] at lL
  exact ⟨_, h3, def_rt ((seq_nx s1).trans ((seq_nx s2).trans (ret_ok' (tuple_of e3)))), k3, n3, L, rfl, by omega, by omega, pL⟩
theorem cells_e {h tl : IH} {n r a b : Nat} {fs : IE → M (List IV)} {σ : IE} (k : Hok h) (hn : h.length = n) (hr : r < n) (hab : a ≤ b) (hb : b ≤ 20) (ea : fs σ (h ++ tl) = .ok [.ref r, .int (a : Int), .int (b : Int)] (h ++ tl)) : ∃ (L : List Int) (h1 : IH), callE none 3 c__law_cells fs σ (h ++ tl) = .ok (tI L) (h1 ++ tl) ∧ Hok h1 ∧ h1.length = n ∧ a ≤ L.length ∧ L.length ≤ b ∧ inC L := by
  obtain ⟨v, h1, e1, k1, n1, L, rfl, q⟩ := cells_d (tl := tl) k hn hr hab hb
  exact ⟨L, h1, call_ok ea rfl e1, k1, n1, q⟩
theorem upd_tI (g : List Int → List Int) (x w : List Int) : upd (fun k => tI (g k)) x (tI w) = fun k => tI (if k = x then w else g k) := by
  funext y
  unfold upd
  split <;> rfl
abbrev rowStep : SM := seqS (asgS (callE none 3 c__law_cells (consA (varE 0) (consA (cstE (.int 1)) (consA (cstE (.int 8)) nilA)))) (gSb putM (varE 2) (callE none 3 c__law_cells (consA (varE 0) (consA (cstE (.int 1)) (consA (cstE (.int 3)) nilA)))))) nextS
abbrev dctV (ds : List (List Int)) (g : List Int → List Int) : IO := .dct (ds.map tI) (ds.map fun k => tI (g k))
theorem asg_sub {fa fo fi : IE → M IV} {σ : IE} {v o i : IV} {h h1 h2 h3 h4 : IH} (e1 : fa σ h = .ok v h1) (e2 : fo σ h1 = .ok o h2) (e3 : fi σ h2 = .ok i h3) (e4 : putM o i v h3 = some h4) : asgS fa (gSb putM fo fi) σ h = .nx σ h4 := by
  unfold asgS gSb
  rw [e1]
  simp only [Out.thn, e2, e3, e4, gthn]
theorem rows_d (a b c : Int) : ∃ (R : List Rw) (a' b' c' : Int) (o : IO), c__law_rows [.ref 0, .int 12] [T3 a b c] = .ok (.ref 2) [T3 a' b' c', o, .ktp (R.map rwV)] ∧ pureO o = true ∧ Asc R ∧ (∀ r ∈ R, okR r) ∧ (∀ r ∈ R, inR r) ∧ R.length ≤ 12 := by
  have k0 : Hok [T3 a b c] := fun o ho => ⟨a, b, c, List.mem_singleton.mp ho⟩
  have s1 : asgS dct0R (gNm 2) (startI 5 [.ref 0, .int 12]) [T3 a b c] = .nx [some (.ref 0), some (.int 12), some (.ref 1), none, none] ([T3 a b c] ++ [dctV [] fun _ => []]) := rfl
  obtain ⟨j, h1, e1, k1, n1, j1⟩ := dip_e (h := [T3 a b c]) (n := 1) (tl := [dctV [] fun _ => []]) (fs := consA (varE 0) (consA (binE addI (varE 1) (cstE (.int 1))) nilA)) (σ := [some (.ref 0), some (.int 12), some (.ref 1), none, none]) k0 rfl (r := 0) (by omega) (t := 13) (by omega) (by omega) rfl
  have rg := rng_of e1 (by omega : j ≤ 100000)
  obtain ⟨σ', h', e2, h2, ds, g, x, k2, n2, rfl, rfl, nd, ok, hl⟩ := for_inv (g := gNm 3) (f := rowStep) (fun i : Nat => IV.int (i : Int))
    (fun ys σ h' => ∃ (h1 : IH) (ds : List (List Int)) (g : List Int → List Int) (x : Option IV), Hok h1 ∧ h1.length = 1 ∧ h' = h1 ++ [dctV ds g] ∧ σ = [some (.ref 0), some (.int 12), some (.ref 1), x, none] ∧ ds.Nodup ∧ (∀ k ∈ ds, okR (k, g k) ∧ inR (k, g k)) ∧ ds.length + ys.length ≤ 12)
    (fun y ys σ h' => by
      rintro ⟨h1, ds, g, x, k1, n1, rfl, rfl, nd, ok, hl⟩
      obtain ⟨V, h3, e3, k3, n3, v1, v2, v3⟩ := cells_e (tl := [dctV ds g]) (fs := consA (varE 0) (consA (cstE (.int 1)) (consA (cstE (.int 8)) nilA))) (σ := [some (.ref 0), some (.int 12), some (.ref 1), some (.int (y : Int)), none]) k1 n1 (r := 0) (by omega) (a := 1) (b := 8) (by omega) (by omega) rfl
      obtain ⟨Kk, h4, e4, k4, n4, q1, q2, q3⟩ := cells_e (tl := [dctV ds g]) (fs := consA (varE 0) (consA (cstE (.int 1)) (consA (cstE (.int 3)) nilA))) (σ := [some (.ref 0), some (.int 12), some (.ref 1), some (.int (y : Int)), none]) k3 n3 (r := 0) (by omega) (a := 1) (b := 3) (by omega) (by omega) rfl
      have en : (h4 ++ [dctV ds g])[1]? = some (.dct (ds.map tI) (ds.map fun k => tI (g k))) := by
        rw [List.getElem?_append_right (by omega), n4]
        rfl
      rw [List.length_cons] at hl
      have pt := putM_dct keyV_tup (n := 1) (x := Kk) (v := tI V) (fun k => tI (g k)) en (by omega) nd
      rw [upd_tI] at pt
      have st : (h4 ++ [dctV ds g]).set 1 (.dct ((insD ds Kk).map tupOf) ((insD ds Kk).map fun k => tI (if k = Kk then V else g k))) = h4 ++ [dctV (insD ds Kk) fun k => if k = Kk then V else g k] := by
        rw [List.set_append_right _ _ (by omega), n4]
        rfl
      rw [st] at pt
      refine ⟨[some (.ref 0), some (.int 12), some (.ref 1), some (.int (y : Int)), none], _, [some (.ref 0), some (.int 12), some (.ref 1), some (.int (y : Int)), none], h4 ++ [dctV (insD ds Kk) fun k => if k = Kk then V else g k], rfl, ?_, h4, insD ds Kk, _, _, k4, n4, rfl, rfl, insD_nodup nd, fun k hk => ?_, ?_⟩
      · exact (seq_nx (asg_sub e3 (o := .ref 1) rfl e4 pt)).trans rfl
      · show okR (k, if k = Kk then V else g k) ∧ inR (k, if k = Kk then V else g k)
        by_cases z : k = Kk
        · subst z
          rw [if_pos rfl]
          exact ⟨⟨⟨q1, q2⟩, v1, v2⟩, q3, v3⟩
        · rw [if_neg z]
          rcases mem_insD.mp hk with hk | hk
          · exact ok k hk
          · exact absurd hk z
      · unfold insD
        split
        · omega
        · rw [List.length_append]; simp; omega)
    (List.range j) [some (.ref 0), some (.int 12), some (.ref 1), none, none] (h1 ++ [dctV [] fun _ => []]) ⟨h1, [], fun _ => [], none, k1, n1, rfl, rfl, List.nodup_nil, by simp, by simp; omega⟩
  obtain ⟨a', b', c', rfl⟩ : ∃ a' b' c' : Int, h2 = [T3 a' b' c'] := by
    match h2, n2 with
    | [o], _ =>
      obtain ⟨a', b', c', rfl⟩ := k2 o (by simp)
      exact ⟨a', b', c', rfl⟩
  have hl' : ds.length ≤ 12 := by simpa using hl
  have sm : ∀ k ∈ srtL ds, k ∈ ds := fun k hk => (srtL_perm ds).mem_iff.mp hk
  have so : bltE sortedI (consA (varE 2) nilA) [some (.ref 0), some (.int 12), some (.ref 1), x, none] ([T3 a' b' c'] ++ [dctV ds g]) = .ok (.lst ((srtL ds).map tI)) ([T3 a' b' c'] ++ [dctV ds g]) := by
    refine blt_ok (arg_ok rfl rfl) ?_
    show (if sortOk ([T3 a' b' c'] ++ [dctV ds g]) (ds.map tI) = true ∧ (ds.map tI).length ≤ 16777216 then Out.ok (IV.lst (sortL ([T3 a' b' c'] ++ [dctV ds g]) (ds.map tI))) ([T3 a' b' c'] ++ [dctV ds g]) else .no) = _
    have ne : ∀ k ∈ ds, k ≠ [] := fun k hk z => by
      subst z
      have := (ok _ hk).1.1.1
      exact absurd this (by simp)
    rw [if_pos ⟨sortOk_tI ne, by rw [List.length_map]; omega⟩, sortL_tI]
  have lc := lc_all (σ := [some (.ref 0), some (.int 12), some (.ref 1), x, none]) (h := [T3 a' b' c'] ++ [dctV ds g]) (fi := anyIt (bltE sortedI (consA (varE 2) nilA))) (g := gNm 4) (f := tupE (consA (varE 4) (consA (binE subD (varE 2) (varE 4)) nilA))) (ws := [4]) tI (fun k => rwV (k, g k)) (srtL ds) (any_lst so) (by rw [(srtL_perm ds).length_eq]; omega) fun k hk => by
    refine ⟨[some (.ref 0), some (.int 12), some (.ref 1), x, some (tI k)], rfl, ?_⟩
    have sb : binE subD (varE 2) (varE 4) [some (.ref 0), some (.int 12), some (.ref 1), x, some (tI k)] ([T3 a' b' c'] ++ [dctV ds g]) = .ok (tI (g k)) ([T3 a' b' c'] ++ [dctV ds g]) := bin_ok (v := .ref 1) (u := tI k) rfl rfl (sub_dct keyV_tup (fun k => tI (g k)) rfl (sm k hk))
    exact tup_ok (arg_ok rfl (arg_ok sb rfl)) (by simp)
  have mm : (srtL ds).map (fun k => rwV (k, g k)) = ((srtL ds).map fun k => ((k, g k) : Rw)).map rwV := by rw [List.map_map]; rfl
  rw [mm] at lc
  refine ⟨(srtL ds).map fun k => (k, g k), a', b', c', dctV ds g, ?_, ?_, ?_, ?_, ?_, ?_⟩
  · refine def_rt ((seq_nx s1).trans ((seq_nx (for_nx rg e2)).trans (ret_ok' ?_)))
    exact blt_ok (arg_ok (fs := nilA) lc rfl) rfl
  · show (pureVs (ds.map tI) && pureVs (ds.map fun k => tI (g k))) = true
    rw [pure_all, pure_all]
    · rfl
    · intro v hv
      obtain ⟨k, _, rfl⟩ := List.mem_map.mp hv
      exact pure_ints _
    · intro v hv
      obtain ⟨k, _, rfl⟩ := List.mem_map.mp hv
      exact pure_ints _
  · exact List.pairwise_map.mpr (srtL_pw nd)
  · intro r hr
    obtain ⟨k, hk, rfl⟩ := List.mem_map.mp hr
    exact (ok k (sm k hk)).1
  · intro r hr
    obtain ⟨k, hk, rfl⟩ := List.mem_map.mp hr
    exact (ok k (sm k hk)).2
  · rw [List.length_map, (srtL_perm ds).length_eq]
    exact hl'
end K17
namespace K17
open PySem PySem.Spec PyProof.Rows EV
open L2 hiding eqV keyOf
theorem to_tI {L : List Int} {k : Nat} {fa fu : IE → M IV} {σ : IE} {h : IH} (e1 : fa σ h = .ok (tI L) h) (e2 : fu σ h = .ok (.int (k : Int)) h) : sliE fa noneO (someO fu) σ h = .ok (tI (L.take k)) h := by
  rw [sli_to e1 e2, ← List.map_take]
theorem from_tI {L : List Int} {k : Nat} {fa fl : IE → M IV} {σ : IE} {h : IH} (e1 : fa σ h = .ok (tI L) h) (e2 : fl σ h = .ok (.int (k : Int)) h) : sliE fa (someO fl) noneO σ h = .ok (tI (L.drop k)) h := by
  rw [sli_from e1 e2, ← List.map_drop]
theorem add_tI {L L2 : List Int} {fa fb : IE → M IV} {σ : IE} {h : IH} (e1 : fa σ h = .ok (tI L) h) (e2 : fb σ h = .ok (tI L2) h) (hl : L.length + L2.length ≤ 1000) : binE addI fa fb σ h = .ok (tI (L ++ L2)) h := by
  rw [bin_ok e1 e2 (add_tup (by simp; omega)), ← List.map_append]
theorem rev_tI {L : List Int} {fa : IE → M IV} {σ : IE} {h : IH} (e1 : fa σ h = .ok (tI L) h) : revE fa σ h = .ok (tI L.reverse) h := by
  unfold revE
  rw [e1]
  show Out.ok (IV.tup (iL L).reverse) h = _
  rw [← List.map_reverse]
theorem inC_take {L : List Int} {k : Nat} (c : inC L) : inC (L.take k) := fun x hx => c x (List.mem_of_mem_take hx)
theorem inC_drop {L : List Int} {k : Nat} (c : inC L) : inC (L.drop k) := fun x hx => c x (List.mem_of_mem_drop hx)
theorem inC_app {L L2 : List Int} (c : inC L) (d : inC L2) : inC (L ++ L2) := fun x hx => by
  rcases List.mem_append.mp hx with hx | hx
  · exact c x hx
  · exact d x hx
theorem inC_rev {L : List Int} (c : inC L) : inC L.reverse := fun x hx => c x (List.mem_reverse.mp hx)
theorem inC_one {x : Int} (h : 0 ≤ x ∧ x ≤ topX) : inC [x] := fun y hy => by rw [List.mem_singleton.mp hy]; exact h
theorem near_cells_d {h tl : IH} {n r : Nat} {C : List Int} (k : Hok h) (hn : h.length = n) (hr : r < n) (hl : C.length ≤ 300) (cc : inC C) : Drw (c__law_near_cells [.ref r, tI C] (h ++ tl)) n tl fun v => ∃ Ls : List (List Int), v = .lst (Ls.map tI) ∧ ∀ L ∈ Ls, L.length ≤ 800 ∧ inC L := by
  have ln := len_tI (i := 1) (L := C) (σ := startI 5 [.ref r, tI C]) (h := h ++ tl) rfl
  obtain ⟨i, h1, e1, k1, n1, i1⟩ := dip_e (tl := tl) (fs := consA (varE 0) (consA (binE addI (bltE lenI (consA (varE 1) nilA)) (cstE (.int 1))) nilA)) (σ := startI 5 [.ref r, tI C]) k hn hr (t := (C.length : Int) + 1) (by omega) (by omega) (arg_ok rfl (arg_ok (bin_ok ln rfl add_int) rfl))
  have s1 := asg_nm (i := 2) e1
  have pw := p18 (σ := [some (.ref r), some (tI C), some (.int (i : Int)), none, none]) (h := h1 ++ tl)
  have ea := arg_ok (fa := varE 0) (v := .ref r) (σ := [some (.ref r), some (tI C), some (.int (i : Int)), none, none]) (h := h1 ++ tl) rfl (arg_ok (lst_ok (arg_ok (fa := cstE (.int 0)) rfl (arg_ok (fa := cstE (.int 1)) rfl (arg_ok (fa := cstE (.int 2)) rfl (arg_ok (fa := cstE (.int 3)) rfl (arg_ok (fa := cstE (.int 4)) rfl (arg_ok (fa := cstE (.int 8)) rfl (arg_ok (fa := cstE (.int 9)) rfl (arg_ok (bin_ok (g := subI) pw (fb := cstE (.int 1)) (u := .int 1) rfl sub_int) (show nilA _ _ = .ok [] _ from rfl))))))))) (by simp)) (show nilA _ _ = .ok [] _ from rfl))
  obtain ⟨v, h2, e2, k2, n2, hv⟩ := taste_e k1 n1 hr (by simp) (by simp) ea
  obtain ⟨t, rfl, t0, t1⟩ : ∃ t : Int, v = .int t ∧ 0 ≤ t ∧ t ≤ topX := by
    simp only [List.mem_cons, List.not_mem_nil, or_false] at hv
    rcases hv with rfl | rfl | rfl | rfl | rfl | rfl | rfl | rfl
    all_goals exact ⟨_, rfl, by decide, by decide⟩
  have s2 := asg_nm (i := 3) e2
  have hi : i ≤ C.length := by omega
  obtain ⟨S, hS⟩ : ∃ S : IE, S = [some (.ref r), some (tI C), some (.int (i : Int)), some (.int t), none] := ⟨_, rfl⟩
  have v1 : ∀ x h, varE 1 [some (.ref r), some (tI C), some (.int (i : Int)), some (.int t), x] h = .ok (tI C) h := fun _ _ => rfl
  have v2 : ∀ x h, varE 2 [some (.ref r), some (tI C), some (.int (i : Int)), some (.int t), x] h = .ok (.int (i : Int)) h := fun _ _ => rfl
  have v21 : ∀ x h, binE addI (varE 2) (cstE (.int 1)) [some (.ref r), some (tI C), some (.int (i : Int)), some (.int t), x] h = .ok (.int ((i + 1 : Nat) : Int)) h := fun _ _ => rfl
  have v3 : ∀ x h, tupE (consA (varE 3) nilA) [some (.ref r), some (tI C), some (.int (i : Int)), some (.int t), x] h = .ok (tI [t]) h := fun _ _ => rfl
  have l1 := fun x h => to_tI (v1 x h) (v2 x h)
  have r1 := fun x h => from_tI (v1 x h) (v21 x h)
  have r2 := fun x h => from_tI (v1 x h) (v2 x h)
  have a1 := fun x h => add_tI (l1 x h) (v3 x h) (by simp; omega)
  have g1 := fun x h => add_tI (a1 x h) (r1 x h) (by simp; omega)
  have g4 := fun x h => add_tI (l1 x h) (r1 x h) (by simp; omega)
  have g5 := fun x h => add_tI (v1 x h) (v1 x h) (by omega)
  have g6 := fun x h => add_tI (a1 x h) (r2 x h) (by simp; omega)
  have g7 := fun x h => add_tI (v1 x h) (v3 x h) (by simp; omega)
  have g8 := fun x h => rev_tI (v1 x h)
  have s3 := asg_nm (i := 4) (lst_ok (arg_ok (g1 none (h2 ++ tl)) (arg_ok (l1 none (h2 ++ tl)) (arg_ok (r2 none (h2 ++ tl)) (arg_ok (g4 none (h2 ++ tl)) (arg_ok (g5 none (h2 ++ tl)) (show nilA _ _ = .ok [] _ from rfl)))))) (by simp))
  obtain ⟨y, hy⟩ : ∃ y : IV, y = .lst [tI (C.take i ++ [t] ++ C.drop (i + 1)), tI (C.take i), tI (C.drop i), tI (C.take i ++ C.drop (i + 1)), tI (C ++ C)] := ⟨_, rfl⟩
  rw [← hy] at s3
  obtain ⟨Z, h3, e3, k3, n3, z1, z2, z3⟩ := cells_e (tl := tl) (fs := consA (varE 0) (consA (cstE (.int 0)) (consA (cstE (.int 9)) nilA))) (σ := [some (.ref r), some (tI C), some (.int (i : Int)), some (.int t), some y]) k2 n2 hr (a := 0) (b := 9) (by omega) (by omega) rfl
  have lz := lst_ok (arg_ok (g6 (some y) (h2 ++ tl)) (arg_ok (g7 (some y) (h2 ++ tl)) (arg_ok (g8 (some y) (h2 ++ tl)) (arg_ok e3 (show nilA _ _ = .ok [] _ from rfl))))) (by simp)
  have ad : ∀ H : IH, addI y (.lst [tI (C.take i ++ [t] ++ C.drop i), tI (C ++ [t]), tI C.reverse, tI Z]) H = .ok (.lst ([C.take i ++ [t] ++ C.drop (i + 1), C.take i, C.drop i, C.take i ++ C.drop (i + 1), C ++ C, C.take i ++ [t] ++ C.drop i, C ++ [t], C.reverse, Z].map tI)) H := fun H => by rw [hy]; exact addLL (by simp)
  have fin := bin_ok (g := addI) (fa := varE 4) (v := y) (σ := [some (.ref r), some (tI C), some (.int (i : Int)), some (.int t), some y]) (h := h2 ++ tl) rfl lz (ad _)
  refine ⟨_, h3, def_rt ((seq_nx s1).trans ((seq_nx s2).trans ((seq_nx s3).trans (ret_ok' fin)))), k3, n3, [C.take i ++ [t] ++ C.drop (i + 1), C.take i, C.drop i, C.take i ++ C.drop (i + 1), C ++ C, C.take i ++ [t] ++ C.drop i, C ++ [t], C.reverse, Z], rfl, fun L hL => ?_⟩
  have b : ∀ m, (C.take m).length ≤ 300 ∧ (C.drop m).length ≤ 300 := fun m => by
    rw [List.length_take, List.length_drop]; omega
  simp only [List.mem_cons, List.not_mem_nil, or_false] at hL
  have tC := inC_one ⟨t0, t1⟩
  rcases hL with rfl | rfl | rfl | rfl | rfl | rfl | rfl | rfl | rfl
  · exact ⟨by have := (b i).1; have := (b (i + 1)).2; simp only [List.length_append, List.length_singleton]; omega, inC_app (inC_app (inC_take cc) tC) (inC_drop cc)⟩
  · exact ⟨by have := (b i).1; omega, inC_take cc⟩
  · exact ⟨by have := (b i).2; omega, inC_drop cc⟩
  · exact ⟨by have := (b i).1; have := (b (i + 1)).2; simp only [List.length_append]; omega, inC_app (inC_take cc) (inC_drop cc)⟩
  · exact ⟨by simp only [List.length_append]; omega, inC_app cc cc⟩
  · exact ⟨by have := (b i).1; have := (b i).2; simp only [List.length_append, List.length_singleton]; omega, inC_app (inC_app (inC_take cc) tC) (inC_drop cc)⟩
  · exact ⟨by simp only [List.length_append, List.length_singleton]; omega, inC_app cc tC⟩
  · exact ⟨by rw [List.length_reverse]; omega, inC_rev cc⟩
  · exact ⟨by omega, z3⟩
end K17
namespace K17
open PySem PySem.Spec PyProof.Rows EV
open L2 hiding eqV keyOf
/-- a value of a plain kind, some levels deep, that names no object -/
def nk (n : Nat) (v : IV) : Bool := kd n v && pureV v
theorem nk_of {n : Nat} {v : IV} (a : kd n v = true) (b : pureV v = true) : nk n v = true := by unfold nk; rw [a, b]; rfl
theorem nk_kd {n : Nat} {v : IV} (a : nk n v = true) : kd n v = true := (Bool.and_eq_true_iff.mp a).1
theorem nk_pure {n : Nat} {v : IV} (a : nk n v = true) : pureV v = true := (Bool.and_eq_true_iff.mp a).2
theorem nk_tup {n : Nat} {xs : List IV} (hl : xs.length ≤ 900) (k : ∀ x ∈ xs, nk n x = true) : nk (n + 1) (.tup xs) = true := by
  refine nk_of ?_ (pure_all fun x hx => nk_pure (k x hx))
  show (decide (xs.length ≤ 900) && xs.all (kd n)) = true
  rw [decide_eq_true hl, Bool.true_and, List.all_eq_true]
  exact fun x hx => nk_kd (k x hx)
theorem nk_lst {n : Nat} {xs : List IV} (k : ∀ x ∈ xs, pureV x = true) : nk n (.lst xs) = true := by
  refine nk_of ?_ (pure_all k)
  cases n <;> rfl
theorem nk_tI {n : Nat} {L : List Int} (hl : L.length ≤ 900) : nk (n + 1) (tI L) = true := nk_of (kd_tI hl) (pure_ints L)
theorem nk_rw {r : Rw} (o : okR r) : nk 2 (rwV r) = true := nk_of (kd_rw o) (by
  show (pureVs (r.1.map .int) && (pureVs (r.2.map .int) && true)) = true
  rw [pure_ints, pure_ints]
  rfl)
theorem nk_two {a b : IV} (ha : nk 1 a = true) (hb : nk 1 b = true) : nk 2 (.tup [a, b]) = true := nk_tup (by simp) fun x hx => by
  simp only [List.mem_cons, List.not_mem_nil, or_false] at hx
  rcases hx with rfl | rfl
  · exact ha
  · exact hb
theorem nk_ints {n : Nat} {L : List Int} : ∀ x ∈ iL L, nk n x = true := fun x hx => by
  obtain ⟨i, _, rfl⟩ := List.mem_map.mp hx
  cases n <;> rfl
theorem nk_app {n : Nat} {xs ys : List IV} (a : ∀ x ∈ xs, nk n x = true) (b : ∀ x ∈ ys, nk n x = true) : ∀ x ∈ xs ++ ys, nk n x = true := fun x hx => by
  rcases List.mem_append.mp hx with hx | hx
  · exact a x hx
  · exact b x hx
theorem cut_map {α β : Type} {f : α → β} {L : List α} {lo hi : Option Int} : cutL (L.map f) lo hi = (cutL L lo hi).map f := by
  unfold cutL
  rw [List.length_map, List.map_take, List.map_drop]
theorem cut_mem {α : Type} {L : List α} {lo hi : Option Int} {x : α} (h : x ∈ cutL L lo hi) : x ∈ L := List.mem_of_mem_drop (List.mem_of_mem_take h)
theorem cut_len {α : Type} {L : List α} {lo hi : Option Int} : (cutL L lo hi).length ≤ L.length := by
  unfold cutL
  rw [List.length_take, List.length_drop]
  omega
theorem cl_ints {n : Nat} (L : List Int) : (iL L).all (cl n) = true := by
  rw [List.all_eq_true]
  intro x hx
  obtain ⟨i, _, rfl⟩ := List.mem_map.mp hx
  exact cl_int
theorem cl_tI {n : Nat} (L : List Int) : cl (n + 1) (tI L) = true := cl_ints L
theorem cl_rw {n : Nat} (r : Rw) : cl (n + 2) (rwV r) = true := by
  show (cl (n + 1) (tI r.1) && (cl (n + 1) (tI r.2) && true)) = true
  rw [cl_tI, cl_tI]
  rfl
theorem cl_rows {n : Nat} (R : List Rw) : cl (n + 3) (rowsV R) = true := by
  show (R.map rwV).all (cl (n + 2)) = true
  rw [List.all_eq_true]
  intro x hx
  obtain ⟨r, _, rfl⟩ := List.mem_map.mp hx
  exact cl_rw r
theorem eqD_rw {h : IH} (a b : Rw) : eqD h (rwV a) (rwV b) = some (eqV (rwV a) (rwV b)) := by
  have ca := cl_rw (n := 10) a
  have cb := cl_rw (n := 10) b
  obtain ⟨d, ed⟩ := dat_cl (h := h) DEEP ca
  obtain ⟨e, ee⟩ := dat_cl (h := h) DEEP cb
  unfold eqD
  rw [ed, ee]
  show some (PyData.eqv d e) = _
  rw [eqv_cl ca cb ed ee]
theorem idx_some {h : IH} {r : Rw} : ∀ {R : List Rw}, r ∈ R → ∃ j, j < R.length ∧ idxD h (rwV r) (R.map rwV) = some j
  | [], m => by cases m
  | q :: R, m => by
    rw [List.map_cons]
    unfold idxD
    rw [eqD_rw]
    cases e : eqV (rwV q) (rwV r) with
    | true =>
      refine ⟨0, by simp, ?_⟩
      show (if (R.map rwV).all (fun z => (eqD h z (rwV r)).isSome) = true then some 0 else none) = _
      rw [if_pos]
      rw [List.all_eq_true]
      intro z hz
      obtain ⟨p, _, rfl⟩ := List.mem_map.mp hz
      rw [eqD_rw]
      rfl
    | false =>
      have m2 : r ∈ R := by
        rcases List.mem_cons.mp m with rfl | m
        · rw [eqV_rf] at e; cases e
        · exact m
      obtain ⟨j, hj, ej⟩ := idx_some m2
      exact ⟨j + 1, by simp; omega, by show ((idxD h (rwV r) (R.map rwV)).map (· + 1)) = _; rw [ej]; rfl⟩
theorem prs_rw : ∀ R : List Rw, prsO (R.map rwV) = some (R.map (fun r => tI r.1), R.map fun r => tI r.2)
  | [] => rfl
  | r :: R => by
    rw [List.map_cons]
    show (match prsO (R.map rwV) with
      | some (ks, us) => some (tI r.1 :: ks, tI r.2 :: us)
      | none => none) = _
    rw [prs_rw R]
    rfl
theorem merge_new : ∀ {R : List Rw} {ds : List (List Int)} {us : List IV}, (ds ++ R.map (·.1)).Nodup → dmerge (ds.map tI) us (R.map fun r => tI r.1) (R.map fun r => tI r.2) = ((ds ++ R.map (·.1)).map tI, us ++ R.map fun r => tI r.2)
  | [], ds, us, _ => by simp [dmerge]
  | r :: R, ds, us, nd => by
    rw [List.map_cons, List.map_cons]
    unfold dmerge
    have n : r.1 ∉ ds := fun m => (List.nodup_append.mp nd).2.2 r.1 m r.1 (by simp) rfl
    rw [dput_new keyV_tup (x := r.1) n]
    have e : ds ++ (r :: R).map (·.1) = (ds ++ [r.1]) ++ R.map (·.1) := by simp
    rw [e] at nd ⊢
    have ih := merge_new (R := R) (ds := ds ++ [r.1]) (us := us ++ [tI r.2]) nd
    refine ih.trans ?_
    simp
theorem Asc.nodup {R : List Rw} (a : Asc R) : (R.map (·.1)).Nodup := by
  refine List.pairwise_map.mpr (a.imp fun h e => ?_)
  rw [e, ltB_irr] at h
  cases h
theorem dict_rw {R : List Rw} {h : IH} {n : Nat} (a : Asc R) (hl : R.length ≤ 12) (e : h[n]? = some (.ktp (R.map rwV))) : ∃ v, dctKI [.ref n] h = .ok v h ∧ ∀ m, nk m v = true := by
  have kt : allKT (R.map fun r => tI r.1) = true := by
    clear a hl e
    induction R with
    | nil => rfl
    | cons r R ih =>
      show (isKT (tI r.1) && allKT (R.map fun r => tI r.1)) = true
      rw [ih]
      have := isKT_tupOf r.1
      rw [show isKT (tI r.1) = true from this]
      rfl
  have m := merge_new (R := R) (ds := []) (us := []) (by simpa using a.nodup)
  refine ⟨.dct ((R.map (·.1)).map tI) (R.map fun r => tI r.2), ?_, fun m => nk_of (by cases m <;> rfl) ?_⟩
  · have ko : ktO h (.ref n) = some (R.map rwV) := by
      show (match h[n]? with
        | some (.ktp xs) => some xs
        | _ => none) = _
      rw [e]
    show (match ktO h (.ref n) with
      | some ys => (match prsO ys with
        | some (ks, us) => if allKT ks = true ∧ ys.length ≤ 16777216 then Out.ok (IV.dct (dmerge [] [] ks us).1 (dmerge [] [] ks us).2) h else .no
        | none => .no)
      | none => .no) = _
    rw [ko]
    show (match prsO (R.map rwV) with
      | some (ks, us) => if allKT ks = true ∧ (R.map rwV).length ≤ 16777216 then Out.ok (IV.dct (dmerge [] [] ks us).1 (dmerge [] [] ks us).2) h else .no
      | none => .no) = _
    rw [prs_rw]
    show (if allKT (R.map fun r => tI r.1) = true ∧ (R.map rwV).length ≤ 16777216 then Out.ok (IV.dct (dmerge [] [] (R.map fun r => tI r.1) (R.map fun r => tI r.2)).1 (dmerge [] [] (R.map fun r => tI r.1) (R.map fun r => tI r.2)).2) h else .no) = _
    rw [if_pos ⟨kt, by rw [List.length_map]; omega⟩, show dmerge [] [] (R.map fun r => tI r.1) (R.map fun r => tI r.2) = _ from m]
    simp
  · show (pureVs _ && pureVs _) = true
    rw [pure_all, pure_all]
    · rfl
    · intro v hv
      obtain ⟨r, _, rfl⟩ := List.mem_map.mp hv
      exact pure_ints _
    · intro v hv
      obtain ⟨r, _, rfl⟩ := List.mem_map.mp hv
      exact pure_ints _
end K17
namespace K17
open PySem PySem.Spec PyProof.Rows EV
open L2 hiding eqV keyOf
theorem coe_rows {R : List Rw} {i n : Nat} {σ : IE} {h : IH} (e : σ[i]? = some (some (.ref n))) (e2 : h[n]? = some (.ktp (R.map rwV))) : coeK (varE i) σ h = .ok (rowsV R) h := by
  unfold coeK
  rw [var_ok e]
  show (match h[n]? with
    | some (.ktp xs) => Out.ok (IV.tup xs) h
    | _ => .ok (.ref n) h) = _
  rw [e2]
theorem addR_ok {fa fb : IE → M IV} {σ : IE} {h : IH} {n : Nat} {xs ys : List IV} (e1 : fa σ h = .ok (.ref n) h) (e2 : fb σ h = .ok (.lst ys) h) (e : h[n]? = some (.lst xs)) (hl : xs.length + ys.length ≤ 1000) : binE addRI fa fb σ h = .ok (.ref h.length) (h ++ [.lst (xs ++ ys)]) := by
  refine bin_ok e1 e2 ?_
  unfold addRI
  have l : EV.lsO h (.ref n) = some xs := by simp only [EV.lsO, e]
  have l2 : EV.lsO h (.lst ys) = some ys := rfl
  rw [l, l2]
  show (if xs.length + ys.length ≤ sizeLine then _ else _) = _
  rw [if_pos (by have : sizeLine = 16777216 := rfl; omega)]
theorem idx_e {R : List Rw} {r : Rw} {j : Nat} {σ : IE} {h : IH} (e1 : σ[1]? = some (some (.ref 2))) (e3 : σ[3]? = some (some (rwV r))) (e2 : h[2]? = some (.ktp (R.map rwV))) (ej : idxD h (rwV r) (R.map rwV) = some j) : tidxD (varE 1) (consA (varE 3) nilA) σ h = .ok (.int (j : Int)) h := by
  unfold tidxD
  rw [var_ok e1]
  show (match h[2]? with
    | some (.ktp xs) => (consA (varE 3) nilA σ h).bind fun vs h => (match vs with
      | [x] => (match idxD h x xs with
        | some j => Out.ok (IV.int (j : Nat)) h
        | none => .no)
      | _ => .no)
    | _ => .no) = _
  rw [e2, arg_ok (fs := nilA) (var_ok e3) rfl]
  show (match idxD h (rwV r) (R.map rwV) with
        | some j => Out.ok (IV.int (j : Nat)) h
        | none => .no) = _
  rw [ej]
def tr (i : Int) : IV := if ([IV.int 0, .int 1].any fun y => eqV y (.int i)) = true then .bl (decide (i = 1)) else .int i
theorem nk_tr {n : Nat} (i : Int) : nk n (tr i) = true := by
  unfold tr
  split <;> cases n <;> rfl
theorem tr_e {i : Int} {σ : IE} {h : IH} (e : σ[7]? = some (some (.int i))) : iteE (cmpT inDct (varE 7) (tupE (consA (cstE (.int 0)) (consA (cstE (.int 1)) nilA)))) (binE eqDI (varE 7) (cstE (.int 1))) (varE 7) σ h = .ok (tr i) h := by
  have c : cmpT inDct (varE 7) (tupE (consA (cstE (.int 0)) (consA (cstE (.int 1)) nilA))) σ h = .ok ([IV.int 0, .int 1].any fun y => eqV y (.int i)) h := by
    refine cmp_ok (v := .int i) (u := .tup [.int 0, .int 1]) (var_ok e) rfl ?_
    have q := (inB_cl (h := h) (x := .int i) (ys := [.int 0, .int 1]) cl_int rfl).1
    show inI (.int i) (.tup [.int 0, .int 1]) h = _
    unfold inI
    rw [q]
  refine ite_ok c ?_
  unfold tr
  cases ([IV.int 0, .int 1].any fun y => eqV y (.int i)) with
  | true => exact bin_ok (var_ok e) rfl eq_int
  | false => exact var_ok e
theorem tr_all {L : List Int} {fa : IE → M IV} {a0 a1 a2 a3 a4 a5 a6 a7 : Option IV} {h : IH} (hl : L.length ≤ 100) (e : fa [a0, a1, a2, a3, a4, a5, a6, a7] h = .ok (tI L) h) :
    bltE tupleI (consA (lcI (anyIt fa) (gNm 7) yesT (iteE (cmpT inDct (varE 7) (tupE (consA (cstE (.int 0)) (consA (cstE (.int 1)) nilA)))) (binE eqDI (varE 7) (cstE (.int 1))) (varE 7)) [7]) nilA) [a0, a1, a2, a3, a4, a5, a6, a7] h = .ok (.tup (L.map tr)) h :=
  tuple_of (lc_all (σ := [a0, a1, a2, a3, a4, a5, a6, a7]) (h := h) (fi := anyIt fa) IV.int tr L (any_tup e) (by omega) fun i _ => ⟨[a0, a1, a2, a3, a4, a5, a6, some (.int i)], rfl, tr_e rfl⟩)
abbrev B (a b c : Int) (o : IO) (R : List Rw) (F : List IV) (tl : IH) : IH := T3 a b c :: o :: .ktp (R.map rwV) :: .lst F :: tl
abbrev oddB1 : SM := asgS (refE (capA (consA (bltE listDI (consA (varE 3) nilA)) (consA (binE addI (varE 3) (varE 3)) (consA (sliE (varE 3) noneO (someO (cstE (.int 1)))) (consA (tupE (consA (bltE listDI (consA (binE subD (varE 3) (cstE (.int 0))) nilA)) (consA (binE subD (varE 3) (cstE (.int 1))) nilA))) (consA (tupE (consA (binE subD (varE 3) (cstE (.int 0))) (consA (bltE listDI (consA (binE subD (varE 3) (cstE (.int 1))) nilA)) nilA))) (consA (tupE (consA (tupE nilA) (consA (binE subD (varE 3) (cstE (.int 1))) nilA))) (consA (tupE (consA (binE subD (varE 3) (cstE (.int 0))) (consA (tupE nilA) nilA))) nilA))))))))) (gNm 5)
abbrev oddE2 : IE → M IV := lstE (capA (consA (tupE (consA (binE addI (binE subD (varE 3) (cstE (.int 0))) (tupE (consA (cstE (.int 0)) (consA (cstE (.int 0)) (consA (cstE (.int 0)) nilA))))) (consA (binE subD (varE 3) (cstE (.int 1))) nilA))) (consA (tupE (consA (binE subD (varE 3) (cstE (.int 0))) (consA (binE addI (binE subD (varE 3) (cstE (.int 1))) (binE mulEI (tupE (consA (cstE (.int 0)) nilA)) (cstE (.int 8)))) nilA))) (consA (tupE (consA (binE addI (sliE (binE subD (varE 3) (cstE (.int 0))) noneO (someO (negE (cstE (.int 1))))) (tupE (consA (negE (cstE (.int 1))) nilA))) (consA (binE subD (varE 3) (cstE (.int 1))) nilA))) (consA (cstE .non) nilA)))))
abbrev oddE3 : IE → M IV := lstE (capA (consA (tupE (consA (binE subD (varE 3) (cstE (.int 0))) (consA (binE addI (sliE (binE subD (varE 3) (cstE (.int 1))) noneO (someO (negE (cstE (.int 1))))) (tupE (consA (binE powI (cstE (.int 10)) (cstE (.int 18))) nilA))) nilA))) (consA (tupE (consA (binE subD (varE 3) (cstE (.int 0))) (consA (binE addI (sliE (binE subD (varE 3) (cstE (.int 1))) noneO (someO (negE (cstE (.int 1))))) (tupE (consA (cstE .non) nilA))) nilA))) (consA (tupE (consA (binE addI (sliE (binE subD (varE 3) (cstE (.int 0))) noneO (someO (negE (cstE (.int 1))))) (tupE (consA (cstE (.str "1")) nilA))) (consA (binE subD (varE 3) (cstE (.int 1))) nilA))) nilA))))
abbrev odd1 (r : Rw) : List IV := [.lst [tI r.1, tI r.2], .tup [tI r.1, tI r.2, tI r.1, tI r.2], .tup [tI r.1], .tup [.lst (iL r.1), tI r.2], .tup [tI r.1, .lst (iL r.2)], .tup [.tup [], tI r.2], .tup [tI r.1, .tup []]]
abbrev lastC (L : List Int) : List Int := cutL L none (some (-1))
abbrev odd2 (r : Rw) : List IV := [.tup [tI (r.1 ++ [0, 0, 0]), tI r.2], .tup [tI r.1, tI (r.2 ++ [0, 0, 0, 0, 0, 0, 0, 0])], .tup [tI (lastC r.1 ++ [-1]), tI r.2], .non]
abbrev odd3 (r : Rw) : List IV := [.tup [tI r.1, tI (lastC r.2 ++ [10 ^ (18 : Int).toNat])], .tup [tI r.1, .tup (iL (lastC r.2) ++ [.non])], .tup [.tup (iL (lastC r.1) ++ [.str "1"]), tI r.2]]
abbrev odd4 (r : Rw) : List IV := [.tup [.tup (r.1.map tr), tI r.2], .tup [tI r.1, .tup (r.2.map tr)]]
theorem e_odd1 {r : Rw} {a0 a1 a2 a4 a5 a6 a7 : Option IV} {h : IH} : oddB1 [a0, a1, a2, some (rwV r), a4, a5, a6, a7] h = .nx [a0, a1, a2, some (rwV r), a4, some (.ref h.length), a6, a7] (h ++ [.lst (odd1 r)]) := rfl
section
variable {r : Rw} {a0 a1 a2 a4 a5 a6 a7 : Option IV} {h : IH}
theorem e_k : binE subD (varE 3) (cstE (.int 0)) [a0, a1, a2, some (rwV r), a4, a5, a6, a7] h = .ok (tI r.1) h := rfl
theorem e_v : binE subD (varE 3) (cstE (.int 1)) [a0, a1, a2, some (rwV r), a4, a5, a6, a7] h = .ok (tI r.2) h := rfl
theorem e_lk : sliE (binE subD (varE 3) (cstE (.int 0))) noneO (someO (negE (cstE (.int 1)))) [a0, a1, a2, some (rwV r), a4, a5, a6, a7] h = .ok (tI (lastC r.1)) h := by
  show Out.ok (IV.tup (cutL (iL r.1) none (some (-1)))) h = _
  rw [cut_map]
theorem e_lv : sliE (binE subD (varE 3) (cstE (.int 1))) noneO (someO (negE (cstE (.int 1)))) [a0, a1, a2, some (rwV r), a4, a5, a6, a7] h = .ok (tI (lastC r.2)) h := by
  show Out.ok (IV.tup (cutL (iL r.2) none (some (-1)))) h = _
  rw [cut_map]
theorem nilA_ok {σ : IE} : nilA σ h = .ok [] h := rfl
theorem e_odd2 (o : okR r) : oddE2 [a0, a1, a2, some (rwV r), a4, a5, a6, a7] h = .ok (.lst (odd2 r)) h := by
  obtain ⟨⟨o1, o2⟩, o3, o4⟩ := o
  have lk : (lastC r.1).length ≤ 3 := Nat.le_trans cut_len o2
  have t1 := tup_ok (arg_ok (add_tI (e_k (r := r) (a0 := a0) (a1 := a1) (a2 := a2) (a4 := a4) (a5 := a5) (a6 := a6) (a7 := a7) (h := h)) (L2 := [0, 0, 0]) (fb := tupE (consA (cstE (.int 0)) (consA (cstE (.int 0)) (consA (cstE (.int 0)) nilA)))) rfl (by simp; omega)) (arg_ok e_v nilA_ok)) (by simp)
  have t2 := tup_ok (arg_ok (e_k (r := r) (a0 := a0) (a1 := a1) (a2 := a2) (a4 := a4) (a5 := a5) (a6 := a6) (a7 := a7) (h := h)) (arg_ok (add_tI e_v (L2 := [0, 0, 0, 0, 0, 0, 0, 0]) (fb := binE mulEI (tupE (consA (cstE (.int 0)) nilA)) (cstE (.int 8))) rfl (by simp; omega)) nilA_ok)) (by simp)
  have t3 := tup_ok (arg_ok (add_tI (e_lk (r := r) (a0 := a0) (a1 := a1) (a2 := a2) (a4 := a4) (a5 := a5) (a6 := a6) (a7 := a7) (h := h)) (L2 := [-1]) (fb := tupE (consA (negE (cstE (.int 1))) nilA)) rfl (by simp; omega)) (arg_ok e_v nilA_ok)) (by simp)
  exact lst_ok (arg_ok t1 (arg_ok t2 (arg_ok t3 (arg_ok (v := .non) rfl nilA_ok)))) (by simp)
theorem e_odd3 (o : okR r) : oddE3 [a0, a1, a2, some (rwV r), a4, a5, a6, a7] h = .ok (.lst (odd3 r)) h := by
  obtain ⟨⟨o1, o2⟩, o3, o4⟩ := o
  have lk : (lastC r.1).length ≤ 3 := Nat.le_trans cut_len o2
  have lv : (lastC r.2).length ≤ 8 := Nat.le_trans cut_len o4
  have t1 := tup_ok (arg_ok (e_k (r := r) (a0 := a0) (a1 := a1) (a2 := a2) (a4 := a4) (a5 := a5) (a6 := a6) (a7 := a7) (h := h)) (arg_ok (add_tI e_lv (L2 := [10 ^ (18 : Int).toNat]) (tup_ok (arg_ok p18 nilA_ok) (by simp)) (by simp; omega)) nilA_ok)) (by simp)
  have t2 := tup_ok (arg_ok (e_k (r := r) (a0 := a0) (a1 := a1) (a2 := a2) (a4 := a4) (a5 := a5) (a6 := a6) (a7 := a7) (h := h)) (arg_ok (bin_ok (g := addI) e_lv (fb := tupE (consA (cstE .non) nilA)) (u := .tup [.non]) rfl (add_tup (by simp; omega))) nilA_ok)) (by simp)
  have t3 := tup_ok (arg_ok (bin_ok (g := addI) (e_lk (r := r) (a0 := a0) (a1 := a1) (a2 := a2) (a4 := a4) (a5 := a5) (a6 := a6) (a7 := a7) (h := h)) (fb := tupE (consA (cstE (.str "1")) nilA)) (u := .tup [.str "1"]) rfl (add_tup (by simp; omega))) (arg_ok e_v nilA_ok)) (by simp)
  exact lst_ok (arg_ok t1 (arg_ok t2 (arg_ok t3 nilA_ok))) (by simp)
end
theorem nk_tr_all {L : List Int} {n : Nat} (hl : L.length ≤ 900) : nk (n + 1) (.tup (L.map tr)) = true := nk_tup (by rw [List.length_map]; exact hl) fun x hx => by
  obtain ⟨i, _, rfl⟩ := List.mem_map.mp hx
  exact nk_tr i
theorem nk_odd {r : Rw} (o : okR r) : ∀ v ∈ odd1 r ++ odd2 r ++ odd3 r ++ odd4 r, nk 2 v = true := by
  obtain ⟨⟨o1, o2⟩, o3, o4⟩ := o
  have lk : (lastC r.1).length ≤ 3 := Nat.le_trans cut_len o2
  have lv : (lastC r.2).length ≤ 8 := Nat.le_trans cut_len o4
  have K1 : ∀ {n}, nk (n + 1) (tI r.1) = true := fun {n} => nk_tI (by omega)
  have V1 : ∀ {n}, nk (n + 1) (tI r.2) = true := fun {n} => nk_tI (by omega)
  have K0 := nk_pure (K1 (n := 0))
  have V0 := nk_pure (V1 (n := 0))
  have pl : ∀ {L : List Int}, ∀ x ∈ iL L, pureV x = true := fun {L} x hx => nk_pure (nk_ints (n := 0) x hx)
  intro v hv
  simp only [List.mem_append, List.mem_cons, List.not_mem_nil, or_false] at hv
  rcases hv with ((((rfl | rfl | rfl | rfl | rfl | rfl | rfl) | (rfl | rfl | rfl | rfl)) | (rfl | rfl | rfl)) | (rfl | rfl))
  · refine nk_lst fun x hx => ?_
    simp only [List.mem_cons, List.not_mem_nil, or_false] at hx
    rcases hx with rfl | rfl
    · exact K0
    · exact V0
  · refine nk_tup (by simp) fun x hx => ?_
    simp only [List.mem_cons, List.not_mem_nil, or_false] at hx
    rcases hx with rfl | rfl | rfl | rfl
    · exact K1
    · exact V1
    · exact K1
    · exact V1
  · refine nk_tup (by simp) fun x hx => ?_
    rw [List.mem_singleton.mp hx]
    exact K1
  · exact nk_two (nk_lst pl) V1
  · exact nk_two K1 (nk_lst pl)
  · exact nk_two rfl V1
  · exact nk_two K1 rfl
  · exact nk_two (nk_tI (by simp; omega)) V1
  · exact nk_two K1 (nk_tI (by simp; omega))
  · exact nk_two (nk_tI (by simp; omega)) V1
  · rfl
  · exact nk_two K1 (nk_tI (by simp; omega))
  · exact nk_two K1 (nk_tup (by simp; omega) (nk_app nk_ints fun x hx => by rw [List.mem_singleton.mp hx]; rfl))
  · exact nk_two (nk_tup (by simp; omega) (nk_app nk_ints fun x hx => by rw [List.mem_singleton.mp hx]; rfl)) V1
  · exact nk_two (nk_tr_all (by omega)) V1
  · exact nk_two K1 (nk_tr_all (by omega))
end K17
namespace K17
open PySem PySem.Spec PyProof.Rows EV
open L2 hiding eqV keyOf
abbrev apK : SM := exprS (mthE "list" appM (varE 5) (consA (tupE (consA (bltE tupleI (consA (lcI (anyIt (binE subD (varE 3) (cstE (.int 0)))) (gNm 7) yesT (iteE (cmpT inDct (varE 7) (tupE (consA (cstE (.int 0)) (consA (cstE (.int 1)) nilA)))) (binE eqDI (varE 7) (cstE (.int 1))) (varE 7)) [7]) nilA)) (consA (binE subD (varE 3) (cstE (.int 1))) nilA))) nilA))
abbrev apV : SM := exprS (mthE "list" appM (varE 5) (consA (tupE (consA (binE subD (varE 3) (cstE (.int 0))) (consA (bltE tupleI (consA (lcI (anyIt (binE subD (varE 3) (cstE (.int 1)))) (gNm 7) yesT (iteE (cmpT inDct (varE 7) (tupE (consA (cstE (.int 0)) (consA (cstE (.int 1)) nilA)))) (binE eqDI (varE 7) (cstE (.int 1))) (varE 7)) [7]) nilA)) nilA))) nilA))
abbrev outE : IE → M IV := binE addI (binE addI (sliE (coeK (varE 1)) noneO (someO (varE 4))) (tupE (consA (varE 6) nilA))) (sliE (coeK (varE 1)) (someO (binE addI (varE 4) (cstE (.int 1)))) noneO)
abbrev nearB : SM := seqS (asgS (tidxD (varE 1) (consA (varE 3) nilA)) (gNm 4)) (seqS oddB1 (seqS (asgS (binE addRI (varE 5) oddE2) (gNm 5)) (seqS (asgS (binE addRI (varE 5) oddE3) (gNm 5)) (seqS apK (seqS apV (seqS (exprS (mthE "list" extM (varE 2) (consA (lcCI (refIt (varE 5)) (gNm 6) yesT outE [6]) nilA))) nextS))))))
abbrev St (x3 x4 x5 x6 x7 : Option IV) : IE := [some (.ref 0), some (.ref 2), some (.ref 3), x3, x4, x5, x6, x7]
def outV (R : List Rw) (j : Nat) (one : IV) : IV := .tup ((R.map rwV).take j ++ [one] ++ (R.map rwV).drop (j + 1))
theorem out_e {R : List Rw} {j : Nat} {one : IV} {x3 x5 x7 : Option IV} {h : IH} (hl : R.length ≤ 12) (e : h[2]? = some (.ktp (R.map rwV))) : outE (St x3 (some (.int (j : Int))) x5 (some one) x7) h = .ok (outV R j one) h := by
  have c := coe_rows (i := 1) (σ := St x3 (some (.int (j : Int))) x5 (some one) x7) rfl e
  have a1 := sli_to c (fu := varE 4) (k := j) rfl
  have a2 := sli_from c (fl := binE addI (varE 4) (cstE (.int 1))) (j := j + 1) rfl
  have b := bin_ok (g := addI) a1 (fb := tupE (consA (varE 6) nilA)) (u := .tup [one]) rfl (add_tup (by rw [List.length_take, List.length_map]; simp; omega))
  exact bin_ok (g := addI) b a2 (add_tup (by rw [List.length_append, List.length_take, List.length_drop, List.length_map]; simp; omega))
theorem nk_out {R : List Rw} {j : Nat} {one : IV} (o : ∀ r ∈ R, okR r) (hl : R.length ≤ 12) (k : nk 2 one = true) : nk 3 (outV R j one) = true := by
  have m : ∀ x ∈ R.map rwV, nk 2 x = true := fun x hx => by
    obtain ⟨r, hr, rfl⟩ := List.mem_map.mp hx
    exact nk_rw (o r hr)
  refine nk_tup ?_ (nk_app (nk_app (fun x hx => m x (List.mem_of_mem_take hx)) fun x hx => by rw [List.mem_singleton.mp hx]; exact k) fun x hx => m x (List.mem_of_mem_drop hx))
  rw [List.length_append, List.length_append, List.length_take, List.length_drop, List.length_map]
  simp; omega
theorem near_step {a b c : Int} {ob : IO} {R : List Rw} {F : List IV} {tl : IH} {r : Rw} {x4 x5 x6 x7 : Option IV} (o : ∀ r ∈ R, okR r) (hl : R.length ≤ 12) (m : r ∈ R) (hF : F.length ≤ 1000) :
    ∃ (F' : List IV) (tl' : IH) (y4 y5 y6 y7 : Option IV), nearB (St (some (rwV r)) x4 x5 x6 x7) (B a b c ob R F tl) = .nx (St (some (rwV r)) y4 y5 y6 y7) (B a b c ob R (F ++ F') tl') ∧ (∀ v ∈ F', nk 3 v = true) ∧ F'.length = 16 := by
  have or_ := o r m
  obtain ⟨j, hj, ej⟩ := idx_some (h := B a b c ob R F tl) m
  have s1 := asg_nm (i := 4) (idx_e (σ := St (some (rwV r)) x4 x5 x6 x7) (h := B a b c ob R F tl) rfl rfl rfl ej)
  obtain ⟨H, hH⟩ : ∃ H : IH, H = B a b c ob R F tl := ⟨_, rfl⟩
  have hk : H[2]? = some (.ktp (R.map rwV)) := by rw [hH]; rfl
  rw [← hH] at s1
  have s2 := e_odd1 (r := r) (a0 := some (.ref 0)) (a1 := some (.ref 2)) (a2 := some (.ref 3)) (a4 := some (.int (j : Int))) (a5 := x5) (a6 := x6) (a7 := x7) (h := H)
  have q2 := e_odd2 (r := r) (a0 := some (.ref 0)) (a1 := some (.ref 2)) (a2 := some (.ref 3)) (a4 := some (.int (j : Int))) (a5 := some (.ref H.length)) (a6 := x6) (a7 := x7) (h := H ++ [.lst (odd1 r)]) or_
  have s3 := asg_nm (i := 5) (addR_ok (fa := varE 5) (n := H.length) (σ := St (some (rwV r)) (some (.int (j : Int))) (some (.ref H.length)) x6 x7) rfl q2 get_last (by simp))
  obtain ⟨H1, hH1⟩ : ∃ H1 : IH, H1 = H ++ [.lst (odd1 r)] := ⟨_, rfl⟩
  rw [← hH1] at s2 s3
  have q3 := e_odd3 (r := r) (a0 := some (.ref 0)) (a1 := some (.ref 2)) (a2 := some (.ref 3)) (a4 := some (.int (j : Int))) (a5 := some (.ref H1.length)) (a6 := x6) (a7 := x7) (h := H1 ++ [.lst (odd1 r ++ odd2 r)]) or_
  have s4 := asg_nm (i := 5) (addR_ok (fa := varE 5) (n := H1.length) (σ := St (some (rwV r)) (some (.int (j : Int))) (some (.ref H1.length)) x6 x7) rfl q3 get_last (by simp))
  obtain ⟨H2, hH2⟩ : ∃ H2 : IH, H2 = H1 ++ [.lst (odd1 r ++ odd2 r)] := ⟨_, rfl⟩
  rw [← hH2] at s3 s4
  obtain ⟨⟨o1, o2⟩, o3, o4⟩ := or_
  obtain ⟨S, hS⟩ : ∃ S : IE, S = St (some (rwV r)) (some (.int (j : Int))) (some (.ref H2.length)) x6 x7 := ⟨_, rfl⟩
  have t5 := tup_ok (arg_ok (tr_all (L := r.1) (fa := binE subD (varE 3) (cstE (.int 0))) (a0 := some (.ref 0)) (a1 := some (.ref 2)) (a2 := some (.ref 3)) (a3 := some (rwV r)) (a4 := some (.int (j : Int))) (a5 := some (.ref H2.length)) (a6 := x6) (a7 := x7) (h := H2 ++ [.lst (odd1 r ++ odd2 r ++ odd3 r)]) (by omega) e_k) (arg_ok (e_v (r := r)) nilA_ok)) (by simp)
  have s5 := app_ok (i := 5) (n := H2.length) (h := H2) (h1 := H2) rfl rfl t5 rfl (by simp)
  have t6 := tup_ok (arg_ok (e_k (r := r) (a0 := some (.ref 0)) (a1 := some (.ref 2)) (a2 := some (.ref 3)) (a4 := some (.int (j : Int))) (a5 := some (.ref H2.length)) (a6 := x6) (a7 := x7) (h := H2 ++ [.lst (odd1 r ++ odd2 r ++ odd3 r ++ [.tup [.tup (r.1.map tr), tI r.2]])])) (arg_ok (tr_all (L := r.2) (fa := binE subD (varE 3) (cstE (.int 1))) (by omega) e_v) nilA_ok)) (by simp)
  have s6 := app_ok (i := 5) (n := H2.length) (h := H2) (h1 := H2) rfl rfl t6 rfl (by simp)
  have eO : odd1 r ++ odd2 r ++ odd3 r ++ [.tup [.tup (r.1.map tr), tI r.2]] ++ [.tup [tI r.1, .tup (r.2.map tr)]] = odd1 r ++ odd2 r ++ odd3 r ++ odd4 r := by simp
  rw [eO] at s6
  have nO := nk_odd (o r m)
  have lO : (odd1 r ++ odd2 r ++ odd3 r ++ odd4 r).length = 16 := rfl
  generalize hO : odd1 r ++ odd2 r ++ odd3 r ++ odd4 r = O at s6 nO lO
  have hk2 : (H2 ++ [IO.lst O])[2]? = some (.ktp (R.map rwV)) := by
    rw [hH2, hH1, hH]; rfl
  have lc := lcC_typ (g := gNm 6) (t := yesT) (f := outE) (ws := [6]) (σ := St (some (rwV r)) (some (.int (j : Int))) (some (.ref H2.length)) x6 x7) (h := H2 ++ [.lst O]) (fi := refIt (varE 5)) (chk := chkL H2.length O) (fun y : IV => y) (fun _ => true) (outV R j) O (by rw [List.map_id']; exact refIt_ok (fa := varE 5) (n := H2.length) rfl get_last) (chk_ok get_last) (by omega) fun y hy => ⟨St (some (rwV r)) (some (.int (j : Int))) (some (.ref H2.length)) (some y) x7, rfl, rfl, fun _ => out_e hl hk2⟩
  rw [filter_yes] at lc
  have h3 : (H2 ++ [IO.lst O])[3]? = some (.lst F) := by rw [hH2, hH1, hH]; rfl
  have se : (H2 ++ [IO.lst O]).set 3 (.lst (F ++ O.map (outV R j))) = B a b c ob R (F ++ O.map (outV R j)) (tl ++ [.lst (odd1 r)] ++ [.lst (odd1 r ++ odd2 r)] ++ [.lst O]) := by rw [hH2, hH1, hH]; rfl
  have s7 : exprS (mthE "list" extM (varE 2) (consA (lcCI (refIt (varE 5)) (gNm 6) yesT outE [6]) nilA)) (St (some (rwV r)) (some (.int (j : Int))) (some (.ref H2.length)) x6 x7) (H2 ++ [.lst O]) = .nx (St (some (rwV r)) (some (.int (j : Int))) (some (.ref H2.length)) x6 x7) (B a b c ob R (F ++ O.map (outV R j)) (tl ++ [.lst (odd1 r)] ++ [.lst (odd1 r ++ odd2 r)] ++ [.lst O])) := by
    refine expr_ok (v := .non) (mth_ok (o := .ref 3) (var_ok rfl) (by simp only [tyName, h3]) (arg_ok (fs := nilA) lc rfl) ?_)
    show (match (H2 ++ [IO.lst O])[3]?, some (O.map (outV R j)) with
      | some (.lst ys), some zs => if ys.length + zs.length ≤ 16777216 then Out.ok IV.non ((H2 ++ [IO.lst O]).set 3 (.lst (ys ++ zs))) else .no
      | _, _ => .no) = _
    rw [h3]
    show (if F.length + (O.map (outV R j)).length ≤ 16777216 then Out.ok IV.non ((H2 ++ [IO.lst O]).set 3 (.lst (F ++ O.map (outV R j)))) else .no) = _
    rw [if_pos (by rw [List.length_map]; omega), se]
  refine ⟨O.map (outV R j), tl ++ [.lst (odd1 r)] ++ [.lst (odd1 r ++ odd2 r)] ++ [.lst O], some (.int (j : Int)), some (.ref H2.length), x6, x7, ?_, fun v hv => ?_, by rw [List.length_map]; exact lO⟩
  · rw [← hH]
    exact (seq_nx s1).trans ((seq_nx s2).trans ((seq_nx s3).trans ((seq_nx s4).trans ((seq_nx s5).trans ((seq_nx s6).trans ((seq_nx s7).trans rfl))))))
  · obtain ⟨y, hy, rfl⟩ := List.mem_map.mp hv
    exact nk_out o hl (nO y hy)
theorem near_rows_e {a b c : Int} {ob : IO} {R : List Rw} (ph : pureO ob = true) (A : Asc R) (o : ∀ r ∈ R, okR r) (hl : R.length ≤ 12) : ∃ L : List IV, EV.settle true 3 (c__law_near_rows [.ref 0, .ref 2] [T3 a b c, ob, .ktp (R.map rwV)]) = .ok (.lst L) [T3 a b c, ob, .ktp (R.map rwV)] ∧ ∀ v ∈ L, nk 3 v = true := by
  obtain ⟨H, hH⟩ : ∃ H : IH, H = [T3 a b c, ob, .ktp (R.map rwV)] := ⟨_, rfl⟩
  have h2 : H[2]? = some (.ktp (R.map rwV)) := by rw [hH]; rfl
  have cr := coe_rows (R := R) (i := 1) (n := 2) (σ := startI 8 [.ref 0, .ref 2]) (h := H) rfl h2
  obtain ⟨d, ed, kd_⟩ := dict_rw A hl h2
  have lm : (R.map rwV).length ≤ 12 := by rw [List.length_map]; exact hl
  have rv : revE (coeK (varE 1)) (startI 8 [.ref 0, .ref 2]) H = .ok (.tup (R.map rwV).reverse) H := by
    unfold revE
    rw [cr]
    rfl
  have ls : bltE listDI (consA (coeK (varE 1)) nilA) (startI 8 [.ref 0, .ref 2]) H = .ok (.lst (R.map rwV)) H := blt_ok (arg_ok (fs := nilA) cr rfl) rfl
  have dc : bltE dctKI (consA (varE 1) nilA) (startI 8 [.ref 0, .ref 2]) H = .ok d H := blt_ok (vs := [.ref 2]) rfl ed
  have s0 := asg_nm (i := 2) (ref_ok (arg_ok cr (arg_ok rv (arg_ok (bin_ok (g := addI) cr cr (add_tup (by omega))) (arg_ok ls (arg_ok (fa := cstE .non) rfl (arg_ok (fa := tupE nilA) rfl (arg_ok (fa := dct0E) (v := .dct [] []) rfl (arg_ok (fa := cstE (.int 5)) rfl (arg_ok (fa := cstE (.str "rows")) rfl (arg_ok dc (arg_ok (fa := tupE (consA (tupE (consA (tupE (consA (cstE (.int 1)) nilA)) (consA (tupE (consA (cstE (.int 2)) nilA)) nilA))) nilA)) (v := .tup [.tup [.tup [.int 1], .tup [.int 2]]]) rfl (arg_ok (fa := tupE (consA (tupE (consA (cstE (.int 1)) nilA)) (consA (tupE (consA (cstE (.int 2)) nilA)) nilA))) (v := .tup [.tup [.int 1], .tup [.int 2]]) rfl nilA_ok)))))))))))) (by simp))
  have rk : ∀ x ∈ R.map rwV, nk 2 x = true := fun x hx => by
    obtain ⟨r, hr, rfl⟩ := List.mem_map.mp hx
    exact nk_rw (o r hr)
  have F0 : ∀ v ∈ [rowsV R, .tup (R.map rwV).reverse, .tup (R.map rwV ++ R.map rwV), .lst (R.map rwV), .non, .tup [], .dct [] [], .int 5, .str "rows", d, .tup [.tup [.tup [.int 1], .tup [.int 2]]], .tup [.tup [.int 1], .tup [.int 2]]], nk 3 v = true := by
    intro v hv
    simp only [List.mem_cons, List.not_mem_nil, or_false] at hv
    rcases hv with rfl | rfl | rfl | rfl | rfl | rfl | rfl | rfl | rfl | rfl | rfl | rfl
    · exact nk_tup (by omega) rk
    · exact nk_tup (by rw [List.length_reverse]; omega) fun x hx => rk x (List.mem_reverse.mp hx)
    · exact nk_tup (by rw [List.length_append]; omega) (nk_app rk rk)
    · exact nk_lst fun x hx => nk_pure (rk x hx)
    · rfl
    · rfl
    · rfl
    · rfl
    · rfl
    · exact kd_ 3
    · rfl
    · rfl
  generalize hF : [rowsV R, .tup (R.map rwV).reverse, .tup (R.map rwV ++ R.map rwV), .lst (R.map rwV), .non, .tup [], .dct [] [], .int 5, .str "rows", d, .tup [.tup [.tup [.int 1], .tup [.int 2]]], .tup [.tup [.int 1], .tup [.int 2]]] = F at s0 F0
  have lF : F.length = 12 := by rw [← hF]; rfl
  have hB : H ++ [IO.lst F] = B a b c ob R F [] := by rw [hH]; rfl
  have hl3 : H.length = 3 := by rw [hH]; rfl
  rw [hB, hl3] at s0
  have it : anyIt (binE addI (sliE (coeK (varE 1)) noneO (someO (cstE (.int 1)))) (sliE (coeK (varE 1)) (someO (negE (cstE (.int 1)))) noneO)) (St none none none none none) (B a b c ob R F []) = .ok ((R.take 1 ++ cutL R (some (-1)) none).map rwV) (B a b c ob R F []) := by
    have cb := coe_rows (R := R) (i := 1) (n := 2) (σ := St none none none none none) (h := B a b c ob R F []) rfl rfl
    have a1 := sli_to cb (fu := cstE (.int 1)) (k := 1) rfl
    have a2 : sliE (coeK (varE 1)) (someO (negE (cstE (.int 1)))) noneO (St none none none none none) (B a b c ob R F []) = .ok (.tup (cutL (R.map rwV) (some (-1)) none)) (B a b c ob R F []) := by
      unfold sliE
      rw [cb]
      rfl
    rw [cut_map] at a2
    rw [← List.map_take] at a1
    have q := bin_ok (g := addI) a1 a2 (add_tup (by rw [List.length_map, List.length_map, List.length_take]; have := cut_len (L := R) (lo := some (-1)) (hi := none); omega))
    rw [← List.map_append] at q
    exact any_tup q
  have hsub : ∀ r ∈ R.take 1 ++ cutL R (some (-1)) none, r ∈ R := fun r hr => by
    rcases List.mem_append.mp hr with hr | hr
    · exact List.mem_of_mem_take hr
    · exact cut_mem hr
  have hlen : (R.take 1 ++ cutL R (some (-1)) none).length ≤ 24 := by
    rw [List.length_append, List.length_take]
    have := cut_len (L := R) (lo := some (-1)) (hi := none)
    omega
  generalize R.take 1 ++ cutL R (some (-1)) none = xs at it hsub hlen
  obtain ⟨σ', h', e, G, tl, x3, x4, x5, x6, x7, rfl, rfl, kG, _, _⟩ := for_inv (g := gNm 3) (f := nearB) rwV
    (fun ys σ h' => ∃ (G : List IV) (tl : IH) (x3 x4 x5 x6 x7 : Option IV), h' = B a b c ob R G tl ∧ σ = St x3 x4 x5 x6 x7 ∧ (∀ v ∈ G, nk 3 v = true) ∧ G.length + 16 * ys.length ≤ 500 ∧ ∀ y ∈ ys, y ∈ R)
    (fun y ys σ h' => by
      rintro ⟨G, tl, x3, x4, x5, x6, x7, rfl, rfl, kG, lG, sub⟩
      rw [List.length_cons] at lG
      obtain ⟨F', tl', y4, y5, y6, y7, e, kF, lF⟩ := near_step (a := a) (b := b) (c := c) (ob := ob) (F := G) (tl := tl) (x4 := x4) (x5 := x5) (x6 := x6) (x7 := x7) o hl (sub y (by simp)) (by omega)
      exact ⟨St (some (rwV y)) x4 x5 x6 x7, B a b c ob R G tl, _, _, rfl, e, G ++ F', tl', _, _, _, _, _, rfl, rfl, nk_app kG kF, by rw [List.length_append]; omega, fun z hz => sub z (List.mem_cons_of_mem _ hz)⟩)
    xs (St none none none none none) (B a b c ob R F []) ⟨F, [], _, _, _, _, _, rfl, rfl, F0, by omega, hsub⟩
  have run : c__law_near_rows [.ref 0, .ref 2] H = .ok (.ref 3) (H ++ (.lst G :: tl)) := by
    have q := def_rt (k := 8) (vs := [.ref 0, .ref 2]) (h := H) ((seq_nx s0).trans ((seq_nx (for_nx it e)).trans (ret_ok' (fa := varE 2) (v := .ref 3) rfl)))
    rw [hH] at q ⊢
    exact q
  have pH : pureH H = true := by
    rw [hH]
    have p1 : pureO (T3 a b c) = true := pure_ints [a, b, c]
    have p3 : pureO (.ktp (R.map rwV)) = true := pure_rw R
    show [T3 a b c, ob, .ktp (R.map rwV)].all pureO = true
    simp only [List.all_cons, List.all_nil, ph, p1, p3]
    rfl
  have at3 : (H ++ (IO.lst G :: tl))[3]? = some (.lst G) := by
    rw [List.getElem?_append_right (by omega), hl3]
    rfl
  have st := settle_ref (o := .lst G) (r := 3) pH at3 (by omega) (pure_all fun v hv => nk_pure (kG v hv))
  rw [hl3] at st
  refine ⟨G, ?_, kG⟩
  rw [← hH, run]
  exact st
end K17
namespace K17
open PySem PySem.Spec PyProof.Rows EV
open L2 hiding eqV keyOf
theorem kd_mono : ∀ {n : Nat} {v : IV}, kd (n + 1) v = true → kd n v = true
  | 0, v, k => kd_0 k
  | n + 1, v, k => by
    cases v with
    | tup xs =>
      obtain ⟨k1, k2⟩ := kd_tup k
      show (decide (xs.length ≤ 900) && xs.all (kd n)) = true
      rw [decide_eq_true k1, Bool.true_and, List.all_eq_true]
      exact fun x hx => kd_mono (k2 x hx)
    | _ => exact k
theorem ne_same {v : IV} {h : IH} (c : cl DEEP v = true) : neDI v v h = .ok (.bl false) h := by
  rw [neDI_cl c c, eqV_rf]
  rfl
theorem cl_opt (o : Option (List Rw)) : cl DEEP (optRs o) = true := by
  cases o with
  | none => rfl
  | some R => exact cl_rows R
theorem repr_1 (b : Bool) : ∃ s, (∀ h, reprDI [.bl b] h = .ok (.str s) h) ∧ cl DEEP (.str s) = true := by
  cases b
  · exact ⟨_, fun _ => rfl, by decide +kernel⟩
  · exact ⟨_, fun _ => rfl, by decide +kernel⟩
theorem repr_2 (b c : Bool) : ∃ s, (∀ h, reprDI [.lst [.bl b, .bl c]] h = .ok (.str s) h) ∧ cl DEEP (.str s) = true := by
  refine ⟨(PyData.list [.bool b, .bool c]).shown, fun h => ?_, ?_⟩
  · cases b <;> cases c <;> kernel_rfl
  · cases b <;> cases c <;> decide +kernel
abbrev cellB1 : IE → M IV := bltE reprDI (consA (lstE (capA (consA (callE none 1 c_is_key (consA (varE 6) nilA)) (consA (callE none 1 c_is_row_value (consA (varE 6) nilA)) nilA)))) nilA)
abbrev cellB2 : IE → M IV := bltE reprDI (consA (lstE (capA (consA (callE none 2 c__law_is_cells (consA (varE 6) (consA (cstE (.int 3)) nilA))) (consA (callE none 2 c__law_is_cells (consA (varE 6) (consA (cstE (.int 8)) nilA))) nilA)))) nilA)
abbrev cellF : SM := seqS (ifS (cmpT neDI cellB1 cellB2) (seqS (retS (cstE (.bl false))) nextS) nextS) nextS
abbrev rowsF1 : IE → M IV := bltE reprDI (consA (callE none 1 c_are_rows (consA (varE 4) nilA)) nilA)
abbrev rowsF2 : IE → M IV := bltE reprDI (consA (callE none 1 c__law_are_rows (consA (varE 4) nilA)) nilA)
abbrev nearF : SM := seqS (ifS (cmpT neDI rowsF1 rowsF2) (seqS (retS (cstE (.bl false))) nextS) nextS)
    (seqS (forS (anyIt (iteE (truT (bltE isaIB (consA (varE 4) (consA (cstE (.ty "tuple")) nilA)))) (varE 4) (tupE nilA))) (gNm 6) cellF) nextS)
abbrev S7 (x1 x2 x3 x4 x5 x6 : Option IV) : IE := [some (.ref 0), x1, x2, x3, x4, x5, x6]
theorem if_no {t : IE → M Bool} {f : SM} {σ : IE} {h : IH} (e : t σ h = .ok false h) : seqS (ifS t f nextS) nextS σ h = .nx σ h := (seq_nx (if_ok (b := false) e rfl)).trans rfl
theorem for_all {α : Type} {g : TM} {f : SM} {h : IH} (V : α → IV) (F : Option IV → IE) : ∀ (xs : List α) (x : Option IV), (∀ y ∈ xs, ∀ x, g (V y) (F x) h = some (F (some (V y)), h) ∧ f (F (some (V y))) h = .nx (F (some (V y))) h) →
    ∃ x', forL g f (xs.map V) (F x) h = .nx (F x') h
  | [], x, _ => ⟨x, rfl⟩
  | y :: ys, x, k => by
    obtain ⟨e1, e2⟩ := k y List.mem_cons_self x
    obtain ⟨x', e⟩ := for_all V F ys (some (V y)) fun z hz => k z (List.mem_cons_of_mem _ hz)
    exact ⟨x', by rw [List.map_cons, forL_nx e1 e2, e]⟩
theorem cell_step {x1 x2 x3 x4 x5 : Option IV} {y : IV} {h : IH} (k : kd 1 y = true) : cellF (S7 x1 x2 x3 x4 x5 (some y)) h = .nx (S7 x1 x2 x3 x4 x5 (some y)) h := by
  obtain ⟨s, e, c⟩ := repr_2 (cellsB 1 3 y) (cellsB 1 8 y)
  have a1 := call_ok (np := 1) (c := c_is_key) (fs := consA (varE 6) nilA) (σ := S7 x1 x2 x3 x4 x5 (some y)) (h := h) rfl rfl (ev_is_key k)
  have a2 := call_ok (np := 1) (c := c_is_row_value) (fs := consA (varE 6) nilA) (σ := S7 x1 x2 x3 x4 x5 (some y)) (h := h) rfl rfl (ev_is_val k)
  have b1 := call_ok (np := 2) (c := c__law_is_cells) (fs := consA (varE 6) (consA (cstE (.int 3)) nilA)) (σ := S7 x1 x2 x3 x4 x5 (some y)) (h := h) rfl rfl (ev_law_cells (b := 3) k)
  have b2 := call_ok (np := 2) (c := c__law_is_cells) (fs := consA (varE 6) (consA (cstE (.int 8)) nilA)) (σ := S7 x1 x2 x3 x4 x5 (some y)) (h := h) rfl rfl (ev_law_cells (b := 8) k)
  have r1 : cellB1 (S7 x1 x2 x3 x4 x5 (some y)) h = .ok (.str s) h := blt_ok (arg_ok (lst_ok (arg_ok a1 (arg_ok a2 nilA_ok)) (by simp)) nilA_ok) (e h)
  have r2 : cellB2 (S7 x1 x2 x3 x4 x5 (some y)) h = .ok (.str s) h := blt_ok (arg_ok (lst_ok (arg_ok b1 (arg_ok b2 nilA_ok)) (by simp)) nilA_ok) (e h)
  exact if_no (cmp_ok r1 r2 (ne_same c))
theorem near_step2 {x1 x2 x3 x5 x6 : Option IV} {y : IV} {h : IH} (k : kd 3 y = true) : ∃ x6' : Option IV, nearF (S7 x1 x2 x3 (some y) x5 x6) h = .nx (S7 x1 x2 x3 (some y) x5 x6') h := by
  obtain ⟨s, e, c⟩ := repr_1 (rowsJ y)
  have a1 := call_ok (np := 1) (c := c_are_rows) (fs := consA (varE 4) nilA) (σ := S7 x1 x2 x3 (some y) x5 x6) (h := h) rfl rfl (ev_are_rows k)
  have a2 := call_ok (np := 1) (c := c__law_are_rows) (fs := consA (varE 4) nilA) (σ := S7 x1 x2 x3 (some y) x5 x6) (h := h) rfl rfl (ev_law_rows k)
  have r1 : rowsF1 (S7 x1 x2 x3 (some y) x5 x6) h = .ok (.str s) h := blt_ok (arg_ok a1 nilA_ok) (e h)
  have r2 : rowsF2 (S7 x1 x2 x3 (some y) x5 x6) h = .ok (.str s) h := blt_ok (arg_ok a2 nilA_ok) (e h)
  have s1 := if_ok (f := seqS (retS (cstE (.bl false))) nextS) (g := nextS) (b := false) (cmp_ok r1 r2 (ne_same c)) (o := .nx (S7 x1 x2 x3 (some y) x5 x6) h) rfl
  have i := isa_tup (h := h) (kd_0 k)
  have t : truT (bltE isaIB (consA (varE 4) (consA (cstE (.ty "tuple")) nilA))) (S7 x1 x2 x3 (some y) x5 x6) h = .ok (isTupB y) h := tru_bl (blt_ok (vs := [y, .ty "tuple"]) rfl i)
  obtain ⟨zs, it, kz⟩ : ∃ zs : List IV, anyIt (iteE (truT (bltE isaIB (consA (varE 4) (consA (cstE (.ty "tuple")) nilA)))) (varE 4) (tupE nilA)) (S7 x1 x2 x3 (some y) x5 x6) h = .ok zs h ∧ ∀ z ∈ zs, kd 2 z = true := by
    cases q : isTupB y with
    | true =>
      rw [q] at t
      cases y with
      | tup zs => exact ⟨zs, any_tup (ite_ok t rfl), (kd_tup k).2⟩
      | _ => cases q
    | false =>
      rw [q] at t
      exact ⟨[], any_tup (ite_ok t rfl), by simp⟩
  obtain ⟨x6', lp⟩ := for_all (g := gNm 6) (f := cellF) (h := h) (fun z : IV => z) (fun x => S7 x1 x2 x3 (some y) x5 x) zs x6 fun z hz x => ⟨rfl, cell_step (kd_mono (kz z hz))⟩
  rw [List.map_id'] at lp
  exact ⟨x6', (seq_nx s1).trans ((seq_nx (for_nx' it lp)).trans rfl)⟩
theorem right (a b c : Int) : ∃ (a' b' c' : Int) (G : IH), c__law_right [.ref 0] [T3 a b c] = .ok (.bl true) ([T3 a' b' c'] ++ G) := by
  obtain ⟨R, a1, b1, c1, ob, er, po, A, o, k, hl⟩ := rows_d a b c
  have fl := flat_le o
  have p3 : pureO (.ktp (R.map rwV)) = true := pure_rw R
  have pH : ∀ a b c : Int, pureH [T3 a b c, ob, .ktp (R.map rwV)] = true := fun a b c => by
    have p1 : pureO (T3 a b c) = true := pure_ints [a, b, c]
    show [T3 a b c, ob, .ktp (R.map rwV)].all pureO = true
    simp only [List.all_cons, List.all_nil, po, p1, p3]
    rfl
  have inF : inC (flatR R) := fun x hx => by
    obtain ⟨r, hr, hx⟩ := List.mem_flatMap.mp hx
    obtain ⟨⟨o1, o2⟩, o3, o4⟩ := o r hr
    unfold flat1 at hx
    simp only [List.cons_append, List.mem_cons, List.mem_append] at hx
    unfold topX
    rcases hx with rfl | hx | rfl | hx
    · omega
    · exact (k r hr).1 x hx
    · omega
    · exact (k r hr).2 x hx
  have s1 : asgS (callE none 2 c__law_rows (consA (varE 0) (consA (cstE (.int 12)) nilA))) (gNm 1) (startI 7 [.ref 0]) [T3 a b c] = .nx (S7 (some (.ref 2)) none none none none none) [T3 a1 b1 c1, ob, .ktp (R.map rwV)] := asg_nm (i := 1) (call_ok (np := 2) (vs := [.ref 0, .int 12]) rfl rfl er)
  have cr := fun (H : IH) (x2 x3 x4 x5 x6 : Option IV) (e : H[2]? = some (.ktp (R.map rwV))) => coe_rows (R := R) (i := 1) (n := 2) (σ := S7 (some (.ref 2)) x2 x3 x4 x5 x6) (h := H) rfl e
  obtain ⟨H, hH⟩ : ∃ H : IH, H = [T3 a1 b1 c1, ob, .ktp (R.map rwV)] := ⟨_, rfl⟩
  have h2 : H[2]? = some (.ktp (R.map rwV)) := by rw [hH]; rfl
  have pH1 : pureH H = true := by rw [hH]; exact pH _ _ _
  rw [← hH] at s1
  have s2 := asg_nm (i := 2) (call_ok (np := 1) (c := c__law_own_cells) (arg_ok (cr H none none none none none h2) nilA_ok) rfl (ev_own_cells (R := R) (by omega)))
  have st1 : ifS (orT (cmpT neDI (callE (some true) 1 c_rows_cells (consA (coeK (varE 1)) nilA)) (varE 2)) (orT (cmpT neDI (callE none 1 c_rows_told (consA (varE 2) nilA)) (coeK (varE 1))) (cmpT neDI (callE (some true) 1 c__law_read (consA (varE 2) nilA)) (coeK (varE 1))))) (seqS (retS (cstE (.bl false))) nextS) nextS (S7 (some (.ref 2)) (some (tI (flatR R))) none none none none) H = .nx (S7 (some (.ref 2)) (some (tI (flatR R))) none none none none) H := by
    have rb := rows_back A o
    have c1 := cmp_ok (g := neDI) (ev_rows_cells (fs := consA (coeK (varE 1)) nilA) (σ := S7 (some (.ref 2)) (some (tI (flatR R))) none none none none) pH1 A o k hl (arg_ok (cr H _ _ _ _ _ h2) nilA_ok)) (fb := varE 2) rfl (ne_same (cl_tI (n := 11) (flatR R)))
    have t2 := call_ok (np := 1) (c := c_rows_told) (fs := consA (varE 2) nilA) (σ := S7 (some (.ref 2)) (some (tI (flatR R))) none none none none) (h := H) rfl rfl (ev_rows_told pH1 (by omega) inF)
    rw [rb] at t2
    have t3 := ev_law_read (L := flatR R) (fs := consA (varE 2) nilA) (σ := S7 (some (.ref 2)) (some (tI (flatR R))) none none none none) pH1 (by omega) rfl
    rw [rb] at t3
    have c2 := cmp_ok (g := neDI) t2 (cr H _ _ _ _ _ h2) (ne_same (cl_opt (some R)))
    have c3 := cmp_ok (g := neDI) t3 (cr H _ _ _ _ _ h2) (ne_same (cl_opt (some R)))
    exact if_ok (b := false) (or_ok c1 (fun _ => or_ok c2 (fun _ => c3) (fun z => by cases z)) (fun z => by cases z)) rfl
  obtain ⟨σ4, h4, e4, eh4, x4, x5, es4, _⟩ := for_inv (g := gTp 2 (gsCons (gNm 5) (gsCons (gNm 4) gsNil))) (f := seqS (ifS (cmpT neDI (callE none 2 c_row_cells (consA (varE 5) (consA (varE 4) nilA))) (callE none 1 c__law_own_cells (consA (tupE (consA (tupE (consA (varE 5) (consA (varE 4) nilA))) nilA)) nilA))) (seqS (retS (cstE (.bl false))) nextS) nextS) nextS) rwV
    (fun ys σ h' => h' = H ∧ ∃ x4 x5 : Option IV, (σ = S7 (some (.ref 2)) (some (tI (flatR R))) none x4 x5 none ∧ ∀ y ∈ ys, y ∈ R))
    (fun r ys σ h' => by
      rintro ⟨rfl, x4, x5, rfl, sub⟩
      have or_ := o r (sub r (by simp))
      have kr := k r (sub r (by simp))
      refine ⟨S7 (some (.ref 2)) (some (tI (flatR R))) none (some (tI r.2)) (some (tI r.1)) none, h', S7 (some (.ref 2)) (some (tI (flatR R))) none (some (tI r.2)) (some (tI r.1)) none, h', rfl, ?_, rfl, _, _, rfl, fun z hz => sub z (List.mem_cons_of_mem _ hz)⟩
      have t1 := call_ok (np := 2) (c := c_row_cells) (fs := consA (varE 5) (consA (varE 4) nilA)) (σ := S7 (some (.ref 2)) (some (tI (flatR R))) none (some (tI r.2)) (some (tI r.1)) none) (h := h') rfl rfl (ev_row_cells or_ kr)
      have f1 : flatR [r] = flat1 r := by unfold flatR; simp
      have oc := ev_own_cells (R := [r]) (h := h') (by rw [f1, flat1_len]; obtain ⟨⟨_, _⟩, _, _⟩ := or_; omega)
      rw [f1] at oc
      have t2 := call_ok (np := 1) (c := c__law_own_cells) (fs := consA (tupE (consA (tupE (consA (varE 5) (consA (varE 4) nilA))) nilA)) nilA) (σ := S7 (some (.ref 2)) (some (tI (flatR R))) none (some (tI r.2)) (some (tI r.1)) none) (h := h') rfl rfl oc
      exact if_no (cmp_ok t1 t2 (ne_same (cl_tI (n := 11) (flat1 r)))))
    R (S7 (some (.ref 2)) (some (tI (flatR R))) none none none none) H ⟨rfl, none, none, rfl, fun y hy => hy⟩
  rw [eh4, es4] at e4
  have s4 := for_nx (any_tup (cr H (some (tI (flatR R))) none none none none h2)) e4
  -- cells near
  have k1 : Hok [T3 a1 b1 c1] := fun o ho => ⟨a1, b1, c1, List.mem_singleton.mp ho⟩
  obtain ⟨v, h5, e5, k5, n5, Ls, rfl, pL⟩ := near_cells_d (h := [T3 a1 b1 c1]) (tl := [ob, .ktp (R.map rwV)]) (n := 1) (r := 0) k1 rfl (by omega) (C := flatR R) (by omega) inF
  obtain ⟨a2, b2, c2, rfl⟩ : ∃ a' b' c' : Int, h5 = [T3 a' b' c'] := by
    match h5, n5 with
    | [ob5], _ =>
      obtain ⟨a', b', c', rfl⟩ := k5 ob5 (by simp)
      exact ⟨a', b', c', rfl⟩
  obtain ⟨H2, hH2⟩ : ∃ H2 : IH, H2 = [T3 a2 b2 c2, ob, .ktp (R.map rwV)] := ⟨_, rfl⟩
  have h22 : H2[2]? = some (.ktp (R.map rwV)) := by rw [hH2]; rfl
  have pH2 : pureH H2 = true := by rw [hH2]; exact pH _ _ _
  have e5' : c__law_near_cells [.ref 0, tI (flatR R)] H = .ok (.lst (Ls.map tI)) H2 := by rw [hH, hH2]; exact e5
  have it5 := any_lst (call_ok (np := 2) (c := c__law_near_cells) (fs := consA (varE 0) (consA (varE 2) nilA)) (σ := S7 (some (.ref 2)) (some (tI (flatR R))) none x4 x5 none) (h := H) rfl rfl e5')
  obtain ⟨x3, lp5⟩ := for_all (g := gNm 3) (f := seqS (ifS (cmpT neDI (callE none 1 c_rows_told (consA (varE 3) nilA)) (callE (some true) 1 c__law_read (consA (varE 3) nilA))) (seqS (retS (cstE (.bl false))) nextS) nextS) nextS) (h := H2) tI (fun x => S7 (some (.ref 2)) (some (tI (flatR R))) x x4 x5 none) Ls none fun L hL x => ⟨rfl, by
    obtain ⟨l1, l2⟩ := pL L hL
    have t2 := call_ok (np := 1) (c := c_rows_told) (fs := consA (varE 3) nilA) (σ := S7 (some (.ref 2)) (some (tI (flatR R))) (some (tI L)) x4 x5 none) (h := H2) rfl rfl (ev_rows_told pH2 l1 l2)
    have t3 := ev_law_read (L := L) (fs := consA (varE 3) nilA) (σ := S7 (some (.ref 2)) (some (tI (flatR R))) (some (tI L)) x4 x5 none) pH2 l1 rfl
    exact if_no (cmp_ok t2 t3 (ne_same (cl_opt _)))⟩
  have s5 := for_nx it5 lp5
  -- values near
  obtain ⟨L, eL, kL⟩ := near_rows_e (a := a2) (b := b2) (c := c2) po A o hl
  rw [← hH2] at eL
  have hl2 : H2.length = 3 := by rw [hH2]; rfl
  have it6 := any_lst (callz_ok (np := 2) (z := true) (c := c__law_near_rows) (fs := consA (varE 0) (consA (varE 1) nilA)) (σ := S7 (some (.ref 2)) (some (tI (flatR R))) x3 x4 x5 none) (h := H2) (vs := [.ref 0, .ref 2]) rfl rfl (by rw [hl2]; exact eL))
  obtain ⟨σ6, h6, e6, eh6, y4, y6, es6, _⟩ := for_inv (g := gNm 4) (f := nearF) (fun z : IV => z) (fun ys σ h' => h' = H2 ∧ ∃ x4 x6 : Option IV, (σ = S7 (some (.ref 2)) (some (tI (flatR R))) x3 x4 x5 x6 ∧ ∀ y ∈ ys, y ∈ L))
    (fun y ys σ h' => by
      rintro ⟨rfl, x4, x6, rfl, sub⟩
      obtain ⟨x6', e⟩ := near_step2 (x1 := some (.ref 2)) (x2 := some (tI (flatR R))) (x3 := x3) (x5 := x5) (x6 := x6) (h := h') (nk_kd (kL y (sub y (by simp))))
      exact ⟨S7 (some (.ref 2)) (some (tI (flatR R))) x3 (some y) x5 x6, h', _, h', rfl, e, rfl, _, _, rfl, fun z hz => sub z (List.mem_cons_of_mem _ hz)⟩)
    L (S7 (some (.ref 2)) (some (tI (flatR R))) x3 x4 x5 none) H2 ⟨rfl, x4, none, rfl, fun y hy => hy⟩
  rw [List.map_id', eh6, es6] at e6
  have s6 := for_nx it6 e6
  refine ⟨a2, b2, c2, [ob, .ktp (R.map rwV)], ?_⟩
  have run := def_rt (k := 7) (vs := [.ref 0]) (h := [T3 a b c]) ((seq_nx s1).trans ((seq_nx s2).trans ((seq_nx st1).trans ((seq_nx s4).trans ((seq_nx s5).trans ((seq_nx s6).trans (ret_ok' (fa := cstE (.bl true)) (v := .bl true) rfl)))))))
  rw [hH2] at run
  exact run
end K17
namespace K17
open PySem PySem.Spec PyProof.Rows EV
open L2 hiding eqV keyOf
abbrev closing : SM := (seqS (asgS (lstE (capA (consA (callE none 2 c_row_cells (consA (tupE (consA (cstE (.int 2)) (consA (cstE (.int 0)) (consA (cstE (.int 7)) nilA)))) (consA (tupE (consA (cstE (.int 16)) nilA)) nilA))) (consA (callE none 1 c_rows_told (consA (tupE (consA (cstE (.int 1)) (consA (cstE (.int 5)) (consA (cstE (.int 1)) (consA (cstE (.int 6)) (consA (cstE (.int 2)) (consA (cstE (.int 5)) (consA (cstE (.int 0)) (consA (cstE (.int 1)) (consA (cstE (.int 6)) nilA)))))))))) nilA)) (consA (callE none 1 c_rows_told (consA (binE mulEI (tupE (consA (cstE (.int 1)) (consA (cstE (.int 5)) (consA (cstE (.int 1)) (consA (cstE (.int 6)) nilA))))) (cstE (.int 2))) nilA)) (consA (callE none 1 c_rows_told (consA (tupE nilA) nilA)) nilA)))))) (gNm 2))
    (seqS (ifS (cmpT neDI (varE 2) (lstE (capA (consA (tupE (consA (cstE (.int 3)) (consA (cstE (.int 2)) (consA (cstE (.int 0)) (consA (cstE (.int 7)) (consA (cstE (.int 1)) (consA (cstE (.int 16)) nilA))))))) (consA (tupE (consA (tupE (consA (tupE (consA (cstE (.int 5)) nilA)) (consA (tupE (consA (cstE (.int 6)) nilA)) nilA))) (consA (tupE (consA (tupE (consA (cstE (.int 5)) (consA (cstE (.int 0)) nilA))) (consA (tupE (consA (cstE (.int 6)) nilA)) nilA))) nilA))) (consA (cstE .non) (consA (tupE nilA) nilA))))))) (seqS (retS (cstE (.bl false)))
    nextS) nextS)
    (seqS (asgS (lstE (capA (consA (tupE nilA) (consA (tupE (consA (cstE (.int 1)) nilA)) (consA (tupE (consA (cstE (.int 1)) (consA (cstE (.int 2)) (consA (cstE (.int 3)) nilA)))) (consA (tupE (consA (cstE (.int 1)) (consA (cstE (.int 2)) (consA (cstE (.int 3)) (consA (cstE (.int 4)) nilA))))) (consA (lstE (capA (consA (cstE (.int 1)) nilA))) (consA (tupE (consA (cstE (.bl true)) nilA)) (consA (tupE (consA (binE powI (cstE (.int 10)) (cstE (.int 18))) nilA)) (consA (cstE .non) nilA)))))))))) (gNm 3))
    (seqS (retS (binE eqDI (lcI (anyIt (varE 3)) (gNm 5) yesT (callE none 1 c_is_key (consA (varE 5) nilA)) [5]) (lstE (capA (consA (cstE (.bl false)) (consA (cstE (.bl true)) (consA (cstE (.bl true)) (consA (cstE (.bl false)) (consA (cstE (.bl false)) (consA (cstE (.bl false)) (consA (cstE (.bl false)) (consA (cstE (.bl false)) nilA))))))))))))
    nextS))))
theorem close_ok {a b c : Option IV} : closing [a, b, none, none, c, none] [] = .rt (.bl true) [] := by kernel_rfl
abbrev spotB : SM := (seqS (asgS (callE (some false) 2 c__law_vat (consA (varE 0) (consA (varE 1) nilA))) (gNm 4))
    (seqS (ifS (orT (notT (truT (dropE (callE none 1 c__law_right (consA (varE 4) nilA))))) (notT (truT (dropE (callE none 1 c__law_right (consA (varE 4) nilA)))))) (seqS (retS (cstE (.bl false)))
    nextS) nextS)
    nextS))
theorem drop_right {σ : IE} {a b c : Int} (e : σ[4]? = some (some (.ref 0))) : ∃ a' b' c', dropE (callE none 1 c__law_right (consA (varE 4) nilA)) σ [T3 a b c] = .ok (.bl true) [T3 a' b' c'] := by
  obtain ⟨a', b', c', G, er⟩ := right a b c
  have ca := call_ok (np := 1) (c := c__law_right) (arg_ok (var_ok (h := [T3 a b c]) e) (show nilA _ [T3 a b c] = .ok [] [T3 a b c] from rfl)) rfl er
  refine ⟨a', b', c', ?_⟩
  show EV.settle true 1 (callE none 1 c__law_right (consA (varE 4) nilA) σ [T3 a b c]) = _
  rw [ca]
  exact settle_at (h := [T3 a' b' c']) (t := G) rfl rfl rfl
theorem turn_ok {ns : List Int} {s : Nat} {x4 : Option IV} (hs : s ≤ 10) : ∃ y1 y4 : Option IV, dropS spotB [some (.scr (ns.map .int)), some (.int (s : Int)), none, none, x4, none] [] = .nx [some (.scr (ns.map .int)), y1, none, none, y4, none] [] := by
  obtain ⟨a, b, c, es⟩ := vat_t (ns := ns) (s := s) (h := []) hs
  have ca : callE (some false) 2 c__law_vat (consA (varE 0) (consA (varE 1) nilA)) [some (.scr (ns.map .int)), some (.int (s : Int)), none, none, x4, none] [] = .ok (.ref 0) [T3 a b c] := callz_ok (vs := [.scr (ns.map .int), .int (s : Int)]) (h' := []) rfl rfl (by rw [es]; exact settle_new rfl (pure_ints [a, b, c]))
  have s1 := asg_nm (i := 4) ca
  obtain ⟨a1, b1, c1, d1⟩ := drop_right (σ := [some (.scr (ns.map .int)), some (.int (s : Int)), none, none, some (.ref 0), none]) (a := a) (b := b) (c := c) rfl
  obtain ⟨a2, b2, c2, d2⟩ := drop_right (σ := [some (.scr (ns.map .int)), some (.int (s : Int)), none, none, some (.ref 0), none]) (a := a1) (b := b1) (c := c1) rfl
  have cc := or_ok (not_ok (tru_bl d1)) (fun _ => not_ok (tru_bl d2)) (fun z => by cases z)
  have s2 := if_ok (f := seqS (retS (cstE (.bl false))) nextS) (g := nextS) (b := false) cc (o := .nx [some (.scr (ns.map .int)), some (.int (s : Int)), none, none, some (.ref 0), none] [T3 a2 b2 c2]) rfl
  have run : spotB [some (.scr (ns.map .int)), some (.int (s : Int)), none, none, x4, none] [] = .nx [some (.scr (ns.map .int)), some (.int (s : Int)), none, none, some (.ref 0), none] [T3 a2 b2 c2] := (seq_nx s1).trans ((seq_nx s2).trans rfl)
  have ps : pureV (.scr (ns.map .int)) = true := pure_ints ns
  refine ⟨some (.int (s : Int)), none, ?_⟩
  unfold dropS
  rw [run]
  show (if pureH [] = true then SOut.nx ([some (.scr (ns.map .int)), some (.int (s : Int)), none, none, some (.ref 0), none].map fgtI) [] else _) = _
  rw [if_pos (show pureH [] = true from rfl)]
  show SOut.nx [fgtI (some (.scr (ns.map .int))), some (.int (s : Int)), none, none, none, none] [] = _
  rw [show fgtI (some (.scr (ns.map .int))) = some (.scr (ns.map .int)) from if_pos ps]
theorem law_true (ns : List Int) (hl : ns.length ≤ 63) : ∃ h, c_law [.scr (ns.map .int)] [] = .ok (.bl true) h := by
  have ln : bltE lenI (consA (varE 0) nilA) [some (.scr (ns.map .int)), none, none, none, none, none] [] = .ok (.int (ns.length : Int)) [] := by
    refine blt_ok (arg_ok (v := .scr (ns.map .int)) rfl rfl) ?_
    show Out.ok (IV.int ((ns.map IV.int).length : Int)) _ = _
    rw [List.length_map]
  have e := arg_ok (fs := nilA) (blt_ok (r := maxI) (arg_ok (fa := cstE (.int 1)) rfl (arg_ok (fs := nilA) (blt_ok (r := minI) (arg_ok (fa := cstE (.int 3)) rfl (arg_ok (fs := nilA) ln rfl)) rfl) rfl)) rfl) rfl
  obtain ⟨j, ej, hj⟩ : ∃ j : Nat, (if (if (ns.length : Int) < 3 then (ns.length : Int) else 3) > 1 then (if (ns.length : Int) < 3 then (ns.length : Int) else 3) else 1) = (j : Int) ∧ j ≤ 3 := by
    by_cases h4 : (ns.length : Int) < 3
    · rw [if_pos h4]
      by_cases h1 : (ns.length : Int) > 1
      · rw [if_pos h1]; exact ⟨ns.length, rfl, by omega⟩
      · rw [if_neg h1]; exact ⟨1, rfl, by omega⟩
    · rw [if_neg h4, if_pos (by omega)]; exact ⟨3, rfl, by omega⟩
  rw [ej] at e
  have rg := rng_any e (by omega)
  obtain ⟨σ', h', e', rfl, _, y1, y4, rfl⟩ := for_inv (g := gNm 1) (f := dropS spotB) (fun k : Nat => IV.int (k : Int)) (fun ks σ h => h = [] ∧ (∀ q ∈ ks, q ≤ 10) ∧ ∃ x1 x4, σ = [some (.scr (ns.map .int)), x1, none, none, x4, none])
    (fun s qs σ h => by
      rintro ⟨rfl, hq, x1, x4, rfl⟩
      obtain ⟨y1, y4, er⟩ := turn_ok (ns := ns) (s := s) (x4 := x4) (hq s List.mem_cons_self)
      exact ⟨[some (.scr (ns.map .int)), some (.int (s : Int)), none, none, x4, none], [], _, _, rfl, er, rfl, fun q hq' => hq q (List.mem_cons_of_mem _ hq'), y1, y4, rfl⟩)
    (List.range j) [some (.scr (ns.map .int)), none, none, none, none, none] [] ⟨rfl, fun q hq => (by have := List.mem_range.mp hq; omega), none, none, rfl⟩
  exact ⟨[], def_rt ((seq_nx (for_nx rg e')).trans close_ok)⟩
end K17
namespace K17
open PySem PySem.Spec PyProof.Rows L2 EV
def d_is_whole : He.DefD := ⟨("is_whole", none), "is_whole", "is_whole", defArgs (top 6), defBody (top 6), defScope (top 6), [], []⟩
def d_cells_of_row : He.DefD := ⟨("cells_of_row", none), "cells_of_row", "cells_of_row", defArgs (top 17), defBody (top 17), defScope (top 17), [], []⟩
def d_part_told : He.DefD := ⟨("part_told", none), "part_told", "part_told", defArgs (top 18), defBody (top 18), defScope (top 18), [], []⟩
def d__law_vat : He.DefD := ⟨("_law_vat", none), "_law_vat", "_law_vat", defArgs (top 29), defBody (top 29), defScope (top 29), [], []⟩
def d__law_drop : He.DefD := ⟨("_law_drop", none), "_law_drop", "_law_drop", defArgs (top 30), defBody (top 30), defScope (top 30), [], []⟩
def d__law_own_cells : He.DefD := ⟨("_law_own_cells", none), "_law_own_cells", "_law_own_cells", defArgs (top 34), defBody (top 34), defScope (top 34), [], []⟩
def d__law_stretch : He.DefD := ⟨("_law_stretch", none), "_law_stretch", "_law_stretch", defArgs (top 35), defBody (top 35), defScope (top 35), [], []⟩
def d__law_is_cells : He.DefD := ⟨("_law_is_cells", none), "_law_is_cells", "_law_is_cells", defArgs (top 37), defBody (top 37), defScope (top 37), [], []⟩
def d__law_near_rows : He.DefD := ⟨("_law_near_rows", none), "_law_near_rows", "_law_near_rows", defArgs (top 40), defBody (top 40), defScope (top 40), [], []⟩
def d_is_within_bounds : He.DefD := ⟨("is_within_bounds", none), "is_within_bounds", "is_within_bounds", defArgs (top 7), defBody (top 7), defScope (top 7), [], []⟩
def d_row_told : He.DefD := ⟨("row_told", none), "row_told", "row_told", defArgs (top 19), defBody (top 19), defScope (top 19), [], []⟩
def d__law_taste : He.DefD := ⟨("_law_taste", none), "_law_taste", "_law_taste", defArgs (top 31), defBody (top 31), defScope (top 31), [], []⟩
def d__law_read : He.DefD := ⟨("_law_read", none), "_law_read", "_law_read", defArgs (top 36), defBody (top 36), defScope (top 36), [], []⟩
def d__law_are_rows : He.DefD := ⟨("_law_are_rows", none), "_law_are_rows", "_law_are_rows", defArgs (top 38), defBody (top 38), defScope (top 38), [], []⟩
def d_is_cell : He.DefD := ⟨("is_cell", none), "is_cell", "is_cell", defArgs (top 8), defBody (top 8), defScope (top 8), [], []⟩
def d_rows_in : He.DefD := ⟨("rows_in", none), "rows_in", "rows_in", defArgs (top 20), defBody (top 20), defScope (top 20), [], []⟩
def d__law_cells : He.DefD := ⟨("_law_cells", none), "_law_cells", "_law_cells", defArgs (top 32), defBody (top 32), defScope (top 32), [], []⟩
def d_are_cells : He.DefD := ⟨("are_cells", none), "are_cells", "are_cells", defArgs (top 15), defBody (top 15), defScope (top 15), [], []⟩
def d__law_rows : He.DefD := ⟨("_law_rows", none), "_law_rows", "_law_rows", defArgs (top 33), defBody (top 33), defScope (top 33), [], []⟩
def d__law_near_cells : He.DefD := ⟨("_law_near_cells", none), "_law_near_cells", "_law_near_cells", defArgs (top 39), defBody (top 39), defScope (top 39), [], []⟩
def d_is_key : He.DefD := ⟨("is_key", none), "is_key", "is_key", defArgs (top 22), defBody (top 22), defScope (top 22), [], []⟩
def d_is_row_value : He.DefD := ⟨("is_row_value", none), "is_row_value", "is_row_value", defArgs (top 23), defBody (top 23), defScope (top 23), [], []⟩
def d_rows_told : He.DefD := ⟨("rows_told", none), "rows_told", "rows_told", defArgs (top 27), defBody (top 27), defScope (top 27), [], []⟩
def d_is_row : He.DefD := ⟨("is_row", none), "is_row", "is_row", defArgs (top 16), defBody (top 16), defScope (top 16), [], []⟩
def d_row_cells : He.DefD := ⟨("row_cells", none), "row_cells", "row_cells", defArgs (top 25), defBody (top 25), defScope (top 25), [], []⟩
def d_are_rows : He.DefD := ⟨("are_rows", none), "are_rows", "are_rows", defArgs (top 24), defBody (top 24), defScope (top 24), [], []⟩
def d_require_rows : He.DefD := ⟨("require_rows", none), "require_rows", "require_rows", defArgs (top 21), defBody (top 21), defScope (top 21), [], []⟩
def d_rows_cells : He.DefD := ⟨("rows_cells", none), "rows_cells", "rows_cells", defArgs (top 26), defBody (top 26), defScope (top 26), [], []⟩
def d__law_right : He.DefD := ⟨("_law_right", none), "_law_right", "_law_right", defArgs (top 41), defBody (top 41), defScope (top 41), [], []⟩
def d_law : He.DefD := ⟨("law", none), "law", "law", defArgs (top 42), defBody (top 42), defScope (top 42), [], []⟩
def fn0 : List He.DefD := [d_is_whole, d_cells_of_row, d_part_told, d__law_vat, d__law_drop, d__law_own_cells, d__law_stretch, d__law_is_cells, d__law_near_rows, d_is_within_bounds, d_row_told, d__law_taste, d__law_read, d__law_are_rows, d_is_cell, d_rows_in, d__law_cells, d_are_cells, d__law_rows, d__law_near_cells, d_is_key, d_is_row_value, d_rows_told, d_is_row, d_row_cells, d_are_rows, d_require_rows, d_rows_cells, d__law_right, d_law]
def fn : List He.DefD := fn0
def fa0 : List He.Fa := [.glo "is_whole", .glo "cells_of_row", .glo "part_told", .glo "_law_vat", .glo "_law_drop", .glo "_law_own_cells", .glo "_law_stretch", .glo "_law_is_cells", .glo "_law_near_rows", .glo "is_within_bounds", .glo "row_told", .glo "_law_taste", .glo "_law_read", .glo "_law_are_rows", .glo "is_cell", .glo "rows_in", .glo "_law_cells", .glo "are_cells", .glo "_law_rows", .glo "_law_near_cells", .glo "is_key", .glo "is_row_value", .glo "rows_told", .glo "is_row", .glo "row_cells", .glo "are_rows", .glo "require_rows", .glo "rows_cells", .glo "_law_right", .glo "law"]
def fa1 : List He.Fa := [.free "abs", .free "all", .free "bool", .free "dict", .free "int", .free "isinstance", .free "len", .free "list", .free "max", .free "min", .free "range", .free "repr", .free "sorted", .free "tuple", .free "zip", .int "MAX_CELL" 999999999999999999, .int "MOST_CELLS" 30000, .int "MOST_KEY" 3, .int "MOST_ROWS" 2000, .int "MOST_VALUE" 8, .int "PAIR" 2, .glo "InvalidBlock", .glo "InvalidRow", .exc "InvalidBlock", .exc "InvalidRow"]
def fa : List He.Fa := fa0 ++ fa1
def loose0 : List Str := ["EveryError", "InvalidBlock", "InvalidRow", "MAX_CELL", "is_whole", "is_within_bounds", "is_cell", "MOST_KEY", "MOST_VALUE", "MOST_ROWS", "MOST_CELLS", "PAIR", "are_cells", "is_row", "cells_of_row", "part_told", "row_told", "rows_in", "require_rows", "is_key", "is_row_value", "are_rows", "row_cells", "rows_cells", "rows_told", "_law_vat", "_law_drop", "_law_taste", "_law_cells", "_law_rows"]
def loose1 : List Str := ["_law_own_cells", "_law_stretch", "_law_read", "_law_is_cells", "_law_are_rows", "_law_near_cells", "_law_near_rows", "_law_right"]
def loose : List Str := loose0 ++ loose1
def ss : List (Str × Option Str) := []
def sv : List HY.SupW := []
def tf : List He.Defn := []
def ex (K : PySem.W.Frag) : Bool := true
abbrev R : PySem.W.OpenRow := PySem.W.OpenLaw.row PySem.Challenge.rw_everycut_k17_whole_rows_told_by_cells
abbrev hk : PySem.W.Hook := HY.hookY 5 fa fn tf ss sv ex
def ob (s : PySem.W.SharedT) : HY.AlY := HY.obsY 5 fa fn tf ss ex (HandSHeadRun.getT s)
theorem ob_eq (s : PySem.W.SharedT) : ob s = hk.obs s.abs := HY.obsY_eq (HandSHeadRun.getT_eq s)
theorem run (w : World) : HandSHeadRun.RunEq R (PySem.W.view R.prog [42]) hk ob 6000 loose w := by
  intro os
  kernel_rfl
theorem tab {K : PySem.W.Frag} {h : Heap} {mg : Str → Option Value} (X : K.In h) (G : h.Ns mainGlobals mg) (c : HY.SaysY fa fn tf ss sv ex h K) : Tab (PySem.Challenge.rw_everycut_k17_whole_rows_told_by_cells).prog K mg := by
  have m := c.more
  unfold ex at m
  exact {
    fr_abs := He.free_ok X G (c.d.fact 30 (f := .free "abs") rfl)
    fr_all := He.free_ok X G (c.d.fact 31 (f := .free "all") rfl)
    fr_bool := He.free_ok X G (c.d.fact 32 (f := .free "bool") rfl)
    fr_dict := He.free_ok X G (c.d.fact 33 (f := .free "dict") rfl)
    fr_int := He.free_ok X G (c.d.fact 34 (f := .free "int") rfl)
    fr_isinstance := He.free_ok X G (c.d.fact 35 (f := .free "isinstance") rfl)
    fr_len := He.free_ok X G (c.d.fact 36 (f := .free "len") rfl)
    fr_list := He.free_ok X G (c.d.fact 37 (f := .free "list") rfl)
    fr_max := He.free_ok X G (c.d.fact 38 (f := .free "max") rfl)
    fr_min := He.free_ok X G (c.d.fact 39 (f := .free "min") rfl)
    fr_range := He.free_ok X G (c.d.fact 40 (f := .free "range") rfl)
    fr_repr := He.free_ok X G (c.d.fact 41 (f := .free "repr") rfl)
    fr_sorted := He.free_ok X G (c.d.fact 42 (f := .free "sorted") rfl)
    fr_tuple := He.free_ok X G (c.d.fact 43 (f := .free "tuple") rfl)
    fr_zip := He.free_ok X G (c.d.fact 44 (f := .free "zip") rfl)
    in_MAX_CELL := He.int_ok X G (c.d.fact 45 (f := .int "MAX_CELL" 999999999999999999) rfl)
    in_MOST_CELLS := He.int_ok X G (c.d.fact 46 (f := .int "MOST_CELLS" 30000) rfl)
    in_MOST_KEY := He.int_ok X G (c.d.fact 47 (f := .int "MOST_KEY" 3) rfl)
    in_MOST_ROWS := He.int_ok X G (c.d.fact 48 (f := .int "MOST_ROWS" 2000) rfl)
    in_MOST_VALUE := He.int_ok X G (c.d.fact 49 (f := .int "MOST_VALUE" 8) rfl)
    in_PAIR := He.int_ok X G (c.d.fact 50 (f := .int "PAIR" 2) rfl)
    fn_is_whole := ⟨He.glo_ok X G (c.d.fact 0 (f := .glo "is_whole") rfl), c.d.def_ 0 (d := d_is_whole) rfl⟩
    fn_cells_of_row := ⟨He.glo_ok X G (c.d.fact 1 (f := .glo "cells_of_row") rfl), c.d.def_ 1 (d := d_cells_of_row) rfl⟩
    fn_part_told := ⟨He.glo_ok X G (c.d.fact 2 (f := .glo "part_told") rfl), c.d.def_ 2 (d := d_part_told) rfl⟩
    fn__law_vat := ⟨He.glo_ok X G (c.d.fact 3 (f := .glo "_law_vat") rfl), c.d.def_ 3 (d := d__law_vat) rfl⟩
    fn__law_drop := ⟨He.glo_ok X G (c.d.fact 4 (f := .glo "_law_drop") rfl), c.d.def_ 4 (d := d__law_drop) rfl⟩
    fn__law_own_cells := ⟨He.glo_ok X G (c.d.fact 5 (f := .glo "_law_own_cells") rfl), c.d.def_ 5 (d := d__law_own_cells) rfl⟩
    fn__law_stretch := ⟨He.glo_ok X G (c.d.fact 6 (f := .glo "_law_stretch") rfl), c.d.def_ 6 (d := d__law_stretch) rfl⟩
    fn__law_is_cells := ⟨He.glo_ok X G (c.d.fact 7 (f := .glo "_law_is_cells") rfl), c.d.def_ 7 (d := d__law_is_cells) rfl⟩
    fn__law_near_rows := ⟨He.glo_ok X G (c.d.fact 8 (f := .glo "_law_near_rows") rfl), c.d.def_ 8 (d := d__law_near_rows) rfl⟩
    fn_is_within_bounds := ⟨He.glo_ok X G (c.d.fact 9 (f := .glo "is_within_bounds") rfl), c.d.def_ 9 (d := d_is_within_bounds) rfl⟩
    fn_row_told := ⟨He.glo_ok X G (c.d.fact 10 (f := .glo "row_told") rfl), c.d.def_ 10 (d := d_row_told) rfl⟩
    fn__law_taste := ⟨He.glo_ok X G (c.d.fact 11 (f := .glo "_law_taste") rfl), c.d.def_ 11 (d := d__law_taste) rfl⟩
    fn__law_read := ⟨He.glo_ok X G (c.d.fact 12 (f := .glo "_law_read") rfl), c.d.def_ 12 (d := d__law_read) rfl⟩
    fn__law_are_rows := ⟨He.glo_ok X G (c.d.fact 13 (f := .glo "_law_are_rows") rfl), c.d.def_ 13 (d := d__law_are_rows) rfl⟩
    fn_is_cell := ⟨He.glo_ok X G (c.d.fact 14 (f := .glo "is_cell") rfl), c.d.def_ 14 (d := d_is_cell) rfl⟩
    fn_rows_in := ⟨He.glo_ok X G (c.d.fact 15 (f := .glo "rows_in") rfl), c.d.def_ 15 (d := d_rows_in) rfl⟩
    fn__law_cells := ⟨He.glo_ok X G (c.d.fact 16 (f := .glo "_law_cells") rfl), c.d.def_ 16 (d := d__law_cells) rfl⟩
    fn_are_cells := ⟨He.glo_ok X G (c.d.fact 17 (f := .glo "are_cells") rfl), c.d.def_ 17 (d := d_are_cells) rfl⟩
    fn__law_rows := ⟨He.glo_ok X G (c.d.fact 18 (f := .glo "_law_rows") rfl), c.d.def_ 18 (d := d__law_rows) rfl⟩
    fn__law_near_cells := ⟨He.glo_ok X G (c.d.fact 19 (f := .glo "_law_near_cells") rfl), c.d.def_ 19 (d := d__law_near_cells) rfl⟩
    fn_is_key := ⟨He.glo_ok X G (c.d.fact 20 (f := .glo "is_key") rfl), c.d.def_ 20 (d := d_is_key) rfl⟩
    fn_is_row_value := ⟨He.glo_ok X G (c.d.fact 21 (f := .glo "is_row_value") rfl), c.d.def_ 21 (d := d_is_row_value) rfl⟩
    fn_rows_told := ⟨He.glo_ok X G (c.d.fact 22 (f := .glo "rows_told") rfl), c.d.def_ 22 (d := d_rows_told) rfl⟩
    fn_is_row := ⟨He.glo_ok X G (c.d.fact 23 (f := .glo "is_row") rfl), c.d.def_ 23 (d := d_is_row) rfl⟩
    fn_row_cells := ⟨He.glo_ok X G (c.d.fact 24 (f := .glo "row_cells") rfl), c.d.def_ 24 (d := d_row_cells) rfl⟩
    fn_are_rows := ⟨He.glo_ok X G (c.d.fact 25 (f := .glo "are_rows") rfl), c.d.def_ 25 (d := d_are_rows) rfl⟩
    fn_require_rows := ⟨He.glo_ok X G (c.d.fact 26 (f := .glo "require_rows") rfl), c.d.def_ 26 (d := d_require_rows) rfl⟩
    fn_rows_cells := ⟨He.glo_ok X G (c.d.fact 27 (f := .glo "rows_cells") rfl), c.d.def_ 27 (d := d_rows_cells) rfl⟩
    fn__law_right := ⟨He.glo_ok X G (c.d.fact 28 (f := .glo "_law_right") rfl), c.d.def_ 28 (d := d__law_right) rfl⟩
    fn_law := ⟨He.glo_ok X G (c.d.fact 29 (f := .glo "law") rfl), c.d.def_ 29 (d := d_law) rfl⟩
    gl_InvalidBlock := He.glo_ok X G (c.d.fact 51 (f := .glo "InvalidBlock") rfl)
    gl_InvalidRow := He.glo_ok X G (c.d.fact 52 (f := .glo "InvalidRow") rfl)
    er_InvalidBlock := HY.errP_of (He.glo_ok X G (c.d.fact 51 (f := .glo "InvalidBlock") rfl)) (c.d.fact 53 (f := .exc "InvalidBlock") rfl)
    er_InvalidRow := HY.errP_of (He.glo_ok X G (c.d.fact 52 (f := .glo "InvalidRow") rfl)) (c.d.fact 54 (f := .exc "InvalidRow") rfl)
  }
theorem tabs0 {K : PySem.W.Frag} {H : Hp} {w : World} (hT : ∀ p ∈ cs K, H p.2 = some (.tbl #[])) : ∀ p ∈ tbs K, TabE ((PP K w).at []) [] H p := by
  intro p hp
  unfold tbs at hp
  cases hp
theorem start {K : PySem.W.Frag} {w : World} {H : Hp} {a : Addr} {ns : List Int} (hl : ns.length ≤ 63) (hT : ∀ p ∈ cs K, H p.2 = some (.tbl #[])) (hO : ∀ b, H b = none ∨ b ∈ (cs K).map (·.2) ∨ ∃ o xs, H b = some (.frz o (.lst xs))) (hS : SqL K H a (ns.map V.int)) :
    spI (PP K w) 1 c_law [.ref a] H (fun v _ => v = .bl true) fun _ _ _ => False := by
  obtain ⟨h, e⟩ := law_true ns hl
  refine ⟨rfl, [], [], [], [.scr (ns.map .int)], ⟨rfl, List.nodup_nil, fun a m => by simp [Par.at] at m, fun n o a e => by simp at e, tabs0 hT, trivial⟩, VRs.cons ?_ VRs.nil, ?_⟩
  · rw [VR]
    refine ⟨a, _, rfl, ?_, vrs_ints ns⟩
    rcases hS with (h | ⟨o, h⟩) | h
    · rcases hO a with z | z | ⟨o, xs, z⟩
      · rw [z] at h; cases h
      · obtain ⟨p, hp, e⟩ := List.mem_map.mp z
        rw [← e, hT p hp] at h; cases h
      · rw [z] at h; cases h
    · exact .inl ⟨o, h⟩
    · exact .inr h
  · rw [e]
    intro φ' H' x _ _ r
    rw [VR] at r; exact r
theorem facts {w : World} {K : PySem.W.Frag} {h : Heap} {mg : Str → Option Value} {f : Addr} (X : K.In h) (G : h.Ns mainGlobals mg) (hfa : mg ("law" : Str) = some (.ref f)) (c : HY.SaysY fa fn tf ss sv ex h K) :
    LawAtG PySem.Challenge.rw_everycut_k17_whole_rows_told_by_cells w K (L2.CX (PySem.Challenge.rw_everycut_k17_whole_rows_told_by_cells).prog w) 11 63 "_law_script" mg f h := by
  have T := tab X G c
  obtain ⟨hm, fd, F⟩ := T.fn_law
  have e := hfa.symm.trans hm
  cases e
  have b := FunD.bindsA (ps := ["_law_script"]) F fun _ _ _ _ _ _ us hl => match us, hl with | [_], _ => rfl
  have key : ∀ p ∈ cs K, ∃ q ∈ tf, p = He.cT K q := by
    intro p hp
    unfold cs at hp
    cases hp
  refine ⟨fd, cs K, _, fun p hp => ?_, fun p hp => ?_, fun p hp => ?_, fun s v => b s [v] rfl, fun H a ns hl _ hT hO hS => start hl hT hO hS, fun base _ _ TB => fok_law T TB F⟩
  · obtain ⟨q, hq, rfl⟩ := key p hp
    exact c.empty q hq
  · obtain ⟨q, hq, rfl⟩ := key p hp
    exact c.out q hq
  · obtain ⟨q, hq, rfl⟩ := key p hp
    exact PySem.W.codeHd_of_K X (c.hd q hq)
end K17
open PySem PySem.W PySem.Calls PyProof.Rows
theorem PySem.Challenge.cw_everycut_k17_whole_rows_told_by_cells_holds : PySem.Challenge.rw_everycut_k17_whole_rows_told_by_cells.Holds := by
  w_on; o_law
  refine HandSHeadRun.head_any (r := OpenLaw.row PySem.Challenge.rw_everycut_k17_whole_rows_told_by_cells) (q := view (OpenLaw.row PySem.Challenge.rw_everycut_k17_whole_rows_told_by_cells).prog [42]) (H := K17.hk) (ob := K17.ob) (M := 6000) (loose := K17.loose) (d := HandSHeadRun.topDef (OpenLaw.row PySem.Challenge.rw_everycut_k17_whole_rows_told_by_cells).prog 42) (kwd := []) K17.ob_eq
    (by kernel_rfl) (fun s => by kernel_rfl) K17.run (by kernel_rfl) (by kernel_rfl) (by kernel_rfl) (by rfl) (by first | assumption | decide +kernel) (by decide +kernel) ⟨rfl, rfl, rfl, rfl, rfl, by decide +kernel⟩ ?hw ?hc
  case hw => w_witness2
  case hc =>
    refine EV.walk_ofG (l := PySem.Challenge.rw_everycut_k17_whole_rows_told_by_cells) (n := 63) (k := 11) (x := "_law_script") (CX := fun w => L2.CX (PySem.Challenge.rw_everycut_k17_whole_rows_told_by_cells).prog w) rfl (by decide) (by kernel_rfl) ⟨rfl, by decide, by decide⟩ ?F (fun w H s e s' z => EV.cxg_never z)
    intro w mg fa h Y G hmg0
    obtain ⟨K, KX, c⟩ := Y
    have hmg : mg ("law" : PySem.Str) = some (.ref fa) := by
      have e : (HandSHeadRun.topDef (OpenLaw.row PySem.Challenge.rw_everycut_k17_whole_rows_told_by_cells).prog 42).name = ("law" : PySem.Str) := by kernel_rfl
      rw [← e]
      exact hmg0
    exact ⟨K, KX, K17.facts (w := w) KX G hmg c⟩
