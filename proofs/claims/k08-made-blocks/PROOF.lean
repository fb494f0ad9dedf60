import PyProof.Rows.All
import Wide.All
import OpenK.AllK
import Wide.FinOn
import HandS.ForMost
import HandS.Exc
import HandS.ExcSuper
import KE.KDictKeyed
import KE.KDictWalk
import KE.KDictLaw
import KE.SortData
import KE.KeyNested
import HandS.TupAny
import HandS.Wide
import HandS.IsInst
import HandS.TupLe
import HandS.Text
import HandS.Deep
import HandS.Flow
import HandS.Star
import HandS.Zip
import HandS.Conv
import HandS.CallSlots
import HandS.WordsExc
import HandS.Defaults
import HandS.Comp
import HandS.ExcOwn
import HandS.Words
import KE.KDictCopyH
import KE.KDictDisplayH
import KE.KDictPairs
import KE.KDictItemsList
import HandS.TupLen
import HandS.Dict
import HandS.List
import HandS.TupMul
import HandS.Strs
import PyProof.AutoSeq1
import HandS.Iter
import KE.KDictSum
import HandS.More
import KE.GoesEnum
import HandS.DictComp
import PyProof.DictUpdate
import PyProof.MinMaxWalk
import HandS.DictEq
import HandS.TupSets
import HandS.Style
import HandS.SetFor
import HandS.HeadEnd
import HandS.Ends
import HandS.HeadHook2
import KE.KStateDown
import HandS.Base
import HandS.Call
import HandS.Head0
import HandS.Head1
import HandS.Head2
import HandS.HeadHook1
import PySem.Challenge.RW_everycut_k08_whole_made_blocks_told
set_option Elab.async false
set_option linter.all false
set_option maxRecDepth 100000
set_option maxHeartbeats 0
namespace EV
open PySem PySem.Spec PyProof.Rows L2

/-- a value: tuples are plain, what can change stands in the heap (ref), what the module's top wrote is glo -/
inductive IV where
  | non | bl (b : Bool) | int (i : Int) | str (x : Str) | tup (xs : List IV) | lst (xs : List IV) | scr (xs : List IV) | dct (ks vs : List IV) | ref (n : Nat) | ty (n : String) | glo (i : Nat)
  deriving Inhabited

/-- what stands at a place of the heap: a list, a dict that may change -/
inductive IO where
  | lst (xs : List IV) | dct (ks vs : List IV)
  deriving Inhabited

abbrev IH := List IO
abbrev IE := List (Option IV)

/-- what is fixed: the written part, the addresses of what the top wrote -/
structure Par where
  K : PySem.W.Frag
  G : Nat → Addr
  w : World
  /-- lists and dicts under way, of which no value tells -/
  av : List Addr := []
def Par.at (P : Par) (l : List Addr) : Par := { P with av := l }
/-- neither told nor under way -/
def Off (P : Par) (φ : List Addr) (a : Addr) : Prop := a ∉ φ ∧ a ∉ P.av

abbrev Raw := List (Int × V × V)
/-- the dict at a: its object, its entries -/
def RawAt (a : Addr) (o : Obj) (es : Raw) (h : Heap) : Prop :=
  h.get? a = some o ∧ (a == sysModules) = false ∧ es.length ≤ sizeLine ∧ o.ExactDict ∧ ∃ arr ep, o.data = .dict arr ep ∧
    Paired (fun (p : Int × V × V) (q : DictEntry) => p.1 = q.hash ∧ L2.RelV p.2.1 q.key ∧ L2.RelV p.2.2 q.val) es arr.toList
def DctO (a : Addr) (o : Obj) (es : Raw) : HO := .ext (RawAt a o es)
theorem DctO.ne_tup {a : Addr} {o : Obj} {es : Raw} {xs : List V} : DctO a o es ≠ .tup xs := fun z => by unfold DctO at z; cases z
theorem DctO.ne_frz {a : Addr} {o o' : Obj} {es : Raw} {u : HO} : DctO a o es ≠ .frz o' u := fun z => by unfold DctO at z; cases z
theorem DctO.ne_lst {a : Addr} {o : Obj} {es : Raw} {u : List V} : DctO a o es ≠ .lst u := fun z => by unfold DctO at z; cases z
mutual
/-- a value as a key of a dict -/
def keyOf : IV → Option NestedKey
  | .non => some .none
  | .bl b => some (.num (if b then 1 else 0))
  | .int i => some (.num i)
  | .str x => some (.text x)
  | .tup xs => match keysOf xs with
    | some ks => some (.tup ks)
    | none => none
  | _ => none
def keysOf : List IV → Option (List NestedKey)
  | [] => some []
  | x :: xs => match keyOf x, keysOf xs with
    | some k, some ks => some (k :: ks)
    | _, _ => none
end
def isTup : IV → Bool
  | .tup _ => true
  | _ => false
/-- the keys are keys, each of its own, their hashes are those -/
structure KeysOk (w : World) (ks : List IV) (hs : List Int) : Prop where
  ex : ∃ nks, keysOf ks = some nks ∧ nks.Nodup ∧ hs = nks.map (·.hash w)

section
variable (P : Par) (φ : List Addr) (H : Hp)
/-- a list that stands as it is: the script, a list of the written part -/
def SqLi (a : Addr) (vs : List V) : Prop := (∃ o, H a = some (.frz o (.lst vs))) ∨
  ∃ (o : Obj) (its : Array Value) (n : Nat), P.K.lookup a = some o ∧ o.cls = .type "list" ∧ o.dict = none ∧ o.data = .seq its n ∧ its.size ≤ sizeLine ∧ Vals vs its.toList
mutual
def VR : IV → V → Prop
  | .non, v => v = .non
  | .bl b, v => v = .bl b
  | .int i, v => v = .int i
  | .str x, v => v = .str x
  | .tup xs, v => ∃ a vs, v = .ref a ∧ SqT P.K H a vs ∧ VRs xs vs
  | .lst xs, v => ∃ a vs, v = .ref a ∧ H a = some (.lst vs) ∧ Off P φ a ∧ VRs xs vs
  | .scr xs, v => ∃ a vs, v = .ref a ∧ SqLi P H a vs ∧ VRs xs vs
  | .dct ks us, v => ∃ a o es, v = .ref a ∧ H a = some (DctO a o es) ∧ Off P φ a ∧ VRs ks (es.map (·.2.1)) ∧ VRs us (es.map (·.2.2)) ∧ KeysOk P.w ks (es.map (·.1))
  | .ref n, v => ∃ a, φ[n]? = some a ∧ v = .ref a
  | .ty n, v => v = .ty n
  | .glo i, v => v = .ref (P.G i)
def VRs : List IV → List V → Prop
  | [], vs => vs = []
  | x :: xs, vs => ∃ v r, vs = v :: r ∧ VR x v ∧ VRs xs r
end
end

/-- behind a run: the addresses that are told grow by new ones, what isn't told stands -/
structure Ext (φ : List Addr) (H : Hp) (φ' : List Addr) (H' : Hp) : Prop where
  pre : ∃ t, φ' = φ ++ t ∧ ∀ a ∈ t, H a = none
  keep : ∀ b o, H b = some o → b ∉ φ → H' b = some o
  tups : ∀ b xs, H b = some (.tup xs) → H' b = some (.tup xs)
  frzs : ∀ b o u, H b = some (.frz o u) → H' b = some (.frz o u)
  there : ∀ b o, H b = some o → ∃ o', H' b = some o'

theorem Ext.refl (φ : List Addr) (H : Hp) : Ext φ H φ H := ⟨⟨[], by simp, by simp⟩, fun _ _ h _ => h, fun _ _ h => h, fun _ _ _ h => h, fun _ o h => ⟨o, h⟩⟩
theorem Ext.trans {φ φ1 φ2 : List Addr} {H H1 H2 : Hp} (a : Ext φ H φ1 H1) (b : Ext φ1 H1 φ2 H2) : Ext φ H φ2 H2 := by
  obtain ⟨⟨t, rfl, ht⟩, k, tu, fz, th⟩ := a
  obtain ⟨⟨t', rfl, ht'⟩, k', tu', fz', th'⟩ := b
  refine ⟨⟨t ++ t', by simp, fun a ha => ?_⟩, fun b o h n => k' _ _ (k _ _ h n) fun m => ?_, fun _ _ h => tu' _ _ (tu _ _ h), fun _ _ _ h => fz' _ _ _ (fz _ _ _ h), fun b o h => ?_⟩
  · rcases List.mem_append.mp ha with ha | ha
    · exact ht a ha
    · have := ht' a ha
      cases q : H a with
      | none => rfl
      | some o =>
        obtain ⟨o', e⟩ := th _ _ q
        rw [this] at e; cases e
  · rcases List.mem_append.mp m with m | m
    · exact n m
    · rw [ht b m] at h; cases h
  · obtain ⟨o', e⟩ := th _ _ h
    exact th' _ _ e

theorem Ext.seqT {K : PySem.W.Frag} {φ φ' : List Addr} {H H' : Hp} (e : Ext φ H φ' H') {a : Addr} {xs : List V} (h : SqT K H a xs) : SqT K H' a xs := by
  rcases h with (h | ⟨o, h⟩) | h
  · exact .inl (.inl (e.tups _ _ h))
  · exact .inl (.inr ⟨o, e.frzs _ _ _ h⟩)
  · exact .inr h
theorem Ext.get {φ φ' : List Addr} {H H' : Hp} (e : Ext φ H φ' H') {n : Nat} {a : Addr} (h : φ[n]? = some a) : φ'[n]? = some a := by
  obtain ⟨t, rfl, _⟩ := e.pre
  rw [List.getElem?_append_left (List.getElem?_eq_some_iff.mp h).1]; exact h

theorem Ext.out {φ φ' : List Addr} {H H' : Hp} (e : Ext φ H φ' H') {a : Addr} {o : HO} (h : H a = some o) (n : a ∉ φ) : a ∉ φ' := by
  obtain ⟨t, rfl, ht⟩ := e.pre
  intro m
  rcases List.mem_append.mp m with m | m
  · exact n m
  · rw [ht a m] at h; cases h
theorem Ext.off {P : Par} {φ φ' : List Addr} {H H' : Hp} (e : Ext φ H φ' H') {a : Addr} {o : HO} (h : H a = some o) (n : Off P φ a) : Off P φ' a := ⟨e.out h n.1, n.2⟩
theorem Ext.sqLi {P : Par} {φ φ' : List Addr} {H H' : Hp} (e : Ext φ H φ' H') {a : Addr} {vs : List V} (h : SqLi P H a vs) : SqLi P H' a vs := by
  rcases h with ⟨o, h⟩ | h
  · exact .inl ⟨o, e.frzs _ _ _ h⟩
  · exact .inr h
theorem SqLi.sqL {P : Par} {H : Hp} {a : Addr} {vs : List V} (h : SqLi P H a vs) : SqL P.K H a vs := by
  rcases h with ⟨o, h⟩ | h
  · exact .inl (.inr ⟨o, h⟩)
  · exact .inr h

section
variable {P : Par} {φ φ' : List Addr} {H H' : Hp}
mutual
theorem VR.mono (e : Ext φ H φ' H') : ∀ (x : IV) (v : V), VR P φ H x v → VR P φ' H' x v
  | .non, _, h | .bl _, _, h | .int _, _, h | .str _, _, h | .ty _, _, h | .glo _, _, h => by simpa only [VR] using h
  | .ref n, _, h => by
    rw [VR] at h ⊢
    obtain ⟨a, h1, h2⟩ := h
    exact ⟨a, e.get h1, h2⟩
  | .tup xs, _, h => by
    rw [VR] at h ⊢
    obtain ⟨a, vs, h1, h2, h3⟩ := h
    exact ⟨a, vs, h1, e.seqT h2, VRs.mono e xs vs h3⟩
  | .lst xs, _, h => by
    rw [VR] at h ⊢
    obtain ⟨a, vs, h1, h2, h3, h4⟩ := h
    exact ⟨a, vs, h1, e.keep _ _ h2 h3.1, e.off h2 h3, VRs.mono e xs vs h4⟩
  | .scr xs, _, h => by
    rw [VR] at h ⊢
    obtain ⟨a, vs, h1, h2, h3⟩ := h
    exact ⟨a, vs, h1, e.sqLi h2, VRs.mono e xs vs h3⟩
  | .dct ks us, _, h => by
    rw [VR] at h ⊢
    obtain ⟨a, o, es, h1, h2, h3, h4, h5, h6⟩ := h
    exact ⟨a, o, es, h1, e.keep _ _ h2 h3.1, e.off h2 h3, VRs.mono e ks _ h4, VRs.mono e us _ h5, h6⟩
theorem VRs.mono (e : Ext φ H φ' H') : ∀ (xs : List IV) (vs : List V), VRs P φ H xs vs → VRs P φ' H' xs vs
  | [], _, h => by simpa only [VRs] using h
  | x :: xs, _, h => by
    rw [VRs] at h ⊢
    obtain ⟨v, r, h1, h2, h3⟩ := h
    exact ⟨v, r, h1, VR.mono e x v h2, VRs.mono e xs r h3⟩
end
theorem VRs.length : ∀ {xs : List IV} {vs : List V}, VRs P φ H xs vs → vs.length = xs.length
  | [], _, h => by rw [VRs] at h; subst h; rfl
  | x :: xs, _, h => by
    rw [VRs] at h
    obtain ⟨v, r, rfl, _, h3⟩ := h
    rw [List.length_cons, List.length_cons, VRs.length h3]
theorem VRs.nil : VRs P φ H [] [] := by rw [VRs]
theorem VRs.cons {x : IV} {v : V} {xs : List IV} {vs : List V} (h : VR P φ H x v) (t : VRs P φ H xs vs) : VRs P φ H (x :: xs) (v :: vs) := by
  rw [VRs]; exact ⟨v, vs, rfl, h, t⟩
theorem VRs.append : ∀ {xs ys : List IV} {vs ws : List V}, VRs P φ H xs vs → VRs P φ H ys ws → VRs P φ H (xs ++ ys) (vs ++ ws)
  | [], _, _, _, h, k => by rw [VRs] at h; subst h; exact k
  | x :: xs, _, _, _, h, k => by
    rw [VRs] at h
    obtain ⟨v, r, rfl, h2, h3⟩ := h
    exact VRs.cons h2 (VRs.append h3 k)
theorem VRs.get : ∀ {xs : List IV} {vs : List V} {i : Nat} {x : IV}, VRs P φ H xs vs → xs[i]? = some x → ∃ v, vs[i]? = some v ∧ VR P φ H x v
  | [], _, i, _, _, e => by simp at e
  | x :: xs, _, i, y, h, e => by
    rw [VRs] at h
    obtain ⟨v, r, rfl, h2, h3⟩ := h
    cases i with
    | zero => simp at e; subst e; exact ⟨v, rfl, h2⟩
    | succ i =>
      obtain ⟨u, e1, e2⟩ := VRs.get (i := i) (x := y) h3 (by simpa using e)
      exact ⟨u, by simpa using e1, e2⟩
theorem VRs.get' : ∀ {xs : List IV} {vs : List V} {i : Nat} {v : V}, VRs P φ H xs vs → vs[i]? = some v → ∃ x, xs[i]? = some x ∧ VR P φ H x v
  | [], _, i, _, h, e => by rw [VRs] at h; subst h; simp at e
  | x :: xs, _, i, y, h, e => by
    rw [VRs] at h
    obtain ⟨v, r, rfl, h2, h3⟩ := h
    cases i with
    | zero => simp at e; subst e; exact ⟨x, rfl, h2⟩
    | succ i =>
      obtain ⟨u, e1, e2⟩ := VRs.get' (i := i) (v := y) h3 (by simpa using e)
      exact ⟨u, by simpa using e1, e2⟩
theorem VRs.set : ∀ {xs : List IV} {vs : List V} {i : Nat} {x : IV} {v : V}, VRs P φ H xs vs → VR P φ H x v → VRs P φ H (xs.set i x) (vs.set i v)
  | [], _, _, _, _, h, _ => by rw [VRs] at h; subst h; simp [VRs]
  | y :: xs, _, i, x, v, h, r => by
    rw [VRs] at h
    obtain ⟨u, w, rfl, h2, h3⟩ := h
    cases i with
    | zero => exact VRs.cons r h3
    | succ i => exact VRs.cons h2 (VRs.set h3 r)
theorem VRs.take : ∀ {xs : List IV} {vs : List V} (n : Nat), VRs P φ H xs vs → VRs P φ H (xs.take n) (vs.take n)
  | _, _, 0, _ => VRs.nil
  | [], _, n + 1, h => by rw [VRs] at h; subst h; exact VRs.nil
  | x :: xs, _, n + 1, h => by
    rw [VRs] at h
    obtain ⟨u, w, rfl, h2, h3⟩ := h
    exact VRs.cons h2 (VRs.take n h3)
theorem VRs.drop : ∀ {xs : List IV} {vs : List V} (n : Nat), VRs P φ H xs vs → VRs P φ H (xs.drop n) (vs.drop n)
  | _, _, 0, h => h
  | [], _, n + 1, h => by rw [VRs] at h; subst h; exact VRs.nil
  | x :: xs, _, n + 1, h => by
    rw [VRs] at h
    obtain ⟨u, w, rfl, h2, h3⟩ := h
    exact VRs.drop n h3
theorem VRs.reverse : ∀ {xs : List IV} {vs : List V}, VRs P φ H xs vs → VRs P φ H xs.reverse vs.reverse
  | [], _, h => by rw [VRs] at h; subst h; exact VRs.nil
  | x :: xs, _, h => by
    rw [VRs] at h
    obtain ⟨u, w, rfl, h2, h3⟩ := h
    rw [List.reverse_cons, List.reverse_cons]
    exact VRs.append (VRs.reverse h3) (VRs.cons h2 VRs.nil)
end

section
variable (P : Par) (φ : List Addr) (H : Hp)
/-- what an object of the evaluator's heap stands for -/
def OR (a : Addr) : IO → Prop
  | .lst xs => ∃ vs, H a = some (.lst vs) ∧ VRs P φ H xs vs
  | .dct ks us => ∃ o es, H a = some (DctO a o es) ∧ VRs P φ H ks (es.map (·.2.1)) ∧ VRs P φ H us (es.map (·.2.2)) ∧ KeysOk P.w ks (es.map (·.1))
/-- what is under way stands beside -/
def AvOk : Prop := ∀ a ∈ P.av, a ∉ φ ∧ (∃ o, H a = some o) ∧ (∀ xs, H a ≠ some (.tup xs)) ∧ ∀ o u, H a ≠ some (.frz o u)
/-- the heap stands -/
structure SR (h : IH) : Prop where
  len : φ.length = h.length
  nd : φ.Nodup
  av : AvOk P φ H
  obj : ∀ (n : Nat) (o : IO) (a : Addr), h[n]? = some o → φ[n]? = some a → OR P φ H a o
/-- the names' values stand -/
structure SE (σi : IE) (σ : L2.St) : Prop where
  len : σi.length = σ.length
  val : ∀ (i : Nat) (x : IV), σi[i]? = some (some x) → ∃ v, σ[i]? = some (some v) ∧ VR P φ H x v
end

section
variable {P : Par} {φ φ' : List Addr} {H H' : Hp} {h : IH}
theorem SE.mono {σi : IE} {σ : L2.St} (s : SE P φ H σi σ) (e : Ext φ H φ' H') : SE P φ' H' σi σ :=
  ⟨s.len, fun i x h => let ⟨v, h1, h2⟩ := s.val i x h; ⟨v, h1, h2.mono e⟩⟩
theorem AvOk.mono (s : AvOk P φ H) (e : Ext φ H φ' H') : AvOk P φ' H' := fun a m => by
  obtain ⟨h1, ⟨o, h2⟩, h3, h4⟩ := s a m
  have k := e.keep _ _ h2 h1
  exact ⟨e.out h2 h1, ⟨o, k⟩, fun xs z => h3 xs (by rw [h2, ← k, z]), fun o u z => h4 o u (by rw [h2, ← k, z])⟩
theorem SR.fresh (s : SR P φ H h) {a : Addr} (hn : H a = none) : Off P φ a := by
  refine ⟨fun m => ?_, fun m => ?_⟩
  · obtain ⟨n, hl, e⟩ := List.getElem_of_mem m
    have hn' : n < h.length := by rw [← s.len]; exact hl
    have o := s.obj n h[n] a (by simp [hn']) (by simp [hl, e])
    cases q : h[n] with
    | lst xs => rw [q] at o; obtain ⟨vs, e, _⟩ := o; rw [hn] at e; cases e
    | dct ks us => rw [q] at o; obtain ⟨_, vs, e, _⟩ := o; rw [hn] at e; cases e
  · obtain ⟨_, ⟨o, e⟩, _⟩ := s.av a m
    rw [hn] at e; cases e
theorem SR.nottup (s : SR P φ H h) {a : Addr} (m : a ∈ φ) : (∃ o, H a = some o) ∧ (∀ xs, H a ≠ some (.tup xs)) ∧ ∀ o u, H a ≠ some (.frz o u) := by
  obtain ⟨n, hn, e⟩ := List.getElem_of_mem m
  have hn' : n < h.length := by rw [← s.len]; exact hn
  have o := s.obj n h[n] a (by simp [hn']) (by simp [hn, e])
  cases q : h[n] with
  | lst xs => rw [q] at o; obtain ⟨vs, e, _⟩ := o; rw [e]; exact ⟨⟨_, rfl⟩, ⟨fun xs z => (by cases z), fun o u z => (by cases z)⟩⟩
  | dct ks us => rw [q] at o; obtain ⟨_, vs, e, _⟩ := o; rw [e]; exact ⟨⟨_, rfl⟩, ⟨fun xs z => DctO.ne_tup (Option.some.inj z), fun o u z => DctO.ne_frz (Option.some.inj z)⟩⟩
end
section
variable {P : Par} {φ : List Addr} {H : Hp}
mutual
/-- more is under way: what isn't there yet -/
theorem VR.avI {l : List Addr} (k : ∀ D ∈ l, D ∈ P.av ∨ H D = none) : ∀ (x : IV) (v : V), VR P φ H x v → VR (P.at l) φ H x v
  | .non, _, h | .bl _, _, h | .int _, _, h | .str _, _, h | .ty _, _, h | .glo _, _, h => by simpa only [VR, Par.at] using h
  | .ref n, _, h => by rw [VR] at h ⊢; exact h
  | .tup xs, _, h => by
    rw [VR] at h ⊢
    obtain ⟨a, vs, h1, h2, h3⟩ := h
    exact ⟨a, vs, h1, h2, VRs.avI k xs vs h3⟩
  | .lst xs, _, h => by
    rw [VR] at h ⊢
    obtain ⟨a, vs, h1, h2, h3, h4⟩ := h
    exact ⟨a, vs, h1, h2, ⟨h3.1, fun m => (k a m).elim h3.2 fun z => by rw [h2] at z; cases z⟩, VRs.avI k xs vs h4⟩
  | .scr xs, _, h => by
    rw [VR] at h ⊢
    obtain ⟨a, vs, h1, h2, h3⟩ := h
    exact ⟨a, vs, h1, h2, VRs.avI k xs vs h3⟩
  | .dct ks us, _, h => by
    rw [VR] at h ⊢
    obtain ⟨a, o, es, h1, h2, h3, h4, h5, h6⟩ := h
    exact ⟨a, o, es, h1, h2, ⟨h3.1, fun m => (k a m).elim h3.2 fun z => by rw [h2] at z; cases z⟩, VRs.avI k ks _ h4, VRs.avI k us _ h5, h6⟩
theorem VRs.avI {l : List Addr} (k : ∀ D ∈ l, D ∈ P.av ∨ H D = none) : ∀ (xs : List IV) (vs : List V), VRs P φ H xs vs → VRs (P.at l) φ H xs vs
  | [], _, h => by rw [VRs] at h ⊢; exact h
  | x :: xs, _, h => by
    rw [VRs] at h ⊢
    obtain ⟨v, r, h1, h2, h3⟩ := h
    exact ⟨v, r, h1, VR.avI k x v h2, VRs.avI k xs r h3⟩
end
theorem VR.avD {l : List Addr} {x : IV} {v : V} (k : ∀ D ∈ l, D ∈ P.av) (h : VR P φ H x v) : VR (P.at l) φ H x v := VR.avI (fun D m => .inl (k D m)) x v h
theorem VRs.avD {l : List Addr} {x : List IV} {v : List V} (k : ∀ D ∈ l, D ∈ P.av) (h : VRs P φ H x v) : VRs (P.at l) φ H x v := VRs.avI (fun D m => .inl (k D m)) x v h
theorem OR.avI {l : List Addr} (k : ∀ D ∈ l, D ∈ P.av ∨ H D = none) {a : Addr} : ∀ {o : IO}, OR P φ H a o → OR (P.at l) φ H a o
  | .lst xs, ⟨vs, h1, h2⟩ => ⟨vs, h1, VRs.avI k xs vs h2⟩
  | .dct ks us, ⟨o, es, h1, h2, h3, h4⟩ => ⟨o, es, h1, VRs.avI k ks _ h2, VRs.avI k us _ h3, h4⟩
theorem SR.avD {h : IH} {l : List Addr} (k : ∀ D ∈ l, D ∈ P.av) (s : SR P φ H h) : SR (P.at l) φ H h :=
  ⟨s.len, s.nd, fun a m => s.av a (k a m), fun n o a e1 e2 => OR.avI (fun D m => .inl (k D m)) (s.obj n o a e1 e2)⟩
theorem SE.avI {l : List Addr} (k : ∀ D ∈ l, D ∈ P.av ∨ H D = none) {σi : IE} {σ : L2.St} (s : SE P φ H σi σ) : SE (P.at l) φ H σi σ :=
  ⟨s.len, fun i x e => let ⟨v, h1, h2⟩ := s.val i x e; ⟨v, h1, VR.avI k x v h2⟩⟩
mutual
/-- what is under way may change -/
theorem VR.avU {D : Addr} {o : HO} (m : D ∈ P.av) (nt : ∀ xs, H D ≠ some (.tup xs)) (nf : ∀ o u, H D ≠ some (.frz o u)) : ∀ (x : IV) (v : V), VR P φ H x v → VR P φ (upd H D o) x v
  | .non, _, h | .bl _, _, h | .int _, _, h | .str _, _, h | .ty _, _, h | .glo _, _, h => by simpa only [VR] using h
  | .ref n, _, h => by rw [VR] at h ⊢; exact h
  | .tup xs, _, h => by
    rw [VR] at h ⊢
    obtain ⟨a, vs, h1, h2, h3⟩ := h
    refine ⟨a, vs, h1, ?_, VRs.avU m nt nf xs vs h3⟩
    rcases h2 with (h2 | ⟨o, h2⟩) | h2
    · exact .inl (.inl ((upd_ne (fun z => nt _ (by rw [← z]; exact h2))).trans h2))
    · exact .inl (.inr ⟨o, (upd_ne (fun z => nf _ _ (by rw [← z]; exact h2))).trans h2⟩)
    · exact .inr h2
  | .lst xs, _, h => by
    rw [VR] at h ⊢
    obtain ⟨a, vs, h1, h2, h3, h4⟩ := h
    exact ⟨a, vs, h1, (upd_ne (fun z => h3.2 (by rw [z]; exact m))).trans h2, h3, VRs.avU m nt nf xs vs h4⟩
  | .scr xs, _, h => by
    rw [VR] at h ⊢
    obtain ⟨a, vs, h1, h2, h3⟩ := h
    refine ⟨a, vs, h1, ?_, VRs.avU m nt nf xs vs h3⟩
    rcases h2 with ⟨o, h2⟩ | h2
    · exact .inl ⟨o, (upd_ne (fun z => nf _ _ (by rw [← z]; exact h2))).trans h2⟩
    · exact .inr h2
  | .dct ks us, _, h => by
    rw [VR] at h ⊢
    obtain ⟨a, o, es, h1, h2, h3, h4, h5, h6⟩ := h
    exact ⟨a, o, es, h1, (upd_ne (fun z => h3.2 (by rw [z]; exact m))).trans h2, h3, VRs.avU m nt nf ks _ h4, VRs.avU m nt nf us _ h5, h6⟩
theorem VRs.avU {D : Addr} {o : HO} (m : D ∈ P.av) (nt : ∀ xs, H D ≠ some (.tup xs)) (nf : ∀ o u, H D ≠ some (.frz o u)) : ∀ (xs : List IV) (vs : List V), VRs P φ H xs vs → VRs P φ (upd H D o) xs vs
  | [], _, h => by rw [VRs] at h ⊢; exact h
  | x :: xs, _, h => by
    rw [VRs] at h ⊢
    obtain ⟨v, r, h1, h2, h3⟩ := h
    exact ⟨v, r, h1, VR.avU m nt nf x v h2, VRs.avU m nt nf xs r h3⟩
end
theorem SE.avU {D : Addr} {o : HO} (m : D ∈ P.av) (nt : ∀ xs, H D ≠ some (.tup xs)) (nf : ∀ o u, H D ≠ some (.frz o u)) {σi : IE} {σ : L2.St} (s : SE P φ H σi σ) : SE P φ (upd H D o) σi σ :=
  ⟨s.len, fun i x e => let ⟨v, h1, h2⟩ := s.val i x e; ⟨v, h1, VR.avU m nt nf x v h2⟩⟩
theorem SR.avU {D : Addr} {o : HO} {h : IH} (m : D ∈ P.av) (o1 : ∀ xs, o ≠ .tup xs) (o2 : ∀ o' u, o ≠ .frz o' u) (s : SR P φ H h) : SR P φ (upd H D o) h := by
  obtain ⟨n1, n2, nt, nf⟩ := s.av D m
  refine ⟨s.len, s.nd, fun a k => ?_, fun n io a e1 e2 => ?_⟩
  · by_cases z : a = D
    · subst z; exact ⟨n1, ⟨o, upd_same⟩, fun xs q => o1 xs (by rw [upd_same] at q; exact Option.some.inj q), fun o' u q => o2 o' u (by rw [upd_same] at q; exact Option.some.inj q)⟩
    · rw [upd_ne z]; exact s.av a k
  · have ne : a ≠ D := fun z => n1 (by rw [← z]; exact List.mem_of_getElem? e2)
    cases io with
    | lst xs => obtain ⟨vs, h1, h2⟩ := s.obj n _ a e1 e2; exact ⟨vs, (upd_ne ne).trans h1, VRs.avU m nt nf _ _ h2⟩
    | dct ks us => obtain ⟨ob, es, h1, h2, h3, h4⟩ := s.obj n _ a e1 e2; exact ⟨ob, es, (upd_ne ne).trans h1, VRs.avU m nt nf _ _ h2, VRs.avU m nt nf _ _ h3, h4⟩
/-- a new one is under way -/
theorem SR.avN {D : Addr} {o : HO} {h : IH} (hD : H D = none) (o1 : ∀ xs, o ≠ .tup xs) (o2 : ∀ o' u, o ≠ .frz o' u) (s : SR P φ H h) : SR (P.at (D :: P.av)) φ (upd H D o) h := by
  have ne : ∀ b u, H b = some u → b ≠ D := fun b u e z => by rw [z, hD] at e; cases e
  have ex : Ext φ H φ (upd H D o) := ⟨⟨[], by simp, by simp⟩, fun b u e _ => (upd_ne (ne b u e)).trans e, fun b u e => (upd_ne (ne b _ e)).trans e, fun b _ u e => (upd_ne (ne b _ e)).trans e, fun b u e => ⟨u, (upd_ne (ne b u e)).trans e⟩⟩
  have k : ∀ c ∈ D :: P.av, c ∈ P.av ∨ H c = none := fun c m => by
    rcases List.mem_cons.mp m with rfl | m
    · exact .inr hD
    · exact .inl m
  refine ⟨s.len, s.nd, fun a m => ?_, fun n io a e1 e2 => ?_⟩
  · rcases List.mem_cons.mp m with rfl | m
    · exact ⟨(s.fresh hD).1, ⟨o, upd_same⟩, fun xs q => o1 xs (by rw [upd_same] at q; exact Option.some.inj q), fun o' u q => o2 o' u (by rw [upd_same] at q; exact Option.some.inj q)⟩
    · exact (AvOk.mono s.av ex) a m
  · cases io with
    | lst xs => obtain ⟨vs, h1, h2⟩ := s.obj n _ a e1 e2; exact ⟨vs, (upd_ne (ne a _ h1)).trans h1, VRs.mono ex _ _ (VRs.avI k _ _ h2)⟩
    | dct ks us => obtain ⟨ob, es, h1, h2, h3, h4⟩ := s.obj n _ a e1 e2; exact ⟨ob, es, (upd_ne (ne a _ h1)).trans h1, VRs.mono ex _ _ (VRs.avI k _ _ h2), VRs.mono ex _ _ (VRs.avI k _ _ h3), h4⟩
end
end EV
namespace EV
open PySem PySem.Spec PyProof.Rows L2

/-- an exception: its class (of the module's), its fields -/
structure IX where
  cls : Nat
  fs : List (Str × IV)
inductive Out (α : Type) where
  | ok (a : α) (h : IH)
  | ex (e : IX) (h : IH)
  | no
abbrev M (α : Type) := IH → Out α
def Out.bind {α β : Type} : Out α → (α → M β) → Out β
  | .ok a h, k => k a h
  | .ex e h, _ => .ex e h
  | .no, _ => .no

def FRs (P : Par) (φ : List Addr) (H : Hp) : List (Str × IV) → List (Str × V) → Prop
  | [], vs => vs = []
  | (f, x) :: r, vs => ∃ v t, vs = (f, v) :: t ∧ VR P φ H x v ∧ FRs P φ H r t
structure XR (P : Par) (φ : List Addr) (H : Hp) (e : IX) (c : Value) (d : Option Addr) : Prop where
  cls : c = .ref (P.G e.cls)
  fs : e.fs = [] ∨ ∃ dd vs, d = some dd ∧ dd ∉ φ ∧ H dd = some (.xd vs) ∧ FRs P φ H e.fs vs

section
variable (P : Par) (W : WX)
def Post (σ : L2.St) (φ : List Addr) (H : Hp) (Q : VK) : Out IV → Prop
  | .ok v h' => ∀ φ' H' x, Ext φ H φ' H' → SR P φ' H' h' → VR P φ' H' v x → Q x H'
  | .ex e h' => ∀ φ' H' c d, Ext φ H φ' H' → SR P φ' H' h' → XR P φ' H' e c d → W c d σ H'
  | .no => False
def tE (f : IE → M IV) : TE := fun σ H Q => ∃ φ h σi, SR P φ H h ∧ SE P φ H σi σ ∧ Post P W σ φ H Q (f σi h)
def PostA (σ : L2.St) (φ : List Addr) (H : Hp) (Q : List V → Hp → Prop) : Out (List IV) → Prop
  | .ok v h' => ∀ φ' H' x, Ext φ H φ' H' → SR P φ' H' h' → VRs P φ' H' v x → Q x H'
  | .ex e h' => ∀ φ' H' c d, Ext φ H φ' H' → SR P φ' H' h' → XR P φ' H' e c d → W c d σ H'
  | .no => False
def tAr (f : IE → M (List IV)) : TA := fun σ H Q => ∃ φ h σi, SR P φ H h ∧ SE P φ H σi σ ∧ PostA P W σ φ H Q (f σi h)
def PostB (σ : L2.St) (φ : List Addr) (H : Hp) (Q : Bool → Hp → Prop) : Out Bool → Prop
  | .ok v h' => ∀ φ' H', Ext φ H φ' H' → SR P φ' H' h' → Q v H'
  | .ex e h' => ∀ φ' H' c d, Ext φ H φ' H' → SR P φ' H' h' → XR P φ' H' e c d → W c d σ H'
  | .no => False
def tT (f : IE → M Bool) : TT := fun σ H Q => ∃ φ h σi, SR P φ H h ∧ SE P φ H σi σ ∧ PostB P W σ φ H Q (f σi h)
end
section
variable {P : Par} {W : WX} {σ : L2.St} {φ φ1 : List Addr} {H H1 : Hp} {Q : VK}
theorem Post.ext {o : Out IV} (p : Post P W σ φ H Q o) (e : Ext φ H φ1 H1) : Post P W σ φ1 H1 Q o := by
  cases o with
  | ok v h => exact fun φ' H' x e' => p φ' H' x (e.trans e')
  | ex v h => exact fun φ' H' c d e' => p φ' H' c d (e.trans e')
  | no => exact p
theorem PostA.ext {Q : List V → Hp → Prop} {o : Out (List IV)} (p : PostA P W σ φ H Q o) (e : Ext φ H φ1 H1) : PostA P W σ φ1 H1 Q o := by
  cases o with
  | ok v h => exact fun φ' H' x e' => p φ' H' x (e.trans e')
  | ex v h => exact fun φ' H' c d e' => p φ' H' c d (e.trans e')
  | no => exact p
theorem PostB.ext {Q : Bool → Hp → Prop} {o : Out Bool} (p : PostB P W σ φ H Q o) (e : Ext φ H φ1 H1) : PostB P W σ φ1 H1 Q o := by
  cases o with
  | ok v h => exact fun φ' H' e' => p φ' H' (e.trans e')
  | ex v h => exact fun φ' H' c d e' => p φ' H' c d (e.trans e')
  | no => exact p
/-- one part, then what hangs on its value -/
theorem tE.bind {fa : IE → M IV} {k : IE → IV → M IV} (h : tE P W (fun σ h => (fa σ h).bind (k σ)) σ H Q) :
    tE P W fa σ H fun x H1 => ∃ φ h σi v, SR P φ H1 h ∧ SE P φ H1 σi σ ∧ VR P φ H1 v x ∧ Post P W σ φ H1 Q (k σi v h) := by
  obtain ⟨φ, hp, σi, s, se, p⟩ := h
  refine ⟨φ, hp, σi, s, se, ?_⟩
  cases e : fa σi hp with
  | ok v h1 =>
    simp only [e, Out.bind] at p
    exact fun φ' H' x ex s' r => ⟨φ', h1, σi, v, s', se.mono ex, r, p.ext ex⟩
  | ex v h1 =>
    simp only [e, Out.bind] at p
    exact p
  | no =>
    simp only [e, Out.bind] at p
    exact p
theorem tE.bindA {fa : IE → M (List IV)} {k : IE → List IV → M IV} (h : tE P W (fun σ h => (fa σ h).bind (k σ)) σ H Q) :
    tAr P W fa σ H fun x H1 => ∃ φ h σi v, SR P φ H1 h ∧ SE P φ H1 σi σ ∧ VRs P φ H1 v x ∧ Post P W σ φ H1 Q (k σi v h) := by
  obtain ⟨φ, hp, σi, s, se, p⟩ := h
  refine ⟨φ, hp, σi, s, se, ?_⟩
  cases e : fa σi hp with
  | ok v h1 =>
    simp only [e, Out.bind] at p
    exact fun φ' H' x ex s' r => ⟨φ', h1, σi, v, s', se.mono ex, r, p.ext ex⟩
  | ex v h1 =>
    simp only [e, Out.bind] at p
    exact p
  | no =>
    simp only [e, Out.bind] at p
    exact p
theorem tE.bindT {fa : IE → M Bool} {k : IE → Bool → M IV} (h : tE P W (fun σ h => (fa σ h).bind (k σ)) σ H Q) :
    tT P W fa σ H fun b H1 => ∃ φ h σi, SR P φ H1 h ∧ SE P φ H1 σi σ ∧ Post P W σ φ H1 Q (k σi b h) := by
  obtain ⟨φ, hp, σi, s, se, p⟩ := h
  refine ⟨φ, hp, σi, s, se, ?_⟩
  cases e : fa σi hp with
  | ok v h1 =>
    simp only [e, Out.bind] at p
    exact fun φ' H' ex s' => ⟨φ', h1, σi, s', se.mono ex, p.ext ex⟩
  | ex v h1 =>
    simp only [e, Out.bind] at p
    exact p
  | no =>
    simp only [e, Out.bind] at p
    exact p
theorem tT.bindE {fa : IE → M IV} {k : IE → IV → M Bool} {Q : Bool → Hp → Prop} (h : tT P W (fun σ h => (fa σ h).bind (k σ)) σ H Q) :
    tE P W fa σ H fun x H1 => ∃ φ h σi v, SR P φ H1 h ∧ SE P φ H1 σi σ ∧ VR P φ H1 v x ∧ PostB P W σ φ H1 Q (k σi v h) := by
  obtain ⟨φ, hp, σi, s, se, p⟩ := h
  refine ⟨φ, hp, σi, s, se, ?_⟩
  cases e : fa σi hp with
  | ok v h1 =>
    simp only [e, Out.bind] at p
    exact fun φ' H' x ex s' r => ⟨φ', h1, σi, v, s', se.mono ex, r, p.ext ex⟩
  | ex v h1 =>
    simp only [e, Out.bind] at p
    exact p
  | no =>
    simp only [e, Out.bind] at p
    exact p
theorem tT.bindT {fa : IE → M Bool} {k : IE → Bool → M Bool} {Q : Bool → Hp → Prop} (h : tT P W (fun σ h => (fa σ h).bind (k σ)) σ H Q) :
    tT P W fa σ H fun b H1 => ∃ φ h σi, SR P φ H1 h ∧ SE P φ H1 σi σ ∧ PostB P W σ φ H1 Q (k σi b h) := by
  obtain ⟨φ, hp, σi, s, se, p⟩ := h
  refine ⟨φ, hp, σi, s, se, ?_⟩
  cases e : fa σi hp with
  | ok v h1 =>
    simp only [e, Out.bind] at p
    exact fun φ' H' ex s' => ⟨φ', h1, σi, s', se.mono ex, p.ext ex⟩
  | ex v h1 =>
    simp only [e, Out.bind] at p
    exact p
  | no =>
    simp only [e, Out.bind] at p
    exact p
theorem tAr.bindE {fa : IE → M IV} {k : IE → IV → M (List IV)} {Q : List V → Hp → Prop} (h : tAr P W (fun σ h => (fa σ h).bind (k σ)) σ H Q) :
    tE P W fa σ H fun x H1 => ∃ φ h σi v, SR P φ H1 h ∧ SE P φ H1 σi σ ∧ VR P φ H1 v x ∧ PostA P W σ φ H1 Q (k σi v h) := by
  obtain ⟨φ, hp, σi, s, se, p⟩ := h
  refine ⟨φ, hp, σi, s, se, ?_⟩
  cases e : fa σi hp with
  | ok v h1 =>
    simp only [e, Out.bind] at p
    exact fun φ' H' x ex s' r => ⟨φ', h1, σi, v, s', se.mono ex, r, p.ext ex⟩
  | ex v h1 =>
    simp only [e, Out.bind] at p
    exact p
  | no =>
    simp only [e, Out.bind] at p
    exact p
/-- from a state on -/
theorem tE.of {f : IE → M IV} {h : IH} {σi : IE} (s : SR P φ H h) (se : SE P φ H σi σ) (p : Post P W σ φ H Q (f σi h)) : tE P W f σ H Q := ⟨φ, h, σi, s, se, p⟩
theorem Post.ret {v : IV} {h : IH} {x : V} (p : Post P W σ φ H Q (.ok v h)) (s : SR P φ H h) (r : VR P φ H v x) : Q x H := p φ H x (Ext.refl _ _) s r
theorem PostB.ret {b : Bool} {h : IH} {Q : Bool → Hp → Prop} (p : PostB P W σ φ H Q (.ok b h)) (s : SR P φ H h) : Q b H := p φ H (Ext.refl _ _) s
theorem PostA.ret {v : List IV} {h : IH} {x : List V} {Q : List V → Hp → Prop} (p : PostA P W σ φ H Q (.ok v h)) (s : SR P φ H h) (r : VRs P φ H v x) : Q x H := p φ H x (Ext.refl _ _) s r
end

/-- weaken a reading -/
theorem PE.weak {X : Cx} {e : Expr} {t t' : TE} (h : PE X e t) (k : ∀ σ H Q, t' σ H Q → t σ H Q) : PE X e t' := ⟨fun pins s σ H Q I hw => h.run pins s σ H Q I (k σ H Q hw)⟩
theorem PT.weak {X : Cx} {e : Expr} {t t' : TT} (h : PT X e t) (k : ∀ σ H Q, t' σ H Q → t σ H Q) : PT X e t' := ⟨fun pins s σ H Q I hw => h.run pins s σ H Q I (k σ H Q hw)⟩
theorem PA.weak {X : Cx} {e : List Expr} {t t' : TA} (h : PA X e t) (k : ∀ σ H Q, t' σ H Q → t σ H Q) : PA X e t' := ⟨fun pos pins s σ H Q I hw => h.run pos pins s σ H Q I (k σ H Q hw)⟩
theorem PS.weak {X : Cx} {e : Stmt} {t t' : TS} (h : PS X e t) (k : ∀ D σ H, t' D σ H → t D σ H) : PS X e t' := ⟨fun pins s σ H D I hw => h.run pins s σ H D I (k D σ H hw)⟩
theorem PSs.weak {X : Cx} {e : List Stmt} {t t' : TS} (h : PSs X e t) (k : ∀ D σ H, t' D σ H → t D σ H) : PSs X e t' := ⟨fun pins s σ H D I hw => h.run pins s σ H D I (k D σ H hw)⟩
end EV
namespace EV
open PySem PySem.Spec PyProof.Rows L2

section
variable {X : Cx} {P : Par} {W : WX} {a b c : Expr} {fa fb fc : IE → M IV} {pos : Pos}
def varE (i : Nat) : IE → M IV := fun σ h => match σ[i]? with
  | some (some v) => .ok v h
  | _ => .no
def cstE (v : IV) : IE → M IV := fun _ h => .ok v h
theorem pe_varI {i : Nat} {x : Str} (h : PE X (.Name x pos) (tVar i)) : PE X (.Name x pos) (tE P W (varE i)) := PE.weak h fun σ H Q hq => by
  obtain ⟨φ, h, σi, s, se, p⟩ := hq
  unfold varE at p
  split at p
  · rename_i v e
    obtain ⟨u, e1, r⟩ := se.val i v e
    exact ⟨u, e1, p.ret s r⟩
  · exact p.elim
theorem pe_cstI {v : IV} {u : V} {e : Expr} (h : PE X e (tC u)) (r : ∀ φ H, VR P φ H v u) : PE X e (tE P W (cstE v)) := PE.weak h fun σ H Q hq => by
  obtain ⟨φ, h, σi, s, se, p⟩ := hq
  exact p.ret s (r φ H)

abbrev G2 := IV → IV → M IV
def rG (P : Par) (W : WX) (g : G2) : R2 := fun x y H Q => ∃ φ h σ va vb, SR P φ H h ∧ VR P φ H va x ∧ VR P φ H vb y ∧ Post P W σ φ H Q (g va vb h)
def binE (g : G2) (fa fb : IE → M IV) : IE → M IV := fun σ h => (fa σ h).bind fun va h => (fb σ h).bind fun vb h => g va vb h
theorem tOp_of {g : G2} {σ : L2.St} {H : Hp} {Q : VK} (hq : tE P W (binE g fa fb) σ H Q) : tOp (rG P W g) (tE P W fa) (tE P W fb) σ H Q := by
  have q1 := tE.bind (k := fun σ va h => (fb σ h).bind fun vb h => g va vb h) hq
  obtain ⟨φ, h, σi, s, se, p⟩ := q1
  refine ⟨φ, h, σi, s, se, ?_⟩
  cases e : fa σi h with
  | ok v h1 =>
    rw [e] at p
    intro φ1 H1 x ex s1 r1
    obtain ⟨φ2, h2, σ2, v2, s2, se2, r2, p2⟩ := p φ1 H1 x ex s1 r1
    refine ⟨φ2, h2, σ2, s2, se2, ?_⟩
    cases e2 : fb σ2 h2 with
    | ok u h3 =>
      rw [e2] at p2
      exact fun φ3 H3 y ex3 s3 r3 => ⟨φ3, h3, σ, v2, u, s3, r2.mono ex3, r3, Post.ext p2 ex3⟩
    | ex u h3 => rw [e2] at p2; exact p2
    | no => rw [e2] at p2; exact p2
  | ex v h1 => rw [e] at p; exact p
  | no => rw [e] at p; exact p
theorem pe_binI {op : Operator} {g : G2} (ho : OpR X (binaryOp op) (rG P W g)) (ha : PE X a (tE P W fa)) (hb : PE X b (tE P W fb)) : PE X (.BinOp a op b pos) (tE P W (binE g fa fb)) :=
  PE.weak (pe_op ho ha hb) fun _ _ _ hq => tOp_of hq
theorem pe_cmpI {op : CmpOp} {g : G2} (ho : OpR X (compareOp op) (rG P W g)) (ha : PE X a (tE P W fa)) (hb : PE X b (tE P W fb)) (hm : behindInMarks op b = false) : PE X (.Compare a [op] [b] pos) (tE P W (binE g fa fb)) :=
  PE.weak (pe_cmpR ho ha hb hm) fun _ _ _ hq => tOp_of hq

theorem OpR.weak {f : Value → Value → Sem Value} {r r' : R2} (h : OpR X f r) (k : ∀ x y H Q, r' x y H Q → r x y H Q) : OpR X f r' :=
  fun pins s σ H x y v u Q I rx ry q => h pins s σ H x y v u Q I rx ry (k x y H Q q)

/-- a new object at p -/
theorem SR.push {φ : List Addr} {H : Hp} {h : IH} (s : SR P φ H h) {p : Addr} (hp : H p = none) {o : HO} {io : IO} (he : Ext φ H (φ ++ [p]) (upd H p o)) (r : OR P (φ ++ [p]) (upd H p o) p io) (mo : ∀ (n : Nat) (io : IO) (a : Addr), h[n]? = some io → φ[n]? = some a → OR P (φ ++ [p]) (upd H p o) a io) :
    SR P (φ ++ [p]) (upd H p o) (h ++ [io]) := by
  refine ⟨by simp [s.len], ?_, s.av.mono he, fun n o' a e1 e2 => ?_⟩
  · refine List.nodup_append.mpr ⟨s.nd, by simp, fun a ha b hb e => ?_⟩
    simp at hb; subst hb; subst e
    obtain ⟨o, ho⟩ := (s.nottup ha).1
    rw [hp] at ho; cases ho
  · by_cases hn : n < h.length
    · rw [List.getElem?_append_left hn] at e1
      rw [List.getElem?_append_left (by rw [s.len]; exact hn)] at e2
      exact mo n o' a e1 e2
    · have hn' : n = h.length := by
        have := (List.getElem?_eq_some_iff.mp e1).1
        simp at this; omega
      subst hn'
      simp at e1
      rw [← s.len] at e2
      simp at e2
      subst e1 e2
      exact r
theorem Ext.new {φ : List Addr} {H : Hp} {p : Addr} {o : HO} (hp : H p = none) : Ext φ H φ (upd H p o) := by
  have ne : ∀ b u, H b = some u → b ≠ p := fun b u e z => by rw [z, hp] at e; cases e
  exact ⟨⟨[], by simp, by simp⟩, fun b u e _ => (upd_ne (ne b u e)).trans e, fun b u e => (upd_ne (ne b _ e)).trans e, fun b _ u e => (upd_ne (ne b _ e)).trans e, fun b u e => ⟨u, (upd_ne (ne b u e)).trans e⟩⟩
theorem Ext.newA {φ : List Addr} {H : Hp} {p : Addr} {o : HO} (hp : H p = none) : Ext φ H (φ ++ [p]) (upd H p o) := by
  obtain ⟨_, k, t, f, th⟩ := Ext.new (φ := φ) (o := o) hp
  exact ⟨⟨[p], rfl, by simpa using hp⟩, k, t, f, th⟩
theorem OR.keep {φ φ' : List Addr} {H H' : Hp} {a : Addr} (e : Ext φ H φ' H') (k : ∀ o, H a = some o → H' a = some o) : ∀ {io : IO}, OR P φ H a io → OR P φ' H' a io
  | .lst xs, ⟨vs, h1, h2⟩ => ⟨vs, k _ h1, h2.mono e⟩
  | .dct ks us, ⟨o, es, h1, h2, h3, h4⟩ => ⟨o, es, k _ h1, h2.mono e, h3.mono e, h4⟩
theorem SR.untold {φ : List Addr} {H : Hp} {h : IH} (s : SR P φ H h) {p : Addr} (hp : H p = none) {o : HO} : SR P φ (upd H p o) h := by
  have ex := Ext.new (φ := φ) (o := o) hp
  exact ⟨s.len, s.nd, s.av.mono ex, fun n io a e1 e2 => OR.keep ex (fun u q => (upd_ne (fun z => by rw [z, hp] at q; cases q)).trans q) (s.obj n io a e1 e2)⟩
theorem SR.told {φ : List Addr} {H : Hp} {h : IH} (s : SR P φ H h) {p : Addr} (hp : H p = none) {o : HO} {io : IO} (r : OR P (φ ++ [p]) (upd H p o) p io) : SR P (φ ++ [p]) (upd H p o) (h ++ [io]) :=
  s.push hp (Ext.newA hp) r fun n io a e1 e2 => OR.keep (Ext.newA hp) (fun u q => (upd_ne (fun z => by rw [z, hp] at q; cases q)).trans q) (s.obj n io a e1 e2)
/-- what is wanted, with a new tuple -/
theorem Post.newTup {σ : L2.St} {φ : List Addr} {H : Hp} {h : IH} {Q : VK} {xs : List IV} {vs : List V} (p : Post P W σ φ H Q (.ok (.tup xs) h)) (s : SR P φ H h) (r : VRs P φ H xs vs) {t : Addr} (ht : H t = none) : Q (.ref t) (upd H t (.tup vs)) := by
  refine p φ _ _ (Ext.new ht) (s.untold ht) ?_
  rw [VR]
  exact ⟨t, vs, rfl, .of upd_same, r.mono (Ext.new ht)⟩
/-- what is wanted, with a new list that is left as it is -/
theorem Post.newLst {σ : L2.St} {φ : List Addr} {H : Hp} {h : IH} {Q : VK} {xs : List IV} {vs : List V} (p : Post P W σ φ H Q (.ok (.lst xs) h)) (s : SR P φ H h) (r : VRs P φ H xs vs) {t : Addr} (ht : H t = none) : Q (.ref t) (upd H t (.lst vs)) := by
  refine p φ _ _ (Ext.new ht) (s.untold ht) ?_
  rw [VR]
  exact ⟨t, vs, rfl, upd_same, s.fresh ht, r.mono (Ext.new ht)⟩
/-- .. that may change -/
theorem Post.newRef {σ : L2.St} {φ : List Addr} {H : Hp} {h : IH} {Q : VK} {xs : List IV} {vs : List V} (p : Post P W σ φ H Q (.ok (.ref h.length) (h ++ [.lst xs]))) (s : SR P φ H h) (r : VRs P φ H xs vs) {t : Addr} (ht : H t = none) : Q (.ref t) (upd H t (.lst vs)) := by
  refine p (φ ++ [t]) _ _ (Ext.newA ht) (s.told ht ⟨vs, upd_same, r.mono (Ext.newA ht)⟩) ?_
  rw [VR]
  exact ⟨t, by rw [← s.len]; simp, rfl⟩
theorem VR.tupI {φ : List Addr} {H : Hp} {xs : List IV} {v : V} (r : VR P φ H (.tup xs) v) : ∃ a vs, v = .ref a ∧ SqT P.K H a vs ∧ VRs P φ H xs vs := by rw [VR] at r; exact r
theorem SR.lst {φ : List Addr} {H : Hp} {h : IH} (s : SR P φ H h) {n : Nat} {xs : List IV} {v : V} (r : VR P φ H (.ref n) v) (e : h[n]? = some (.lst xs)) : ∃ a vs, φ[n]? = some a ∧ v = .ref a ∧ H a = some (.lst vs) ∧ VRs P φ H xs vs := by
  rw [VR] at r
  obtain ⟨a, h1, h2⟩ := r
  obtain ⟨vs, h3, h4⟩ := s.obj n _ a e h1
  exact ⟨a, vs, h1, h2, h3, h4⟩
/-- a list: made here -/
def lsO (h : IH) : IV → Option (List IV)
  | .lst xs => some xs
  | .ref n => match h[n]? with
    | some (.lst xs) => some xs
    | _ => none
  | _ => none
/-- .. or any other -/
def lsR (h : IH) : IV → Option (List IV)
  | .scr xs => some xs
  | v => lsO h v
theorem SR.lsO {φ : List Addr} {H : Hp} {h : IH} (s : SR P φ H h) {x : IV} {xs : List IV} {v : V} (r : VR P φ H x v) (e : lsO h x = some xs) : ∃ a vs, v = .ref a ∧ H a = some (.lst vs) ∧ VRs P φ H xs vs := by
  cases x with
  | lst ys =>
    simp only [EV.lsO] at e; cases e
    rw [VR] at r
    obtain ⟨a, vs, h1, h2, _, h3⟩ := r
    exact ⟨a, vs, h1, h2, h3⟩
  | ref n =>
    simp only [EV.lsO] at e
    split at e
    · rename_i q; cases e
      obtain ⟨a, vs, _, h1, h2, h3⟩ := s.lst r q
      exact ⟨a, vs, h1, h2, h3⟩
    · cases e
  | _ => simp only [EV.lsO] at e; cases e
theorem SR.lsR {φ : List Addr} {H : Hp} {h : IH} (s : SR P φ H h) {x : IV} {xs : List IV} {v : V} (r : VR P φ H x v) (e : lsR h x = some xs) : ∃ a vs, v = .ref a ∧ SqL P.K H a vs ∧ VRs P φ H xs vs := by
  have go : EV.lsO h x = some xs → ∃ a vs, v = .ref a ∧ SqL P.K H a vs ∧ VRs P φ H xs vs := fun e => by
    obtain ⟨a, vs, h1, h2, h3⟩ := s.lsO r e
    exact ⟨a, vs, h1, .of h2, h3⟩
  cases x with
  | scr ys =>
    simp only [EV.lsR] at e; cases e
    rw [VR] at r
    obtain ⟨a, vs, h1, h2, h3⟩ := r
    exact ⟨a, vs, h1, h2.sqL, h3⟩
  | _ => exact go e

/-- the sum, the joining -/
def addI : G2 := fun x y h => match x, y with
  | .int a, .int b => .ok (.int (a + b)) h
  | .str a, .str b => if a.length + b.length ≤ sizeLine then .ok (.str (a ++ b)) h else .no
  | .tup xs, .tup ys => if xs.length + ys.length ≤ sizeLine then .ok (.tup (xs ++ ys)) h else .no
  | x, y => match lsO h x, lsO h y with
    | some xs, some ys => if xs.length + ys.length ≤ sizeLine then .ok (.lst (xs ++ ys)) h else .no
    | _, _ => .no
theorem nil_of {φ : List Addr} {H : Hp} {xs : List IV} (r : VRs P φ H xs []) : xs = [] := by
  have := r.length
  exact List.length_eq_zero_iff.mp this.symm
theorem op_addI (hK : X.K = P.K) : OpR X (binaryOp .Add) (rG P W addI) := by
  have R := (op_add (X := X)).or ((op_add_str (X := X)).or ((op_catA (X := X)).or (op_cat (X := X))))
  refine OpR.weak R fun x y H Q q => ?_
  obtain ⟨φ, h, σ, va, vb, s, ra, rb, p⟩ := q
  unfold addI at p
  split at p
  · rw [VR] at ra rb; subst ra rb
    exact .inl ⟨_, _, rfl, rfl, p.ret s (by rw [VR])⟩
  · rw [VR] at ra rb; subst ra rb
    split at p
    · rename_i z
      exact .inr (.inl ⟨_, _, rfl, rfl, z, p.ret s (by rw [VR])⟩)
    · exact p.elim
  · obtain ⟨a, vs, rfl, h1, r1⟩ := ra.tupI
    obtain ⟨b, us, rfl, h2, r2⟩ := rb.tupI
    split at p
    · rename_i z
      refine .inr (.inr (.inl ⟨a, b, vs, us, rfl, rfl, by rw [hK]; exact h1, by rw [hK]; exact h2, by rw [r1.length, r2.length]; exact z, fun e => ?_, fun e e2 => ?_, fun e e2 t ht => p.newTup s (r1.append r2) ht⟩))
      · subst e
        have z := nil_of r1; subst z
        exact p.ret s (by simpa using rb)
      · subst e2
        have z := nil_of r2; subst z
        exact p.ret s (by simpa using ra)
    · exact p.elim
  · split at p
    · rename_i xs ys e1 e2
      split at p
      · rename_i z
        obtain ⟨a, vs, rfl, h1, r1⟩ := s.lsO ra e1
        obtain ⟨b, us, rfl, h2, r2⟩ := s.lsO rb e2
        exact .inr (.inr (.inr ⟨a, b, vs, us, rfl, rfl, h1, h2, by rw [r1.length, r2.length]; exact z, fun t ht => p.newLst s (r1.append r2) ht⟩))
      · exact p.elim
    · exact p.elim
end
end EV
namespace EV
open PySem PySem.Spec PyProof.Rows L2

def mapO {α β : Type} (f : α → Option β) : List α → Option (List β)
  | [] => some []
  | x :: xs => match f x with
    | some y => match mapO f xs with
      | some ys => some (y :: ys)
      | none => none
    | none => none
theorem mapO_cons {α β : Type} {f : α → Option β} {x : α} {xs : List α} {z : List β} (h : mapO f (x :: xs) = some z) : ∃ y ys, f x = some y ∧ mapO f xs = some ys ∧ z = y :: ys := by
  unfold mapO at h
  split at h
  · split at h
    · cases h; exact ⟨_, _, by assumption, by assumption, rfl⟩
    · cases h
  · cases h
/-- the plain datum that a value is, to a depth -/
def dat (h : IH) : Nat → IV → Option PyData
  | _, .non => some .none
  | _, .bl b => some (.bool b)
  | _, .int i => some (.int i)
  | _, .str x => if PyData.strOk x = true then some (.str x) else none
  | n + 1, .tup xs => match mapO (dat h n) xs with
    | some ys => some (.tuple ys)
    | none => none
  | n + 1, .lst xs => match mapO (dat h n) xs with
    | some ys => some (.list ys)
    | none => none
  | n + 1, .scr xs => match mapO (dat h n) xs with
    | some ys => some (.list ys)
    | none => none
  | n + 1, .ref m => match h[m]? with
    | some (.lst xs) => match mapO (dat h n) xs with
      | some ys => some (.list ys)
      | none => none
    | _ => none
  | _, _ => none

theorem datAll_ok {n : Nat} {f : IV → Option PyData} (hf : ∀ x d, f x = some d → d.canLay0 = true ∧ d.depth ≤ n) : ∀ {xs : List IV} {ds : List PyData}, mapO f xs = some ds → PyData.canLayAll0 ds = true ∧ PyData.depthAll ds ≤ n
  | [], _, h => by simp only [mapO] at h; cases h; exact ⟨by simp [PyData.canLayAll0], by simp [PyData.depthAll]⟩
  | x :: xs, _, h => by
    obtain ⟨y, ys, h1, h2, rfl⟩ := mapO_cons h
    have a := hf x y h1
    have b := datAll_ok hf h2
    exact ⟨by simp [PyData.canLayAll0, a.1, b.1], by simp only [PyData.depthAll]; omega⟩
theorem dat_ok {h : IH} : ∀ (n : Nat) (x : IV) (d : PyData), dat h n x = some d → d.canLay0 = true ∧ d.depth ≤ n
  | n, .non, d, e => by cases n <;> (simp only [dat] at e; cases e; exact ⟨by simp [PyData.canLay0], by simp [PyData.depth]⟩)
  | n, .bl b, d, e => by cases n <;> (simp only [dat] at e; cases e; exact ⟨by simp [PyData.canLay0], by simp [PyData.depth]⟩)
  | n, .int b, d, e => by cases n <;> (simp only [dat] at e; cases e; exact ⟨by simp [PyData.canLay0], by simp [PyData.depth]⟩)
  | n, .str b, d, e => by
    cases n <;> (
      simp only [dat] at e
      split at e
      · rename_i z; cases e; exact ⟨by simpa [PyData.canLay0] using z, by simp [PyData.depth]⟩
      · cases e)
  | 0, .tup _, _, e => by simp [dat] at e
  | 0, .lst _, _, e => by simp [dat] at e
  | 0, .scr _, _, e => by simp [dat] at e
  | n, .dct _ _, _, e => by cases n <;> simp [dat] at e
  | n + 1, .lst xs, d, e => by
    simp only [dat] at e
    split at e
    · rename_i ys z; cases e
      have a := datAll_ok (fun x d q => dat_ok n x d q) z
      exact ⟨by simp [PyData.canLay0, a.1], by simp only [PyData.depth]; omega⟩
    · cases e
  | n + 1, .scr xs, d, e => by
    simp only [dat] at e
    split at e
    · rename_i ys z; cases e
      have a := datAll_ok (fun x d q => dat_ok n x d q) z
      exact ⟨by simp [PyData.canLay0, a.1], by simp only [PyData.depth]; omega⟩
    · cases e
  | 0, .ref _, _, e => by simp [dat] at e
  | n, .ty _, _, e => by cases n <;> simp [dat] at e
  | n, .glo _, _, e => by cases n <;> simp [dat] at e
  | n + 1, .tup xs, d, e => by
    simp only [dat] at e
    split at e
    · rename_i ys z; cases e
      have a := datAll_ok (fun x d q => dat_ok n x d q) z
      exact ⟨by simp [PyData.canLay0, a.1], by simp only [PyData.depth]; omega⟩
    · cases e
  | n + 1, .ref m, d, e => by
    simp only [dat] at e
    split at e
    · split at e
      · rename_i ys z; cases e
        have a := datAll_ok (fun x d q => dat_ok n x d q) z
        exact ⟨by simp [PyData.canLay0, a.1], by simp only [PyData.depth]; omega⟩
      · cases e
    · cases e
section
variable {P : Par} {φ : List Addr} {H : Hp} {h : IH}
theorem datAll_Dp {f : IV → Option PyData} (hf : ∀ x d v, f x = some d → VR P φ H x v → Dp P.K H v d) : ∀ {xs : List IV} {ds : List PyData} {vs : List V}, mapO f xs = some ds → VRs P φ H xs vs → DpAll P.K H vs ds
  | [], _, _, e, r => by simp only [mapO] at e; cases e; rw [VRs] at r; subst r; exact .nil
  | x :: xs, _, _, e, r => by
    obtain ⟨y, ys, h1, h2, rfl⟩ := mapO_cons e
    rw [VRs] at r
    obtain ⟨v, t, rfl, r1, r2⟩ := r
    exact .cons (hf x y v h1 r1) (datAll_Dp hf h2 r2)
theorem dat_Dp (s : SR P φ H h) : ∀ (n : Nat) (x : IV) (d : PyData) (v : V), dat h n x = some d → VR P φ H x v → Dp P.K H v d
  | n, .non, d, v, e, r => by cases n <;> (simp only [dat] at e; cases e; rw [VR] at r; subst r; exact .non)
  | n, .bl b, d, v, e, r => by cases n <;> (simp only [dat] at e; cases e; rw [VR] at r; subst r; exact .bl b)
  | n, .int b, d, v, e, r => by cases n <;> (simp only [dat] at e; cases e; rw [VR] at r; subst r; exact .int b)
  | n, .str b, d, v, e, r => by
    cases n <;> (
      simp only [dat] at e
      split at e
      · cases e; rw [VR] at r; subst r; exact .str b
      · cases e)
  | 0, .tup _, _, _, e, _ => by simp [dat] at e
  | 0, .lst _, _, _, e, _ => by simp [dat] at e
  | 0, .scr _, _, _, e, _ => by simp [dat] at e
  | n, .dct _ _, _, _, e, _ => by cases n <;> simp [dat] at e
  | n + 1, .lst xs, d, v, e, r => by
    simp only [dat] at e
    split at e
    · rename_i ys z; cases e
      obtain ⟨a, vs, rfl, h1, r1⟩ := s.lsR r (xs := xs) rfl
      exact .lst h1 (datAll_Dp (fun x d v q k => dat_Dp s n x d v q k) z r1)
    · cases e
  | n + 1, .scr xs, d, v, e, r => by
    simp only [dat] at e
    split at e
    · rename_i ys z; cases e
      obtain ⟨a, vs, rfl, h1, r1⟩ := s.lsR r (xs := xs) rfl
      exact .lst h1 (datAll_Dp (fun x d v q k => dat_Dp s n x d v q k) z r1)
    · cases e
  | 0, .ref _, _, _, e, _ => by simp [dat] at e
  | n, .ty _, _, _, e, _ => by cases n <;> simp [dat] at e
  | n, .glo _, _, _, e, _ => by cases n <;> simp [dat] at e
  | n + 1, .tup xs, d, v, e, r => by
    simp only [dat] at e
    split at e
    · rename_i ys z; cases e
      obtain ⟨a, vs, rfl, h1, r1⟩ := r.tupI
      exact .tup h1 (datAll_Dp (fun x d v q k => dat_Dp s n x d v q k) z r1)
    · cases e
  | n + 1, .ref m, d, v, e, r => by
    simp only [dat] at e
    split at e
    · rename_i xs hl
      split at e
      · rename_i ys z; cases e
        obtain ⟨a, vs, _, rfl, h1, r1⟩ := s.lst r hl
        exact .lst (.of h1) (datAll_Dp (fun x d v q k => dat_Dp s n x d v q k) z r1)
      · cases e
    · cases e
end
abbrev DEEP : Nat := 12

def eqD (h : IH) (x y : IV) : Option Bool := match dat h DEEP x, dat h DEEP y with
  | some d, some e => some (PyData.eqv d e)
  | _, _ => none
def eqI : G2 := fun x y h => match eqD h x y with
  | some b => .ok (.bl b) h
  | none => .no
def neI : G2 := fun x y h => match eqD h x y with
  | some b => .ok (.bl (!b)) h
  | none => .no
section
variable {X : Cx} {P : Par} {W : WX}
theorem eqD_some {h : IH} {x y : IV} {b : Bool} (e : eqD h x y = some b) : ∃ d d', dat h DEEP x = some d ∧ dat h DEEP y = some d' ∧ b = PyData.eqv d d' := by
  unfold eqD at e
  split at e
  · cases e; exact ⟨_, _, by assumption, by assumption, rfl⟩
  · cases e
theorem shaped_dat {h : IH} {x : IV} {d : PyData} (e : dat h DEEP x = some d) : SeqAt.shaped d = true := by
  have := dat_ok DEEP x d e
  unfold SeqAt.shaped
  rw [this.1, decide_eq_true (Nat.le_trans this.2 (by decide))]
  rfl
theorem op_eqI (hK : X.K = P.K) (hu : X.A.units + 64 < cLine) : OpR X (compareOp .Eq) (rG P W eqI) := OpR.weak (op_eqD hu) fun x y H Q q => by
  obtain ⟨φ, h, σ, va, vb, s, ra, rb, p⟩ := q
  unfold eqI at p
  split at p
  · rename_i b e
    obtain ⟨d, d', e1, e2, rfl⟩ := eqD_some e
    exact ⟨d, d', by rw [hK]; exact dat_Dp s _ _ _ _ e1 ra, by rw [hK]; exact dat_Dp s _ _ _ _ e2 rb, shaped_dat e1, shaped_dat e2, p.ret s (by rw [VR])⟩
  · exact p.elim
theorem op_neI (hK : X.K = P.K) (hu : X.A.units + 64 < cLine) : OpR X (compareOp .NotEq) (rG P W neI) := OpR.weak (op_neD hu) fun x y H Q q => by
  obtain ⟨φ, h, σ, va, vb, s, ra, rb, p⟩ := q
  unfold neI at p
  split at p
  · rename_i b e
    obtain ⟨d, d', e1, e2, rfl⟩ := eqD_some e
    exact ⟨d, d', by rw [hK]; exact dat_Dp s _ _ _ _ e1 ra, by rw [hK]; exact dat_Dp s _ _ _ _ e2 rb, shaped_dat e1, shaped_dat e2, p.ret s (by rw [VR])⟩
  · exact p.elim
end

/-- an order's answer on two numbers -/
def ordI : CmpOp → Int → Int → Option Bool
  | .Lt, a, b => some (decide (a < b))
  | .LtE, a, b => some (decide (a ≤ b))
  | .Gt, a, b => some (decide (b < a))
  | .GtE, a, b => some (decide (b ≤ a))
  | _, _, _ => none
def ordN (op : CmpOp) (a b : Nat) : Option Bool := ordI op a b
mutual
/-- Python's order of plain data (tuples: all common places must be comparable) -/
def cmpD (op : CmpOp) : PyData → PyData → Option Bool
  | .int a, .int b => ordI op a b
  | .str a, .str b => match op with
    | .Lt => some (decide (a.cps.toList < b.cps.toList))
    | _ => none
  | .tuple xs, .tuple ys => cmpDs op xs ys
  | _, _ => none
def cmpDs (op : CmpOp) : List PyData → List PyData → Option Bool
  | [], ys => ordN op 0 ys.length
  | x :: xs, [] => ordN op (xs.length + 1) 0
  | x :: xs, y :: ys => match cmpDs op xs ys with
    | some r => if PyData.eqv x y = true then some r else cmpD op x y
    | none => none
end
section
open SeqAt
/-- what the j-th places give -/
def atD (op : CmpOp) (xs ys : List PyData) (j : Nat) : Bool := match xs[j]?, ys[j]? with
  | some x, some y => (cmpD op x y).getD false
  | _, _ => false
theorem lex_shift {e r : Nat → Bool} {z : Bool} : ∀ (k i : Nat), Ob.lexAt e r z (i + 1) k = Ob.lexAt (fun j => e (j + 1)) (fun j => r (j + 1)) z i k
  | 0, _ => rfl
  | k + 1, i => by rw [Ob.lexAt_succ, Ob.lexAt_succ, lex_shift k (i + 1)]
theorem cmpDs_lex {op : CmpOp} : ∀ {xs ys : List PyData} {b : Bool}, cmpDs op xs ys = some b →
    ∃ z, ordN op xs.length ys.length = some z ∧ b = Ob.lexAt (pairEq xs ys) (atD op xs ys) z 0 (min xs.length ys.length) ∧ ∀ (j : Nat) (x y : PyData), xs[j]? = some x → ys[j]? = some y → PyData.eqv x y = false → ∃ c, cmpD op x y = some c
  | [], ys, b, h => by
    simp only [cmpDs] at h
    refine ⟨b, by simpa using h, ?_, fun j x y h1 => by simp at h1⟩
    simp [Ob.lexAt_zero]
  | x :: xs, [], b, h => by
    simp only [cmpDs] at h
    refine ⟨b, by simpa using h, ?_, fun j x y _ h1 => by simp at h1⟩
    simp [Ob.lexAt_zero]
  | x :: xs, y :: ys, b, h => by
    simp only [cmpDs] at h
    split at h
    · rename_i r hr
      obtain ⟨z, h1, h2, h3⟩ := cmpDs_lex hr
      have hz : ordN op (x :: xs).length (y :: ys).length = some z := by
        have e1 : decide (((xs.length : Nat) : Int) + 1 < (ys.length : Nat) + 1) = decide (((xs.length : Nat) : Int) < (ys.length : Nat)) := by
          congr 1; exact propext ⟨fun q => by omega, fun q => by omega⟩
        have e2 : decide (((xs.length : Nat) : Int) + 1 ≤ (ys.length : Nat) + 1) = decide (((xs.length : Nat) : Int) ≤ (ys.length : Nat)) := by
          congr 1; exact propext ⟨fun q => by omega, fun q => by omega⟩
        have e3 : decide (((ys.length : Nat) : Int) + 1 < (xs.length : Nat) + 1) = decide (((ys.length : Nat) : Int) < (xs.length : Nat)) := by
          congr 1; exact propext ⟨fun q => by omega, fun q => by omega⟩
        have e4 : decide (((ys.length : Nat) : Int) + 1 ≤ (xs.length : Nat) + 1) = decide (((ys.length : Nat) : Int) ≤ (xs.length : Nat)) := by
          congr 1; exact propext ⟨fun q => by omega, fun q => by omega⟩
        unfold ordN at h1 ⊢
        simp only [List.length_cons, Int.natCast_add, Int.cast_ofNat_Int] at h1 ⊢
        cases op <;> simp only [ordI] at h1 ⊢ <;> first | (cases h1; done) | (rw [← h1]; first | exact congrArg some e1 | exact congrArg some e2 | exact congrArg some e3 | exact congrArg some e4)
      have hm : min (x :: xs).length (y :: ys).length = min xs.length ys.length + 1 := by simp only [List.length_cons]; omega
      refine ⟨z, hz, ?_, fun j u v e1 e2 ne => ?_⟩
      · rw [hm, Ob.lexAt_succ, lex_shift]
        have p0 : pairEq (x :: xs) (y :: ys) 0 = PyData.eqv x y := rfl
        have a0 : atD op (x :: xs) (y :: ys) 0 = (cmpD op x y).getD false := rfl
        have p1 : (fun j => pairEq (x :: xs) (y :: ys) (j + 1)) = pairEq xs ys := by funext j; rfl
        have a1 : (fun j => atD op (x :: xs) (y :: ys) (j + 1)) = atD op xs ys := by funext j; simp [atD]
        rw [p0, a0, p1, a1, ← h2]
        by_cases q : PyData.eqv x y = true
        · rw [if_pos q] at h ⊢; exact (Option.some.inj h).symm
        · rw [if_neg q] at h ⊢; rw [h]; rfl
      · cases j with
        | zero =>
          simp at e1 e2; subst e1 e2
          rw [if_neg (by rw [ne]; decide)] at h
          exact ⟨b, h⟩
        | succ j => exact h3 j u v (by simpa using e1) (by simpa using e2) ne
    · cases h

theorem readsAll_get {h : Heap} : ∀ {vs : List Value} {ds : List PyData} {as : List Addr} {j : Nat} {v : Value}, ReadsAll h vs ds as → vs[j]? = some v → ∃ d as', ds[j]? = some d ∧ Reads h v d as'
  | [], _, _, j, _, _, e => by simp at e
  | _ :: _, _, _, 0, v, .cons r _, e => by simp at e; subst e; exact ⟨_, _, rfl, r⟩
  | _ :: _, _, _, j + 1, v, .cons _ t, e => by
    obtain ⟨d, as', h1, h2⟩ := readsAll_get (j := j) t (by simpa using e)
    exact ⟨d, as', by simpa using h1, h2⟩
theorem readsAll_len {h : Heap} : ∀ {vs : List Value} {ds : List PyData} {as : List Addr}, ReadsAll h vs ds as → vs.length = ds.length
  | _, _, _, .nil => rfl
  | _, _, _, .cons _ t => by rw [List.length_cons, List.length_cons, readsAll_len t]
theorem depth_mem {ds : List PyData} {d : PyData} {j : Nat} (h : ds[j]? = some d) : d.depth ≤ PyData.depthAll ds := by
  induction ds generalizing j with
  | nil => simp at h
  | cons x xs ih =>
    simp only [PyData.depthAll]
    cases j with
    | zero => simp at h; subst h; omega
    | succ j => have := ih (j := j) (by simpa using h); omega
theorem canLay_mem {ds : List PyData} {d : PyData} {j : Nat} (hc : PyData.canLayAll0 ds = true) (h : ds[j]? = some d) : d.canLay0 = true := by
  induction ds generalizing j with
  | nil => simp at h
  | cons x xs ih =>
    simp only [PyData.canLayAll0, Bool.and_eq_true] at hc
    cases j with
    | zero => simp at h; subst h; exact hc.1
    | succ j => exact ih (j := j) hc.2 (by simpa using h)
theorem ordI_ok {op : CmpOp} {a b : Int} {c : Bool} (e : ordI op a b = some c) {A : Around} {s : Shared} {t u : Tok} : Ob.RcOp op A s (.int a t) (.int b u) c := by
  cases op <;> simp only [ordI] at e <;> first
    | (cases e; exact Ob.RcOp.lt_int a b t u)
    | (cases e; exact Ob.RcOp.le_int a b t u)
    | (cases e; exact Ob.RcOp.gt_int a b t u)
    | (cases e; exact Ob.RcOp.ge_int a b t u)
    | cases e
/-- the order as the machine has it -/
theorem cmpD_ok : ∀ (n : Nat) (op : CmpOp) (d e : PyData) (b : Bool) (A : Around) (s : Shared) (x y : Value) (as bs : List Addr), d.depth ≤ n → d.canLay0 = true → e.canLay0 = true → Reads s.heap x d as → Reads s.heap y e bs → cmpD op d e = some b →
    A.units + 2 * n + 2 < cLine → Ob.RcOp op A s x y b
  | n, op, .int a, .int c, b, A, s, x, y, as, bs, _, _, _, r1, r2, h, _ => by
    cases r1; cases r2
    simp only [cmpD] at h
    exact ordI_ok h
  | n, op, .str a, .str c, b, A, s, x, y, as, bs, _, _, _, r1, r2, h, _ => by
    cases r1; cases r2
    simp only [cmpD] at h
    split at h
    · cases h
      intro prog w E Q hq
      exact PyProof.Rows.lt_str hq
    · cases h
  | 0, op, .tuple xs, .tuple ys, b, A, s, x, y, as, bs, hd, _, _, _, _, h, hu => by simp [PyData.depth] at hd
  | n + 1, op, .tuple xs, .tuple ys, b, A, s, x, y, as, bs, hd, c1, c2, r1, r2, h, hu => by
    cases r1 with
    | @tuple a o vs k _ _ h1 h2 h3 h4 =>
    cases r2 with
    | @tuple a' o' vs' k' _ _ g1 g2 g3 g4 =>
    simp only [cmpD] at h
    obtain ⟨z, hz, rfl, hc⟩ := cmpDs_lex h
    simp only [PyData.canLay0] at c1 c2
    simp only [PyData.depth] at hd
    have l1 : vs.size = xs.length := by rw [← readsAll_len h4]; simp
    have l2 : vs'.size = ys.length := by rw [← readsAll_len g4]; simp
    have t1 : s.heap.IsTuple a vs := ⟨o, h1, h2, k, h3⟩
    have t2 : s.heap.IsTuple a' vs' := ⟨o', g1, g2, k', g3⟩
    have hu' : A.units < cLine := by omega
    have in1 : A.in1.units = A.units + 1 := rfl
    have heq : ∀ j (p1 : j < vs.size) (p2 : j < vs'.size), EqAt A.in1 s vs[j] vs'[j] (pairEq xs ys j) := fun j p1 p2 => by
      have m1 : min (PyData.depthAll xs) (PyData.depthAll ys) ≤ PyData.depthAll xs := Nat.min_le_left _ _
      have q := eqAt_readsAll xs ys A.in1 s vs.toList vs'.toList _ _ h4 g4 c1 c2 (by rw [in1]; omega) j (by simpa using p1) (by simpa using p2)
      simpa using q
    have hle : ∀ j (p1 : j < vs.size) (p2 : j < vs'.size), pairEq xs ys j = false → Ob.RcOp op A.in1 s vs[j] vs'[j] (atD op xs ys j) := fun j p1 p2 ne => by
      obtain ⟨d1, as1, e1, q1⟩ := readsAll_get (j := j) (v := vs[j]) h4 (by simp)
      obtain ⟨d2, as2, e2, q2⟩ := readsAll_get (j := j) (v := vs'[j]) g4 (by simp)
      have ne' : PyData.eqv d1 d2 = false := by
        unfold pairEq at ne
        rw [List.getD_eq_getElem?_getD, List.getD_eq_getElem?_getD, e1, e2] at ne
        exact ne
      obtain ⟨c, hc'⟩ := hc j d1 d2 e1 e2 ne'
      have : atD op xs ys j = c := by unfold atD; rw [e1, e2]; simp [hc']
      rw [this]
      have dm := depth_mem e1
      exact cmpD_ok n op d1 d2 c A.in1 s _ _ _ _ (by omega) (canLay_mem c1 e1) (canLay_mem c2 e2) q1 q2 hc' (by rw [in1]; omega)
    rw [← l1, ← l2]
    have e1 : ∀ {p q : Prop} [Decidable p] [Decidable q], (p ↔ q) → decide p = decide q := fun h => by congr 1; exact propext h
    cases op <;> simp only [ordN, ordI] at hz <;> first
      | (cases hz; done)
      | (cases hz; rw [← l1, ← l2, e1 Int.ofNat_lt]; exact Ob.RcOp.tuples_lt t1 t2 hu' heq hle)
      | (cases hz; rw [← l1, ← l2, e1 Int.ofNat_le]; exact Ob.RcOp.tuples_le t1 t2 hu' heq hle)
      | (cases hz; rw [← l1, ← l2, e1 Int.ofNat_lt]; exact Ob.RcOp.tuples_gt t1 t2 hu' heq hle)
      | (cases hz; rw [← l1, ← l2, e1 Int.ofNat_le]; exact Ob.RcOp.tuples_ge t1 t2 hu' heq hle)
  | _, _, .none, _, _, _, _, _, _, _, _, _, _, _, _, _, h, _ => by simp [cmpD] at h
  | _, _, .bool _, _, _, _, _, _, _, _, _, _, _, _, _, _, h, _ => by simp [cmpD] at h
  | _, _, .list _, _, _, _, _, _, _, _, _, _, _, _, _, _, h, _ => by simp [cmpD] at h
  | _, _, .dict _, _, _, _, _, _, _, _, _, _, _, _, _, _, h, _ => by simp [cmpD] at h
  | _, _, .int _, .none, _, _, _, _, _, _, _, _, _, _, _, _, h, _ => by simp [cmpD] at h
  | _, _, .int _, .bool _, _, _, _, _, _, _, _, _, _, _, _, _, h, _ => by simp [cmpD] at h
  | _, _, .int _, .str _, _, _, _, _, _, _, _, _, _, _, _, _, h, _ => by simp [cmpD] at h
  | _, _, .int _, .list _, _, _, _, _, _, _, _, _, _, _, _, _, h, _ => by simp [cmpD] at h
  | _, _, .int _, .tuple _, _, _, _, _, _, _, _, _, _, _, _, _, h, _ => by simp [cmpD] at h
  | _, _, .int _, .dict _, _, _, _, _, _, _, _, _, _, _, _, _, h, _ => by simp [cmpD] at h
  | _, _, .str _, .none, _, _, _, _, _, _, _, _, _, _, _, _, h, _ => by simp [cmpD] at h
  | _, _, .str _, .bool _, _, _, _, _, _, _, _, _, _, _, _, _, h, _ => by simp [cmpD] at h
  | _, _, .str _, .int _, _, _, _, _, _, _, _, _, _, _, _, _, h, _ => by simp [cmpD] at h
  | _, _, .str _, .list _, _, _, _, _, _, _, _, _, _, _, _, _, h, _ => by simp [cmpD] at h
  | _, _, .str _, .tuple _, _, _, _, _, _, _, _, _, _, _, _, _, h, _ => by simp [cmpD] at h
  | _, _, .str _, .dict _, _, _, _, _, _, _, _, _, _, _, _, _, h, _ => by simp [cmpD] at h
  | _, _, .tuple _, .none, _, _, _, _, _, _, _, _, _, _, _, _, h, _ => by simp [cmpD] at h
  | _, _, .tuple _, .bool _, _, _, _, _, _, _, _, _, _, _, _, _, h, _ => by simp [cmpD] at h
  | _, _, .tuple _, .int _, _, _, _, _, _, _, _, _, _, _, _, _, h, _ => by simp [cmpD] at h
  | _, _, .tuple _, .str _, _, _, _, _, _, _, _, _, _, _, _, _, h, _ => by simp [cmpD] at h
  | _, _, .tuple _, .list _, _, _, _, _, _, _, _, _, _, _, _, _, h, _ => by simp [cmpD] at h
  | _, _, .tuple _, .dict _, _, _, _, _, _, _, _, _, _, _, _, _, h, _ => by simp [cmpD] at h
end
/-- x op y, an order -/
def ordE (op : CmpOp) : G2 := fun x y h => match x, y with
  | .int a, .int b => match ordI op a b with
    | some c => .ok (.bl c) h
    | none => .no
  | _, _ => match dat h DEEP x, dat h DEEP y with
    | some d, some e => match cmpD op d e with
      | some b => .ok (.bl b) h
      | none => .no
    | _, _ => .no
section
variable {X : Cx} {P : Par} {W : WX}
theorem cmpD_isOrd {op : CmpOp} : ∀ {d e : PyData} {b : Bool}, cmpD op d e = some b → op = .Lt ∨ op = .LtE ∨ op = .Gt ∨ op = .GtE := by
  have hI : ∀ {a b : Int} {c : Bool}, ordI op a b = some c → op = .Lt ∨ op = .LtE ∨ op = .Gt ∨ op = .GtE := fun {a b c} h => by
    cases op <;> simp only [ordI] at h <;> first | (cases h; done) | simp
  intro d e b h
  cases d <;> cases e <;> simp only [cmpD] at h <;> first
    | (cases h; done)
    | exact hI h
    | (split at h
       · simp
       · cases h)
    | (obtain ⟨z, hz, _⟩ := cmpDs_lex h; exact hI hz)
theorem compareOp_rc {op : CmpOp} (ho : op = .Lt ∨ op = .LtE ∨ op = .Gt ∨ op = .GtE) (v u : Value) : compareOp op v u = richCompare op v u := by
  rcases ho with rfl | rfl | rfl | rfl <;> rfl
theorem op_ordI {op : CmpOp} (hK : X.K = P.K) (hu : X.A.units + 64 < cLine) : OpR X (compareOp op) (rG P W (ordE op)) := by
  intro pins s0 σ H x y v u Q I rx ry q
  obtain ⟨φ, h, σ', va, vb, s, ra, rb, p⟩ := q
  have go : ∀ d e b, dat h DEEP va = some d → dat h DEEP vb = some e → cmpD op d e = some b → Q (.bl b) H → wpAny (model X.prog X.w) X.A (compareOp op v u) (EP X pins σ Q) X.xe s0 := fun d e b e1 e2 e3 hq => by
    obtain ⟨as, r1⟩ := Dp.reads I d x v (by rw [hK]; exact dat_Dp s _ _ _ _ e1 ra) rx
    obtain ⟨bs, r2⟩ := Dp.reads I e y u (by rw [hK]; exact dat_Dp s _ _ _ _ e2 rb) ry
    have a1 := dat_ok DEEP va d e1
    have a2 := dat_ok DEEP vb e e2
    rw [compareOp_rc (cmpD_isOrd e3)]
    exact cmpD_ok DEEP op d e b X.A s0 v u as bs a1.2 a1.1 a2.1 r1 r2 e3 (by show X.A.units + 2 * 12 + 2 < cLine; omega) _ _ _ _ ⟨.bl b, H, I, rfl, hq⟩
  unfold ordE at p
  split at p
  · rename_i a b
    split at p
    · rename_i c hc
      exact go (.int a) (.int b) c (by simp [dat]) (by simp [dat]) (by simpa [cmpD] using hc) (p.ret s (by rw [VR]))
    · exact p.elim
  · split at p
    · rename_i d e e1 e2
      split at p
      · rename_i b hb
        exact go d e b e1 e2 hb (p.ret s (by rw [VR]))
      · exact p.elim
    · exact p.elim
end
end EV
namespace EV
open PySem PySem.Spec PyProof.Rows L2

section
variable {X : Cx} {P : Par} {W : WX}
abbrev mulOk (i j : Int) : Prop := (-(2 ^ 64) < i ∧ i < 2 ^ 64) ∨ (-(2 ^ 64) < j ∧ j < 2 ^ 64) ∨ i.natAbs.log2 + j.natAbs.log2 < 1000000
abbrev divOk (j : Int) : Prop := 0 < j ∧ j.natAbs.log2 < 9000
abbrev powOk (i j : Int) : Prop := 0 ≤ j ∧ (Builtin.Int.intBits i : Int) * j ≤ 2 ^ 27
def subI : G2 := fun x y h => match x, y with
  | .int a, .int b => .ok (.int (a - b)) h
  | _, _ => .no
def mulI : G2 := fun x y h => match x, y with
  | .int a, .int b => if mulOk a b then .ok (.int (a * b)) h else .no
  | _, _ => .no
def fdivI : G2 := fun x y h => match x, y with
  | .int a, .int b => if divOk b then .ok (.int (a / b)) h else .no
  | _, _ => .no
def modI : G2 := fun x y h => match x, y with
  | .int a, .int b => if 0 < b then .ok (.int (a % b)) h else .no
  | _, _ => .no
def powI : G2 := fun x y h => match x, y with
  | .int a, .int b => if powOk a b then .ok (.int (a ^ b.toNat)) h else .no
  | _, _ => .no
theorem op_subI : OpR X (binaryOp .Sub) (rG P W subI) := OpR.weak op_sub fun x y H Q q => by
  obtain ⟨φ, h, σ, va, vb, s, ra, rb, p⟩ := q
  unfold subI at p
  split at p
  · rw [VR] at ra rb; subst ra rb
    exact ⟨_, _, rfl, rfl, p.ret s (by rw [VR])⟩
  · exact p.elim
theorem op_mulI : OpR X (binaryOp .Mult) (rG P W mulI) := OpR.weak ((op_mul (X := X)).or op_mulW) fun x y H Q q => by
  obtain ⟨φ, h, σ, va, vb, s, ra, rb, p⟩ := q
  unfold mulI at p
  split at p
  · rw [VR] at ra rb; subst ra rb
    split at p
    · rename_i c
      rcases c with c | c | c
      · exact .inl ⟨_, _, rfl, rfl, .inl c, p.ret s (by rw [VR])⟩
      · exact .inl ⟨_, _, rfl, rfl, .inr c, p.ret s (by rw [VR])⟩
      · exact .inr ⟨_, _, rfl, rfl, c, p.ret s (by rw [VR])⟩
    · exact p.elim
  · exact p.elim
theorem op_fdivI : OpR X (binaryOp .FloorDiv) (rG P W fdivI) := OpR.weak op_fdivW fun x y H Q q => by
  obtain ⟨φ, h, σ, va, vb, s, ra, rb, p⟩ := q
  unfold fdivI at p
  split at p
  · rw [VR] at ra rb; subst ra rb
    split at p
    · rename_i c
      exact ⟨_, _, rfl, rfl, c, p.ret s (by rw [VR])⟩
    · exact p.elim
  · exact p.elim
theorem op_modI : OpR X (binaryOp .Mod) (rG P W modI) := OpR.weak op_mod fun x y H Q q => by
  obtain ⟨φ, h, σ, va, vb, s, ra, rb, p⟩ := q
  unfold modI at p
  split at p
  · rw [VR] at ra rb; subst ra rb
    split at p
    · rename_i c
      exact ⟨_, _, rfl, rfl, c, p.ret s (by rw [VR])⟩
    · exact p.elim
  · exact p.elim
theorem op_powI : OpR X (binaryOp .Pow) (rG P W powI) := by
  have R : OpR X (binaryOp .Pow) (rI (fun i j => powOk i j) fun i j => .int (i ^ j.toNat)) := opI fun _ _ _ _ _ _ _ hc q => pow_int hc.1 hc.2 q
  refine OpR.weak R fun x y H Q q => ?_
  obtain ⟨φ, h, σ, va, vb, s, ra, rb, p⟩ := q
  unfold powI at p
  split at p
  · rw [VR] at ra rb; subst ra rb
    split at p
    · rename_i c
      exact ⟨_, _, rfl, rfl, c, p.ret s (by rw [VR])⟩
    · exact p.elim
  · exact p.elim

/-- is x in y -/
def inB (h : IH) (x y : IV) : Option Bool := match x, y with
  | .str a, .str b => some (!(Builtin.Str.occurrences b a 0 b.length 1).isEmpty)
  | x, y => match dat h DEEP x, dat h DEEP y with
    | some d, some (.tuple ds) => some (ds.any fun z => PyData.eqv z d)
    | some d, some (.list ds) => some (ds.any fun z => PyData.eqv z d)
    | _, _ => none
def inI : G2 := fun x y h => match inB h x y with
  | some b => .ok (.bl b) h
  | none => .no
def ninI : G2 := fun x y h => match inB h x y with
  | some b => .ok (.bl (!b)) h
  | none => .no
theorem inB_run {φ : List Addr} {H : Hp} {h : IH} (hK : X.K = P.K) (hu : X.A.units + 65 < cLine) (s : SR P φ H h) {va vb : IV} {x y : V} {b : Bool} (ra : VR P φ H va x) (rb : VR P φ H vb y) (e : inB h va vb = some b)
    {pins : List (Addr × Obj)} {s0 : Shared} {σ : L2.St} {v u : Value} (I : Inv X pins σ H s0) (rx : L2.RelV x v) (ry : L2.RelV y u) {E : Value → Shared → Prop} {Q : Value → Shared → Prop} :
    (Q (.bool b) s0 → wpAny (model X.prog X.w) X.A (compareOp .In v u) Q E s0) ∧ (Q (.bool (!b)) s0 → wpAny (model X.prog X.w) X.A (compareOp .NotIn v u) Q E s0) := by
  unfold inB at e
  split at e
  · cases e
    rw [VR] at ra rb; subst ra rb
    obtain ⟨t, rfl⟩ := rx
    obtain ⟨t', rfl⟩ := ry
    exact ⟨fun q => PyProof.Rows.in_str q, fun q => PyProof.Rows.notIn_str q⟩
  · split at e
    · rename_i d ds e1 e2
      cases e
      obtain ⟨as, r1⟩ := Dp.reads I d x v (by rw [hK]; exact dat_Dp s _ _ _ _ e1 ra) rx
      obtain ⟨bs, r2⟩ := Dp.reads I (.tuple ds) y u (by rw [hK]; exact dat_Dp s _ _ _ _ e2 rb) ry
      have a1 := dat_ok DEEP va d e1
      have a2 := dat_ok DEEP vb _ e2
      have hm : min (PyData.depthAll ds) d.depth ≤ d.depth := Nat.min_le_right _ _
      have hr : X.A.units + 1 + min (PyData.depthAll ds) d.depth < cLine := by have := a1.2; show _ < _; simp only [DEEP] at this; omega
      have c2 : PyData.canLayAll0 ds = true := by simpa [PyData.canLay0] using a2.1
      exact ⟨fun q => SeqAt.in_tuple_reads r2 r1 c2 a1.1 hr q, fun q => SeqAt.notIn_tuple_reads r2 r1 c2 a1.1 hr q⟩
    · rename_i d ds e1 e2
      cases e
      obtain ⟨as, r1⟩ := Dp.reads I d x v (by rw [hK]; exact dat_Dp s _ _ _ _ e1 ra) rx
      obtain ⟨bs, r2⟩ := Dp.reads I (.list ds) y u (by rw [hK]; exact dat_Dp s _ _ _ _ e2 rb) ry
      have a1 := dat_ok DEEP va d e1
      have a2 := dat_ok DEEP vb _ e2
      have hm : min (PyData.depthAll ds) d.depth ≤ d.depth := Nat.min_le_right _ _
      have hr : X.A.units + 1 + min (PyData.depthAll ds) d.depth < cLine := by have := a1.2; show _ < _; simp only [DEEP] at this; omega
      have c2 : PyData.canLayAll0 ds = true := by simpa [PyData.canLay0] using a2.1
      exact ⟨fun q => SeqAt.in_list_reads r2 r1 c2 a1.1 hr q, fun q => SeqAt.notIn_list_reads r2 r1 c2 a1.1 hr q⟩
    · cases e
theorem op_inI (hK : X.K = P.K) (hu : X.A.units + 65 < cLine) : OpR X (compareOp .In) (rG P W inI) := by
  intro pins s0 σ H x y v u Q I rx ry q
  obtain ⟨φ, h, σ', va, vb, s, ra, rb, p⟩ := q
  unfold inI at p
  split at p
  · rename_i b e
    exact (inB_run hK hu s ra rb e I rx ry).1 ⟨.bl b, H, I, rfl, p.ret s (by rw [VR])⟩
  · exact p.elim
theorem op_ninI (hK : X.K = P.K) (hu : X.A.units + 65 < cLine) : OpR X (compareOp .NotIn) (rG P W ninI) := by
  intro pins s0 σ H x y v u Q I rx ry q
  obtain ⟨φ, h, σ', va, vb, s, ra, rb, p⟩ := q
  unfold ninI at p
  split at p
  · rename_i b e
    exact (inB_run hK hu s ra rb e I rx ry).2 ⟨.bl (!b), H, I, rfl, p.ret s (by rw [VR])⟩
  · exact p.elim

def isNonB : IV → Bool
  | .non => true
  | _ => false
theorem VR.non_iff {φ : List Addr} {H : Hp} {x : IV} {v : V} (r : VR P φ H x v) : decide (v = .non) = isNonB x := by
  cases x <;> rw [VR] at r <;> first
    | (subst r; rfl)
    | (obtain ⟨a, vs, rfl, _⟩ := r; rfl)
    | (obtain ⟨a, vs, es, rfl, _⟩ := r; rfl)
    | (obtain ⟨a, _, rfl⟩ := r; rfl)
def isI : G2 := fun x y h => match y with
  | .non => .ok (.bl (isNonB x)) h
  | _ => .no
def isnI : G2 := fun x y h => match y with
  | .non => .ok (.bl (!isNonB x)) h
  | _ => .no
theorem op_isI : OpR X (compareOp .Is) (rG P W isI) := OpR.weak op_isN fun x y H Q q => by
  obtain ⟨φ, h, σ', va, vb, s, ra, rb, p⟩ := q
  unfold isI at p
  split at p
  · rw [VR] at rb; subst rb
    exact ⟨rfl, by rw [ra.non_iff]; exact p.ret s (by rw [VR])⟩
  · exact p.elim
theorem op_isnI : OpR X (compareOp .IsNot) (rG P W isnI) := OpR.weak op_notN fun x y H Q q => by
  obtain ⟨φ, h, σ', va, vb, s, ra, rb, p⟩ := q
  unfold isnI at p
  split at p
  · rw [VR] at rb; subst rb
    exact ⟨rfl, by rw [ra.non_iff]; exact p.ret s (by rw [VR])⟩
  · exact p.elim

def tyName (h : IH) : IV → Option String
  | .non => some "NoneType"
  | .bl _ => some "bool"
  | .int _ => some "int"
  | .str _ => some "str"
  | .tup _ => some "tuple"
  | .lst _ => some "list"
  | .dct _ _ => some "dict"
  | .ref n => match h[n]? with
    | some (.lst _) => some "list"
    | some (.dct _ _) => some "dict"
    | none => none
  | _ => none
def isaT (t c : String) : Option Bool :=
  if c = "int" then some (t = "int" || t = "bool")
  else if c = "bool" ∨ c = "str" ∨ c = "tuple" ∨ c = "list" ∨ c = "dict" then some (decide (t = c)) else none
def isaI : G2 := fun x y h => match y with
  | .ty c => match tyName h x with
    | some t => match isaT t c with
      | some b => .ok (.bl b) h
      | none => .no
    | none => .no
  | _ => .no
theorem isaT_kit {K : PySem.W.Frag} {t c : String} {b : Bool} (ht : t ∈ ["NoneType", "bool", "int", "str", "tuple", "list", "dict"]) (h : isaT t c = some b) : PySem.W.kitOne K (.type t) (.type c) = some b := by
  refine kit_ty ?_
  have hc : c = "int" ∨ c = "bool" ∨ c = "str" ∨ c = "tuple" ∨ c = "list" ∨ c = "dict" := by
    unfold isaT at h
    by_cases c1 : c = "int"
    · exact .inl c1
    · rw [if_neg c1] at h
      by_cases c2 : c = "bool" ∨ c = "str" ∨ c = "tuple" ∨ c = "list" ∨ c = "dict"
      · exact .inr c2
      · rw [if_neg c2] at h; cases h
  have ht' : t = "NoneType" ∨ t = "bool" ∨ t = "int" ∨ t = "str" ∨ t = "tuple" ∨ t = "list" ∨ t = "dict" := by simpa using ht
  have key : ∀ t c : String, t = "NoneType" ∨ t = "bool" ∨ t = "int" ∨ t = "str" ∨ t = "tuple" ∨ t = "list" ∨ t = "dict" → c = "int" ∨ c = "bool" ∨ c = "str" ∨ c = "tuple" ∨ c = "list" ∨ c = "dict" → kitB t c = isaT t c := by
    intro t c ht hc
    rcases ht with rfl | rfl | rfl | rfl | rfl | rfl | rfl <;> rcases hc with rfl | rfl | rfl | rfl | rfl | rfl <;> decide +kernel
  rw [key t c ht' hc, h]
theorem tyName_kit {φ : List Addr} {H : Hp} {h : IH} (s : SR P φ H h) {x : IV} {v : V} {t : String} (r : VR P φ H x v) (e : tyName h x = some t) {pins : List (Addr × Obj)} {s0 : Shared} {σ : L2.St} {u : Value} (I : Inv X pins σ H s0) (hK : X.K = P.K) (rx : L2.RelV v u) :
    t ∈ ["NoneType", "bool", "int", "str", "tuple", "list", "dict"] ∧ ∃ Pr : Heap → Prop, PySem.W.KitX X.K u (.type t) Pr ∧ Pr s0.heap ∧ u ≠ .builtin "__main__.__loader__#opaque" := by
  have lst : ∀ {a : Addr} {vs : List V}, v = .ref a → SqL X.K H a vs → ∃ Pr : Heap → Prop, PySem.W.KitX X.K u (.type "list") Pr ∧ Pr s0.heap ∧ u ≠ .builtin "__main__.__loader__#opaque" := fun {a vs} e q => by
    subst e; cases rx
    obtain ⟨its, _, pl, _⟩ := I.list q
    obtain ⟨o, ho, hc, _⟩ := pl.isList
    exact ⟨_, PySem.W.kitx_list, ⟨o, ho, hc⟩, fun z => nomatch z⟩
  have dct : ∀ {a : Addr} {o : Obj} {es : Raw}, v = .ref a → H a = some (DctO a o es) → ∃ Pr : Heap → Prop, PySem.W.KitX X.K u (.type "dict") Pr ∧ Pr s0.heap ∧ u ≠ .builtin "__main__.__loader__#opaque" := fun {a o es} e q => by
    subst e; cases rx
    have z : ObjOk X.prog X.w H s0.heap a (DctO a o es) := I.hok a _ q
    obtain ⟨⟨h1, _, _, h2, _⟩, _⟩ := z
    exact ⟨_, PySem.W.kitx_dict, ⟨o, h1, h2.1⟩, fun z => nomatch z⟩
  cases x with
  | non => simp only [tyName] at e; cases e; rw [VR] at r; subst r; cases (show u = Value.none from rx); exact ⟨by simp, _, PySem.W.kitx_none, True.intro, fun z => nomatch z⟩
  | bl b => simp only [tyName] at e; cases e; rw [VR] at r; subst r; cases (show u = Value.bool b from rx); exact ⟨by simp, _, PySem.W.kitx_bool, True.intro, fun z => nomatch z⟩
  | int b => simp only [tyName] at e; cases e; rw [VR] at r; subst r; obtain ⟨t, q⟩ := (show ∃ t, u = Value.int b t from rx); cases q; exact ⟨by simp, _, PySem.W.kitx_int, True.intro, fun z => nomatch z⟩
  | str b => simp only [tyName] at e; cases e; rw [VR] at r; subst r; obtain ⟨t, q⟩ := (show ∃ t, u = Value.str b t from rx); cases q; exact ⟨by simp, _, PySem.W.kitx_str, True.intro, fun z => nomatch z⟩
  | tup xs =>
    simp only [tyName] at e; cases e
    obtain ⟨a, vs, rfl, q, _⟩ := r.tupI
    cases rx
    obtain ⟨its, _, ⟨o, ho, hc, _⟩, _⟩ := I.tuple (by rw [hK]; exact q)
    exact ⟨by simp, _, PySem.W.kitx_tuple, ⟨o, ho, hc⟩, fun z => nomatch z⟩
  | lst xs =>
    simp only [tyName] at e; cases e
    obtain ⟨a, vs, h1, h2, _⟩ := s.lsO r (xs := xs) rfl
    exact ⟨by simp, lst h1 (.of h2)⟩
  | dct ks us =>
    simp only [tyName] at e; cases e
    rw [VR] at r
    obtain ⟨a, o, es, h1, h2, _⟩ := r
    exact ⟨by simp, dct h1 h2⟩
  | ref n =>
    simp only [tyName] at e
    split at e
    · rename_i xs q; cases e
      obtain ⟨a, vs, _, h1, h2, _⟩ := s.lst r q
      exact ⟨by simp, lst h1 (.of h2)⟩
    · rename_i ks us q; cases e
      rw [VR] at r
      obtain ⟨a, h1, h2⟩ := r
      obtain ⟨o, es, h3, _⟩ := s.obj n _ a q h1
      exact ⟨by simp, dct h2 h3⟩
    · cases e
  | _ => simp only [tyName] at e; cases e

def truB (h : IH) : IV → Option Bool
  | .non => some false
  | .bl b => some b
  | .int i => some (i != 0)
  | .str x => if x.length ≤ sizeLine then some ((x.length : Int) != 0) else none
  | .tup xs => some (!xs.isEmpty)
  | .dct _ _ => none
  | x => match lsR h x with
    | some xs => some (!xs.isEmpty)
    | none => none
theorem isEmpty_rs {φ : List Addr} {H : Hp} {xs : List IV} {vs : List V} (r : VRs P φ H xs vs) : vs.isEmpty = xs.isEmpty := by
  have := r.length
  cases xs <;> cases vs <;> simp_all
theorem truB_ok {φ : List Addr} {H : Hp} {h : IH} (hK : X.K = P.K) (s : SR P φ H h) {x : IV} {v : V} {b : Bool} (r : VR P φ H x v) (e : truB h x = some b) : TruV X.K v H b := by
  have ls : ∀ xs, EV.lsR h x = some xs → TruV X.K v H (!xs.isEmpty) := fun xs e => by
    obtain ⟨a, vs, rfl, h1, h2⟩ := s.lsR r e
    exact .inl ⟨vs, by rw [hK]; exact h1, by rw [isEmpty_rs h2]⟩
  cases x with
  | non => simp only [truB] at e; cases e; rw [VR] at r; subst r; rfl
  | bl b => simp only [truB] at e; cases e; rw [VR] at r; subst r; rfl
  | int b => simp only [truB] at e; cases e; rw [VR] at r; subst r; rfl
  | str b =>
    simp only [truB] at e
    split at e
    · rename_i z; cases e; rw [VR] at r; subst r; exact ⟨z, rfl⟩
    · cases e
  | tup xs =>
    simp only [truB] at e; cases e
    obtain ⟨a, vs, rfl, q, r1⟩ := r.tupI
    exact .inr (.inl ⟨vs, by rw [hK]; exact q, by rw [isEmpty_rs r1]⟩)
  | dct ks us => simp only [truB] at e; cases e
  | _ =>
    simp only [truB] at e
    split at e
    · cases e; exact ls _ (by assumption)
    · cases e
end
end EV
namespace EV
open PySem PySem.Spec PyProof.Rows L2

section
variable {P : Par} {W : WX} {σ : L2.St} {H : Hp}
theorem Post.mono {φ : List Addr} {Q Q' : VK} {o : Out IV} (p : Post P W σ φ H Q o) (h : ∀ x H1, Q x H1 → Q' x H1) : Post P W σ φ H Q' o := by
  cases o with
  | ok v h' => exact fun φ' H' x e s r => h _ _ (p φ' H' x e s r)
  | ex v h' => exact p
  | no => exact p
theorem PostA.mono {φ : List Addr} {Q Q' : List V → Hp → Prop} {o : Out (List IV)} (p : PostA P W σ φ H Q o) (h : ∀ x H1, Q x H1 → Q' x H1) : PostA P W σ φ H Q' o := by
  cases o with
  | ok v h' => exact fun φ' H' x e s r => h _ _ (p φ' H' x e s r)
  | ex v h' => exact p
  | no => exact p
theorem PostB.mono {φ : List Addr} {Q Q' : Bool → Hp → Prop} {o : Out Bool} (p : PostB P W σ φ H Q o) (h : ∀ x H1, Q x H1 → Q' x H1) : PostB P W σ φ H Q' o := by
  cases o with
  | ok v h' => exact fun φ' H' e s => h _ _ (p φ' H' e s)
  | ex v h' => exact p
  | no => exact p
theorem tE.mono {f : IE → M IV} {Q Q' : VK} (t : tE P W f σ H Q) (h : ∀ x H1, Q x H1 → Q' x H1) : tE P W f σ H Q' := by
  obtain ⟨φ, hp, σi, s, se, p⟩ := t
  exact ⟨φ, hp, σi, s, se, p.mono h⟩
theorem tAr.mono {f : IE → M (List IV)} {Q Q' : List V → Hp → Prop} (t : tAr P W f σ H Q) (h : ∀ x H1, Q x H1 → Q' x H1) : tAr P W f σ H Q' := by
  obtain ⟨φ, hp, σi, s, se, p⟩ := t
  exact ⟨φ, hp, σi, s, se, p.mono h⟩
theorem tT.mono {f : IE → M Bool} {Q Q' : Bool → Hp → Prop} (t : tT P W f σ H Q) (h : ∀ x H1, Q x H1 → Q' x H1) : tT P W f σ H Q' := by
  obtain ⟨φ, hp, σi, s, se, p⟩ := t
  exact ⟨φ, hp, σi, s, se, p.mono h⟩
theorem tAr.bindA {fa : IE → M (List IV)} {k : IE → List IV → M (List IV)} {Q : List V → Hp → Prop} (h : tAr P W (fun σ h => (fa σ h).bind (k σ)) σ H Q) :
    tAr P W fa σ H fun x H1 => ∃ φ h σi v, SR P φ H1 h ∧ SE P φ H1 σi σ ∧ VRs P φ H1 v x ∧ PostA P W σ φ H1 Q (k σi v h) := by
  obtain ⟨φ, hp, σi, s, se, p⟩ := h
  refine ⟨φ, hp, σi, s, se, ?_⟩
  cases e : fa σi hp with
  | ok v h1 =>
    simp only [e, Out.bind] at p
    exact fun φ' H' x ex s' r => ⟨φ', h1, σi, v, s', se.mono ex, r, p.ext ex⟩
  | ex v h1 =>
    simp only [e, Out.bind] at p
    exact p
  | no =>
    simp only [e, Out.bind] at p
    exact p
end

section
variable {X : Cx} {P : Par} {W : WX} {a b c : Expr} {fa fb fc : IE → M IV} {ta tb : IE → M Bool} {pos : Pos} {es : List Expr} {fs : IE → M (List IV)}
def boolM : IV → M Bool := fun v h => match v with
  | .bl b => .ok b h
  | _ => .no
def truM : IV → M Bool := fun v h => match truB h v with
  | some b => .ok b h
  | none => .no
theorem boolM_ok {φ : List Addr} {σ : L2.St} {H : Hp} {h : IH} {v : IV} {x : V} {Q : Bool → Hp → Prop} (s : SR P φ H h) (r : VR P φ H v x) (p : PostB P W σ φ H Q (boolM v h)) : ∃ k, x = .bl k ∧ Q k H := by
  unfold boolM at p
  split at p
  · rw [VR] at r; exact ⟨_, r, p.ret s⟩
  · exact p.elim
theorem truM_ok {φ : List Addr} {σ : L2.St} {H : Hp} {h : IH} {v : IV} {x : V} {Q : Bool → Hp → Prop} (hK : X.K = P.K) (s : SR P φ H h) (r : VR P φ H v x) (p : PostB P W σ φ H Q (truM v h)) : ∃ k, TruV X.K x H k ∧ Q k H := by
  unfold truM at p
  split at p
  · rename_i b e
    exact ⟨b, truB_ok hK s r e, p.ret s⟩
  · exact p.elim
def cmpT (g : G2) (fa fb : IE → M IV) : IE → M Bool := fun σ h => (binE g fa fb σ h).bind boolM
def truT (fa : IE → M IV) : IE → M Bool := fun σ h => (fa σ h).bind truM
theorem pt_cmpI {op : CmpOp} {g : G2} (ho : OpR X (compareOp op) (rG P W g)) (ha : PE X a (tE P W fa)) (hb : PE X b (tE P W fb)) (hm : behindInMarks op b = false) : PT X (.Compare a [op] [b] pos) (tT P W (cmpT g fa fb)) :=
  PT.weak (pt_cmpR ho ha hb hm) fun σ H Q hq => by
    have q1 := tT.bindE (k := fun _ => boolM) hq
    exact tOp_of (q1.mono fun x H1 ⟨φ, h, σi, v, s, _, r, p⟩ => boolM_ok s r p)
theorem pt_truI (hK : X.K = P.K) (ha : PE X a (tE P W fa)) (he : ∀ whole, isTrue a X.env whole = (do let v ← whole; standAt a.pos; holding [v] (truthy v))) : PT X a (tT P W (truT fa)) :=
  PT.weak (pt_truth ha he) fun σ H Q hq => by
    have q1 := tT.bindE (k := fun _ => truM) hq
    exact q1.mono fun x H1 ⟨φ, h, σi, v, s, _, r, p⟩ => truM_ok hK s r p
def notT (ta : IE → M Bool) : IE → M Bool := fun σ h => (ta σ h).bind fun b h => .ok (!b) h
def andT (ta tb : IE → M Bool) : IE → M Bool := fun σ h => (ta σ h).bind fun b h => if b = true then tb σ h else .ok false h
def orT (ta tb : IE → M Bool) : IE → M Bool := fun σ h => (ta σ h).bind fun b h => if b = true then .ok true h else tb σ h
theorem pt_notI (ha : PT X a (tT P W ta)) : PT X (.UnaryOp .Not a pos) (tT P W (notT ta)) := PT.weak (pt_not ha) fun σ H Q hq => by
  have q1 := tT.bindT (k := fun _ b h => .ok (!b) h) hq
  exact q1.mono fun x H1 ⟨φ, h, σi, s, _, p⟩ => p.ret s
theorem pw_andI {rest : List Expr} (ha : PT X a (tT P W ta)) (hb : PW X (.BoolOp .And (b :: rest) pos) (tT P W tb)) : PW X (.BoolOp .And (a :: b :: rest) pos) (tT P W (andT ta tb)) :=
  ⟨fun wh pins s σ H Q I hq => (pw_and ha hb).run wh pins s σ H Q I (by
    have q1 := tT.bindT (k := fun σ b h => if b = true then tb σ h else .ok false h) hq
    refine q1.mono fun x H1 ⟨φ, h, σi, s, se, p⟩ => ?_
    cases x with
    | true => rw [if_pos rfl] at p ⊢; exact ⟨φ, h, σi, s, se, p⟩
    | false => rw [if_neg Bool.false_ne_true] at p ⊢; exact p.ret s)⟩
theorem pw_orI {rest : List Expr} (ha : PT X a (tT P W ta)) (hb : PW X (.BoolOp .Or (b :: rest) pos) (tT P W tb)) : PW X (.BoolOp .Or (a :: b :: rest) pos) (tT P W (orT ta tb)) :=
  ⟨fun wh pins s σ H Q I hq => (pw_or ha hb).run wh pins s σ H Q I (by
    have q1 := tT.bindT (k := fun σ b h => if b = true then .ok true h else tb σ h) hq
    refine q1.mono fun x H1 ⟨φ, h, σi, s, se, p⟩ => ?_
    cases x with
    | true => rw [if_pos rfl] at p ⊢; exact p.ret s
    | false => rw [if_neg Bool.false_ne_true] at p ⊢; exact ⟨φ, h, σi, s, se, p⟩)⟩
/-- a op1 b op2 c -/
def chnE (g g' : G2) (fa fb fc : IE → M IV) : IE → M IV := fun σ h => (fa σ h).bind fun va h => (fb σ h).bind fun vb h => (g va vb h).bind fun z h => match z with
  | .bl true => (fc σ h).bind fun vc h => g' vb vc h
  | .bl false => .ok (.bl false) h
  | _ => .no
theorem tChain_of {g g' : G2} {σ : L2.St} {H : Hp} {Q : VK} (hq : tE P W (chnE g g' fa fb fc) σ H Q) : tChain (rG P W g) (rG P W g') (tE P W fa) (tE P W fb) (tE P W fc) σ H Q := by
  have q1 := tE.bind (k := fun σ va h => (fb σ h).bind fun vb h => (g va vb h).bind fun z h => match z with
    | .bl true => (fc σ h).bind fun vc h => g' vb vc h
    | .bl false => .ok (.bl false) h
    | _ => .no) hq
  refine q1.mono fun x H1 ⟨φ, h, σi, va, s, se, r, p⟩ => ?_
  -- the value of a stands on: it is carried as a name beside
  have q2 : tE P W fb σ H1 fun y H2 => ∃ φ h σi vb, SR P φ H2 h ∧ SE P φ H2 σi σ ∧ VR P φ H2 va x ∧ VR P φ H2 vb y ∧ Post P W σ φ H2 Q ((g va vb h).bind fun z h => match z with
      | .bl true => (fc σi h).bind fun vc h => g' vb vc h
      | .bl false => .ok (.bl false) h
      | _ => .no) := by
    refine ⟨φ, h, σi, s, se, ?_⟩
    cases e : fb σi h with
    | ok v h1 =>
      simp only [e, Out.bind] at p
      exact fun φ' H' y ex s' r' => ⟨φ', h1, σi, v, s', se.mono ex, r.mono ex, r', p.ext ex⟩
    | ex v h1 => simp only [e, Out.bind] at p; exact p
    | no => simp only [e, Out.bind] at p; exact p
  refine q2.mono fun y H2 ⟨φ, h, σi, vb, s, se, ra, rb, p⟩ => ?_
  refine ⟨φ, h, σ, va, vb, s, ra, rb, ?_⟩
  cases e : g va vb h with
  | ok z h1 =>
    simp only [e, Out.bind] at p
    intro φ' H3 z' ex s' rz
    have p' := p.ext ex
    split at p'
    · rw [VR] at rz
      refine ⟨true, rz, ?_⟩
      rw [if_pos rfl]
      refine ⟨φ', h1, σi, s', se.mono ex, ?_⟩
      cases e2 : fc σi h1 with
      | ok u h3 =>
        simp only [e2, Out.bind] at p'
        exact fun φ3 H4 w ex3 s3 r3 => ⟨φ3, h3, σ, vb, u, s3, (rb.mono ex).mono ex3, r3, p'.ext ex3⟩
      | ex u h3 => simp only [e2, Out.bind] at p'; exact p'
      | no => simp only [e2, Out.bind] at p'; exact p'
    · rw [VR] at rz
      refine ⟨false, rz, ?_⟩
      rw [if_neg Bool.false_ne_true]
      exact p'.ret s' (by rw [VR])
    · exact p'.elim
  | ex z h1 => simp only [e, Out.bind] at p; exact p
  | no => simp only [e, Out.bind] at p; exact p
theorem pe_chnI {op op' : CmpOp} {g g' : G2} (ho : OpR X (compareOp op) (rG P W g)) (ho' : OpR X (compareOp op') (rG P W g')) (ha : PE X a (tE P W fa)) (hb : PE X b (tE P W fb)) (hc : PE X c (tE P W fc)) (hm : lastMarks [op, op'] [b, c] = false) :
    PE X (.Compare a [op, op'] [b, c] pos) (tE P W (chnE g g' fa fb fc)) := PE.weak (pe_chain ho ho' ha hb hc hm) fun _ _ _ hq => tChain_of hq
theorem pt_chnI {op op' : CmpOp} {g g' : G2} (ho : OpR X (compareOp op) (rG P W g)) (ho' : OpR X (compareOp op') (rG P W g')) (ha : PE X a (tE P W fa)) (hb : PE X b (tE P W fb)) (hc : PE X c (tE P W fc)) (hm : lastMarks [op, op'] [b, c] = false) :
    PT X (.Compare a [op, op'] [b, c] pos) (tT P W fun σ h => (chnE g g' fa fb fc σ h).bind boolM) := PT.weak (pt_chain ho ho' ha hb hc hm) fun σ H Q hq => by
  have q1 := tT.bindE (k := fun _ => boolM) hq
  exact tChain_of (q1.mono fun x H1 ⟨φ, h, σi, v, s, _, r, p⟩ => boolM_ok s r p)
def andE (fa fb : IE → M IV) : IE → M IV := fun σ h => (fa σ h).bind fun v h => match truB h v with
  | some true => fb σ h
  | some false => .ok v h
  | none => .no
def orE (fa fb : IE → M IV) : IE → M IV := fun σ h => (fa σ h).bind fun v h => match truB h v with
  | some true => .ok v h
  | some false => fb σ h
  | none => .no
def notE (fa : IE → M IV) : IE → M IV := fun σ h => (fa σ h).bind fun v h => match truB h v with
  | some b => .ok (.bl (!b)) h
  | none => .no
def iteE (ta : IE → M Bool) (fa fb : IE → M IV) : IE → M IV := fun σ h => (ta σ h).bind fun b h => if b = true then fa σ h else fb σ h
theorem pe_andI {rest : List Expr} (hK : X.K = P.K) (ha : PE X a (tE P W fa)) (hb : PE X (.BoolOp .And (b :: rest) pos) (tE P W fb)) : PE X (.BoolOp .And (a :: b :: rest) pos) (tE P W (andE fa fb)) := PE.weak (pe_andT ha hb) fun σ H Q hq => by
  have q1 := tE.bind (k := fun σ v h => match truB h v with
    | some true => fb σ h
    | some false => .ok v h
    | none => .no) hq
  refine q1.mono fun x H1 ⟨φ, h, σi, v, s, se, r, p⟩ => ?_
  split at p
  · rename_i e
    exact ⟨true, truB_ok hK s r e, by rw [if_pos rfl]; exact ⟨φ, h, σi, s, se, p⟩⟩
  · rename_i e
    exact ⟨false, truB_ok hK s r e, by rw [if_neg Bool.false_ne_true]; exact p.ret s r⟩
  · exact p.elim
theorem pe_orI {rest : List Expr} (hK : X.K = P.K) (ha : PE X a (tE P W fa)) (hb : PE X (.BoolOp .Or (b :: rest) pos) (tE P W fb)) : PE X (.BoolOp .Or (a :: b :: rest) pos) (tE P W (orE fa fb)) := PE.weak (pe_orT ha hb) fun σ H Q hq => by
  have q1 := tE.bind (k := fun σ v h => match truB h v with
    | some true => .ok v h
    | some false => fb σ h
    | none => .no) hq
  refine q1.mono fun x H1 ⟨φ, h, σi, v, s, se, r, p⟩ => ?_
  split at p
  · rename_i e
    exact ⟨true, truB_ok hK s r e, by rw [if_pos rfl]; exact p.ret s r⟩
  · rename_i e
    exact ⟨false, truB_ok hK s r e, by rw [if_neg Bool.false_ne_true]; exact ⟨φ, h, σi, s, se, p⟩⟩
  · exact p.elim
theorem pe_notI (hK : X.K = P.K) (ha : PE X a (tE P W fa)) : PE X (.UnaryOp .Not a pos) (tE P W (notE fa)) := PE.weak (pe_notT ha) fun σ H Q hq => by
  have q1 := tE.bind (k := fun _ v h => match truB h v with
    | some b => .ok (.bl (!b)) h
    | none => .no) hq
  refine q1.mono fun x H1 ⟨φ, h, σi, v, s, se, r, p⟩ => ?_
  split at p
  · rename_i b e
    exact ⟨b, truB_ok hK s r e, p.ret s (by rw [VR])⟩
  · exact p.elim
theorem pe_iteI (hc : PT X c (tT P W ta)) (ha : PE X a (tE P W fa)) (hb : PE X b (tE P W fb)) : PE X (.IfExp c a b pos) (tE P W (iteE ta fa fb)) := PE.weak (pe_ifExp hc ha hb) fun σ H Q hq => by
  have q1 := tE.bindT (k := fun σ b h => if b = true then fa σ h else fb σ h) hq
  refine q1.mono fun x H1 ⟨φ, h, σi, s, se, p⟩ => ?_
  cases x with
  | true => rw [if_pos rfl] at p ⊢; exact ⟨φ, h, σi, s, se, p⟩
  | false => rw [if_neg Bool.false_ne_true] at p ⊢; exact ⟨φ, h, σi, s, se, p⟩

def nilA : IE → M (List IV) := fun _ h => .ok [] h
def consA (fa : IE → M IV) (fs : IE → M (List IV)) : IE → M (List IV) := fun σ h => (fa σ h).bind fun v h => (fs σ h).bind fun vs h => .ok (v :: vs) h
/-- the items of what is starred -/
def itemsOf (h : IH) : IV → Option (List IV)
  | .tup xs => some xs
  | v => lsR h v
def starA (fa : IE → M IV) (fs : IE → M (List IV)) : IE → M (List IV) := fun σ h => (fa σ h).bind fun v h => match itemsOf h v with
  | some xs => (fs σ h).bind fun vs h => .ok (xs ++ vs) h
  | none => .no
theorem pa_nilI : PA X [] (tAr P W nilA) := PA.weak pa_nil fun σ H Q hq => by
  obtain ⟨φ, h, σi, s, se, p⟩ := hq
  exact p.ret s .nil
theorem pa_consI (ha : PE X a (tE P W fa)) (hr : PA X es (tAr P W fs)) (hs : starEach (a :: es) X.env = (false, eval a X.env) :: starEach es X.env) : PA X (a :: es) (tAr P W (consA fa fs)) := PA.weak (pa_cons ha hr hs) fun σ H Q hq => by
  have q1 := tAr.bindE (k := fun σ v h => (fs σ h).bind fun vs h => .ok (v :: vs) h) hq
  refine q1.mono fun x H1 ⟨φ, h, σi, v, s, se, r, p⟩ => ?_
  refine ⟨φ, h, σi, s, se, ?_⟩
  cases e : fs σi h with
  | ok u h1 =>
    simp only [e, Out.bind] at p
    exact fun φ' H' y ex s' r' => (p.ext ex).ret s' (.cons (r.mono ex) r')
  | ex v h1 => simp only [e, Out.bind] at p; exact p
  | no => simp only [e, Out.bind] at p; exact p
theorem pa_starI {p0 : Pos} (hK : X.K = P.K) (ha : PE X a (tE P W fa)) (hr : PA X es (tAr P W fs)) : PA X (.Starred a p0 :: es) (tAr P W (starA fa fs)) := PA.weak (StX.pa_star ha hr) fun σ H Q hq => by
  have q1 := tAr.bindE (k := fun σ v h => match itemsOf h v with
    | some xs => (fs σ h).bind fun vs h => .ok (xs ++ vs) h
    | none => .no) hq
  refine q1.mono fun x H1 ⟨φ, h, σi, v, s, se, r, p⟩ => ?_
  have fin : ∀ (xs : List IV) (us : List V), VRs P φ H1 xs us → PostA P W σ φ H1 Q ((fs σi h).bind fun vs h => .ok (xs ++ vs) h) → tAr P W fs σ H1 fun ys H2 => Q (us ++ ys) H2 := fun xs us r p => by
    refine ⟨φ, h, σi, s, se, ?_⟩
    cases e : fs σi h with
    | ok u h1 =>
      simp only [e, Out.bind] at p
      exact fun φ' H' y ex s' r' => (p.ext ex).ret s' ((r.mono ex).append r')
    | ex v h1 => simp only [e, Out.bind] at p; exact p
    | no => simp only [e, Out.bind] at p; exact p
  unfold itemsOf at p
  split at p
  · rename_i xs e
    split at e
    · cases e
      obtain ⟨b, vs, rfl, h1, r1⟩ := r.tupI
      exact ⟨b, vs, rfl, .inl (by rw [hK]; exact h1), fin _ _ r1 p⟩
    · obtain ⟨b, vs, rfl, h1, r1⟩ := s.lsR r e
      exact ⟨b, vs, rfl, .inr (by rw [hK]; exact h1), fin _ _ r1 p⟩
  · exact p.elim
def tupE (fs : IE → M (List IV)) : IE → M IV := fun σ h => (fs σ h).bind fun xs h => if xs.length ≤ sizeLine then .ok (.tup xs) h else .no
theorem pe_tupI {k : Nat} (hs : PA X es (tAr P W fs)) : PE X (.Tuple es k pos) (tE P W (tupE fs)) := PE.weak (pe_tup hs) fun σ H Q hq => by
  have q1 := tE.bindA (k := fun _ xs h => if xs.length ≤ sizeLine then .ok (.tup xs) h else .no) hq
  refine q1.mono fun x H1 ⟨φ, h, σi, v, s, se, r, p⟩ => ?_
  split at p
  · rename_i z
    exact ⟨by rw [r.length]; exact z, fun t ht => p.newTup s r ht⟩
  · exact p.elim

def PostL (P : Par) (W : WX) (σ : L2.St) (φ : List Addr) (H : Hp) (Q : VK) : Out (List IV) → Prop
  | .ok xs h' => ∀ φ' H' p vs, Ext φ H φ' H' → SR P φ' H' h' → VRs P φ' H' xs vs → H' p = none → Q (.ref p) (upd H' p (.lst vs))
  | .ex e h' => ∀ φ' H' c d, Ext φ H φ' H' → SR P φ' H' h' → XR P φ' H' e c d → W c d σ H'
  | .no => False
/-- the reading of a maker of new lists -/
def tL (P : Par) (W : WX) (f : IE → M (List IV)) : TE := fun σ H Q => ∃ φ h σi, SR P φ H h ∧ SE P φ H σi σ ∧ PostL P W σ φ H Q (f σi h)
def lstE (f : IE → M (List IV)) : IE → M IV := fun σ h => (f σ h).bind fun xs h => .ok (.lst xs) h
def refE (f : IE → M (List IV)) : IE → M IV := fun σ h => (f σ h).bind fun xs h => .ok (.ref h.length) (h ++ [.lst xs])
theorem pe_lstOf (hp : PE X a (tL P W fs)) : PE X a (tE P W (lstE fs)) := PE.weak hp fun σ H Q hq => by
  obtain ⟨φ, h, σi, s, se, p⟩ := hq
  refine ⟨φ, h, σi, s, se, ?_⟩
  unfold lstE at p
  cases e : fs σi h with
  | ok u h1 =>
    simp only [e, Out.bind] at p
    exact fun φ' H' t vs ex s' r ht => (Post.ext p ex).newLst s' r ht
  | ex v h1 => simp only [e, Out.bind] at p; exact p
  | no => simp only [e, Out.bind] at p; exact p
theorem pe_refOf (hp : PE X a (tL P W fs)) : PE X a (tE P W (refE fs)) := PE.weak hp fun σ H Q hq => by
  obtain ⟨φ, h, σi, s, se, p⟩ := hq
  refine ⟨φ, h, σi, s, se, ?_⟩
  unfold refE at p
  cases e : fs σi h with
  | ok u h1 =>
    simp only [e, Out.bind] at p
    exact fun φ' H' t vs ex s' r ht => (Post.ext p ex).newRef s' r ht
  | ex v h1 => simp only [e, Out.bind] at p; exact p
  | no => simp only [e, Out.bind] at p; exact p
/-- at most so many items -/
def capA (fs : IE → M (List IV)) : IE → M (List IV) := fun σ h => (fs σ h).bind fun xs h => if xs.length ≤ sizeLine then .ok xs h else .no
theorem pl_list (hs : PA X es (tAr P W fs)) : PE X (.List es pos) (tL P W (capA fs)) := PE.weak (pe_lst hs) fun σ H Q hq => by
  obtain ⟨φ, h, σi, s, se, p⟩ := hq
  refine ⟨φ, h, σi, s, se, ?_⟩
  unfold capA at p
  cases e : fs σi h with
  | ok u h1 =>
    simp only [e, Out.bind] at p
    split at p
    · rename_i z
      exact fun φ' H' vs ex s' r => ⟨by rw [r.length]; exact z, fun t ht => p φ' H' t vs ex s' r ht⟩
    · exact p.elim
  | ex v h1 => simp only [e, Out.bind] at p; exact p
  | no => simp only [e, Out.bind] at p; exact p

def subE : G2 := fun x y h => match y with
  | .int i => match x with
    | .tup xs => match atI xs i with
      | some v => .ok v h
      | none => .no
    | .str z => if z.length ≤ sizeLine then match atI z.cps.toList i with
      | some c => .ok (.str ⟨#[c]⟩) h
      | none => .no
      else .no
    | x => match lsR h x with
      | some xs => match atI xs i with
        | some v => .ok v h
        | none => .no
      | none => .no
  | _ => .no
theorem atI_rs {φ : List Addr} {H : Hp} {xs : List IV} {vs : List V} {i : Int} {x : IV} (r : VRs P φ H xs vs) (e : atI xs i = some x) : ∃ v, atI vs i = some v ∧ VR P φ H x v := by
  unfold atI at e ⊢
  rw [r.length]
  cases q : ixN xs.length i with
  | none => rw [q] at e; cases e
  | some j =>
    rw [q] at e
    exact r.get e
theorem IxR.weak {r r' : R2} (h : IxR X r) (k : ∀ x y H Q, r' x y H Q → r x y H Q) : IxR X r' :=
  fun value slice pins s σ H x y v u Q I rx ry q => h value slice pins s σ H x y v u Q I rx ry (k x y H Q q)
theorem ix_subI (hK : X.K = P.K) : IxR X (rG P W subE) := IxR.weak ix_seq fun x y H Q q => by
  obtain ⟨φ, h, σ, va, vb, s, ra, rb, p⟩ := q
  unfold subE at p
  split at p
  · rename_i i
    rw [VR] at rb; subst rb
    split at p
    · rename_i xs
      split at p
      · rename_i v e
        obtain ⟨a, vs, rfl, h1, r1⟩ := ra.tupI
        obtain ⟨u, e1, r2⟩ := atI_rs r1 e
        exact .inr (.inl ⟨a, vs, i, u, rfl, rfl, by rw [hK]; exact h1, e1, p.ret s r2⟩)
      · exact p.elim
    · split at p
      · rename_i z
        rw [VR] at ra; subst ra
        split at p
        · rename_i c e
          exact .inr (.inr ⟨_, i, c, rfl, rfl, z, e, p.ret s (by rw [VR])⟩)
        · exact p.elim
      · exact p.elim
    · split at p
      · rename_i xs e
        split at p
        · rename_i v e1
          obtain ⟨a, vs, rfl, h1, r1⟩ := s.lsR ra e
          obtain ⟨u, e2, r2⟩ := atI_rs r1 e1
          exact .inl ⟨a, vs, i, u, rfl, rfl, by rw [hK]; exact h1, e2, p.ret s r2⟩
        · exact p.elim
      · exact p.elim
  · exact p.elim
theorem pe_subI (hK : X.K = P.K) (ha : PE X a (tE P W fa)) (hb : PE X b (tE P W fb)) (hs : PlainIx b) : PE X (.Subscript a b pos) (tE P W (binE subE fa fb)) := PE.weak (pe_ix (ix_subI hK) ha hb hs) fun _ _ _ hq => tOp_of hq
def cutL {α : Type} (xs : List α) (lo hi : Option Int) : List α := (xs.drop (HT.sIx xs.length 0 lo)).take (HT.sIx xs.length xs.length hi - HT.sIx xs.length 0 lo)
theorem cut_rs {φ : List Addr} {H : Hp} {xs : List IV} {vs : List V} {lo hi : Option Int} (r : VRs P φ H xs vs) : VRs P φ H (cutL xs lo hi) (cutV vs lo hi) := by
  unfold cutL cutV
  rw [r.length]
  exact (r.drop _).take _
def PostO (P : Par) (W : WX) (σ : L2.St) (φ : List Addr) (H : Hp) (Q : Option Int → Hp → Prop) : Out (Option Int) → Prop
  | .ok v h' => ∀ φ' H', Ext φ H φ' H' → SR P φ' H' h' → Q v H'
  | .ex e h' => ∀ φ' H' c d, Ext φ H φ' H' → SR P φ' H' h' → XR P φ' H' e c d → W c d σ H'
  | .no => False
theorem PostO.ext {φ φ1 : List Addr} {H H1 : Hp} {σ : L2.St} {Q : Option Int → Hp → Prop} {o : Out (Option Int)} (p : PostO P W σ φ H Q o) (e : Ext φ H φ1 H1) : PostO P W σ φ1 H1 Q o := by
  cases o with
  | ok v h => exact fun φ' H' e' => p φ' H' (e.trans e')
  | ex v h => exact fun φ' H' c d e' => p φ' H' c d (e.trans e')
  | no => exact p
def tO (P : Par) (W : WX) (f : IE → M (Option Int)) : TO := fun σ H Q => ∃ φ h σi, SR P φ H h ∧ SE P φ H σi σ ∧ PostO P W σ φ H Q (f σi h)
def noneO : IE → M (Option Int) := fun _ h => .ok none h
def intM : IV → M (Option Int) := fun v h => match v with
  | .int i => .ok (some i) h
  | _ => .no
def someO (fa : IE → M IV) : IE → M (Option Int) := fun σ h => (fa σ h).bind intM
theorem PO.weak {e : Option Expr} {t t' : TO} (h : PO X e t) (k : ∀ σ H Q, t' σ H Q → t σ H Q) : PO X e t' := ⟨fun pins s σ H Q I hw => h.run pins s σ H Q I (k σ H Q hw)⟩
theorem po_noneI : PO X none (tO P W noneO) := PO.weak po_none fun σ H Q hq => by
  obtain ⟨φ, h, σi, s, se, p⟩ := hq
  exact p φ H (Ext.refl _ _) s
theorem po_someI (ha : PE X a (tE P W fa)) : PO X (some a) (tO P W (someO fa)) := PO.weak (po_some ha) fun σ H Q hq => by
  obtain ⟨φ, h, σi, s, se, p⟩ := hq
  refine ⟨φ, h, σi, s, se, ?_⟩
  unfold someO at p
  cases e : fa σi h with
  | ok u h1 =>
    simp only [e, Out.bind, intM] at p
    split at p
    · intro φ' H' x ex s' r
      rw [VR] at r
      exact ⟨_, r, p φ' H' ex s'⟩
    · exact p.elim
  | ex v h1 => simp only [e, Out.bind] at p; exact p
  | no => simp only [e, Out.bind] at p; exact p
def cutE (lo hi : Option Int) : IV → M IV := fun x h => match x with
  | .tup xs => .ok (.tup (cutL xs lo hi)) h
  | .str z => if z.length ≤ sizeLine then .ok (.str (cutS z lo hi)) h else .no
  | x => match lsR h x with
    | some xs => .ok (.lst (cutL xs lo hi)) h
    | none => .no
def sliE (fa : IE → M IV) (fl fu : IE → M (Option Int)) : IE → M IV := fun σ h => (fa σ h).bind fun va h => (fl σ h).bind fun lo h => (fu σ h).bind fun hi h => cutE lo hi va h
theorem cutL_all {α : Type} {xs : List α} {lo hi : Option Int} (h : HT.sIx xs.length 0 lo = 0 ∧ HT.sIx xs.length xs.length hi = xs.length) : cutL xs lo hi = xs := by
  unfold cutL
  rw [h.1, h.2]
  simp
theorem SlR.weak {r r' : V → Option Int → Option Int → Hp → VK → Prop} (h : SlR X r) (k : ∀ x lo hi H Q, r' x lo hi H Q → r x lo hi H Q) : SlR X r' :=
  fun pins s σ H x v vl vu lo hi sl Q I rx hs pl pu q => h pins s σ H x v vl vu lo hi sl Q I rx hs pl pu (k x lo hi H Q q)
def rCut (P : Par) (W : WX) : V → Option Int → Option Int → Hp → VK → Prop := fun x lo hi H Q => ∃ φ h σ v, SR P φ H h ∧ VR P φ H v x ∧ Post P W σ φ H Q (cutE lo hi v h)
theorem sl_cutI (hK : X.K = P.K) : SlR X (rCut P W) := SlR.weak ((sl_list (X := X)).or ((sl_tupA (X := X)).or sl_str)) fun x lo hi H Q q => by
  obtain ⟨φ, h, σ, v, s, r, p⟩ := q
  unfold cutE at p
  split at p
  · rename_i xs
    obtain ⟨a, vs, rfl, h1, r1⟩ := r.tupI
    refine .inr (.inl ⟨a, vs, rfl, by rw [hK]; exact h1, fun z => ?_, fun _ t ht => p.newTup s (cut_rs r1) ht⟩)
    rw [r1.length] at z
    rw [cutL_all z] at p
    exact p.ret s r
  · rename_i z0
    split at p
    · rename_i z
      rw [VR] at r; subst r
      exact .inr (.inr ⟨_, rfl, z, p.ret s (by rw [VR])⟩)
    · exact p.elim
  · split at p
    · rename_i xs e
      obtain ⟨a, vs, rfl, h1, r1⟩ := s.lsR r e
      exact .inl ⟨a, vs, rfl, by rw [hK]; exact h1, fun t ht => p.newLst s (cut_rs r1) ht⟩
    · exact p.elim
theorem pe_sliI {lo hi : Option Expr} {p2 : Pos} {fl fu : IE → M (Option Int)} (hK : X.K = P.K) (ha : PE X a (tE P W fa)) (hl : PO X lo (tO P W fl)) (hu : PO X hi (tO P W fu)) : PE X (.Subscript a (.Slice lo hi none p2) pos) (tE P W (sliE fa fl fu)) := PE.weak (pe_slice (sl_cutI hK) ha hl hu) fun σ H Q hq => by
  have q1 := tE.bind (k := fun σ va h => (fl σ h).bind fun lo h => (fu σ h).bind fun hi h => cutE lo hi va h) hq
  refine q1.mono fun x H1 ⟨φ, h, σi, v, s, se, r, p⟩ => ?_
  refine ⟨φ, h, σi, s, se, ?_⟩
  cases e : fl σi h with
  | ok l h1 =>
    simp only [e, Out.bind] at p
    intro φ2 H2 ex s2
    refine ⟨φ2, h1, σi, s2, se.mono ex, ?_⟩
    cases e2 : fu σi h1 with
    | ok u h2 =>
      simp only [e2] at p
      exact fun φ3 H3 ex3 s3 => ⟨φ3, h2, σ, v, s3, (r.mono ex).mono ex3, (Post.ext p ex).ext ex3⟩
    | ex u h2 => simp only [e2] at p; exact Post.ext p ex
    | no => simp only [e2] at p; exact p
  | ex v h1 => simp only [e, Out.bind] at p; exact p
  | no => simp only [e, Out.bind] at p; exact p
end
end EV
namespace EV
open PySem PySem.Spec PyProof.Rows L2

inductive SOut where
  | nx (σ : IE) (h : IH)
  | rt (v : IV) (h : IH)
  | bk (σ : IE) (h : IH)
  | ct (σ : IE) (h : IH)
  | ex (e : IX) (σ : IE) (h : IH)
  | no
abbrev SM := IE → IH → SOut
/-- an expression's outcome, then what follows -/
def Out.thn {α : Type} (o : Out α) (σ : IE) (k : α → IH → SOut) : SOut := match o with
  | .ok v h => k v h
  | .ex e h => .ex e σ h
  | .no => .no
section
variable (P : Par) (W : WX)
def PostS (φ : List Addr) (H : Hp) (D : Ends) : SOut → Prop
  | .nx σi h' => ∀ φ' H' σ', Ext φ H φ' H' → SR P φ' H' h' → SE P φ' H' σi σ' → D.nx σ' H'
  | .rt v h' => ∀ φ' H' x, Ext φ H φ' H' → SR P φ' H' h' → VR P φ' H' v x → D.rt x H'
  | .bk σi h' => ∀ φ' H' σ', Ext φ H φ' H' → SR P φ' H' h' → SE P φ' H' σi σ' → D.bk σ' H'
  | .ct σi h' => ∀ φ' H' σ', Ext φ H φ' H' → SR P φ' H' h' → SE P φ' H' σi σ' → D.ct σ' H'
  | .ex e σi h' => ∀ φ' H' σ' c d, Ext φ H φ' H' → SR P φ' H' h' → SE P φ' H' σi σ' → XR P φ' H' e c d → W c d σ' H'
  | .no => False
def tS (f : SM) : TS := fun D σ H => ∃ φ h σi, SR P φ H h ∧ SE P φ H σi σ ∧ PostS P W φ H D (f σi h)
/-- a target takes no exception -/
abbrev TM := IV → IE → IH → Option (IE × IH)
abbrev TMs := List IV → IE → IH → Option (IE × IH)
def PostG (φ : List Addr) (H : Hp) (Q : L2.St → Hp → Prop) : Option (IE × IH) → Prop
  | some (σi, h') => ∀ φ' H' σ', Ext φ H φ' H' → SR P φ' H' h' → SE P φ' H' σi σ' → Q σ' H'
  | none => False
/-- a target's reading -/
def tG (f : TM) : TG := fun v σ H Q => ∃ φ h σi iv, SR P φ H h ∧ SE P φ H σi σ ∧ VR P φ H iv v ∧ PostG P φ H Q (f iv σi h)
def tGs (f : TMs) : TGs := fun vs σ H Q => ∃ φ h σi ivs, SR P φ H h ∧ SE P φ H σi σ ∧ VRs P φ H ivs vs ∧ PostG P φ H Q (f ivs σi h)
end
section
variable {P : Par} {W : WX} {φ φ1 : List Addr} {H H1 : Hp}
theorem PostS.ext {D : Ends} {o : SOut} (p : PostS P W φ H D o) (e : Ext φ H φ1 H1) : PostS P W φ1 H1 D o := by
  cases o with
  | nx σi h => exact fun φ' H' σ' e' => p φ' H' σ' (e.trans e')
  | rt σi h => exact fun φ' H' σ' e' => p φ' H' σ' (e.trans e')
  | bk σi h => exact fun φ' H' σ' e' => p φ' H' σ' (e.trans e')
  | ct σi h => exact fun φ' H' σ' e' => p φ' H' σ' (e.trans e')
  | ex x σi h => exact fun φ' H' σ' c d e' => p φ' H' σ' c d (e.trans e')
  | no => exact p
theorem PostG.ext {Q : L2.St → Hp → Prop} {o : Option (IE × IH)} (p : PostG P φ H Q o) (e : Ext φ H φ1 H1) : PostG P φ1 H1 Q o := by
  cases o with
  | some q => exact fun φ' H' σ' e' => p φ' H' σ' (e.trans e')
  | none => exact p
/-- an expression, then what follows: to the reading of the expression -/
theorem Post.thn {D : Ends} {σi : IE} {σ : L2.St} {o : Out IV} {k : IV → IH → SOut} (se : SE P φ H σi σ) (p : PostS P W φ H D (o.thn σi k)) :
    Post P W σ φ H (fun x H1 => ∃ φ1 h1 v, SR P φ1 H1 h1 ∧ SE P φ1 H1 σi σ ∧ VR P φ1 H1 v x ∧ PostS P W φ1 H1 D (k v h1)) o := by
  cases o with
  | ok v h => exact fun φ' H' x e s r => ⟨φ', h, v, s, se.mono e, r, PostS.ext p e⟩
  | ex x h => exact fun φ' H' c d e s r => p φ' H' σ c d e s (se.mono e) r
  | no => exact p
theorem PostB.thn {D : Ends} {σi : IE} {σ : L2.St} {o : Out Bool} {k : Bool → IH → SOut} (se : SE P φ H σi σ) (p : PostS P W φ H D (o.thn σi k)) :
    PostB P W σ φ H (fun x H1 => ∃ φ1 h1, SR P φ1 H1 h1 ∧ SE P φ1 H1 σi σ ∧ PostS P W φ1 H1 D (k x h1)) o := by
  cases o with
  | ok v h => exact fun φ' H' e s => ⟨φ', h, s, se.mono e, PostS.ext p e⟩
  | ex x h => exact fun φ' H' c d e s r => p φ' H' σ c d e s (se.mono e) r
  | no => exact p
def gthn (o : Option (IE × IH)) (k : IE → IH → SOut) : SOut := match o with
  | some (σ, h) => k σ h
  | none => .no
theorem PostG.thn {D : Ends} {o : Option (IE × IH)} {k : IE → IH → SOut} (p : PostS P W φ H D (gthn o k)) :
    PostG P φ H (fun σ' H1 => ∃ φ1 h1 σ2, SR P φ1 H1 h1 ∧ SE P φ1 H1 σ2 σ' ∧ PostS P W φ1 H1 D (k σ2 h1)) o := by
  cases o with
  | some q => exact fun φ' H' σ' e s se => ⟨φ', q.2, q.1, s, se, PostS.ext p e⟩
  | none => exact p
theorem SE.set {σi : IE} {σ : L2.St} {iv : IV} {v : V} (se : SE P φ H σi σ) (r : VR P φ H iv v) (i : Nat) : SE P φ H (σi.set i (some iv)) (σ.set i (some v)) := by
  refine ⟨by simp [se.len], fun j x e => ?_⟩
  by_cases hj : i = j
  · subst hj
    have hl : i < σi.length := by
      by_cases hl : i < σi.length
      · exact hl
      · rw [List.getElem?_eq_none (by simpa using hl)] at e; cases e
    rw [List.getElem?_set_self hl] at e
    cases e
    exact ⟨v, by rw [List.getElem?_set_self (by rw [← se.len]; exact hl)], r⟩
  · rw [List.getElem?_set_ne hj] at e
    obtain ⟨u, e1, r1⟩ := se.val j x e
    exact ⟨u, by rw [List.getElem?_set_ne hj]; exact e1, r1⟩
end

section
variable {X : Cx} {P : Par} {W : WX} {a b c : Expr} {fa fb : IE → M IV} {pos : Pos}
def gNm (i : Nat) : TM := fun v σ h => some (σ.set i (some v), h)
theorem PG.weak {e : Expr} {t t' : TG} (h : PG X e t) (k : ∀ v σ H Q, t' v σ H Q → t v σ H Q) : PG X e t' := ⟨fun pins s σ H v u Q I r hw => h.run pins s σ H v u Q I r (k v σ H Q hw)⟩
theorem PGs.weak {e : List Expr} {t t' : TGs} (h : PGs X e t) (k : ∀ v σ H Q, t' v σ H Q → t v σ H Q) : PGs X e t' := ⟨fun pins s σ H v u Q I r hw => h.run pins s σ H v u Q I r (k v σ H Q hw)⟩
theorem pg_nmI {i : Nat} {x : Str} (hg : PG X (.Name x pos) (gName i)) : PG X (.Name x pos) (tG P (gNm i)) := PG.weak hg fun v σ H Q hq => by
  obtain ⟨φ, h, σi, iv, s, se, r, p⟩ := hq
  exact p φ H _ (Ext.refl _ _) s (se.set r i)
def gsNil : TMs := fun vs σ h => match vs with
  | [] => some (σ, h)
  | _ => none
def gsCons (g : TM) (gs : TMs) : TMs := fun vs σ h => match vs with
  | v :: r => match g v σ h with
    | some (σ1, h1) => gs r σ1 h1
    | none => none
  | [] => none
theorem pgs_nilI : PGs X [] (tGs P gsNil) := PGs.weak pgs_nil fun v σ H Q hq => by
  obtain ⟨φ, h, σi, iv, s, se, r, p⟩ := hq
  unfold gsNil at p
  split at p
  · rw [VRs] at r; exact ⟨r, p φ H _ (Ext.refl _ _) s se⟩
  · exact p.elim
theorem pgs_consI {es : List Expr} {g : TM} {gs : TMs} (h1 : PG X a (tG P g)) (h2 : PGs X es (tGs P gs)) (hs : (assignEach (a :: es) X.env).map (·.2) = assign a X.env :: (assignEach es X.env).map (·.2)) :
    PGs X (a :: es) (tGs P (gsCons g gs)) := PGs.weak (pgs_cons h1 h2 hs) fun vs σ H Q hq => by
  obtain ⟨φ, h, σi, ivs, s, se, r, p⟩ := hq
  unfold gsCons at p
  split at p
  · rename_i v rest
    rw [VRs] at r
    obtain ⟨u, us, rfl, r1, r2⟩ := r
    refine ⟨u, us, rfl, φ, h, σi, v, s, se, r1, ?_⟩
    split at p
    · rename_i σ1 h1' e
      rw [e]
      exact fun φ' H' σ' ex s' se' => ⟨φ', h1', σ1, rest, s', se', r2.mono ex, PostG.ext p ex⟩
    · exact p.elim
  · exact p.elim
/-- (a, b, ..) = a tuple -/
def gTp (n : Nat) (gs : TMs) : TM := fun v σ h => match v with
  | .tup xs => if xs.length = n then gs xs σ h else none
  | _ => none
theorem pg_tupI {es : List Expr} {k n : Nat} {gs : TMs} (hK : X.K = P.K) (hc : X.calm = true) (h2 : PGs X es (tGs P gs)) (hn : (assignEach es X.env).length = n) (hst : (assignEach es X.env).findIdx? (·.1) = none) :
    PG X (.Tuple es k pos) (tG P (gTp n gs)) := PG.weak (pg_tup hc h2 hn hst) fun v σ H Q hq => by
  obtain ⟨φ, h, σi, iv, s, se, r, p⟩ := hq
  unfold gTp at p
  split at p
  · obtain ⟨a, vs, rfl, h1, r1⟩ := r.tupI
    split at p
    · rename_i z
      exact ⟨a, vs, rfl, by rw [hK]; exact h1, by rw [r1.length]; exact z, φ, h, σi, _, s, se, r1, p⟩
    · exact p.elim
  · exact p.elim

def seqS (f g : SM) : SM := fun σ h => match f σ h with
  | .nx σ h => g σ h
  | o => o
def nextS : SM := fun σ h => .nx σ h
theorem pss_nilI : PSs X [] (tS P W nextS) := PSs.weak pss_nil fun D σ H hq => by
  obtain ⟨φ, h, σi, s, se, p⟩ := hq
  exact p φ H σ (Ext.refl _ _) s se
theorem pss_consI {st : Stmt} {rest : List Stmt} {f g : SM} (h1 : PS X st (tS P W f)) (h2 : PSs X rest (tS P W g)) : PSs X (st :: rest) (tS P W (seqS f g)) := PSs.weak (pss_cons h1 h2) fun D σ H hq => by
  obtain ⟨φ, h, σi, s, se, p⟩ := hq
  refine ⟨φ, h, σi, s, se, ?_⟩
  unfold seqS at p
  cases e : f σi h with
  | nx σ1 h1 =>
    rw [e] at p
    exact fun φ' H' σ' ex s' se' => ⟨φ', h1, σ1, s', se', PostS.ext p ex⟩
  | rt v h1 => rw [e] at p; exact p
  | bk v h1 => rw [e] at p; exact p
  | ct v h1 => rw [e] at p; exact p
  | ex v σ h1 => rw [e] at p; exact p
  | no => rw [e] at p; exact p
theorem ps_passI : PS X (.Pass pos) (tS P W nextS) := PS.weak ps_pass fun D σ H hq => by
  obtain ⟨φ, h, σi, s, se, p⟩ := hq
  exact p φ H σ (Ext.refl _ _) s se
theorem ps_docI {x j pos'} : PS X (.Expr (.Constant (.str x) j pos) pos') (tS P W nextS) := PS.weak ps_doc fun D σ H hq => by
  obtain ⟨φ, h, σi, s, se, p⟩ := hq
  exact p φ H σ (Ext.refl _ _) s se
theorem ps_breakI : PS X (.Break pos) (tS P W fun σ h => .bk σ h) := PS.weak ps_break fun D σ H hq => by
  obtain ⟨φ, h, σi, s, se, p⟩ := hq
  exact p φ H σ (Ext.refl _ _) s se
theorem ps_contI : PS X (.Continue pos) (tS P W fun σ h => .ct σ h) := PS.weak ps_continue fun D σ H hq => by
  obtain ⟨φ, h, σi, s, se, p⟩ := hq
  exact p φ H σ (Ext.refl _ _) s se
theorem Ends.eq {D : Ends} : D = { nx := D.nx, rt := D.rt, bk := D.bk, ct := D.ct } := rfl
def retS (fa : IE → M IV) : SM := fun σ h => (fa σ h).thn σ fun v h => .rt v h
theorem ps_retI (ha : PE X a (tE P W fa)) : PS X (.Return (some a) pos) (tS P W (retS fa)) := PS.weak (ps_ret ha) fun D σ H hq => by
  obtain ⟨φ, h, σi, s, se, p⟩ := hq
  exact ⟨φ, h, σi, s, se, (Post.thn se p).mono fun x H1 ⟨φ1, h1, v, s1, _, r, p1⟩ => p1 φ1 H1 x (Ext.refl _ _) s1 r⟩
theorem ps_retNI : PS X (.Return none pos) (tS P W fun _ h => .rt .non h) := PS.weak ps_retN fun D σ H hq => by
  obtain ⟨φ, h, σi, s, se, p⟩ := hq
  exact p φ H .non (Ext.refl _ _) s (by rw [VR])
def exprS (fa : IE → M IV) : SM := fun σ h => (fa σ h).thn σ fun _ h => .nx σ h
theorem ps_exprI (ha : PE X a (tE P W fa)) (hs : swapsWith a none pos.line X.env = pure false) : PS X (.Expr a pos) (tS P W (exprS fa)) := PS.weak (ps_expr ha hs) fun D σ H hq => by
  obtain ⟨φ, h, σi, s, se, p⟩ := hq
  exact ⟨φ, h, σi, s, se, (Post.thn se p).mono fun x H1 ⟨φ1, h1, v, s1, se1, r, p1⟩ => p1 φ1 H1 σ (Ext.refl _ _) s1 se1⟩
def ifS (t : IE → M Bool) (f g : SM) : SM := fun σ h => (t σ h).thn σ fun b h => if b = true then f σ h else g σ h
theorem ps_ifI {t : IE → M Bool} {f g : SM} {sa sb : List Stmt} (hc : PT X c (tT P W t)) (ha : PSs X sa (tS P W f)) (hb : PSs X sb (tS P W g)) : PS X (.If c sa sb pos) (tS P W (ifS t f g)) := PS.weak (ps_if hc ha hb) fun D σ H hq => by
  obtain ⟨φ, h, σi, s, se, p⟩ := hq
  refine ⟨φ, h, σi, s, se, (PostB.thn se p).mono fun b H1 ⟨φ1, h1, s1, se1, p1⟩ => ?_⟩
  cases b with
  | true => rw [if_pos rfl] at p1 ⊢; exact ⟨φ1, h1, σi, s1, se1, p1⟩
  | false => rw [if_neg Bool.false_ne_true] at p1 ⊢; exact ⟨φ1, h1, σi, s1, se1, p1⟩
/-- target = value -/
def asgS (fa : IE → M IV) (g : TM) : SM := fun σ h => (fa σ h).thn σ fun v h => gthn (g v σ h) fun σ h => .nx σ h
theorem ps_asgI {tg : Expr} {g : TM} (ha : PE X a (tE P W fa)) (hg : PG X tg (tG P g)) (hs : swapsWithSole [tg] a pos.line X.env = pure false) (hw : swappedStores [tg] a X.env = pure none) (h1 : (assignEach [tg] X.env).map (·.2) = [assign tg X.env]) :
    PS X (.Assign [tg] a pos) (tS P W (asgS fa g)) := PS.weak (ps_asg ha hg hs hw h1) fun D σ H hq => by
  obtain ⟨φ, h, σi, s, se, p⟩ := hq
  refine ⟨φ, h, σi, s, se, (Post.thn se p).mono fun x H1 ⟨φ1, h1, v, s1, se1, r, p1⟩ => ?_⟩
  refine ⟨φ1, h1, σi, v, s1, se1, r, ?_⟩
  have q := PostG.thn p1
  unfold PostG at q ⊢
  split at q
  · exact fun φ' H' σ' e s' se' => by
      obtain ⟨φ2, h2, σ2, s2, se2, p2⟩ := q φ' H' σ' e s' se'
      exact p2 φ2 H' σ' (Ext.refl _ _) s2 se2
  · exact q.elim
end
end EV
namespace EV
open PySem PySem.Spec PyProof.Rows L2

section
variable {X : Cx} {P : Par} {W : WX} {a b c : Expr} {fa fb : IE → M IV} {pos : Pos}
def whileL (t : IE → M Bool) (f : SM) : Nat → SM
  | 0 => fun _ _ => .no
  | n + 1 => fun σ h => (t σ h).thn σ fun b h => if b = true then (match f σ h with
      | .nx σ h => whileL t f n σ h
      | .ct σ h => whileL t f n σ h
      | .bk σ h => .nx σ h
      | o => o) else .nx σ h
theorem ps_whileI {t : IE → M Bool} {f : SM} {body : List Stmt} {n : Nat} (hp : PassesOwn (model X.prog X.w) X.A X.env X.xe) (hc : PT X c (tT P W t)) (hb : PSs X body (tS P W f)) : PS X (.While c body [] pos) (tS P W (whileL t f n)) := PS.weak (ps_while hp hc hb) fun D σ H hq => by
  obtain ⟨φ, h, σi, s, se, p⟩ := hq
  refine ⟨fun m σ H => ∃ φ h σi, SR P φ H h ∧ SE P φ H σi σ ∧ PostS P W φ H D (whileL t f m σi h), ⟨n, φ, h, σi, s, se, p⟩, ?_⟩
  rintro m σ H ⟨φ, h, σi, s, se, p⟩
  cases m with
  | zero => exact p.elim
  | succ m =>
    unfold whileL at p
    refine ⟨φ, h, σi, s, se, (PostB.thn se p).mono fun b H1 ⟨φ1, h1, s1, se1, p1⟩ => ?_⟩
    cases b with
    | false => rw [if_neg Bool.false_ne_true] at p1 ⊢; exact p1 φ1 H1 σ (Ext.refl _ _) s1 se1
    | true =>
      rw [if_pos rfl] at p1 ⊢
      refine ⟨fun σ H => ∃ φ h σi, SR P φ H h ∧ SE P φ H σi σ ∧ PostS P W φ H D (whileL t f m σi h), fun σ' H' q => ⟨m, Nat.lt_succ_self _, q⟩, ?_⟩
      refine ⟨φ1, h1, σi, s1, se1, ?_⟩
      cases e : f σi h1 with
      | nx σ2 h2 => rw [e] at p1; exact fun φ' H' σ' ex s' se' => ⟨φ', h2, σ2, s', se', PostS.ext p1 ex⟩
      | ct σ2 h2 => rw [e] at p1; exact fun φ' H' σ' ex s' se' => ⟨φ', h2, σ2, s', se', PostS.ext p1 ex⟩
      | bk σ2 h2 => rw [e] at p1; exact p1
      | rt v h2 => rw [e] at p1; exact p1
      | ex v σ2 h2 => rw [e] at p1; exact p1
      | no => rw [e] at p1; exact p1

/-- J walks the items xs, whatever happens to the heap otherwise -/
structure Goes (P : Par) (J : It) (xs : List IV) (φ0 : List Addr) (H0 : Hp) : Prop where
  stop : ∀ φ H, Ext φ0 H0 φ H → J.stop xs.length H
  go : ∀ i φ H, i < xs.length → Ext φ0 H0 φ H → J.go i H
  yld : ∀ i φ H x H', Ext φ0 H0 φ H → J.yld i H x H' → ∀ v, xs[i]? = some v → Ext φ H φ H' ∧ (∀ R h, SR R φ H h → SR R φ H' h) ∧ ∀ l, (∀ D ∈ l, D ∈ P.av ∨ H0 D = none) → VR (P.at l) φ H' v x
def PostI (P : Par) (W : WX) (σ : L2.St) (φ : List Addr) (H : Hp) (R : It → Hp → Prop) : Out (List IV) → Prop
  | .ok xs h' => ∀ φ' H' J, Ext φ H φ' H' → SR P φ' H' h' → Goes P J xs φ' H' → R J H'
  | .ex e h' => ∀ φ' H' c d, Ext φ H φ' H' → SR P φ' H' h' → XR P φ' H' e c d → W c d σ H'
  | .no => False
def tI (P : Par) (W : WX) (fi : IE → M (List IV)) : TI := fun σ H R => ∃ φ h σi, SR P φ H h ∧ SE P φ H σi σ ∧ PostI P W σ φ H R (fi σi h)
theorem PostI.ext {σ : L2.St} {φ φ1 : List Addr} {H H1 : Hp} {R : It → Hp → Prop} {o : Out (List IV)} (p : PostI P W σ φ H R o) (e : Ext φ H φ1 H1) : PostI P W σ φ1 H1 R o := by
  cases o with
  | ok v h => exact fun φ' H' J e' => p φ' H' J (e.trans e')
  | ex v h => exact fun φ' H' c d e' => p φ' H' c d (e.trans e')
  | no => exact p
theorem PostI.mono {σ : L2.St} {φ : List Addr} {H : Hp} {R R' : It → Hp → Prop} {o : Out (List IV)} (p : PostI P W σ φ H R o) (k : ∀ J H, R J H → R' J H) : PostI P W σ φ H R' o := by
  cases o with
  | ok v h => exact fun φ' H' J e s g => k _ _ (p φ' H' J e s g)
  | ex v h => exact p
  | no => exact p
theorem PostI.thn {D : Ends} {σi : IE} {σ : L2.St} {φ : List Addr} {H : Hp} {o : Out (List IV)} {k : List IV → IH → SOut} (se : SE P φ H σi σ) (p : PostS P W φ H D (o.thn σi k)) :
    PostI P W σ φ H (fun J H1 => ∃ φ1 h1 xs, SR P φ1 H1 h1 ∧ SE P φ1 H1 σi σ ∧ Goes P J xs φ1 H1 ∧ PostS P W φ1 H1 D (k xs h1)) o := by
  cases o with
  | ok v h => exact fun φ' H' J e s g => ⟨φ', h, v, s, se.mono e, g, PostS.ext p e⟩
  | ex x h => exact fun φ' H' c d e s r => p φ' H' σ c d e s (se.mono e) r
  | no => exact p
def forL (g : TM) (f : SM) : List IV → SM
  | [] => fun σ h => .nx σ h
  | x :: xs => fun σ h => match g x σ h with
    | none => .no
    | some (σ, h) => match f σ h with
      | .nx σ h => forL g f xs σ h
      | .ct σ h => forL g f xs σ h
      | .bk σ h => .nx σ h
      | o => o
def forS (fi : IE → M (List IV)) (g : TM) (f : SM) : SM := fun σ h => (fi σ h).thn σ fun xs h => forL g f xs σ h
theorem ps_forI {tg iter : Expr} {fi : IE → M (List IV)} {g : TM} {f : SM} {body : List Stmt} (hp : PassesOwn (model X.prog X.w) X.A X.env X.xe) (hc : X.calm = true) (hi : PI X tg iter (tI P W fi)) (hg : PG X tg (tG P g)) (hb : PSs X body (tS P W f))
    (hs : ∀ x, foldedSetIterable iter X.env x = pure x) : PS X (.For tg iter body [] pos) (tS P W (forS fi g f)) := PS.weak (ps_for hp hc hi hg hb hs) fun D σ H hq => by
  obtain ⟨φ, h, σi, s, se, p⟩ := hq
  refine ⟨φ, h, σi, s, se, (PostI.thn se p).mono fun J H0 ⟨φ0, h0, xs, s0, se0, G, p0⟩ => ?_⟩
  refine ⟨fun i m σ H => ∃ φ h σi, SR P φ H h ∧ SE P φ H σi σ ∧ Ext φ0 H0 φ H ∧ i ≤ xs.length ∧ m = xs.length - i ∧ PostS P W φ H D (forL g f (xs.drop i) σi h),
    ⟨xs.length, φ0, h0, σi, s0, se0, Ext.refl _ _, Nat.zero_le _, by simp, by simpa using p0⟩, ?_⟩
  rintro i m σ H ⟨φ, h, σi, s, se, ex, hi, rfl, p⟩
  by_cases hlt : i < xs.length
  · refine .inr ⟨G.go i φ H hlt ex, fun σ' H' => ∃ φ h σi, SR P φ H' h ∧ SE P φ H' σi σ' ∧ Ext φ0 H0 φ H' ∧ i + 1 ≤ xs.length ∧ PostS P W φ H' D (forL g f (xs.drop (i + 1)) σi h), ?_, ?_⟩
    · rintro σ' H' ⟨φ, h, σi, s, se, ex, hi, p⟩
      exact ⟨xs.length - (i + 1), by omega, φ, h, σi, s, se, ex, hi, rfl, p⟩
    · intro x H' y
      have hx : xs[i]? = some xs[i] := by simp [hlt]
      obtain ⟨e1, sr, r⟩ := G.yld i φ H x H' ex y xs[i] hx
      have e2 : xs.drop i = xs[i] :: xs.drop (i + 1) := List.drop_eq_getElem_cons hlt
      rw [e2] at p
      unfold forL at p
      refine ⟨φ, h, σi, xs[i], sr P h s, se.mono e1, r P.av fun D m => .inl m, ?_⟩
      cases q : g xs[i] σi h with
      | none => rw [q] at p; exact p.elim
      | some z =>
        obtain ⟨σ1, h1⟩ := z
        rw [q] at p
        intro φ1 H1 σ1' ex1 s1 se1
        refine ⟨φ1, h1, σ1, s1, se1, ?_⟩
        have p' := (PostS.ext p e1).ext ex1
        dsimp only at p'
        have ex' : ∀ {φ' H'}, Ext φ1 H1 φ' H' → Ext φ0 H0 φ' H' := fun e => ((ex.trans e1).trans ex1).trans e
        cases e : f σ1 h1 with
        | nx σ2 h2 => rw [e] at p'; exact fun φ' H' σ' ex2 s2 se2 => ⟨φ', h2, σ2, s2, se2, ex' ex2, hlt, PostS.ext p' ex2⟩
        | ct σ2 h2 => rw [e] at p'; exact fun φ' H' σ' ex2 s2 se2 => ⟨φ', h2, σ2, s2, se2, ex' ex2, hlt, PostS.ext p' ex2⟩
        | bk σ2 h2 => rw [e] at p'; exact p'
        | rt v h2 => rw [e] at p'; exact p'
        | ex v σ2 h2 => rw [e] at p'; exact p'
        | no => rw [e] at p'; exact p'
  · have e : i = xs.length := by omega
    subst e
    refine .inl ⟨G.stop φ H ex, ?_⟩
    rw [List.drop_length] at p
    exact p φ H σ (Ext.refl _ _) s se

theorem PI.weak {tg e : Expr} {t t' : TI} (h : PI X tg e t) (k : ∀ σ H R, t' σ H R → t σ H R) : PI X tg e t' := ⟨fun pins s σ H R I hw => h.run pins s σ H R I (k σ H R hw)⟩
theorem goes_tup {a : Addr} {xs : List IV} {vs : List V} {φ : List Addr} {H : Hp} (hK : X.K = P.K) (h1 : SqT P.K H a vs) (r : VRs P φ H xs vs) : Goes P (Itt X.K a) xs φ H := by
  have st : ∀ {φ' H'}, Ext φ H φ' H' → SqT X.K H' a vs := fun e => by rw [hK]; exact e.seqT h1
  refine ⟨fun φ' H' e => ⟨vs, st e, by rw [r.length]; exact Nat.le_refl _⟩, fun i φ' H' hi e => ?_, fun i φ' H' x H2 e y v hv => ?_⟩
  · have hl : i < vs.length := by rw [r.length]; exact hi
    exact ⟨vs, vs[i], st e, by simp [hl]⟩
  · obtain ⟨rfl, q⟩ := y
    obtain ⟨u, e1, r1⟩ := r.get hv
    have := q vs (st e)
    rw [this] at e1; cases e1
    exact ⟨Ext.refl _ _, fun _ _ s => s, fun l k => VR.mono e _ _ (VR.avI k _ _ r1)⟩
theorem goes_lst {a : Addr} {xs : List IV} {vs : List V} {φ : List Addr} {H : Hp} (h1 : ∀ φ' H', Ext φ H φ' H' → SqL X.K H' a vs) (r : VRs P φ H xs vs) : Goes P (Itl X.K a) xs φ H := by
  refine ⟨fun φ' H' e => ⟨vs, h1 _ _ e, by rw [r.length]; exact Nat.le_refl _⟩, fun i φ' H' hi e => ?_, fun i φ' H' x H2 e y v hv => ?_⟩
  · have hl : i < vs.length := by rw [r.length]; exact hi
    exact ⟨vs, vs[i], h1 _ _ e, by simp [hl]⟩
  · obtain ⟨rfl, q⟩ := y
    obtain ⟨u, e1, r1⟩ := r.get hv
    have := q vs (h1 _ _ e)
    rw [this] at e1; cases e1
    exact ⟨Ext.refl _ _, fun _ _ s => s, fun l k => VR.mono e _ _ (VR.avI k _ _ r1)⟩
/-- a tuple -/
def tupIt (fa : IE → M IV) : IE → M (List IV) := fun σ h => (fa σ h).bind fun v h => match v with
  | .tup xs => .ok xs h
  | _ => .no
theorem pi_tupI {tg : Expr} (hK : X.K = P.K) (ha : PE X a (tE P W fa)) : PI X tg a (tI P W (tupIt fa)) := PI.weak (pi_tup ha) fun σ H R hq => by
  obtain ⟨φ, h, σi, s, se, p⟩ := hq
  refine ⟨φ, h, σi, s, se, ?_⟩
  unfold tupIt at p
  cases e : fa σi h with
  | ok v h1 =>
    simp only [e, Out.bind] at p
    split at p
    · intro φ' H' x ex s' r
      obtain ⟨b, vs, rfl, h2, r1⟩ := r.tupI
      exact ⟨b, rfl, ⟨vs, by rw [hK]; exact h2⟩, p φ' H' _ ex s' (goes_tup hK h2 r1)⟩
    · exact p.elim
  | ex v h1 => simp only [e, Out.bind] at p; exact p
  | no => simp only [e, Out.bind] at p; exact p
/-- a list that is left as it is -/
def lstIt (fa : IE → M IV) : IE → M (List IV) := fun σ h => (fa σ h).bind fun v h => match v with
  | .lst xs => .ok xs h
  | .scr xs => .ok xs h
  | _ => .no
theorem pi_lstI {tg : Expr} (hK : X.K = P.K) (ha : PE X a (tE P W fa)) : PI X tg a (tI P W (lstIt fa)) := PI.weak (pi_list ha) fun σ H R hq => by
  obtain ⟨φ, h, σi, s, se, p⟩ := hq
  refine ⟨φ, h, σi, s, se, ?_⟩
  unfold lstIt at p
  cases e : fa σi h with
  | ok v h1 =>
    simp only [e, Out.bind] at p
    split at p
    · intro φ' H' x ex s' r
      rw [VR] at r
      obtain ⟨b, vs, rfl, h2, hn, r1⟩ := r
      exact ⟨b, rfl, ⟨vs, .of h2⟩, p φ' H' _ ex s' (goes_lst (fun φ2 H2 e2 => .of (e2.keep _ _ h2 hn.1)) r1)⟩
    · intro φ' H' x ex s' r
      rw [VR] at r
      obtain ⟨b, vs, rfl, h2, r1⟩ := r
      exact ⟨b, rfl, ⟨vs, by rw [hK]; exact h2.sqL⟩, p φ' H' _ ex s' (goes_lst (fun φ2 H2 e2 => by rw [hK]; exact (e2.sqLi h2).sqL) r1)⟩
    · exact p.elim
  | ex v h1 => simp only [e, Out.bind] at p; exact p
  | no => simp only [e, Out.bind] at p; exact p
/-- range(n), range(m, n) -/
def rngL (lo : Int) (n : Nat) : List IV := (List.range n).map fun (i : Nat) => IV.int (lo + (i : Int))
theorem goes_rng {lo : Int} {n : Nat} {φ : List Addr} {H : Hp} : Goes P (Itr lo n) (rngL lo n) φ H := by
  refine ⟨fun φ' H' e => (by show n ≤ (rngL lo n).length; simp [rngL]), fun i φ' H' hi e => (by show i < n; simpa [rngL] using hi), fun i φ' H' x H2 e y v hv => ?_⟩
  obtain ⟨rfl, rfl⟩ := y
  refine ⟨Ext.refl _ _, fun _ _ s => s, fun l k => ?_⟩
  unfold rngL at hv
  rw [List.getElem?_map] at hv
  have hi : i < n := by
    by_cases hi : i < n
    · exact hi
    · rw [List.getElem?_eq_none (by simpa using hi)] at hv; cases hv
  simp [hi] at hv
  subst hv
  rw [VR]
def rngIt (fs : IE → M (List IV)) : IE → M (List IV) := fun σ h => (fs σ h).bind fun xs h => match xs with
  | [.int j] => if -(2 ^ 62) ≤ j ∧ j < 2 ^ 62 then .ok (rngL 0 j.toNat) h else .no
  | _ => .no
def rngIt2 (fs : IE → M (List IV)) : IE → M (List IV) := fun σ h => (fs σ h).bind fun xs h => match xs with
  | [.int i, .int j] => if -(2 ^ 62) ≤ i ∧ i < 2 ^ 62 ∧ -(2 ^ 62) ≤ j ∧ j < 2 ^ 62 then .ok (rngL i (j - i).toNat) h else .no
  | _ => .no
theorem pi_rngI {tg : Expr} {p0 : Pos} {fs : IE → M (List IV)} (hg : Gl X "range") (hm : X.mg "range" = none) (ha : PA X [a] (tAr P W fs)) (hs : starEach [a] X.env = [(false, eval a X.env)]) : PI X tg (.Call (.Name "range" p0) [a] [] pos) (tI P W (rngIt fs)) :=
  PI.weak (pi_range1 hg hm ha hs) fun σ H R hq => by
  obtain ⟨φ, h, σi, s, se, p⟩ := hq
  refine ⟨φ, h, σi, s, se, ?_⟩
  unfold rngIt at p
  cases e : fs σi h with
  | ok v h1 =>
    simp only [e, Out.bind] at p
    split at p
    · split at p
      · rename_i z
        intro φ' H' x ex s' r
        simp only [VRs, VR] at r
        obtain ⟨_, _, rfl, rfl, rfl⟩ := r
        exact ⟨_, rfl, z.1, z.2, p φ' H' _ ex s' goes_rng⟩
      · exact p.elim
    · exact p.elim
  | ex v h1 => simp only [e, Out.bind] at p; exact p
  | no => simp only [e, Out.bind] at p; exact p
theorem pi_rngI2 {tg : Expr} {p0 : Pos} {fs : IE → M (List IV)} (hg : Gl X "range") (hm : X.mg "range" = none) (ha : PA X [a, b] (tAr P W fs)) (hs : starEach [a, b] X.env = [(false, eval a X.env), (false, eval b X.env)]) (hs2 : starEach [b] X.env = [(false, eval b X.env)]) : PI X tg (.Call (.Name "range" p0) [a, b] [] pos) (tI P W (rngIt2 fs)) :=
  PI.weak (pi_range2 hg hm ha hs hs2) fun σ H R hq => by
  obtain ⟨φ, h, σi, s, se, p⟩ := hq
  refine ⟨φ, h, σi, s, se, ?_⟩
  unfold rngIt2 at p
  cases e : fs σi h with
  | ok v h1 =>
    simp only [e, Out.bind] at p
    split at p
    · split at p
      · rename_i z
        intro φ' H' x ex s' r
        simp only [VRs, VR] at r
        obtain ⟨_, _, rfl, rfl, _, _, rfl, rfl, rfl⟩ := r
        exact ⟨_, _, rfl, z, p φ' H' _ ex s' goes_rng⟩
      · exact p.elim
    · exact p.elim
  | ex v h1 => simp only [e, Out.bind] at p; exact p
  | no => simp only [e, Out.bind] at p; exact p
end
end EV
namespace EV
open PySem PySem.Spec PyProof.Rows L2

mutual
def pureV : IV → Bool
  | .ref _ => false
  | .tup xs => pureVs xs
  | .lst xs => pureVs xs
  | .scr xs => pureVs xs
  | .dct ks vs => pureVs ks && pureVs vs
  | _ => true
def pureVs : List IV → Bool
  | [] => true
  | x :: xs => pureV x && pureVs xs
end
def pureO : IO → Bool
  | .lst xs => pureVs xs
  | .dct ks vs => pureVs ks && pureVs vs
def pureH (h : IH) : Bool := h.all pureO
def pureF : List (Str × IV) → Bool
  | [] => true
  | (_, x) :: r => pureV x && pureF r
def IO.val : IO → IV
  | .lst xs => .lst xs
  | .dct ks vs => .dct ks vs
/-- what is left behind a call that began with n places -/
def settle (fz : Bool) (n : Nat) : Out IV → Out IV
  | .ok v h => if pureH (h.take n) = true then
      if pureV v = true then .ok v (h.take n)
      else match v with
        | .ref r => match h[r]? with
          | some o => if n ≤ r ∧ pureO o = true then (if fz = true then .ok o.val (h.take n) else .ok (.ref n) (h.take n ++ [o])) else .ok v h
          | none => .ok v h
        | _ => .ok v h
    else .ok v h
  | .ex e h => if pureH (h.take n) = true ∧ pureF e.fs = true then .ex e (h.take n) else .ex e h
  | .no => .no

section
variable {P : Par} {W : WX} {φ φ' : List Addr} {H H' : Hp}
mutual
/-- a plain value stands with fewer places told -/
theorem VR.sub (hs : ∀ c ∈ φ, c ∈ φ') : ∀ (x : IV) (v : V), pureV x = true → VR P φ' H x v → VR P φ H x v
  | .non, _, _, h | .bl _, _, _, h | .int _, _, _, h | .str _, _, _, h | .ty _, _, _, h | .glo _, _, _, h => by simpa only [VR] using h
  | .ref n, _, p, _ => by simp [pureV] at p
  | .tup xs, _, p, h => by
    rw [VR] at h ⊢
    obtain ⟨a, vs, h1, h2, h3⟩ := h
    exact ⟨a, vs, h1, h2, VRs.sub hs xs vs (by simpa [pureV] using p) h3⟩
  | .lst xs, _, p, h => by
    rw [VR] at h ⊢
    obtain ⟨a, vs, h1, h2, h3, h4⟩ := h
    exact ⟨a, vs, h1, h2, ⟨fun m => h3.1 (hs _ m), h3.2⟩, VRs.sub hs xs vs (by simpa [pureV] using p) h4⟩
  | .scr xs, _, p, h => by
    rw [VR] at h ⊢
    obtain ⟨a, vs, h1, h2, h3⟩ := h
    exact ⟨a, vs, h1, h2, VRs.sub hs xs vs (by simpa [pureV] using p) h3⟩
  | .dct ks us, _, p, h => by
    rw [VR] at h ⊢
    obtain ⟨a, o, es, h1, h2, h3, h4, h5, h6⟩ := h
    have p' : pureVs ks = true ∧ pureVs us = true := by simpa [pureV] using p
    exact ⟨a, o, es, h1, h2, ⟨fun m => h3.1 (hs _ m), h3.2⟩, VRs.sub hs ks _ p'.1 h4, VRs.sub hs us _ p'.2 h5, h6⟩
theorem VRs.sub (hs : ∀ c ∈ φ, c ∈ φ') : ∀ (xs : List IV) (vs : List V), pureVs xs = true → VRs P φ' H xs vs → VRs P φ H xs vs
  | [], _, _, h => by simpa only [VRs] using h
  | x :: xs, _, p, h => by
    rw [VRs] at h ⊢
    obtain ⟨v, r, h1, h2, h3⟩ := h
    have p' : pureV x = true ∧ pureVs xs = true := by simpa [pureVs] using p
    exact ⟨v, r, h1, VR.sub hs x v p'.1 h2, VRs.sub hs xs r p'.2 h3⟩
end
theorem FRs.sub (hs : ∀ c ∈ φ, c ∈ φ') : ∀ {fs : List (Str × IV)} {vs : List (Str × V)}, pureF fs = true → FRs P φ' H fs vs → FRs P φ H fs vs
  | [], _, _, h => by simpa only [FRs] using h
  | (f, x) :: r, _, p, h => by
    rw [FRs] at h ⊢
    obtain ⟨v, t, h1, h2, h3⟩ := h
    have p' : pureV x = true ∧ pureF r = true := by simpa [pureF] using p
    exact ⟨v, t, h1, VR.sub hs x v p'.1 h2, FRs.sub hs p'.2 h3⟩
theorem OR.sub (hs : ∀ c ∈ φ, c ∈ φ') {a : Addr} : ∀ {o : IO}, pureO o = true → OR P φ' H a o → OR P φ H a o
  | .lst xs, p, ⟨vs, h1, h2⟩ => ⟨vs, h1, VRs.sub hs xs vs (by simpa [pureO] using p) h2⟩
  | .dct ks us, p, ⟨o, es, h1, h2, h3, h4⟩ =>
    have p' : pureVs ks = true ∧ pureVs us = true := by simpa [pureO] using p
    ⟨o, es, h1, VRs.sub hs ks _ p'.1 h2, VRs.sub hs us _ p'.2 h3, h4⟩
theorem pureH_get {h : IH} {n : Nat} {o : IO} (p : pureH h = true) (e : h[n]? = some o) : pureO o = true := by
  unfold pureH at p
  exact List.all_eq_true.mp p o (List.mem_of_getElem? e)
theorem Ext.sub (e : Ext φ H φ' H') : ∀ c ∈ φ, c ∈ φ' := by
  obtain ⟨⟨t, rfl, _⟩, _⟩ := e
  exact fun c hc => List.mem_append_left _ hc
theorem Ext.back (e : Ext φ H φ' H') : Ext φ H φ H' := ⟨⟨[], by simp, by simp⟩, e.keep, e.tups, e.frzs, e.there⟩
/-- a place more is told -/
theorem SR.tell {h : IH} (s : SR P φ H h) {t : Addr} (hn : Off P φ t) {io : IO} (r : OR P (φ ++ [t]) H t io) (mo : ∀ (n : Nat) (io : IO) (a : Addr), h[n]? = some io → φ[n]? = some a → OR P (φ ++ [t]) H a io) :
    SR P (φ ++ [t]) H (h ++ [io]) := by
  refine ⟨by simp [s.len], ?_, fun a m => ⟨fun k => ?_, (s.av a m).2⟩, fun n o' a e1 e2 => ?_⟩
  · refine List.nodup_append.mpr ⟨s.nd, by simp, fun a ha b hb e => ?_⟩
    simp at hb; subst hb; subst e
    exact hn.1 ha
  · rcases List.mem_append.mp k with k | k
    · exact (s.av a m).1 k
    · simp at k; subst k; exact hn.2 m
  · by_cases hl : n < h.length
    · rw [List.getElem?_append_left hl] at e1
      rw [List.getElem?_append_left (by rw [s.len]; exact hl)] at e2
      exact mo n o' a e1 e2
    · have hn' : n = h.length := by
        have := (List.getElem?_eq_some_iff.mp e1).1
        simp at this; omega
      subst hn'
      simp at e1
      rw [← s.len] at e2
      simp at e2
      subst e1 e2
      exact r
/-- the places of the beginning alone -/
theorem SR.back {h' : IH} (e : Ext φ H φ' H') (s : SR P φ' H' h') (p : pureH (h'.take φ.length) = true) (nd : φ.Nodup) : SR P φ H' (h'.take φ.length) := by
  have hs := e.sub
  obtain ⟨⟨t, rfl, ht⟩, k, tu, fz, th⟩ := e
  have hl : φ.length ≤ h'.length := by have := s.len; simp at this; omega
  refine ⟨by simp; omega, nd, fun a m => ⟨fun k => (s.av a m).1 (List.mem_append_left _ k), (s.av a m).2⟩, fun n o a e1 e2 => ?_⟩
  have hn : n < φ.length := (List.getElem?_eq_some_iff.mp e2).1
  have q := pureH_get p e1
  rw [List.getElem?_take_of_lt hn] at e1
  exact OR.sub hs q (s.obj n o a e1 (by rw [List.getElem?_append_left hn]; exact e2))
/-- .. and one more -/
theorem SR.back1 {h' : IH} {a : Addr} {o : IO} (e : Ext φ H φ' H') (s : SR P φ' H' h') (p : pureH (h'.take φ.length) = true) (nd : φ.Nodup) (ha : a ∈ φ') (na : Off P φ a) (po : pureO o = true) (ho : OR P φ' H' a o) : SR P (φ ++ [a]) H' (h'.take φ.length ++ [o]) := by
  have s2 := SR.back e s p nd
  have hs : ∀ c ∈ φ ++ [a], c ∈ φ' := fun c hc => by
    rcases List.mem_append.mp hc with hc | hc
    · exact e.sub c hc
    · simp at hc; subst hc; exact ha
  refine SR.tell s2 na (OR.sub hs po ho) fun n io b e1 e2 => ?_
  have hn : n < φ.length := (List.getElem?_eq_some_iff.mp e2).1
  have q := pureH_get p e1
  rw [List.getElem?_take_of_lt hn] at e1
  exact OR.sub hs q (s.obj n io b e1 (e.get e2))
theorem XR.sub (hs : ∀ c ∈ φ, c ∈ φ') {e : IX} {c : Value} {d : Option Addr} (p : pureF e.fs = true) (x : XR P φ' H e c d) : XR P φ H e c d := by
  refine ⟨x.cls, ?_⟩
  rcases x.fs with h | ⟨dd, vs, h1, h2, h3, h4⟩
  · exact .inl h
  · exact .inr ⟨dd, vs, h1, fun m => h2 (hs _ m), h3, FRs.sub hs p h4⟩
theorem settle_ok {σ : L2.St} {Q : VK} {fz : Bool} {h : IH} {o : Out IV} (s : SR P φ H h) (p : Post P W σ φ H Q (settle fz h.length o)) : Post P W σ φ H Q o := by
  have hlen := s.len
  cases o with
  | no => exact p
  | ex e h' =>
    intro φ' H' c d ex s' x
    simp only [settle] at p
    split at p
    · rename_i z
      rw [← hlen] at z p
      exact p φ H' c d ex.back (SR.back ex s' z.1 s.nd) (XR.sub ex.sub z.2 x)
    · exact p φ' H' c d ex s' x
  | ok v h' =>
    intro φ' H' x ex s' r
    simp only [settle] at p
    split at p
    · rename_i z
      rw [← hlen] at z
      split at p
      · rename_i pv
        rw [← hlen] at p
        exact p φ H' x ex.back (SR.back ex s' z s.nd) (VR.sub ex.sub v x pv r)
      · split at p
        · rename_i rr _
          split at p
          · rename_i o ho
            split at p
            · rename_i q
              obtain ⟨q1, q2⟩ := q
              rw [← hlen] at q1 p
              rw [VR] at r
              obtain ⟨a, ha, rfl⟩ := r
              have ho' := s'.obj rr o a ho ha
              have hat : H a = none ∧ a ∈ φ' := by
                obtain ⟨t, rfl, ht⟩ := ex.pre
                rw [List.getElem?_append_right q1] at ha
                have m := List.mem_of_getElem? ha
                exact ⟨ht a m, List.mem_append_right _ m⟩
              have haφ : Off P φ a := s.fresh hat.1
              split at p
              · refine p φ H' (.ref a) ex.back (SR.back ex s' z s.nd) ?_
                have ho2 : OR P φ H' a o := OR.sub ex.sub q2 ho'
                cases o with
                | lst xs => obtain ⟨vs, k1, k2⟩ := ho2; show VR P φ H' (.lst xs) _; rw [VR]; exact ⟨a, vs, rfl, k1, haφ, k2⟩
                | dct ks us => obtain ⟨ob, es, k1, k2, k3, k4⟩ := ho2; show VR P φ H' (.dct ks us) _; rw [VR]; exact ⟨a, ob, es, rfl, k1, haφ, k2, k3, k4⟩
              · have e4 : Ext φ H (φ ++ [a]) H' := ⟨⟨[a], rfl, by simpa using hat.1⟩, ex.keep, ex.tups, ex.frzs, ex.there⟩
                refine p (φ ++ [a]) H' (.ref a) e4 (SR.back1 ex s' z s.nd hat.2 haφ q2 ho') ?_
                rw [VR]
                exact ⟨a, by simp, rfl⟩
            · exact p φ' H' _ ex s' r
          · exact p φ' H' _ ex s' r
        · exact p φ' H' x ex s' r
    · exact p φ' H' x ex s' r
end

/-- what a call of a def gives: from the values of its parameters -/
abbrev CM := List IV → M IV
def startI (n : Nat) (vs : List IV) : IE := vs.map some ++ List.replicate (n - vs.length) none
/-- a def by its body, with so many names -/
def defM (n : Nat) (f : SM) : CM := fun vs h => match f (startI n vs) h with
  | .rt v h => .ok v h
  | .nx _ h => .ok .non h
  | .ex e _ h => .ex e h
  | _ => .no
/-- the promise of a def with np parameters -/
def spI (P : Par) (np : Nat) (c : CM) : Sp := fun vs H Q E => vs.length = np ∧ ∃ av φ h ivs, SR (P.at av) φ H h ∧ VRs (P.at av) φ H ivs vs ∧ Post (P.at av) (fun c d _ H => E c d H) [] φ H Q (c ivs h)
theorem SE.start {P : Par} {φ : List Addr} {H : Hp} {N : List Str} {ivs : List IV} {vs : List V} (r : VRs P φ H ivs vs) : SE P φ H (startI N.length ivs) (L2.start N vs) := by
  have hl := r.length
  refine ⟨by simp [startI, L2.start, hl], fun i x e => ?_⟩
  unfold startI at e
  unfold L2.start
  by_cases hi : i < ivs.length
  · rw [List.getElem?_append_left (by simpa using hi), List.getElem?_map] at e
    cases q : ivs[i]? with
    | none => rw [q] at e; cases e
    | some y =>
      rw [q] at e
      simp at e; subst e
      obtain ⟨v, e1, r1⟩ := r.get q
      refine ⟨v, ?_, r1⟩
      rw [List.getElem?_append_left (by simp [hl, hi]), List.getElem?_map, e1]; rfl
  · rw [List.getElem?_append_right (by simpa using hi), List.getElem?_replicate] at e
    split at e <;> cases e
theorem Post.sigma {P : Par} {W W' : WX} {σ σ' : L2.St} {φ : List Addr} {H : Hp} {Q : VK} {o : Out IV} (p : Post P W σ φ H Q o) (k : ∀ c d H, W c d σ H → W' c d σ' H) : Post P W' σ' φ H Q o := by
  cases o with
  | ok v h => exact p
  | ex e h => exact fun φ' H' c d ex s x => k c d H' (p φ' H' c d ex s x)
  | no => exact p
/-- a body's reading, from its promise -/
theorem tS_body {P : Par} {N : List Str} {np : Nat} {f : SM} {vs : List V} {H : Hp} {Q : VK} {E : XK} (h : spI P np (defM N.length f) vs H Q E) :
    ∃ av, tS (P.at av) (fun c d _ H => E c d H) f { nx := fun _ H' => Q .non H', rt := Q } (L2.start N vs) H := by
  obtain ⟨_, av, φ, hp, ivs, s, r, p⟩ := h
  refine ⟨av, φ, hp, _, s, SE.start r, ?_⟩
  unfold defM at p
  cases e : f (startI N.length ivs) hp with
  | nx σ h1 => rw [e] at p; exact fun φ' H' σ' ex s' se => p φ' H' .non ex s' (by rw [VR])
  | rt v h1 => rw [e] at p; exact p
  | bk σ h1 => rw [e] at p; exact p.elim
  | ct σ h1 => rw [e] at p; exact p.elim
  | ex x σ h1 => rw [e] at p; exact fun φ' H' σ' c d ex s' se x => p φ' H' c d ex s' x
  | no => rw [e] at p; exact p
theorem PSs.exi {X : Cx} {α : Type} {b : List Stmt} {t : α → TS} (h : ∀ a, PSs X b (t a)) : PSs X b (fun D σ H => ∃ a, t a D σ H) := ⟨fun pins s σ H D I ⟨a, hw⟩ => (h a).run pins s σ H D I hw⟩
/-- a def keeps its promise: by its body -/
theorem fn_okI {P : Par} {Pr : Program} {w : World} {mg : Str → Option Value} {base : Heap} {x qual : Str} {params : Arguments} {body : List Stmt} {scope : Scope} {dvs : List V} {kws : List (Str × V)} {fA : Addr} {fd : FuncData} {N ps : List Str} {k : Nat} {f : SM}
    (F : FunD P.K x qual params body scope dvs kws fA fd) (S : FnScope N ps scope)
    (hb : ∀ (av : List Addr) (cdv : Value) (A : Around) (outer : List Env) (s : Shared) (H : Hp) (E : XK), Room k (A.deeper (envOfC qual scope s.heap.objs.size fA cdv)) →
      PSs (cxOf (L2.CX Pr w) Pr w P.K mg base N qual scope fA cdv A outer s H E) body (tS (P.at av) (fun c d _ H => E c d H) f)) :
    FnOk Pr w P.K mg base (L2.CX Pr w) (k + 1) fA fd ps (spI P ps.length (defM N.length f)) :=
  F.ok S (fun vs H Q E h => h.1) fun cdv A outer s H vs Q E hr h => ⟨_, PSs.exi fun av => hb av cdv A outer s H E hr, tS_body h⟩

end EV
namespace EV
open PySem PySem.Spec PyProof.Rows L2

def wipeI (σ : IE) : List Nat → IE
  | [] => σ
  | v :: vs => (wipeI σ vs).set v none
/-- no exception is taken here -/
abbrev WF : WX := fun _ _ _ _ => False
section
variable {P : Par} {φ : List Addr} {H : Hp}
theorem SE.unset {σi : IE} {σ : L2.St} (s : SE P φ H σi σ) (v : Nat) : SE P φ H (σi.set v none) (σ.set v none) := by
  refine ⟨by simp [s.len], fun i x e => ?_⟩
  by_cases hi : v = i
  · subst hi
    by_cases hv : v < σi.length
    · rw [List.getElem?_set_self hv] at e; cases e
    · rw [List.getElem?_eq_none (by simpa using hv)] at e; cases e
  · rw [List.getElem?_set_ne hi] at e ⊢
    exact s.val i x e
theorem SE.wipe {σi : IE} {σ : L2.St} (s : SE P φ H σi σ) : ∀ vs, SE P φ H (wipeI σi vs) (L2.wipe σ vs)
  | [] => s
  | v :: vs => (SE.wipe s vs).unset v
theorem wipe_set {σ : L2.St} {i : Nat} {x : Option V} : ∀ {vs : List Nat}, i ∈ vs → L2.wipe (σ.set i x) vs = L2.wipe σ vs
  | [], m => by simp at m
  | v :: vs, m => by
    unfold L2.wipe
    by_cases e : i ∈ vs
    · rw [wipe_set e]
    · have e2 : i = v := by
        rcases List.mem_cons.mp m with m | m
        · exact m
        · exact absurd m e
      subst e2
      clear m e
      induction vs with
      | nil => simp [L2.wipe]
      | cons w vs ih =>
        unfold L2.wipe
        by_cases z : w = i
        · subst z
          have a : ∀ (l : L2.St), (l.set w none).set w none = l.set w none := fun l => by simp
          rw [a, a]; exact ih
        · rw [List.set_comm _ _ z, ih, List.set_comm _ _ (Ne.symm z)]
theorem wipe_idem {σ : L2.St} : ∀ (vs : List Nat), L2.wipe (L2.wipe σ vs) vs = L2.wipe σ vs := by
  have k : ∀ (v : Nat) (us : List Nat) (σ : L2.St), v ∈ us → (L2.wipe σ us).set v none = L2.wipe σ us := by
    intro v us
    induction us with
    | nil => intro _ m; simp at m
    | cons u us ih =>
      intro σ m
      unfold L2.wipe
      by_cases z : v = u
      · subst z; simp
      · have m' : v ∈ us := by
          rcases List.mem_cons.mp m with m | m
          · exact absurd m z
          · exact m
        rw [List.set_comm _ _ (Ne.symm z), ih σ m']
  have k2 : ∀ (us vs : List Nat) (σ : L2.St), (∀ v ∈ us, v ∈ vs) → L2.wipe (L2.wipe σ vs) us = L2.wipe σ vs := by
    intro us vs σ
    induction us with
    | nil => intro _; rfl
    | cons u us ih =>
      intro m
      unfold L2.wipe
      rw [ih fun v hv => m v (List.mem_cons_of_mem _ hv)]
      cases vs with
      | nil => exact absurd (m u List.mem_cons_self) (by simp)
      | cons w ws => exact k u (w :: ws) σ (m u List.mem_cons_self)
  exact fun vs => k2 vs vs σ fun _ h => h
end

section
variable (P : Par) (vs : List Nat)
def PostGw (σ0 : L2.St) (φ : List Addr) (H : Hp) (Q : L2.St → Hp → Prop) : Option (IE × IH) → Prop
  | some (σi, h') => ∀ φ' H' σ', Ext φ H φ' H' → SR P φ' H' h' → SE P φ' H' σi σ' → L2.wipe σ' vs = L2.wipe σ0 vs → Q σ' H'
  | none => False
def tGw (f : TM) : TG := fun v σ H Q => ∃ φ h σi iv, SR P φ H h ∧ SE P φ H σi σ ∧ VR P φ H iv v ∧ PostGw P vs σ φ H Q (f iv σi h)
def tGsw (f : TMs) : TGs := fun us σ H Q => ∃ φ h σi ivs, SR P φ H h ∧ SE P φ H σi σ ∧ VRs P φ H ivs us ∧ PostGw P vs σ φ H Q (f ivs σi h)
end
section
variable {X : Cx} {P : Par} {vs : List Nat} {pos : Pos} {a : Expr}
theorem PostGw.ext {σ0 : L2.St} {φ φ1 : List Addr} {H H1 : Hp} {Q : L2.St → Hp → Prop} {o : Option (IE × IH)} (p : PostGw P vs σ0 φ H Q o) (e : Ext φ H φ1 H1) : PostGw P vs σ0 φ1 H1 Q o := by
  cases o with
  | some q => exact fun φ' H' σ' e' => p φ' H' σ' (e.trans e')
  | none => exact p
theorem pg_nmW {i : Nat} {x : Str} (hi : i ∈ vs) (hg : PG X (.Name x pos) (gName i)) : PG X (.Name x pos) (tGw P vs (gNm i)) := PG.weak hg fun v σ H Q hq => by
  obtain ⟨φ, h, σi, iv, s, se, r, p⟩ := hq
  exact p φ H _ (Ext.refl _ _) s (se.set r i) (wipe_set hi)
theorem pgs_nilW : PGs X [] (tGsw P vs gsNil) := PGs.weak pgs_nil fun v σ H Q hq => by
  obtain ⟨φ, h, σi, iv, s, se, r, p⟩ := hq
  unfold gsNil at p
  split at p
  · rw [VRs] at r; exact ⟨r, p φ H _ (Ext.refl _ _) s se rfl⟩
  · exact p.elim
theorem pgs_consW {es : List Expr} {g : TM} {gs : TMs} (h1 : PG X a (tGw P vs g)) (h2 : PGs X es (tGsw P vs gs)) (hs : (assignEach (a :: es) X.env).map (·.2) = assign a X.env :: (assignEach es X.env).map (·.2)) :
    PGs X (a :: es) (tGsw P vs (gsCons g gs)) := PGs.weak (pgs_cons h1 h2 hs) fun us σ H Q hq => by
  obtain ⟨φ, h, σi, ivs, s, se, r, p⟩ := hq
  unfold gsCons at p
  split at p
  · rename_i v rest
    rw [VRs] at r
    obtain ⟨u, us, rfl, r1, r2⟩ := r
    refine ⟨u, us, rfl, φ, h, σi, v, s, se, r1, ?_⟩
    split at p
    · rename_i σ1 h1' e
      rw [e]
      refine fun φ' H' σ' ex s' se' w => ⟨φ', h1', σ1, rest, s', se', r2.mono ex, ?_⟩
      have p' := PostGw.ext p ex
      cases q : gs rest σ1 h1' with
      | none => rw [q] at p'; exact p'
      | some z => rw [q] at p'; exact fun φ2 H2 σ2 e2 s2 se2 w2 => p' φ2 H2 σ2 e2 s2 se2 (w2.trans w)
    · exact p.elim
  · exact p.elim
theorem pg_tupW {es : List Expr} {k n : Nat} {gs : TMs} (hK : X.K = P.K) (hc : X.calm = true) (h2 : PGs X es (tGsw P vs gs)) (hn : (assignEach es X.env).length = n) (hst : (assignEach es X.env).findIdx? (·.1) = none) :
    PG X (.Tuple es k pos) (tGw P vs (gTp n gs)) := PG.weak (pg_tup hc h2 hn hst) fun v σ H Q hq => by
  obtain ⟨φ, h, σi, iv, s, se, r, p⟩ := hq
  unfold gTp at p
  split at p
  · obtain ⟨a, vs, rfl, h1, r1⟩ := r.tupI
    split at p
    · rename_i z
      exact ⟨a, vs, rfl, by rw [hK]; exact h1, by rw [r1.length]; exact z, φ, h, σi, _, s, se, r1, p⟩
    · exact p.elim
  · exact p.elim
theorem PTs.weak {es : List Expr} {t t' : TT} (h : PTs X es t) (k : ∀ σ H Q, t' σ H Q → t σ H Q) : PTs X es t' := ⟨fun pins s σ H Q I hw => h.run pins s σ H Q I (k σ H Q hw)⟩
def yesT : IE → M Bool := fun _ h => .ok true h
theorem pts_nilI {W : WX} : PTs X [] (tT P W yesT) := PTs.weak pts_nil fun σ H Q hq => by
  obtain ⟨φ, h, σi, s, se, p⟩ := hq
  exact p φ H (Ext.refl _ _) s
theorem pts_oneI {W : WX} {t : IE → M Bool} (h : PT X a (tT P W t)) : PTs X [a] (tT P W t) := pts_one h
end

def compM (g : TM) (t : IE → M Bool) (f : IE → M IV) (σ0 : IE) : List IV → M (List IV)
  | [] => fun h => .ok [] h
  | x :: xs => fun h => match g x σ0 h with
    | none => .no
    | some (σ1, h1) => match t σ1 h1 with
      | .ok true h2 => (match f σ1 h2 with
        | .ok v h3 => (compM g t f σ0 xs h3).bind fun vs h => .ok (v :: vs) h
        | _ => .no)
      | .ok false h2 => compM g t f σ0 xs h2
      | _ => .no
def lcI (fi : IE → M (List IV)) (g : TM) (t : IE → M Bool) (f : IE → M IV) (ws : List Nat) : IE → M IV := fun σ h => (fi σ h).bind fun xs h =>
  if xs.length ≤ 16777216 then (compM g t f (wipeI σ ws) xs h).bind fun vs h => .ok (.lst vs) h else .no

theorem Out.bind_ok {α β γ : Type} (o : Out α) (k : α → M β) (m : β → M γ) : (o.bind k).bind m = o.bind fun a h => (k a h).bind m := by cases o <;> rfl
theorem Ext.under {φ φ' : List Addr} {H H' : Hp} {D : Addr} {o : HO} (e : Ext φ H φ' H') (hD : H D = none) : Ext φ H φ' (upd H' D o) := by
  have ne : ∀ b u, H b = some u → b ≠ D := fun b u e z => by rw [z, hD] at e; cases e
  exact ⟨e.pre, fun b u k m => (upd_ne (ne b u k)).trans (e.keep b u k m), fun b u k => (upd_ne (ne b _ k)).trans (e.tups b u k), fun b o' u k => (upd_ne (ne b _ k)).trans (e.frzs b o' u k), fun b u k => let ⟨w, z⟩ := e.there b u k; ⟨w, (upd_ne (ne b u k)).trans z⟩⟩

section
variable {X : Cx} {P : Par} {W : WX}
theorem lc_read {fi : IE → M (List IV)} {g : TM} {t : IE → M Bool} {f : IE → M IV} {own : List (Str × Nat)} {av : List Addr} {σ : L2.St} {H : Hp} {Q : VK}
    (hq : tE (P.at av) W (lcI fi g t f (own.map (·.2))) σ H Q) : 
    tLc (tI (P.at av) W fi) (fun v σ H Q => ∃ l, tGw (P.at l) (own.map (·.2)) g v σ H Q) (fun σ H Q => ∃ l, tT (P.at l) WF t σ H Q) (fun σ H Q => ∃ l, tE (P.at l) WF f σ H Q) (own.map (·.2)) σ H Q := by
  generalize own.map (·.2) = ws at hq ⊢
  obtain ⟨φ, h, σi, s, se, p⟩ := hq
  unfold tLc
  refine ⟨φ, h, σi, s, se, ?_⟩
  unfold lcI at p
  cases e : fi σi h with
  | ex x h1 => rw [e] at p; exact p
  | no => rw [e] at p; exact p
  | ok xs h1 =>
    simp only [e, Out.bind] at p
    split at p
    case isFalse => exact p.elim
    rename_i hlen
    intro φ1 H1 J ex1 s1 G D hD
    have p := Post.ext p ex1
    have se1 := (se.mono ex1).wipe ws
    clear ex1 se s e
    have kD : ∀ c ∈ D :: av, c ∈ (P.at av).av ∨ H1 c = none := fun c m => by
      rcases List.mem_cons.mp m with rfl | m
      · exact .inr hD
      · exact .inl m
    -- the turns
    let I : Nat → Hp → Prop := fun i H => ∃ φ h acc accV, SR (P.at (D :: av)) φ H h ∧ H D = some (.lst accV) ∧ VRs (P.at (D :: av)) φ H acc accV ∧ SE (P.at (D :: av)) φ H (wipeI σi ws) (L2.wipe σ ws) ∧ Ext φ1 H1 φ H ∧ acc.length ≤ i ∧
      Post (P.at av) W σ φ1 H1 Q ((compM g t f (wipeI σi ws) (xs.drop i) h).bind fun vs h => .ok (.lst (acc ++ vs)) h)
    have exN : Ext φ1 H1 φ1 (upd H1 D (.lst [])) := Ext.new hD
    refine ⟨fun i m H => i ≤ xs.length ∧ m = xs.length - i ∧ I i H, ⟨xs.length, Nat.zero_le _, by simp, φ1, h1, [], [], ?_, upd_same, VRs.nil, ?_, exN, Nat.le_refl _, by simp only [List.drop_zero, List.nil_append]; exact p⟩, ?_⟩
    · exact SR.avN hD (fun xs z => by cases z) (fun o u z => by cases z) s1
    · exact SE.mono (SE.avI kD se1) exN
    rintro i m H2 ⟨hi, rfl, φ2, h2, acc, accV, s2, hD2, ra, se2, ex2, hal, p2⟩
    by_cases hlt : i < xs.length
    · refine .inr ⟨G.go i φ2 H2 hlt ex2, fun H' => i + 1 ≤ xs.length ∧ I (i + 1) H', ?_, ?_⟩
      · rintro H' ⟨a, b⟩
        exact ⟨xs.length - (i + 1), by omega, a, rfl, b⟩
      intro x H3 y
      have hx : xs[i]? = some xs[i] := by simp [hlt]
      obtain ⟨e1, sr, r⟩ := G.yld i φ2 H2 x H3 ex2 y xs[i] hx
      have e2 : xs.drop i = xs[i] :: xs.drop (i + 1) := List.drop_eq_getElem_cons hlt
      rw [e2] at p2
      unfold compM at p2
      refine ⟨D :: av, φ2, h2, wipeI σi ws, xs[i], sr _ h2 s2, se2.mono e1, r (D :: av) kD, ?_⟩
      have ra3 := ra.mono e1
      have hD3 : H3 D = some (.lst accV) := e1.keep _ _ hD2 (s2.av D List.mem_cons_self).1
      have ex3 := ex2.trans e1
      have se3 := se2.mono e1
      -- the item is added
      have fin : ∀ {φ4 H4 h4 v u}, Ext φ2 H3 φ4 H4 → SR (P.at (D :: av)) φ4 H4 h4 → VR (P.at (D :: av)) φ4 H4 v u →
          Post (P.at av) W σ φ1 H1 Q (((compM g t f (wipeI σi ws) (xs.drop (i + 1)) h4).bind fun vs h => .ok (v :: vs) h).bind fun vs h => .ok (.lst (acc ++ vs)) h) →
          ∃ acc, H4 D = some (.lst acc) ∧ acc.length < sizeLine ∧ i + 1 ≤ xs.length ∧ I (i + 1) (upd H4 D (.lst (acc ++ [u]))) := by
        intro φ4 H4 h4 v u ex s4 r4 p4
        have a4 := s4.av D List.mem_cons_self
        have hD4 : H4 D = some (.lst accV) := ex.keep _ _ hD3 (s2.av D List.mem_cons_self).1
        refine ⟨accV, hD4, ?_, hlt, φ4, h4, acc ++ [v], accV ++ [u], ?_, upd_same, ?_, ?_, ?_, by simp; omega, ?_⟩
        · rw [ra.length]; show acc.length < 2 ^ 24; omega
        · exact SR.avU List.mem_cons_self (fun xs z => by cases z) (fun o u z => by cases z) s4
        · exact VRs.avU List.mem_cons_self a4.2.2.1 a4.2.2.2 _ _ (VRs.append (ra3.mono ex) (VRs.cons r4 VRs.nil))
        · exact SE.avU List.mem_cons_self a4.2.2.1 a4.2.2.2 (se3.mono ex)
        · exact (ex3.trans ex).under hD
        · rw [Out.bind_ok] at p4
          simpa [Out.bind] using p4
      cases q : g xs[i] (wipeI σi ws) h2 with
      | none => rw [q] at p2; exact p2.elim
      | some z =>
        obtain ⟨σ4, h4⟩ := z
        rw [q] at p2
        dsimp only at p2
        intro φ4 H4 σ4' ex4 s4 se4 w4
        rw [wipe_idem] at w4
        refine ⟨w4, D :: av, φ4, h4, σ4, s4, se4, ?_⟩
        cases q5 : t σ4 h4 with
        | ex x h5 => rw [q5] at p2; exact p2.elim
        | no => rw [q5] at p2; exact p2.elim
        | ok b h5 =>
          rw [q5] at p2
          intro φ5 H5 ex5 s5
          cases b with
          | false =>
            rw [if_neg Bool.false_ne_true]
            dsimp only at p2
            have ex' := ex4.trans ex5
            exact ⟨hlt, φ5, h5, acc, accV, s5, ex'.keep _ _ hD3 (s2.av D List.mem_cons_self).1, ra3.mono ex', se3.mono ex', ex3.trans ex', Nat.le_succ_of_le hal, p2⟩
          | true =>
            rw [if_pos rfl]
            dsimp only at p2
            refine ⟨D :: av, φ5, h5, σ4, s5, se4.mono ex5, ?_⟩
            cases q6 : f σ4 h5 with
            | ex x h6 => rw [q6] at p2; exact p2.elim
            | no => rw [q6] at p2; exact p2.elim
            | ok v h6 =>
              rw [q6] at p2
              dsimp only at p2
              exact fun φ6 H6 u ex6 s6 r6 => fin ((ex4.trans ex5).trans ex6) s6 r6 p2
    · have e : i = xs.length := by omega
      subst e
      refine .inl ⟨G.stop φ2 H2 ex2, ?_⟩
      rw [List.drop_length] at p2
      refine p2 φ2 H2 _ ex2 (SR.avD (P := P.at (D :: av)) (fun c m => List.mem_cons_of_mem _ m) s2) ?_
      rw [VR]
      refine ⟨D, accV, rfl, hD2, ⟨(s2.av D List.mem_cons_self).1, fun m => ?_⟩, ?_⟩
      · obtain ⟨_, ⟨o, z⟩, _⟩ := s1.av D m
        rw [hD] at z; cases z
      · rw [List.append_nil]
        exact VRs.avD (P := P.at (D :: av)) (fun c m => List.mem_cons_of_mem _ m) ra
theorem PG.exi {X : Cx} {α : Type} {e : Expr} {t : α → TG} (h : ∀ a, PG X e (t a)) : PG X e (fun v σ H Q => ∃ a, t a v σ H Q) := ⟨fun pins s σ H v u Q I r ⟨a, hw⟩ => (h a).run pins s σ H v u Q I r hw⟩
theorem PTs.exi {X : Cx} {α : Type} {e : List Expr} {t : α → TT} (h : ∀ a, PTs X e (t a)) : PTs X e (fun σ H Q => ∃ a, t a σ H Q) := ⟨fun pins s σ H Q I ⟨a, hw⟩ => (h a).run pins s σ H Q I hw⟩
theorem PE.exi {X : Cx} {α : Type} {e : Expr} {t : α → TE} (h : ∀ a, PE X e (t a)) : PE X e (fun σ H Q => ∃ a, t a σ H Q) := ⟨fun pins s σ H Q I ⟨a, hw⟩ => (h a).run pins s σ H Q I hw⟩
variable {elt tg iter : Expr} {ifs : List Expr} {scope : Scope} {pos : Pos} {fi : IE → M (List IV)} {g : TM} {t : IE → M Bool} {f : IE → M IV} {av : List Addr}
theorem pe_lcI (own : List (Str × Nat)) (hc : X.calm = true) (hN : X.N.Nodup) (hi : PI X tg iter (tI (P.at av) W fi)) (ok : BlkOk X.N X.env.scope scope own)
    (hs : ∀ x, foldedSetIterable iter X.env x = pure x)
    (hg : ∀ (l : List Addr) (s : Shared) (H : Hp) (C : Addr) (cl : List (Str × Addr)) (fp : List Addr), PG (X.blk s H scope (compEnvC scope cl C X.env) fp) tg (tGw (P.at l) (own.map (·.2)) g))
    (ht : ∀ (l : List Addr) (s : Shared) (H : Hp) (C : Addr) (cl : List (Str × Addr)) (fp : List Addr), PTs (X.blk s H scope (compEnvC scope cl C X.env) fp) ifs (tT (P.at l) WF t))
    (he : ∀ (l : List Addr) (s : Shared) (H : Hp) (C : Addr) (cl : List (Str × Addr)) (fp : List Addr), PE (X.blk s H scope (compEnvC scope cl C X.env) fp) elt (tE (P.at l) WF f)) :
    PE X (.ListComp elt [⟨tg, iter, ifs, 0⟩] scope pos) (tE (P.at av) W (lcI fi g t f (own.map (·.2)))) :=
  PE.weak (pe_lc (own := own) hc hN hi ok (fun s H C cl fp => PG.exi fun l => hg l s H C cl fp) (fun s H C cl fp => PTs.exi fun l => ht l s H C cl fp) (fun s H C cl fp => PE.exi fun l => he l s H C cl fp) hs) fun σ H Q hq => lc_read hq
/-- name = [..] on one line -/
theorem ps_setLcI (own : List (Str × Nat)) {i : Nat} {y : Str} {py spos : Pos} (hc : X.calm = true) (hN : X.N.Nodup) (hy : X.N[i]? = some y) (hyl : X.env.scope.names.lookup y = some .local)
    (hsw : swapsWith (.ListComp elt [⟨tg, iter, ifs, 0⟩] scope pos) (some (.Name y py)) spos.line X.env = pure true) (hi : PI X tg iter (tI (P.at av) W fi)) (ok : BlkOk X.N X.env.scope scope own)
    (hs : ∀ x, foldedSetIterable iter X.env x = pure x)
    (hg : ∀ (l : List Addr) (s : Shared) (H : Hp) (C : Addr) (cl : List (Str × Addr)) (fp : List Addr), PG (X.blk s H scope (compEnvC scope cl C X.env) fp) tg (tGw (P.at l) (own.map (·.2)) g))
    (ht : ∀ (l : List Addr) (s : Shared) (H : Hp) (C : Addr) (cl : List (Str × Addr)) (fp : List Addr), PTs (X.blk s H scope (compEnvC scope cl C X.env) fp) ifs (tT (P.at l) WF t))
    (he : ∀ (l : List Addr) (s : Shared) (H : Hp) (C : Addr) (cl : List (Str × Addr)) (fp : List Addr), PE (X.blk s H scope (compEnvC scope cl C X.env) fp) elt (tE (P.at l) WF f)) :
    PS X (.Assign [.Name y py] (.ListComp elt [⟨tg, iter, ifs, 0⟩] scope pos) spos) (tS (P.at av) W (asgS (lcI fi g t f (own.map (·.2))) (gNm i))) :=
  PS.weak (ps_setLc (own := own) hc hN hy hyl hsw hi ok (fun s H C cl fp => PG.exi fun l => hg l s H C cl fp) (fun s H C cl fp => PTs.exi fun l => ht l s H C cl fp) (fun s H C cl fp => PE.exi fun l => he l s H C cl fp) hs) fun D σ H hq => by
  obtain ⟨φ, h, σi, s, se, p⟩ := hq
  refine lc_read (own := own) ⟨φ, h, σi, s, se, (Post.thn se p).mono ?_⟩
  rintro x H1 ⟨φ1, h1, v, s1, se1, r1, p1⟩
  exact p1 φ1 H1 _ (Ext.refl _ _) s1 (se1.set r1 i)
end
end EV
namespace EV
open PySem PySem.Spec PyProof.Rows L2

abbrev RM := List IV → M IV
/-- a builtin's promise -/
def rB (P : Par) (W : WX) (r : RM) : List V → Hp → VK → Prop := fun vs H Q => ∃ φ h σ ivs, SR P φ H h ∧ VRs P φ H ivs vs ∧ Post P W σ φ H Q (r ivs h)
def bltE (r : RM) (fs : IE → M (List IV)) : IE → M IV := fun σ h => (fs σ h).bind r
theorem CallR.weak {X : Cx} {f : Value} {r r' : List V → Hp → VK → Prop} (h : CallR X f r) (k : ∀ xs H Q, r' xs H Q → r xs H Q) : CallR X f r' := fun pins s σ H xs us Q I rs q => h pins s σ H xs us Q I rs (k xs H Q q)
section
variable {X : Cx} {P : Par} {W : WX} {r : RM} {fs : IE → M (List IV)} {x : Str} {p pos : Pos} {e : Expr} {es : List Expr} {id T : String}
theorem blt_read {σ : L2.St} {H : Hp} {Q : VK} (hq : tE P W (bltE r fs) σ H Q) : tCB (rB P W r) (tAr P W fs) σ H Q := by
  obtain ⟨φ, h, σi, s, se, p⟩ := hq
  refine ⟨φ, h, σi, s, se, ?_⟩
  unfold bltE at p
  cases e : fs σi h with
  | ok v h1 =>
    simp only [e, Out.bind] at p
    exact fun φ' H' x ex s' rr => ⟨φ', h1, σ, v, s', rr, Post.ext p ex⟩
  | ex v h1 => simp only [e, Out.bind] at p; exact p
  | no => simp only [e, Out.bind] at p; exact p
theorem pe_bltI (hc : CallR X (.builtin id) (rB P W r)) (hg : Gl X x) (hm : X.mg x = none) (hv : bootBuiltins x = some (.builtin id)) (ha : PA X (e :: es) (tAr P W fs)) (hn : x ≠ "__name__") (hdb : (x == ("__debug__" : Str)) = false)
    (he : starEach (e :: es) X.env = (false, eval e X.env) :: starEach es X.env) (hpl : (backTo pos (starEach es X.env)).any (·.1) = false) : PE X (.Call (.Name x p) (e :: es) [] pos) (tE P W (bltE r fs)) :=
  PE.weak (pe_callB hc hg hm hv ha hn hdb he hpl) fun σ H Q hq => blt_read hq
theorem pe_tyI (hc : CallR X (.type T) (rB P W r)) (hg : Gl X x) (hm : X.mg x = none) (hv : bootBuiltins x = some (.type T)) (ha : PA X (e :: es) (tAr P W fs)) (hn : x ≠ "__name__") (hdb : (x == ("__debug__" : Str)) = false)
    (he : starEach (e :: es) X.env = (false, eval e X.env) :: starEach es X.env) (hpl : (backTo pos (starEach es X.env)).any (·.1) = false) : PE X (.Call (.Name x p) (e :: es) [] pos) (tE P W (bltE r fs)) :=
  PE.weak (pe_callTy hc hg hm hv ha hn hdb he hpl) fun σ H Q hq => blt_read hq
end

def absI : RM := fun xs h => match xs with
  | [.int i] => .ok (.int (if i < 0 then -i else i)) h
  | _ => .no
def maxI : RM := fun xs h => match xs with
  | [.int i, .int j] => .ok (.int (if j > i then j else i)) h
  | _ => .no
def minI : RM := fun xs h => match xs with
  | [.int i, .int j] => .ok (.int (if j < i then j else i)) h
  | _ => .no
def intI : RM := fun xs h => match xs with
  | [.int i] => .ok (.int i) h
  | [.bl b] => .ok (.int (if b then 1 else 0)) h
  | _ => .no
def ordCI : RM := fun xs h => match xs with
  | [.str x] => if x.length = 1 then .ok (.int (x.cps.getD 0 0 : Nat)) h else .no
  | _ => .no
def strI : RM := fun xs h => match xs with
  | [.int i] => if i.natAbs.log2 < 1920 then .ok (.str (toString i)) h else .no
  | _ => .no
/-- the items of a list or a tuple -/
def sqI (h : IH) : IV → Option (List IV)
  | .tup xs => some xs
  | v => lsR h v
def lenI : RM := fun xs h => match xs with
  | [.str z] => if z.length ≤ 16777216 then .ok (.int z.length) h else .no
  | [v] => match sqI h v with
    | some xs => .ok (.int xs.length) h
    | none => .no
  | _ => .no
/-- list(..): one that is left as it is; tuple(..) -/
def listI : RM := fun xs h => match xs with
  | [v] => match sqI h v with
    | some ys => .ok (.lst ys) h
    | none => .no
  | _ => .no
/-- .. one that may change -/
def listIR : RM := fun xs h => match xs with
  | [v] => match sqI h v with
    | some ys => .ok (.ref h.length) (h ++ [.lst ys])
    | none => .no
  | _ => .no
def tupleI : RM := fun xs h => match xs with
  | [v] => match sqI h v with
    | some ys => .ok (.tup ys) h
    | none => .no
  | _ => .no
def blO : IV → Option Bool
  | .bl b => some b
  | _ => none
def inO : IV → Option Int
  | .int b => some b
  | _ => none
def allI : RM := fun xs h => match xs with
  | [v] => match lsR h v with
    | some ys => match mapO blO ys with
      | some bs => .ok (.bl (bs.all id)) h
      | none => .no
    | none => .no
  | _ => .no
def anyI : RM := fun xs h => match xs with
  | [v] => match lsR h v with
    | some ys => match mapO blO ys with
      | some bs => .ok (.bl (bs.any id)) h
      | none => .no
    | none => .no
  | _ => .no
def sumI : RM := fun xs h => match xs with
  | [v] => match lsR h v with
    | some ys => match mapO inO ys with
      | some bs => .ok (.int bs.sum) h
      | none => .no
    | none => .no
  | _ => .no
def maxOf : List Int → Option Int
  | [] => none
  | x :: xs => some (xs.foldl max x)
def minOf : List Int → Option Int
  | [] => none
  | x :: xs => some (xs.foldl min x)
def maxLI : RM := fun xs h => match xs with
  | [v] => match lsR h v with
    | some ys => match (mapO inO ys).bind maxOf with
      | some m => .ok (.int m) h
      | none => .no
    | none => .no
  | _ => .no
def minLI : RM := fun xs h => match xs with
  | [v] => match lsR h v with
    | some ys => match (mapO inO ys).bind minOf with
      | some m => .ok (.int m) h
      | none => .no
    | none => .no
  | _ => .no
def isaIB : RM := fun xs h => match xs with
  | [x, .ty c] => match tyName h x with
    | some t => match isaT t c with
      | some b => .ok (.bl b) h
      | none => .no
    | none => .no
  | _ => .no

section
variable {P : Par} {φ : List Addr} {H : Hp} {h : IH}
theorem VRs.one {x : IV} {vs : List V} (r : VRs P φ H [x] vs) : ∃ v, vs = [v] ∧ VR P φ H x v := by
  rw [VRs] at r
  obtain ⟨v, t, rfl, r1, r2⟩ := r
  rw [VRs] at r2
  subst r2
  exact ⟨v, rfl, r1⟩
theorem VRs.two {x y : IV} {vs : List V} (r : VRs P φ H [x, y] vs) : ∃ v u, vs = [v, u] ∧ VR P φ H x v ∧ VR P φ H y u := by
  rw [VRs] at r
  obtain ⟨v, t, rfl, r1, r2⟩ := r
  obtain ⟨u, rfl, r3⟩ := r2.one
  exact ⟨v, u, rfl, r1, r3⟩
theorem sqI_ok (s : SR P φ H h) {x : IV} {xs : List IV} {v : V} (r : VR P φ H x v) (e : sqI h x = some xs) : ∃ a vs, v = .ref a ∧ (SqL P.K H a vs ∨ SqT P.K H a vs) ∧ VRs P φ H xs vs := by
  unfold sqI at e
  split at e
  · cases e
    obtain ⟨a, vs, rfl, h1, r1⟩ := r.tupI
    exact ⟨a, vs, rfl, .inr h1, r1⟩
  · obtain ⟨a, vs, rfl, h1, r1⟩ := s.lsR r e
    exact ⟨a, vs, rfl, .inl h1, r1⟩
theorem bls_ok : ∀ {xs : List IV} {bs : List Bool} {vs : List V}, mapO blO xs = some bs → VRs P φ H xs vs → vs = bs.map V.bl
  | [], _, _, e, r => by simp only [mapO] at e; cases e; rw [VRs] at r; exact r
  | x :: xs, _, _, e, r => by
    obtain ⟨y, ys, h1, h2, rfl⟩ := mapO_cons e
    rw [VRs] at r
    obtain ⟨v, t, rfl, r1, r2⟩ := r
    rw [bls_ok h2 r2]
    cases x <;> simp [blO] at h1
    subst h1
    rw [VR] at r1
    rw [r1]; rfl
theorem ins_ok : ∀ {xs : List IV} {bs : List Int} {vs : List V}, mapO inO xs = some bs → VRs P φ H xs vs → vs = bs.map V.int
  | [], _, _, e, r => by simp only [mapO] at e; cases e; rw [VRs] at r; exact r
  | x :: xs, _, _, e, r => by
    obtain ⟨y, ys, h1, h2, rfl⟩ := mapO_cons e
    rw [VRs] at r
    obtain ⟨v, t, rfl, r1, r2⟩ := r
    rw [ins_ok h2 r2]
    cases x <;> simp [inO] at h1
    subst h1
    rw [VR] at r1
    rw [r1]; rfl
end
theorem foldl_max_ge : ∀ (xs : List Int) (x : Int), x ≤ xs.foldl max x ∧ (∀ y ∈ xs, y ≤ xs.foldl max x) ∧ (xs.foldl max x = x ∨ xs.foldl max x ∈ xs)
  | [], x => ⟨Int.le_refl _, by simp, .inl rfl⟩
  | z :: xs, x => by
    obtain ⟨h1, h2, h3⟩ := foldl_max_ge xs (max x z)
    rw [List.foldl_cons]
    refine ⟨by omega, fun y hy => ?_, ?_⟩
    · rcases List.mem_cons.mp hy with rfl | hy
      · omega
      · exact h2 y hy
    · rcases h3 with h3 | h3
      · rw [h3]
        by_cases c : x ≤ z
        · right; rw [Int.max_eq_right c]; exact List.mem_cons_self
        · left; exact Int.max_eq_left (by omega)
      · exact .inr (List.mem_cons_of_mem _ h3)
theorem foldl_min_le : ∀ (xs : List Int) (x : Int), xs.foldl min x ≤ x ∧ (∀ y ∈ xs, xs.foldl min x ≤ y) ∧ (xs.foldl min x = x ∨ xs.foldl min x ∈ xs)
  | [], x => ⟨Int.le_refl _, by simp, .inl rfl⟩
  | z :: xs, x => by
    obtain ⟨h1, h2, h3⟩ := foldl_min_le xs (min x z)
    rw [List.foldl_cons]
    refine ⟨by omega, fun y hy => ?_, ?_⟩
    · rcases List.mem_cons.mp hy with rfl | hy
      · omega
      · exact h2 y hy
    · rcases h3 with h3 | h3
      · rw [h3]
        by_cases c : z ≤ x
        · right; rw [Int.min_eq_right c]; exact List.mem_cons_self
        · left; exact Int.min_eq_left (by omega)
      · exact .inr (List.mem_cons_of_mem _ h3)

section
variable {X : Cx} {P : Par} {W : WX}
theorem cr_absI : CallR X (.builtin "abs") (rB P W absI) := CallR.weak call_abs fun vs H Q ⟨φ, h, σ, ivs, s, r, p⟩ => by
  unfold absI at p
  split at p
  · obtain ⟨v, rfl, r1⟩ := r.one
    rw [VR] at r1; subst r1
    exact ⟨_, rfl, p.ret s (by rw [VR])⟩
  · exact p.elim
theorem cr_maxI (hc : X.calm = true) : CallR X (.builtin "max") (rB P W maxI) := CallR.weak (call_max2 hc) fun vs H Q ⟨φ, h, σ, ivs, s, r, p⟩ => by
  unfold maxI at p
  split at p
  · obtain ⟨v, u, rfl, r1, r2⟩ := r.two
    rw [VR] at r1 r2; subst r1 r2
    exact ⟨_, _, rfl, p.ret s (by rw [VR])⟩
  · exact p.elim
theorem cr_minI (hc : X.calm = true) : CallR X (.builtin "min") (rB P W minI) := CallR.weak (call_min2 hc) fun vs H Q ⟨φ, h, σ, ivs, s, r, p⟩ => by
  unfold minI at p
  split at p
  · obtain ⟨v, u, rfl, r1, r2⟩ := r.two
    rw [VR] at r1 r2; subst r1 r2
    exact ⟨_, _, rfl, p.ret s (by rw [VR])⟩
  · exact p.elim
theorem cr_intI : CallR X (.type "int") (rB P W intI) := CallR.weak call_int1 fun vs H Q ⟨φ, h, σ, ivs, s, r, p⟩ => by
  unfold intI at p
  split at p
  · obtain ⟨v, rfl, r1⟩ := r.one
    rw [VR] at r1; subst r1
    exact .inl ⟨_, rfl, p.ret s (by rw [VR])⟩
  · obtain ⟨v, rfl, r1⟩ := r.one
    rw [VR] at r1; subst r1
    exact .inr ⟨_, rfl, p.ret s (by rw [VR])⟩
  · exact p.elim
theorem cr_ordI : CallR X (.builtin "ord") (rB P W ordCI) := CallR.weak call_ord fun vs H Q ⟨φ, h, σ, ivs, s, r, p⟩ => by
  unfold ordCI at p
  split at p
  · obtain ⟨v, rfl, r1⟩ := r.one
    rw [VR] at r1; subst r1
    split at p
    · rename_i z
      exact ⟨_, rfl, z, p.ret s (by rw [VR])⟩
    · exact p.elim
  · exact p.elim
theorem cr_strI : CallR X (.type "str") (rB P W strI) := CallR.weak call_str_int fun vs H Q ⟨φ, h, σ, ivs, s, r, p⟩ => by
  unfold strI at p
  split at p
  · obtain ⟨v, rfl, r1⟩ := r.one
    rw [VR] at r1; subst r1
    split at p
    · rename_i z
      exact ⟨_, rfl, z, p.ret s (by rw [VR])⟩
    · exact p.elim
  · exact p.elim
theorem cr_lenI (hK : X.K = P.K) : CallR X (.builtin "len") (rB P W lenI) := CallR.weak (CallR.or call_len_seq call_len_str) fun vs H Q ⟨φ, h, σ, ivs, s, r, p⟩ => by
  unfold lenI at p
  split at p
  · obtain ⟨v, rfl, r1⟩ := r.one
    rw [VR] at r1; subst r1
    split at p
    · rename_i z
      exact .inr ⟨_, rfl, z, p.ret s (by rw [VR])⟩
    · exact p.elim
  · obtain ⟨v, rfl, r1⟩ := r.one
    split at p
    · rename_i z
      obtain ⟨a, us, rfl, q, r2⟩ := sqI_ok s r1 z
      rw [← r2.length] at p
      exact .inl ⟨a, us, rfl, by rw [hK]; exact q, p.ret s (by rw [VR])⟩
    · exact p.elim
  · exact p.elim
theorem cr_listI (hK : X.K = P.K) : CallR X (.type "list") (rB P W listI) := CallR.weak call_list_of fun vs H Q ⟨φ, h, σ, ivs, s, r, p⟩ => by
  unfold listI at p
  split at p
  · obtain ⟨v, rfl, r1⟩ := r.one
    split at p
    · rename_i z
      obtain ⟨a, us, rfl, q, r2⟩ := sqI_ok s r1 z
      exact ⟨a, us, rfl, by rw [hK]; exact q, fun l hl => p.newLst s r2 hl⟩
    · exact p.elim
  · exact p.elim
theorem cr_listIR (hK : X.K = P.K) : CallR X (.type "list") (rB P W listIR) := CallR.weak call_list_of fun vs H Q ⟨φ, h, σ, ivs, s, r, p⟩ => by
  unfold listIR at p
  split at p
  · obtain ⟨v, rfl, r1⟩ := r.one
    split at p
    · rename_i z
      obtain ⟨a, us, rfl, q, r2⟩ := sqI_ok s r1 z
      exact ⟨a, us, rfl, by rw [hK]; exact q, fun l hl => p.newRef s r2 hl⟩
    · exact p.elim
  · exact p.elim
theorem cr_tupleI (hK : X.K = P.K) : CallR X (.type "tuple") (rB P W tupleI) := CallR.weak call_tuple_of fun vs H Q ⟨φ, h, σ, ivs, s, r, p⟩ => by
  unfold tupleI at p
  split at p
  · rename_i v0
    obtain ⟨v, rfl, r1⟩ := r.one
    split at p
    · rename_i ys z
      unfold sqI at z
      split at z
      · cases z
        obtain ⟨a, us, rfl, q, r2⟩ := r1.tupI
        exact ⟨a, us, rfl, .inr ⟨by rw [hK]; exact q, p.ret s r1⟩⟩
      · obtain ⟨a, us, rfl, q, r2⟩ := s.lsR r1 z
        exact ⟨a, us, rfl, .inl ⟨by rw [hK]; exact q, fun l hl => p.newTup s r2 hl⟩⟩
    · exact p.elim
  · exact p.elim
theorem cr_allI (hK : X.K = P.K) (hc : X.calm = true) : CallR X (.builtin "all") (rB P W allI) := CallR.weak (cr_all hc) fun vs H Q ⟨φ, h, σ, ivs, s, r, p⟩ => by
  unfold allI at p
  split at p
  · obtain ⟨v, rfl, r1⟩ := r.one
    split at p
    · rename_i z
      obtain ⟨a, us, rfl, q, r2⟩ := s.lsR r1 z
      split at p
      · rename_i bs e
        rw [bls_ok e r2] at q
        exact ⟨a, bs, rfl, by rw [hK]; exact q, p.ret s (by rw [VR])⟩
      · exact p.elim
    · exact p.elim
  · exact p.elim
theorem cr_anyI (hK : X.K = P.K) (hc : X.calm = true) : CallR X (.builtin "any") (rB P W anyI) := CallR.weak (cr_any hc) fun vs H Q ⟨φ, h, σ, ivs, s, r, p⟩ => by
  unfold anyI at p
  split at p
  · obtain ⟨v, rfl, r1⟩ := r.one
    split at p
    · rename_i z
      obtain ⟨a, us, rfl, q, r2⟩ := s.lsR r1 z
      split at p
      · rename_i bs e
        rw [bls_ok e r2] at q
        exact ⟨a, bs, rfl, by rw [hK]; exact q, p.ret s (by rw [VR])⟩
      · exact p.elim
    · exact p.elim
  · exact p.elim
theorem cr_sumI (hK : X.K = P.K) (hc : X.calm = true) : CallR X (.builtin "sum") (rB P W sumI) := CallR.weak (cr_sum hc) fun vs H Q ⟨φ, h, σ, ivs, s, r, p⟩ => by
  unfold sumI at p
  split at p
  · obtain ⟨v, rfl, r1⟩ := r.one
    split at p
    · rename_i z
      obtain ⟨a, us, rfl, q, r2⟩ := s.lsR r1 z
      split at p
      · rename_i bs e
        rw [ins_ok e r2] at q
        exact ⟨a, bs, rfl, by rw [hK]; exact q, p.ret s (by rw [VR])⟩
      · exact p.elim
    · exact p.elim
  · exact p.elim
theorem maxOf_ok {bs : List Int} {m : Int} (e : maxOf bs = some m) : 0 < bs.length ∧ m ∈ bs ∧ ∀ y ∈ bs, y ≤ m := by
  cases bs with
  | nil => cases e
  | cons x xs =>
    simp only [maxOf] at e; cases e
    obtain ⟨h1, h2, h3⟩ := foldl_max_ge xs x
    refine ⟨by simp, ?_, fun y hy => ?_⟩
    · rcases h3 with h3 | h3
      · rw [h3]; exact List.mem_cons_self
      · exact List.mem_cons_of_mem _ h3
    · rcases List.mem_cons.mp hy with rfl | hy
      · exact h1
      · exact h2 y hy
theorem minOf_ok {bs : List Int} {m : Int} (e : minOf bs = some m) : 0 < bs.length ∧ m ∈ bs ∧ ∀ y ∈ bs, m ≤ y := by
  cases bs with
  | nil => cases e
  | cons x xs =>
    simp only [minOf] at e; cases e
    obtain ⟨h1, h2, h3⟩ := foldl_min_le xs x
    refine ⟨by simp, ?_, fun y hy => ?_⟩
    · rcases h3 with h3 | h3
      · rw [h3]; exact List.mem_cons_self
      · exact List.mem_cons_of_mem _ h3
    · rcases List.mem_cons.mp hy with rfl | hy
      · exact h1
      · exact h2 y hy
theorem cr_maxLI (hK : X.K = P.K) (hc : X.calm = true) : CallR X (.builtin "max") (rB P W maxLI) := CallR.weak (cr_max hc) fun vs H Q ⟨φ, h, σ, ivs, s, r, p⟩ => by
  unfold maxLI at p
  split at p
  · obtain ⟨v, rfl, r1⟩ := r.one
    split at p
    · rename_i z
      obtain ⟨a, us, rfl, q, r2⟩ := s.lsR r1 z
      split at p
      · rename_i m e
        cases e2 : mapO inO _ with
        | none => rw [e2] at e; cases e
        | some bs =>
        rw [e2] at e
        rw [ins_ok e2 r2] at q
        obtain ⟨k1, k2, k3⟩ := maxOf_ok (show maxOf bs = some m from e)
        refine ⟨a, bs, rfl, by rw [hK]; exact q, k1, fun m' h1 h2 => ?_⟩
        have em : m' = m := Int.le_antisymm (k3 m' h1) (h2 m k2)
        subst em
        exact p.ret s (by rw [VR])
      · exact p.elim
    · exact p.elim
  · exact p.elim
theorem cr_minLI (hK : X.K = P.K) (hc : X.calm = true) : CallR X (.builtin "min") (rB P W minLI) := CallR.weak (cr_min hc) fun vs H Q ⟨φ, h, σ, ivs, s, r, p⟩ => by
  unfold minLI at p
  split at p
  · obtain ⟨v, rfl, r1⟩ := r.one
    split at p
    · rename_i z
      obtain ⟨a, us, rfl, q, r2⟩ := s.lsR r1 z
      split at p
      · rename_i m e
        cases e2 : mapO inO _ with
        | none => rw [e2] at e; cases e
        | some bs =>
        rw [e2] at e
        rw [ins_ok e2 r2] at q
        obtain ⟨k1, k2, k3⟩ := minOf_ok (show minOf bs = some m from e)
        refine ⟨a, bs, rfl, by rw [hK]; exact q, k1, fun m' h1 h2 => ?_⟩
        have em : m' = m := Int.le_antisymm (h2 m k2) (k3 m' h1)
        subst em
        exact p.ret s (by rw [VR])
      · exact p.elim
    · exact p.elim
  · exact p.elim
theorem cr_isaI (hK : X.K = P.K) : CallR X (.builtin "isinstance") (rB P W isaIB) := by
  intro pins s0 σ H xs us Q I rs ⟨φ, h, σ', ivs, s, r, p⟩
  unfold isaIB at p
  split at p
  · obtain ⟨v, u, rfl, r1, r2⟩ := r.two
    rw [VR] at r2; subst r2
    obtain ⟨u1, u2, rfl, rx, ry⟩ := vals2 rs
    split at p
    · rename_i t e
      split at p
      · rename_i b e2
        obtain ⟨ht, Pp, Z, pp, hx⟩ := tyName_kit s r1 e I hK rx
        cases (show u2 = Value.type _ from ry)
        exact PySem.W.kia_one Z I.kIn pp (isaT_kit ht e2) hx fun tk => ⟨.bl b, H, I.tok tk, rfl, p.ret s (by rw [VR])⟩
      · exact p.elim
    · exact p.elim
  · exact p.elim
end
end EV
namespace EV
open PySem PySem.Spec PyProof.Rows L2

def noE : IE → M IV := fun _ _ => .no
def noT : IE → M Bool := fun _ _ => .no
def noS : SM := fun _ _ => .no
section
variable {X : Cx} {P : Par} {W : WX}
theorem pe_no {e : Expr} : PE X e (tE P W noE) := ⟨fun pins s σ H Q I ⟨φ, h, σi, _, _, p⟩ => p.elim⟩
theorem pt_no {e : Expr} : PT X e (tT P W noT) := ⟨fun pins s σ H Q I ⟨φ, h, σi, _, _, p⟩ => p.elim⟩
theorem ps_no {e : Stmt} : PS X e (tS P W noS) := ⟨fun pins s σ H D I ⟨φ, h, σi, _, _, p⟩ => p.elim⟩
theorem pss_no {e : List Stmt} : PSs X e (tS P W noS) := ⟨fun pins s σ H D I ⟨φ, h, σi, _, _, p⟩ => p.elim⟩
theorem takesF {X : Cx} : Takes X WF := fun u s' ⟨a, B, sI, pins, σ, H, cls, d, e, I, nb, up, sky, na, os, ag, w⟩ => w.elim
end

structure FnI (Pr : Program) (w : World) (K : PySem.W.Frag) (mg : Str → Option Value) (base : Heap) (P : Par) (x : Str) (k np : Nat) (c : CM) : Prop where
  ex : ∃ (fA : Addr) (fd : FuncData) (ps : List Str) (ds : List Value) (dvs : List V) (ivd : List IV) (cc : CM), FnOk Pr w K mg base (L2.CX Pr w) k fA fd ps (spI P (np + dvs.length) cc) ∧ mg x = some (.ref fA) ∧ PySem.W.keepIn K (.ref fA) = true ∧
    Binds K fd ps ds ∧ Vals dvs ds ∧ (∀ av φ H, VRs (P.at av) φ H ivd dvs) ∧ c = fun vs => cc (vs ++ ivd)
theorem FnI.mono {Pr : Program} {w : World} {K : PySem.W.Frag} {mg : Str → Option Value} {base : Heap} {P : Par} {x : Str} {j k np : Nat} {c : CM} (F : FnI Pr w K mg base P x j np c) (h : j ≤ k) : FnI Pr w K mg base P x k np c := by
  obtain ⟨fA, fd, ps, ds, dvs, ivd, cc, F1, r⟩ := F.ex
  exact ⟨fA, fd, ps, ds, dvs, ivd, cc, F1.mono h, r⟩
theorem FnI.all {Pr : Program} {w : World} {K : PySem.W.Frag} {mg : Str → Option Value} {base : Heap} {P : Par} {x : Str} {k np : Nat} {c : CM} {fA : Addr} {fd : FuncData} {ps : List Str} (F : FnOk Pr w K mg base (L2.CX Pr w) k fA fd ps (spI P np c)) (hm : mg x = some (.ref fA)) (hk : PySem.W.keepIn K (.ref fA) = true) (hb : Binds K fd ps []) :
    FnI Pr w K mg base P x k np c := ⟨fA, fd, ps, [], [], [], c, F, hm, hk, hb, .nil, fun _ _ _ => VRs.nil, by simp⟩
/-- a call -/
def callE (fz : Option Bool) (np : Nat) (c : CM) (fs : IE → M (List IV)) : IE → M IV := fun σ h => (fs σ h).bind fun vs h => if vs.length = np then (match fz with
  | some z => settle z h.length (c vs h)
  | none => c vs h) else .no
section
variable {X : Cx} {P : Par} {W : WX} {a : Expr} {es : List Expr} {fs : IE → M (List IV)} {pos p0 : Pos} {x : Str} {av : List Addr} {k np : Nat} {c : CM}
theorem pe_callI (fz : Option Bool) (F : FnI X.prog X.w X.K X.mg X.base P x k np c) (hr : Room k X.A) (hg : Gl X x) (tk : Takes X W) (ha : PA X (a :: es) (tAr (P.at av) W fs)) (hdb : (x == ("__debug__" : Str)) = false) (he : starEach (a :: es) X.env = (false, eval a X.env) :: starEach es X.env)
    (hpl : (backTo pos (starEach es X.env)).any (·.1) = false) : PE X (.Call (.Name x p0) (a :: es) [] pos) (tE (P.at av) W (callE fz np c fs)) := by
  obtain ⟨fA, fd, ps, ds, dvs, ivd, cc, F1, hm, hk, hb, hd, hdv, rfl⟩ := F.ex
  refine PE.weak (pe_callSD F1 hr hg hm hk hb hd (fun σ => passAt tk σ) ha hdb he hpl) fun σ H Q hq => ?_
  obtain ⟨φ, h, σi, s, se, p⟩ := hq
  refine ⟨φ, h, σi, s, se, ?_⟩
  unfold callE at p
  cases e : fs σi h with
  | ok v h1 =>
    simp only [e, Out.bind] at p
    intro φ' H' y ex s' r
    split at p
    · rename_i hl
      have p' := Post.ext p ex
      refine ⟨by rw [List.length_append, r.length, hl], av, φ', h1, v ++ ivd, s', r.append (hdv _ _ _), ?_⟩
      refine Post.sigma (P := P.at av) (W := W) (σ := σ) ?_ fun c d H q => q
      cases fz with
      | none => exact p'
      | some z => exact settle_ok s' p'
    · exact p.elim
  | ex v h1 => simp only [e, Out.bind] at p; exact p
  | no => simp only [e, Out.bind] at p; exact p
end

section
variable {P : Par} {φ : List Addr} {H : Hp} {h : IH}
theorem Ext.upd {p : Addr} {o o' : HO} (m : p ∈ φ) (hp : H p = some o) (n1 : ∀ xs, o ≠ .tup xs) (n2 : ∀ x u, o ≠ .frz x u) : Ext φ H φ (L2.upd H p o') := by
  refine ⟨⟨[], by simp, by simp⟩, fun b u e k => (upd_ne (fun z => k (by rw [z]; exact m))).trans e, fun b xs e => (upd_ne (fun z => ?_)).trans e, fun b x u e => (upd_ne (fun z => ?_)).trans e, fun b u e => ?_⟩
  · rw [z, hp] at e; exact n1 _ (Option.some.inj e)
  · rw [z, hp] at e; exact n2 _ _ (Option.some.inj e)
  · by_cases z : b = p
    · subst z; exact ⟨o', upd_same⟩
    · exact ⟨u, (upd_ne z).trans e⟩
theorem SR.ne (s : SR P φ H h) {n m : Nat} {a b : Addr} (e1 : φ[n]? = some a) (e2 : φ[m]? = some b) (hne : n ≠ m) : a ≠ b := by
  intro z
  subst z
  obtain ⟨h1, q1⟩ := List.getElem?_eq_some_iff.mp e1
  obtain ⟨h2, q2⟩ := List.getElem?_eq_some_iff.mp e2
  exact hne ((List.getElem_inj s.nd).mp (q1.trans q2.symm))
theorem SR.write (s : SR P φ H h) {n : Nat} {p : Addr} {o o' : HO} {io : IO} (e : φ[n]? = some p) (hp : H p = some o) (n1 : ∀ xs, o ≠ .tup xs) (n2 : ∀ x u, o ≠ .frz x u) (r : OR P φ (L2.upd H p o') p io) : SR P φ (L2.upd H p o') (h.set n io) := by
  have ex : Ext φ H φ (L2.upd H p o') := Ext.upd (List.mem_of_getElem? e) hp n1 n2
  refine ⟨by rw [List.length_set]; exact s.len, s.nd, s.av.mono ex, fun m io' a e1 e2 => ?_⟩
  by_cases z : n = m
  · subst z
    rw [e] at e2; cases e2
    rw [List.getElem?_set] at e1
    split at e1
    · split at e1
      · cases e1; exact r
      · cases e1
    · rename_i k; exact absurd rfl k
  · rw [List.getElem?_set_ne z] at e1
    exact OR.keep ex (fun u q => (upd_ne (Ne.symm (s.ne e e2 z))).trans q) (s.obj m io' a e1 e2)
end

/-- xs[i] = v, xs a list that may change -/
def setM (o i v : IV) : IH → Option IH := fun h => match o, i with
  | .ref n, .int k => match h[n]? with
    | some (.lst xs) => match ixN xs.length k with
      | some j => some (h.set n (.lst (xs.set j v)))
      | none => none
    | _ => none
  | _, _ => none
def rSt (P : Par) (f : IV → IV → IV → IH → Option IH) : TSet := fun o i v H Q => ∃ φ h io ii iv, SR P φ H h ∧ VR P φ H io o ∧ VR P φ H ii i ∧ VR P φ H iv v ∧ match f io ii iv h with
  | some h' => ∀ H', Ext φ H φ H' → SR P φ H' h' → Q H'
  | none => False
theorem PSet.weak {X : Cx} {t t' : TSet} (h : PSet X t) (k : ∀ o i v H Q, t' o i v H Q → t o i v H Q) : PSet X t' := fun pins s σ H o i v ov iv u Q I ro ri rv q => h pins s σ H o i v ov iv u Q I ro ri rv (k _ _ _ _ _ q)
section
variable {X : Cx} {P : Par} {W : WX} {pos : Pos}
theorem st_setM : PSet X (rSt P setM) := PSet.weak set_list fun o i v H Q q => by
  obtain ⟨φ, h, io, ii, iv, s, ro, ri, rv, p⟩ := q
  unfold setM at p
  split at p
  · rename_i h' e
    split at e
    · split at e
      · rename_i n k hx xs hn
        split at e
        · rename_i j hj
          cases e
          rw [VR] at ri; subst ri
          obtain ⟨a, vs, ha, rfl, hH, r⟩ := s.lst ro hn
          refine ⟨a, vs, k, j, rfl, rfl, hH, by rw [r.length]; exact hj, ?_⟩
          have n1 : ∀ xs, HO.lst vs ≠ .tup xs := fun xs z => by cases z
          have n2 : ∀ x u, HO.lst vs ≠ .frz x u := fun x u z => by cases z
          have ex : Ext φ H φ (L2.upd H a (.lst (vs.set j v))) := Ext.upd (List.mem_of_getElem? ha) hH n1 n2
          exact p _ ex (s.write ha hH n1 n2 ⟨_, upd_same, VRs.set (r.mono ex) (rv.mono ex)⟩)
        · cases e
      · cases e
    · cases e
  · exact p.elim
/-- target o[i]: the value is there first -/
def gSb (f : IV → IV → IV → IH → Option IH) (fo fi : IE → M IV) : TM := fun v σ h => match fo σ h with
  | .ok o h => match fi σ h with
    | .ok i h => match f o i v h with
      | some h => some (σ, h)
      | none => none
    | _ => none
  | _ => none
theorem pg_sbI {f : IV → IV → IV → IH → Option IH} {o i : Expr} {fo fi : IE → M IV} (ho : PE X o (tE P W fo)) (hi : PE X i (tE P W fi)) (hs : PSet X (rSt P f))
    (ha : ∀ v, assign (.Subscript o i pos) X.env v = (do
      let ov ← holding [v] (eval o X.env)
      let iv ← holding [v, ov] (eval i X.env)
      standAt pos
      holding [v, ov, iv] (setItem ov iv v)
      release [v, ov, iv] [])) : PG X (.Subscript o i pos) (tG P (gSb f fo fi)) := PG.weak (pg_sub ho hi hs ha) fun v σ H Q hq => by
  obtain ⟨φ, h, σi, iv, s, se, r, p⟩ := hq
  unfold gSb at p
  refine ⟨φ, h, σi, s, se, ?_⟩
  split at p
  · rename_i io h1 e1
    rw [e1]
    intro φ1 H1 xo ex1 s1 r1
    refine ⟨φ1, h1, σi, s1, se.mono ex1, ?_⟩
    split at p
    · rename_i ii h2 e2
      rw [e2]
      intro φ2 H2 xi ex2 s2 r2
      refine ⟨φ2, h2, io, ii, iv, s2, r1.mono ex2, r2, (r.mono ex1).mono ex2, ?_⟩
      split at p
      · rename_i h3 e3
        exact fun H3 ex3 s3 => p φ2 H3 σ ((ex1.trans ex2).trans ex3) s3 (((se.mono ex1).mono ex2).mono ex3)
      · exact p.elim
    · exact p.elim
  · exact p.elim

abbrev RMt := IV → List IV → M IV
def rM (P : Par) (W : WX) (r : RMt) : V → List V → Hp → VK → Prop := fun x vs H Q => ∃ φ h σ iv ivs, SR P φ H h ∧ VR P φ H iv x ∧ VRs P φ H ivs vs ∧ Post P W σ φ H Q (r iv ivs h)
end
end EV
namespace EV
open PySem PySem.Spec PyProof.Rows L2 RZ

section
variable {P : Par} {φ : List Addr} {H : Hp}
theorem VR.i {i : Int} : VR P φ H (.int i) (.int i) := by rw [VR]
theorem VR.t {i : String} : VR P φ H (.ty i) (.ty i) := by rw [VR]
theorem VR.n : VR P φ H .non .non := by rw [VR]
theorem VR.b {b : Bool} : VR P φ H (.bl b) (.bl b) := by rw [VR]
theorem VR.s {x : Str} : VR P φ H (.str x) (.str x) := by rw [VR]
end
abbrev brkS : SM := fun σ h => .bk σ h
abbrev cntS : SM := fun σ h => .ct σ h
abbrev retNS : SM := fun _ h => .rt .non h
abbrev chnT (g g' : G2) (fa fb fc : IE → M IV) : IE → M Bool := fun σ h => (chnE g g' fa fb fc σ h).bind boolM
theorem units65 {k : Nat} {A : Around} (hr : Room k A) : A.units + 65 < cLine := by have := hr.un; omega
def gNo : TM := fun _ _ _ => none
section
variable {X : Cx} {P : Par} {W : WX} {e e2 : Expr} {p pos tpos : Pos}
theorem pg_no {e : Expr} : PG X e (tG P gNo) := ⟨fun pins s σ H v u Q I r ⟨φ, h, σi, iv, _, _, _, p⟩ => p.elim⟩
/-- zip of two lists, of two tuples -/
def zipV (xs ys : List IV) : List IV := (xs.zip ys).map fun p => .tup [p.1, p.2]
def zipIt (fs : IE → M (List IV)) : IE → M (List IV) := fun σ h => (fs σ h).bind fun vs h => match vs with
  | [.tup xs, .tup ys] => .ok (zipV xs ys) h
  | [x, y] => match x, y with
    | .lst xs, .lst ys => .ok (zipV xs ys) h
    | .scr xs, .lst ys => .ok (zipV xs ys) h
    | .lst xs, .scr ys => .ok (zipV xs ys) h
    | .scr xs, .scr ys => .ok (zipV xs ys) h
    | _, _ => .no
  | _ => .no
theorem zipV_get {xs ys : List IV} {i : Nat} {v : IV} (h : (zipV xs ys)[i]? = some v) : ∃ x y, xs[i]? = some x ∧ ys[i]? = some y ∧ v = .tup [x, y] := by
  unfold zipV at h
  rw [List.getElem?_map] at h
  cases q : (xs.zip ys)[i]? with
  | none => rw [q] at h; cases h
  | some z =>
    rw [q] at h
    cases h
    obtain ⟨h1, h2⟩ := List.getElem?_zip_eq_some.mp q
    exact ⟨z.1, z.2, h1, h2, rfl⟩
theorem zipV_length {xs ys : List IV} : (zipV xs ys).length = min xs.length ys.length := by simp [zipV]
theorem goes_zip {a b : Addr} {xs ys : List IV} {vs us : List V} {φ : List Addr} {H : Hp} (st : ∀ φ' H', Ext φ H φ' H' → SqL X.K H' a vs ∧ SqL X.K H' b us) (r : VRs P φ H xs vs) (r2 : VRs P φ H ys us) : Goes P (Itz X.K a b) (zipV xs ys) φ H := by
  refine ⟨fun φ' H' e => ⟨vs, us, (st _ _ e).1, (st _ _ e).2, by rw [r.length, r2.length, zipV_length]; omega⟩, fun i φ' H' hi e => ?_, fun i φ' H' x H2 e y v hv => ?_⟩
  · rw [zipV_length] at hi
    have h1 : i < vs.length := by rw [r.length]; omega
    have h2 : i < us.length := by rw [r2.length]; omega
    exact ⟨vs, us, vs[i], us[i], (st _ _ e).1, (st _ _ e).2, by simp [h1], by simp [h2]⟩
  · obtain ⟨T, x1, y1, rfl, hT, rfl, q1, q2⟩ := y
    obtain ⟨x0, y0, e1, e2, rfl⟩ := zipV_get hv
    obtain ⟨u1, k1, r1⟩ := r.get e1
    obtain ⟨u2, k2, r3⟩ := r2.get e2
    have z1 := q1 vs (st _ _ e).1
    have z2 := q2 us (st _ _ e).2
    rw [z1] at k1; cases k1
    rw [z2] at k2; cases k2
    have ex := Ext.new (φ := φ') (o := .tup [x1, y1]) hT
    refine ⟨ex, fun R h s => s.untold hT, fun l k => ?_⟩
    rw [VR]
    have e' := e.trans ex
    exact ⟨T, [x1, y1], rfl, .of upd_same, VRs.cons (VR.mono e' _ _ (VR.avI k _ _ r1)) (VRs.cons (VR.mono e' _ _ (VR.avI k _ _ r3)) VRs.nil)⟩
theorem goes_zipT {a b : Addr} {xs ys : List IV} {vs us : List V} {φ : List Addr} {H : Hp} (st : ∀ φ' H', Ext φ H φ' H' → SqT X.K H' a vs ∧ SqT X.K H' b us) (r : VRs P φ H xs vs) (r2 : VRs P φ H ys us) : Goes P (ItzT X.K a b) (zipV xs ys) φ H := by
  refine ⟨fun φ' H' e => ⟨vs, us, (st _ _ e).1, (st _ _ e).2, by rw [r.length, r2.length, zipV_length]; omega⟩, fun i φ' H' hi e => ?_, fun i φ' H' x H2 e y v hv => ?_⟩
  · rw [zipV_length] at hi
    have h1 : i < vs.length := by rw [r.length]; omega
    have h2 : i < us.length := by rw [r2.length]; omega
    exact ⟨vs, us, vs[i], us[i], (st _ _ e).1, (st _ _ e).2, by simp [h1], by simp [h2]⟩
  · obtain ⟨T, x1, y1, rfl, hT, rfl, q1, q2⟩ := y
    obtain ⟨x0, y0, e1, e2, rfl⟩ := zipV_get hv
    obtain ⟨u1, k1, r1⟩ := r.get e1
    obtain ⟨u2, k2, r3⟩ := r2.get e2
    have z1 := q1 vs (st _ _ e).1
    have z2 := q2 us (st _ _ e).2
    rw [z1] at k1; cases k1
    rw [z2] at k2; cases k2
    have ex := Ext.new (φ := φ') (o := .tup [x1, y1]) hT
    refine ⟨ex, fun R h s => s.untold hT, fun l k => ?_⟩
    rw [VR]
    have e' := e.trans ex
    exact ⟨T, [x1, y1], rfl, .of upd_same, VRs.cons (VR.mono e' _ _ (VR.avI k _ _ r1)) (VRs.cons (VR.mono e' _ _ (VR.avI k _ _ r3)) VRs.nil)⟩
/-- a list that stands as it is -/
theorem VR.stands (hK : X.K = P.K) {x : IV} {xs : List IV} {v : V} {φ : List Addr} {H : Hp} (hx : x = .lst xs ∨ x = .scr xs) (r : VR P φ H x v) : ∃ a vs, v = .ref a ∧ (∀ φ' H', Ext φ H φ' H' → SqL X.K H' a vs) ∧ VRs P φ H xs vs := by
  rcases hx with rfl | rfl
  · rw [VR] at r
    obtain ⟨a, vs, rfl, h2, hn, r1⟩ := r
    exact ⟨a, vs, rfl, fun φ' H' e => .of (e.keep _ _ h2 hn.1), r1⟩
  · rw [VR] at r
    obtain ⟨a, vs, rfl, h2, r1⟩ := r
    exact ⟨a, vs, rfl, fun φ' H' e => by rw [hK]; exact (e.sqLi h2).sqL, r1⟩
theorem pi_zipI {elts : List Expr} {kk : Nat} {fs : IE → M (List IV)} (hK : X.K = P.K) (hg : Gl X "zip") (hm : X.mg "zip" = none) (ha : PA X [e, e2] (tAr P W fs)) (hs : starEach [e, e2] X.env = (false, eval e X.env) :: starEach [e2] X.env) (hpl : (backTo pos (starEach [e2] X.env)).any (·.1) = false) :
    PI X (.Tuple elts kk tpos) (.Call (.Name "zip" p) [e, e2] [] pos) (tI P W (zipIt fs)) := PI.weak (pi_zipA hg hm ha hs hpl) fun σ H R hq => by
  obtain ⟨φ, h, σi, s, se, p⟩ := hq
  refine ⟨φ, h, σi, s, se, ?_⟩
  unfold zipIt at p
  cases e : fs σi h with
  | ok v h1 =>
    simp only [e, Out.bind] at p
    intro φ' H' us ex s' r
    have two : ∀ {x y : IV} {xs ys : List IV}, (x = .lst xs ∨ x = .scr xs) → (y = .lst ys ∨ y = .scr ys) → VRs P φ' H' [x, y] us → PostI P W σ φ H R (.ok (zipV xs ys) h1) →
        ∃ a b xs ys, us = [V.ref a, V.ref b] ∧ ((SqL X.K H' a xs ∧ SqL X.K H' b ys ∧ R (Itz X.K a b) H') ∨ (SqT X.K H' a xs ∧ SqT X.K H' b ys ∧ R (ItzT X.K a b) H')) := by
      intro x y xs ys hx hy r p
      obtain ⟨v, u, rfl, r1, r2⟩ := r.two
      obtain ⟨a, vs, rfl, h3, h4⟩ := VR.stands hK hx r1
      obtain ⟨b, ws, rfl, h5, h6⟩ := VR.stands hK hy r2
      exact ⟨a, b, vs, ws, rfl, .inl ⟨h3 _ _ (Ext.refl _ _), h5 _ _ (Ext.refl _ _), p φ' H' _ ex s' (goes_zip (fun φ2 H2 e => ⟨h3 _ _ e, h5 _ _ e⟩) h4 h6)⟩⟩
    split at p
    · obtain ⟨v, u, rfl, r1, r2⟩ := r.two
      obtain ⟨a, vs, rfl, h3, h4⟩ := r1.tupI
      obtain ⟨b, ws, rfl, h5, h6⟩ := r2.tupI
      exact ⟨a, b, vs, ws, rfl, .inr ⟨by rw [hK]; exact h3, by rw [hK]; exact h5, p φ' H' _ ex s' (goes_zipT (fun φ2 H2 e => by rw [hK]; exact ⟨e.seqT h3, e.seqT h5⟩) h4 h6)⟩⟩
    · split at p
      · exact two (.inl rfl) (.inl rfl) r p
      · exact two (.inr rfl) (.inl rfl) r p
      · exact two (.inl rfl) (.inr rfl) r p
      · exact two (.inr rfl) (.inr rfl) r p
      · exact p.elim
    · exact p.elim
  | ex v h1 => simp only [e, Out.bind] at p; exact p
  | no => simp only [e, Out.bind] at p; exact p
end
end EV
namespace EV
open PySem PySem.Spec PyProof.Rows L2 RZ

/-- a tuple that can be a key -/
def isKT (x : IV) : Bool := match x, keyOf x with
  | .tup _, some k => decide (k.depth ≤ 8)
  | _, _ => false
def dfind (q : NestedKey) : List IV → List IV → Option IV
  | k :: ks, u :: us => if keyOf k = some q then some u else dfind q ks us
  | _, _ => none
def dset (q : NestedKey) (v : IV) : List IV → List IV → List IV
  | k :: ks, u :: us => if keyOf k = some q then v :: us else u :: dset q v ks us
  | _, us => us
def dhas (q : NestedKey) (ks : List IV) : Bool := ks.any fun k => decide (keyOf k = some q)
/-- d[k] = v -/
def dput (k v : IV) (ks us : List IV) : List IV × List IV := match keyOf k with
  | some q => if dhas q ks = true then (ks, dset q v ks us) else (ks ++ [k], us ++ [v])
  | none => (ks, us)
/-- a dict's keys and values -/
def dctO (h : IH) : IV → Option (List IV × List IV)
  | .dct ks us => some (ks, us)
  | .ref n => match h[n]? with
    | some (.dct ks us) => some (ks, us)
    | _ => none
  | _ => none

/-- an atom that can be a key: no bool -/
def leafOf : IV → Option Leaf
  | .non => some .none
  | .int i => some (.num i)
  | .str x => some (.text x)
  | _ => none
def isKA (x : IV) : Bool := (leafOf x).isSome
def allKT (ks : List IV) : Bool := ks.all isKT
def allKA (ks : List IV) : Bool := ks.all isKA
/-- the key and the dict's keys are all tuples, or all atoms -/
def kindOk (k : IV) (ks : List IV) : Bool := (isKT k && allKT ks) || (isKA k && allKA ks)

def leafIs (k : Leaf) (v : Value) : Bool := match v with
  | .bool _ => false
  | v => Leaf.isOf k v
theorem leafIs_of {k : Leaf} {v : Value} (h : leafIs k v = true) : Leaf.isOf k v = true := by
  unfold leafIs at h
  split at h
  · cases h
  · exact h
def atomKind (prog : Program) (w : World) : KeyKind prog w Leaf where
  is := leafIs
  hash := fun k => k.key.hash w
  inj := fun v a b ha hb => (leafKind prog w).inj v a b (leafIs_of ha) (leafIs_of hb)
  byValue := fun k v h => (leafKind prog w).byValue k v (leafIs_of h)
  pyHash := fun hv h => (leafKind prog w).pyHash (leafIs_of hv) h
  eqBool := fun hu hv h => (leafKind prog w).eqBool (leafIs_of hu) (leafIs_of hv) h
  «strs» := fun k x t v h => by
    have e := (leafKind prog w).strs k x t v (leafIs_of h)
    have e2 : Leaf.isOf k v = v.isStr x := e
    show leafIs k v = v.isStr x
    rw [← e2]
    unfold leafIs
    split
    · rw [e2]; rfl
    · rfl
/-- the atom as a value -/
def vA : Leaf → V
  | .none => .non
  | .num i => .int i
  | .text x => .str x
theorem rel_vA {l : Leaf} {u : Value} : L2.RelV (vA l) u ↔ leafIs l u = true := by
  cases l with
  | none =>
    constructor
    · intro r; cases (show u = Value.none from r); rfl
    · intro h; cases u <;> first | rfl | cases h
  | num i =>
    constructor
    · rintro ⟨t, rfl⟩; exact decide_eq_true rfl
    · intro h
      cases u with
      | int j t =>
        have e : j = i := of_decide_eq_true (show decide (j = i) = true from h)
        subst e; exact ⟨t, rfl⟩
      | _ => cases h
  | text x =>
    constructor
    · rintro ⟨t, rfl⟩
      show Value.isStrOf x (.str x t) = true
      simp [Value.isStrOf]
    · intro h
      have h2 : Value.isStrOf x u = true := by
        have := leafIs_of h
        cases u <;> exact this
      obtain ⟨t, rfl⟩ := Value.isStrOf_shape h2
      exact ⟨t, rfl⟩

abbrev NK (X : Cx) := nestedKind X.prog X.w
abbrev AK (X : Cx) := atomKind X.prog X.w
abbrev XsH := List (NestedKey × Addr × Value)
abbrev XsA := List (Leaf × Value)
/-- the entries by their keys: the key, the key's value, the value -/
abbrev Xs := List (NestedKey × V × Value)
def convH (xs : XsH) : Xs := xs.map fun x => (x.1, V.ref x.2.1, x.2.2)
def convA (xs : XsA) : Xs := xs.map fun x => (x.1.key, vA x.1, x.2)
/-- the raw entry, the entry by its key -/
def EnR (w : World) (p : Int × V × V) (q : NestedKey × V × Value) : Prop := p.1 = q.1.hash w ∧ p.2.1 = q.2.1 ∧ L2.RelV p.2.2 q.2.2
def atG (xs : Xs) (q : NestedKey) : Option (V × Value) := (xs.find? fun x => decide (x.1 = q)).map (·.2)
def putG (q : NestedKey) (v : Value) (x : NestedKey × V × Value) : NestedKey × V × Value := if x.1 = q then (x.1, x.2.1, v) else x
def storedG (xs : Xs) (q : NestedKey) (kv : V) (v : Value) : Xs := if (atG xs q).isSome then xs.map (putG q v) else xs ++ [(q, kv, v)]
theorem atG_nil {q : NestedKey} : atG [] q = none := rfl
theorem atG_pos {x : NestedKey × V × Value} {xs : Xs} {q : NestedKey} (h : x.1 = q) : atG (x :: xs) q = some x.2 := by simp [atG, h]
theorem atG_neg {x : NestedKey × V × Value} {xs : Xs} {q : NestedKey} (h : x.1 ≠ q) : atG (x :: xs) q = atG xs q := by simp [atG, List.find?_cons, h]
theorem atG_mem {q : NestedKey} : ∀ {xs : Xs}, (atG xs q).isSome = true ↔ q ∈ xs.map (·.1)
  | [] => by simp [atG]
  | x :: xs => by
    by_cases h : x.1 = q
    · rw [atG_pos h]; simp [h]
    · rw [atG_neg h, atG_mem (xs := xs)]
      simp only [List.map_cons, List.mem_cons]
      constructor
      · exact .inr
      · rintro (e | e)
        · exact absurd e.symm h
        · exact e
theorem putG_out {q : NestedKey} {v : Value} {xs : Xs} (h : q ∉ xs.map (·.1)) : xs.map (putG q v) = xs := by
  have : ∀ x ∈ xs, putG q v x = x := fun x m => by
    unfold putG
    rw [if_neg fun e => h (List.mem_map.mpr ⟨x, m, e⟩)]
  calc xs.map (putG q v) = xs.map id := List.map_congr_left this
    _ = xs := List.map_id xs
theorem putG_keys {q : NestedKey} {v : Value} {xs : Xs} : (xs.map (putG q v)).map (·.1) = xs.map (·.1) := by
  rw [List.map_map]
  refine List.map_congr_left fun x _ => ?_
  show (putG q v x).1 = x.1
  unfold putG
  split <;> rfl
theorem atG_H {q : NestedKey} : ∀ {xs : XsH}, atG (convH xs) q = (atKey xs q).map fun p => (V.ref p.1, p.2)
  | [] => rfl
  | x :: xs => by
    have ih := atG_H (q := q) (xs := xs)
    by_cases h : x.1 = q
    · show atG ((x.1, V.ref x.2.1, x.2.2) :: convH xs) q = _
      rw [atG_pos h]
      simp [atKey, h]
    · show atG ((x.1, V.ref x.2.1, x.2.2) :: convH xs) q = _
      rw [atG_neg h, ih]
      simp [atKey, List.find?_cons, h]
theorem atG_A {l : Leaf} : ∀ {xs : XsA}, atG (convA xs) l.key = (valueAt xs l).map fun v => (vA l, v)
  | [] => rfl
  | x :: xs => by
    have ih := atG_A (l := l) (xs := xs)
    by_cases h : x.1 = l
    · show atG ((x.1.key, vA x.1, x.2) :: convA xs) l.key = _
      rw [atG_pos (by show x.1.key = l.key; rw [h])]
      simp [valueAt, h]
    · show atG ((x.1.key, vA x.1, x.2) :: convA xs) l.key = _
      rw [atG_neg (fun e => h (Leaf.key_inj e)), ih]
      simp [valueAt, List.find?_cons, h]
theorem storedG_H {q : NestedKey} {a : Addr} {v : Value} {xs : XsH} : storedG (convH xs) q (V.ref a) v = convH (storedH xs q a v) := by
  unfold storedG storedH
  rw [atG_H, Option.isSome_map]
  split
  · unfold convH
    rw [List.map_map, List.map_map]
    refine List.map_congr_left fun x _ => ?_
    show putG q v (x.1, V.ref x.2.1, x.2.2) = ((putAt q v x).1, V.ref (putAt q v x).2.1, (putAt q v x).2.2)
    unfold putG putAt
    by_cases h : x.1 = q
    · rw [if_pos h, if_pos h]
    · rw [if_neg h, if_neg h]
  · simp [convH]
theorem storedG_A {l : Leaf} {v : Value} {xs : XsA} : storedG (convA xs) l.key (vA l) v = convA (stored xs l v) := by
  unfold storedG stored
  have e : (atG (convA xs) l.key).isSome = xs.any fun kv => decide (kv.1 = l) := by
    rw [atG_A, Option.isSome_map]
    unfold valueAt
    rw [Option.isSome_map, Bool.eq_iff_iff, List.find?_isSome, List.any_eq_true]
  rw [e]
  split
  · unfold convA
    rw [List.map_map, List.map_map]
    refine List.map_congr_left fun x _ => ?_
    by_cases h : x.1 = l
    · simp [putG, h]
    · have h2 : x.1.key ≠ l.key := fun e => h (Leaf.key_inj e)
      simp [putG, h, h2]
  · simp [convA]
section
variable {X : Cx} {P : Par} {φ : List Addr} {H : Hp} {h : IH} {pins : List (Addr × Obj)} {σ : L2.St} {s : Shared}
mutual
theorem nested_of (I : Inv X pins σ H s) (hK : X.K = P.K) : ∀ (x : IV) (v : V) (u : Value) (k : NestedKey), keyOf x = some k → VR P φ H x v → L2.RelV v u → NestedIs s.heap k u
  | .non, v, u, k, e, r, rv => by
    simp only [keyOf] at e; cases e; rw [VR] at r; subst r
    cases (show u = Value.none from rv); exact .none
  | .bl b, v, u, k, e, r, rv => by
    simp only [keyOf] at e; cases e; rw [VR] at r; subst r
    cases (show u = Value.bool b from rv); exact .bool rfl
  | .int i, v, u, k, e, r, rv => by
    simp only [keyOf] at e; cases e; rw [VR] at r; subst r
    obtain ⟨t, z⟩ := (show ∃ t, u = Value.int i t from rv); cases z; exact .int i t
  | .str x, v, u, k, e, r, rv => by
    simp only [keyOf] at e; cases e; rw [VR] at r; subst r
    obtain ⟨t, z⟩ := (show ∃ t, u = Value.str x t from rv); cases z; exact .text x t
  | .tup xs, v, u, k, e, r, rv => by
    simp only [keyOf] at e
    split at e
    · rename_i ks q; cases e
      obtain ⟨a, vs, rfl, h1, r1⟩ := r.tupI
      cases (show u = Value.ref a from rv)
      obtain ⟨its, rv', pl, _⟩ := I.tuple (by rw [hK]; exact h1)
      obtain ⟨o, ho, hc, n, hd⟩ := pl
      exact .tup ho hc hd (by simpa using nestedAll_of I hK xs vs its ks q r1 rv')
    · cases e
  | .lst _, _, _, _, e, _, _ => by simp [keyOf] at e
  | .scr _, _, _, _, e, _, _ => by simp [keyOf] at e
  | .dct _ _, _, _, _, e, _, _ => by simp [keyOf] at e
  | .ref _, _, _, _, e, _, _ => by simp [keyOf] at e
  | .ty _, _, _, _, e, _, _ => by simp [keyOf] at e
  | .glo _, _, _, _, e, _, _ => by simp [keyOf] at e
theorem nestedAll_of (I : Inv X pins σ H s) (hK : X.K = P.K) : ∀ (xs : List IV) (vs : List V) (us : List Value) (ks : List NestedKey), keysOf xs = some ks → VRs P φ H xs vs → Vals vs us → NestedAll s.heap ks us
  | [], _, _, _, e, r, rv => by
    simp only [keysOf] at e; cases e
    rw [VRs] at r; subst r
    cases rv; exact .nil
  | x :: xs, _, _, _, e, r, rv => by
    simp only [keysOf] at e
    split at e
    · rename_i k ks q1 q2; cases e
      rw [VRs] at r
      obtain ⟨v, t, rfl, r1, r2⟩ := r
      cases rv with
      | cons a b => exact .cons (nested_of I hK x v _ k q1 r1 a) (nestedAll_of I hK xs t _ ks q2 r2 b)
    · cases e
end
theorem isKT_ok {x : IV} (e : isKT x = true) : ∃ k, keyOf x = some k ∧ k.depth ≤ 8 ∧ ∃ xs, x = .tup xs := by
  unfold isKT at e
  split at e
  · rename_i xs k q; exact ⟨k, q, of_decide_eq_true e, _, rfl⟩
  · cases e
/-- a key as the kind wants it -/
theorem key_is (I : Inv X pins σ H s) (hK : X.K = P.K) {x : IV} {v : V} {u : Value} (e : isKT x = true) (r : VR P φ H x v) (rv : L2.RelV v u) : ∃ a k, v = .ref a ∧ u = .ref a ∧ keyOf x = some k ∧ (NK X).is s.heap k a := by
  obtain ⟨k, q, d, xs, rfl⟩ := isKT_ok e
  have z := nested_of I hK _ v u k q r rv
  obtain ⟨a, vs, rfl, _, _⟩ := r.tupI
  cases (show u = Value.ref a from rv)
  exact ⟨a, k, rfl, rfl, q, z, d⟩
theorem leaf_is {x : IV} {v : V} (e : isKA x = true) (r : VR P φ H x v) : ∃ l, v = vA l ∧ leafOf x = some l ∧ keyOf x = some l.key := by
  unfold isKA at e
  cases x with
  | non => rw [VR] at r; subst r; exact ⟨.none, rfl, rfl, rfl⟩
  | int i => rw [VR] at r; subst r; exact ⟨.num i, rfl, rfl, rfl⟩
  | str i => rw [VR] at r; subst r; exact ⟨.text i, rfl, rfl, rfl⟩
  | _ => cases e
/-- the dict at a has the entries xs: of tuple keys, of atoms -/
inductive DKind (X : Cx) (h : Heap) (a : Addr) : Xs → Prop
  | tup (xs : XsH) : h.DictOfH (NK X) a xs → DKind X h a (convH xs)
  | atom (xs : XsA) : h.DictOf (AK X) a xs → DKind X h a (convA xs)
/-- .. and the key is of the dict's kind -/
inductive DBoth (X : Cx) (h : Heap) (a : Addr) (u : Value) (v : V) (q : NestedKey) : Xs → Prop
  | tup (xs : XsH) (b : Addr) : h.DictOfH (NK X) a xs → u = .ref b → v = .ref b → (NK X).is h q b → DBoth X h a u v q (convH xs)
  | atom (xs : XsA) (l : Leaf) : h.DictOf (AK X) a xs → leafIs l u = true → v = vA l → q = l.key → DBoth X h a u v q (convA xs)
theorem DBoth.kind {h : Heap} {a : Addr} {u : Value} {v : V} {q : NestedKey} {xs : Xs} (d : DBoth X h a u v q xs) : DKind X h a xs := by
  cases d with
  | tup xs b h _ _ _ => exact .tup xs h
  | atom xs l h _ _ _ => exact .atom xs h
theorem link_H (I : Inv X pins σ H s) (hK : X.K = P.K) (hw : X.w = P.w) : ∀ {es : Raw} {en : List DictEntry} {ks : List IV} {nks : List NestedKey}, Paired (fun (p : Int × V × V) (q : DictEntry) => p.1 = q.hash ∧ L2.RelV p.2.1 q.key ∧ L2.RelV p.2.2 q.val) es en → VRs P φ H ks (es.map (·.2.1)) →
    keysOf ks = some nks → es.map (·.1) = nks.map (·.hash P.w) → (∀ k ∈ ks, isKT k = true) → ∃ xs : XsH, en = xs.map (entryOfKey (NK X)) ∧ (∀ x ∈ xs, (NK X).is s.heap x.1 x.2.1) ∧ xs.map (·.1) = nks ∧ Paired (EnR X.w) es (convH xs)
  | _, _, [], nks, .nil, _, e, _, _ => by
    simp only [keysOf] at e; cases e
    exact ⟨[], rfl, by simp, rfl, .nil⟩
  | _, _, k :: ks, nks, .nil, r, _, _, _ => by
    rw [VRs] at r; obtain ⟨v, t, e, _⟩ := r; cases e
  | _, _, [], nks, .cons a b, r, _, _, _ => by
    rw [VRs] at r; cases r
  | _, _, k :: ks, nks, .cons (a := p) (b := q) c t, r, e, eh, ht => by
    simp only [keysOf] at e
    split at e
    · rename_i nk nks' q1 q2; cases e
      rw [List.map_cons, VRs] at r
      obtain ⟨v, vs, e1, r1, r2⟩ := r
      cases e1
      rw [List.map_cons, List.map_cons] at eh
      obtain ⟨eh1, eh2⟩ := List.cons.inj eh
      obtain ⟨c1, c2, c3⟩ := c
      obtain ⟨a, k', z1, z2, z3, z4⟩ := key_is I hK (ht k List.mem_cons_self) r1 c2
      rw [q1] at z3; cases z3
      obtain ⟨xs, h1, h2, h3, h4⟩ := link_H I hK hw t r2 q2 eh2 (fun k hk => ht k (List.mem_cons_of_mem _ hk))
      refine ⟨(nk, a, q.val) :: xs, ?_, ?_, by rw [List.map_cons, h3], .cons ⟨by rw [hw]; exact eh1, z1, c3⟩ h4⟩
      · rw [List.map_cons, ← h1]
        congr 1
        obtain ⟨qh, qk, qv⟩ := q
        show DictEntry.mk qh qk qv = DictEntry.mk (nk.hash X.w) (.ref a) qv
        rw [show qh = nk.hash X.w by rw [hw, ← eh1]; exact c1.symm, show qk = Value.ref a from z2]
      · intro x hx
        rcases List.mem_cons.mp hx with rfl | hx
        · exact z4
        · exact h2 x hx
    · cases e
theorem link_A (hw : X.w = P.w) : ∀ {es : Raw} {en : List DictEntry} {ks : List IV} {nks : List NestedKey}, Paired (fun (p : Int × V × V) (q : DictEntry) => p.1 = q.hash ∧ L2.RelV p.2.1 q.key ∧ L2.RelV p.2.2 q.val) es en → VRs P φ H ks (es.map (·.2.1)) →
    keysOf ks = some nks → es.map (·.1) = nks.map (·.hash P.w) → (∀ k ∈ ks, isKA k = true) → ∃ xs : XsA, Pairs (AK X) en xs ∧ (∀ e ∈ en, ∃ l, (AK X).is l e.key = true ∧ e.hash = (AK X).hash l) ∧ xs.map (·.1.key) = nks ∧ Paired (EnR X.w) es (convA xs)
  | _, _, [], nks, .nil, _, e, _, _ => by
    simp only [keysOf] at e; cases e
    exact ⟨[], .nil, by simp, rfl, .nil⟩
  | _, _, k :: ks, nks, .nil, r, _, _, _ => by
    rw [VRs] at r; obtain ⟨v, t, e, _⟩ := r; cases e
  | _, _, [], nks, .cons a b, r, _, _, _ => by
    rw [VRs] at r; cases r
  | _, _, k :: ks, nks, .cons (a := p) (b := q) c t, r, e, eh, ht => by
    simp only [keysOf] at e
    split at e
    · rename_i nk nks' q1 q2; cases e
      rw [List.map_cons, VRs] at r
      obtain ⟨v, vs, e1, r1, r2⟩ := r
      cases e1
      rw [List.map_cons, List.map_cons] at eh
      obtain ⟨eh1, eh2⟩ := List.cons.inj eh
      obtain ⟨c1, c2, c3⟩ := c
      obtain ⟨l, z1, z2, z3⟩ := leaf_is (ht k List.mem_cons_self) r1
      rw [q1] at z3; cases z3
      obtain ⟨xs, h1, h2, h3, h4⟩ := link_A hw t r2 q2 eh2 (fun k hk => ht k (List.mem_cons_of_mem _ hk))
      have hq : leafIs l q.key = true := rel_vA.mp (by rw [← z1]; exact c2)
      refine ⟨(l, q.val) :: xs, .cons hq rfl h1, ?_, by rw [List.map_cons, h3], .cons ⟨by rw [hw]; exact eh1, z1, c3⟩ h4⟩
      intro e he
      rcases List.mem_cons.mp he with rfl | he
      · exact ⟨l, hq, by rw [← c1, eh1]; show _ = l.key.hash X.w; rw [hw]⟩
      · exact h2 e he
    · cases e
theorem convH_keys {xs : XsH} : (convH xs).map (·.1) = xs.map (·.1) := by simp [convH, Function.comp_def]
theorem convA_keys {xs : XsA} : (convA xs).map (·.1) = xs.map (·.1.key) := by simp [convA, Function.comp_def]
theorem nodup_leaf {xs : XsA} (h : (xs.map (·.1.key)).Nodup) : (xs.map (·.1)).Nodup := by
  have e : xs.map (·.1.key) = (xs.map (·.1)).map Leaf.key := by rw [List.map_map]; rfl
  rw [e] at h
  exact (List.pairwise_map.mp h).imp fun h z => h (by rw [z])
theorem DKind.nodup {h : Heap} {a : Addr} {xs : Xs} (d : DKind X h a xs) : (xs.map (·.1)).Nodup := by
  cases d with
  | tup xs d => rw [convH_keys]; exact d.nodup
  | atom xs d =>
    obtain ⟨_, _, _, _, _, _, _, _, nd⟩ := d
    rw [convA_keys]
    have e : xs.map (·.1.key) = (xs.map (·.1)).map Leaf.key := by rw [List.map_map]; rfl
    rw [e]
    exact List.pairwise_map.mpr (List.Pairwise.imp (fun h z => h (Leaf.key_inj z)) nd)
theorem DKind.typeIs {s : Shared} {a : Addr} {xs : Xs} (d : DKind X s.heap a xs) : s.TypeIs (.ref a) "dict" := by
  cases d with
  | tup xs d => exact d.typeIs
  | atom xs d => exact d.typeIs
/-- the dict by its entries, of either kind -/
theorem dict_kind (I : Inv X pins σ H s) (hK : X.K = P.K) (hw : X.w = P.w) {a : Addr} {o : Obj} {es : Raw} {ks : List IV} (hp : H a = some (DctO a o es)) (rk : VRs P φ H ks (es.map (·.2.1))) (ku : KeysOk P.w ks (es.map (·.1))) (ht : (∀ k ∈ ks, isKT k = true) ∨ ∀ k ∈ ks, isKA k = true) :
    ∃ xs : Xs, DKind X s.heap a xs ∧ (a == sysModules) = false ∧ es.length ≤ sizeLine ∧ Paired (EnR X.w) es xs ∧ keysOf ks = some (xs.map (·.1)) := by
  have z : ObjOk X.prog X.w H s.heap a (DctO a o es) := I.hok a _ hp
  obtain ⟨⟨h1, h2, h3, h4, arr, ep, h5, h6⟩, _⟩ := z
  obtain ⟨nks, e1, nd, e2⟩ := ku.ex
  rcases ht with ht | ht
  · obtain ⟨xs, g1, g2, g3, g4⟩ := link_H I hK hw h6 rk e1 e2 ht
    subst g3
    exact ⟨convH xs, .tup xs ⟨o, arr, ep, h1, h4, h5, g1, g2, nd⟩, h2, h3, g4, by rw [convH_keys]; exact e1⟩
  · obtain ⟨xs, g1, g2, g3, g4⟩ := link_A hw h6 rk e1 e2 ht
    subst g3
    exact ⟨convA xs, .atom xs ⟨o, arr, ep, h1, h4, h5, fun e he => g2 e (by simpa using he), g1, nodup_leaf nd⟩, h2, h3, g4, by rw [convA_keys]; exact e1⟩
theorem allKT_ok {ks : List IV} (e : allKT ks = true) : ∀ k ∈ ks, isKT k = true := fun k m => List.all_eq_true.mp e k m
theorem allKA_ok {ks : List IV} (e : allKA ks = true) : ∀ k ∈ ks, isKA k = true := fun k m => List.all_eq_true.mp e k m
/-- .. and a key -/
theorem dict_both (I : Inv X pins σ H s) (hK : X.K = P.K) (hw : X.w = P.w) {a : Addr} {o : Obj} {es : Raw} {ks : List IV} (hp : H a = some (DctO a o es)) (rk : VRs P φ H ks (es.map (·.2.1))) (ku : KeysOk P.w ks (es.map (·.1))) {k : IV} {v : V} {u : Value} (hk : kindOk k ks = true) (r : VR P φ H k v) (rv : L2.RelV v u) :
    ∃ (q : NestedKey) (xs : Xs), keyOf k = some q ∧ DBoth X s.heap a u v q xs ∧ (a == sysModules) = false ∧ es.length ≤ sizeLine ∧ Paired (EnR X.w) es xs ∧ keysOf ks = some (xs.map (·.1)) := by
  have z : ObjOk X.prog X.w H s.heap a (DctO a o es) := I.hok a _ hp
  obtain ⟨⟨h1, h2, h3, h4, arr, ep, h5, h6⟩, _⟩ := z
  obtain ⟨nks, e1, nd, e2⟩ := ku.ex
  unfold kindOk at hk
  rcases Bool.or_eq_true_iff.mp hk with hk | hk
  · obtain ⟨k1, k2⟩ := Bool.and_eq_true_iff.mp hk
    obtain ⟨xs, g1, g2, g3, g4⟩ := link_H I hK hw h6 rk e1 e2 (allKT_ok k2)
    subst g3
    obtain ⟨b, q, z1, z2, z3, z4⟩ := key_is I hK k1 r rv
    exact ⟨q, convH xs, z3, .tup xs b ⟨o, arr, ep, h1, h4, h5, g1, g2, nd⟩ z2 z1 z4, h2, h3, g4, by rw [convH_keys]; exact e1⟩
  · obtain ⟨k1, k2⟩ := Bool.and_eq_true_iff.mp hk
    obtain ⟨xs, g1, g2, g3, g4⟩ := link_A hw h6 rk e1 e2 (allKA_ok k2)
    subst g3
    obtain ⟨l, z1, z2, z3⟩ := leaf_is k1 r
    exact ⟨l.key, convA xs, z3, .atom xs l ⟨o, arr, ep, h1, h4, h5, fun e he => g2 e (by simpa using he), g1, nodup_leaf nd⟩ (rel_vA.mp (by rw [← z1]; exact rv)) z1 rfl, h2, h3, g4, by rw [convA_keys]; exact e1⟩
/-- the way back -/
theorem raw_of {hp : Heap} {a : Addr} {xs : Xs} {es : Raw} (hd : DKind X hp a xs) (hs : (a == sysModules) = false) (hl : es.length ≤ sizeLine) (r : Paired (EnR X.w) es xs) : ∃ o, RawAt a o es hp := by
  cases hd with
  | tup xs hd =>
    obtain ⟨o, arr, ep, h1, h2, h3, h4, h5, h6⟩ := hd
    refine ⟨o, h1, hs, hl, h2, arr, ep, h3, ?_⟩
    rw [h4]
    clear h4 h5 h6 h3 hl
    induction xs generalizing es with
    | nil => cases r; exact .nil
    | cons x xs ih =>
      cases r with
      | cons c t => exact .cons ⟨c.1, by rw [c.2.1]; rfl, c.2.2⟩ (ih t)
  | atom xs hd =>
    obtain ⟨o, arr, ep, h1, h2, h3, h4, h5, h6⟩ := hd
    refine ⟨o, h1, hs, hl, h2, arr, ep, h3, ?_⟩
    have hk : ∀ e ∈ arr.toList, ∃ l, (AK X).is l e.key = true ∧ e.hash = (AK X).hash l := fun e he => h4 e (by simpa using he)
    clear h4 h6 h3 hl
    generalize arr.toList = en at h5 hk
    induction xs generalizing es en with
    | nil =>
      cases r
      have := h5.length
      cases en with
      | nil => exact .nil
      | cons _ _ => simp at this
    | cons x xs ih =>
      cases r with
      | cons c t =>
        cases h5 with
        | @cons e _ en _ d1 d2 d3 =>
          obtain ⟨l, hl1, hl2⟩ := hk e List.mem_cons_self
          have el : l = x.1 := (AK X).inj _ _ _ hl1 d1
          refine .cons ⟨by rw [c.1, hl2, el]; rfl, ?_, ?_⟩ (ih t en d3 fun e he => hk e (List.mem_cons_of_mem _ he))
          · rw [c.2.1]; exact rel_vA.mpr d1
          · rw [d2]; exact c.2.2
theorem RawAt.objOk {H : Hp} {hp : Heap} {a : Addr} {o : Obj} {es : Raw} (r : RawAt a o es hp) : ObjOk X.prog X.w H hp a (DctO a o es) := by
  refine ⟨r, ⟨o, r.1⟩, fun h1 h2 q k => ?_⟩
  obtain ⟨q1, q2⟩ := q
  exact ⟨k o q1, q2⟩
end
end EV
namespace EV
open PySem PySem.Spec PyProof.Rows L2 RZ

section
variable {X : Cx} {P : Par} {φ : List Addr} {H : Hp} {h : IH} {pins : List (Addr × Obj)} {σ : L2.St} {s : Shared}
theorem dctO_ok (sr : SR P φ H h) {x : IV} {v : V} {ks us : List IV} (r : VR P φ H x v) (e : dctO h x = some (ks, us)) : ∃ a o es, v = .ref a ∧ H a = some (DctO a o es) ∧ VRs P φ H ks (es.map (·.2.1)) ∧ VRs P φ H us (es.map (·.2.2)) ∧ KeysOk P.w ks (es.map (·.1)) := by
  unfold dctO at e
  split at e
  · cases e
    rw [VR] at r
    obtain ⟨a, o, es, h1, h2, _, h4, h5, h6⟩ := r
    exact ⟨a, o, es, h1, h2, h4, h5, h6⟩
  · split at e
    · rename_i q; cases e
      rw [VR] at r
      obtain ⟨a, h1, h2⟩ := r
      obtain ⟨o, es, h3, h4, h5, h6⟩ := sr.obj _ _ a q h1
      exact ⟨a, o, es, h2, h3, h4, h5, h6⟩
    · cases e
  · cases e
theorem keysOf_cons {x : IV} {xs : List IV} {ks : List NestedKey} (e : keysOf (x :: xs) = some ks) : ∃ k t, ks = k :: t ∧ keyOf x = some k ∧ keysOf xs = some t := by
  simp only [keysOf] at e
  split at e
  · rename_i k t q1 q2; cases e; exact ⟨k, t, rfl, q1, q2⟩
  · cases e
theorem find_ok {q : NestedKey} : ∀ {es : Raw} {xs : Xs} {ks us : List IV}, Paired (EnR X.w) es xs → keysOf ks = some (xs.map (·.1)) → VRs P φ H us (es.map (·.2.2)) →
    match dfind q ks us with
    | some u => ∃ b val v, atG xs q = some (b, val) ∧ VR P φ H u v ∧ L2.RelV v val
    | none => atG xs q = none
  | _, _, [], us, .nil, _, _ => by simp [dfind, atG]
  | _, _, k :: ks, us, .nil, e, _ => by obtain ⟨_, _, z, _⟩ := keysOf_cons e; cases z
  | _, _, [], us, .cons _ _, e, _ => by simp [keysOf] at e
  | _, _, k :: ks, [], .cons _ _, e, r => by rw [List.map_cons, VRs] at r; cases r
  | _, _, k :: ks, u :: us, .cons (a := p) (b := x) (l₁ := es) (l₂ := xs) c t, e, r => by
    obtain ⟨k', t', z1, z2, z3⟩ := keysOf_cons e
    rw [List.map_cons] at z1
    obtain ⟨z4, z5⟩ := List.cons.inj z1
    subst z4 z5
    rw [List.map_cons, VRs] at r
    obtain ⟨v, vs, e1, r1, r2⟩ := r
    cases e1
    have ih := find_ok (q := q) t z3 r2
    unfold dfind
    rw [z2]
    by_cases hk : x.1 = q
    · rw [if_pos (by rw [hk])]
      exact ⟨x.2.1, x.2.2, p.2.2, atG_pos hk, r1, c.2.2⟩
    · rw [if_neg (fun z => hk (Option.some.inj z)), atG_neg hk]
      exact ih
theorem has_ok {q : NestedKey} : ∀ {xs : Xs} {ks : List IV}, keysOf ks = some (xs.map (·.1)) → (atG xs q).isSome = dhas q ks
  | [], [], _ => rfl
  | [], k :: ks, e => by obtain ⟨_, _, z, _⟩ := keysOf_cons e; cases z
  | x :: xs, [], e => by simp [keysOf] at e
  | x :: xs, k :: ks, e => by
    obtain ⟨k', t', z1, z2, z3⟩ := keysOf_cons e
    rw [List.map_cons] at z1
    obtain ⟨z4, z5⟩ := List.cons.inj z1
    subst z4 z5
    have ih := has_ok (q := q) z3
    unfold dhas at ih ⊢
    rw [List.any_cons, z2, ← ih]
    by_cases hk : x.1 = q
    · rw [atG_pos hk]; simp [hk]
    · rw [atG_neg hk]; simp [hk]
theorem set_ok {q : NestedKey} {v : V} {val : Value} {iv : IV} (rv : VR P φ H iv v) (rr : L2.RelV v val) : ∀ {es : Raw} {xs : Xs} {ks us : List IV}, Paired (EnR X.w) es xs → keysOf ks = some (xs.map (·.1)) → VRs P φ H us (es.map (·.2.2)) → (xs.map (·.1)).Nodup →
    ∃ es', Paired (EnR X.w) es' (xs.map (putG q val)) ∧ es'.map (·.1) = es.map (·.1) ∧ es'.map (·.2.1) = es.map (·.2.1) ∧ VRs P φ H (dset q iv ks us) (es'.map (·.2.2))
  | _, _, [], us, .nil, _, r, _ => ⟨[], .nil, rfl, rfl, by simpa [dset] using r⟩
  | _, _, k :: ks, us, .nil, e, _, _ => by obtain ⟨_, _, z, _⟩ := keysOf_cons e; cases z
  | _, _, [], us, .cons _ _, e, _, _ => by simp [keysOf] at e
  | _, _, k :: ks, [], .cons _ _, e, r, _ => by rw [List.map_cons, VRs] at r; cases r
  | _, _, k :: ks, u :: us, .cons (a := p) (b := x) (l₁ := es) (l₂ := xs) c t, e, r, nd => by
    obtain ⟨k', t', z1, z2, z3⟩ := keysOf_cons e
    rw [List.map_cons] at z1
    obtain ⟨z4, z5⟩ := List.cons.inj z1
    subst z4 z5
    rw [List.map_cons, VRs] at r
    obtain ⟨w, vs, e1, r1, r2⟩ := r
    cases e1
    rw [List.map_cons, List.nodup_cons] at nd
    unfold dset
    rw [z2]
    by_cases hk : x.1 = q
    · rw [if_pos (by rw [hk])]
      refine ⟨(p.1, p.2.1, v) :: es, ?_, rfl, rfl, VRs.cons rv r2⟩
      rw [List.map_cons, putG_out (by rw [← hk]; exact nd.1)]
      refine .cons ?_ t
      unfold putG
      rw [if_pos hk]
      exact ⟨c.1, c.2.1, rr⟩
    · rw [if_neg (fun z => hk (Option.some.inj z))]
      obtain ⟨es', h1, h2, h3, h4⟩ := set_ok rv rr t z3 r2 nd.2
      refine ⟨p :: es', ?_, by rw [List.map_cons, h2]; rfl, by rw [List.map_cons, h3]; rfl, VRs.cons r1 h4⟩
      rw [List.map_cons]
      refine .cons ?_ h1
      unfold putG
      rw [if_neg hk]
      exact c
theorem keysOf_append : ∀ {xs ys : List IV} {a b : List NestedKey}, keysOf xs = some a → keysOf ys = some b → keysOf (xs ++ ys) = some (a ++ b)
  | [], _, _, _, e, k => by simp only [keysOf] at e; cases e; exact k
  | x :: xs, _, _, _, e, k => by
    obtain ⟨q, t, rfl, z2, z3⟩ := keysOf_cons e
    simp only [List.cons_append, keysOf, z2, keysOf_append z3 k]
theorem Paired.app {α β : Type} {R : α → β → Prop} : ∀ {a : List α} {b : List β} {c : List α} {d : List β}, Paired R a b → Paired R c d → Paired R (a ++ c) (b ++ d)
  | _, _, _, _, .nil, k => k
  | _, _, _, _, .cons x t, k => .cons x (Paired.app t k)
theorem storedG_keys {q : NestedKey} {kv : V} {v : Value} {xs : Xs} : (storedG xs q kv v).map (·.1) = if (atG xs q).isSome = true then xs.map (·.1) else xs.map (·.1) ++ [q] := by
  unfold storedG
  split
  · exact putG_keys
  · simp
/-- a store -/
theorem put_ok {q : NestedKey} {kv v : V} {val : Value} {ik iv : IV} {es : Raw} {xs : Xs} {ks us : List IV} (rk : VR P φ H ik kv) (ek : keyOf ik = some q) (hw : X.w = P.w) (rv : VR P φ H iv v) (rr : L2.RelV v val) (t : Paired (EnR X.w) es xs) (e : keysOf ks = some (xs.map (·.1))) (rks : VRs P φ H ks (es.map (·.2.1))) (rus : VRs P φ H us (es.map (·.2.2))) (nd : (xs.map (·.1)).Nodup) :
    ∃ es', Paired (EnR X.w) es' (storedG xs q kv val) ∧ VRs P φ H (dput ik iv ks us).1 (es'.map (·.2.1)) ∧ VRs P φ H (dput ik iv ks us).2 (es'.map (·.2.2)) ∧ KeysOk P.w (dput ik iv ks us).1 (es'.map (·.1)) ∧ es'.length ≤ es.length + 1 ∧ keysOf (dput ik iv ks us).1 = some ((storedG xs q kv val).map (·.1)) := by
  have hh := has_ok (q := q) e
  have hash : ∀ {es : Raw} {xs : Xs}, Paired (EnR X.w) es xs → es.map (·.1) = (xs.map (·.1)).map (·.hash P.w) := fun t => by
    induction t with
    | nil => rfl
    | cons c t ih => rw [List.map_cons, List.map_cons, List.map_cons, ih, c.1, hw]
  unfold dput
  rw [ek]
  dsimp only
  by_cases hf : (atG xs q).isSome = true
  · rw [if_pos (by rw [← hh]; exact hf), storedG_keys, if_pos hf]
    unfold storedG
    rw [if_pos hf]
    obtain ⟨es', h1, h2, h3, h4⟩ := set_ok rv rr t e rus nd
    refine ⟨es', h1, by rw [h3]; exact rks, h4, ⟨_, e, nd, by rw [h2]; exact hash t⟩, ?_, e⟩
    have := congrArg List.length h2
    simp at this; omega
  · rw [if_neg (by rw [← hh]; exact hf), storedG_keys, if_neg hf]
    unfold storedG
    rw [if_neg hf]
    have hm : q ∉ xs.map (·.1) := fun m => hf (atG_mem.mpr m)
    have t2 : Paired (EnR X.w) (es ++ [(q.hash X.w, kv, v)]) (xs ++ [(q, kv, val)]) := Paired.app t (.cons ⟨rfl, rfl, rr⟩ .nil)
    have ek3 : keysOf (ks ++ [ik]) = some (xs.map (·.1) ++ [q]) := keysOf_append e (by simp [keysOf, ek])
    refine ⟨es ++ [(q.hash X.w, kv, v)], t2, ?_, ?_, ⟨_, ek3, ?_, ?_⟩, by simp, ek3⟩
    · rw [List.map_append]; exact VRs.append rks (VRs.cons rk VRs.nil)
    · rw [List.map_append]; exact VRs.append rus (VRs.cons rv VRs.nil)
    · exact List.nodup_append.mpr ⟨nd, by simp, fun x hx y hy z => hm (by simp at hy; rw [← hy, ← z]; exact hx)⟩
    · rw [hash t2]; simp
end

section
variable {X : Cx} {s : Shared} {a : Addr} {u : Value} {v : V} {q : NestedKey} {xs : Xs} {A : Around} {E : Value → Shared → Prop}
theorem DBoth.contains {Q : Bool → Shared → Prop} (d : DBoth X s.heap a u v q xs) (hs : (a == sysModules) = false) (hu : A.units + 10 < cLine) (h : ∀ t, Q (atG xs q).isSome { s with toks := t }) : wpAny (model X.prog X.w) A (contains (.ref a) u) Q E s := by
  cases d with
  | tup xs b d e1 _ k =>
    subst e1
    refine wpAny_contains_heap (knd := NK X) (by show A.units + 1 + 8 < cLine; omega) k hs d ?_
    have := h (s.toks + (NK X).draws q)
    rwa [atG_H, Option.isSome_map] at this
  | atom xs l d k _ e2 =>
    subst e2
    have := h (s.toks + 1)
    rw [atG_A, Option.isSome_map] at this
    unfold PySem.contains
    try with_reducible refine wpAny_holding ?_
    refine wpAny_bind (wpAny_specialOf d.typeIs slot_dict_contains.lookup ?_)
    show wpAny _ _ (if (some (Value.builtin "dict.__contains__") == some Value.none) = true then _ else _) _ E s
    rw [if_neg (by rw [beq_builtin_none]; exact Bool.false_ne_true)]
    refine wpAny_bind (wpAny_callSpecialUnlessNone?_slot (name := Str.ofString "__contains__") d.typeIs slot_dict_contains
      (wpAny_call_entry slot_dict_contains d.typeIs entry_dict_contains ?_ (args_dict_contains _ _)))
    show wpAny _ _ (dictGet a u >>= _) _ _ s
    refine wpAny_bind (wpAny_dictGet_of (knd := AK X) k d.mapOf ?_)
    cases hf : valueAt xs l with
    | some v =>
      rw [hf] at this
      show wpAny _ _ (ret (.bool true)) _ _ _
      exact wpAny_pure ⟨_, rfl, wpAny_truthy_bool this⟩
    | none =>
      rw [hf] at this
      show wpAny _ _ (Builtin.Dict.pendingKey? a u >>= _) _ _ _
      exact wpAny_bind (wpAny_pendingKey_other hs (wpAny_pure ⟨_, rfl, wpAny_truthy_bool this⟩))
theorem DBoth.getItem {Q : Value → Shared → Prop} {p : V × Value} (d : DBoth X s.heap a u v q xs) (hu : A.units + 10 < cLine) (e : atG xs q = some p) (h : ∀ t, Q p.2 { s with toks := t }) : wpAny (model X.prog X.w) A (getItem (.ref a) u) Q E s := by
  cases d with
  | tup xs b d e1 _ k =>
    subst e1
    rw [atG_H] at e
    cases hf : atKey xs q with
    | none => rw [hf] at e; cases e
    | some y =>
      rw [hf] at e; cases e
      exact wpAny_getItem_heap (knd := NK X) (by show A.units + 1 + 8 < cLine; omega) k d hf (h _)
  | atom xs l d k _ e2 =>
    subst e2
    rw [atG_A] at e
    cases hf : valueAt xs l with
    | none => rw [hf] at e; cases e
    | some y =>
      rw [hf] at e; cases e
      exact wpAny_getItem_of (knd := AK X) k d.mapOf hf (h _)
theorem DBoth.get2 {Q : Value → Shared → Prop} {w : Value} (d : DBoth X s.heap a u v q xs) (hs : (a == sysModules) = false) (hu : A.units + 10 < cLine) (h : ∀ t, Q (((atG xs q).map (·.2)).getD w) { s with toks := t }) : wpAny (model X.prog X.w) A (call (.builtin "dict.get") [.ref a, u, w]) Q E s := by
  cases d with
  | tup xs b d e1 _ k =>
    subst e1
    refine call_meetsIn PySem.F.slot_dict_get d.typeIs PySem.F.entry_dict_get (PySem.F.args_dict_get_3 _ _ _) (meetsH_dict_get_default (NK X) a b hs w) ⟨by show A.units + 1 + 8 < cLine; omega, q, xs, k, d, ?_⟩
    have := h (s.toks + (NK X).draws q)
    rw [atG_H, Option.map_map] at this
    exact this
  | atom xs l d k _ e2 =>
    subst e2
    refine call_meetsIn PySem.F.slot_dict_get d.typeIs PySem.F.entry_dict_get (PySem.F.args_dict_get_3 _ _ _) (meets_dict_get_default (AK X) a k hs w) ⟨_, d.mapOf, ?_⟩
    have := h (s.toks + 1)
    rw [atG_A, Option.map_map] at this
    simpa [Function.comp_def] using this
theorem DBoth.get1 {Q : Value → Shared → Prop} (d : DBoth X s.heap a u v q xs) (hs : (a == sysModules) = false) (hu : A.units + 10 < cLine) (h : ∀ t, Q (((atG xs q).map (·.2)).getD .none) { s with toks := t }) : wpAny (model X.prog X.w) A (call (.builtin "dict.get") [.ref a, u]) Q E s := by
  cases d with
  | tup xs b d e1 _ k =>
    subst e1
    refine call_meetsIn PySem.F.slot_dict_get d.typeIs PySem.F.entry_dict_get (PySem.F.args_dict_get_2 _ _) (meetsH_dict_get (NK X) a b hs) ⟨by show A.units + 1 + 8 < cLine; omega, q, xs, k, d, ?_⟩
    have := h (s.toks + (NK X).draws q)
    rw [atG_H, Option.map_map] at this
    exact this
  | atom xs l d k _ e2 =>
    subst e2
    refine call_meetsIn PySem.F.slot_dict_get d.typeIs PySem.F.entry_dict_get (PySem.F.args_dict_get_2 _ _) (meets_dict_get (AK X) a k hs) ⟨_, d.mapOf, ?_⟩
    have := h (s.toks + 1)
    rw [atG_A, Option.map_map] at this
    simpa [Function.comp_def] using this
theorem DBoth.setItem {Q : Unit → Shared → Prop} {w : Value} (d : DBoth X s.heap a u v q xs) (hu : A.units + 10 < cLine) (hl : xs.length ≤ sizeLine) (h : ∀ h' t, DKind X h' a (storedG xs q v w) → Heap.SameBut a s.heap h' → Q () { s with heap := h', toks := t }) : wpAny (model X.prog X.w) A (setItem (.ref a) u w) Q E s := by
  cases d with
  | tup xs b d e1 e2 k =>
    subst e1 e2
    refine wpAny_setItem_heap (knd := NK X) (by show A.units + 1 + 8 < cLine; omega) k d (fun h' d' sb => h h' _ ?_ sb) (by simpa [convH] using hl)
    rw [storedG_H]; exact .tup _ d'
  | atom xs l d k e1 e2 =>
    subst e1 e2
    refine wpAny_setItem_pairs (knd := AK X) k d (fun h' d' sb => h h' _ ?_ sb) (by simpa [convA] using hl)
    rw [storedG_A]; exact .atom _ d'
end

def inDct : G2 := fun x y h => match dctO h y with
  | some (ks, _) => match kindOk x ks, keyOf x with
    | true, some q => .ok (.bl (dhas q ks)) h
    | _, _ => .no
  | none => inI x y h
def ninDct : G2 := fun x y h => match dctO h y with
  | some (ks, _) => match kindOk x ks, keyOf x with
    | true, some q => .ok (.bl (!dhas q ks)) h
    | _, _ => .no
  | none => ninI x y h
def subD : G2 := fun x y h => match dctO h x with
  | some (ks, us) => match kindOk y ks, keyOf y with
    | true, some q => match dfind q ks us with
      | some u => .ok u h
      | none => .no
    | _, _ => .no
  | none => subE x y h
section
variable {X : Cx} {P : Par} {W : WX}
theorem op_inDct (hK : X.K = P.K) (hw : X.w = P.w) (hu : X.A.units + 65 < cLine) : OpR X (compareOp .In) (rG P W inDct) := by
  intro pins s σ H x y v u Q I rx ry ⟨φ, h, σ', va, vb, sr, ra, rb, p⟩
  unfold inDct at p
  split at p
  · rename_i ks us e
    split at p
    · rename_i q b eq
      obtain ⟨a, o, es, rfl, hp, k1, k2, k3⟩ := dctO_ok sr rb e
      cases (show u = Value.ref a from ry)
      obtain ⟨q', xs, e3, d, g2, g3, g4, g5⟩ := dict_both I hK hw hp k1 k3 b ra rx
      rw [eq] at e3; cases e3
      show wpAny _ _ (do return Value.bool (← contains (.ref a) v)) _ _ _
      refine wpAny_bind (d.contains g2 (by omega) fun t => ?_)
      rw [has_ok g5]
      exact wpAny_pure ⟨.bl _, H, I.tok _, rfl, p.ret sr VR.b⟩
    · exact p.elim
  · exact op_inI hK hu pins s σ H x y v u Q I rx ry ⟨φ, h, σ', va, vb, sr, ra, rb, p⟩
theorem op_ninDct (hK : X.K = P.K) (hw : X.w = P.w) (hu : X.A.units + 65 < cLine) : OpR X (compareOp .NotIn) (rG P W ninDct) := by
  intro pins s σ H x y v u Q I rx ry ⟨φ, h, σ', va, vb, sr, ra, rb, p⟩
  unfold ninDct at p
  split at p
  · rename_i ks us e
    split at p
    · rename_i q b eq
      obtain ⟨a, o, es, rfl, hp, k1, k2, k3⟩ := dctO_ok sr rb e
      cases (show u = Value.ref a from ry)
      obtain ⟨q', xs, e3, d, g2, g3, g4, g5⟩ := dict_both I hK hw hp k1 k3 b ra rx
      rw [eq] at e3; cases e3
      show wpAny _ _ (do return Value.bool (!(← contains (.ref a) v))) _ _ _
      refine wpAny_bind (d.contains g2 (by omega) fun t => ?_)
      rw [has_ok g5]
      exact wpAny_pure ⟨.bl _, H, I.tok _, rfl, p.ret sr VR.b⟩
    · exact p.elim
  · exact op_ninI hK hu pins s σ H x y v u Q I rx ry ⟨φ, h, σ', va, vb, sr, ra, rb, p⟩
theorem ix_subD (hK : X.K = P.K) (hw : X.w = P.w) (hu : X.A.units + 65 < cLine) : IxR X (rG P W subD) := by
  intro value slice pins s σ H x y v u Q I rx ry ⟨φ, h, σ', va, vb, sr, ra, rb, p⟩ hs
  unfold subD at p
  split at p
  · rename_i ks us e
    split at p
    · rename_i q b eq
      obtain ⟨a, o, es, rfl, hp, k1, k2, k3⟩ := dctO_ok sr ra e
      cases (show v = Value.ref a from rx)
      obtain ⟨q', xs, e3, d, g2, g3, g4, g5⟩ := dict_both I hK hw hp k1 k3 b rb ry
      rw [eq] at e3; cases e3
      have f := find_ok (q := q) g4 g5 k2
      split at p
      · rename_i w ew
        rw [ew] at f
        obtain ⟨b', val, vv, f1, f2, f3⟩ := f
        exact subscriptTail_builtinR (x := val) d.kind.typeIs PySem.F.slot_dict_getitem.lookup
          (d.getItem (Q := fun r s' => r = val ∧ EP X pins σ Q r s') (by omega) f1 fun t => ⟨rfl, _, H, I.tok _, f3, p.ret sr f2⟩) hs
      · exact p.elim
    · exact p.elim
  · exact ix_subI hK value slice pins s σ H x y v u Q I rx ry ⟨φ, h, σ', va, vb, sr, ra, rb, p⟩ hs
theorem pe_subD {a b : Expr} {pos : Pos} {fa fb : IE → M IV} (hK : X.K = P.K) (hw : X.w = P.w) (hu : X.A.units + 65 < cLine) (ha : PE X a (tE P W fa)) (hb : PE X b (tE P W fb)) (hs : PlainIx b) : PE X (.Subscript a b pos) (tE P W (binE subD fa fb)) :=
  PE.weak (pe_ix (ix_subD hK hw hu) ha hb hs) fun _ _ _ hq => tOp_of hq
end

def putM (o i v : IV) : IH → Option IH := fun h => match o with
  | .ref n => match h[n]? with
    | some (.dct ks us) => if kindOk i ks && decide (ks.length < 16777216) then some (h.set n (.dct (dput i v ks us).1 (dput i v ks us).2)) else none
    | some (.lst _) => setM o i v h
    | _ => none
  | _ => none
section
variable {X : Cx} {P : Par} {W : WX}
theorem VRs.len' {φ : List Addr} {H : Hp} {xs : List IV} {vs : List V} (r : VRs P φ H xs vs) : xs.length = vs.length := r.length.symm
theorem st_putM (hK : X.K = P.K) (hw : X.w = P.w) (hu : X.A.units + 65 < cLine) : PSet X (rSt P putM) := by
  intro pins s σ H o i v ov iv u Q I ro ri rv ⟨φ, h, io, ii, jv, sr, r1, r2, r3, p⟩
  unfold putM at p
  split at p
  · rename_i h' e
    split at e
    · rename_i n
      split at e
      · rename_i ks us hn
        split at e
        · rename_i c
          cases e
          simp only [Bool.and_eq_true, decide_eq_true_eq] at c
          obtain ⟨c1, c3⟩ := c
          have rd := r1
          rw [VR] at rd
          obtain ⟨a, ha, rfl⟩ := rd
          obtain ⟨ob, es, hp, k1, k2, k3⟩ := sr.obj _ _ a hn ha
          cases (show ov = Value.ref a from ro)
          obtain ⟨q, xs, e3, d, g2, g3, g4, g5⟩ := dict_both I hK hw hp k1 k3 c1 r2 ri
          obtain ⟨es', q1, q2, q3, q4, q5, q6⟩ := put_ok r2 e3 hw r3 rv g4 g5 k1 k2 d.kind.nodup
          have hl : es.length = xs.length := Paired.length g4
          have hkl : ks.length = es.length := by have := k1.len'; simpa using this
          refine d.setItem (by omega) (by rw [← hl]; exact g3) fun h' t d' sb => ?_
          have hl' : es'.length ≤ sizeLine := by
            have : sizeLine = 16777216 := sizeLine_eq
            omega
          obtain ⟨o', raw⟩ := raw_of d' g2 hl' q1
          have n1 : ∀ xs, DctO a ob es ≠ .tup xs := fun xs => DctO.ne_tup
          have n2 : ∀ x u, DctO a ob es ≠ .frz x u := fun x u => DctO.ne_frz
          have ex : Ext φ H φ (L2.upd H a (DctO a o' es')) := Ext.upd (List.mem_of_getElem? ha) hp n1 n2
          refine ⟨_, I.write (x := a) (e := a) (by rw [hp]; trivial) (.inl rfl) (fun b u hb q => (sb.2 b hb).trans q) ⟨_, raw.1⟩ raw.objOk, ?_⟩
          exact p _ ex (sr.write ha hp n1 n2 ⟨o', es', upd_same, q2.mono ex, q3.mono ex, q4⟩)
        · cases e
      · exact st_setM pins s σ H o i v ov iv u Q I ro ri rv ⟨φ, h, .ref n, ii, jv, sr, r1, r2, r3, by rw [e]; exact p⟩
      · cases e
    · cases e
  · exact p.elim
end
end EV
namespace EV
open PySem PySem.Spec PyProof.Rows L2 RZ

/-- values of that builtin type, wherever they stand -/
def TyS (X : Cx) (T : String) (x : V) (H : Hp) : Prop := ∀ (pins : List (Addr × Obj)) (σ : L2.St) (s : Shared) (v : Value), Inv X pins σ H s → L2.RelV x v → s.TypeIs v T ∧ ∀ a, v = .ref a → ∃ ob, s.heap.get? a = some ob ∧ ob.dict = none
def tMth (X : Cx) (T : String) (r : V → List V → Hp → VK → Prop) (to : TE) (t : TA) : TE := fun σ H Q => to σ H fun x H1 => TyS X T x H1 ∧ t σ H1 fun xs H2 => r x xs H2 Q
section
variable {X : Cx} {P : Par} {W : WX} {o e : Expr} {es : List Expr} {name : Str} {apos cpos : Pos} {T id : String}
theorem pe_mth {to : TE} {t : TA} {r : V → List V → Hp → VK → Prop} (pa : PlainAttrs T) (slot : Slot T name id) (hty : typeOf (.builtin id) = pure (.type "method_descriptor")) (hm : MtR X id r) (ho : PE X o to) (ha : PA X (e :: es) t)
    (hbase : attributeBase o name X.env (eval o X.env) = eval o X.env)
    (hfew : ((backTo cpos (starEach (e :: es) X.env)).all (fun x => !x.1) && (backToKw cpos (keywordEach [] X.env)).all (fun x => x.1.isSome)
      && decide ((e :: es).length + ([] : List Keyword).length + (if ([] : List Keyword).isEmpty then 0 else 1) < 30)) = true)
    (hline : (apos.endLine == cpos.line) = true) (hs : starEach (e :: es) X.env = (false, eval e X.env) :: starEach es X.env) (hplain : (backTo cpos (starEach es X.env)).any (·.1) = false) :
    PE X (.Call (.Attribute o name apos) (e :: es) [] cpos) (tMth X T r to t) := by
  refine ⟨fun pins s σ H Q I h => ?_⟩
  refine wpAny_Call_method_late hbase hfew hline rfl (thn (ho.run pins s σ H _ I h) fun v s1 ⟨x, H1, I1, r1, ty, q1⟩ => ?_)
  obtain ⟨h1, h2⟩ := ty pins σ s1 v I1 r1
  refine ⟨T, id, pa, slot, hty, h1, h2, ?_⟩
  have hA := ha.run cpos pins s1 σ H1 _ I1 q1
  rw [hs] at hA ⊢
  refine Calls.callWith_builtin (by show (false || (backTo cpos (starEach es X.env)).any (·.1)) = false; rw [hplain] <;> rfl) (Calls.evalArgs_plain ?_)
  exact thn hA fun us s2 ⟨vs, H2, I2, r2, q2⟩ => hm pins s2 σ H2 x vs v us Q I2 r1 r2 q2
theorem tyName_is {φ : List Addr} {H : Hp} {h : IH} (hK : X.K = P.K) (s : SR P φ H h) {x : IV} {v : V} {t : String} (r : VR P φ H x v) (e : tyName h x = some t) (nb : t = "list" ∨ t = "dict" ∨ t = "str") : TyS X t v H := by
  intro pins σ s0 u I rx
  have lst : ∀ {a : Addr} {vs : List V}, v = .ref a → SqL X.K H a vs → s0.TypeIs u "list" ∧ ∀ a, u = .ref a → ∃ ob, s0.heap.get? a = some ob ∧ ob.dict = none := fun {a vs} e q => by
    subst e; cases rx
    obtain ⟨its, _, pl, _⟩ := I.list q
    refine ⟨pl.isList.typeIs, fun b e => ?_⟩
    cases e
    obtain ⟨o, n, e, c, hd, _⟩ := pl
    exact ⟨o, e, hd⟩
  have dct : ∀ {a : Addr} {o : Obj} {es : Raw}, v = .ref a → H a = some (DctO a o es) → s0.TypeIs u "dict" ∧ ∀ a, u = .ref a → ∃ ob, s0.heap.get? a = some ob ∧ ob.dict = none := fun {a o es} e q => by
    subst e; cases rx
    have z : ObjOk X.prog X.w H s0.heap a (DctO a o es) := I.hok a _ q
    obtain ⟨⟨h1, _, _, h2, _⟩, _⟩ := z
    refine ⟨⟨o, h1, h2.1⟩, fun b e => ?_⟩
    cases e
    exact ⟨o, h1, h2.2.1⟩
  cases x with
  | str b => simp only [tyName] at e; cases e; rw [VR] at r; subst r; obtain ⟨t, q⟩ := (show ∃ t, u = Value.str b t from rx); cases q; exact ⟨typeIs_str s0 b t, fun _ e => nomatch e⟩
  | lst xs =>
    simp only [tyName] at e; cases e
    obtain ⟨a, vs, h1, h2, _⟩ := s.lsO r (xs := xs) rfl
    exact lst h1 (.of h2)
  | dct ks us =>
    simp only [tyName] at e; cases e
    rw [VR] at r
    obtain ⟨a, o, es, h1, h2, _⟩ := r
    exact dct h1 h2
  | ref n =>
    simp only [tyName] at e
    split at e
    · rename_i xs q; cases e
      obtain ⟨a, vs, _, h1, h2, _⟩ := s.lst r q
      exact lst h1 (.of h2)
    · rename_i ks us q; cases e
      rw [VR] at r
      obtain ⟨a, h1, h2⟩ := r
      obtain ⟨o, es, h3, _⟩ := s.obj n _ a q h1
      exact dct h2 h3
    · cases e
  | scr xs => simp only [tyName] at e; cases e
  | tup xs => simp only [tyName] at e; cases e; simp at nb
  | non => simp only [tyName] at e; cases e; simp at nb
  | bl b => simp only [tyName] at e; cases e; simp at nb
  | int b => simp only [tyName] at e; cases e; simp at nb
  | ty b => simp only [tyName] at e; cases e
  | glo b => simp only [tyName] at e; cases e

/-- o.m(e, ..) of a list, a dict, a text -/
def mthE (T : String) (r : RMt) (fo : IE → M IV) (fs : IE → M (List IV)) : IE → M IV := fun σ h => (fo σ h).bind fun o h => if tyName h o = some T then (fs σ h).bind fun xs h => r o xs h else .no
theorem mth_read {r : RMt} {fo : IE → M IV} {fs : IE → M (List IV)} {σ : L2.St} {H : Hp} {Q : VK} (hK : X.K = P.K) (nb : T = "list" ∨ T = "dict" ∨ T = "str") (hq : tE P W (mthE T r fo fs) σ H Q) : tMth X T (rM P W r) (tE P W fo) (tAr P W fs) σ H Q := by
  unfold mthE at hq
  obtain ⟨φ, h, σi, s, se, p⟩ := hq
  refine ⟨φ, h, σi, s, se, ?_⟩
  cases e : fo σi h with
  | ok o h1 =>
    simp only [e, Out.bind] at p
    intro φ1 H1 x ex1 s1 r1
    split at p
    · rename_i ty
      refine ⟨tyName_is hK s1 r1 ty nb, φ1, h1, σi, s1, se.mono ex1, ?_⟩
      have p1 := Post.ext p ex1
      cases e2 : fs σi h1 with
      | ok xs h2 =>
        simp only [e2, Out.bind] at p1
        exact fun φ2 H2 vs ex2 s2 r2 => ⟨φ2, h2, σ, o, xs, s2, r1.mono ex2, r2, Post.ext p1 ex2⟩
      | ex v h2 => simp only [e2, Out.bind] at p1; exact p1
      | no => simp only [e2, Out.bind] at p1; exact p1
    · exact p.elim
  | ex v h1 => simp only [e, Out.bind] at p; exact p
  | no => simp only [e, Out.bind] at p; exact p
theorem pe_mthI {r : RMt} {fo : IE → M IV} {fs : IE → M (List IV)} (nb : T = "list" ∨ T = "dict" ∨ T = "str") (pa : PlainAttrs T) (slot : Slot T name id) (hty : typeOf (.builtin id) = pure (.type "method_descriptor")) (hm : MtR X id (rM P W r)) (hK : X.K = P.K) (ho : PE X o (tE P W fo)) (ha : PA X (e :: es) (tAr P W fs))
    (hbase : attributeBase o name X.env (eval o X.env) = eval o X.env)
    (hfew : ((backTo cpos (starEach (e :: es) X.env)).all (fun x => !x.1) && (backToKw cpos (keywordEach [] X.env)).all (fun x => x.1.isSome)
      && decide ((e :: es).length + ([] : List Keyword).length + (if ([] : List Keyword).isEmpty then 0 else 1) < 30)) = true)
    (hline : (apos.endLine == cpos.line) = true) (hs : starEach (e :: es) X.env = (false, eval e X.env) :: starEach es X.env) (hplain : (backTo cpos (starEach es X.env)).any (·.1) = false) :
    PE X (.Call (.Attribute o name apos) (e :: es) [] cpos) (tE P W (mthE T r fo fs)) :=
  PE.weak (pe_mth pa slot hty hm ho ha hbase hfew hline hs hplain) fun σ H Q hq => mth_read hK nb hq
end
theorem MtR.weak {X : Cx} {id : String} {r r' : V → List V → Hp → VK → Prop} (h : MtR X id r) (k : ∀ x xs H Q, r' x xs H Q → r x xs H Q) : MtR X id r' := fun pins s σ H x xs v us Q I rx rs q => h pins s σ H x xs v us Q I rx rs (k _ _ _ _ q)

theorem ext_tup (l : Addr) (items : Array Value) (n : Nat) (b : Addr) (items2 : Array Value) (n2 : Nat) (dd : Option Addr) (sl : Array (Option Value)) (hs0 : ¬(!items.isEmpty && Builtin.List.listTooLong (items.size + items2.size)) = true) (hs1 : items.size ≤ sizeLine) (hs2 : items.size + items2.size ≤ sizeLine + 1) :
    Meets (Builtin.«list.extend» ⟨[.ref l, .ref b], []⟩) (fun _ R s => s.heap.get? l = some { cls := .type "list", dict := none, data := .seq items n, slots := #[] } ∧ s.heap.get? b = some { cls := .type "tuple", dict := dd, data := .seq items2 n2, slots := sl } ∧ R (.ok (.ret Value.none)) { s with heap := s.heap.update l (Obj.mapSeq fun x => x ++ items2), toks := s.toks }) :=
  .of_wp fun prog w A R s h => by
    obtain ⟨hp, g, d, tk, os⟩ := s; obtain ⟨hl, hb, h⟩ := h; have f1 := AutoSeq1.idx_int; have f2 := AutoSeq1.sub_tuple_tuple; have f3 := AutoSeq1.sub_list_list; have f4 := AutoSeq1.sub_tuple_list; have f5 := AutoSeq1.sub_list_tuple;
    have hz' : (items ++ items2).size ≤ sizeLine + 1 := by rw [Array.size_append]; exact hs2
    wp_walk using (wpAny_updateSeq hl rfl (hz := hs1) (_hz' := hz')), AutoSeq1.wpAny_loadPart' hl, AutoSeq1.wpAny_loadPart' hb; exact ⟨_, rfl, h⟩
def appM : RMt := fun o xs h => match o, xs with
  | .ref n, [v] => match h[n]? with
    | some (.lst ys) => if ys.length < 16777216 then .ok .non (h.set n (.lst (ys ++ [v]))) else .no
    | _ => .no
  | _, _ => .no
def extM : RMt := fun o xs h => match o, xs with
  | .ref n, [v] => match h[n]?, (match v with | .tup zs => some zs | .lst zs => some zs | _ => none) with
    | some (.lst ys), some zs => if ys.length + zs.length ≤ 16777216 then .ok .non (h.set n (.lst (ys ++ zs))) else .no
    | _, _ => .no
  | _, _ => .no
/-- d.get(k), d.get(k, x) -/
def getM : RMt := fun o xs h => match dctO h o, xs with
  | some (ks, us), [k] => match kindOk k ks, keyOf k with
    | true, some q => .ok ((dfind q ks us).getD .non) h
    | _, _ => .no
  | some (ks, us), [k, x] => match kindOk k ks, keyOf k with
    | true, some q => .ok ((dfind q ks us).getD x) h
    | _, _ => .no
  | _, _ => .no
section
variable {X : Cx} {P : Par} {W : WX}
theorem mt_appI : MtR X "list.append" (rM P W appM) := fun pins s σ H x xs v us Q I rx rs ⟨φ, h, σ', io, ivs, sr, r1, r2, p⟩ => by
  unfold appM at p
  split at p
  · rename_i n iv
    split at p
    · rename_i ys hn
      split at p
      · rename_i hl
        obtain ⟨w, rfl, rw'⟩ := r2.one
        obtain ⟨a, vs, ha, rfl, hH, r⟩ := sr.lst r1 hn
        have n1 : ∀ xs, HO.lst vs ≠ .tup xs := fun xs z => by cases z
        have n2 : ∀ x u, HO.lst vs ≠ .frz x u := fun x u z => by cases z
        have ex : Ext φ H φ (L2.upd H a (.lst (vs ++ [w]))) := Ext.upd (List.mem_of_getElem? ha) hH n1 n2
        refine mt_append pins s σ H _ _ v us Q I rx rs ⟨a, vs, w, rfl, rfl, hH, by rw [r.length]; exact hl, ?_⟩
        exact p φ _ _ ex (sr.write ha hH n1 n2 ⟨_, upd_same, VRs.append (r.mono ex) (VRs.cons (rw'.mono ex) VRs.nil)⟩) VR.n
      · exact p.elim
    · exact p.elim
  · exact p.elim
theorem mt_extI (hK : X.K = P.K) : MtR X "list.extend" (rM P W extM) := fun pins s σ H x xs v us Q I rx rs ⟨φ, h, σ', io, ivs, sr, r1, r2, p⟩ => by
  unfold extM at p
  split at p
  · rename_i n iv
    split at p
    · rename_i ys zs hn hz
      split at p
      · rename_i hl
        obtain ⟨w, rfl, rw'⟩ := r2.one
        obtain ⟨a, vs, ha, rfl, hH, r⟩ := sr.lst r1 hn
        have n1 : ∀ xs, HO.lst vs ≠ .tup xs := fun xs z => by cases z
        have n2 : ∀ x u, HO.lst vs ≠ .frz x u := fun x u z => by cases z
        split at hz
        · cases hz
          obtain ⟨b, ws, rfl, hb, rb⟩ := rw'.tupI
          have ex : Ext φ H φ (L2.upd H a (.lst (vs ++ ws))) := Ext.upd (List.mem_of_getElem? ha) hH n1 n2
          have hQ := p φ _ .non ex (sr.write ha hH n1 n2 ⟨_, upd_same, VRs.append (r.mono ex) (rb.mono ex)⟩) VR.n
          have hll : vs.length + ws.length ≤ sizeLine := by rw [r.length, rb.length]; exact hl
          cases (show v = Value.ref a from rx)
          obtain ⟨u, rfl, ru⟩ := rs.one
          cases (show u = Value.ref b from ru)
          obtain ⟨z, its, m, rr, hln, e⟩ := I.lstM hH
          obtain ⟨its2, rr2, ⟨⟨cls, dd, data, sl⟩, ho, hc, m2, hd⟩, hz2⟩ := I.tuple (by rw [hK]; exact hb)
          simp only at hc hd
          subst hc hd
          have hl2 := rr2.length
          have hsz : its.toArray.size + its2.toArray.size ≤ sizeLine := by rw [List.size_toArray, List.size_toArray]; omega
          have hlong : ¬ (!its.toArray.isEmpty && Builtin.List.listTooLong (its.toArray.size + its2.toArray.size)) = true := by
            rw [notLongL hsz, Bool.and_false]
            exact Bool.false_ne_true
          refine call_meets F.slot_list_extend ⟨_, e, rfl⟩ F.entry_list_extend (F.args_list_extend_2 _ _) (ext_tup a its.toArray m b its2.toArray m2 dd sl hlong (by rw [List.size_toArray]; omega) (by omega)) ⟨e, ho, ?_⟩
          refine ⟨.non, _, I.lset (its' := its ++ its2) hH e (by simp) (rr.append rr2) ?_, rfl, hQ⟩
          rw [List.length_append]
          exact hll
        · cases hz
          rw [VR] at rw'
          obtain ⟨b, ws, rfl, hb, hoff, rb⟩ := rw'
          have ex : Ext φ H φ (L2.upd H a (.lst (vs ++ ws))) := Ext.upd (List.mem_of_getElem? ha) hH n1 n2
          have hQ := p φ _ .non ex (sr.write ha hH n1 n2 ⟨_, upd_same, VRs.append (r.mono ex) (rb.mono ex)⟩) VR.n
          exact mt_extend pins s σ H _ _ v us Q I rx rs ⟨a, b, vs, ws, rfl, rfl, hH, hb, by rw [r.length, rb.length]; exact hl, hQ⟩
        · cases hz
      · exact p.elim
    · exact p.elim
  · exact p.elim
theorem mt_getI (hK : X.K = P.K) (hw : X.w = P.w) (hu : X.A.units + 65 < cLine) : MtR X "dict.get" (rM P W getM) := fun pins s σ H x xs v us Q I rx rs ⟨φ, h, σ', io, ivs, sr, r1, r2, p⟩ => by
  unfold getM at p
  split at p
  · rename_i ks ys k e
    split at p
    · rename_i q b eq
      obtain ⟨w, rfl, rw'⟩ := r2.one
      obtain ⟨u, rfl, ru⟩ := rs.one
      obtain ⟨a, o, es, rfl, hp, k1, k2, k3⟩ := dctO_ok sr r1 e
      cases (show v = Value.ref a from rx)
      obtain ⟨q', xs, e3, d, g2, g3, g4, g5⟩ := dict_both I hK hw hp k1 k3 b rw' ru
      rw [eq] at e3; cases e3
      have f := find_ok (q := q) g4 g5 k2
      refine d.get1 g2 (by omega) fun t => ?_
      cases ew : dfind q ks ys with
      | some z =>
        rw [ew] at f p
        obtain ⟨b', val, vv, f1, f2, f3⟩ := f
        rw [f1]
        exact ⟨vv, H, I.tok _, f3, p.ret sr f2⟩
      | none =>
        rw [ew] at f p
        rw [f]
        exact ⟨.non, H, I.tok _, rfl, p.ret sr VR.n⟩
    · exact p.elim
  · rename_i ks ys k x e
    split at p
    · rename_i q b eq
      obtain ⟨w, w2, rfl, rw', rw2⟩ := r2.two
      obtain ⟨u, u2, rfl, ru, ru2⟩ := vals2 rs
      obtain ⟨a, o, es, rfl, hp, k1, k2, k3⟩ := dctO_ok sr r1 e
      cases (show v = Value.ref a from rx)
      obtain ⟨q', xs, e3, d, g2, g3, g4, g5⟩ := dict_both I hK hw hp k1 k3 b rw' ru
      rw [eq] at e3; cases e3
      have f := find_ok (q := q) g4 g5 k2
      refine d.get2 g2 (by omega) fun t => ?_
      cases ew : dfind q ks ys with
      | some z =>
        rw [ew] at f p
        obtain ⟨b', val, vv, f1, f2, f3⟩ := f
        rw [f1]
        exact ⟨vv, H, I.tok _, f3, p.ret sr f2⟩
      | none =>
        rw [ew] at f p
        rw [f]
        exact ⟨w2, H, I.tok _, ru2, p.ret sr rw2⟩
    · exact p.elim
  · exact p.elim
end
end EV
namespace EV
open PySem PySem.Spec PyProof.Rows L2 RZ

def ItD (a : Addr) (o : Obj) (es : Raw) : It :=
  ⟨fun i H => H a = some (DctO a o es) ∧ i < es.length, fun i H x H' => H' = H ∧ ∃ p, es[i]? = some p ∧ x = p.2.1, fun i H => H a = some (DctO a o es) ∧ es.length ≤ i⟩
def ItP (a : Addr) (o : Obj) (es : Raw) : It :=
  ⟨fun i H => H a = some (DctO a o es) ∧ i < es.length, fun i H x H' => ∃ T p, es[i]? = some p ∧ x = .ref T ∧ H T = none ∧ H' = upd H T (.tup [p.2.1, p.2.2]), fun i H => H a = some (DctO a o es) ∧ es.length ≤ i⟩
theorem Paired.at {α β : Type} {R : α → β → Prop} : ∀ {a : List α} {b : List β} {i : Nat} {x : α}, Paired R a b → a[i]? = some x → ∃ y, b[i]? = some y ∧ R x y
  | _, _, i, _, .nil, e => by simp at e
  | _, _, 0, _, .cons c _, e => by simp at e; subst e; exact ⟨_, rfl, c⟩
  | _, _, i + 1, _, .cons _ t, e => by
    obtain ⟨y, h1, h2⟩ := Paired.at (i := i) t (by simpa using e)
    exact ⟨y, by simpa using h1, h2⟩
section
variable {X : Cx} {pins : List (Addr × Obj)} {σ : L2.St} {H : Hp} {s : Shared}
theorem raw_at (I : Inv X pins σ H s) {a : Addr} {o : Obj} {es : Raw} (h : H a = some (DctO a o es)) : ∃ arr ep, s.heap.get? a = some o ∧ (a == sysModules) = false ∧ o.ExactDict ∧ o.data = .dict arr ep ∧ arr.size = es.length ∧ es.length ≤ sizeLine ∧
    (∀ (i : Nat) p, es[i]? = some p → ∃ en, arr[i]? = some en ∧ L2.RelV p.2.1 en.key ∧ L2.RelV p.2.2 en.val) ∧ s.heap.DictRaw a arr ep := by
  have z : ObjOk X.prog X.w H s.heap a (DctO a o es) := I.hok a _ h
  obtain ⟨⟨h1, h2, h3, h4, arr, ep, h5, h6⟩, _⟩ := z
  refine ⟨arr, ep, h1, h2, h4, h5, ?_, h3, fun i p e => ?_, ⟨o, h1, h4, h5⟩⟩
  · rw [← Array.length_toList]; exact (Paired.length h6).symm
  · obtain ⟨en, g1, g2, g3, g4⟩ := Paired.at h6 e
    exact ⟨en, by rw [← Array.getElem?_toList]; exact g1, g3, g4⟩
end
section
variable {P : Program} {w : World} {K : PySem.W.Frag} {tg : Expr} {d : Addr} {o : Obj} {arr : Array DictEntry} {ep : Nat} {es : Raw}
theorem turn_dk (it : Addr) (hod : o.data = .dict arr ep) : Turn P w K tg (ItD d o es) [it] it (fun i h => h.IsKeyIter it d i es.length ep) where
  mem := by simp
  obj := fun i h st b hb => by
    have e : b = it := by simpa using hb
    subst e
    obtain ⟨oi, e, c, dd⟩ := st
    exact ⟨oi, e, fun v z => by rw [dd] at z; cases z⟩
  keep := fun i h h' st k => st.at fun oi e => k it (by simp) oi e
  item := by
    intro X hP hw hK hc i pins s σ H E I hf st hg
    subst hP hw hK
    obtain ⟨hd, hi⟩ := hg
    obtain ⟨f0, f1, f2, f3, f4, f5⟩ := hf it (by simp)
    obtain ⟨arr', ep', hgd, hs, hx, hdt, hsz, hln, ent, raw⟩ := raw_at I hd
    obtain ⟨rfl, rfl⟩ := dict_ep hod hdt
    obtain ⟨p, hp⟩ : ∃ p, es[i]? = some p := ⟨es[i], List.getElem?_eq_getElem hi⟩
    obtain ⟨en, hen, hkey, hval⟩ := ent i p hp
    refine next_key_item st hgd hdt hsz hen fun h' st' sb => ?_
    have I1 : Inv X pins σ H { s with heap := h' } := I.turned (t' := s.toks) (fun b ob hb e => (sb.2 b hb).trans e) f0 f1 f3 f4 f5
    obtain ⟨oi, e, c, dd⟩ := id st'
    exact ⟨en.key, rfl, go_of (s := { s with heap := h' }) e c dd (by decide) ⟨p.2.1, H, I1, hkey, ⟨rfl, p, hp, rfl⟩, st', fun b hb => (hf b hb).1⟩⟩
  done := by
    intro X hP hw hK hc i pins s σ H E I hf st hg
    subst hP hw hK
    obtain ⟨hd, hi⟩ := hg
    obtain ⟨f0, f1, f2, f3, f4, f5⟩ := hf it (by simp)
    obtain ⟨arr', ep', hgd, hs, hx, hdt, hsz, hln, ent, raw⟩ := raw_at I hd
    obtain ⟨rfl, rfl⟩ := dict_ep hod hdt
    exact next_key_end (I.ok.hd hc) st hgd hdt hsz hi fun h' eb => ⟨rfl, I.turned (t' := s.toks) (fun b ob hb e => eb b ob hb e) f0 f1 f3 f4 f5⟩
  self := fun A i s Q E st h => wpAny_pyIter_keyiter st h
theorem turn_dp {elts : List Expr} {kk : Nat} {tpos : Pos} (it : Addr) (hod : o.data = .dict arr ep) :
    Turn P w K (.Tuple elts kk tpos) (ItP d o es) [it] it (fun i h => ∃ ok ov, IsItemIter h it d i es.length ep ok ov) where
  mem := by simp
  obj := fun i h st b hb => by
    have e : b = it := by simpa using hb
    subst e
    obtain ⟨ok, ov, e⟩ := st
    exact ⟨_, e, fun v z => nomatch z⟩
  keep := fun i h h' st k => let ⟨ok, ov, e⟩ := st; ⟨ok, ov, k it (by simp) _ e⟩
  item := by
    intro X hP hw hK hc i pins s σ H E I hf st hg
    subst hP hw hK
    obtain ⟨hd, hi⟩ := hg
    obtain ⟨arr', ep', hgd, hs, hx, hdt, hsz, hln, ent, raw⟩ := raw_at I hd
    obtain ⟨rfl, rfl⟩ := dict_ep hod hdt
    obtain ⟨p, hp⟩ : ∃ p, es[i]? = some p := ⟨es[i], List.getElem?_eq_getElem hi⟩
    obtain ⟨en, hen, hkey, hval⟩ := ent i p hp
    obtain ⟨ok, ov, he⟩ := st
    rw [← hsz] at he
    have hlt : it < s.heap.objs.size := Heap.lt_size he
    have hi' : i < arr'.size := by rw [hsz]; exact hi
    have een : arr'[i] = en := by rw [Array.getElem?_eq_getElem hi'] at hen; exact Option.some.inj hen
    refine PySem.wpAny_pyNext_items_item_raw he raw hi' fun h' ho hT hz hk => ?_
    rw [een] at ho hT
    refine ⟨_, rfl, wpAny_letOwnedTupleGo_items (s := { s with heap := h' }) ho fun h'' he' sb => ?_⟩
    have hT2 : h''.get? s.heap.objs.size = some { cls := .type "tuple", data := .seq #[en.key, en.val] } := (sb.2 _ (Nat.ne_of_gt hlt)).trans hT
    have new : ObjOk X.prog X.w (upd H s.heap.objs.size (.tup [p.2.1, p.2.2])) h'' s.heap.objs.size (.tup [p.2.1, p.2.2]) :=
      ⟨by show 2 ≤ sizeLine; decide, [en.key, en.val], .cons hkey (.cons hval .nil), ⟨_, hT2, rfl, _, rfl⟩⟩
    have I1 : Inv X pins σ (upd H s.heap.objs.size (.tup [p.2.1, p.2.2])) { s with heap := h'' } :=
      I.turnedNew (t' := s.toks) (ch := [it]) (fun b ob hb e => (sb.2 b (by simpa using hb)).trans (hk b ob (by simpa using hb) e)) hf (Nat.le_refl _) new
    refine ⟨.ref s.heap.objs.size, _, I1, rfl, ⟨_, p, hp, rfl, I.hok.fresh (Nat.le_refl _), rfl⟩, ⟨en.key, en.val, ?_⟩, fun b hb => ?_⟩
    · rw [← hsz]; exact he'
    · have e : b = it := by simpa using hb
      rw [e, upd_ne (Nat.ne_of_lt hlt)]
      exact (hf it (by simp)).1
  done := by
    intro X hP hw hK hc i pins s σ H E I hf st hg
    subst hP hw hK
    obtain ⟨hd, hi⟩ := hg
    obtain ⟨f0, f1, f2, f3, f4, f5⟩ := hf it (by simp)
    obtain ⟨arr', ep', hgd, hs, hx, hdt, hsz, hln, ent, raw⟩ := raw_at I hd
    obtain ⟨rfl, rfl⟩ := dict_ep hod hdt
    obtain ⟨ok, ov, he⟩ := st
    rw [← hsz] at he
    exact PySem.wpAny_pyNext_items_end_raw (I.ok.hd hc) he raw (by omega) fun h' eb => ⟨rfl, I.turned (t' := s.toks) (fun b ob hb e => eb b ob hb e) f0 f1 f3 f4 f5⟩
  self := fun A i s Q E st h => let ⟨_, _, e⟩ := st; PySem.W.kcp_self e h
end
/-- the readings -/
def iDk (td : TE) : TI := fun σ H R => td σ H fun x H1 => ∃ a o es, x = .ref a ∧ H1 a = some (DctO a o es) ∧ R (ItD a o es) H1
def iDp (td : TE) : TI := fun σ H R => td σ H fun x H1 => ∃ a o es, x = .ref a ∧ H1 a = some (DctO a o es) ∧ R (ItP a o es) H1
section
variable {X : Cx} {tg e : Expr} {td : TE} {apos cpos : Pos}
theorem pi_dk (he : PE X e td) : PI X tg e (iDk td) := by
  refine ⟨fun pins s σ H R I h => ?_⟩
  refine thn (he.run pins s σ H _ I h) fun u s1 ⟨x, H1, I1, rx, a, o, es, ex, hd, q⟩ => ?_
  subst ex
  obtain rfl : u = Value.ref a := rx
  obtain ⟨arr, ep, hgd, hs, hx, hdt, hsz, hln, ent, raw⟩ := raw_at I1 hd
  refine iter_keys hs hgd hx hdt (pi_one (tk := s1.toks) I1 _ (turn_dk _ hdt) ⟨_, Heap.get?_push_size _ rfl, rfl, ?_⟩ q)
  rw [hsz] <;> rfl
theorem pi_dp {elts : List Expr} {kk : Nat} {tpos : Pos} (he : PE X e td) (hbase : attributeBase e "items" X.env (eval e X.env) = eval e X.env) (hline : (apos.endLine == cpos.line) = true) :
    PI X (.Tuple elts kk tpos) (.Call (.Attribute e "items" apos) [] [] cpos) (iDp td) := by
  refine ⟨fun pins s σ H R I h => ?_⟩
  refine wpAny_Call_method (T := "dict") (id := "dict.items") hbase rfl hline F.plainAttrs_dict F.slot_dict_items F.type_dict_items (thn (he.run pins s σ H _ I h) fun u s1 ⟨x, H1, I1, rx, a, o, es, ex, hd, q⟩ => ?_)
  subst ex
  obtain rfl : u = Value.ref a := rx
  obtain ⟨arr, ep, hgd, hs, hx, hdt, hsz, hln, ent, raw⟩ := raw_at I1 hd
  refine ⟨raw.typeIs, fun b e => by cases e; exact ⟨o, hgd, hx.2.1⟩, ?_⟩
  have I2 : Inv X pins σ H1 { s1 with heap := s1.heap.push { cls := .type "dict_items", data := .fields #[.ref a] } } := I1.kept (t' := s1.toks) fun b ob q => Heap.get?_push_of_some _ q
  have fin : wpAny (model X.prog X.w) X.A (pyIter (.ref s1.heap.objs.size)) (PIE X pins σ (.Tuple elts kk tpos) R) X.xe { s1 with heap := s1.heap.push { cls := .type "dict_items", data := .fields #[.ref a] } } := by
    refine PySem.wpAny_pyIter_items_raw (d := a) ⟨_, Heap.get?_push_size _ rfl, rfl, rfl⟩ (raw.at fun o e => Heap.get?_push_of_some _ e) (pi_one (tk := s1.toks) I2 _ (turn_dp _ hdt) ⟨.none, .none, ?_⟩ q)
    rw [hsz]
    exact Heap.get?_push_size _ rfl
  show wpAny _ _ (callWith cpos (.builtin "dict.items") [.ref a] [] []) _ X.xe s1
  exact method_meetsIn F.slot_dict_items F.entry_dict_items rfl (PySem.evalArgs_none ⟨rfl, raw.typeIs, F.args_dict_items_1 _, _, PySem.meets_dict_items_raw a hs, ⟨_, _, raw⟩, fin⟩)
end
section
variable {X : Cx} {P : Par} {W : WX}
theorem goes_dk {a : Addr} {o : Obj} {es : Raw} {ks : List IV} {φ : List Addr} {H : Hp} (h1 : ∀ φ' H', Ext φ H φ' H' → H' a = some (DctO a o es)) (r : VRs P φ H ks (es.map (·.2.1))) : Goes P (ItD a o es) ks φ H := by
  have hl : ks.length = es.length := by simpa using r.len'
  refine ⟨fun φ' H' e => ⟨h1 _ _ e, by omega⟩, fun i φ' H' hi e => ⟨h1 _ _ e, by omega⟩, fun i φ' H' x H2 e y v hv => ?_⟩
  obtain ⟨rfl, p, hp, rfl⟩ := y
  obtain ⟨u, e1, r1⟩ := r.get hv
  rw [List.getElem?_map, hp] at e1
  cases e1
  exact ⟨Ext.refl _ _, fun _ _ s => s, fun l k => VR.mono e _ _ (VR.avI k _ _ r1)⟩
def pairsV (ks us : List IV) : List IV := zipV ks us
theorem goes_dp {a : Addr} {o : Obj} {es : Raw} {ks us : List IV} {φ : List Addr} {H : Hp} (h1 : ∀ φ' H', Ext φ H φ' H' → H' a = some (DctO a o es)) (r : VRs P φ H ks (es.map (·.2.1))) (r2 : VRs P φ H us (es.map (·.2.2))) : Goes P (ItP a o es) (zipV ks us) φ H := by
  have hl : ks.length = es.length := by simpa using r.len'
  have hl2 : us.length = es.length := by simpa using r2.len'
  have hz : (zipV ks us).length = es.length := by rw [zipV_length]; omega
  refine ⟨fun φ' H' e => ⟨h1 _ _ e, by omega⟩, fun i φ' H' hi e => ⟨h1 _ _ e, by omega⟩, fun i φ' H' x H2 e y v hv => ?_⟩
  obtain ⟨T, p, hp, rfl, hT, rfl⟩ := y
  obtain ⟨x0, y0, e1, e2, rfl⟩ := zipV_get hv
  obtain ⟨u1, k1, r3⟩ := r.get e1
  obtain ⟨u2, k2, r4⟩ := r2.get e2
  rw [List.getElem?_map, hp] at k1 k2
  cases k1; cases k2
  have ex := Ext.new (φ := φ') (o := .tup [p.2.1, p.2.2]) hT
  refine ⟨ex, fun R h s => s.untold hT, fun l k => ?_⟩
  rw [VR]
  have e' := e.trans ex
  exact ⟨T, [p.2.1, p.2.2], rfl, .of upd_same, VRs.cons (VR.mono e' _ _ (VR.avI k _ _ r3)) (VRs.cons (VR.mono e' _ _ (VR.avI k _ _ r4)) VRs.nil)⟩
/-- a walk of whatever is left as it is: a tuple, a list, a dict's keys -/
def anyIt (fa : IE → M IV) : IE → M (List IV) := fun σ h => (fa σ h).bind fun v h => match v with
  | .tup xs => .ok xs h
  | .lst xs => .ok xs h
  | .scr xs => .ok xs h
  | .dct ks _ => .ok ks h
  | _ => .no
theorem PI.or3 {tg e : Expr} {t1 t2 t3 : TI} (h1 : PI X tg e t1) (h2 : PI X tg e t2) (h3 : PI X tg e t3) : PI X tg e (fun σ H R => t1 σ H R ∨ t2 σ H R ∨ t3 σ H R) := ⟨fun pins s σ H R I h => by
  rcases h with h | h | h
  · exact h1.run pins s σ H R I h
  · exact h2.run pins s σ H R I h
  · exact h3.run pins s σ H R I h⟩
theorem pi_anyI {a tg : Expr} {fa : IE → M IV} (hK : X.K = P.K) (ha : PE X a (tE P W fa)) : PI X tg a (tI P W (anyIt fa)) := PI.weak (PI.or3 (pi_tupI hK ha) (pi_lstI hK ha) (pi_dk ha)) fun σ H R hq => by
  obtain ⟨φ, h, σi, s, se, p⟩ := hq
  cases e : fa σi h with
  | ex v h1 =>
    refine .inl ⟨φ, h, σi, s, se, ?_⟩
    unfold anyIt at p; unfold tupIt
    simp only [e, Out.bind] at p ⊢; exact p
  | no => unfold anyIt at p; simp only [e, Out.bind] at p; exact p.elim
  | ok v h1 =>
    have p0 := p
    unfold anyIt at p
    simp only [e, Out.bind] at p
    split at p
    · exact .inl ⟨φ, h, σi, s, se, by unfold tupIt; simp only [e, Out.bind]; exact p⟩
    · exact .inr (.inl ⟨φ, h, σi, s, se, by unfold lstIt; simp only [e, Out.bind]; exact p⟩)
    · exact .inr (.inl ⟨φ, h, σi, s, se, by unfold lstIt; simp only [e, Out.bind]; exact p⟩)
    · refine .inr (.inr ⟨φ, h, σi, s, se, ?_⟩)
      rw [e]
      intro φ' H' x ex s' r
      rw [VR] at r
      obtain ⟨b, o, es, rfl, h2, hn, r1, r2, r3⟩ := r
      exact ⟨b, o, es, rfl, h2, p φ' H' _ ex s' (goes_dk (fun φ2 H2 e2 => e2.keep _ _ h2 hn.1) r1)⟩
    · exact p.elim
/-- d.items(), the pairs -/
def itmIt (fa : IE → M IV) : IE → M (List IV) := fun σ h => (fa σ h).bind fun v h => match v with
  | .dct ks us => .ok (zipV ks us) h
  | _ => .no
theorem pi_itmI {a : Expr} {fa : IE → M IV} {apos cpos : Pos} {elts : List Expr} {kk : Nat} {tpos : Pos} (ha : PE X a (tE P W fa)) (hbase : attributeBase a "items" X.env (eval a X.env) = eval a X.env) (hline : (apos.endLine == cpos.line) = true) :
    PI X (.Tuple elts kk tpos) (.Call (.Attribute a "items" apos) [] [] cpos) (tI P W (itmIt fa)) := PI.weak (pi_dp ha hbase hline) fun σ H R hq => by
  obtain ⟨φ, h, σi, s, se, p⟩ := hq
  refine ⟨φ, h, σi, s, se, ?_⟩
  unfold itmIt at p
  cases e : fa σi h with
  | ok v h1 =>
    simp only [e, Out.bind] at p
    intro φ' H' x ex s' r
    split at p
    · rw [VR] at r
      obtain ⟨b, o, es, rfl, h2, hn, r1, r2, r3⟩ := r
      exact ⟨b, o, es, rfl, h2, p φ' H' _ ex s' (goes_dp (fun φ2 H2 e2 => e2.keep _ _ h2 hn.1) r1 r2)⟩
    · exact p.elim
  | ex v h1 => simp only [e, Out.bind] at p; exact p
  | no => simp only [e, Out.bind] at p; exact p

theorem Post.newDct {σ : L2.St} {φ : List Addr} {H : Hp} {h : IH} {Q : VK} {ks us : List IV} {o : Obj} {es : Raw} (p : Post P W σ φ H Q (.ok (.dct ks us) h)) (s : SR P φ H h) (r1 : VRs P φ H ks (es.map (·.2.1))) (r2 : VRs P φ H us (es.map (·.2.2))) (r3 : KeysOk P.w ks (es.map (·.1))) {t : Addr} (ht : H t = none) : Q (.ref t) (upd H t (DctO t o es)) := by
  refine p φ _ _ (Ext.new ht) (s.untold ht) ?_
  rw [VR]
  exact ⟨t, o, es, rfl, upd_same, s.fresh ht, r1.mono (Ext.new ht), r2.mono (Ext.new ht), r3⟩
theorem Post.newDctR {σ : L2.St} {φ : List Addr} {H : Hp} {h : IH} {Q : VK} {ks us : List IV} {o : Obj} {es : Raw} (p : Post P W σ φ H Q (.ok (.ref h.length) (h ++ [.dct ks us]))) (s : SR P φ H h) (r1 : VRs P φ H ks (es.map (·.2.1))) (r2 : VRs P φ H us (es.map (·.2.2))) (r3 : KeysOk P.w ks (es.map (·.1))) {t : Addr} (ht : H t = none) : Q (.ref t) (upd H t (DctO t o es)) := by
  refine p (φ ++ [t]) _ _ (Ext.newA ht) (s.told ht ⟨o, es, upd_same, r1.mono (Ext.newA ht), r2.mono (Ext.newA ht), r3⟩) ?_
  rw [VR]
  exact ⟨t, by rw [← s.len]; simp, rfl⟩
def emptyO : Obj := { cls := .type "dict", data := .dict #[] }
theorem keysOk_nil {w : World} : KeysOk w [] [] := ⟨[], rfl, List.nodup_nil, rfl⟩
theorem raw_nil {h : Heap} (hb : sysModules < h.objs.size) : RawAt h.objs.size emptyO [] (h.push emptyO) :=
  ⟨Heap.get?_push_size _ rfl, beq_eq_false_iff_ne.mpr (Ne.symm (Nat.ne_of_lt hb)), Nat.zero_le _, ⟨rfl, rfl, rfl⟩, #[], 0, rfl, .nil⟩
theorem pe_dnewD {pos : Pos} : PE X (.Dict [] [] pos) (fun _ H Q => ∀ p, H p = none → Q (.ref p) (upd H p (DctO p emptyO []))) := ⟨fun pins s σ H Q I h =>
  wpAny_Dict_empty ⟨.ref s.heap.objs.size, _, I.laid (a := s.heap.objs.size) (o := DctO s.heap.objs.size emptyO []) (t' := s.toks) (fun _ _ q => Heap.get?_push_of_some _ q) (Nat.le_refl _) (raw_nil I.big).objOk, rfl, h _ (I.hok.fresh (Nat.le_refl _))⟩⟩
def dct0E : IE → M IV := fun _ h => .ok (.dct [] []) h
def dct0R : IE → M IV := fun _ h => .ok (.ref h.length) (h ++ [.dct [] []])
theorem pe_d0I {pos : Pos} : PE X (.Dict [] [] pos) (tE P W dct0E) := PE.weak pe_dnewD fun σ H Q hq => by
  obtain ⟨φ, h, σi, s, se, p⟩ := hq
  exact fun t ht => Post.newDct p s VRs.nil VRs.nil keysOk_nil ht
theorem pe_d0R {pos : Pos} : PE X (.Dict [] [] pos) (tE P W dct0R) := PE.weak pe_dnewD fun σ H Q hq => by
  obtain ⟨φ, h, σi, s, se, p⟩ := hq
  exact fun t ht => Post.newDctR p s VRs.nil VRs.nil keysOk_nil ht
end
end EV
namespace EV
open PySem PySem.Spec PyProof.Rows L2 RZ

def dkey (h : IH) (x : IV) : PyData := (dat h DEEP x).getD .none
def leI (h : IH) : IV → IV → Bool := PySem.W.dataLe false (dkey h)
def isTupC : PyData → Bool
  | .tuple (_ :: _) => true
  | _ => false
def notNT : PyData → Bool
  | .none => false
  | .tuple _ => false
  | _ => true
def sortOk (h : IH) (xs : List IV) : Bool := match mapO (dat h DEEP) xs with
  | some ds => (ds.all fun d => ds.all fun e => PySem.W.alike d e) && (ds.all isTupC || ds.all notNT)
  | none => false
theorem mapO_all {α β : Type} {f : α → Option β} : ∀ {xs : List α} {ys : List β}, mapO f xs = some ys → ys = xs.filterMap f ∧ ∀ x ∈ xs, ∃ y, f x = some y ∧ y ∈ ys
  | [], _, e => by simp only [mapO] at e; cases e; simp
  | x :: xs, _, e => by
    obtain ⟨y, ys, h1, h2, rfl⟩ := mapO_cons e
    obtain ⟨h3, h4⟩ := mapO_all h2
    refine ⟨by rw [List.filterMap_cons, h1, ← h3], fun z hz => ?_⟩
    rcases List.mem_cons.mp hz with rfl | hz
    · exact ⟨y, h1, List.mem_cons_self⟩
    · obtain ⟨w, h5, h6⟩ := h4 z hz
      exact ⟨w, h5, List.mem_cons_of_mem _ h6⟩
theorem sortOk_ok {h : IH} {xs : List IV} (e : sortOk h xs = true) : (∀ x ∈ xs, ∃ d, dat h DEEP x = some d ∧ dkey h x = d) ∧ PySem.W.AllAlike (xs.map (dkey h)) ∧ PySem.W.Sortable (xs.map (dkey h)) := by
  unfold sortOk at e
  split at e
  · rename_i ds eq
    obtain ⟨e1, e2⟩ := Bool.and_eq_true_iff.mp e
    obtain ⟨_, q⟩ := mapO_all eq
    have key : ∀ x ∈ xs, ∃ d, dat h DEEP x = some d ∧ dkey h x = d ∧ d ∈ ds := fun x hx => by
      obtain ⟨d, h1, h2⟩ := q x hx
      exact ⟨d, h1, by unfold dkey; rw [h1]; rfl, h2⟩
    have mem : ∀ d ∈ xs.map (dkey h), d ∈ ds := fun d hd => by
      obtain ⟨x, hx, rfl⟩ := List.mem_map.mp hd
      obtain ⟨d, _, h2, h3⟩ := key x hx
      rw [h2]; exact h3
    refine ⟨fun x hx => let ⟨d, h1, h2, _⟩ := key x hx; ⟨d, h1, h2⟩, fun d hd d' hd' => ?_, ?_⟩
    · exact List.all_eq_true.mp (List.all_eq_true.mp e1 d (mem d hd)) d' (mem d' hd')
    · rcases Bool.or_eq_true_iff.mp e2 with e2 | e2
      · refine .inl fun d hd => ?_
        have := List.all_eq_true.mp e2 d (mem d hd)
        unfold isTupC at this
        split at this
        · exact ⟨_, _, rfl⟩
        · cases this
      · refine .inr fun d hd => ?_
        have := List.all_eq_true.mp e2 d (mem d hd)
        unfold notNT at this
        split at this
        · cases this
        · cases this
        · rename_i n1 n2
          exact ⟨fun z => n1 z, fun xs z => n2 xs z⟩
  · cases e
/-- the items, sorted -/
def sortL (h : IH) (xs : List IV) : List IV := xs.mergeSort (leI h)

section
variable {P : Par} {φ : List Addr} {H : Hp} {h : IH}
theorem VRs.pairs : ∀ {xs : List IV} {vs : List V}, VRs P φ H xs vs → ∃ bs : List (IV × V), xs = bs.map (·.1) ∧ vs = bs.map (·.2) ∧ ∀ b ∈ bs, VR P φ H b.1 b.2
  | [], _, r => by rw [VRs] at r; subst r; exact ⟨[], rfl, rfl, by simp⟩
  | x :: xs, _, r => by
    rw [VRs] at r
    obtain ⟨v, t, rfl, r1, r2⟩ := r
    obtain ⟨bs, h1, h2, h3⟩ := VRs.pairs r2
    exact ⟨(x, v) :: bs, by rw [h1]; rfl, by rw [h2]; rfl, fun b hb => by
      rcases List.mem_cons.mp hb with rfl | hb
      · exact r1
      · exact h3 b hb⟩
theorem VRs.ofPairs : ∀ {bs : List (IV × V)}, (∀ b ∈ bs, VR P φ H b.1 b.2) → VRs P φ H (bs.map (·.1)) (bs.map (·.2))
  | [], _ => VRs.nil
  | b :: bs, h => VRs.cons (h b List.mem_cons_self) (VRs.ofPairs fun c hc => h c (List.mem_cons_of_mem _ hc))
end
theorem each_vals : ∀ {bs : List (IV × V)} {us : List Value}, PySem.W.EachIs (fun (u : Value) (b : IV × V) => L2.RelV b.2 u) us bs → Vals (bs.map (·.2)) us
  | [], _, .nil => .nil
  | _ :: _, _, .cons a b => .cons a (each_vals b)
theorem vals_each : ∀ {bs : List (IV × V)} {us : List Value}, Vals (bs.map (·.2)) us → PySem.W.EachIs (fun (u : Value) (b : IV × V) => L2.RelV b.2 u) us bs
  | [], _, .nil => .nil
  | _ :: _, _, .cons a b => .cons a (vals_each b)
section
variable {X : Cx} {P : Par} {φ : List Addr} {H : Hp} {h : IH} {pins : List (Addr × Obj)} {σ : L2.St} {s : Shared}
theorem each_reads (I : Inv X pins σ H s) (hK : X.K = P.K) (sr : SR P φ H h) : ∀ {bs : List (IV × V)} {us : List Value}, (∀ b ∈ bs, VR P φ H b.1 b.2) → (∀ b ∈ bs, ∃ d, dat h DEEP b.1 = some d ∧ dkey h b.1 = d) → Vals (bs.map (·.2)) us →
    PySem.W.EachIs (fun (u : Value) (b : IV × V) => ∃ as, Reads s.heap u (dkey h b.1) as) us bs
  | [], _, _, _, .nil => .nil
  | b :: bs, _, r, k, .cons a t => by
    refine .cons ?_ (each_reads I hK sr (fun c hc => r c (List.mem_cons_of_mem _ hc)) (fun c hc => k c (List.mem_cons_of_mem _ hc)) t)
    obtain ⟨d, h1, h2⟩ := k b List.mem_cons_self
    rw [h2]
    have dp := dat_Dp sr _ _ _ _ h1 (r b List.mem_cons_self)
    rw [← hK] at dp
    exact Dp.reads I d _ _ dp a
theorem each_mono {α β : Type} {R R' : α → β → Prop} (k : ∀ a b, R a b → R' a b) : ∀ {as : List α} {bs : List β}, PySem.W.EachIs R as bs → PySem.W.EachIs R' as bs
  | _, _, .nil => .nil
  | _, _, .cons a t => .cons (k _ _ a) (each_mono k t)
theorem dkey_depth {x : IV} {d : PyData} (e : dat h DEEP x = some d) (e2 : dkey h x = d) : (dkey h x).depth ≤ 12 := by rw [e2]; exact (dat_ok _ _ _ e).2
theorem sort_pairs {bs : List (IV × V)} : (bs.mergeSort (PySem.W.dataLe false fun b => dkey h b.1)).map (·.1) = sortL h (bs.map (·.1)) := by
  unfold sortL
  rw [List.map_mergeSort (s := leI h)]
  intro a _ b _
  rfl
/-- items that read as data are sorted -/
theorem sorted_tail (I : Inv X pins σ H s) (hK : X.K = P.K) (hu : X.A.units + 65 < cLine) (sr : SR P φ H h) {xs : List IV} {vs : List V} {us : List Value} (r : VRs P φ H xs vs) (rv : Vals vs us) (ok : sortOk h xs = true) (hl : xs.length ≤ sizeLine) {h' : Heap} {tk : Nat} (k : ∀ b o, s.heap.get? b = some o → h'.get? b = some o)
    {Q : PySem.Fin → Shared → Prop} {E : Value → Shared → Prop}
    (q : ∀ ws hp, VRs P φ H (sortL h xs) ws → ws.length = xs.length → (∀ b o, h'.get? b = some o → hp.get? b = some o) → (∃ (its : List Value) (e : Nat), Vals ws its ∧ hp.get? h'.objs.size = some (seqObj "list" its.toArray e)) → Q (.done (.ret .none)) { s with heap := hp, toks := tk }) :
    wpAny (model X.prog X.w) X.A.in1.in1 (Builtin.«list.sort» ⟨[.ref h'.objs.size], []⟩) Q E { s with heap := h'.push (seqObj "list" us.toArray 0), toks := tk } := by
  obtain ⟨bs, e1, e2, r1⟩ := r.pairs
  subst e1 e2
  obtain ⟨k1, k2, k3⟩ := sortOk_ok ok
  have k1' : ∀ b ∈ bs, ∃ d, dat h DEEP b.1 = some d ∧ dkey h b.1 = d := fun b hb => k1 b.1 (List.mem_map.mpr ⟨b, hb, rfl⟩)
  have hoL : (h'.push (seqObj "list" us.toArray 0)).get? h'.objs.size = some (seqObj "list" us.toArray 0) := Heap.get?_push_size _ rfl
  have old : ∀ b o, s.heap.get? b = some o → (PySem.W.sortingHeap (h'.push (seqObj "list" us.toArray 0)) h'.objs.size us).get? b = some o := fun b o e =>
    PySem.W.sortingHeap_old (Nat.ne_of_lt (Heap.lt_size (k b o e))) (Heap.get?_push_of_some _ (k b o e))
  have er : PySem.W.EachIs (fun (u : Value) (b : IV × V) => ∃ as, Reads (PySem.W.sortingHeap (h'.push (seqObj "list" us.toArray 0)) h'.objs.size us) u (dkey h b.1) as) us bs :=
    each_mono (fun u b ⟨as, z⟩ => ⟨as, PyProof.Rows.Reads.keeps old z⟩) (each_reads I hK sr r1 k1' rv)
  have ee := vals_each rv
  have em : bs.map (fun b => dkey h b.1) = (bs.map (·.1)).map (dkey h) := by rw [List.map_map]; rfl
  have hal : PySem.W.AllAlike (bs.map fun b => dkey h b.1) := by rw [em]; exact k2
  have hks : PySem.W.Sortable (bs.map fun b => dkey h b.1) := by rw [em]; exact k3
  have hub : ∀ b ∈ bs, X.A.in1.in1.units + (dkey h b.1).depth < cLine := fun b hb => by
    obtain ⟨d, z1, z2⟩ := k1' b hb
    have := dkey_depth z1 z2
    show X.A.units + 1 + 1 + _ < _
    omega
  have hlen : us.length = bs.length := by have := rv.length; simpa using this.symm
  refine PySem.W.list_sort_vals (κ := PySem.W.dataKind (PySem.W.sortingHeap (h'.push (seqObj "list" us.toArray 0)) h'.objs.size us) (bs.map fun b => dkey h b.1)) hoL
    (PySem.W.SortsAt.data (s := { s with heap := PySem.W.sortingHeap (h'.push (seqObj "list" us.toArray 0)) h'.objs.size us, toks := tk }) (PySem.W.each_map (R := fun v d => ∃ as, Reads (PySem.W.sortingHeap (h'.push (seqObj "list" us.toArray 0)) h'.objs.size us) v d as) (fun b : IV × V => dkey h b.1) er) hal hks (PySem.W.bound_map hub)) (by rw [hlen]; simpa using hl) ?_
  have out := PySem.W.sortVals_data false ee er hal
  obtain ⟨e', he'⟩ := PyProof.Rows.sortedHeap_at (vs := us) (out := (PySem.W.sortVals (PySem.W.dataKind (PySem.W.sortingHeap (h'.push (seqObj "list" us.toArray 0)) h'.objs.size us) (bs.map fun b => dkey h b.1)) false us us).toArray) hoL
  refine q ((bs.mergeSort (PySem.W.dataLe false fun b => dkey h b.1)).map (·.2)) _ ?_ (by simp [List.length_mergeSort]) (fun b o e => ?_) ⟨_, e', each_vals out, he'⟩
  · rw [← sort_pairs]
    exact VRs.ofPairs fun b hb => r1 b ((List.mem_mergeSort).mp hb)
  · have hb : b < h'.objs.size := Heap.lt_size e
    rw [PyProof.Rows.sortedHeap_old (Nat.ne_of_lt hb) (by rw [size_push']; exact Nat.lt_succ_of_lt hb)]
    exact Heap.get?_push_of_some _ e
end
/-- the items of a list, of a dict's keys -/
def srcI (h : IH) : IV → Option (List IV)
  | .dct ks _ => some ks
  | .lst xs => some xs
  | .scr xs => some xs
  | .ref n => match h[n]? with
    | some (.lst xs) => some xs
    | some (.dct ks _) => some ks
    | none => none
  | _ => none
theorem srcI_ok {P : Par} {φ : List Addr} {H : Hp} {h : IH} (sr : SR P φ H h) {x : IV} {xs : List IV} {v : V} (r : VR P φ H x v) (e : srcI h x = some xs) : ∃ a, v = .ref a ∧ ((∃ vs, SqL P.K H a vs ∧ VRs P φ H xs vs) ∨ ∃ o es, H a = some (DctO a o es) ∧ VRs P φ H xs (es.map (·.2.1))) := by
  cases x with
  | dct ks us =>
    simp only [srcI] at e; cases e
    rw [VR] at r
    obtain ⟨a, o, es, h1, h2, _, h4, _⟩ := r
    exact ⟨a, h1, .inr ⟨o, es, h2, h4⟩⟩
  | ref n =>
    simp only [srcI] at e
    split at e
    · rename_i q; cases e
      obtain ⟨a, vs, _, h1, h2, h3⟩ := sr.lst r q
      exact ⟨a, h1, .inl ⟨vs, .of h2, h3⟩⟩
    · rename_i q; cases e
      rw [VR] at r
      obtain ⟨a, h1, h2⟩ := r
      obtain ⟨o, es, h3, h4, _⟩ := sr.obj _ _ a q h1
      exact ⟨a, h2, .inr ⟨o, es, h3, h4⟩⟩
    · cases e
  | lst xs =>
    simp only [srcI] at e; cases e
    obtain ⟨a, vs, h1, h2, h3⟩ := sr.lsR r rfl
    exact ⟨a, h1, .inl ⟨vs, h2, h3⟩⟩
  | scr xs =>
    simp only [srcI] at e; cases e
    obtain ⟨a, vs, h1, h2, h3⟩ := sr.lsR r rfl
    exact ⟨a, h1, .inl ⟨vs, h2, h3⟩⟩
  | _ => simp [srcI] at e
/-- sorted(..) -/
def sortedI : RM := fun xs h => match xs with
  | [v] => match srcI h v with
    | some ys => if sortOk h ys = true ∧ ys.length ≤ 16777216 then .ok (.lst (sortL h ys)) h else .no
    | none => .no
  | _ => .no
section
variable {X : Cx} {P : Par} {W : WX}
/-- the end of sorted -/
theorem sorted_end {φ : List Addr} {H : Hp} {h : IH} {pins : List (Addr × Obj)} {σ σ' : L2.St} {s : Shared} {Q : VK} (I : Inv X pins σ H s) (sr : SR P φ H h) {ys : List IV} {ws : List V} {hp : Heap} {tk : Nat} (p : Post P W σ' φ H Q (.ok (.lst (sortL h ys)) h)) (r : VRs P φ H (sortL h ys) ws) (hl : ws.length ≤ sizeLine) {a : Addr} (k : ∀ b o, s.heap.get? b = some o → hp.get? b = some o) (hsz : s.heap.objs.size ≤ a)
    (e : ∃ (its : List Value) (e : Nat), Vals ws its ∧ hp.get? a = some (seqObj "list" its.toArray e)) : EP X pins σ Q (.ref a) { s with heap := hp, toks := tk } := by
  obtain ⟨its, e0, rv, he⟩ := e
  exact ⟨.ref a, upd H a (.lst ws), I.laid (t' := tk) k hsz (show ObjOk X.prog X.w _ _ _ (.lst ws) from ⟨hl, its, e0, rv, he⟩), rfl, p.newLst sr r (I.hok.fresh hsz)⟩
theorem cr_sortedI (hK : X.K = P.K) (hc : X.calm = true) (hu : X.A.units + 65 < cLine) : CallR X (.builtin "sorted") (rB P W sortedI) := by
  intro pins s σ H xs us Q I rs ⟨φ, h, σ', ivs, sr, r, p⟩
  unfold sortedI at p
  split at p
  · rename_i iv
    split at p
    · rename_i ys ey
      split at p
      · rename_i c
        · obtain ⟨v0, rfl, r1⟩ := r.one
          obtain ⟨u, rfl, ru⟩ := vals1 rs
          obtain ⟨a0, ea0, src⟩ := srcI_ok sr r1 ey
          have cl : ys.length ≤ sizeLine := c.2
          -- a list
          have lst : ∀ {a : Addr} {vs : List V}, v0 = .ref a → SqL X.K H a vs → VRs P φ H ys vs → wpAny (model X.prog X.w) X.A (call (.builtin "sorted") [u]) (EP X pins σ Q) X.xe s := by
            intro a vs ea hq rr
            subst ea
            cases (show u = Value.ref a from ru)
            obtain ⟨its, rv, pl, hz⟩ := I.list hq
            obtain ⟨bs, e1, e2, r1'⟩ := rr.pairs
            subst e1 e2
            obtain ⟨k1, k2, k3⟩ := sortOk_ok c.1
            have k1' : ∀ b ∈ bs, ∃ d, dat h DEEP b.1 = some d ∧ dkey h b.1 = d := fun b hb => k1 b.1 (List.mem_map.mpr ⟨b, hb, rfl⟩)
            have em : bs.map (fun b => dkey h b.1) = (bs.map (·.1)).map (dkey h) := by rw [List.map_map]; rfl
            refine PySem.W.sorted_data pl.isList (vals_each rv) (each_reads I hK sr r1' k1' rv) (by rw [em]; exact k2) (by rw [em]; exact k3) (by simpa using cl) (fun b hb => ?_) fun out ho eo => ?_
            · obtain ⟨d, z1, z2⟩ := k1' b hb
              have := dkey_depth z1 z2
              omega
            · obtain ⟨e', he'⟩ := PyProof.Rows.sortedAll_at s.heap its out.toArray
              refine sorted_end (tk := s.toks) (ws := (bs.mergeSort (PySem.W.dataLe false fun b => dkey h b.1)).map (·.2)) I sr p ?_ (by rw [List.length_map, List.length_mergeSort]; simpa using cl) (fun b o => PyProof.Rows.sortedAll_old) (Nat.le_succ _) ⟨out, e', each_vals eo, he'⟩
              rw [← sort_pairs]
              exact VRs.ofPairs fun b hb => r1' b ((List.mem_mergeSort).mp hb)
          have dct : ∀ {a : Addr} {o : Obj} {es : Raw}, v0 = .ref a → H a = some (DctO a o es) → VRs P φ H ys (es.map (·.2.1)) → wpAny (model X.prog X.w) X.A (call (.builtin "sorted") [u]) (EP X pins σ Q) X.xe s := by
            intro a o es ea hp rr
            subst ea
            cases (show u = Value.ref a from ru)
            obtain ⟨arr, ep, hgd, hs, hx, hdt, hsz, hln, ent, raw⟩ := raw_at I hp
            have hly : ys.length = es.length := by simpa using rr.len'
            refine Calls.call_function_entry PyProof.Rows.kind_sorted PyProof.Rows.plain_sorted PyProof.Rows.entry_sorted (PyProof.Rows.args_sorted1 _) ?_
            unfold Builtin.«sorted»
            refine wpAny_bind (m := checkCount "sorted" 1 1 _) (wpAny_pure ?_)
            refine wpAny_bind (PySem.W.kdu_collect (A := X.A.in1) (kdl_raw hs hx hdt) (I.ok.hd hc) hgd (by omega) fun h' tk acc hk hacc => ?_)
            have hal : acc.toList.length = es.length := by rw [Array.length_toList, hacc.1, hsz]
            have rv : Vals (es.map (·.2.1)) acc.toList := by
              refine vals_of_at (by rw [hal]; simp) fun j x u e1 e2 => ?_
              rw [List.getElem?_map] at e1
              cases e3 : es[j]? with
              | none => rw [e3] at e1; cases e1
              | some p =>
                rw [e3] at e1; cases e1
                obtain ⟨en, g1, g2, g3⟩ := ent j p e3
                obtain ⟨en', g4, g5⟩ := hacc.2 j u (by rw [← Array.getElem?_toList]; exact e2)
                rw [g1] at g4; cases g4
                rw [g5]; exact g2
            have I1 : Inv X pins σ H { s with heap := h', toks := tk } := I.kept hk
            refine wpAny_bind (wpAny_newList ?_ (by rw [hal]; exact hln))
            show wpAny _ _ _ _ _ { s with heap := h'.push (seqObj "list" acc.toList.toArray 0), toks := tk }
            have hoL : (h'.push (seqObj "list" acc.toList.toArray 0)).get? h'.objs.size = some (seqObj "list" acc.toList.toArray 0) := Heap.get?_push_size _ rfl
            refine wpAny_bind (wpAny_holding (wpAny_call_entry PyProof.Rows.slot_list_sort ⟨_, hoL, rfl⟩ PyProof.Rows.entry_list_sort
              (sorted_tail I hK hu sr rr rv c.1 c.2 hk fun ws hp q1 q2 q3 q4 => ⟨_, rfl, ?_⟩) (PyProof.Rows.args_list_sort _)))
            exact wpAny_pure ⟨_, rfl, sorted_end I1 sr p q1 (by rw [q2]; exact c.2) q3 (Nat.le_refl _) q4⟩
          rcases src with ⟨vs, h1, h2⟩ | ⟨o, es, h1, h2⟩
          · exact lst ea0 (by rw [hK]; exact h1) h2
          · exact dct ea0 h1 h2
      · exact p.elim
    · exact p.elim
  · exact p.elim
end
end EV
namespace EV
open PySem PySem.Spec PyProof.Rows L2 RZ

theorem meets_enum1 {v : Value} {o : Obj} {H : Heap → Prop} (B : Begins v o H) :
    Meets (Builtin.«enumerate.__new__» ⟨[.type "enumerate", v], []⟩) (fun _ R s => H s.heap ∧
      R (.ok (.ret (.ref (s.heap.push o).objs.size))) { s with heap := (s.heap.push o).push { cls := .type "enumerate", data := .fields #[.none, .bool false, .ref s.heap.objs.size, rawInt 0, .none, .none] } }) :=
  .of_wp fun prog w A R s h => by
    obtain ⟨hp, g, d, tk, os⟩ := s; obtain ⟨h1, h⟩ := h
    have hsub := sub_enumerate
    have q1 : ∀ {A' : Around} {E : Value → Shared → Prop} {Q : Value → Shared → Prop}, Q (.ref hp.objs.size) ⟨hp.push o, g, d, tk, os⟩ → wpAny (model prog w) A' (pyIter v) Q E ⟨hp, g, d, tk, os⟩ :=
      fun q => B.iter prog w _ _ ⟨hp, g, d, tk, os⟩ _ h1 q
    wp_walk using q1
    refine wpAny_stack_any fun st => wpAny_pure ?_
    split
    · rename_i c _ _ _ _ _
      cases (c == Value.type "enumerate")
      · wp_walk using q1
        exact ⟨_, rfl, h⟩
      · wp_walk using q1
        exact ⟨_, rfl, h⟩
    · wp_walk using q1
      exact ⟨_, rfl, h⟩
theorem call_enum1 {prog : Program} {w : World} {A : Around} {E : Value → Shared → Prop} {s : Shared} {v : Value} {o : Obj} {H : Heap → Prop} {Q : Value → Shared → Prop} (B : Begins v o H) (h1 : H s.heap)
    (h : ∀ h', IsEnum h' (s.heap.objs.size + 1) s.heap.objs.size 0 .none → h'.get? s.heap.objs.size = some o → h'.objs.size = s.heap.objs.size + 2 →
      (∀ b o, s.heap.get? b = some o → h'.get? b = some o) → Q (.ref (s.heap.objs.size + 1)) { s with heap := h' }) :
    wpAny (model prog w) A (call (.type "enumerate") [v]) Q E s := by
  refine callType_new F.called_enumerate (by decide) (F.typeCall_enumerate_1 _) (F.newCall_enumerate_1 _) (fun obj => F.args_object_init_2 obj _) F.entry_enumerate_new
    (meets_enum1 B) ⟨h1, ?_⟩
  have hz : (s.heap.push o).objs.size = s.heap.objs.size + 1 := Heap.size_push ..
  show _ ∧ _
  rw [hz]
  have he : IsEnum ((s.heap.push o).push { cls := .type "enumerate", data := .fields #[.none, .bool false, .ref s.heap.objs.size, rawInt 0, .none, .none] }) (s.heap.objs.size + 1) s.heap.objs.size 0 .none := by
    have := Heap.get?_push_size (s.heap.push o) (o := { cls := .type "enumerate", data := .fields #[.none, .bool false, .ref s.heap.objs.size, rawInt 0, .none, .none] }) rfl
    rw [hz] at this; exact this
  refine ⟨⟨_, he, rfl⟩, h _ he (Heap.get?_push_of_some _ (Heap.get?_push_size _ B.free)) (by rw [Heap.size_push, hz]) fun b o x => Heap.get?_push_of_some _ (Heap.get?_push_of_some _ x)⟩

/-- the tuple at a as it stands at each turn, each item in a new pair -/
def IteT (K : PySem.W.Frag) (a : Addr) : It :=
  ⟨fun i H => ∃ (xs : List V) (x : V), SqT K H a xs ∧ xs[i]? = some x, fun i H v H' => ∃ T x, v = .ref T ∧ H T = none ∧ H' = upd H T (.tup [.int (i : Nat), x]) ∧ ∀ xs, SqT K H a xs → xs[i]? = some x, fun i H => ∃ xs : List V, SqT K H a xs ∧ xs.length ≤ i⟩
theorem turn_enumT {P : Program} {w : World} {K : PySem.W.Frag} {elts : List Expr} {kk : Nat} {tpos : Pos} (a e it : Addr) :
    Turn P w K (.Tuple elts kk tpos) (IteT K a) [e, it] e (fun i h => (∃ old, IsEnum h e it ((i : Nat) : Int) old) ∧ h.IsTupleIter it a i ∧ e ≠ it ∧ e ≠ a ∧ a ≠ it) where
  mem := by simp
  obj := fun i h st b hb => by
    obtain ⟨⟨old, he⟩, ⟨o, ho, hc, hd⟩, _⟩ := st
    have e' : b = e ∨ b = it := by simpa using hb
    rcases e' with z | z
    · rw [z]; exact ⟨_, he, fun v q => nomatch q⟩
    · rw [z]; exact ⟨o, ho, fun v q => by rw [hd] at q; cases q⟩
  keep := fun i h h' st k => let ⟨⟨old, he⟩, hi, hne⟩ := st; ⟨⟨old, k e (by simp) _ he⟩, hi.at fun o q => k it (by simp) o q, hne⟩
  item := by
    intro X hP hw hK hc i pins s σ H E I hf st hg
    subst hP hw hK
    obtain ⟨⟨old, he⟩, hit, hne, hea, hai⟩ := st
    obtain ⟨xs, x, hq, hx⟩ := hg
    obtain ⟨its, rv, p, hz⟩ := I.tuple hq
    obtain ⟨u, hu, ru⟩ := rv.get hx
    have hlt : i < its.length := (List.getElem?_eq_some_iff.mp hu).1
    have hel : e < s.heap.objs.size := Heap.lt_size he
    have hil : it < s.heap.objs.size := by obtain ⟨_, q, _⟩ := hit; exact Heap.lt_size q
    have D := Draws.tuple (prog := X.prog) (w := X.w) (A := X.A.in1) (I.ok.hd hc) it a hai its.toArray
    refine wpAny_pyNext_enum_itemC D he ⟨hit, p⟩ (by simpa using hlt) hne (by simp [hne, hea]) fun y h' tk hy ho hit' hT hsz hk => ?_
    have ey : y = u := by
      have : its.toArray[i]? = some u := by simpa using hu
      rw [this] at hy; exact (Option.some.inj hy).symm
    subst ey
    refine ⟨_, rfl, wpAny_letOwnedTupleGo_enum (s := { s with heap := h', toks := tk + 1 }) ho fun h'' he' sb => ?_⟩
    have hT2 : h''.get? s.heap.objs.size = some { cls := .type "tuple", data := .seq #[.int i tk, y] } := (sb.2 _ (Nat.ne_of_gt hel)).trans hT
    have new : ObjOk X.prog X.w (upd H s.heap.objs.size (.tup [.int (i : Nat), x])) h'' s.heap.objs.size (.tup [.int (i : Nat), x]) :=
      ⟨by show 2 ≤ sizeLine; decide, [.int i tk, y], .cons ⟨_, rfl⟩ (.cons ru .nil), ⟨_, hT2, rfl, _, rfl⟩⟩
    have I1 : Inv X pins σ (upd H s.heap.objs.size (.tup [.int (i : Nat), x])) { s with heap := h'', toks := tk + 1 } :=
      I.turnedNew (ch := [e, it]) (fun b ob hb q => (sb.2 b (fun z => hb (by simp [z]))).trans (hk b ob (fun z => hb (by simp [z])) (fun z => hb (by simp [z])) q)) hf (Nat.le_refl _) new
    refine ⟨.ref s.heap.objs.size, _, I1, rfl, ⟨_, x, rfl, I.hok.fresh (Nat.le_refl _), rfl, fun ys hy => by rw [I.tuple_inj hy hq]; exact hx⟩, ⟨⟨y, ?_⟩, hit'.1.at fun o q => (sb.2 it (Ne.symm hne)).trans q, hne, hea, hai⟩, fun b hb => ?_⟩
    · have e1 : ((i + 1 : Nat) : Int) = (i : Int) + 1 := by omega
      rw [e1]; exact he'
    · have hb' : b < s.heap.objs.size := by
        have e' : b = e ∨ b = it := by simpa using hb
        rcases e' with z | z
        · rw [z]; exact hel
        · rw [z]; exact hil
      rw [upd_ne (Nat.ne_of_lt hb')]
      exact (hf b hb).1
  done := by
    intro X hP hw hK hc i pins s σ H E I hf st hg
    subst hP hw hK
    obtain ⟨⟨old, he⟩, hit, hne, hea, hai⟩ := st
    obtain ⟨xs, hq, hx⟩ := hg
    obtain ⟨its, rv, p, hz⟩ := I.tuple hq
    obtain ⟨f0, f1, f2, f3, f4, f5⟩ := hf it (by simp)
    have hl := rv.length
    have D := Draws.tuple (prog := X.prog) (w := X.w) (A := X.A.in1) (I.ok.hd hc) it a hai its.toArray
    have fin : ∀ h', Heap.ExtBut it s.heap h' → (none : Option Value) = none ∧ Inv X pins σ H { s with heap := h' } := fun h' eb => ⟨rfl, I.turned (t' := s.toks) (fun b o hb q => eb b o hb q) f0 f1 f3 f4 f5⟩
    have hT : s.TypeIs (.ref e) "enumerate" := ⟨_, he, rfl⟩
    unfold pyNext
    refine wpAny_bind (wpAny_attempt (wpAny_callSpecial?_slot (name := Str.ofString "__next__") hT F.slot_enumerate_next
      (wpAny_call_entry F.slot_enumerate_next hT F.entry_enumerate_next ?_ (F.args_enumerate_next_1 _))))
    show wpAny _ _ (field (.ref e) 2 >>= _) _ _ _
    refine wpAny_bind (wpAny_field he rfl (x := .ref it) rfl ?_)
    refine wpAny_bind (wpAny_nextOf_tuple_end (I.ok.hd hc) hit p (by simp; omega) fun h' x he' hx' => ?_)
    obtain ⟨o, ho, hc⟩ := hx'
    refine wpAny_bind (wpAny_isInstance (T := "StopIteration") (b := true) ⟨o, ho, hc⟩ isSubtype_stop ?_)
    exact wpAny_pure (fin _ he')
  self := fun A i s Q E st h => let ⟨⟨_, he⟩, _⟩ := st; wpAny_pyIter_enum he h

def iEnumA (K : PySem.W.Frag) (ta : TA) : TI := fun σ H R => ta σ H fun vs H1 => ∃ a xs, vs = [.ref a] ∧ ((SqL K H1 a xs ∧ R (Ite K a) H1) ∨ (SqT K H1 a xs ∧ R (IteT K a) H1))
theorem pi_enumA {X : Cx} {e : Expr} {ta : TA} {p pos tpos : Pos} {elts : List Expr} {kk : Nat} (hg : Gl X "enumerate") (hm : X.mg "enumerate" = none) (ha : PA X [e] ta) (hs : starEach [e] X.env = [(false, eval e X.env)]) :
    PI X (.Tuple elts kk tpos) (.Call (.Name "enumerate" p) [e] [] pos) (iEnumA X.K ta) := by
  refine ⟨fun pins s σ H R I h => ?_⟩
  refine Call_ (ld_blt I hg hm boot_enumerate (PyProof.Rows.callWith_type1 (thn (ha.run pos pins s σ H _ I h) fun us s1 ⟨vs, H1, I1, r1, q1⟩ => ?_) hs rfl))
  obtain ⟨a, xs, ex, hq⟩ := q1
  subst ex
  cases r1 with
  | cons r rr =>
    cases rr
    cases r
    have foot : ∀ b ∈ [s1.heap.objs.size + 1, s1.heap.objs.size], s1.heap.objs.size ≤ b := fun b hb => by
      have e' : b = s1.heap.objs.size + 1 ∨ b = s1.heap.objs.size := by simpa using hb
      rcases e' with z | z
      · rw [z]; exact Nat.le_add_right _ _
      · rw [z]; exact Nat.le_refl _
    rcases hq with ⟨hq, q⟩ | ⟨hq, q⟩
    · obtain ⟨its, rv, p', hz⟩ := I1.list hq
      refine call_enumerate_list p'.isList fun h' he hit hsz hk => wpAny_pyIter_enum he ?_
      have I2 : Inv X pins σ H1 { s1 with heap := h' } := I1.kept (t' := s1.toks) hk
      exact ⟨s1.heap.objs.size + 1, [s1.heap.objs.size + 1, s1.heap.objs.size], _, _, H1, rfl, I2, turn_enum a (s1.heap.objs.size + 1) s1.heap.objs.size, ⟨⟨.none, he⟩, hit, Nat.succ_ne_self _⟩, fun b hb => I1.fpOk (foot b hb) (I1.hok.fresh (foot b hb)), q⟩
    · obtain ⟨its, rv, p', hz⟩ := I1.tuple hq
      have hla : a < s1.heap.objs.size := by obtain ⟨_, e, _⟩ := p'; exact Heap.lt_size e
      refine call_enum1 (begins_tuple a its.toArray) p' fun h' he hit hsz hk => wpAny_pyIter_enum he ?_
      have I2 : Inv X pins σ H1 { s1 with heap := h' } := I1.kept (t' := s1.toks) hk
      exact ⟨s1.heap.objs.size + 1, [s1.heap.objs.size + 1, s1.heap.objs.size], _, _, H1, rfl, I2, turn_enumT a (s1.heap.objs.size + 1) s1.heap.objs.size, ⟨⟨.none, he⟩, ⟨_, hit, rfl, rfl⟩, Nat.succ_ne_self _, Nat.ne_of_gt (Nat.lt_succ_of_lt hla), Nat.ne_of_lt hla⟩, fun b hb => I1.fpOk (foot b hb) (I1.hok.fresh (foot b hb)), q⟩

def enuV : Nat → List IV → List IV
  | _, [] => []
  | n, x :: xs => .tup [.int (n : Int), x] :: enuV (n + 1) xs
theorem enuV_length : ∀ {xs : List IV} {n : Nat}, (enuV n xs).length = xs.length
  | [], _ => rfl
  | _ :: xs, n => by unfold enuV; rw [List.length_cons, List.length_cons, enuV_length]
theorem enuV_get : ∀ {xs : List IV} {n i : Nat} {v : IV}, (enuV n xs)[i]? = some v → ∃ x, xs[i]? = some x ∧ v = .tup [.int ((n + i : Nat) : Int), x]
  | [], _, i, _, h => by simp [enuV] at h
  | x :: xs, n, 0, v, h => by simp [enuV] at h; exact ⟨x, rfl, h.symm⟩
  | x :: xs, n, i + 1, v, h => by
    unfold enuV at h
    rw [List.getElem?_cons_succ] at h
    obtain ⟨y, h1, h2⟩ := enuV_get h
    exact ⟨y, by simpa using h1, by rw [h2]; congr 3; omega⟩
section
variable {X : Cx} {P : Par} {W : WX} {e : Expr} {p pos tpos : Pos}
theorem goes_enu {K : PySem.W.Frag} {a : Addr} {xs : List IV} {vs : List V} {φ : List Addr} {H : Hp} (st : ∀ φ' H', Ext φ H φ' H' → SqL K H' a vs) (r : VRs P φ H xs vs) : Goes P (Ite K a) (enuV 0 xs) φ H := by
  refine ⟨fun φ' H' e => ⟨vs, st _ _ e, by rw [r.length, enuV_length]; exact Nat.le_refl _⟩, fun i φ' H' hi e => ?_, fun i φ' H' x H2 e y v hv => ?_⟩
  · rw [enuV_length] at hi
    have h1 : i < vs.length := by rw [r.length]; omega
    exact ⟨vs, vs[i], st _ _ e, by simp [h1]⟩
  · obtain ⟨T, x1, rfl, hT, rfl, q1⟩ := y
    obtain ⟨x0, e1, rfl⟩ := enuV_get hv
    obtain ⟨u1, k1, r1⟩ := r.get e1
    have z1 := q1 vs (st _ _ e)
    rw [z1] at k1; cases k1
    have ex := Ext.new (φ := φ') (o := .tup [.int (i : Nat), x1]) hT
    refine ⟨ex, fun R h s => s.untold hT, fun l k => ?_⟩
    rw [VR]
    exact ⟨T, [.int (i : Nat), x1], rfl, .of upd_same, VRs.cons (by rw [VR, Nat.zero_add]) (VRs.cons (VR.mono (e.trans ex) _ _ (VR.avI k _ _ r1)) VRs.nil)⟩
theorem goes_enuT {K : PySem.W.Frag} {a : Addr} {xs : List IV} {vs : List V} {φ : List Addr} {H : Hp} (st : ∀ φ' H', Ext φ H φ' H' → SqT K H' a vs) (r : VRs P φ H xs vs) : Goes P (IteT K a) (enuV 0 xs) φ H := by
  refine ⟨fun φ' H' e => ⟨vs, st _ _ e, by rw [r.length, enuV_length]; exact Nat.le_refl _⟩, fun i φ' H' hi e => ?_, fun i φ' H' x H2 e y v hv => ?_⟩
  · rw [enuV_length] at hi
    have h1 : i < vs.length := by rw [r.length]; omega
    exact ⟨vs, vs[i], st _ _ e, by simp [h1]⟩
  · obtain ⟨T, x1, rfl, hT, rfl, q1⟩ := y
    obtain ⟨x0, e1, rfl⟩ := enuV_get hv
    obtain ⟨u1, k1, r1⟩ := r.get e1
    have z1 := q1 vs (st _ _ e)
    rw [z1] at k1; cases k1
    have ex := Ext.new (φ := φ') (o := .tup [.int (i : Nat), x1]) hT
    refine ⟨ex, fun R h s => s.untold hT, fun l k => ?_⟩
    rw [VR]
    exact ⟨T, [.int (i : Nat), x1], rfl, .of upd_same, VRs.cons (by rw [VR, Nat.zero_add]) (VRs.cons (VR.mono (e.trans ex) _ _ (VR.avI k _ _ r1)) VRs.nil)⟩
/-- enumerate of a list that is left as it is, of a tuple -/
def enuIt (fs : IE → M (List IV)) : IE → M (List IV) := fun σ h => (fs σ h).bind fun vs h => match vs with
  | [.tup xs] => .ok (enuV 0 xs) h
  | [.lst xs] => .ok (enuV 0 xs) h
  | [.scr xs] => .ok (enuV 0 xs) h
  | _ => .no
theorem pi_enuI {elts : List Expr} {kk : Nat} {fs : IE → M (List IV)} (hK : X.K = P.K) (hg : Gl X "enumerate") (hm : X.mg "enumerate" = none) (ha : PA X [e] (tAr P W fs)) (hs : starEach [e] X.env = [(false, eval e X.env)]) :
    PI X (.Tuple elts kk tpos) (.Call (.Name "enumerate" p) [e] [] pos) (tI P W (enuIt fs)) := PI.weak (pi_enumA hg hm ha hs) fun σ H R hq => by
  obtain ⟨φ, h, σi, s, se, p⟩ := hq
  refine ⟨φ, h, σi, s, se, ?_⟩
  unfold enuIt at p
  cases e : fs σi h with
  | ok v h1 =>
    simp only [e, Out.bind] at p
    intro φ' H' us ex s' r
    split at p
    · obtain ⟨v, rfl, r1⟩ := r.one
      obtain ⟨a, vs, rfl, h3, h4⟩ := r1.tupI
      exact ⟨a, vs, rfl, .inr ⟨by rw [hK]; exact h3, p φ' H' _ ex s' (goes_enuT (fun φ2 H2 e => by rw [hK]; exact e.seqT h3) h4)⟩⟩
    · obtain ⟨v, rfl, r1⟩ := r.one
      obtain ⟨a, vs, rfl, h3, h4⟩ := VR.stands hK (.inl rfl) r1
      exact ⟨a, vs, rfl, .inl ⟨h3 _ _ (Ext.refl _ _), p φ' H' _ ex s' (goes_enu h3 h4)⟩⟩
    · obtain ⟨v, rfl, r1⟩ := r.one
      obtain ⟨a, vs, rfl, h3, h4⟩ := VR.stands hK (.inr rfl) r1
      exact ⟨a, vs, rfl, .inl ⟨h3 _ _ (Ext.refl _ _), p φ' H' _ ex s' (goes_enu h3 h4)⟩⟩
    · exact p.elim
  | ex v h1 => simp only [e, Out.bind] at p; exact p
  | no => simp only [e, Out.bind] at p; exact p
end
end EV
namespace EV
open PySem PySem.Spec PyProof.Rows L2 RZ

/-- as Ext, but what is under way may change -/
structure ExtA (P : Par) (φ : List Addr) (H : Hp) (φ' : List Addr) (H' : Hp) : Prop where
  pre : ∃ t, φ' = φ ++ t ∧ ∀ a ∈ t, H a = none
  keep : ∀ b o, H b = some o → Off P φ b → H' b = some o
  tups : ∀ b xs, H b = some (.tup xs) → H' b = some (.tup xs)
  frzs : ∀ b o u, H b = some (.frz o u) → H' b = some (.frz o u)
  there : ∀ b o, H b = some o → ∃ o', H' b = some o'
section
variable {P : Par} {φ φ' φ2 : List Addr} {H H' H2 : Hp}
theorem ExtA.refl : ExtA P φ H φ H := ⟨⟨[], by simp, by simp⟩, fun _ _ h _ => h, fun _ _ h => h, fun _ _ _ h => h, fun _ o h => ⟨o, h⟩⟩
theorem ExtA.out (e : ExtA P φ H φ' H') {a : Addr} {o : HO} (h : H a = some o) (n : Off P φ a) : Off P φ' a := by
  obtain ⟨t, rfl, ht⟩ := e.pre
  refine ⟨fun m => ?_, n.2⟩
  rcases List.mem_append.mp m with m | m
  · exact n.1 m
  · rw [ht a m] at h; cases h
theorem ExtA.thn (e : ExtA P φ H φ' H') (f : Ext φ' H' φ2 H2) : ExtA P φ H φ2 H2 := by
  have e0 := e
  obtain ⟨⟨t, rfl, ht⟩, k, tu, fz, th⟩ := e
  obtain ⟨⟨t', rfl, ht'⟩, k', tu', fz', th'⟩ := f
  refine ⟨⟨t ++ t', by simp, fun a ha => ?_⟩, fun b o h n => k' _ _ (k _ _ h n) (e0.out h n).1, fun _ _ h => tu' _ _ (tu _ _ h), fun _ _ _ h => fz' _ _ _ (fz _ _ _ h), fun b o h => ?_⟩
  · rcases List.mem_append.mp ha with ha | ha
    · exact ht a ha
    · have := ht' a ha
      cases q : H a with
      | none => rfl
      | some o =>
        obtain ⟨o', e⟩ := th _ _ q
        rw [this] at e; cases e
  · obtain ⟨o', e⟩ := th _ _ h
    exact th' _ _ e
/-- one that is under way changes -/
theorem ExtA.put {h : IH} (e : ExtA P φ H φ' H') (s : SR P φ' H' h) {D : Addr} {o : HO} (m : D ∈ P.av) : ExtA P φ H φ' (upd H' D o) := by
  obtain ⟨n1, _, nt, nf⟩ := s.av D m
  refine ⟨e.pre, fun b u h n => ?_, fun b xs h => ?_, fun b u w h => ?_, fun b u h => ?_⟩
  · exact (upd_ne fun z => n.2 (by rw [z]; exact m)).trans (e.keep b u h n)
  · exact (upd_ne fun z => nt xs (by rw [← z]; exact e.tups b xs h)).trans (e.tups b xs h)
  · exact (upd_ne fun z => nf u w (by rw [← z]; exact e.frzs b u w h)).trans (e.frzs b u w h)
  · by_cases z : b = D
    · subst z; exact ⟨o, upd_same⟩
    · obtain ⟨w, k⟩ := e.there b u h
      exact ⟨w, (upd_ne z).trans k⟩
theorem ExtA.seqT {K : PySem.W.Frag} (e : ExtA P φ H φ' H') {a : Addr} {xs : List V} (h : SqT K H a xs) : SqT K H' a xs := by
  rcases h with (h | ⟨o, h⟩) | h
  · exact .inl (.inl (e.tups _ _ h))
  · exact .inl (.inr ⟨o, e.frzs _ _ _ h⟩)
  · exact .inr h
theorem ExtA.sqLi (e : ExtA P φ H φ' H') {a : Addr} {vs : List V} (h : SqLi P H a vs) : SqLi P H' a vs := by
  rcases h with ⟨o, h⟩ | h
  · exact .inl ⟨o, e.frzs _ _ _ h⟩
  · exact .inr h
mutual
theorem VR.monoA (e : ExtA P φ H φ' H') : ∀ (x : IV) (v : V), VR P φ H x v → VR P φ' H' x v
  | .non, _, h | .bl _, _, h | .int _, _, h | .str _, _, h | .ty _, _, h | .glo _, _, h => by simpa only [VR] using h
  | .ref n, _, h => by
    rw [VR] at h ⊢
    obtain ⟨a, h1, h2⟩ := h
    obtain ⟨t, rfl, _⟩ := e.pre
    exact ⟨a, by rw [List.getElem?_append_left (List.getElem?_eq_some_iff.mp h1).1]; exact h1, h2⟩
  | .tup xs, _, h => by
    rw [VR] at h ⊢
    obtain ⟨a, vs, h1, h2, h3⟩ := h
    exact ⟨a, vs, h1, e.seqT h2, VRs.monoA e xs vs h3⟩
  | .lst xs, _, h => by
    rw [VR] at h ⊢
    obtain ⟨a, vs, h1, h2, h3, h4⟩ := h
    exact ⟨a, vs, h1, e.keep _ _ h2 h3, e.out h2 h3, VRs.monoA e xs vs h4⟩
  | .scr xs, _, h => by
    rw [VR] at h ⊢
    obtain ⟨a, vs, h1, h2, h3⟩ := h
    exact ⟨a, vs, h1, e.sqLi h2, VRs.monoA e xs vs h3⟩
  | .dct ks us, _, h => by
    rw [VR] at h ⊢
    obtain ⟨a, o, es, h1, h2, h3, h4, h5, h6⟩ := h
    exact ⟨a, o, es, h1, e.keep _ _ h2 h3, e.out h2 h3, VRs.monoA e ks _ h4, VRs.monoA e us _ h5, h6⟩
theorem VRs.monoA (e : ExtA P φ H φ' H') : ∀ (xs : List IV) (vs : List V), VRs P φ H xs vs → VRs P φ' H' xs vs
  | [], _, h => by simpa only [VRs] using h
  | x :: xs, _, h => by
    rw [VRs] at h ⊢
    obtain ⟨v, r, h1, h2, h3⟩ := h
    exact ⟨v, r, h1, VR.monoA e x v h2, VRs.monoA e xs r h3⟩
end
end
/-- J walks the items xs of an inner clause -/
structure GoesA (P : Par) (J : It) (xs : List IV) (φ0 : List Addr) (H0 : Hp) : Prop where
  stop : ∀ φ H, ExtA P φ0 H0 φ H → J.stop xs.length H
  go : ∀ i φ H, i < xs.length → ExtA P φ0 H0 φ H → J.go i H
  yld : ∀ i φ H x H', ExtA P φ0 H0 φ H → J.yld i H x H' → ∀ v, xs[i]? = some v → Ext φ H φ H' ∧ (∀ R h, SR R φ H h → SR R φ H' h) ∧ VR P φ H' v x
def PostIA (P : Par) (W : WX) (σ : L2.St) (φ : List Addr) (H : Hp) (R : It → Hp → Prop) : Out (List IV) → Prop
  | .ok xs h' => ∀ φ' H' J, Ext φ H φ' H' → SR P φ' H' h' → GoesA P J xs φ' H' → R J H'
  | .ex e h' => ∀ φ' H' c d, Ext φ H φ' H' → SR P φ' H' h' → XR P φ' H' e c d → W c d σ H'
  | .no => False
def tIA (P : Par) (W : WX) (fi : IE → M (List IV)) : TI := fun σ H R => ∃ φ h σi, SR P φ H h ∧ SE P φ H σi σ ∧ PostIA P W σ φ H R (fi σi h)
section
variable {X : Cx} {P : Par} {W : WX} {a : Expr} {fa : IE → M IV}
theorem goes_tupA {a : Addr} {xs : List IV} {vs : List V} {φ : List Addr} {H : Hp} (hK : X.K = P.K) (h1 : SqT P.K H a vs) (r : VRs P φ H xs vs) : GoesA P (Itt X.K a) xs φ H := by
  have st : ∀ {φ' H'}, ExtA P φ H φ' H' → SqT X.K H' a vs := fun e => by rw [hK]; exact e.seqT h1
  refine ⟨fun φ' H' e => ⟨vs, st e, by rw [r.length]; exact Nat.le_refl _⟩, fun i φ' H' hi e => ?_, fun i φ' H' x H2 e y v hv => ?_⟩
  · have hl : i < vs.length := by rw [r.length]; exact hi
    exact ⟨vs, vs[i], st e, by simp [hl]⟩
  · obtain ⟨rfl, q⟩ := y
    obtain ⟨u, e1, r1⟩ := r.get hv
    have := q vs (st e)
    rw [this] at e1; cases e1
    exact ⟨Ext.refl _ _, fun _ _ s => s, VR.monoA e _ _ r1⟩
theorem goes_lstA {a : Addr} {xs : List IV} {vs : List V} {φ : List Addr} {H : Hp} (h1 : ∀ φ' H', ExtA P φ H φ' H' → SqL X.K H' a vs) (r : VRs P φ H xs vs) : GoesA P (Itl X.K a) xs φ H := by
  refine ⟨fun φ' H' e => ⟨vs, h1 _ _ e, by rw [r.length]; exact Nat.le_refl _⟩, fun i φ' H' hi e => ?_, fun i φ' H' x H2 e y v hv => ?_⟩
  · have hl : i < vs.length := by rw [r.length]; exact hi
    exact ⟨vs, vs[i], h1 _ _ e, by simp [hl]⟩
  · obtain ⟨rfl, q⟩ := y
    obtain ⟨u, e1, r1⟩ := r.get hv
    have := q vs (h1 _ _ e)
    rw [this] at e1; cases e1
    exact ⟨Ext.refl _ _, fun _ _ s => s, VR.monoA e _ _ r1⟩
theorem pi_tupA {tg : Expr} (hK : X.K = P.K) (ha : PE X a (tE P W fa)) : PI X tg a (tIA P W (tupIt fa)) := PI.weak (pi_tup ha) fun σ H R hq => by
  obtain ⟨φ, h, σi, s, se, p⟩ := hq
  refine ⟨φ, h, σi, s, se, ?_⟩
  unfold tupIt at p
  cases e : fa σi h with
  | ok v h1 =>
    simp only [e, Out.bind] at p
    split at p
    · intro φ' H' x ex s' r
      obtain ⟨b, vs, rfl, h2, r1⟩ := r.tupI
      exact ⟨b, rfl, ⟨vs, by rw [hK]; exact h2⟩, p φ' H' _ ex s' (goes_tupA hK h2 r1)⟩
    · exact p.elim
  | ex v h1 => simp only [e, Out.bind] at p; exact p
  | no => simp only [e, Out.bind] at p; exact p
theorem pi_lstA {tg : Expr} (hK : X.K = P.K) (ha : PE X a (tE P W fa)) : PI X tg a (tIA P W (lstIt fa)) := PI.weak (pi_list ha) fun σ H R hq => by
  obtain ⟨φ, h, σi, s, se, p⟩ := hq
  refine ⟨φ, h, σi, s, se, ?_⟩
  unfold lstIt at p
  cases e : fa σi h with
  | ok v h1 =>
    simp only [e, Out.bind] at p
    split at p
    · intro φ' H' x ex s' r
      rw [VR] at r
      obtain ⟨b, vs, rfl, h2, hn, r1⟩ := r
      exact ⟨b, rfl, ⟨vs, .of h2⟩, p φ' H' _ ex s' (goes_lstA (fun φ2 H2 e2 => .of (e2.keep _ _ h2 hn)) r1)⟩
    · intro φ' H' x ex s' r
      rw [VR] at r
      obtain ⟨b, vs, rfl, h2, r1⟩ := r
      exact ⟨b, rfl, ⟨vs, by rw [hK]; exact h2.sqL⟩, p φ' H' _ ex s' (goes_lstA (fun φ2 H2 e2 => by rw [hK]; exact (e2.sqLi h2).sqL) r1)⟩
    · exact p.elim
  | ex v h1 => simp only [e, Out.bind] at p; exact p
  | no => simp only [e, Out.bind] at p; exact p
end

def compM2 (g : TM) (t : IE → M Bool) (fi1 : IE → M (List IV)) (g1 : TM) (t1 : IE → M Bool) (f : IE → M IV) (ws1 : List Nat) (σ0 : IE) : List IV → M (List IV)
  | [] => fun h => .ok [] h
  | x :: xs => fun h => match g x σ0 h with
    | none => .no
    | some (σ1, h1) => match t σ1 h1 with
      | .ok true h2 => (match fi1 σ1 h2 with
        | .ok ys h3 => if ys.length ≤ 4096 then (match compM g1 t1 f (wipeI σ1 ws1) ys h3 with
          | .ok vs h4 => (compM2 g t fi1 g1 t1 f ws1 σ0 xs h4).bind fun us h => .ok (vs ++ us) h
          | _ => .no) else .no
        | _ => .no)
      | .ok false h2 => compM2 g t fi1 g1 t1 f ws1 σ0 xs h2
      | _ => .no
def lc2I (fi : IE → M (List IV)) (g : TM) (t : IE → M Bool) (fi1 : IE → M (List IV)) (g1 : TM) (t1 : IE → M Bool) (f : IE → M IV) (ws ws1 : List Nat) : IE → M IV := fun σ h => (fi σ h).bind fun xs h =>
  if xs.length ≤ 4096 then (compM2 g t fi1 g1 t1 f ws1 (wipeI σ ws) xs h).bind fun vs h => .ok (.lst vs) h else .no

section
variable {X : Cx} {P : Par} {W : WX}
theorem lc2_read {fi fi1 : IE → M (List IV)} {g g1 : TM} {t t1 : IE → M Bool} {f : IE → M IV} {own : List (Str × Nat)} {ws1 : List Nat} {av : List Addr} {σ : L2.St} {H : Hp} {Q : VK}
    (hq : tE (P.at av) W (lc2I fi g t fi1 g1 t1 f (own.map (·.2)) ws1) σ H Q) :
    tLc2 (tI (P.at av) W fi) (fun v σ H Q => ∃ l, tGw (P.at l) (own.map (·.2)) g v σ H Q) (fun σ H Q => ∃ l, tT (P.at l) WF t σ H Q)
      (fun σ H R => ∃ l, tIA (P.at l) WF fi1 σ H R) (fun v σ H Q => ∃ l, tGw (P.at l) ws1 g1 v σ H Q) (fun σ H Q => ∃ l, tT (P.at l) WF t1 σ H Q) (fun σ H Q => ∃ l, tE (P.at l) WF f σ H Q) (own.map (·.2)) ws1 σ H Q := by
  generalize own.map (·.2) = ws at hq ⊢
  obtain ⟨φ, h, σi, s, se, p⟩ := hq
  unfold tLc2
  refine ⟨φ, h, σi, s, se, ?_⟩
  unfold lc2I at p
  cases e : fi σi h with
  | ex x h1 => rw [e] at p; exact p
  | no => rw [e] at p; exact p
  | ok xs h1 =>
    simp only [e, Out.bind] at p
    split at p
    case isFalse => exact p.elim
    rename_i hlen
    intro φ1 H1 J ex1 s1 G D hD
    have p := Post.ext p ex1
    have se1 := (se.mono ex1).wipe ws
    clear ex1 se s e
    have kD : ∀ c ∈ D :: av, c ∈ (P.at av).av ∨ H1 c = none := fun c m => by
      rcases List.mem_cons.mp m with rfl | m
      · exact .inr hD
      · exact .inl m
    let I : Nat → Hp → Prop := fun i H => ∃ φ h acc accV, SR (P.at (D :: av)) φ H h ∧ H D = some (.lst accV) ∧ VRs (P.at (D :: av)) φ H acc accV ∧ SE (P.at (D :: av)) φ H (wipeI σi ws) (L2.wipe σ ws) ∧ Ext φ1 H1 φ H ∧ acc.length ≤ i * 4096 ∧
      Post (P.at av) W σ φ1 H1 Q ((compM2 g t fi1 g1 t1 f ws1 (wipeI σi ws) (xs.drop i) h).bind fun vs h => .ok (.lst (acc ++ vs)) h)
    have exN : Ext φ1 H1 φ1 (upd H1 D (.lst [])) := Ext.new hD
    refine ⟨fun i m H => i ≤ xs.length ∧ m = xs.length - i ∧ I i H, ⟨xs.length, Nat.zero_le _, by simp, φ1, h1, [], [], ?_, upd_same, VRs.nil, ?_, exN, Nat.zero_le _, by simp only [List.drop_zero, List.nil_append]; exact p⟩, ?_⟩
    · exact SR.avN hD (fun xs z => by cases z) (fun o u z => by cases z) s1
    · exact SE.mono (SE.avI kD se1) exN
    rintro i m H2 ⟨hi, rfl, φ2, h2, acc, accV, s2, hD2, ra, se2, ex2, hal, p2⟩
    by_cases hlt : i < xs.length
    · refine .inr ⟨G.go i φ2 H2 hlt ex2, fun H' => i + 1 ≤ xs.length ∧ I (i + 1) H', ?_, ?_⟩
      · rintro H' ⟨a, b⟩
        exact ⟨xs.length - (i + 1), by omega, a, rfl, b⟩
      intro x H3 y
      have hx : xs[i]? = some xs[i] := by simp [hlt]
      obtain ⟨e1, sr, r⟩ := G.yld i φ2 H2 x H3 ex2 y xs[i] hx
      have e2 : xs.drop i = xs[i] :: xs.drop (i + 1) := List.drop_eq_getElem_cons hlt
      rw [e2] at p2
      unfold compM2 at p2
      refine ⟨D :: av, φ2, h2, wipeI σi ws, xs[i], sr _ h2 s2, se2.mono e1, r (D :: av) kD, ?_⟩
      have ra3 := ra.mono e1
      have hD3 : H3 D = some (.lst accV) := e1.keep _ _ hD2 (s2.av D List.mem_cons_self).1
      have ex3 := ex2.trans e1
      have se3 := se2.mono e1
      have nD2 := (s2.av D List.mem_cons_self).1
      cases q : g xs[i] (wipeI σi ws) h2 with
      | none => rw [q] at p2; exact p2.elim
      | some z =>
        obtain ⟨σ4, h4⟩ := z
        rw [q] at p2
        dsimp only at p2
        intro φ4 H4 σ4' ex4 s4 se4 w4
        rw [wipe_idem] at w4
        refine ⟨w4, D :: av, φ4, h4, σ4, s4, se4, ?_⟩
        cases q5 : t σ4 h4 with
        | ex x h5 => rw [q5] at p2; exact p2.elim
        | no => rw [q5] at p2; exact p2.elim
        | ok b h5 =>
          rw [q5] at p2
          intro φ5 H5 ex5 s5
          have ex' := ex4.trans ex5
          cases b with
          | false =>
            rw [if_neg Bool.false_ne_true]
            dsimp only at p2
            exact ⟨hlt, φ5, h5, acc, accV, s5, ex'.keep _ _ hD3 nD2, ra3.mono ex', se3.mono ex', ex3.trans ex', by omega, p2⟩
          | true =>
            rw [if_pos rfl]
            dsimp only at p2
            refine ⟨D :: av, φ5, h5, σ4, s5, se4.mono ex5, ?_⟩
            cases q6 : fi1 σ4 h5 with
            | ex x h6 => rw [q6] at p2; exact p2.elim
            | no => rw [q6] at p2; exact p2.elim
            | ok ys h6 =>
              rw [q6] at p2
              dsimp only at p2
              split at p2
              case isFalse => exact p2.elim
              rename_i hly
              intro φ6 H6 J1 ex6 s6 G1
              have ex7 := ex'.trans ex6
              have hD6 : H6 D = some (.lst accV) := ex7.keep _ _ hD3 nD2
              have se6 := ((se4.mono ex5).mono ex6).wipe ws1
              -- the inner turns
              let I1 : Nat → Hp → Prop := fun j H => ∃ φ h acc1 accV1, SR (P.at (D :: av)) φ H h ∧ H D = some (.lst accV1) ∧ VRs (P.at (D :: av)) φ H acc1 accV1 ∧ SE (P.at (D :: av)) φ H (wipeI σ4 ws1) (L2.wipe σ4' ws1) ∧ SE (P.at (D :: av)) φ H (wipeI σi ws) (L2.wipe σ ws) ∧
                Ext φ1 H1 φ H ∧ ExtA (P.at (D :: av)) φ6 H6 φ H ∧ acc1.length ≤ i * 4096 + j ∧
                Post (P.at av) W σ φ1 H1 Q (((match compM g1 t1 f (wipeI σ4 ws1) (ys.drop j) h with
                  | .ok vs h4 => (compM2 g t fi1 g1 t1 f ws1 (wipeI σi ws) (xs.drop (i + 1)) h4).bind fun us h => .ok (vs ++ us) h
                  | _ => .no) : Out (List IV)).bind fun vs h => .ok (.lst (acc1 ++ vs)) h)
              refine ⟨fun j k H => j ≤ ys.length ∧ k = ys.length - j ∧ I1 j H, ⟨ys.length, Nat.zero_le _, by simp, φ6, h6, acc, accV, s6, hD6, ra3.mono ex7, se6, se3.mono ex7, ex3.trans ex7, ExtA.refl, hal, by simp only [List.drop_zero]; exact p2⟩, ?_⟩
              rintro j k H7 ⟨hj, rfl, φ7, h7, acc1, accV1, s7, hD7, ra7, se7, so7, ey7, ea7, hal1, p7⟩
              by_cases hlt1 : j < ys.length
              · refine .inr ⟨G1.go j φ7 H7 hlt1 ea7, fun H' => j + 1 ≤ ys.length ∧ I1 (j + 1) H', ?_, ?_⟩
                · rintro H' ⟨a, b⟩
                  exact ⟨ys.length - (j + 1), by omega, a, rfl, b⟩
                intro x1 H8 y1
                have hy : ys[j]? = some ys[j] := by simp [hlt1]
                obtain ⟨e8, sr8, r8⟩ := G1.yld j φ7 H7 x1 H8 ea7 y1 ys[j] hy
                have e9 : ys.drop j = ys[j] :: ys.drop (j + 1) := List.drop_eq_getElem_cons hlt1
                rw [e9] at p7
                unfold compM at p7
                refine ⟨D :: av, φ7, h7, wipeI σ4 ws1, ys[j], sr8 _ h7 s7, se7.mono e8, r8, ?_⟩
                have nD7 := (s7.av D List.mem_cons_self).1
                have hD8 : H8 D = some (.lst accV1) := e8.keep _ _ hD7 nD7
                have ra8 := ra7.mono e8
                have se8 := se7.mono e8
                have so8 := so7.mono e8
                have ey8 := ey7.trans e8
                have ea8 := ea7.thn e8
                have fin : ∀ {φ4 H4 h4 v u}, Ext φ7 H8 φ4 H4 → SR (P.at (D :: av)) φ4 H4 h4 → VR (P.at (D :: av)) φ4 H4 v u →
                    Post (P.at av) W σ φ1 H1 Q (((match (compM g1 t1 f (wipeI σ4 ws1) (ys.drop (j + 1)) h4).bind fun vs h => .ok (v :: vs) h with
                      | .ok vs h4 => (compM2 g t fi1 g1 t1 f ws1 (wipeI σi ws) (xs.drop (i + 1)) h4).bind fun us h => .ok (vs ++ us) h
                      | _ => .no) : Out (List IV)).bind fun vs h => .ok (.lst (acc1 ++ vs)) h) →
                    ∃ acc, H4 D = some (.lst acc) ∧ acc.length < sizeLine ∧ j + 1 ≤ ys.length ∧ I1 (j + 1) (upd H4 D (.lst (acc ++ [u]))) := by
                  intro φ4 H4 h4 v u ex s4 r4 p4
                  have a4 := s4.av D List.mem_cons_self
                  have hD4 : H4 D = some (.lst accV1) := ex.keep _ _ hD8 nD7
                  refine ⟨accV1, hD4, ?_, hlt1, φ4, h4, acc1 ++ [v], accV1 ++ [u], ?_, upd_same, ?_, ?_, ?_, ?_, ?_, by simp; omega, ?_⟩
                  · rw [ra7.length]; show acc1.length < 2 ^ 24; omega
                  · exact SR.avU List.mem_cons_self (fun xs z => by cases z) (fun o u z => by cases z) s4
                  · exact VRs.avU List.mem_cons_self a4.2.2.1 a4.2.2.2 _ _ (VRs.append (ra8.mono ex) (VRs.cons r4 VRs.nil))
                  · exact SE.avU List.mem_cons_self a4.2.2.1 a4.2.2.2 (se8.mono ex)
                  · exact SE.avU List.mem_cons_self a4.2.2.1 a4.2.2.2 (so8.mono ex)
                  · exact (ey8.trans ex).under hD
                  · exact (ea8.thn ex).put s4 List.mem_cons_self
                  · cases q9 : compM g1 t1 f (wipeI σ4 ws1) (ys.drop (j + 1)) h4 with
                    | ok vs h9 =>
                      rw [q9] at p4
                      simp only [Out.bind] at p4 ⊢
                      cases q10 : compM2 g t fi1 g1 t1 f ws1 (wipeI σi ws) (xs.drop (i + 1)) h9 with
                      | ok us h10 => rw [q10] at p4; simp only [Out.bind] at p4 ⊢; simpa using p4
                      | ex x h10 => rw [q10] at p4; exact p4
                      | no => rw [q10] at p4; exact p4
                    | ex x h9 => rw [q9] at p4; exact p4
                    | no => rw [q9] at p4; exact p4
                cases q8 : g1 ys[j] (wipeI σ4 ws1) h7 with
                | none => rw [q8] at p7; exact p7.elim
                | some z8 =>
                  obtain ⟨σ9, h9⟩ := z8
                  rw [q8] at p7
                  dsimp only at p7
                  intro φ9 H9 σ9' ex9 s9 se9 w9
                  rw [wipe_idem] at w9
                  refine ⟨w9, D :: av, φ9, h9, σ9, s9, se9, ?_⟩
                  cases q10 : t1 σ9 h9 with
                  | ex x h10 => rw [q10] at p7; exact p7.elim
                  | no => rw [q10] at p7; exact p7.elim
                  | ok b10 h10 =>
                    rw [q10] at p7
                    intro φ10 H10 ex10 s10
                    cases b10 with
                    | false =>
                      rw [if_neg Bool.false_ne_true]
                      dsimp only at p7
                      have exx := ex9.trans ex10
                      exact ⟨hlt1, φ10, h10, acc1, accV1, s10, exx.keep _ _ hD8 nD7, ra8.mono exx, se8.mono exx, so8.mono exx, ey8.trans exx, ea8.thn exx, by omega, p7⟩
                    | true =>
                      rw [if_pos rfl]
                      dsimp only at p7
                      refine ⟨D :: av, φ10, h10, σ9, s10, se9.mono ex10, ?_⟩
                      cases q11 : f σ9 h10 with
                      | ex x h11 => rw [q11] at p7; exact p7.elim
                      | no => rw [q11] at p7; exact p7.elim
                      | ok v h11 =>
                        rw [q11] at p7
                        dsimp only at p7
                        exact fun φ11 H11 u ex11 s11 r11 => fin ((ex9.trans ex10).trans ex11) s11 r11 p7
              · have ee : j = ys.length := by omega
                subst ee
                refine .inl ⟨G1.stop φ7 H7 ea7, hlt, φ7, h7, acc1, accV1, s7, hD7, ra7, so7, ey7, by omega, ?_⟩
                rw [List.drop_length] at p7
                unfold compM at p7
                dsimp only at p7
                rw [Out.bind_ok] at p7
                simpa [Out.bind] using p7
    · have e : i = xs.length := by omega
      subst e
      refine .inl ⟨G.stop φ2 H2 ex2, ?_⟩
      rw [List.drop_length] at p2
      refine p2 φ2 H2 _ ex2 (SR.avD (P := P.at (D :: av)) (fun c m => List.mem_cons_of_mem _ m) s2) ?_
      rw [VR]
      refine ⟨D, accV, rfl, hD2, ⟨(s2.av D List.mem_cons_self).1, fun m => ?_⟩, ?_⟩
      · obtain ⟨_, ⟨o, z⟩, _⟩ := s1.av D m
        rw [hD] at z; cases z
      · rw [List.append_nil]
        exact VRs.avD (P := P.at (D :: av)) (fun c m => List.mem_cons_of_mem _ m) ra
theorem PI.exi {X : Cx} {α : Type} {tg e : Expr} {t : α → TI} (h : ∀ a, PI X tg e (t a)) : PI X tg e (fun σ H Q => ∃ a, t a σ H Q) := ⟨fun pins s σ H Q I ⟨a, hw⟩ => (h a).run pins s σ H Q I hw⟩
variable {elt tg iter tg1 iter1 : Expr} {ifs ifs1 : List Expr} {scope : Scope} {pos : Pos} {fi fi1 : IE → M (List IV)} {g g1 : TM} {t t1 : IE → M Bool} {f : IE → M IV} {av : List Addr}
theorem pe_lc2I (own : List (Str × Nat)) {ws1 : List Nat} (hc : X.calm = true) (hN : X.N.Nodup) (hi : PI X tg iter (tI (P.at av) W fi)) (ok : BlkOk X.N X.env.scope scope own) (hv : ∀ i ∈ ws1, i ∈ own.map (·.2))
    (hs : ∀ x, foldedSetIterable iter X.env x = pure x) (hs1 : ∀ env x, foldedSetIterable iter1 env x = pure x)
    (hg : ∀ (l : List Addr) (s : Shared) (H : Hp) (C : Addr) (cl : List (Str × Addr)) (fp : List Addr), PG (X.blk s H scope (compEnvC scope cl C X.env) fp) tg (tGw (P.at l) (own.map (·.2)) g))
    (ht : ∀ (l : List Addr) (s : Shared) (H : Hp) (C : Addr) (cl : List (Str × Addr)) (fp : List Addr), PTs (X.blk s H scope (compEnvC scope cl C X.env) fp) ifs (tT (P.at l) WF t))
    (hi1 : ∀ (l : List Addr) (s : Shared) (H : Hp) (C : Addr) (cl : List (Str × Addr)) (fp : List Addr), PI (X.blk s H scope (compEnvC scope cl C X.env) fp) tg1 iter1 (tIA (P.at l) WF fi1))
    (hg1 : ∀ (l : List Addr) (s : Shared) (H : Hp) (C : Addr) (cl : List (Str × Addr)) (fp : List Addr), PG (X.blk s H scope (compEnvC scope cl C X.env) fp) tg1 (tGw (P.at l) ws1 g1))
    (ht1 : ∀ (l : List Addr) (s : Shared) (H : Hp) (C : Addr) (cl : List (Str × Addr)) (fp : List Addr), PTs (X.blk s H scope (compEnvC scope cl C X.env) fp) ifs1 (tT (P.at l) WF t1))
    (he : ∀ (l : List Addr) (s : Shared) (H : Hp) (C : Addr) (cl : List (Str × Addr)) (fp : List Addr), PE (X.blk s H scope (compEnvC scope cl C X.env) fp) elt (tE (P.at l) WF f)) :
    PE X (.ListComp elt [⟨tg, iter, ifs, 0⟩, ⟨tg1, iter1, ifs1, 0⟩] scope pos) (tE (P.at av) W (lc2I fi g t fi1 g1 t1 f (own.map (·.2)) ws1)) :=
  PE.weak (pe_lc2 (own := own) (vs1 := ws1) hc hN hi ok hv (fun s H C cl fp => PG.exi fun l => hg l s H C cl fp) (fun s H C cl fp => PTs.exi fun l => ht l s H C cl fp) (fun s H C cl fp => PI.exi fun l => hi1 l s H C cl fp)
    (fun s H C cl fp => PG.exi fun l => hg1 l s H C cl fp) (fun s H C cl fp => PTs.exi fun l => ht1 l s H C cl fp) (fun s H C cl fp => PE.exi fun l => he l s H C cl fp) hs hs1) fun σ H Q hq => lc2_read hq
end
end EV
namespace EV
open PySem PySem.Spec PyProof.Rows L2 RZ

theorem DBoth.dictSet {X : Cx} {s : Shared} {a : Addr} {u : Value} {v : V} {q : NestedKey} {xs : Xs} {A : Around} {E : Value → Shared → Prop} {Q : Unit → Shared → Prop} {w : Value} (d : DBoth X s.heap a u v q xs) (hu : A.units + 10 < cLine) (hl : xs.length ≤ sizeLine) (h : ∀ h' t, DKind X h' a (storedG xs q v w) → Heap.SameBut a s.heap h' → Q () { s with heap := h', toks := t }) : wpAny (model X.prog X.w) A (dictSet a u w) Q E s := by
  cases d with
  | tup xs b d e1 e2 k =>
    subst e1 e2
    refine wpAny_dictSet_heap (knd := NK X) (by show A.units + 8 < cLine; omega) k d (fun h' d' sb => h h' _ ?_ sb) (by simpa [convH] using hl)
    rw [storedG_H]; exact .tup _ d'
  | atom xs l d k e1 e2 =>
    subst e1 e2
    refine wpAny_dictSet_pairs (knd := AK X) k d (fun h' d' sb => h h' _ ?_ sb) (by simpa [convA] using hl)
    rw [storedG_A]; exact .atom _ d'

/-- d[y] = z by a comprehension, from H on: then N -/
def DSet (p : Program) (w : World) (K : PySem.W.Frag) (A : Around) (D : Addr) (y z : V) (H : Hp) (N : Hp → Prop) : Prop :=
  ∀ (X : Cx), X.prog = p → X.w = w → X.K = K → X.A = A → ∀ pins σ s u r E, Inv X pins σ H s → L2.RelV y u → L2.RelV z r → wpAny (model X.prog X.w) X.A (dictSet D u r) (fun _ s' => ∃ H', Inv X pins σ H' s' ∧ N H') E s
section
variable {X : Cx}
/-- {k: v for target in iter if ..}: D the new dict -/
def tDcR (X : Cx) (wi : TI) (g : TG) (tt : TT) (tk tv : TE) (vs : List Nat) : TE := fun σ H Q => wi σ H fun J H1 => ∀ D, H1 D = none → ∃ W : Nat → Nat → Hp → Prop, (∃ m, W 0 m (upd H1 D (DctO D emptyO []))) ∧ ∀ i m H, W i m H →
  (J.stop i H ∧ Q (.ref D) H) ∨ (J.go i H ∧ ∃ Nx : Hp → Prop, (∀ H', Nx H' → ∃ m', m' < m ∧ W (i + 1) m' H') ∧ ∀ x H', J.yld i H x H' → g x (L2.wipe σ vs) H' fun σ2 H2 => L2.wipe σ2 vs = L2.wipe σ vs ∧ tt σ2 H2 fun b H3 =>
    if b = true then tk σ2 H3 fun y H4 => tv σ2 H4 fun z H5 => DSet X.prog X.w X.K X.A D y z H5 Nx else Nx H3)
theorem dcR_core {pins : List (Addr × Obj)} {s : Shared} {σ : L2.St} {H : Hp} {Q : VK} {kx vx tg iter : Expr} {ifs : List Expr} {scope : Scope} {own : List (Str × Nat)} {pos pos' : Pos} {wi : TI} {g : TG} {tt : TT} {tk tv : TE} {use : Option (Value → Sem Unit)} {Qf : Value → Shared → Prop} (I : Inv X pins σ H s) (hc : X.calm = true) (hN : X.N.Nodup) (hi : PI X tg iter wi) (ok : BlkOk X.N X.env.scope scope own)
    (hg : ∀ (s : Shared) (H : Hp) (C : Addr) (cl : List (Str × Addr)) (fp : List Addr), PG (X.blk s H scope (compEnvC scope cl C X.env) fp) tg g)
    (ht : ∀ (s : Shared) (H : Hp) (C : Addr) (cl : List (Str × Addr)) (fp : List Addr), PTs (X.blk s H scope (compEnvC scope cl C X.env) fp) ifs tt)
    (hk : ∀ (s : Shared) (H : Hp) (C : Addr) (cl : List (Str × Addr)) (fp : List Addr), PE (X.blk s H scope (compEnvC scope cl C X.env) fp) kx tk)
    (he : ∀ (s : Shared) (H : Hp) (C : Addr) (cl : List (Str × Addr)) (fp : List Addr), PE (X.blk s H scope (compEnvC scope cl C X.env) fp) vx tv) (hs : ∀ x, foldedSetIterable iter X.env x = pure x) (h : tDcR X wi g tt tk tv (own.map (·.2)) σ H Q)
    (hRR : ∀ D C s' m H', Inv X pins σ H' s' → Q (.ref D) H' → s'.heap.Ns C m → FpOk X pins H' C → compPost (model X.prog X.w) X.A X.xe use Qf (.ref D) C (.ok .next) s') :
    wpAny (model X.prog X.w) X.A (comprehension (.DictComp kx vx [⟨tg, iter, ifs, 0⟩] scope pos) scope X.env pos' newDict false (eval iter X.env) use) Qf X.xe s := by
  have free : ∀ y ∈ scope.names, y.2 = .free → ∃ c, X.env.cells.lookup y.1 = some c := fun y hy e => by
    rcases ok.free y hy e with k | k
    · exact I.ok.has _ (.inl k)
    · exact I.ok.has _ (.inr k)
  refine wpAny_comprehension_free (use := use) rfl hs (closure_ok free) ok.kind (fun y hy e => by rw [ok.uniq y hy, e])
    (thn (hi.run pins s σ H _ I h) fun xv s1 hx => thn hx fun itv s2 ⟨it, fp, tn, J, H2, e, I2, T, st2, f2, q⟩ => ?_)
  subst e
  refine wpAny_newObj_type (newEnv_comp ?_)
  generalize hD : s2.heap.objs.size = D
  have hDn : H2 D = none := I2.hok.fresh (Nat.le_of_eq hD)
  obtain ⟨W, ⟨m0, w0⟩, turn⟩ := q D hDn
  generalize hs3 : ({ s2 with heap := s2.heap.push { cls := .type "dict", data := .dict #[] } } : Shared) = s3
  have h3 : s3.heap = s2.heap.push emptyO := by rw [← hs3]; rfl
  have I3 : Inv X pins σ (upd H2 D (DctO D emptyO [])) s3 := by
    have := I2.laid (t' := s2.toks) (h' := s2.heap.push emptyO) (a := D) (o := DctO D emptyO []) (fun b o e => Heap.get?_push_of_some _ e) (Nat.le_of_eq hD) (by
      rw [← hD]; exact (raw_nil I2.big).objOk)
    rw [← hs3]; exact this
  have f3 : ∀ b ∈ fp, FpOk X pins (upd H2 D (DctO D emptyO [])) b ∧ b < s3.heap.objs.size := fun b hb => by
    obtain ⟨o, e, _⟩ := T.obj _ _ st2 b hb
    have lt := Heap.lt_size e
    refine ⟨⟨?_, (f2 b hb).2⟩, by rw [h3, Heap.size_push]; exact Nat.lt_succ_of_lt lt⟩
    rw [upd_ne (by rw [← hD]; exact Nat.ne_of_lt lt)]
    exact (f2 b hb).1
  have st3 : tn 0 s3.heap := T.keep _ _ _ st2 fun b _ o e => by rw [h3]; exact Heap.get?_push_of_some _ e
  have I4 := block_start I3 ok hN f3
  rw [show ({ cls := .type "dict", data := .dict #[] } : Obj) = emptyO from rfl] at I4
  have pg := hg s3 (upd H2 D (DctO D emptyO [])) s3.heap.objs.size (cellsFrom (s3.heap.objs.size + 1) scope.names (cloFrom X.env.cells scope.names [])) fp
  have pt := ht s3 (upd H2 D (DctO D emptyO [])) s3.heap.objs.size (cellsFrom (s3.heap.objs.size + 1) scope.names (cloFrom X.env.cells scope.names [])) fp
  have pk := hk s3 (upd H2 D (DctO D emptyO [])) s3.heap.objs.size (cellsFrom (s3.heap.objs.size + 1) scope.names (cloFrom X.env.cells scope.names [])) fp
  have pv := he s3 (upd H2 D (DctO D emptyO [])) s3.heap.objs.size (cellsFrom (s3.heap.objs.size + 1) scope.names (cloFrom X.env.cells scope.names [])) fp
  have none3 : ∀ b ∈ fp, (upd H2 D (DctO D emptyO [])) b = none := fun b hb => (f3 b hb).1.1
  change codeAny _ _ (.compStart _ 0 (.ref it) (.ref D) (compEnvC scope (cellsFrom (s3.heap.objs.size + 1) scope.names (cloFrom X.env.cells scope.names [])) s3.heap.objs.size X.env)) (compPost _ _ _ _ _ (.ref D) s3.heap.objs.size) { s3 with heap := pushCells (s3.heap.push emptyO) scope.names }
  generalize hce : compEnvC scope (cellsFrom (s3.heap.objs.size + 1) scope.names (cloFrom X.env.cells scope.names [])) s3.heap.objs.size X.env = ce at I4 pg pt pk pv ⊢
  have cL : ce.locals = s3.heap.objs.size := by subst hce; rfl
  generalize hH3 : upd H2 D (DctO D emptyO []) = H3 at I3 I4 pg pt pk pv w0 none3 f3
  generalize hs4 : ({ s3 with heap := pushCells (s3.heap.push emptyO) scope.names } : Shared) = s4 at I4 ⊢
  have st4 : tn 0 s4.heap := T.keep _ _ _ st3 fun b _ o e => by rw [← hs4]; exact pushCells_keeps _ _ _ _ (Heap.get?_push_of_some _ e)
  have stat : ∀ {σ' : L2.St} {H' : Hp} {s' : Shared}, Inv (X.blk s3 H3 scope ce fp) [] σ' H' s' → (∀ b ∈ fp, H' b = none) → ∀ b ∈ fp, FpOk (X.blk s3 H3 scope ce fp) [] H' b := fun {σ' H' s'} I' hn b hb =>
    ⟨hn b hb, (I'.ok.exf b hb).1, I'.ok.exfs b hb, .inl hb, fun x c e => (I'.ok.exf b hb).2 x c e, fun p hp => absurd (show p ∈ ([] : List (Addr × Obj)) ++ [] from hp) (by simp)⟩
  refine codeAny_compStart_dict ?loop (T.self X.A 0 _ _ _ st4 ?loop)
  case loop =>
    refine compLoop_anyD (fun n s' => ∃ i H', Inv (X.blk s3 H3 scope ce fp) [] (L2.wipe σ (own.map (·.2))) H' s' ∧ tn i s'.heap ∧ (∀ b ∈ fp, H' b = none) ∧ W i n H') ?_ m0 ⟨0, H3, I4, st4, none3, w0⟩
    rintro n s5 ⟨i, H5, I5, st5, n5, w5⟩
    rcases turn i n H5 w5 with ⟨stop, qq⟩ | ⟨go, Nx, hNx, step⟩
    · refine thnF (T.done (X.blk s3 H3 scope ce fp) rfl rfl rfl hc i [] s5 _ H5 (fun _ _ => False) I5 (stat I5 n5) st5 stop) fun r s6 ⟨hr, I6⟩ => ?_
      subst hr
      have I7 : Inv X pins σ H5 s6 := I3.call' (ch := fp) I6.os I6.base I6.hok I6.bare fun b hb => ⟨(f3 b hb).1.2.2.2.1, (f3 b hb).1.2.1, (f3 b hb).1.2.2.2.2.1, (f3 b hb).1.2.2.2.2.2⟩
      have z : H5 ce.locals = none := I6.free
      rw [cL] at z
      obtain ⟨m, hn, _⟩ := I6.loc
      have hn : s6.heap.Ns ce.locals m := hn
      rw [cL] at hn
      obtain ⟨f0, f1, f2, f3, f4, f5⟩ := I3.fpOk (H := H3) (Nat.le_refl _) (I3.hok.fresh (Nat.le_refl _))
      exact hRR D s3.heap.objs.size s6 m H5 I7 qq hn ⟨z, f1, f2, f3, f4, f5⟩
    · refine thnF (T.item (X.blk s3 H3 scope ce fp) rfl rfl rfl hc i [] s5 _ H5 (fun _ _ => False) I5 (stat I5 n5) st5 go) fun r s6 ⟨u, hr, h6⟩ => ?_
      subst hr
      refine thnF h6 fun _ s7 ⟨x, H7, I7, r7, y7, st7, n7⟩ => ?_
      have I7' := I7.pinned (stat I7 n7) (T.obj _ _ st7)
      refine thnF (pg.run _ s7 _ H7 x u _ I7' r7 (step x H7 y7)) fun _ s8 ⟨σ8, H8, I8, hw8, q8⟩ => ?_
      refine thnF (pt.run _ s8 σ8 H8 _ I8 q8) fun b s9 ⟨H9, I9, q9⟩ => ?_
      have fin : ∀ {s' : Shared} {H' : Hp}, Inv (X.blk s3 H3 scope ce fp) ([] ++ pinsAt fp s7.heap) σ8 H' s' → Nx H' → ∃ m, m < n ∧ ∃ i H', Inv (X.blk s3 H3 scope ce fp) [] (L2.wipe σ (own.map (·.2))) H' s' ∧ tn i s'.heap ∧ (∀ b ∈ fp, H' b = none) ∧ W i m H' := fun {s' H'} I' nx => by
        obtain ⟨m', hm, w'⟩ := hNx H' nx
        have pin' : ∀ b ∈ fp, ∀ o, s7.heap.get? b = some o → s'.heap.get? b = some o ∧ H' b = none := fun b hb o e =>
          let z := I'.pin (b, o) (List.mem_append_right _ (List.mem_append_right _ (mem_pinsAt hb e)))
          ⟨z.1, z.2.1⟩
        refine ⟨m', hm, i + 1, H', (I'.unpinned (pins := [])).weak (by rw [← hw8, wipe_length]) (fun j v e => by rw [← hw8] at e; exact (wipe_some e).1), T.keep _ _ _ st7 fun b hb o e => (pin' b hb o e).1, fun b hb => ?_, w'⟩
        obtain ⟨o, e, _⟩ := T.obj _ _ st7 b hb
        exact (pin' b hb o e).2
      cases b with
      | false =>
        simp only [Bool.false_eq_true, if_false] at q9 ⊢
        exact fin I9 q9
      | true =>
        simp only [if_true] at q9 ⊢
        refine thnF (pk.run _ s9 σ8 H9 _ I9 q9) fun z s10 ⟨yk, H10, I10, r10, q10⟩ => ?_
        refine thnF (pv.run _ s10 σ8 H10 _ I10 q10) fun z2 s11 ⟨yv, H11, I11, r11, nx⟩ => ?_
        exact thnF (nx (X.blk s3 H3 scope ce fp) rfl rfl rfl rfl _ σ8 s11 z z2 (fun _ _ => False) I11 r10 r11) fun _ s12 ⟨H12, I12, n12⟩ => fin I12 n12
theorem pe_dcR {kx vx tg iter : Expr} {ifs : List Expr} {scope : Scope} {own : List (Str × Nat)} {pos : Pos} {wi : TI} {g : TG} {tt : TT} {tk tv : TE} (hc : X.calm = true) (hN : X.N.Nodup) (hi : PI X tg iter wi) (ok : BlkOk X.N X.env.scope scope own)
    (hg : ∀ (s : Shared) (H : Hp) (C : Addr) (cl : List (Str × Addr)) (fp : List Addr), PG (X.blk s H scope (compEnvC scope cl C X.env) fp) tg g)
    (ht : ∀ (s : Shared) (H : Hp) (C : Addr) (cl : List (Str × Addr)) (fp : List Addr), PTs (X.blk s H scope (compEnvC scope cl C X.env) fp) ifs tt)
    (hk : ∀ (s : Shared) (H : Hp) (C : Addr) (cl : List (Str × Addr)) (fp : List Addr), PE (X.blk s H scope (compEnvC scope cl C X.env) fp) kx tk)
    (he : ∀ (s : Shared) (H : Hp) (C : Addr) (cl : List (Str × Addr)) (fp : List Addr), PE (X.blk s H scope (compEnvC scope cl C X.env) fp) vx tv) (hs : ∀ x, foldedSetIterable iter X.env x = pure x) :
    PE X (.DictComp kx vx [⟨tg, iter, ifs, 0⟩] scope pos) (tDcR X wi g tt tk tv (own.map (·.2))) := by
  refine ⟨fun pins s σ H Q I h => ?_⟩
  rw [arm_eval_DictComp]
  exact dcR_core I hc hN hi ok hg ht hk he hs h fun D C s' m H' I' q hn ⟨f0, f1, f2, f3, f4, f5⟩ =>
    ⟨m, hn, fun h'' sb => ⟨.ref D, H', I'.turned (t' := s'.toks) (fun b o hb e => (sb.2 b hb).trans e) f0 f1 f3 f4 f5, rfl, q⟩⟩
/-- name = {..} on one line, the name a local -/
theorem ps_setDcR {i : Nat} {y : Str} {py spos : Pos} {kx vx tg iter : Expr} {ifs : List Expr} {scope : Scope} {own : List (Str × Nat)} {pos : Pos} {wi : TI} {g : TG} {tt : TT} {tk tv : TE} (hy : X.N[i]? = some y) (hyl : X.env.scope.names.lookup y = some .local)
    (hsw : swapsWith (.DictComp kx vx [⟨tg, iter, ifs, 0⟩] scope pos) (some (.Name y py)) spos.line X.env = pure true) (hc : X.calm = true) (hN : X.N.Nodup) (hi : PI X tg iter wi) (ok : BlkOk X.N X.env.scope scope own)
    (hg : ∀ (s : Shared) (H : Hp) (C : Addr) (cl : List (Str × Addr)) (fp : List Addr), PG (X.blk s H scope (compEnvC scope cl C X.env) fp) tg g)
    (ht : ∀ (s : Shared) (H : Hp) (C : Addr) (cl : List (Str × Addr)) (fp : List Addr), PTs (X.blk s H scope (compEnvC scope cl C X.env) fp) ifs tt)
    (hk : ∀ (s : Shared) (H : Hp) (C : Addr) (cl : List (Str × Addr)) (fp : List Addr), PE (X.blk s H scope (compEnvC scope cl C X.env) fp) kx tk)
    (he : ∀ (s : Shared) (H : Hp) (C : Addr) (cl : List (Str × Addr)) (fp : List Addr), PE (X.blk s H scope (compEnvC scope cl C X.env) fp) vx tv) (hs : ∀ x, foldedSetIterable iter X.env x = pure x) :
    PS X (.Assign [.Name y py] (.DictComp kx vx [⟨tg, iter, ifs, 0⟩] scope pos) spos) (tAsg (tDcR X wi g tt tk tv (own.map (·.2))) (gName i)) := by
  refine ⟨fun pins s σ H D I h => ?_⟩
  rw [exec_Assign_Name_used _ _ _ _ hsw]
  refine wpAny_bind (wpAny_standAt (wpAny_bind ?_))
  have h : tDcR X wi g tt tk tv (own.map (·.2)) σ H (fun x H1 => gName i x σ H1 D.nx) := h
  refine wpAny_bind (thn (dcR_core (use := some (assign (.Name y py) X.env)) (Qf := fun _ s' => SP X pins D .next s') I hc hN hi ok hg ht hk he hs h fun L C s' m H' I' q hn ⟨f0, f1, f2, f3, f4, f5⟩ => ?_) fun _ s' hq => wpAny_pure (wpAny_pure hq))
  refine wpAny_assign_Name (store_ok2 (v := V.ref L) I' hN hy (.inl hyl) rfl (fun s2 I2 ⟨a, sb, ha⟩ => ?_) (.inr hyl))
  have other : C ≠ a := by
    rcases ha with z | z
    · rw [z]; exact f1
    · exact fun e => f4 y a z e.symm
  exact ⟨m, hn.sameBut sb other, fun h3 sb3 => ⟨_, H', I2.turned (t' := s2.toks) (fun b o hb e => (sb3.2 b hb).trans e) f0 f1 f3 f4 f5, q⟩⟩
theorem sw_trueD {kx vx : Expr} {gs : List Comprehension} {scope : Scope} {pos py : Pos} {y : Str} {l : Nat} {env : Env} (hk : env.scope.kind = .function) (hy : env.scope.names.lookup y = some .local) (hl : (py.line == pos.line) = true)
    (ha : (scope.names.any fun (n, k) => n == y && (k == .local || k == .cell)) = false) : swapsWith (.DictComp kx vx gs scope pos) (some (.Name y py)) l env = pure true := by
  have k1 : env.kindOf y = some .local := hy
  have k2 : env.blockKind = .function := by unfold Env.blockKind; rw [hk]; rfl
  unfold swapsWith
  simp only [k1, k2, ha, Expr.pos, hl]
  rfl
end

def dcM (g : TM) (t : IE → M Bool) (fk fv : IE → M IV) (σ0 : IE) : List IV → List IV → List IV → M (List IV × List IV)
  | [], ks, us => fun h => .ok (ks, us) h
  | x :: xs, ks, us => fun h => match g x σ0 h with
    | none => .no
    | some (σ1, h1) => match t σ1 h1 with
      | .ok true h2 => (match fk σ1 h2 with
        | .ok k h3 => (match fv σ1 h3 with
          | .ok v h4 => if kindOk k ks = true ∧ ks.length < 16777216 then dcM g t fk fv σ0 xs (dput k v ks us).1 (dput k v ks us).2 h4 else .no
          | _ => .no)
        | _ => .no)
      | .ok false h2 => dcM g t fk fv σ0 xs ks us h2
      | _ => .no
def dcI (fi : IE → M (List IV)) (g : TM) (t : IE → M Bool) (fk fv : IE → M IV) (ws : List Nat) : IE → M IV := fun σ h => (fi σ h).bind fun xs h =>
  (dcM g t fk fv (wipeI σ ws) xs [] [] h).bind fun p h => .ok (.dct p.1 p.2) h
section
variable {X : Cx} {P : Par} {W : WX}
theorem dc_read {fi : IE → M (List IV)} {g : TM} {t : IE → M Bool} {fk fv : IE → M IV} {own : List (Str × Nat)} {av : List Addr} {σ : L2.St} {H : Hp} {Q : VK} (hK : X.K = P.K) (hw : X.w = P.w) (hu : X.A.units + 65 < cLine)
    (hq : tE (P.at av) W (dcI fi g t fk fv (own.map (·.2))) σ H Q) :
    tDcR X (tI (P.at av) W fi) (fun v σ H Q => ∃ l, tGw (P.at l) (own.map (·.2)) g v σ H Q) (fun σ H Q => ∃ l, tT (P.at l) WF t σ H Q) (fun σ H Q => ∃ l, tE (P.at l) WF fk σ H Q) (fun σ H Q => ∃ l, tE (P.at l) WF fv σ H Q) (own.map (·.2)) σ H Q := by
  generalize own.map (·.2) = ws at hq ⊢
  obtain ⟨φ, h, σi, s, se, p⟩ := hq
  unfold tDcR
  refine ⟨φ, h, σi, s, se, ?_⟩
  unfold dcI at p
  cases e : fi σi h with
  | ex x h1 => rw [e] at p; exact p
  | no => rw [e] at p; exact p
  | ok xs h1 =>
    simp only [e, Out.bind] at p
    intro φ1 H1 J ex1 s1 G D hD
    have p := Post.ext p ex1
    have se1 := (se.mono ex1).wipe ws
    clear ex1 se s e
    have kD : ∀ c ∈ D :: av, c ∈ (P.at av).av ∨ H1 c = none := fun c m => by
      rcases List.mem_cons.mp m with rfl | m
      · exact .inr hD
      · exact .inl m
    let I : Nat → Hp → Prop := fun i H => ∃ φ h ks us o es, SR (P.at (D :: av)) φ H h ∧ H D = some (DctO D o es) ∧ VRs (P.at (D :: av)) φ H ks (es.map (·.2.1)) ∧ VRs (P.at (D :: av)) φ H us (es.map (·.2.2)) ∧ KeysOk P.w ks (es.map (·.1)) ∧
      SE (P.at (D :: av)) φ H (wipeI σi ws) (L2.wipe σ ws) ∧ Ext φ1 H1 φ H ∧
      Post (P.at av) W σ φ1 H1 Q ((dcM g t fk fv (wipeI σi ws) (xs.drop i) ks us h).bind fun p h => .ok (.dct p.1 p.2) h)
    have exN : Ext φ1 H1 φ1 (upd H1 D (DctO D emptyO [])) := Ext.new hD
    have nt : ∀ {o es} (xs : List V), DctO D o es ≠ .tup xs := fun xs => DctO.ne_tup
    have nf : ∀ {o es} (o' : Obj) (u : HO), DctO D o es ≠ .frz o' u := fun o' u => DctO.ne_frz
    refine ⟨fun i m H => i ≤ xs.length ∧ m = xs.length - i ∧ I i H, ⟨xs.length, Nat.zero_le _, by simp, φ1, h1, [], [], emptyO, [], ?_, upd_same, VRs.nil, VRs.nil, keysOk_nil, ?_, exN, by simp only [List.drop_zero]; exact p⟩, ?_⟩
    · exact SR.avN hD nt nf s1
    · exact SE.mono (SE.avI kD se1) exN
    rintro i m H2 ⟨hi, rfl, φ2, h2, ks, us, o, es, s2, hD2, rk, ru, ko, se2, ex2, p2⟩
    by_cases hlt : i < xs.length
    · refine .inr ⟨G.go i φ2 H2 hlt ex2, fun H' => i + 1 ≤ xs.length ∧ I (i + 1) H', ?_, ?_⟩
      · rintro H' ⟨a, b⟩
        exact ⟨xs.length - (i + 1), by omega, a, rfl, b⟩
      intro x H3 y
      have hx : xs[i]? = some xs[i] := by simp [hlt]
      obtain ⟨e1, sr, r⟩ := G.yld i φ2 H2 x H3 ex2 y xs[i] hx
      have e2 : xs.drop i = xs[i] :: xs.drop (i + 1) := List.drop_eq_getElem_cons hlt
      rw [e2] at p2
      unfold dcM at p2
      refine ⟨D :: av, φ2, h2, wipeI σi ws, xs[i], sr _ h2 s2, se2.mono e1, r (D :: av) kD, ?_⟩
      have n2 := (s2.av D List.mem_cons_self).1
      have rk3 := rk.mono e1
      have ru3 := ru.mono e1
      have hD3 : H3 D = some (DctO D o es) := e1.keep _ _ hD2 n2
      have ex3 := ex2.trans e1
      have se3 := se2.mono e1
      cases q : g xs[i] (wipeI σi ws) h2 with
      | none => rw [q] at p2; exact p2.elim
      | some z =>
        obtain ⟨σ4, h4⟩ := z
        rw [q] at p2
        dsimp only at p2
        intro φ4 H4 σ4' ex4 s4 se4 w4
        rw [wipe_idem] at w4
        refine ⟨w4, D :: av, φ4, h4, σ4, s4, se4, ?_⟩
        cases q5 : t σ4 h4 with
        | ex x h5 => rw [q5] at p2; exact p2.elim
        | no => rw [q5] at p2; exact p2.elim
        | ok b h5 =>
          rw [q5] at p2
          intro φ5 H5 ex5 s5
          have ex45 := ex4.trans ex5
          cases b with
          | false =>
            rw [if_neg Bool.false_ne_true]
            dsimp only at p2
            exact ⟨hlt, φ5, h5, ks, us, o, es, s5, ex45.keep _ _ hD3 n2, rk3.mono ex45, ru3.mono ex45, ko, se3.mono ex45, ex3.trans ex45, p2⟩
          | true =>
            rw [if_pos rfl]
            dsimp only at p2
            refine ⟨D :: av, φ5, h5, σ4, s5, se4.mono ex5, ?_⟩
            cases q6 : fk σ4 h5 with
            | ex x h6 => rw [q6] at p2; exact p2.elim
            | no => rw [q6] at p2; exact p2.elim
            | ok k h6 =>
              rw [q6] at p2
              dsimp only at p2
              intro φ6 H6 yk ex6 s6 r6
              refine ⟨D :: av, φ6, h6, σ4, s6, (se4.mono ex5).mono ex6, ?_⟩
              cases q7 : fv σ4 h6 with
              | ex x h7 => rw [q7] at p2; exact p2.elim
              | no => rw [q7] at p2; exact p2.elim
              | ok v h7 =>
                rw [q7] at p2
                dsimp only at p2
                split at p2
                case isFalse => exact p2.elim
                rename_i c
                intro φ7 H7 yv ex7 s7 r7
                have exx := (ex45.trans ex6).trans ex7
                have hD7 : H7 D = some (DctO D o es) := exx.keep _ _ hD3 n2
                have rk7 := rk3.mono exx
                have ru7 := ru3.mono exx
                have r6' := VR.mono ex7 _ _ r6
                have a7 := s7.av D List.mem_cons_self
                intro X' eP ew eK eA pins σ' s' u r E I' ry rz
                obtain ⟨qk, xs', e3, d, g2, g3, g4, g5⟩ := dict_both I' (P := P.at (D :: av)) (eK.trans hK) (ew.trans hw) hD7 rk7 ko c.1 r6' ry
                obtain ⟨es', q1, q2, q3, q4, q5', q6'⟩ := put_ok r6' e3 (ew.trans hw) r7 rz g4 g5 rk7 ru7 d.kind.nodup
                have hl : es.length = xs'.length := Paired.length g4
                have hkl : ks.length = es.length := by have := rk7.len'; simpa using this
                refine d.dictSet (by rw [eA]; omega) (by rw [← hl]; exact g3) fun h' tk d' sb => ?_
                have hl' : es'.length ≤ sizeLine := by
                  have : sizeLine = 16777216 := sizeLine_eq
                  have := c.2
                  omega
                obtain ⟨o', raw⟩ := raw_of d' g2 hl' q1
                refine ⟨_, I'.write (x := D) (e := D) (by rw [hD7]; trivial) (.inl rfl) (fun b u hb q => (sb.2 b hb).trans q) ⟨_, raw.1⟩ raw.objOk, hlt, φ7, h7, _, _, o', es', ?_, upd_same, ?_, ?_, q4, ?_, (ex3.trans exx).under hD, p2⟩
                · exact SR.avU List.mem_cons_self nt nf s7
                · exact VRs.avU List.mem_cons_self a7.2.2.1 a7.2.2.2 _ _ q2
                · exact VRs.avU List.mem_cons_self a7.2.2.1 a7.2.2.2 _ _ q3
                · exact SE.avU List.mem_cons_self a7.2.2.1 a7.2.2.2 (se3.mono exx)
    · have e : i = xs.length := by omega
      subst e
      refine .inl ⟨G.stop φ2 H2 ex2, ?_⟩
      rw [List.drop_length] at p2
      refine p2 φ2 H2 _ ex2 (SR.avD (P := P.at (D :: av)) (fun c m => List.mem_cons_of_mem _ m) s2) ?_
      rw [VR]
      refine ⟨D, o, es, rfl, hD2, ⟨(s2.av D List.mem_cons_self).1, fun m => ?_⟩, VRs.avD (P := P.at (D :: av)) (fun c m => List.mem_cons_of_mem _ m) rk, VRs.avD (P := P.at (D :: av)) (fun c m => List.mem_cons_of_mem _ m) ru, ko⟩
      obtain ⟨_, ⟨o, z⟩, _⟩ := s1.av D m
      rw [hD] at z; cases z
variable {kx vx tg iter : Expr} {ifs : List Expr} {scope : Scope} {pos : Pos} {fi : IE → M (List IV)} {g : TM} {t : IE → M Bool} {fk fv : IE → M IV} {av : List Addr}
theorem pe_dcI (own : List (Str × Nat)) (hc : X.calm = true) (hN : X.N.Nodup) (hK : X.K = P.K) (hw : X.w = P.w) (hu : X.A.units + 65 < cLine) (hi : PI X tg iter (tI (P.at av) W fi)) (ok : BlkOk X.N X.env.scope scope own)
    (hs : ∀ x, foldedSetIterable iter X.env x = pure x)
    (hg : ∀ (l : List Addr) (s : Shared) (H : Hp) (C : Addr) (cl : List (Str × Addr)) (fp : List Addr), PG (X.blk s H scope (compEnvC scope cl C X.env) fp) tg (tGw (P.at l) (own.map (·.2)) g))
    (ht : ∀ (l : List Addr) (s : Shared) (H : Hp) (C : Addr) (cl : List (Str × Addr)) (fp : List Addr), PTs (X.blk s H scope (compEnvC scope cl C X.env) fp) ifs (tT (P.at l) WF t))
    (hk : ∀ (l : List Addr) (s : Shared) (H : Hp) (C : Addr) (cl : List (Str × Addr)) (fp : List Addr), PE (X.blk s H scope (compEnvC scope cl C X.env) fp) kx (tE (P.at l) WF fk))
    (he : ∀ (l : List Addr) (s : Shared) (H : Hp) (C : Addr) (cl : List (Str × Addr)) (fp : List Addr), PE (X.blk s H scope (compEnvC scope cl C X.env) fp) vx (tE (P.at l) WF fv)) :
    PE X (.DictComp kx vx [⟨tg, iter, ifs, 0⟩] scope pos) (tE (P.at av) W (dcI fi g t fk fv (own.map (·.2)))) :=
  PE.weak (pe_dcR (own := own) hc hN hi ok (fun s H C cl fp => PG.exi fun l => hg l s H C cl fp) (fun s H C cl fp => PTs.exi fun l => ht l s H C cl fp) (fun s H C cl fp => PE.exi fun l => hk l s H C cl fp) (fun s H C cl fp => PE.exi fun l => he l s H C cl fp) hs) fun σ H Q hq => dc_read hK hw hu hq
/-- name = {..} on one line -/
theorem ps_setDcI (own : List (Str × Nat)) {i : Nat} {y : Str} {py spos : Pos} (hc : X.calm = true) (hN : X.N.Nodup) (hy : X.N[i]? = some y) (hyl : X.env.scope.names.lookup y = some .local)
    (hsw : swapsWith (.DictComp kx vx [⟨tg, iter, ifs, 0⟩] scope pos) (some (.Name y py)) spos.line X.env = pure true) (hK : X.K = P.K) (hw : X.w = P.w) (hu : X.A.units + 65 < cLine) (hi : PI X tg iter (tI (P.at av) W fi)) (ok : BlkOk X.N X.env.scope scope own)
    (hs : ∀ x, foldedSetIterable iter X.env x = pure x)
    (hg : ∀ (l : List Addr) (s : Shared) (H : Hp) (C : Addr) (cl : List (Str × Addr)) (fp : List Addr), PG (X.blk s H scope (compEnvC scope cl C X.env) fp) tg (tGw (P.at l) (own.map (·.2)) g))
    (ht : ∀ (l : List Addr) (s : Shared) (H : Hp) (C : Addr) (cl : List (Str × Addr)) (fp : List Addr), PTs (X.blk s H scope (compEnvC scope cl C X.env) fp) ifs (tT (P.at l) WF t))
    (hk : ∀ (l : List Addr) (s : Shared) (H : Hp) (C : Addr) (cl : List (Str × Addr)) (fp : List Addr), PE (X.blk s H scope (compEnvC scope cl C X.env) fp) kx (tE (P.at l) WF fk))
    (he : ∀ (l : List Addr) (s : Shared) (H : Hp) (C : Addr) (cl : List (Str × Addr)) (fp : List Addr), PE (X.blk s H scope (compEnvC scope cl C X.env) fp) vx (tE (P.at l) WF fv)) :
    PS X (.Assign [.Name y py] (.DictComp kx vx [⟨tg, iter, ifs, 0⟩] scope pos) spos) (tS (P.at av) W (asgS (dcI fi g t fk fv (own.map (·.2))) (gNm i))) :=
  PS.weak (ps_setDcR (own := own) hy hyl hsw hc hN hi ok (fun s H C cl fp => PG.exi fun l => hg l s H C cl fp) (fun s H C cl fp => PTs.exi fun l => ht l s H C cl fp) (fun s H C cl fp => PE.exi fun l => hk l s H C cl fp) (fun s H C cl fp => PE.exi fun l => he l s H C cl fp) hs) fun D σ H hq => by
  obtain ⟨φ, h, σi, s, se, p⟩ := hq
  refine dc_read (own := own) hK hw hu ⟨φ, h, σi, s, se, (Post.thn se p).mono ?_⟩
  rintro x H1 ⟨φ1, h1, v, s1, se1, r1, p1⟩
  exact p1 φ1 H1 _ (Ext.refl _ _) s1 (se1.set r1 i)
/-- name = [.. for .. for ..] on one line -/
theorem ps_setLc2I {elt tg1 iter1 : Expr} {ifs1 : List Expr} {fi1 : IE → M (List IV)} {g1 : TM} {t1 : IE → M Bool} {f : IE → M IV} (own : List (Str × Nat)) {ws1 : List Nat} {i : Nat} {y : Str} {py spos : Pos} (hc : X.calm = true) (hN : X.N.Nodup) (hy : X.N[i]? = some y) (hyl : X.env.scope.names.lookup y = some .local)
    (hsw : swapsWith (.ListComp elt [⟨tg, iter, ifs, 0⟩, ⟨tg1, iter1, ifs1, 0⟩] scope pos) (some (.Name y py)) spos.line X.env = pure true) (hi : PI X tg iter (tI (P.at av) W fi)) (ok : BlkOk X.N X.env.scope scope own) (hv : ∀ i ∈ ws1, i ∈ own.map (·.2))
    (hs : ∀ x, foldedSetIterable iter X.env x = pure x) (hs1 : ∀ env x, foldedSetIterable iter1 env x = pure x)
    (hg : ∀ (l : List Addr) (s : Shared) (H : Hp) (C : Addr) (cl : List (Str × Addr)) (fp : List Addr), PG (X.blk s H scope (compEnvC scope cl C X.env) fp) tg (tGw (P.at l) (own.map (·.2)) g))
    (ht : ∀ (l : List Addr) (s : Shared) (H : Hp) (C : Addr) (cl : List (Str × Addr)) (fp : List Addr), PTs (X.blk s H scope (compEnvC scope cl C X.env) fp) ifs (tT (P.at l) WF t))
    (hi1 : ∀ (l : List Addr) (s : Shared) (H : Hp) (C : Addr) (cl : List (Str × Addr)) (fp : List Addr), PI (X.blk s H scope (compEnvC scope cl C X.env) fp) tg1 iter1 (tIA (P.at l) WF fi1))
    (hg1 : ∀ (l : List Addr) (s : Shared) (H : Hp) (C : Addr) (cl : List (Str × Addr)) (fp : List Addr), PG (X.blk s H scope (compEnvC scope cl C X.env) fp) tg1 (tGw (P.at l) ws1 g1))
    (ht1 : ∀ (l : List Addr) (s : Shared) (H : Hp) (C : Addr) (cl : List (Str × Addr)) (fp : List Addr), PTs (X.blk s H scope (compEnvC scope cl C X.env) fp) ifs1 (tT (P.at l) WF t1))
    (he : ∀ (l : List Addr) (s : Shared) (H : Hp) (C : Addr) (cl : List (Str × Addr)) (fp : List Addr), PE (X.blk s H scope (compEnvC scope cl C X.env) fp) elt (tE (P.at l) WF f)) :
    PS X (.Assign [.Name y py] (.ListComp elt [⟨tg, iter, ifs, 0⟩, ⟨tg1, iter1, ifs1, 0⟩] scope pos) spos) (tS (P.at av) W (asgS (lc2I fi g t fi1 g1 t1 f (own.map (·.2)) ws1) (gNm i))) :=
  PS.weak (ps_setLc2 (own := own) (vs1 := ws1) hc hN hy hyl hsw hi ok hv (fun s H C cl fp => PG.exi fun l => hg l s H C cl fp) (fun s H C cl fp => PTs.exi fun l => ht l s H C cl fp) (fun s H C cl fp => PI.exi fun l => hi1 l s H C cl fp)
    (fun s H C cl fp => PG.exi fun l => hg1 l s H C cl fp) (fun s H C cl fp => PTs.exi fun l => ht1 l s H C cl fp) (fun s H C cl fp => PE.exi fun l => he l s H C cl fp) hs hs1) fun D σ H hq => by
  obtain ⟨φ, h, σi, s, se, p⟩ := hq
  refine lc2_read (own := own) ⟨φ, h, σi, s, se, (Post.thn se p).mono ?_⟩
  rintro x H1 ⟨φ1, h1, v, s1, se1, r1, p1⟩
  exact p1 φ1 H1 _ (Ext.refl _ _) s1 (se1.set r1 i)
end
end EV
namespace EV
open PySem PySem.Spec PyProof.Rows L2 RZ

def dmerge (ks us : List IV) : List IV → List IV → List IV × List IV
  | k :: ks2, v :: us2 => dmerge (dput k v ks us).1 (dput k v ks us).2 ks2 us2
  | _, _ => (ks, us)
section
variable {X : Cx} {P : Par} {φ : List Addr} {H : Hp} {h : IH} {pins : List (Addr × Obj)} {σ : L2.St} {s : Shared}
/-- a dict of atoms -/
theorem dict_atom (I : Inv X pins σ H s) (hw : X.w = P.w) {a : Addr} {o : Obj} {es : Raw} {ks : List IV} (hp : H a = some (DctO a o es)) (rk : VRs P φ H ks (es.map (·.2.1))) (ku : KeysOk P.w ks (es.map (·.1))) (ht : allKA ks = true) :
    ∃ xs : XsA, s.heap.DictOf (AK X) a xs ∧ (a == sysModules) = false ∧ es.length ≤ sizeLine ∧ Paired (EnR X.w) es (convA xs) ∧ keysOf ks = some ((convA xs).map (·.1)) := by
  have z : ObjOk X.prog X.w H s.heap a (DctO a o es) := I.hok a _ hp
  obtain ⟨⟨h1, h2, h3, h4, arr, ep, h5, h6⟩, _⟩ := z
  obtain ⟨nks, e1, nd, e2⟩ := ku.ex
  obtain ⟨xs, g1, g2, g3, g4⟩ := link_A hw h6 rk e1 e2 (allKA_ok ht)
  subst g3
  exact ⟨xs, ⟨o, arr, ep, h1, h4, h5, fun e he => g2 e (by simpa using he), g1, nodup_leaf nd⟩, h2, h3, g4, by rw [convA_keys]; exact e1⟩
theorem merge_ok (hw : X.w = P.w) : ∀ {more : XsA} {es2 : Raw} {ks2 us2 : List IV} {xs : XsA} {es : Raw} {ks us : List IV}, Paired (EnR X.w) es2 (convA more) → keysOf ks2 = some ((convA more).map (·.1)) → VRs P φ H ks2 (es2.map (·.2.1)) → VRs P φ H us2 (es2.map (·.2.2)) →
    Paired (EnR X.w) es (convA xs) → keysOf ks = some ((convA xs).map (·.1)) → VRs P φ H ks (es.map (·.2.1)) → VRs P φ H us (es.map (·.2.2)) → ((convA xs).map (·.1)).Nodup → KeysOk P.w ks (es.map (·.1)) →
    ∃ es', Paired (EnR X.w) es' (convA (merged xs more)) ∧ VRs P φ H (dmerge ks us ks2 us2).1 (es'.map (·.2.1)) ∧ VRs P φ H (dmerge ks us ks2 us2).2 (es'.map (·.2.2)) ∧ KeysOk P.w (dmerge ks us ks2 us2).1 (es'.map (·.1))
  | [], es2, ks2, us2, xs, es, ks, us, t2, e2, r2, u2, t, e, r, u, nd, ko => by
    have : es2 = [] := by cases t2; rfl
    subst this
    have k0 : ks2 = [] := by
      cases ks2 with
      | nil => rfl
      | cons k ks => rw [List.map_nil, VRs] at r2; obtain ⟨_, _, z, _⟩ := r2; cases z
    subst k0
    exact ⟨es, t, by unfold dmerge; exact r, by unfold dmerge; exact u, by unfold dmerge; exact ko⟩
  | m :: more, es2, ks2, us2, xs, es, ks, us, t2, e2, r2, u2, t, e, r, u, nd, ko => by
    cases t2 with
    | cons c t2 =>
      rename_i p es2
      cases ks2 with
      | nil => rw [VRs] at r2; cases r2
      | cons k ks2 =>
        cases us2 with
        | nil => rw [VRs] at u2; cases u2
        | cons w us2 =>
          obtain ⟨qk, tk, z1, z2, z3⟩ := keysOf_cons e2
          cases z1
          rw [List.map_cons, VRs] at r2 u2
          obtain ⟨v1, vs1, q1, r3, r4⟩ := r2
          obtain ⟨v2, vs2, q2, u3, u4⟩ := u2
          cases q1; cases q2
          have r3' : VR P φ H k (vA m.1) := (show p.2.1 = vA m.1 from c.2.1) ▸ r3
          obtain ⟨es', p1, p2, p3, p4, p5, p6⟩ := put_ok r3' z2 hw u3 c.2.2 t e r u nd
          rw [storedG_A] at p1 p6
          have nd' : ((convA (stored xs m.1 m.2)).map (·.1)).Nodup := by
            obtain ⟨nks, w1, w2, _⟩ := p4.ex
            rw [p6] at w1; cases w1
            exact w2
          obtain ⟨es'', h1, h2, h3, h4⟩ := merge_ok hw (more := more) t2 z3 r4 u4 p1 p6 p2 p3 nd' p4
          exact ⟨es'', h1, by unfold dmerge; exact h2, by unfold dmerge; exact h3, by unfold dmerge; exact h4⟩
end
/-- d.update(e) -/
def updM : RMt := fun o xs h => match o, xs with
  | .ref n, [.dct ks2 us2] => match h[n]? with
    | some (.dct ks us) => if allKA ks = true ∧ allKA ks2 = true ∧ ks.length + ks2.length ≤ 16777216 then .ok .non (h.set n (.dct (dmerge ks us ks2 us2).1 (dmerge ks us ks2 us2).2)) else .no
    | _ => .no
  | _, _ => .no
section
variable {X : Cx} {P : Par} {W : WX}
theorem mt_updI (hw : X.w = P.w) : MtR X "dict.update" (rM P W updM) := fun pins s σ H x xs v us Q I rx rs ⟨φ, h, σ', io, ivs, sr, r1, r2, p⟩ => by
  unfold updM at p
  split at p
  · rename_i n ks2 us2
    split at p
    · rename_i ks us hn
      split at p
      · rename_i c
        obtain ⟨w, rfl, rw'⟩ := r2.one
        obtain ⟨u, rfl, ru⟩ := rs.one
        have rd := r1
        rw [VR] at rd
        rw [VR] at rw'
        obtain ⟨a, ha, rfl⟩ := rd
        obtain ⟨ob, es, hp, k1, k2, k3⟩ := sr.obj _ _ a hn ha
        obtain ⟨b, o2, es2, rfl, hb, off, j1, j2, j3⟩ := rw'
        cases (show v = Value.ref a from rx)
        cases (show u = Value.ref b from ru)
        obtain ⟨xs1, d1, g1, g2, g3, g4⟩ := dict_atom I hw hp k1 k3 c.1
        obtain ⟨xs2, d2, f1, f2, f3, f4⟩ := dict_atom I hw hb j1 j3 c.2.1
        have l1 : es.length = xs1.length := by have := Paired.length g3; simpa [convA] using this
        have l2 : es2.length = xs2.length := by have := Paired.length f3; simpa [convA] using this
        have m1 : ks.length = es.length := by have := k1.len'; simpa using this
        have m2 : ks2.length = es2.length := by have := j1.len'; simpa using this
        have nd : ((convA xs1).map (·.1)).Nodup := by
          obtain ⟨nks, w1, w2, _⟩ := k3.ex
          rw [g4] at w1; cases w1
          exact w2
        obtain ⟨es', q1, q2, q3, q4⟩ := merge_ok hw f3 f4 j1 j2 g3 g4 k1 k2 nd k3
        have hsz : xs1.length + xs2.length ≤ sizeLine := by
          have : sizeLine = 16777216 := sizeLine_eq
          have := c.2.2
          omega
        have ne : a ≠ b := fun z => off.1 (by rw [← z]; exact List.mem_of_getElem? ha)
        refine call_meetsIn PySem.F.slot_dict_update d1.typeIs PySem.F.entry_dict_update (PySem.F.args_dict_update_2 _ _) (meets_dict_update (AK X) a b ne f1) ⟨xs1, xs2, d1, d2, hsz, fun h' d' _ sb => ?_⟩
        have hl' : es'.length ≤ sizeLine := by
          have e1 : es'.length = (merged xs1 xs2).length := by have := Paired.length q1; simpa [convA] using this
          have e2 := merged_length_le xs1 xs2
          omega
        obtain ⟨o', raw⟩ := raw_of (X := X) (.atom _ d') g1 hl' q1
        have n1 : ∀ xs, DctO a ob es ≠ .tup xs := fun xs => DctO.ne_tup
        have n2 : ∀ x u, DctO a ob es ≠ .frz x u := fun x u => DctO.ne_frz
        have ex : Ext φ H φ (L2.upd H a (DctO a o' es')) := Ext.upd (List.mem_of_getElem? ha) hp n1 n2
        refine ⟨.non, _, I.write (x := a) (e := a) (t' := s.toks) (by rw [hp]; trivial) (.inl rfl) (fun b u hb q => (sb.2 b hb).trans q) ⟨_, raw.1⟩ raw.objOk, rfl, ?_⟩
        exact p _ _ _ ex (sr.write ha hp n1 n2 ⟨o', es', upd_same, q2.mono ex, q3.mono ex, q4⟩) VR.n
      · exact p.elim
    · exact p.elim
  · exact p.elim
end
end EV
namespace EV
open PySem PySem.Spec PyProof.Rows L2 RZ

section
variable {X : Cx} {P : Par} {W : WX}
/-- list(x): of a dict, the keys -/
def listDI : RM := fun xs h => match xs with
  | [v] => match dctO h v with
    | some (ks, _) => .ok (.lst ks) h
    | none => listI xs h
  | _ => .no
theorem raw_keys {X : Cx} {pins : List (Addr × Obj)} {σ : L2.St} {H : Hp} {s : Shared} (I : Inv X pins σ H s) {es : Raw} {arr : Array DictEntry} (ent : ∀ (i : Nat) p, es[i]? = some p → ∃ en, arr[i]? = some en ∧ L2.RelV p.2.1 en.key ∧ L2.RelV p.2.2 en.val) (hsz : arr.size = es.length) {acc : Array Value} (ha : ItemsOf (fun i v => ∃ en, arr[i]? = some en ∧ v = en.key) acc arr.size) : Vals (es.map (·.2.1)) acc.toList := by
  refine vals_of_at (by simp [ha.1, hsz]) fun j x u e1 e2 => ?_
  rw [List.getElem?_map] at e1
  cases e3 : es[j]? with
  | none => rw [e3] at e1; cases e1
  | some p =>
    rw [e3] at e1; cases e1
    obtain ⟨en, g1, g2, g3⟩ := ent j p e3
    obtain ⟨en', g4, g5⟩ := ha.2 j u (by rw [← Array.getElem?_toList]; exact e2)
    rw [g1] at g4; cases g4
    rw [g5]; exact g2
theorem cr_listDI (hK : X.K = P.K) (hc : X.calm = true) : CallR X (.type "list") (rB P W listDI) := by
  intro pins s σ H xs us Q I rs ⟨φ, h, σ', ivs, sr, r, p⟩
  unfold listDI at p
  split at p
  · rename_i iv
    split at p
    · rename_i ks vs e
      obtain ⟨v0, rfl, r1⟩ := r.one
      obtain ⟨u, rfl, ru⟩ := vals1 rs
      obtain ⟨a, o, es, rfl, hp, k1, k2, k3⟩ := dctO_ok sr r1 e
      cases (show u = Value.ref a from ru)
      obtain ⟨arr, ep, hgd, hs, hx, hdt, hsz, hln, ent, raw⟩ := raw_at I hp
      refine PySem.W.kdl_call (kdl_raw hs hx hdt) (I.ok.hd hc) hgd (by omega) fun h' tk acc c' k ho ha => ?_
      have rv := raw_keys I ent hsz ha
      have hz : (es.map (·.2.1)).length ≤ sizeLine := by rw [List.length_map]; exact hln
      exact ⟨.ref s.heap.objs.size, _, I.laid (t' := tk) (o := .lst (es.map (·.2.1))) k (Nat.le_refl _) ⟨hz, acc.toList, c', rv, by simpa [seqObj] using ho⟩, rfl, p.newLst sr k1 (I.hok.fresh (Nat.le_refl _))⟩
    · exact cr_listI hK pins s σ H xs us Q I rs ⟨φ, h, σ', _, sr, r, p⟩
  · exact p.elim
/-- max(d): the keys ints -/
def maxDI : RM := fun xs h => match xs with
  | [v] => match dctO h v with
    | some (ks, _) => match (mapO inO ks).bind maxOf with
      | some m => .ok (.int m) h
      | none => .no
    | none => maxLI xs h
  | _ => .no
theorem cr_maxDI (hK : X.K = P.K) (hc : X.calm = true) : CallR X (.builtin "max") (rB P W maxDI) := by
  intro pins s σ H xs us Q I rs ⟨φ, h, σ', ivs, sr, r, p⟩
  unfold maxDI at p
  split at p
  · rename_i iv
    split at p
    · rename_i ks vs e
      split at p
      · rename_i m em
        obtain ⟨v0, rfl, r1⟩ := r.one
        obtain ⟨u, rfl, ru⟩ := vals1 rs
        obtain ⟨a, o, es, rfl, hp, k1, k2, k3⟩ := dctO_ok sr r1 e
        cases (show u = Value.ref a from ru)
        obtain ⟨arr, ep, hgd, hs, hx, hdt, hsz, hln, ent, raw⟩ := raw_at I hp
        cases e2 : mapO inO ks with
        | none => rw [e2] at em; cases em
        | some ns =>
        rw [e2] at em
        obtain ⟨m1, m2, m3⟩ := maxOf_ok (show maxOf ns = some m from em)
        have kv := ins_ok e2 k1
        have hnl : ns.length = es.length := by have := congrArg List.length kv; simpa using this.symm
        have hP : ∀ (i : Nat) (v : Value), (∃ en, arr[i]? = some en ∧ v = en.key) → ∃ t, v = .int (ns.getD i 0) t := fun i v ⟨en', hi, ev⟩ => by
          have h0 : i < arr.size := (Array.getElem?_eq_some_iff.mp hi).1
          have h1 : i < es.length := by omega
          obtain ⟨en, g1, g2, g3⟩ := ent i es[i] (List.getElem?_eq_getElem h1)
          rw [hi] at g1
          have e3 : (es.map (·.2.1))[i]? = (ns.map V.int)[i]? := by rw [kv]
          rw [List.getElem?_map, List.getElem?_map, List.getElem?_eq_getElem h1, List.getElem?_eq_getElem (by omega : i < ns.length)] at e3
          have e4 : es[i].2.1 = V.int ns[i] := Option.some.inj e3
          rw [e4] at g2
          obtain ⟨t, et⟩ := g2
          refine ⟨t, ?_⟩
          rw [ev, Option.some.inj g1, et, List.getD_eq_getElem?_getD, List.getElem?_eq_getElem (by omega : i < ns.length)]
          rfl
        refine call_max_walk ?_
        obtain ⟨oI, St, hit, W, st0⟩ := (kdl_raw (prog := X.prog) (w := X.w) hs hx hdt).iter X.A.in1 s (show X.A.in1.handled = none from I.ok.hd hc) hgd
        refine hit _ _ ?_
        have ha : a < s.heap.objs.size := Heap.lt_size hgd
        refine ⟨s.heap.objs.size, _, _, arr.size, _, St, fun i j => decide (ns.getD i 0 > ns.getD j 0), rfl, W, st0, fun b hb => ?_, by omega, CmpOf.ints_gt (fun i => ns.getD i 0) hP, fun v h' tk hv hk => ?_⟩
        · show b < (s.heap.push _).objs.size
          rw [size_push']
          rcases List.mem_cons.mp hb with z | z
          · rw [z]; exact Nat.lt_succ_self _
          · rw [List.mem_singleton.mp z]; exact Nat.lt_succ_of_lt ha
        · obtain ⟨t, rfl⟩ := hP _ _ hv
          obtain ⟨b1, b2⟩ := argBest_gt (fun i => ns.getD i 0) (arr.size - 1)
          have hk2 : ∀ b o, s.heap.get? b = some o → h'.get? b = some o := fun b o e => hk b o (fun z => by rw [List.mem_singleton.mp z] at e; exact absurd (Heap.lt_size e) (Nat.lt_irrefl _)) (Heap.get?_push_of_some _ e)
          have b1' : argBest (fun i j => decide (ns.getD i 0 > ns.getD j 0)) (arr.size - 1) ≤ arr.size - 1 := b1
          have b2' : ∀ j, j ≤ arr.size - 1 → ns.getD j 0 ≤ ns.getD (argBest (fun i j => decide (ns.getD i 0 > ns.getD j 0)) (arr.size - 1)) 0 := b2
          have em' : ns.getD (argBest (fun i j => decide (ns.getD i 0 > ns.getD j 0)) (arr.size - 1)) 0 = m := by
            refine Int.le_antisymm (m3 _ (PySem.getD_mem (by omega))) ?_
            obtain ⟨j, hj, e⟩ := List.mem_iff_getElem.mp m2
            have z := b2' j (by omega)
            rw [List.getD_eq_getElem?_getD, List.getElem?_eq_getElem hj, e] at z
            exact z
          rw [em']
          exact ⟨.int m, H, I.kept (t' := tk) hk2, ⟨t, rfl⟩, p.ret sr VR.i⟩
      · exact p.elim
    · exact cr_maxLI hK hc pins s σ H xs us Q I rs ⟨φ, h, σ', _, sr, r, p⟩
  · exact p.elim
end
end EV
namespace EV
open PySem PySem.Spec PyProof.Rows L2 RZ
def eqDI : G2 := fun x y h => match dctO h x, dctO h y with
  | some (ks, _), some (ks2, _) => if allKA ks = true ∧ allKA ks2 = true ∧ (ks.isEmpty || ks2.isEmpty) = true then .ok (.bl (ks.isEmpty && ks2.isEmpty)) h else .no
  | _, _ => eqI x y h
def neDI : G2 := fun x y h => match dctO h x, dctO h y with
  | some (ks, _), some (ks2, _) => if allKA ks = true ∧ allKA ks2 = true ∧ (ks.isEmpty || ks2.isEmpty) = true then .ok (.bl (!(ks.isEmpty && ks2.isEmpty))) h else .no
  | _, _ => neI x y h
section
variable {X : Cx} {P : Par} {W : WX}
theorem dct_two {pins : List (Addr × Obj)} {σ : L2.St} {H : Hp} {s : Shared} {φ : List Addr} {h : IH} (I : Inv X pins σ H s) (hw : X.w = P.w) (sr : SR P φ H h) {x y : IV} {v u : V} {ks us ks2 us2 : List IV} (ra : VR P φ H x v) (rb : VR P φ H y u) (e1 : dctO h x = some (ks, us)) (e2 : dctO h y = some (ks2, us2))
    (c : allKA ks = true ∧ allKA ks2 = true ∧ (ks.isEmpty || ks2.isEmpty) = true) : ∃ a b xs xs2, v = .ref a ∧ u = .ref b ∧ (a == sysModules) = false ∧ (b == sysModules) = false ∧ s.heap.DictOf (AK X) a xs ∧ s.heap.DictOf (AK X) b xs2 ∧ (xs.length == xs2.length) = (ks.isEmpty && ks2.isEmpty) ∧ (xs.length = xs2.length → xs = []) := by
  obtain ⟨a, o, es, rfl, hp, k1, k2, k3⟩ := dctO_ok sr ra e1
  obtain ⟨b, o2, es2, rfl, hb, j1, j2, j3⟩ := dctO_ok sr rb e2
  obtain ⟨xs1, d1, g1, g2, g3, g4⟩ := dict_atom I hw hp k1 k3 c.1
  obtain ⟨xs2, d2, f1, f2, f3, f4⟩ := dict_atom I hw hb j1 j3 c.2.1
  have l1 : es.length = xs1.length := by have := Paired.length g3; simpa [convA] using this
  have l2 : es2.length = xs2.length := by have := Paired.length f3; simpa [convA] using this
  have m1 : ks.length = es.length := by have := k1.len'; simpa using this
  have m2 : ks2.length = es2.length := by have := j1.len'; simpa using this
  have n1 : xs1.length = ks.length := by omega
  have n2 : xs2.length = ks2.length := by omega
  refine ⟨a, b, xs1, xs2, rfl, rfl, g1, f1, d1, d2, ?_, fun z => ?_⟩
  · rw [n1, n2]
    have := c.2.2
    cases ks <;> cases ks2 <;> simp at this ⊢
  · have cc := c.2.2
    have z0 : xs1.length = 0 := by
      rcases Bool.or_eq_true_iff.mp cc with q | q
      · rw [n1, List.isEmpty_iff.mp q]; rfl
      · rw [z, n2, List.isEmpty_iff.mp q]; rfl
    exact List.length_eq_zero_iff.mp z0
theorem op_eqDI (hK : X.K = P.K) (hw : X.w = P.w) (hu : X.A.units + 64 < cLine) : OpR X (compareOp .Eq) (rG P W eqDI) := by
  intro pins s σ H x y v u Q I rx ry ⟨φ, h, σ', va, vb, sr, ra, rb, p⟩
  unfold eqDI at p
  split at p
  · rename_i ks us ks2 us2 e1 e2
    split at p
    · rename_i c
      obtain ⟨a, b, xs, xs2, rfl, rfl, g1, f1, d1, d2, n1, n2⟩ := dct_two I hw sr ra rb e1 e2 c
      cases (show v = Value.ref a from rx)
      cases (show u = Value.ref b from ry)
      refine PySem.W.keq_eq (knd := AK X) (r := true) g1 f1 d1 d2 (by omega) (fun z => ?_) ⟨.bl _, H, I, rfl, p.ret sr ?_⟩
      · rw [n2 z]; exact .nil
      · rw [n1, Bool.and_true]; exact VR.b
    · exact p.elim
  · exact op_eqI hK hu pins s σ H x y v u Q I rx ry ⟨φ, h, σ', va, vb, sr, ra, rb, p⟩
theorem op_neDI (hK : X.K = P.K) (hw : X.w = P.w) (hu : X.A.units + 64 < cLine) : OpR X (compareOp .NotEq) (rG P W neDI) := by
  intro pins s σ H x y v u Q I rx ry ⟨φ, h, σ', va, vb, sr, ra, rb, p⟩
  unfold neDI at p
  split at p
  · rename_i ks us ks2 us2 e1 e2
    split at p
    · rename_i c
      obtain ⟨a, b, xs, xs2, rfl, rfl, g1, f1, d1, d2, n1, n2⟩ := dct_two I hw sr ra rb e1 e2 c
      cases (show v = Value.ref a from rx)
      cases (show u = Value.ref b from ry)
      refine PySem.W.keq_ne (knd := AK X) (r := true) g1 f1 d1 d2 (by omega) (fun z => ?_) ⟨.bl _, H, I, rfl, p.ret sr ?_⟩
      · rw [n2 z]; exact .nil
      · rw [n1, Bool.and_true]; exact VR.b
    · exact p.elim
  · exact op_neI hK hu pins s σ H x y v u Q I rx ry ⟨φ, h, σ', va, vb, sr, ra, rb, p⟩

def mulDI : G2 := fun x y h => match x, y with
  | .tup xs, .int k => if xs ≠ [] ∧ 2 ≤ k ∧ k ≤ 1000 ∧ xs.length ≤ 1000 then .ok (.tup (List.replicate k.toNat xs).flatten) h else .no
  | _, _ => mulI x y h
theorem VRs.rep {φ : List Addr} {H : Hp} {xs : List IV} {vs : List V} (r : VRs P φ H xs vs) : ∀ n, VRs P φ H (List.replicate n xs).flatten (List.replicate n vs).flatten
  | 0 => VRs.nil
  | n + 1 => by rw [List.replicate_succ, List.replicate_succ, List.flatten_cons, List.flatten_cons]; exact VRs.append r (VRs.rep r n)
theorem op_mulDI (hK : X.K = P.K) : OpR X (binaryOp .Mult) (rG P W mulDI) := by
  intro pins s σ H x y v u Q I rx ry ⟨φ, h, σ', va, vb, sr, ra, rb, p⟩
  unfold mulDI at p
  split at p
  · rename_i xs k
    split at p
    · rename_i c
      obtain ⟨a, vs, rfl, h1, r1⟩ := ra.tupI
      rw [VR] at rb; subst rb
      refine op_repT pins s σ H _ _ v u Q I rx ry ⟨a, k, vs, rfl, rfl, by rw [hK]; exact h1, fun z => c.1 ?_, c.2.1, c.2.2.1, by rw [r1.length]; exact c.2.2.2, fun t ht => p.newTup sr (r1.rep _) ht⟩
      rw [z] at r1
      cases xs with
      | nil => rfl
      | cons x xs => rw [VRs] at r1; obtain ⟨_, _, z, _⟩ := r1; cases z
    · exact p.elim
  · exact op_mulI pins s σ H x y v u Q I rx ry ⟨φ, h, σ', va, vb, sr, ra, rb, p⟩
end
end EV

namespace EV
open PySem PySem.Spec PyProof.Rows L2 RZ
section
variable {prog : Program} {w : World} {A : Around} {E : Value → Shared → Prop} {s : Shared}
theorem pick_rev (xs : Array Value) : ((List.range xs.size).filterMap fun (k : Nat) => xs[(((xs.size : Int) - 1) + (k : Int) * (-1)).toNat]?).toArray = xs.toList.reverse.toArray := by
  have e := PySem.W.krv_pick xs
  unfold slicePick at e
  rw [PySem.W.krv_bounds] at e
  have e2 : sliceRange ((xs.size : Int) - 1) (-1) (-1) = (List.range xs.size).map fun k => xs.size - 1 - k := PySem.W.krv_sliceRange _
  rw [show (((xs.size : Int) - 1, -1, -1) : Int × Int × Int) = ((xs.size : Int) - 1, -1, -1) from rfl] at e
  dsimp only at e
  rw [e2, List.filterMap_map] at e
  rw [← e]
  congr 1
  have fc : ∀ (l : List Nat) (f g : Nat → Option Value), (∀ k ∈ l, f k = g k) → l.filterMap f = l.filterMap g := fun l f g h => by
    induction l with
    | nil => rfl
    | cons a l ih => rw [List.filterMap_cons, List.filterMap_cons, h a List.mem_cons_self, ih fun k hk => h k (List.mem_cons_of_mem _ hk)]
  refine fc _ _ _ fun k hk => ?_
  have := List.mem_range.mp hk
  have e3 : (((xs.size : Int) - 1) + (k : Int) * (-1)).toNat = xs.size - 1 - k := by omega
  rw [e3]; rfl
theorem places_rev (n : Nat) : Builtin.Slice.slicePlaces ((n : Int) - 1) (-1) (-1) = n := by
  unfold Builtin.Slice.slicePlaces
  rw [if_neg (by decide), show (-(-1) : Int) = 1 from rfl, Int.ediv_one]
  split <;> omega
theorem applied_rev {sl : Addr} {vl vu vs : Value} {n : Nat} {Q : Int × Int × Nat → Shared → Prop} (hs : s.heap.IsSliceOf sl vl vu vs) (pl : IsPart vl none) (pu : IsPart vu none) (ps : IsPart vs (some (-1)))
    (h : Q ((n : Int) - 1, -1, n) s) : wpAny (model prog w) A (Builtin.Slice.sliceApplied (.ref sl) (pure (n : Int))) Q E s := by
  obtain ⟨os, hos, hcs, hds⟩ := id hs
  unfold Builtin.Slice.sliceApplied Builtin.Slice.sliceFields
  refine wpAny_bind (wpAny_bind (wpAny_field hos hds (x := vl) rfl (wpAny_bind (wpAny_field hos hds (x := vu) rfl (wpAny_bind (wpAny_field hos hds (x := vs) rfl (wpAny_pure ?_)))))))
  refine wpAny_bind (HT.slicePart_ ps ?_)
  show wpAny _ _ (if ((-1 : Int) == 0) = true then _ else _) _ _ s
  rw [if_neg (by decide)]
  refine wpAny_bind (HT.slicePart_ pl (wpAny_bind (HT.slicePart_ pu (wpAny_bind (wpAny_pure ?_)))))
  show wpAny _ _ (pure ((n : Int) - 1, (-1 : Int), Builtin.Slice.slicePlaces ((n : Int) - 1) (-1) (-1))) _ _ s
  rw [places_rev]
  exact wpAny_pure h
theorem getItem_tuple_rev {t sl : Addr} {items : Array Value} {vl vu vs : Value} {Q : Value → Shared → Prop} (ht : IsTup s.heap t items) (hs : s.heap.IsSliceOf sl vl vu vs) (pl : IsPart vl none) (pu : IsPart vu none) (ps : IsPart vs (some (-1)))
    (h : Q (.ref s.heap.objs.size) { s with heap := s.heap.push { cls := .type "tuple", data := .seq items.toList.reverse.toArray } })
    (hsz : items.size ≤ sizeLine) : wpAny (model prog w) A (getItem (.ref t) (.ref sl)) Q E s := by
  obtain ⟨os, hos, hcs, hds⟩ := id hs
  have hTs : s.TypeIs (.ref sl) "slice" := ⟨os, hos, hcs⟩
  have fit : sizeOk (.seq items.toList.reverse.toArray) := by
    show items.toList.reverse.toArray.size ≤ sizeLine
    simpa using hsz
  unfold getItem
  try with_reducible refine wpAny_holding ?_
  first | refine wpAny_bind (wpAny_pure ?_) | skip
  refine wpAny_bind (wpAny_sequenceKey ht.typeIs (by decide) ?_)
  refine wpAny_bind (wpAny_callSpecial?_slot (name := Str.ofString "__getitem__") ht.typeIs PyProof.Rows.slot_tuple_getitem
    (wpAny_call_entry PyProof.Rows.slot_tuple_getitem ht.typeIs entry_tuple_getitem ?_ (args_tuple_getitem _ _)))
  show wpAny _ _ (Builtin.Tuple.tupleItemsOf (.ref t) >>= _) _ _ s
  refine wpAny_bind (tupleItemsOf_ ht ?_)
  refine wpAny_bind (wpAny_typeOf hTs ?_)
  rw [if_pos (by decide)]
  refine wpAny_bind (applied_rev hs pl pu ps ?_)
  show wpAny _ _ (if (((items.size : Int) - 1) == 0 && (-1 : Int) == 1 && items.size == items.size) = true then _ else _) _ _ s
  rw [if_neg (by rw [show ((-1 : Int) == 1) = false from rfl, Bool.and_false, Bool.false_and]; exact Bool.false_ne_true), pick_rev]
  first
    | exact wpAny_bind (m := Builtin.Tuple.tupleExact _) (wpAny_newObj_type (wpAny_pure ⟨_, rfl, wpAny_pure h⟩) fit)
    | exact wpAny_bind (m := Builtin.Tuple.tupleExact _) (wpAny_newObj_type (wpAny_bind (wpAny_pure (wpAny_pure ⟨_, rfl, wpAny_pure h⟩))) fit)
    | exact wpAny_bind (wpAny_bind (m := Builtin.Tuple.tupleExact _) (wpAny_newObj_type (wpAny_pure (wpAny_pure ⟨_, rfl, wpAny_pure h⟩)) fit))
    | exact wpAny_bind (wpAny_bind (m := Builtin.Tuple.tupleExact _) (wpAny_newObj_type (wpAny_pure ⟨_, rfl, wpAny_pure h⟩) fit))
end
section
variable {X : Cx} {P : Par} {W : WX}
theorem PE.or2 {e : Expr} {t1 t2 : TE} (h1 : PE X e t1) (h2 : PE X e t2) : PE X e (fun σ H R => t1 σ H R ∨ t2 σ H R) := ⟨fun pins s σ H R I h => by
  rcases h with h | h
  · exact h1.run pins s σ H R I h
  · exact h2.run pins s σ H R I h⟩
def tRevT (K : PySem.W.Frag) (te : TE) : TE := fun σ H Q => te σ H fun x H1 => ∃ a xs, x = .ref a ∧ SqT K H1 a xs ∧ ∀ p, H1 p = none → Q (.ref p) (upd H1 p (.tup xs.reverse))
theorem pe_revT {e : Expr} {te : TE} {k : Nat} {p1 p2 p3 pos : Pos} (he : PE X e te) : PE X (.Subscript e (.Slice none none (some (.UnaryOp .USub (.Constant (.int 1) k p1) p2)) p3) pos) (tRevT X.K te) := by
  refine ⟨fun pins s σ H Q I h => ?_⟩
  refine Subscript_ (thn (he.run pins s σ H _ I h) fun v s1 ⟨x, H1, I1, r1, a, xs, ex, hx, q⟩ => ?_)
  subst ex
  cases (show v = Value.ref a from r1)
  have one : PO X (some (.UnaryOp .USub (.Constant (.int 1) k p1) p2)) (tPart (tUn (rU fun i => .int (-i)) (tC (.int 1)))) := po_some (pe_un un_neg pe_int)
  refine wpAny_Slice (thn (po_none.run pins s1 σ H1 (fun o H2 => o = none ∧ H2 = H1) I1 ⟨rfl, rfl⟩) fun vl s2 ⟨l, H2, I2, pl, el, e2⟩ => ?_)
  subst el e2
  refine thn (po_none.run pins s2 σ H2 (fun o H3 => o = none ∧ H3 = H2) I2 ⟨rfl, rfl⟩) fun vu s3 ⟨u, H3, I3, pu, eu, e3⟩ => ?_
  subst eu e3
  refine thn (one.run pins s3 σ H3 (fun o H4 => o = some (-1) ∧ H4 = H3) I3 ⟨1, rfl, -1, rfl, rfl, rfl⟩) fun vs s4 ⟨o, H4, I4, ps, eo, e4⟩ => ?_
  subst eo e4
  have I5 : Inv X pins σ H4 { s4 with heap := s4.heap.push { cls := .type "slice", data := .fields #[vl, vu, vs] } } := I4.kept (t' := s4.toks) fun b ob q => Heap.get?_push_of_some _ q
  obtain ⟨its, r, ht, hz⟩ := I5.tuple hx
  have hlen := r.length
  show wpAny (model X.prog X.w) X.A (subscriptTail e (.Slice none none (some (.UnaryOp .USub (.Constant (.int 1) k p1) p2)) p3) (.ref a) (.ref s4.heap.objs.size)) (EP X pins σ Q) X.xe { s4 with heap := s4.heap.push { cls := .type "slice", data := .fields #[vl, vu, vs] } }
  refine tail_any (ops := [.ref a, .ref s4.heap.objs.size]) ht.typeIs (PyProof.Rows.slot_tuple_getitem.lookup) ?_ (by with_unfolding_all rfl)
  refine getItem_tuple_rev ht (Heap.IsSliceOf.new _ vl vu vs) pl pu ps ?_ (by rw [List.size_toArray]; omega)
  refine ⟨.ref _, _, I5.laid (t' := s4.toks) (o := .tup xs.reverse) (fun b ob q => Heap.get?_push_of_some _ q) (Nat.le_refl _) ?_, rfl, q _ (I5.hok.fresh (Nat.le_refl _))⟩
  exact ⟨by rw [List.length_reverse]; exact hz, _, r.reverse, IsTup.new _ _⟩
def revM : IV → M IV := fun v h => match v with
  | .tup xs => .ok (.tup xs.reverse) h
  | v => match lsR h v with
    | some xs => .ok (.lst xs.reverse) h
    | none => .no
def revE (fa : IE → M IV) : IE → M IV := fun σ h => (fa σ h).bind revM
theorem pe_revI {e : Expr} {fa : IE → M IV} {k : Nat} {p1 p2 p3 pos : Pos} (hK : X.K = P.K) (he : PE X e (tE P W fa)) : PE X (.Subscript e (.Slice none none (some (.UnaryOp .USub (.Constant (.int 1) k p1) p2)) p3) pos) (tE P W (revE fa)) := PE.weak (PE.or2 (pe_revT he) (pe_revL he)) fun σ H R hq => by
  obtain ⟨φ, h, σi, s, se, p⟩ := hq
  unfold revE at p
  cases e : fa σi h with
  | ok v h1 =>
    simp only [e, Out.bind] at p
    unfold revM at p
    split at p
    · refine .inl ⟨φ, h, σi, s, se, ?_⟩
      rw [e]
      intro φ' H' x ex s' r
      obtain ⟨a, vs, rfl, h2, r1⟩ := r.tupI
      exact ⟨a, vs, rfl, by rw [hK]; exact h2, fun t ht => (Post.ext p ex).newTup s' r1.reverse ht⟩
    · split at p
      · rename_i xs el
        refine .inr ⟨φ, h, σi, s, se, ?_⟩
        rw [e]
        intro φ' H' x ex s' r
        obtain ⟨a, vs, rfl, h2, r1⟩ := s'.lsR r el
        exact ⟨a, vs, rfl, by rw [hK]; exact h2, fun t ht => (Post.ext p ex).newLst s' r1.reverse ht⟩
      · exact p.elim
  | ex v h1 => exact .inl ⟨φ, h, σi, s, se, by rw [e]; simp only [e, Out.bind] at p; exact p⟩
  | no => simp only [e, Out.bind] at p; exact p.elim
end
end EV
namespace EV
open PySem PySem.Spec PyProof.Rows L2 RZ

abbrev set0 (w : World) : Obj := { cls := .type "set", dict := none, data := .set #[] 0 (.fresh 0 0 (!w.params.followText "set-order")) }
abbrev setH (w : World) (h : Heap) (l : Addr) : Heap := (h.push (set0 w)).push { cls := .type "list_iterator", data := .fields #[.ref l, .int 0 0] }
section
variable {P : Program} {w : World} {A : Around} {E : Value → Shared → Prop} {s : Shared}
/-- set(l): what the loop has done -/
theorem set_shell {l : Addr} {items : Array Value} {N : Heap → Nat → Prop} {Q : Value → Shared → Prop} (hl : s.heap.IsList l items)
    (loop : ∀ (A' : Around) (R : Result → Shared → Prop), A'.handled = A.handled → (∀ h' tk, N h' tk → R (.ok (.ret .none)) { s with heap := h', toks := tk }) →
      codeAny (model P w) A' (.builtin "set.update.loop" ⟨[.ref s.heap.objs.size, .ref (s.heap.push (set0 w)).objs.size], []⟩) R { s with heap := setH w s.heap l })
    (h : ∀ h' tk, N h' tk → Q (.ref s.heap.objs.size) { s with heap := h', toks := tk }) : wpAny (model P w) A (call (.type "set") [.ref l]) Q E s := by
  obtain ⟨c, tl, hmro⟩ := F.called_set.mro
  have hmade := F.called_set.made
  have hsub := F.called_set.sub
  refine wpAny_call (codeAny_of_tree ?_)
  show wpAny _ _ (callAny (.type "set") _) _ _ _
  refine wpAny_pure ⟨Code.quiet_builtin _ (by decide +kernel), codeAny_builtin F.entry_type_call ?_⟩
  rw [Around.under_plain (weight_type_call_type "set" [.ref l] []) rfl]
  have h1 := F.called_set.notType
  have h2 := F.called_set.canCreate
  have hct := F.typeCall_set_1 (.ref l)
  repeat (any_goals (first | assumption | wp_step))
  refine codeAny_mono (code_set_led1 (.ref l) (E := E) (Q₁ := fun obj s₁ => obj = .ref s.heap.objs.size ∧ s₁ = { s with heap := s.heap.push (set0 w) }) ⟨rfl, rfl⟩) fun r s₁ hr => ?_
  cases r with
  | error e => exact hr
  | ok fl =>
    cases fl with
    | ret obj =>
      obtain ⟨rfl, rfl⟩ := hr
      have hS : (s.heap.push (set0 w)).get? s.heap.objs.size = some (set0 w) := Heap.get?_push_size _ rfl
      have hT : Shared.TypeIs { s with heap := s.heap.push (set0 w) } (.ref s.heap.objs.size) "set" := ⟨_, hS, rfl⟩
      have hli := F.called_set.init.lookup
      have hbi := F.called_set.init.bind (.ref s.heap.objs.size)
      repeat (any_goals (first | assumption | wp_step))
      refine codeAny_mono (codeAny_call_builtin (R := wants (fun r s₂ => r = .none ∧ ∃ h' tk, s₂ = { s with heap := h', toks := tk } ∧ N h' tk) E) F.called_set.init.plain F.entry_set_init (check_set_init_1 hT ?_)) fun r₂ s₂ hr₂ => ?_
      · obtain ⟨⟨ocls, odict, odata, oslots⟩, hol, hcl, nl, hdl⟩ := hl
        simp only at hcl hdl
        subst hcl; subst hdl
        have hol' : (s.heap.push (set0 w)).get? l = some { cls := .type "list", dict := odict, data := .seq items nl, slots := oslots } := Heap.get?_push_of_some _ hol
        have hsls := F.sub_list_set
        have hslf := F.sub_list_frozenset
        have hne : (Value.type "list" == Value.type "dict") = false := by decide
        have hl1 : (s.heap.push (set0 w)).IsList l items := ⟨_, hol', rfl, nl, rfl⟩
        unfold Builtin.«set.__init__» noKeywords Builtin.Frozenset.updateFrom
        generalize hPI : pyIter = PI
        wp_walk
        subst hPI
        refine wpAny_pyIter_list hl1 ?_
        refine wpAny_bind (wpAny_runValue ?_)
        refine loop _ _ (by simp) fun h' tk n => ?_
        show wpAny _ _ _ _ _ _
        refine wpAny_pure ?_
        show wpAny _ _ (ret Value.none) _ _ _
        exact wpAny_pure ⟨rfl, h', tk, rfl, n⟩
      · cases r₂ with
        | error e => exact hr₂
        | ok fl₂ =>
          cases fl₂ with
          | ret r =>
            obtain ⟨rfl, h', tk, rfl, n⟩ := hr₂
            repeat (any_goals (first | assumption | wp_step))
            exact h _ _ n
          | _ => exact hr₂.elim
    | _ => exact hr.elim
theorem call_set_ints {l : Addr} {items : Array Value} (ns : List Int) {Q : Value → Shared → Prop} (hh : A.handled = none) (hl : s.heap.IsList l items) (hit : IntsAre items.toList ns) (hb : ns.length + 1 < scanBound)
    (h : ∀ (h' : Heap) (tk c : Nat), SetR w h' s.heap.objs.size (fun j => decide (j ∈ ns)) c → c ≤ ns.length → (∀ b o, s.heap.get? b = some o → h'.get? b = some o) → Q (.ref s.heap.objs.size) { s with heap := h', toks := tk }) :
    wpAny (model P w) A (call (.type "set") [.ref l]) Q E s := by
  have hisz : items.size = ns.length := by
    have q := IntsAre.length hit
    rw [Array.length_toList] at q
    exact q
  have hol : ∃ o, s.heap.get? l = some o := let ⟨o, q, _⟩ := hl; ⟨o, q⟩
  obtain ⟨ol, hol⟩ := hol
  have hlS : l < s.heap.objs.size := Heap.lt_size hol
  have hl1 : (s.heap.push (set0 w)).IsList l items := hl.at fun o e => Heap.get?_push_of_some _ e
  refine set_shell (N := fun h' tk => ∃ c, SetR w h' s.heap.objs.size (fun j => decide (j ∈ ns)) c ∧ c ≤ ns.length ∧ ∀ b o, s.heap.get? b = some o → h'.get? b = some o) hl (fun A' R hA hR => ?_) fun h' tk ⟨c, h1, h2, h3⟩ => h h' tk c h1 h2 h3
  have hneI : l ≠ (s.heap.push (set0 w)).objs.size := by
    rw [Heap.size_push]; exact Nat.ne_of_lt (Nat.lt_succ_of_lt hlS)
  have hSf : s.heap.objs.size ∉ [(s.heap.push (set0 w)).objs.size, l] := by
    rw [Heap.size_push]; simp only [List.mem_cons, List.mem_singleton, List.not_mem_nil, or_false, not_or]
    exact ⟨Nat.ne_of_lt (Nat.lt_succ_self _), Nat.ne_of_gt hlS⟩
  have hval : ∀ (i : Nat) (v : Value), items[i]? = some v → ∃ k t, ns[i]? = some k ∧ v = .int k t := fun i v hv => by
    have hi : i < ns.length := by rw [← hisz]; exact (Array.getElem?_eq_some_iff.mp hv).1
    obtain ⟨t, e⟩ := PyProof.Rows.IntsAre.int_at hit i v (by rw [Array.getElem?_toList]; exact hv)
    refine ⟨ns[i], t, List.getElem?_eq_getElem hi, ?_⟩
    rw [e, List.getD_eq_getElem?_getD, List.getElem?_eq_getElem hi] <;> rfl
  have hget : (setH w s.heap l).get? s.heap.objs.size = some (set0 w) := Heap.get?_push_of_some _ (Heap.get?_push_size _ rfl)
  refine set_update_ints ((Walks.list (show A'.in1.handled = none by simp [hA, hh]) _ l hneI items).toS) s.heap.objs.size hSf ns hisz hb hval (items.size - 0) 0 _ (by omega) (Nat.zero_le _)
    ⟨⟨_, Heap.get?_push_size _ rfl, rfl, rfl⟩, hl1.push _⟩ ⟨0, Nat.le_refl 0, setR_new_at hget⟩ fun s' c hm hc hS => ?_
  obtain ⟨h', g2, d', tk', os'⟩ := s'
  have eg : g2 = s.gens := hm.gens
  have ed : d' = s.drawn := hm.drawn
  have eo : os' = s.os := hm.os
  subst eg; subst ed; subst eo
  rw [hisz] at hc
  refine hR h' tk' ⟨c, hS, hc, fun b o e => ?_⟩
  have hb0 : b < s.heap.objs.size := Heap.lt_size e
  have hb2 : b ≠ (s.heap.push (set0 w)).objs.size := by
    rw [Heap.size_push]; exact Nat.ne_of_lt (Nat.lt_succ_of_lt hb0)
  exact hm.heap b o (by simp only [List.mem_cons, List.mem_singleton, List.not_mem_nil, or_false, not_or]; exact ⟨Nat.ne_of_lt hb0, hb2⟩) (Heap.get?_push_of_some _ (Heap.get?_push_of_some _ e))
end
end EV
namespace EV
open PySem PySem.Spec PyProof.Rows L2 RZ

def tupInts : IV → Option (List Int)
  | .tup xs => mapO inO xs
  | _ => none
def tupOf (ns : List Int) : IV := .tup (ns.map .int)
/-- each once -/
def ddL {α : Type} [DecidableEq α] : List α → List α
  | [] => []
  | x :: xs => if x ∈ ddL xs then ddL xs else x :: ddL xs
theorem ddL_mem {α : Type} [DecidableEq α] {a : α} : ∀ {l : List α}, a ∈ ddL l ↔ a ∈ l
  | [] => Iff.rfl
  | x :: xs => by
    unfold ddL
    have ih := ddL_mem (a := a) (l := xs)
    split
    · rename_i h
      rw [ih, List.mem_cons]
      refine ⟨.inr, fun k => k.elim (fun z => ?_) id⟩
      rw [z]; exact ddL_mem.mp h
    · rw [List.mem_cons, List.mem_cons, ih]
theorem ddL_nodup {α : Type} [DecidableEq α] : ∀ (l : List α), (ddL l).Nodup
  | [] => List.nodup_nil
  | x :: xs => by
    unfold ddL
    split
    · exact ddL_nodup xs
    · rename_i h
      exact List.nodup_cons.mpr ⟨h, ddL_nodup xs⟩
def sortNI (ns : List Int) : List Int := (ddL ns).mergeSort fun a b => decide (a ≤ b)
def sortTI (ks : List (List Int)) : List (List Int) := (ddL ks).mergeSort fun a b => decide (a ≤ b)
/-- sorted(set(x)) -/
def ssetI : RM := fun xs h => match xs with
  | [v] => match lsR h v with
    | some ys => if ys.length < 64 then (match mapO inO ys with
      | some ns => .ok (.lst ((sortNI ns).map .int)) h
      | none => match mapO tupInts ys with
        | some ks => if sortOk h ys = true then .ok (.lst ((sortTI ks).map tupOf)) h else .no
        | none => .no) else .no
    | none => .no
  | _ => .no
theorem mapO_ints : ∀ {xs : List IV} {ns : List Int}, mapO inO xs = some ns → xs = ns.map .int
  | [], _, e => by simp only [mapO] at e; cases e; rfl
  | x :: xs, _, e => by
    obtain ⟨y, ys, h1, h2, rfl⟩ := mapO_cons e
    rw [mapO_ints h2]
    cases x <;> simp [inO] at h1
    subst h1; rfl
theorem tupInts_ok {x : IV} {ns : List Int} (e : tupInts x = some ns) : x = tupOf ns := by
  unfold tupInts at e
  split at e
  · rw [mapO_ints e]; rfl
  · cases e
theorem mapO_tups : ∀ {xs : List IV} {ks : List (List Int)}, mapO tupInts xs = some ks → xs = ks.map tupOf
  | [], _, e => by simp only [mapO] at e; cases e; rfl
  | x :: xs, _, e => by
    obtain ⟨y, ys, h1, h2, rfl⟩ := mapO_cons e
    rw [mapO_tups h2, tupInts_ok h1]; rfl
theorem sortNI_eq {ns ms : List Int} (h1 : ms.Pairwise (· < ·)) (h2 : ∀ k, k ∈ ms ↔ k ∈ ns) : sortNI ns = ms := by
  have p1 : (sortNI ns).Perm (ddL ns) := List.mergeSort_perm _ _
  have nd : ms.Nodup := h1.imp fun h => Int.ne_of_lt h
  have p2 : (ddL ns).Perm ms := (List.perm_ext_iff_of_nodup (ddL_nodup ns) nd).mpr fun a => by rw [ddL_mem, h2]
  refine List.Perm.eq_of_pairwise (le := fun a b => a ≤ b) (fun a b _ _ h k => Int.le_antisymm h k) ?_ (h1.imp Int.le_of_lt) (p1.trans p2)
  have := List.pairwise_mergeSort (le := fun a b : Int => decide (a ≤ b)) (fun a b c h k => by simp at h k ⊢; omega) (fun a b => by simp; omega) (ddL ns)
  exact this.imp fun h => of_decide_eq_true h
theorem sortT_perm {ks ls : List (List Int)} (p : ks.Perm ls) : ks.mergeSort (fun a b => decide (a ≤ b)) = ls.mergeSort (fun a b => decide (a ≤ b)) := by
  have tr : ∀ a b c : List Int, decide (a ≤ b) = true → decide (b ≤ c) = true → decide (a ≤ c) = true := fun a b c h k => by
    simp at h k ⊢; exact List.le_trans h k
  have to : ∀ a b : List Int, (decide (a ≤ b) || decide (b ≤ a)) = true := fun a b => by
    have := List.le_total a b
    simpa using this
  have s1 := List.pairwise_mergeSort (le := fun a b : List Int => decide (a ≤ b)) tr to ks
  have s2 := List.pairwise_mergeSort (le := fun a b : List Int => decide (a ≤ b)) tr to ls
  exact List.Perm.eq_of_pairwise (le := fun a b => decide (a ≤ b) = true) (fun a b _ _ h k => List.le_antisymm (of_decide_eq_true h) (of_decide_eq_true k)) s1 s2 (((List.mergeSort_perm _ _).trans p).trans (List.mergeSort_perm _ _).symm)
theorem sortTI_eq {ks ls : List (List Int)} (nd : ls.Nodup) (h : ∀ k, k ∈ ls ↔ k ∈ ks) : sortTI ks = ls.mergeSort (fun a b => decide (a ≤ b)) :=
  sortT_perm ((List.perm_ext_iff_of_nodup (ddL_nodup ks) nd).mpr fun a => by rw [ddL_mem, h])
/-- a part of what can be sorted -/
theorem mapO_some {α β : Type} {f : α → Option β} : ∀ {xs : List α}, (∀ x ∈ xs, ∃ y, f x = some y) → ∃ ys, mapO f xs = some ys ∧ ∀ y ∈ ys, ∃ x ∈ xs, f x = some y
  | [], _ => ⟨[], rfl, by simp⟩
  | x :: xs, h => by
    obtain ⟨y, e⟩ := h x List.mem_cons_self
    obtain ⟨ys, h1, h2⟩ := mapO_some fun z hz => h z (List.mem_cons_of_mem _ hz)
    refine ⟨y :: ys, by simp only [mapO, e, h1], fun w hw => ?_⟩
    rcases List.mem_cons.mp hw with rfl | hw
    · exact ⟨x, List.mem_cons_self, e⟩
    · obtain ⟨z, h3, h4⟩ := h2 w hw
      exact ⟨z, List.mem_cons_of_mem _ h3, h4⟩
theorem sortOk_sub {h : IH} {xs ys : List IV} (hs : ∀ x ∈ xs, x ∈ ys) (e : sortOk h ys = true) : sortOk h xs = true := by
  unfold sortOk at e
  split at e
  · rename_i ds eq
    obtain ⟨e1, e2⟩ := Bool.and_eq_true_iff.mp e
    obtain ⟨_, q⟩ := mapO_all eq
    obtain ⟨ds', h1, h2⟩ := mapO_some (f := dat h DEEP) (xs := xs) fun x hx => let ⟨y, h3, _⟩ := q x (hs x hx); ⟨y, h3⟩
    have sub : ∀ d ∈ ds', d ∈ ds := fun d hd => by
      obtain ⟨x, hx, h3⟩ := h2 d hd
      obtain ⟨y, h4, h5⟩ := q x (hs x hx)
      rw [h3] at h4; cases h4; exact h5
    unfold sortOk
    rw [h1]
    refine Bool.and_eq_true_iff.mpr ⟨List.all_eq_true.mpr fun d hd => List.all_eq_true.mpr fun d' hd' => List.all_eq_true.mp (List.all_eq_true.mp e1 d (sub d hd)) d' (sub d' hd'), ?_⟩
    rcases Bool.or_eq_true_iff.mp e2 with e2 | e2
    · exact Bool.or_eq_true_iff.mpr (.inl (List.all_eq_true.mpr fun d hd => List.all_eq_true.mp e2 d (sub d hd)))
    · exact Bool.or_eq_true_iff.mpr (.inr (List.all_eq_true.mpr fun d hd => List.all_eq_true.mp e2 d (sub d hd)))
  · cases e
/-- the order of tuples of ints -/
theorem dat_ints {h : IH} {n : Nat} : ∀ (ns : List Int), mapO (dat h n) (ns.map .int) = some (ns.map .int)
  | [] => rfl
  | x :: xs => by
    rw [List.map_cons, List.map_cons]
    simp only [mapO, dat_ints xs]
    cases n <;> rfl
theorem dkey_tup {h : IH} (ns : List Int) : dkey h (tupOf ns) = .tuple (ns.map .int) := by
  unfold dkey tupOf
  show (dat h (DEEP - 1 + 1) (.tup (ns.map .int))).getD .none = _
  rw [dat, dat_ints]; rfl
theorem leI_tup {h : IH} (a b : List Int) : leI h (tupOf a) (tupOf b) = decide (a ≤ b) := by
  unfold leI
  show (!PySem.W.dataLt (dkey h (tupOf b)) (dkey h (tupOf a))) = _
  rw [dkey_tup, dkey_tup, PySem.W.dataLt_tuple]
  have e := congrFun (congrFun (PySem.W.dataLe_rows (fun x : List Int => x)) a) b
  have e2 : (!PySem.W.dataLt (.list (b.map .int)) (.list (a.map .int))) = decide (a ≤ b) := e
  rw [PySem.W.dataLt_list] at e2
  exact e2
theorem sortL_tup {h : IH} (ks : List (List Int)) : sortL h (ks.map tupOf) = (ks.mergeSort fun a b => decide (a ≤ b)).map tupOf := by
  unfold sortL
  rw [List.map_mergeSort (s := leI h)]
  intro a _ b _
  exact (leI_tup a b).symm

section
variable {X : Cx} {P : Par} {W : WX}
theorem CallR.or {f : Value} {r r' : List V → Hp → VK → Prop} (h : CallR X f r) (h' : CallR X f r') : CallR X f (fun xs H Q => r xs H Q ∨ r' xs H Q) := fun pins s σ H xs us Q I rs q => by
  rcases q with q | q
  · exact h pins s σ H xs us Q I rs q
  · exact h' pins s σ H xs us Q I rs q
/-- set(xs) of ints -/
def rSetOfI (K : PySem.W.Frag) (w : World) : List V → Hp → VK → Prop := fun xs H Q => ∃ (l : Addr) (ns : List Int), xs = [V.ref l] ∧ SqL K H l (ns.map V.int) ∧ ns.length < 64 ∧ ∀ a c, H a = none → c < 64 → Q (.ref a) (upd H a (SetO w a (fun j => decide (j ∈ ns)) c))
theorem cr_setOfI (hc : X.calm = true) : CallR X (.type "set") (rSetOfI X.K X.w) := by
  intro pins s σ H xs us Q I r ⟨l, ns, ex, hl, hf, q⟩
  subst ex
  rw [Vals.ref1 r]
  obtain ⟨its, rv, pl, hz⟩ := I.list hl
  refine call_set_ints ns (I.ok.hd hc) pl.isList (by simpa using ints_of_vals rv) (by unfold scanBound; omega) fun h' tk c R hc k => ?_
  exact ⟨.ref s.heap.objs.size, upd H s.heap.objs.size (SetO X.w s.heap.objs.size (fun j => decide (j ∈ ns)) c), I.laid (t' := tk) k (Nat.le_refl _) (setO_new R), rfl, q _ c (I.hok.fresh (Nat.le_refl _)) (by omega)⟩
/-- sorted(s) of a set of tuples of ints -/
def rSortedTT (P : Par) (W : WX) (K : PySem.W.Frag) (pr : Program) (w : World) : List V → Hp → VK → Prop := fun vs H Q => ∃ (a : Addr) (L : List (Addr × List Int)) (φ : List Addr) (h : IH) (σ' : L2.St), vs = [V.ref a] ∧ H a = some (SetTO pr w a L) ∧ SR P φ H h ∧
  (∀ p ∈ L, SqT K H p.1 (p.2.map V.int)) ∧ sortOk h (L.map fun p => tupOf p.2) = true ∧ ((L.map (·.2)).Nodup → Post P W σ' φ H Q (.ok (.lst (((L.map (·.2)).mergeSort fun a b => decide (a ≤ b)).map tupOf)) h))
theorem vr_tupOf {φ : List Addr} {H : Hp} {a : Addr} {ns : List Int} (h : SqT P.K H a (ns.map V.int)) : VR P φ H (tupOf ns) (.ref a) := by
  unfold tupOf
  rw [VR]
  refine ⟨a, _, rfl, h, ?_⟩
  clear h
  induction ns with
  | nil => exact VRs.nil
  | cons n ns ih => exact VRs.cons VR.i ih
theorem cr_sortedTT (hK : X.K = P.K) (hc : X.calm = true) (hu : X.A.units + 65 < cLine) : CallR X (.builtin "sorted") (rSortedTT P W X.K X.prog X.w) := by
  intro pins s σ H vs us Q I r ⟨a, L, φ, h, σ', ex, ha, sr, hk, ok, p⟩
  subst ex
  have R0 : SetT0 X.prog X.w s.heap a L := (I.hok a _ ha).1
  obtain ⟨es, ep, t, R⟩ := R0.full fun p hp => I.isT (hk p hp)
  rw [Vals.ref1 r]
  obtain ⟨o, ho, hex, hd⟩ := R.ob
  have hsz := R.size
  have few := R.few
  refine Calls.call_function_entry kind_sorted plain_sorted entry_sorted (args_sorted1 _) ?_
  unfold Builtin.«sorted»
  refine wpAny_bind (m := checkCount "sorted" 1 1 _) (wpAny_pure ?_)
  refine wpAny_bind (collect_set (A := X.A.in1) (I.ok.hd hc) ⟨o, ho, hex.1, hd⟩ R.fits (by unfold scanBound; omega) R.tab.ris R.led fun s1 vs k1 hz g1 o1 pm => ?_)
  have hes : es.toList.map (·.2) = L.map fun q => Value.ref q.1 := by
    rw [R.rows]
    unfold rowsOf
    rw [List.map_map] <;> rfl
  rw [hes] at pm
  -- the values by their rows
  obtain ⟨L1, e1, p1⟩ : ∃ L1 : List (Addr × List Int), vs = L1.map (fun q => Value.ref q.1) ∧ L1.Perm L := by
    have gen : ∀ (ys xs : List Value), xs.Perm ys → ∀ L : List (Addr × List Int), ys = L.map (fun q => Value.ref q.1) → ∃ L1 : List (Addr × List Int), xs = L1.map (fun q => Value.ref q.1) ∧ L1.Perm L := by
      intro ys xs pm
      induction pm with
      | nil => intro L e; exact ⟨L, e, List.Perm.refl _⟩
      | cons x _ ih =>
        intro L e
        cases L with
        | nil => cases e
        | cons q L =>
          rw [List.map_cons] at e
          obtain ⟨e1, e2⟩ := List.cons.inj e
          obtain ⟨L1, h1, h2⟩ := ih L e2
          exact ⟨q :: L1, by rw [List.map_cons, ← h1, e1], h2.cons q⟩
      | swap x y l =>
        intro L e
        match L, e with
        | [], e => cases e
        | [_], e => cases e
        | q :: r :: L, e =>
          rw [List.map_cons, List.map_cons] at e
          obtain ⟨e1, e2⟩ := List.cons.inj e
          obtain ⟨e3, e4⟩ := List.cons.inj e2
          exact ⟨r :: q :: L, by rw [List.map_cons, List.map_cons, ← e4, e1, e3], List.Perm.swap q r L⟩
      | trans _ _ ih1 ih2 =>
        intro L e
        obtain ⟨L1, h1, h2⟩ := ih2 L e
        obtain ⟨L2, h3, h4⟩ := ih1 L1 h1
        exact ⟨L2, h3, h4.trans h2⟩
    exact gen _ _ pm L rfl
  have sub : ∀ q ∈ L1, q ∈ L := fun q hq => p1.mem_iff.mp hq
  have I1 : Inv X pins σ H s1 := I.call' (ch := []) o1 (Un.kept k1) (I.hok.kept k1) (by rw [g1]; exact I.bare) (fun _ z => nomatch z)
  have rr : VRs P φ H (L1.map fun p => tupOf p.2) (L1.map fun q => V.ref q.1) := by
    clear e1 p1
    induction L1 with
    | nil => exact VRs.nil
    | cons q L1 ih => exact VRs.cons (vr_tupOf (by rw [← hK]; exact hk q (sub q List.mem_cons_self))) (ih fun x hx => sub x (List.mem_cons_of_mem _ hx))
  have rv : Vals (L1.map fun q => V.ref q.1) vs := by rw [e1]; exact vals_of_refs L1
  have ok1 : sortOk h (L1.map fun p => tupOf p.2) = true := sortOk_sub (fun x hx => by
    obtain ⟨q, hq, rfl⟩ := List.mem_map.mp hx
    exact List.mem_map.mpr ⟨q, sub q hq, rfl⟩) ok
  have l1 : L1.length < 64 := by rw [p1.length_eq]; exact few
  have fit : (L1.map fun p => tupOf p.2).length ≤ sizeLine := by rw [List.length_map, sizeLine_eq]; omega
  have es1 : sortL h (L1.map fun p => tupOf p.2) = (((L.map (·.2)).mergeSort fun a b => decide (a ≤ b)).map tupOf) := by
    have : (L1.map fun p => tupOf p.2) = (L1.map (·.2)).map tupOf := by rw [List.map_map]; rfl
    rw [this, sortL_tup, sortT_perm (p1.map (·.2))]
  have pp := p R.nd
  rw [← es1] at pp
  refine wpAny_bind (wpAny_newList ?_ (by rw [e1, List.length_map, sizeLine_eq]; omega))
  refine wpAny_bind (wpAny_holding (wpAny_call_entry PyProof.Rows.slot_list_sort ⟨_, Heap.get?_push_size _ rfl, rfl⟩ PyProof.Rows.entry_list_sort
    (sorted_tail I1 hK hu sr rr rv ok1 fit (h' := s1.heap) (tk := s1.toks) (fun _ _ e => e) fun ws hp q1 q2 q3 q4 => ⟨_, rfl, ?_⟩) (PyProof.Rows.args_list_sort _)))
  exact wpAny_pure ⟨_, rfl, sorted_end I1 sr pp q1 (by rw [q2]; exact fit) q3 (Nat.le_refl _) q4⟩
end
end EV
namespace EV
open PySem PySem.Spec PyProof.Rows L2 RZ

theorem rows_of {P : Par} {φ : List Addr} {H : Hp} : ∀ {ks : List (List Int)} {us : List V}, VRs P φ H (ks.map tupOf) us → ∃ L : List (Addr × List Int), us = L.map (fun p => V.ref p.1) ∧ L.map (·.2) = ks ∧ ∀ p ∈ L, SqT P.K H p.1 (p.2.map V.int)
  | [], _, r => by rw [List.map_nil, VRs] at r; subst r; exact ⟨[], rfl, rfl, by simp⟩
  | k :: ks, _, r => by
    rw [List.map_cons, VRs] at r
    obtain ⟨v, t, rfl, r1, r2⟩ := r
    obtain ⟨L, h1, h2, h3⟩ := rows_of r2
    unfold tupOf at r1
    rw [VR] at r1
    obtain ⟨a, vs, rfl, q, rv⟩ := r1
    have ev : vs = k.map V.int := by
      refine ins_ok (bs := k) (xs := k.map .int) ?_ rv
      clear q rv h2 r2
      induction k with
      | nil => rfl
      | cons x xs ih => simp only [List.map_cons, mapO, inO, ih]
    subst ev
    refine ⟨(a, k) :: L, by rw [h1]; rfl, by rw [List.map_cons, h2], fun p hp => ?_⟩
    rcases List.mem_cons.mp hp with rfl | hp
    · exact q
    · exact h3 p hp
theorem vrs_ints {P : Par} {φ : List Addr} {H : Hp} : ∀ (ns : List Int), VRs P φ H (ns.map .int) (ns.map V.int)
  | [] => VRs.nil
  | n :: ns => VRs.cons VR.i (vrs_ints ns)
section
variable {X : Cx} {P : Par} {W : WX} {e : Expr} {p p2 pos pos2 : Pos} {fs : IE → M (List IV)}
theorem pe_ssetI (hK : X.K = P.K) (hw : X.w = P.w) (hc : X.calm = true) (hu : X.A.units + 65 < cLine) (hg : Gl X "sorted") (hm : X.mg "sorted" = none) (hb : bootBuiltins "sorted" = some (.builtin "sorted")) (hg2 : Gl X "set") (hm2 : X.mg "set" = none) (hb2 : bootBuiltins "set" = some (.type "set"))
    (ha : PA X [e] (tAr P W fs))
    (hs : starEach [.Call (.Name "set" p2) [e] [] pos2] X.env = (false, eval (.Call (.Name "set" p2) [e] [] pos2) X.env) :: starEach [] X.env) (hpl : (backTo pos (starEach [] X.env)).any (·.1) = false)
    (hs2 : starEach [e] X.env = (false, eval e X.env) :: starEach [] X.env) (hpl2 : (backTo pos2 (starEach [] X.env)).any (·.1) = false) :
    PE X (.Call (.Name "sorted" p) [.Call (.Name "set" p2) [e] [] pos2] [] pos) (tE P W (bltE ssetI fs)) :=
  PE.weak (pe_callB (CallR.or (cr_sortedSet hc) (cr_sortedTT hK hc hu)) hg hm hb (pa_cons (pe_callTy (CallR.or (cr_setOfI hc) (cr_setOfT hc (by omega))) hg2 hm2 hb2 ha (by decide) rfl hs2 hpl2) pa_nil hs) (by decide) rfl hs hpl) fun σ H Q hq => by
  obtain ⟨φ, h, σi, s, se, p⟩ := hq
  refine ⟨φ, h, σi, s, se, ?_⟩
  unfold bltE at p
  cases e : fs σi h with
  | ok v h1 =>
    simp only [e, Out.bind] at p
    intro φ1 H1 vs ex1 s1 r1
    have p := Post.ext p ex1
    unfold ssetI at p
    split at p
    · rename_i iv
      split at p
      · rename_i ys el
        split at p
        · rename_i hl
          obtain ⟨v0, rfl, r2⟩ := r1.one
          obtain ⟨a, us, rfl, hq, ry⟩ := s1.lsR r2 el
          split at p
          · rename_i ns en
            have eu := ins_ok en ry
            subst eu
            have hn : ns.length < 64 := by rw [mapO_ints en] at hl; simpa using hl
            refine .inl ⟨a, ns, rfl, by rw [hK]; exact hq, hn, fun b c hb hc' => .inl ⟨b, _, c, rfl, upd_same, hc', fun ms q pw mem _ hq' => ?_⟩⟩
            have es := sortNI_eq (ns := ns) pw fun k => by rw [mem]; simp
            rw [es] at p
            exact (Post.ext p (Ext.new hb)).newLst (s1.untold hb) (vrs_ints ms) hq'
          · split at p
            · rename_i ks en
              split at p
              · rename_i ok
                have ey := mapO_tups en
                rw [ey] at ry
                obtain ⟨L0, eu, e2, hk⟩ := rows_of ry
                subst eu
                have hn : L0.length < 64 := by rw [ey] at hl; have := congrArg List.length e2; simp at this hl; omega
                refine .inr ⟨a, L0, rfl, by rw [hK]; exact hq, fun p hp => by rw [hK]; exact hk p hp, hn, fun b L hb sub all => .inr ⟨b, L, φ1, h1, σ, rfl, upd_same, s1.untold hb, fun p hp => ?_, ?_, fun nd => ?_⟩⟩
                · rw [hK]; exact (Ext.new (φ := φ1) hb).seqT (hk p (sub p hp))
                · refine sortOk_sub (fun x hx => ?_) ok
                  obtain ⟨q, hq, rfl⟩ := List.mem_map.mp hx
                  rw [ey, ← e2, List.map_map]
                  exact List.mem_map.mpr ⟨q, sub q hq, rfl⟩
                · have es := sortTI_eq (ks := ks) nd fun k => by
                    rw [← e2]
                    constructor
                    · intro hk'
                      obtain ⟨q, hq, rfl⟩ := List.mem_map.mp hk'
                      exact List.mem_map.mpr ⟨q, sub q hq, rfl⟩
                    · intro hk'
                      obtain ⟨q, hq, rfl⟩ := List.mem_map.mp hk'
                      exact all q hq
                  rw [es] at p
                  exact Post.ext p (Ext.new hb)
              · exact p.elim
            · exact p.elim
        · exact p.elim
      · exact p.elim
    · exact p.elim
  | ex v h1 => simp only [e, Out.bind] at p; exact p
  | no => simp only [e, Out.bind] at p; exact p
end
end EV
namespace EV
open PySem PySem.Spec PyProof.Rows L2 RZ
section
variable {X : Cx} {P : Par} {W : WX} {fs : IE → M (List IV)}
theorem PostA.thn {φ : List Addr} {H : Hp} {D : Ends} {σi : IE} {σ : L2.St} {o : Out (List IV)} {k : List IV → IH → SOut} (se : SE P φ H σi σ) (p : PostS P W φ H D (o.thn σi k)) :
    PostA P W σ φ H (fun x H1 => ∃ φ1 h1 v, SR P φ1 H1 h1 ∧ SE P φ1 H1 σi σ ∧ VRs P φ1 H1 v x ∧ PostS P W φ1 H1 D (k v h1)) o := by
  cases o with
  | ok v h => exact fun φ' H' x e s r => ⟨φ', h, v, s, se.mono e, r, PostS.ext p e⟩
  | ex x h => exact fun φ' H' c d e s r => p φ' H' σ c d e s (se.mono e) r
  | no => exact p
def parS (i j : Nat) (fs : IE → M (List IV)) : SM := fun σ h => (fs σ h).thn σ fun vs h => match vs with
  | [v, w] => .nx ((σ.set i (some v)).set j (some w)) h
  | _ => .no
theorem ps_parI {i j : Nat} {x y : Str} {a b : Expr} {px py pt pos : Pos} {kt k2 pt2} (hc : X.calm = true) (hN : X.N.Nodup) (hi : X.N[i]? = some x) (hj : X.N[j]? = some y) (hij : i ≠ j)
    (hx : X.env.scope.names.lookup x = some .local) (hy : X.env.scope.names.lookup y = some .local) (ha : PA X [a, b] (tAr P W fs))
    (hw : swappedStores [.Tuple [.Name x px, .Name y py] kt pt] (.Tuple [a, b] k2 pt2) X.env = pure (some [x, y]))
    (hs : swapsWithSole [.Tuple [.Name x px, .Name y py] kt pt] (.Tuple [a, b] k2 pt2) pos.line X.env = pure false) :
    PS X (.Assign [.Tuple [.Name x px, .Name y py] kt pt] (.Tuple [a, b] k2 pt2) pos) (tS P W (parS i j fs)) := PS.weak (ps_par hc hN hi hj hij hx hy ha hw hs) fun D σ H hq => by
  obtain ⟨φ, h, σi, s, se, p⟩ := hq
  refine ⟨φ, h, σi, s, se, (PostA.thn se p).mono fun vs H1 ⟨φ1, h1, v, s1, se1, r, p1⟩ => ?_⟩
  split at p1
  · obtain ⟨v1, v2, rfl, r1, r2⟩ := r.two
    exact ⟨v1, v2, rfl, p1 φ1 H1 _ (Ext.refl _ _) s1 ((se1.set r1 i).set r2 j)⟩
  · exact p1.elim
def par3S (i j l : Nat) (fs : IE → M (List IV)) : SM := fun σ h => (fs σ h).thn σ fun vs h => match vs with
  | [u, v, w] => .nx (((σ.set i (some u)).set j (some v)).set l (some w)) h
  | _ => .no
theorem ps_par3I {i j l : Nat} {x y z : Str} {a b c : Expr} {px py pz pt pos : Pos} {kt k2 pt2} (hc : X.calm = true) (hN : X.N.Nodup) (hi : X.N[i]? = some x) (hj : X.N[j]? = some y) (hl : X.N[l]? = some z) (hij : i ≠ j) (hil : i ≠ l) (hjl : j ≠ l)
    (hx : X.env.scope.names.lookup x = some .local) (hy : X.env.scope.names.lookup y = some .local) (hz : X.env.scope.names.lookup z = some .local) (ha : PA X [a, b, c] (tAr P W fs))
    (hw : swappedStores [.Tuple [.Name x px, .Name y py, .Name z pz] kt pt] (.Tuple [a, b, c] k2 pt2) X.env = pure (some [x, y, z]))
    (hs : swapsWithSole [.Tuple [.Name x px, .Name y py, .Name z pz] kt pt] (.Tuple [a, b, c] k2 pt2) pos.line X.env = pure false) :
    PS X (.Assign [.Tuple [.Name x px, .Name y py, .Name z pz] kt pt] (.Tuple [a, b, c] k2 pt2) pos) (tS P W (par3S i j l fs)) := PS.weak (ps_par3 hc hN hi hj hl hij hil hjl hx hy hz ha hw hs) fun D σ H hq => by
  obtain ⟨φ, h, σi, s, se, p⟩ := hq
  refine ⟨φ, h, σi, s, se, (PostA.thn se p).mono fun vs H1 ⟨φ1, h1, v, s1, se1, r, p1⟩ => ?_⟩
  split at p1
  · rw [VRs] at r
    obtain ⟨v1, t, rfl, r1, r⟩ := r
    obtain ⟨v2, v3, rfl, r2, r3⟩ := r.two
    exact ⟨v1, v2, v3, rfl, p1 φ1 H1 _ (Ext.refl _ _) s1 (((se1.set r1 i).set r2 j).set r3 l)⟩
  · exact p1.elim
def negM : IV → M IV := fun v h => match v with
  | .int i => .ok (.int (-i)) h
  | _ => .no
def negE (fa : IE → M IV) : IE → M IV := fun σ h => (fa σ h).bind negM
theorem pe_negI {e : Expr} {fa : IE → M IV} {pos : Pos} (he : PE X e (tE P W fa)) : PE X (.UnaryOp .USub e pos) (tE P W (negE fa)) := PE.weak (pe_un un_neg he) fun σ H R hq => by
  obtain ⟨φ, h, σi, s, se, p⟩ := hq
  refine ⟨φ, h, σi, s, se, ?_⟩
  unfold negE at p
  cases e : fa σi h with
  | ok v h1 =>
    simp only [e, Out.bind] at p
    unfold negM at p
    split at p
    · intro φ' H' x ex s' r
      rw [VR] at r; subst r
      exact ⟨_, rfl, (Post.ext p ex).ret s' VR.i⟩
    · exact p.elim
  | ex v h1 => simp only [e, Out.bind] at p; exact p
  | no => simp only [e, Out.bind] at p; exact p
end
end EV
namespace EV
open PySem PySem.Spec PyProof.Rows L2 RZ

mutual
def eqV : IV → IV → Bool
  | .non, .non => true
  | .bl a, .bl b => a == b
  | .int a, .int b => a == b
  | .str a, .str b => decide (a = b)
  | .tup a, .tup b => eqVs a b
  | .lst a, .lst b => eqVs a b
  | .scr a, .scr b => eqVs a b
  | .dct a c, .dct b d => eqVs a b && eqVs c d
  | .ref a, .ref b => a == b
  | .ty a, .ty b => a == b
  | .glo a, .glo b => a == b
  | _, _ => false
def eqVs : List IV → List IV → Bool
  | [], [] => true
  | x :: xs, y :: ys => eqV x y && eqVs xs ys
  | _, _ => false
end
mutual
theorem eqV_ok : ∀ {x y : IV}, eqV x y = true → x = y := by
  intro x y h
  cases x <;> cases y <;> simp only [eqV, Bool.false_eq_true] at h <;> first
    | rfl
    | (rw [eq_of_beq h])
    | (rw [of_decide_eq_true h])
    | (rw [eqVs_ok h])
    | (obtain ⟨h1, h2⟩ := Bool.and_eq_true_iff.mp h; rw [eqVs_ok h1, eqVs_ok h2])
theorem eqVs_ok : ∀ {xs ys : List IV}, eqVs xs ys = true → xs = ys := by
  intro xs ys h
  cases xs <;> cases ys <;> simp only [eqVs, Bool.false_eq_true] at h <;> first
    | rfl
    | (obtain ⟨h1, h2⟩ := Bool.and_eq_true_iff.mp h; rw [eqV_ok h1, eqVs_ok h2])
end
mutual
theorem eqV_rf : ∀ (x : IV), eqV x x = true
  | .non | .bl _ | .int _ | .str _ | .ref _ | .ty _ | .glo _ => by simp [eqV]
  | .tup a | .lst a | .scr a => by simp only [eqV]; exact eqVs_rf a
  | .dct a b => by simp only [eqV, eqVs_rf a, eqVs_rf b]; rfl
theorem eqVs_rf : ∀ (xs : List IV), eqVs xs xs = true
  | [] => rfl
  | x :: xs => by simp only [eqVs, eqV_rf x, eqVs_rf xs]; rfl
end
/-- the list at n is still this one -/
def chkL (n : Nat) (xs : List IV) : IH → Bool := fun h => match h[n]? with
  | some (.lst ys) => eqVs ys xs
  | _ => false
theorem chkL_ok {n : Nat} {xs : List IV} {h : IH} (e : chkL n xs h = true) : h[n]? = some (.lst xs) := by
  unfold chkL at e
  split at e
  · rename_i ys q; rw [q, eqVs_ok e]
  · cases e
/-- J walks the items xs, as long as chk holds -/
structure GoesC (P : Par) (J : It) (xs : List IV) (chk : IH → Bool) (φ0 : List Addr) (H0 : Hp) : Prop where
  stop : ∀ φ H, Ext φ0 H0 φ H → ∀ R h, SR R φ H h → chk h = true → J.stop xs.length H
  go : ∀ i φ H, i < xs.length → Ext φ0 H0 φ H → ∀ R h, SR R φ H h → chk h = true → J.go i H
  yld : ∀ i φ H x H', Ext φ0 H0 φ H → ∀ R h, SR R φ H h → chk h = true → J.yld i H x H' → ∀ v, xs[i]? = some v → Ext φ H φ H' ∧ (∀ R h, SR R φ H h → SR R φ H' h) ∧ VR R φ H' v x
def PostIC (P : Par) (W : WX) (σ : L2.St) (φ : List Addr) (H : Hp) (R : It → Hp → Prop) : Out (List IV × (IH → Bool)) → Prop
  | .ok xc h' => ∀ φ' H' J, Ext φ H φ' H' → SR P φ' H' h' → GoesC P J xc.1 xc.2 φ' H' → R J H'
  | .ex e h' => ∀ φ' H' c d, Ext φ H φ' H' → SR P φ' H' h' → XR P φ' H' e c d → W c d σ H'
  | .no => False
def tIC (P : Par) (W : WX) (fi : IE → M (List IV × (IH → Bool))) : TI := fun σ H R => ∃ φ h σi, SR P φ H h ∧ SE P φ H σi σ ∧ PostIC P W σ φ H R (fi σi h)
/-- a list of either kind -/
def refIt (fa : IE → M IV) : IE → M (List IV × (IH → Bool)) := fun σ h => (fa σ h).bind fun v h => match v with
  | .ref n => match h[n]? with
    | some (.lst xs) => .ok (xs, chkL n xs) h
    | _ => .no
  | _ => .no
section
variable {X : Cx} {P : Par} {W : WX}
theorem goes_ref {a : Addr} {n : Nat} {xs : List IV} {φ : List Addr} {H : Hp} (ha : φ[n]? = some a) : GoesC P (Itl X.K a) xs (chkL n xs) φ H := by
  have at' : ∀ {φ' H' R h}, Ext φ H φ' H' → SR R φ' H' h → chkL n xs h = true → ∃ vs, H' a = some (.lst vs) ∧ VRs R φ' H' xs vs := fun {φ' H' R h} e s c => by
    obtain ⟨t, rfl, _⟩ := e.pre
    exact s.obj n _ a (chkL_ok c) (by rw [List.getElem?_append_left (List.getElem?_eq_some_iff.mp ha).1]; exact ha)
  refine ⟨fun φ' H' e R h s c => ?_, fun i φ' H' hi e R h s c => ?_, fun i φ' H' x H2 e R h s c y v hv => ?_⟩
  · obtain ⟨vs, h1, r⟩ := at' e s c
    exact ⟨vs, .of h1, by rw [r.length]; exact Nat.le_refl _⟩
  · obtain ⟨vs, h1, r⟩ := at' e s c
    have hl : i < vs.length := by rw [r.length]; exact hi
    exact ⟨vs, vs[i], .of h1, by simp [hl]⟩
  · obtain ⟨vs, h1, r⟩ := at' e s c
    obtain ⟨rfl, q⟩ := y
    obtain ⟨u, e1, r1⟩ := r.get hv
    have := q vs (.of h1)
    rw [this] at e1; cases e1
    exact ⟨Ext.refl _ _, fun _ _ s => s, r1⟩
theorem pi_refI {tg a : Expr} {fa : IE → M IV} (ha : PE X a (tE P W fa)) : PI X tg a (tIC P W (refIt fa)) := PI.weak (pi_list ha) fun σ H R hq => by
  obtain ⟨φ, h, σi, s, se, p⟩ := hq
  refine ⟨φ, h, σi, s, se, ?_⟩
  unfold refIt at p
  cases e : fa σi h with
  | ok v h1 =>
    simp only [e, Out.bind] at p
    split at p
    · split at p
      · rename_i n xs hn
        intro φ' H' x ex s' r
        rw [VR] at r
        obtain ⟨b, hb, rfl⟩ := r
        obtain ⟨vs, h1, _⟩ := s'.obj _ _ b hn hb
        exact ⟨b, rfl, ⟨vs, .of h1⟩, p φ' H' _ ex s' (goes_ref hb)⟩
      · exact p.elim
    · exact p.elim
  | ex v h1 => simp only [e, Out.bind] at p; exact p
  | no => simp only [e, Out.bind] at p; exact p
end
def compMC (chk : IH → Bool) (g : TM) (t : IE → M Bool) (f : IE → M IV) (σ0 : IE) : List IV → M (List IV)
  | [] => fun h => if chk h = true then .ok [] h else .no
  | x :: xs => fun h => if chk h = true then (match g x σ0 h with
    | none => .no
    | some (σ1, h1) => match t σ1 h1 with
      | .ok true h2 => (match f σ1 h2 with
        | .ok v h3 => (compMC chk g t f σ0 xs h3).bind fun vs h => .ok (v :: vs) h
        | _ => .no)
      | .ok false h2 => compMC chk g t f σ0 xs h2
      | _ => .no) else .no
def lcCI (fi : IE → M (List IV × (IH → Bool))) (g : TM) (t : IE → M Bool) (f : IE → M IV) (ws : List Nat) : IE → M IV := fun σ h => (fi σ h).bind fun xc h =>
  if xc.1.length ≤ 16777216 then (compMC xc.2 g t f (wipeI σ ws) xc.1 h).bind fun vs h => .ok (.lst vs) h else .no
section
variable {X : Cx} {P : Par} {W : WX}
theorem lcC_read {fi : IE → M (List IV × (IH → Bool))} {g : TM} {t : IE → M Bool} {f : IE → M IV} {own : List (Str × Nat)} {av : List Addr} {σ : L2.St} {H : Hp} {Q : VK}
    (hq : tE (P.at av) W (lcCI fi g t f (own.map (·.2))) σ H Q) : 
    tLc (tIC (P.at av) W fi) (fun v σ H Q => ∃ l, tGw (P.at l) (own.map (·.2)) g v σ H Q) (fun σ H Q => ∃ l, tT (P.at l) WF t σ H Q) (fun σ H Q => ∃ l, tE (P.at l) WF f σ H Q) (own.map (·.2)) σ H Q := by
  generalize own.map (·.2) = ws at hq ⊢
  obtain ⟨φ, h, σi, s, se, p⟩ := hq
  unfold tLc
  refine ⟨φ, h, σi, s, se, ?_⟩
  unfold lcCI at p
  cases e : fi σi h with
  | ex x h1 => rw [e] at p; exact p
  | no => rw [e] at p; exact p
  | ok xc h1 =>
    obtain ⟨xs, chk⟩ := xc
    simp only [e, Out.bind] at p
    split at p
    case isFalse => exact p.elim
    rename_i hlen
    intro φ1 H1 J ex1 s1 G D hD
    have p := Post.ext p ex1
    have se1 := (se.mono ex1).wipe ws
    clear ex1 se s e
    have kD : ∀ c ∈ D :: av, c ∈ (P.at av).av ∨ H1 c = none := fun c m => by
      rcases List.mem_cons.mp m with rfl | m
      · exact .inr hD
      · exact .inl m
    -- the turns
    let I : Nat → Hp → Prop := fun i H => ∃ φ h acc accV, SR (P.at (D :: av)) φ H h ∧ H D = some (.lst accV) ∧ VRs (P.at (D :: av)) φ H acc accV ∧ SE (P.at (D :: av)) φ H (wipeI σi ws) (L2.wipe σ ws) ∧ Ext φ1 H1 φ H ∧ acc.length ≤ i ∧
      Post (P.at av) W σ φ1 H1 Q ((compMC chk g t f (wipeI σi ws) (xs.drop i) h).bind fun vs h => .ok (.lst (acc ++ vs)) h)
    have exN : Ext φ1 H1 φ1 (upd H1 D (.lst [])) := Ext.new hD
    refine ⟨fun i m H => i ≤ xs.length ∧ m = xs.length - i ∧ I i H, ⟨xs.length, Nat.zero_le _, by simp, φ1, h1, [], [], ?_, upd_same, VRs.nil, ?_, exN, Nat.le_refl _, by simp only [List.drop_zero, List.nil_append]; exact p⟩, ?_⟩
    · exact SR.avN hD (fun xs z => by cases z) (fun o u z => by cases z) s1
    · exact SE.mono (SE.avI kD se1) exN
    rintro i m H2 ⟨hi, rfl, φ2, h2, acc, accV, s2, hD2, ra, se2, ex2, hal, p2⟩
    by_cases hlt : i < xs.length
    · have hx : xs[i]? = some xs[i] := by simp [hlt]
      have e2 : xs.drop i = xs[i] :: xs.drop (i + 1) := List.drop_eq_getElem_cons hlt
      rw [e2] at p2
      unfold compMC at p2
      split at p2
      case isFalse => exact p2.elim
      rename_i hck
      refine .inr ⟨G.go i φ2 H2 hlt ex2 _ _ s2 hck, fun H' => i + 1 ≤ xs.length ∧ I (i + 1) H', ?_, ?_⟩
      · rintro H' ⟨a, b⟩
        exact ⟨xs.length - (i + 1), by omega, a, rfl, b⟩
      intro x H3 y
      obtain ⟨e1, sr, r⟩ := G.yld i φ2 H2 x H3 ex2 _ _ s2 hck y xs[i] hx
      refine ⟨D :: av, φ2, h2, wipeI σi ws, xs[i], sr _ h2 s2, se2.mono e1, r, ?_⟩
      have ra3 := ra.mono e1
      have hD3 : H3 D = some (.lst accV) := e1.keep _ _ hD2 (s2.av D List.mem_cons_self).1
      have ex3 := ex2.trans e1
      have se3 := se2.mono e1
      -- the item is added
      have fin : ∀ {φ4 H4 h4 v u}, Ext φ2 H3 φ4 H4 → SR (P.at (D :: av)) φ4 H4 h4 → VR (P.at (D :: av)) φ4 H4 v u →
          Post (P.at av) W σ φ1 H1 Q (((compMC chk g t f (wipeI σi ws) (xs.drop (i + 1)) h4).bind fun vs h => .ok (v :: vs) h).bind fun vs h => .ok (.lst (acc ++ vs)) h) →
          ∃ acc, H4 D = some (.lst acc) ∧ acc.length < sizeLine ∧ i + 1 ≤ xs.length ∧ I (i + 1) (upd H4 D (.lst (acc ++ [u]))) := by
        intro φ4 H4 h4 v u ex s4 r4 p4
        have a4 := s4.av D List.mem_cons_self
        have hD4 : H4 D = some (.lst accV) := ex.keep _ _ hD3 (s2.av D List.mem_cons_self).1
        refine ⟨accV, hD4, ?_, hlt, φ4, h4, acc ++ [v], accV ++ [u], ?_, upd_same, ?_, ?_, ?_, by simp; omega, ?_⟩
        · rw [ra.length]; show acc.length < 2 ^ 24; omega
        · exact SR.avU List.mem_cons_self (fun xs z => by cases z) (fun o u z => by cases z) s4
        · exact VRs.avU List.mem_cons_self a4.2.2.1 a4.2.2.2 _ _ (VRs.append (ra3.mono ex) (VRs.cons r4 VRs.nil))
        · exact SE.avU List.mem_cons_self a4.2.2.1 a4.2.2.2 (se3.mono ex)
        · exact (ex3.trans ex).under hD
        · rw [Out.bind_ok] at p4
          simpa [Out.bind] using p4
      cases q : g xs[i] (wipeI σi ws) h2 with
      | none => rw [q] at p2; exact p2.elim
      | some z =>
        obtain ⟨σ4, h4⟩ := z
        rw [q] at p2
        dsimp only at p2
        intro φ4 H4 σ4' ex4 s4 se4 w4
        rw [wipe_idem] at w4
        refine ⟨w4, D :: av, φ4, h4, σ4, s4, se4, ?_⟩
        cases q5 : t σ4 h4 with
        | ex x h5 => rw [q5] at p2; exact p2.elim
        | no => rw [q5] at p2; exact p2.elim
        | ok b h5 =>
          rw [q5] at p2
          intro φ5 H5 ex5 s5
          cases b with
          | false =>
            rw [if_neg Bool.false_ne_true]
            dsimp only at p2
            have ex' := ex4.trans ex5
            exact ⟨hlt, φ5, h5, acc, accV, s5, ex'.keep _ _ hD3 (s2.av D List.mem_cons_self).1, ra3.mono ex', se3.mono ex', ex3.trans ex', Nat.le_succ_of_le hal, p2⟩
          | true =>
            rw [if_pos rfl]
            dsimp only at p2
            refine ⟨D :: av, φ5, h5, σ4, s5, se4.mono ex5, ?_⟩
            cases q6 : f σ4 h5 with
            | ex x h6 => rw [q6] at p2; exact p2.elim
            | no => rw [q6] at p2; exact p2.elim
            | ok v h6 =>
              rw [q6] at p2
              dsimp only at p2
              exact fun φ6 H6 u ex6 s6 r6 => fin ((ex4.trans ex5).trans ex6) s6 r6 p2
    · have e : i = xs.length := by omega
      subst e
      rw [List.drop_length] at p2
      unfold compMC at p2
      split at p2
      case isFalse => exact p2.elim
      rename_i hck
      refine .inl ⟨G.stop φ2 H2 ex2 _ _ s2 hck, ?_⟩
      refine p2 φ2 H2 _ ex2 (SR.avD (P := P.at (D :: av)) (fun c m => List.mem_cons_of_mem _ m) s2) ?_
      rw [VR]
      refine ⟨D, accV, rfl, hD2, ⟨(s2.av D List.mem_cons_self).1, fun m => ?_⟩, ?_⟩
      · obtain ⟨_, ⟨o, z⟩, _⟩ := s1.av D m
        rw [hD] at z; cases z
      · rw [List.append_nil]
        exact VRs.avD (P := P.at (D :: av)) (fun c m => List.mem_cons_of_mem _ m) ra
variable {elt tg iter : Expr} {ifs : List Expr} {scope : Scope} {pos : Pos} {fi : IE → M (List IV × (IH → Bool))} {g : TM} {t : IE → M Bool} {f : IE → M IV} {av : List Addr}
theorem pe_lcCI (own : List (Str × Nat)) (hc : X.calm = true) (hN : X.N.Nodup) (hi : PI X tg iter (tIC (P.at av) W fi)) (ok : BlkOk X.N X.env.scope scope own)
    (hs : ∀ x, foldedSetIterable iter X.env x = pure x)
    (hg : ∀ (l : List Addr) (s : Shared) (H : Hp) (C : Addr) (cl : List (Str × Addr)) (fp : List Addr), PG (X.blk s H scope (compEnvC scope cl C X.env) fp) tg (tGw (P.at l) (own.map (·.2)) g))
    (ht : ∀ (l : List Addr) (s : Shared) (H : Hp) (C : Addr) (cl : List (Str × Addr)) (fp : List Addr), PTs (X.blk s H scope (compEnvC scope cl C X.env) fp) ifs (tT (P.at l) WF t))
    (he : ∀ (l : List Addr) (s : Shared) (H : Hp) (C : Addr) (cl : List (Str × Addr)) (fp : List Addr), PE (X.blk s H scope (compEnvC scope cl C X.env) fp) elt (tE (P.at l) WF f)) :
    PE X (.ListComp elt [⟨tg, iter, ifs, 0⟩] scope pos) (tE (P.at av) W (lcCI fi g t f (own.map (·.2)))) :=
  PE.weak (pe_lc (own := own) hc hN hi ok (fun s H C cl fp => PG.exi fun l => hg l s H C cl fp) (fun s H C cl fp => PTs.exi fun l => ht l s H C cl fp) (fun s H C cl fp => PE.exi fun l => he l s H C cl fp) hs) fun σ H Q hq => lcC_read hq
/-- name = [..] on one line -/
theorem ps_setLcCI (own : List (Str × Nat)) {i : Nat} {y : Str} {py spos : Pos} (hc : X.calm = true) (hN : X.N.Nodup) (hy : X.N[i]? = some y) (hyl : X.env.scope.names.lookup y = some .local)
    (hsw : swapsWith (.ListComp elt [⟨tg, iter, ifs, 0⟩] scope pos) (some (.Name y py)) spos.line X.env = pure true) (hi : PI X tg iter (tIC (P.at av) W fi)) (ok : BlkOk X.N X.env.scope scope own)
    (hs : ∀ x, foldedSetIterable iter X.env x = pure x)
    (hg : ∀ (l : List Addr) (s : Shared) (H : Hp) (C : Addr) (cl : List (Str × Addr)) (fp : List Addr), PG (X.blk s H scope (compEnvC scope cl C X.env) fp) tg (tGw (P.at l) (own.map (·.2)) g))
    (ht : ∀ (l : List Addr) (s : Shared) (H : Hp) (C : Addr) (cl : List (Str × Addr)) (fp : List Addr), PTs (X.blk s H scope (compEnvC scope cl C X.env) fp) ifs (tT (P.at l) WF t))
    (he : ∀ (l : List Addr) (s : Shared) (H : Hp) (C : Addr) (cl : List (Str × Addr)) (fp : List Addr), PE (X.blk s H scope (compEnvC scope cl C X.env) fp) elt (tE (P.at l) WF f)) :
    PS X (.Assign [.Name y py] (.ListComp elt [⟨tg, iter, ifs, 0⟩] scope pos) spos) (tS (P.at av) W (asgS (lcCI fi g t f (own.map (·.2))) (gNm i))) :=
  PS.weak (ps_setLc (own := own) hc hN hy hyl hsw hi ok (fun s H C cl fp => PG.exi fun l => hg l s H C cl fp) (fun s H C cl fp => PTs.exi fun l => ht l s H C cl fp) (fun s H C cl fp => PE.exi fun l => he l s H C cl fp) hs) fun D σ H hq => by
  obtain ⟨φ, h, σi, s, se, p⟩ := hq
  refine lcC_read (own := own) ⟨φ, h, σi, s, se, (Post.thn se p).mono ?_⟩
  rintro x H1 ⟨φ1, h1, v, s1, se1, r1, p1⟩
  exact p1 φ1 H1 _ (Ext.refl _ _) s1 (se1.set r1 i)
end
end EV
namespace EV
open PySem PySem.Spec PyProof.Rows L2
theorem cx_never {P : Program} {w : World} {H : Hp} {s s' : Shared} {e : Value} : L2.CX P w [] H s (fun _ _ _ => False) e s' → False := fun ⟨_, _, _, _, _, _, _, _, _, _, _, _, z⟩ => z
theorem walk_w {l : PySem.W.OpenLaw} {n k : Nat} {q : Program} {loose : List Str} {XP : (Str → Option Value) → Heap → Prop} {YP : World → Heap → Prop} {d : DefRec} {x : Str}
    (hn : l.most = some n) (hn2 : n ≤ sizeLine) (hdf : d.params.defaults = []) (hr : Room k callerA)
    (F : ∀ (w : World) (mg : Str → Option Value) (fa : Addr) (h : Heap), YP w h → h.Ns mainGlobals mg → mg d.name = some (.ref fa) →
      ∃ (K : PySem.W.Frag) (fd : FuncData) (sp : Sp), K.In h ∧ (∀ (s : Shared) (u : Value), BindsTo s fd ⟨[u], []⟩ [(x, u)]) ∧
        (∀ (H : Hp) (a : Addr) (ns : List Int), ns.length ≤ n → Only H → SqL K H a (ns.map V.int) → sp [.ref a] H (fun v _ => v = .bl true) fun _ _ _ => False) ∧
        ∀ base : Heap, K.In base → base.Ns mainGlobals mg → FnOk l.prog w K mg base (L2.CX l.prog w) k fa fd [x] sp) :
    PySem.W.WalkO q loose XP YP l.row.toRowW d [] (fun f vs => PySem.call f vs) := by
  refine Att.attach_call hn hdf fun w s₀ s₁ mg mb fa o pm cd doc a vs ns G Y ho hd hcd hmg hobj hints hlen hg => ?_
  obtain ⟨K, fd, sp, KX, hb, hsp, hF⟩ := F w mg fa _ Y G.T.g hmg
  exact law_call KX G.T.g G.T.b G.T.builtins G.T.nolimit hg hobj hints (Nat.le_trans hlen hn2) hr hF hb (fun H hO hS => hsp H a ns hlen hO hS) fun H e s' => cx_never
end EV
namespace K08
open PySem PySem.Spec PyProof.Rows L2 EV
def top (i : Nat) : Stmt := PySem.Challenge.pw_everycut_k08_whole_made_blocks_told.main.body.getD i (.Pass ⟨0, 0, 0, 0⟩)
abbrev PP (K : PySem.W.Frag) (G : Nat → Addr) (w : World) : Par := ⟨K, G, w, []⟩
def N_is_whole : List Str := ["value"]
def b_is_whole : SM := (seqS (retS (andE (bltE isaIB (consA (varE 0) (consA (cstE (.ty "int")) nilA))) (notE (bltE isaIB (consA (varE 0) (consA (cstE (.ty "bool")) nilA))))))
    nextS)
def c_is_whole : CM := defM 1 b_is_whole
def N_made_in : List Str := ["place", "edition", "cells", "starts", "part", "start"]
def b_made_in : SM := (seqS (asgS (lcI (rngIt (consA (cstE (.int 4)) nilA)) (gNm 4) yesT (binE mulDI (cstE (.int 13)) (varE 4)) [4]) (gNm 3))
    (seqS (retS (bltE tupleI (consA (lcI (enuIt (consA (varE 3) nilA)) (gTp 2 (gsCons (gNm 4) (gsCons (gNm 5) gsNil))) yesT (tupE (consA (varE 0) (consA (varE 1) (consA (varE 4) (starA (sliE (varE 2) (someO (varE 5)) (someO (binE addI (varE 5) (cstE (.int 13))))) nilA))))) [4, 5]) nilA)))
    nextS))
def c_made_in : CM := defM 6 b_made_in
def N_fits : List Str := ["place", "part", "sector"]
def b_fits : SM := (seqS (ifS (orT (cmpT isI (varE 2) (cstE .non)) (cmpT (ordE .Lt) (bltE lenI (consA (varE 2) nilA)) (cstE (.int 3)))) (seqS (retS (cstE (.bl false)))
    nextS) nextS)
    (seqS (retS (andE (binE eqDI (binE subD (varE 2) (cstE (.int 0))) (varE 0)) (andE (binE (ordE .Gt) (binE subD (varE 2) (cstE (.int 1))) (cstE (.int 0))) (binE eqDI (binE subD (varE 2) (cstE (.int 2))) (varE 1)))))
    nextS))
def c_fits : CM := defM 3 b_fits
def N__law_tub : List Str := ["_law_script", "_law_spot", "_law_cell", "_law_great", "_law_mixed"]
def b__law_tub : SM := (seqS (asgS (iteE (cmpT (ordE .Lt) (varE 1) (bltE lenI (consA (varE 0) nilA))) (bltE intI (consA (binE subD (varE 0) (varE 1)) nilA)) (binE addI (binE mulDI (cstE (.int 211)) (varE 1)) (cstE (.int 97)))) (gNm 2))
    (seqS (asgS (binE modI (bltE intI (consA (bltE absI (consA (varE 2) nilA)) nilA)) (binE mulDI (binE powI (cstE (.int 10)) (cstE (.int 56))) (binE powI (cstE (.int 10)) (cstE (.int 57))))) (gNm 3))
    (seqS (asgS (binE addI (binE addI (binE addI (binE mulDI (binE modI (varE 3) (cstE (.int 2305843009213693907))) (cstE (.int 83))) (binE mulDI (cstE (.int 1201)) (varE 1))) (binE mulDI (cstE (.int 47)) (bltE intI (consA (binE (ordE .Lt) (varE 2) (cstE (.int 0))) nilA)))) (cstE (.int 31))) (gNm 4))
    (seqS (retS (refE (capA (consA (bltE maxI (consA (cstE (.int 0)) (consA (binE subI (varE 3) (binE powI (cstE (.int 10)) (cstE (.int 16)))) nilA))) (consA (binE modI (bltE intI (consA (varE 4) nilA)) (cstE (.int 1152921504606846871))) (consA (cstE (.int 0)) nilA))))))
    nextS))))
def c__law_tub : CM := defM 5 b__law_tub
def N__law_dip : List Str := ["_law_tub_here", "_law_total", "_law_one", "_law_two", "_law_found"]
def b__law_dip : SM := (seqS (ifS (cmpT (ordE .Gt) (binE subD (varE 0) (cstE (.int 0))) (cstE (.int 0))) (seqS (asgS (binE modI (bltE intI (consA (binE subD (varE 0) (cstE (.int 0))) nilA)) (varE 1)) (gNm 4))
    (seqS (asgS (binE fdivI (binE subD (varE 0) (cstE (.int 0))) (varE 1)) (gSb putM (varE 0) (cstE (.int 0))))
    (seqS (retS (varE 4))
    nextS))) nextS)
    (seqS (asgS (binE addI (binE subD (varE 0) (cstE (.int 2))) (cstE (.int 1))) (gSb putM (varE 0) (cstE (.int 2))))
    (seqS (asgS (binE modI (bltE intI (consA (binE addI (binE subD (varE 0) (cstE (.int 1))) (binE mulDI (cstE (.int 67867967)) (binE subD (varE 0) (cstE (.int 2))))) nilA)) (cstE (.int 2305843009213693951))) (gNm 2))
    (seqS (asgS (binE addI (binE mulDI (binE modI (bltE intI (consA (binE addI (binE mulDI (varE 2) (varE 2)) (binE mulDI (cstE (.int 89)) (binE subD (varE 0) (cstE (.int 2))))) nilA)) (cstE (.int 2305843009213693907))) (cstE (.int 32452867))) (varE 2)) (gNm 3))
    (seqS (retS (binE modI (bltE intI (consA (binE fdivI (varE 3) (cstE (.int 65543))) nilA)) (varE 1)))
    nextS)))))
def c__law_dip : CM := defM 5 b__law_dip
def N__law_made : List Str := ["_law_place", "_law_edition", "_law_cells_here", "_law_part"]
def b__law_made : SM := (seqS (retS (bltE tupleI (consA (lcI (rngIt (consA (cstE (.int 4)) nilA)) (gNm 3) yesT (binE addI (tupE (consA (varE 0) (consA (varE 1) (consA (varE 3) nilA)))) (bltE tupleI (consA (sliE (varE 2) (someO (binE mulDI (cstE (.int 13)) (varE 3))) (someO (binE addI (binE mulDI (cstE (.int 13)) (varE 3)) (cstE (.int 13))))) nilA))) [3]) nilA)))
    nextS)
def c__law_made : CM := defM 4 b__law_made
def N__law_with : List Str := ["_law_block_here", "_law_at", "_law_sector_here"]
def b__law_with : SM := (seqS (retS (binE addI (binE addI (sliE (varE 0) noneO (someO (varE 1))) (tupE (consA (varE 2) nilA))) (sliE (varE 0) (someO (binE addI (varE 1) (cstE (.int 1)))) noneO)))
    nextS)
def c__law_with : CM := defM 3 b__law_with
def N__law_readable : List Str := ["_law_copies_here", "_law_found", "_law_copy", "_law_sector_here"]
def b__law_readable : SM := (seqS (asgS (refE (capA nilA)) (gNm 1))
    (seqS (forS (anyIt (varE 0)) (gNm 2) (seqS (exprS (mthE "list" extM (varE 1) (consA (lcI (anyIt (varE 2)) (gNm 3) (cmpT isnI (varE 3) (cstE .non)) (varE 3) [3]) nilA)))
    nextS))
    (seqS (retS (varE 1))
    nextS)))
def c__law_readable : CM := defM 4 b__law_readable
def N_is_within_bounds : List Str := ["value", "least", "greatest"]
def b_is_within_bounds : SM := (seqS (retS (andE (callE none 1 c_is_whole (consA (varE 0) nilA)) (chnE (ordE .LtE) (ordE .LtE) (varE 1) (varE 0) (varE 2))))
    nextS)
def c_is_within_bounds : CM := defM 3 b_is_within_bounds
def N_editions_at : List Str := ["place", "copies", "found", "copy", "part", "sector"]
def b_editions_at : SM := (seqS (asgS dct0R (gNm 2))
    (seqS (forS (anyIt (varE 1)) (gNm 3) (seqS (exprS (mthE "dict" updM (varE 2) (consA (dcI (enuIt (consA (varE 3) nilA)) (gTp 2 (gsCons (gNm 4) (gsCons (gNm 5) gsNil))) (truT (callE none 3 c_fits (consA (varE 0) (consA (varE 4) (consA (varE 5) nilA))))) (binE subD (varE 5) (cstE (.int 1))) (cstE (.bl true)) [4, 5]) nilA)))
    nextS))
    (seqS (retS (bltE sortedI (consA (varE 2) nilA)))
    nextS)))
def c_editions_at : CM := defM 6 b_editions_at
def N_values_of : List Str := ["place", "copies", "edition", "part", "found", "copy"]
def b_values_of : SM := (seqS (asgS (dcI (anyIt (varE 1)) (gNm 5) (andT (truT (callE none 3 c_fits (consA (varE 0) (consA (varE 3) (consA (binE subD (varE 5) (varE 3)) nilA))))) (cmpT eqDI (binE subD (binE subD (varE 5) (varE 3)) (cstE (.int 1))) (varE 2))) (binE subD (varE 5) (varE 3)) (cstE (.bl true)) [5]) (gNm 4))
    (seqS (retS (bltE listDI (consA (varE 4) nilA)))
    nextS))
def c_values_of : CM := defM 6 b_values_of
def N__law_choice : List Str := ["_law_tub_here", "_law_items"]
def b__law_choice : SM := (seqS (retS (binE subD (varE 1) (callE none 2 c__law_dip (consA (varE 0) (consA (bltE lenI (consA (varE 1) nilA)) nilA)))))
    nextS)
def c__law_choice : CM := defM 2 b__law_choice
def N__law_is_made : List Str := ["_law_place", "_law_block_here", "_law_cells_here", "_law_edition", "_law_part", "_law_sector_here"]
def b__law_is_made : SM := (seqS (asgS (tupE nilA) (gNm 2))
    (seqS (forS (enuIt (consA (varE 1) nilA)) (gTp 2 (gsCons (gNm 4) (gsCons (gNm 5) gsNil))) (seqS (ifS (orT (cmpT isI (varE 5) (cstE .non)) (orT (cmpT (ordE .Lt) (bltE lenI (consA (varE 5) nilA)) (cstE (.int 3))) (orT (cmpT neDI (binE subD (varE 5) (cstE (.int 0))) (varE 0)) (orT (cmpT (ordE .Lt) (binE subD (varE 5) (cstE (.int 1))) (cstE (.int 1))) (cmpT neDI (binE subD (varE 5) (cstE (.int 2))) (varE 4)))))) (seqS (retS (cstE .non))
    nextS) nextS)
    (seqS (asgS (binE addI (varE 2) (sliE (varE 5) (someO (cstE (.int 3))) noneO)) (gNm 2))
    nextS)))
    (seqS (asgS (binE subD (binE subD (varE 1) (cstE (.int 0))) (cstE (.int 1))) (gNm 3))
    (seqS (retS (iteE (cmpT eqDI (callE none 3 c__law_made (consA (varE 0) (consA (varE 3) (consA (varE 2) nilA)))) (varE 1)) (tupE (consA (varE 3) (consA (varE 2) nilA))) (cstE .non)))
    nextS))))
def c__law_is_made : CM := defM 6 b__law_is_made
def N_require_within : List Str := ["value", "least", "greatest"]
def b_require_within : SM := (seqS (ifS (notT (truT (callE none 3 c_is_within_bounds (consA (varE 0) (consA (varE 1) (consA (varE 2) nilA)))))) noS nextS)
    nextS)
def c_require_within : CM := defM 3 b_require_within
def N_is_cell : List Str := ["value"]
def b_is_cell : SM := (seqS (retS (callE none 3 c_is_within_bounds (consA (varE 0) (consA (cstE (.int 0)) (consA (cstE (.int 999999999999999999)) nilA)))))
    nextS)
def c_is_cell : CM := defM 1 b_is_cell
def N_joined_cells : List Str := ["place", "copies", "edition", "values", "parts", "cells", "part", "some", "cell"]
def b_joined_cells : SM := (seqS (asgS (lcI (rngIt (consA (cstE (.int 4)) nilA)) (gNm 6) yesT (callE none 4 c_values_of (consA (varE 0) (consA (varE 1) (consA (varE 2) (consA (varE 6) nilA))))) [6]) (gNm 3))
    (seqS (ifS (notT (truT (bltE allI (consA (lcI (anyIt (varE 3)) (gNm 7) yesT (binE eqDI (bltE lenI (consA (varE 7) nilA)) (cstE (.int 1))) [7]) nilA)))) (seqS (retS (cstE .non))
    nextS) nextS)
    (seqS (asgS (lcI (anyIt (varE 3)) (gNm 7) yesT (binE subD (varE 7) (cstE (.int 0))) [7]) (gNm 4))
    (seqS (asgS (bltE tupleI (consA (lc2I (anyIt (varE 4)) (gNm 6) yesT (tupIt (sliE (varE 6) (someO (cstE (.int 3))) noneO)) (gNm 8) yesT (varE 8) [6, 8] [8]) nilA)) (gNm 5))
    (seqS (retS (iteE (cmpT eqDI (callE none 3 c_made_in (consA (varE 0) (consA (varE 2) (consA (varE 5) nilA)))) (bltE tupleI (consA (varE 4) nilA))) (varE 5) (cstE .non)))
    nextS)))))
def c_joined_cells : CM := defM 9 b_joined_cells
def N__law_sector : List Str := ["_law_tub_here", "_law_way", "_law_most", "_law_cell"]
def b__law_sector : SM := (seqS (asgS (callE none 2 c__law_dip (consA (varE 0) (consA (cstE (.int 8)) nilA))) (gNm 1))
    (seqS (ifS (cmpT (ordE .Lt) (varE 1) (cstE (.int 5))) (seqS (retS (callE none 2 c__law_choice (consA (varE 0) (consA (lstE (capA (consA (tupE nilA) (consA (tupE (consA (cstE (.int 0)) nilA)) (consA (tupE (consA (cstE (.int 1)) nilA)) (consA (tupE (consA (cstE (.int 2)) (consA (cstE (.int 0)) nilA))) (consA (tupE (consA (cstE (.int 1)) (consA (cstE (.int 1)) nilA))) nilA))))))) nilA))))
    nextS) nextS)
    (seqS (asgS (callE none 2 c__law_choice (consA (varE 0) (consA (lstE (capA (consA (cstE (.int 3)) (consA (binE powI (cstE (.int 10)) (cstE (.int 9))) (consA (binE powI (cstE (.int 10)) (cstE (.int 18))) nilA))))) nilA))) (gNm 2))
    (seqS (retS (bltE tupleI (consA (lcI (rngIt (consA (callE none 2 c__law_choice (consA (varE 0) (consA (lstE (capA (consA (cstE (.int 1)) (consA (cstE (.int 3)) (consA (cstE (.int 15)) (consA (cstE (.int 16)) nilA)))))) nilA))) nilA)) (gNm 3) yesT (callE none 2 c__law_dip (consA (varE 0) (consA (varE 2) nilA))) [3]) nilA)))
    nextS))))
def c__law_sector : CM := defM 4 b__law_sector
def N__law_cells : List Str := ["_law_tub_here", "_law_many", "_law_cell"]
def b__law_cells : SM := (seqS (asgS (callE none 2 c__law_choice (consA (varE 0) (consA (lstE (capA (consA (cstE (.int 0)) (consA (cstE (.int 1)) (consA (cstE (.int 2)) (consA (cstE (.int 12)) (consA (cstE (.int 13)) (consA (cstE (.int 14)) (consA (cstE (.int 26)) (consA (cstE (.int 27)) (consA (cstE (.int 39)) (consA (cstE (.int 51)) (consA (cstE (.int 52)) nilA))))))))))))) nilA))) (gNm 1))
    (seqS (retS (bltE tupleI (consA (lcI (rngIt (consA (varE 1) nilA)) (gNm 2) yesT (callE none 2 c__law_dip (consA (varE 0) (consA (callE none 2 c__law_choice (consA (varE 0) (consA (lstE (capA (consA (cstE (.int 2)) (consA (binE powI (cstE (.int 10)) (cstE (.int 18))) nilA)))) nilA))) nilA))) [2]) nilA)))
    nextS))
def c__law_cells : CM := defM 3 b__law_cells
def N__law_told : List Str := ["_law_place", "_law_block_here", "_law_made_here"]
def b__law_told : SM := (seqS (asgS (callE none 2 c__law_is_made (consA (varE 0) (consA (varE 1) nilA))) (gNm 2))
    (seqS (ifS (cmpT isnI (varE 2) (cstE .non)) (seqS (retS (binE addI (tupE (consA (cstE (.str "whole")) nilA)) (varE 2)))
    nextS) nextS)
    (seqS (ifS (cmpT inDct (cstE .non) (varE 1)) (seqS (retS (tupE (consA (cstE (.str "lost")) nilA)))
    nextS) nextS)
    (seqS (retS (iteE (cmpT eqDI (varE 1) (binE mulDI (tupE (consA (tupE nilA) nilA)) (cstE (.int 4)))) (tupE (consA (cstE (.str "blank")) nilA)) (tupE (consA (cstE (.str "torn")) nilA))))
    nextS))))
def c__law_told : CM := defM 3 b__law_told
def N__law_whole : List Str := ["_law_place", "_law_copies_here", "_law_edition", "_law_sectors", "_law_found", "_law_parts", "_law_part", "_law_marks", "_law_made_here", "_law_one", "_law_here", "_law_copy"]
def b__law_whole : SM := (seqS (parS 3 4 (consA (callE (some true) 1 c__law_readable (consA (varE 1) nilA)) (consA dct0R nilA)))
    (seqS (forS (anyIt (bltE ssetI (consA (lcI (anyIt (varE 3)) (gNm 9) (cmpT (ordE .Gt) (bltE lenI (consA (varE 9) nilA)) (cstE (.int 2))) (binE subD (varE 9) (cstE (.int 1))) [9]) nilA))) (gNm 2) (seqS (asgS (refE (capA nilA)) (gNm 5))
    (seqS (forS (rngIt (consA (cstE (.int 4)) nilA)) (gNm 6) (seqS (asgS (tupE (consA (varE 0) (consA (varE 2) (consA (varE 6) nilA)))) (gNm 7))
    (seqS (exprS (mthE "list" appM (varE 5) (consA (bltE ssetI (consA (lcI (anyIt (varE 1)) (gNm 11) (cmpT eqDI (sliE (orE (binE subD (varE 11) (varE 6)) (tupE nilA)) noneO (someO (cstE (.int 3)))) (varE 7)) (binE subD (varE 11) (varE 6)) [11]) nilA)) nilA)))
    nextS)))
    (seqS (ifS (cmpT eqDI (lcCI (refIt (varE 5)) (gNm 10) (cmpT neDI (bltE lenI (consA (varE 10) nilA)) (cstE (.int 1))) (cstE (.int 1)) [10]) (lstE (capA nilA))) (seqS (asgS (callE none 2 c__law_is_made (consA (varE 0) (consA (bltE tupleI (consA (lcCI (refIt (varE 5)) (gNm 10) yesT (binE subD (varE 10) (cstE (.int 0))) [10]) nilA)) nilA))) (gNm 8))
    (seqS (ifS (cmpT isnI (varE 8) (cstE .non)) (seqS (asgS (binE subD (varE 8) (cstE (.int 1))) (gSb putM (varE 4) (varE 2)))
    nextS) nextS)
    nextS)) nextS)
    nextS))))
    (seqS (retS (varE 4))
    nextS)))
def c__law_whole : CM := defM 12 b__law_whole
def N__law_copies : List Str := ["_law_tub_here", "_law_blocks", "_law_found", "_law_turn", "_law_block_here", "_law_part"]
def b__law_copies : SM := (seqS (asgS (refE (capA nilA)) (gNm 2))
    (seqS (forS (rngIt (consA (binE addI (cstE (.int 1)) (callE none 2 c__law_dip (consA (varE 0) (consA (cstE (.int 3)) nilA)))) nilA)) (gNm 3) (seqS (asgS (refE (capA nilA)) (gNm 4))
    (seqS (forS (rngIt (consA (cstE (.int 4)) nilA)) (gNm 5) (seqS (exprS (mthE "list" appM (varE 4) (consA (iteE (cmpT eqDI (callE none 2 c__law_dip (consA (varE 0) (consA (cstE (.int 9)) nilA))) (cstE (.int 0))) (cstE .non) (binE subD (callE none 2 c__law_choice (consA (varE 0) (consA (varE 1) nilA))) (varE 5))) nilA)))
    nextS))
    (seqS (exprS (mthE "list" appM (varE 2) (consA (bltE tupleI (consA (varE 4) nilA)) nilA)))
    nextS))))
    (seqS (retS (bltE tupleI (consA (varE 2) nilA)))
    nextS)))
def c__law_copies : CM := defM 6 b__law_copies
def N_is_filled : List Str := ["value", "cell"]
def b_is_filled : SM := (seqS (ifS (orT (notT (truT (bltE isaIB (consA (varE 0) (consA (cstE (.ty "tuple")) nilA))))) (cmpT (ordE .Gt) (bltE lenI (consA (varE 0) nilA)) (cstE (.int 16)))) (seqS (retS (cstE (.bl false)))
    nextS) nextS)
    (seqS (retS (bltE allI (consA (lcI (anyIt (varE 0)) (gNm 1) yesT (callE none 1 c_is_cell (consA (varE 1) nilA)) [1]) nilA)))
    nextS))
def c_is_filled : CM := defM 2 b_is_filled
def N_whole_in : List Str := ["place", "copies", "edition"]
def b_whole_in : SM := (seqS (retS (lcI (anyIt (callE (some true) 2 c_editions_at (consA (varE 0) (consA (varE 1) nilA)))) (gNm 2) (cmpT isnI (callE none 3 c_joined_cells (consA (varE 0) (consA (varE 1) (consA (varE 2) nilA)))) (cstE .non)) (varE 2) [2]))
    nextS)
def c_whole_in : CM := defM 3 b_whole_in
def N_require_block_place : List Str := ["place"]
def b_require_block_place : SM := (seqS (exprS (callE none 3 c_require_within (consA (varE 0) (consA (cstE (.int 0)) (consA (binE subI (cstE (.int 240)) (cstE (.int 1))) nilA)))))
    nextS)
def c_require_block_place : CM := defM 1 b_require_block_place
def N__law_block : List Str := ["_law_tub_here", "_law_part"]
def b__law_block : SM := (seqS (retS (bltE tupleI (consA (lcI (rngIt (consA (cstE (.int 4)) nilA)) (gNm 1) yesT (callE none 1 c__law_sector (consA (varE 0) nilA)) [1]) nilA)))
    nextS)
def c__law_block : CM := defM 2 b__law_block
def N__law_due : List Str := ["_law_place", "_law_copies_here", "_law_whole_here", "_law_part", "_law_left", "_law_sector_here", "_law_copy"]
def b__law_due : SM := (seqS (asgS (callE (some true) 2 c__law_whole (consA (varE 0) (consA (varE 1) nilA))) (gNm 2))
    (seqS (ifS (cmpT neDI (varE 2) dct0E) (seqS (retS (tupE (consA (cstE (.str "whole")) (consA (bltE maxDI (consA (varE 2) nilA)) (consA (binE subD (varE 2) (bltE maxDI (consA (varE 2) nilA))) nilA)))))
    nextS) nextS)
    (seqS (forS (rngIt (consA (cstE (.int 4)) nilA)) (gNm 3) (seqS (ifS (cmpT eqDI (lcI (anyIt (varE 1)) (gNm 6) (cmpT isnI (binE subD (varE 6) (varE 3)) (cstE .non)) (varE 6) [6]) (lstE (capA nilA))) (seqS (retS (tupE (consA (cstE (.str "lost")) nilA)))
    nextS) nextS)
    nextS))
    (seqS (asgS (lcI (anyIt (callE (some true) 1 c__law_readable (consA (varE 1) nilA))) (gNm 5) (cmpT neDI (varE 5) (tupE nilA)) (varE 5) [5]) (gNm 4))
    (seqS (retS (iteE (cmpT eqDI (varE 4) (lstE (capA nilA))) (tupE (consA (cstE (.str "blank")) nilA)) (tupE (consA (cstE (.str "torn")) nilA))))
    nextS)))))
def c__law_due : CM := defM 7 b__law_due
def N_is_sector : List Str := ["value"]
def b_is_sector : SM := (seqS (retS (orE (binE isI (varE 0) (cstE .non)) (callE none 1 c_is_filled (consA (varE 0) nilA))))
    nextS)
def c_is_sector : CM := defM 1 b_is_sector
def N_told_in : List Str := ["place", "copies", "whole", "readable", "part", "copy", "some", "sector"]
def b_told_in : SM := (seqS (asgS (callE none 2 c_whole_in (consA (varE 0) (consA (varE 1) nilA))) (gNm 2))
    (seqS (ifS (cmpT neDI (varE 2) (lstE (capA nilA))) (seqS (retS (tupE (consA (cstE (.str "whole")) (consA (binE subD (varE 2) (negE (cstE (.int 1)))) (consA (callE none 3 c_joined_cells (consA (varE 0) (consA (varE 1) (consA (binE subD (varE 2) (negE (cstE (.int 1)))) nilA)))) nilA)))))
    nextS) nextS)
    (seqS (asgS (lcI (rngIt (consA (cstE (.int 4)) nilA)) (gNm 4) yesT (lcI (anyIt (varE 1)) (gNm 5) (cmpT isnI (binE subD (varE 5) (varE 4)) (cstE .non)) (binE subD (varE 5) (varE 4)) [5]) [4]) (gNm 3))
    (seqS (ifS (cmpT inDct (lstE (capA nilA)) (varE 3)) (seqS (retS (tupE (consA (cstE (.str "lost")) nilA)))
    nextS) nextS)
    (seqS (ifS (truT (bltE allI (consA (lc2I (anyIt (varE 3)) (gNm 6) yesT (lstIt (varE 6)) (gNm 7) yesT (binE eqDI (varE 7) (tupE nilA)) [6, 7] [7]) nilA))) (seqS (retS (tupE (consA (cstE (.str "blank")) nilA)))
    nextS) nextS)
    (seqS (retS (tupE (consA (cstE (.str "torn")) nilA)))
    nextS))))))
def c_told_in : CM := defM 8 b_told_in
def N_made_block : List Str := ["place", "edition", "cells", "cell"]
def b_made_block : SM := (seqS (exprS (callE none 1 c_require_block_place (consA (varE 0) nilA)))
    (seqS (exprS (callE none 3 c_require_within (consA (varE 1) (consA (cstE (.int 1)) (consA (cstE (.int 999999999999999999)) nilA)))))
    (seqS (ifS (orT (notT (truT (bltE isaIB (consA (varE 2) (consA (cstE (.ty "tuple")) nilA))))) (cmpT (ordE .Gt) (bltE lenI (consA (varE 2) nilA)) (cstE (.int 52)))) noS nextS)
    (seqS (ifS (notT (truT (bltE allI (consA (lcI (anyIt (varE 2)) (gNm 3) yesT (callE none 1 c_is_cell (consA (varE 3) nilA)) [3]) nilA)))) noS nextS)
    (seqS (retS (callE none 3 c_made_in (consA (varE 0) (consA (varE 1) (consA (varE 2) nilA)))))
    nextS)))))
def c_made_block : CM := defM 4 b_made_block
def N__law_near : List Str := ["_law_tub_here", "_law_place", "_law_edition", "_law_cells_here", "_law_at", "_law_here", "_law_found", "_law_other", "_law_block_here", "_law_more", "_law_part"]
def b__law_near : SM := (seqS (parS 8 9 (consA (callE none 3 c__law_made (consA (varE 1) (consA (varE 2) (consA (varE 3) nilA)))) (consA (callE none 2 c__law_choice (consA (varE 0) (consA (lstE (capA (consA (cstE (.int 1)) (consA (cstE (.int 2)) (consA (binE powI (cstE (.int 10)) (cstE (.int 9))) nilA))))) nilA))) nilA)))
    (seqS (asgS (callE none 2 c__law_dip (consA (varE 0) (consA (cstE (.int 4)) nilA))) (gNm 4))
    (seqS (asgS (binE subD (varE 8) (varE 4)) (gNm 5))
    (seqS (asgS (refE (capA (consA (varE 8) (consA (revE (varE 8)) (consA (binE mulDI (tupE (consA (tupE nilA) nilA)) (cstE (.int 4))) (consA (binE mulDI (tupE (consA (cstE .non) nilA)) (cstE (.int 4))) (consA (callE none 3 c__law_with (consA (varE 8) (consA (varE 4) (consA (tupE nilA) nilA)))) (consA (callE none 3 c__law_with (consA (varE 8) (consA (varE 4) (consA (cstE .non) nilA)))) nilA)))))))) (gNm 6))
    (seqS (exprS (mthE "list" appM (varE 6) (consA (callE none 3 c__law_with (consA (varE 8) (consA (varE 4) (consA (binE addI (tupE (consA (binE addI (varE 1) (cstE (.int 1))) nilA)) (sliE (varE 5) (someO (cstE (.int 1))) noneO)) nilA)))) nilA)))
    (seqS (exprS (mthE "list" appM (varE 6) (consA (callE none 3 c__law_with (consA (varE 8) (consA (varE 4) (consA (binE addI (tupE (consA (varE 1) (consA (binE addI (varE 2) (varE 9)) nilA))) (sliE (varE 5) (someO (cstE (.int 2))) noneO)) nilA)))) nilA)))
    (seqS (exprS (mthE "list" appM (varE 6) (consA (callE none 3 c__law_with (consA (varE 8) (consA (varE 4) (consA (sliE (varE 5) noneO (someO (cstE (.int 2)))) nilA)))) nilA)))
    (seqS (exprS (mthE "list" appM (varE 6) (consA (callE none 3 c__law_with (consA (varE 8) (consA (varE 4) (consA (binE addI (binE addI (sliE (varE 5) noneO (someO (cstE (.int 3)))) (tupE (consA (cstE (.int 5)) nilA))) (sliE (varE 5) (someO (cstE (.int 4))) noneO)) nilA)))) nilA)))
    (seqS (exprS (mthE "list" appM (varE 6) (consA (callE none 3 c__law_with (consA (varE 8) (consA (varE 4) (consA (binE addI (binE addI (sliE (varE 5) noneO (someO (cstE (.int 2)))) (tupE (consA (binE modI (bltE intI (consA (binE addI (varE 4) (cstE (.int 1))) nilA)) (cstE (.int 4))) nilA))) (sliE (varE 5) (someO (cstE (.int 3))) noneO)) nilA)))) nilA)))
    (seqS (exprS (mthE "list" appM (varE 6) (consA (callE none 3 c__law_with (consA (varE 8) (consA (varE 4) (consA (sliE (binE addI (varE 5) (tupE (consA (cstE (.int 7)) nilA))) noneO (someO (cstE (.int 16)))) nilA)))) nilA)))
    (seqS (asgS (callE none 3 c__law_made (consA (varE 1) (consA (binE addI (varE 2) (varE 9)) (consA (callE none 1 c__law_cells (consA (varE 0) nilA)) nilA)))) (gNm 7))
    (seqS (asgS (binE addI (varE 6) (lstE (capA (consA (varE 7) (consA (binE addI (sliE (varE 8) noneO (someO (varE 4))) (sliE (varE 7) (someO (varE 4)) noneO)) (consA (callE none 1 c__law_block (consA (varE 0) nilA)) nilA)))))) (gNm 6))
    (seqS (retS (binE addI (varE 6) (lstE (capA (consA (bltE tupleI (consA (lcI (rngIt (consA (cstE (.int 4)) nilA)) (gNm 10) yesT (tupE (consA (varE 1) (consA (cstE (.int 0)) (consA (varE 10) nilA)))) [10]) nilA)) nilA)))))
    nextS)))))))))))))
def c__law_near : CM := defM 11 b__law_near
def N_is_block : List Str := ["value", "sector"]
def b_is_block : SM := (seqS (retS (andE (bltE isaIB (consA (varE 0) (consA (cstE (.ty "tuple")) nilA))) (andE (binE eqDI (bltE lenI (consA (varE 0) nilA)) (cstE (.int 4))) (bltE allI (consA (lcI (anyIt (varE 0)) (gNm 1) yesT (callE none 1 c_is_sector (consA (varE 1) nilA)) [1]) nilA)))))
    nextS)
def c_is_block : CM := defM 2 b_is_block
def N_require_copies : List Str := ["copies", "copy"]
def b_require_copies : SM := (seqS (ifS (orT (notT (truT (bltE isaIB (consA (varE 0) (consA (cstE (.ty "tuple")) nilA))))) (notT (chnT (ordE .LtE) (ordE .LtE) (cstE (.int 1)) (bltE lenI (consA (varE 0) nilA)) (cstE (.int 4))))) noS nextS)
    (seqS (ifS (notT (truT (bltE allI (consA (lcI (anyIt (varE 0)) (gNm 1) yesT (callE none 1 c_is_block (consA (varE 1) nilA)) [1]) nilA)))) noS nextS)
    nextS))
def c_require_copies : CM := defM 2 b_require_copies
def N_told_block : List Str := ["place", "block"]
def b_told_block : SM := (seqS (exprS (callE none 1 c_require_block_place (consA (varE 0) nilA)))
    (seqS (exprS (callE none 1 c_require_copies (consA (tupE (consA (varE 1) nilA)) nilA)))
    (seqS (retS (callE none 2 c_told_in (consA (varE 0) (consA (tupE (consA (varE 1) nilA)) nilA))))
    nextS)))
def c_told_block : CM := defM 2 b_told_block
def N_told_copies : List Str := ["place", "copies"]
def b_told_copies : SM := (seqS (exprS (callE none 1 c_require_block_place (consA (varE 0) nilA)))
    (seqS (exprS (callE none 1 c_require_copies (consA (varE 1) nilA)))
    (seqS (retS (callE none 2 c_told_in (consA (varE 0) (consA (varE 1) nilA))))
    nextS)))
def c_told_copies : CM := defM 2 b_told_copies
def N_whole_editions : List Str := ["place", "copies"]
def b_whole_editions : SM := (seqS (exprS (callE none 1 c_require_block_place (consA (varE 0) nilA)))
    (seqS (exprS (callE none 1 c_require_copies (consA (varE 1) nilA)))
    (seqS (retS (bltE tupleI (consA (callE none 2 c_whole_in (consA (varE 0) (consA (varE 1) nilA))) nilA)))
    nextS)))
def c_whole_editions : CM := defM 2 b_whole_editions
def N__law_losses_right : List Str := ["_law_tub_here", "_law_place", "_law_blocks", "_law_copies_here", "_law_ahead", "_law_less", "_law_left", "_law_kept", "_law_stays", "_law_at", "_law_part", "_law_copy", "_law_one", "_law_sector_here"]
def b__law_losses_right : SM := (seqS (asgS (callE (some true) 2 c__law_copies (consA (varE 0) (consA (varE 2) nilA))) (gNm 3))
    (seqS (asgS (callE none 2 c_whole_editions (consA (varE 1) (consA (varE 3) nilA))) (gNm 4))
    (seqS (asgS (tupE (consA (callE none 2 c__law_dip (consA (varE 0) (consA (bltE lenI (consA (varE 3) nilA)) nilA))) (consA (callE none 2 c__law_dip (consA (varE 0) (consA (cstE (.int 4)) nilA))) nilA))) (gTp 2 (gsCons (gNm 9) (gsCons (gNm 10) gsNil))))
    (seqS (asgS (binE addI (binE addI (sliE (varE 3) noneO (someO (varE 9))) (tupE (consA (callE none 3 c__law_with (consA (binE subD (varE 3) (varE 9)) (consA (varE 10) (consA (cstE .non) nilA)))) nilA))) (sliE (varE 3) (someO (binE addI (varE 9) (cstE (.int 1)))) noneO)) (gNm 5))
    (seqS (asgS (callE none 2 c_whole_editions (consA (varE 1) (consA (varE 5) nilA))) (gNm 6))
    (seqS (ifS (orT (cmpT neDI (lcI (anyIt (varE 6)) (gNm 12) (cmpT ninDct (varE 12) (varE 4)) (varE 12) [12]) (lstE (capA nilA))) (cmpT neDI (varE 6) (bltE tupleI (consA (bltE sortedI (consA (callE (some true) 2 c__law_whole (consA (varE 1) (consA (varE 5) nilA))) nilA)) nilA)))) (seqS (retS (cstE (.bl false)))
    nextS) nextS)
    (seqS (asgS (lcI (anyIt (varE 5)) (gNm 11) yesT (binE subD (varE 11) (varE 10)) [11]) (gNm 7))
    (seqS (asgS (lcI (anyIt (varE 4)) (gNm 12) (cmpT neDI (lcI (anyIt (varE 7)) (gNm 13) (cmpT eqDI (sliE (orE (varE 13) (tupE nilA)) noneO (someO (cstE (.int 2)))) (tupE (consA (varE 1) (consA (varE 12) nilA)))) (varE 13) [13]) (lstE (capA nilA))) (varE 12) [12]) (gNm 8))
    (seqS (retS (binE eqDI (varE 6) (bltE tupleI (consA (varE 8) nilA))))
    nextS)))))))))
def c__law_losses_right : CM := defM 14 b__law_losses_right
def N__law_right : List Str := ["_law_tub_here", "_law_edition", "_law_block_here", "_law_near_here", "_law_one", "_law_turn", "_law_lots", "_law_place", "_law_cells_here", "_law_further", "_law_blank", "_law_copies_here"]
def b__law_right : SM := (seqS (parS 7 8 (consA (callE none 2 c__law_dip (consA (varE 0) (consA (cstE (.int 240)) nilA))) (consA (callE none 1 c__law_cells (consA (varE 0) nilA)) nilA)))
    (seqS (asgS (binE addI (cstE (.int 1)) (callE none 2 c__law_dip (consA (varE 0) (consA (callE none 2 c__law_choice (consA (varE 0) (consA (lstE (capA (consA (cstE (.int 3)) (consA (binE powI (cstE (.int 10)) (cstE (.int 17))) nilA)))) nilA))) nilA)))) (gNm 1))
    (seqS (asgS (callE none 3 c_made_block (consA (varE 7) (consA (varE 1) (consA (varE 8) nilA)))) (gNm 2))
    (seqS (ifS (orT (cmpT neDI (varE 2) (callE none 3 c__law_made (consA (varE 7) (consA (varE 1) (consA (varE 8) nilA))))) (cmpT neDI (callE none 2 c_told_block (consA (varE 7) (consA (varE 2) nilA))) (tupE (consA (cstE (.str "whole")) (consA (varE 1) (consA (varE 8) nilA)))))) (seqS (retS (cstE (.bl false)))
    nextS) nextS)
    (seqS (asgS (callE (some true) 4 c__law_near (consA (varE 0) (consA (varE 7) (consA (varE 1) (consA (varE 8) nilA))))) (gNm 3))
    (seqS (forS (anyIt (varE 3)) (gNm 4) (seqS (ifS (orT (cmpT neDI (callE none 2 c_told_block (consA (varE 7) (consA (varE 4) nilA))) (callE none 2 c__law_told (consA (varE 7) (consA (varE 4) nilA)))) (cmpT neDI (callE none 2 c_told_copies (consA (varE 7) (consA (tupE (consA (varE 4) nilA)) nilA))) (callE none 2 c__law_told (consA (varE 7) (consA (varE 4) nilA))))) (seqS (retS (cstE (.bl false)))
    nextS) nextS)
    nextS))
    (seqS (parS 9 10 (consA (callE none 3 c__law_made (consA (varE 7) (consA (binE addI (varE 1) (cstE (.int 1))) (consA (callE none 1 c__law_cells (consA (varE 0) nilA)) nilA)))) (consA (binE mulDI (tupE (consA (tupE nilA) nilA)) (cstE (.int 4))) nilA)))
    (seqS (forS (rngIt (consA (cstE (.int 5)) nilA)) (gNm 5) (seqS (asgS (callE (some true) 2 c__law_copies (consA (varE 0) (consA (lstE (capA (consA (varE 2) (consA (callE none 2 c__law_choice (consA (varE 0) (consA (lstE (capA (consA (varE 9) (consA (varE 10) nilA)))) nilA))) (consA (callE none 2 c__law_choice (consA (varE 0) (consA (varE 3) nilA))) nilA))))) nilA))) (gNm 11))
    (seqS (ifS (cmpT neDI (callE none 2 c_told_copies (consA (varE 7) (consA (varE 11) nilA))) (callE none 2 c__law_due (consA (varE 7) (consA (varE 11) nilA)))) (seqS (retS (cstE (.bl false)))
    nextS) nextS)
    (seqS (ifS (cmpT neDI (callE none 2 c_whole_editions (consA (varE 7) (consA (varE 11) nilA))) (bltE tupleI (consA (bltE sortedI (consA (callE (some true) 2 c__law_whole (consA (varE 7) (consA (varE 11) nilA))) nilA)) nilA))) (seqS (retS (cstE (.bl false)))
    nextS) nextS)
    (seqS (ifS (notT (truT (callE none 3 c__law_losses_right (consA (varE 0) (consA (varE 7) (consA (lstE (capA (consA (varE 2) (consA (varE 9) (consA (varE 10) nilA))))) nilA)))))) (seqS (retS (cstE (.bl false)))
    nextS) nextS)
    nextS)))))
    (seqS (asgS (tupE (consA (tupE (consA (binE subD (varE 2) (cstE (.int 0))) (consA (cstE .non) (consA (cstE .non) (consA (binE subD (varE 2) (cstE (.int 3))) nilA))))) (consA (tupE (consA (cstE .non) (consA (binE subD (varE 2) (cstE (.int 1))) (consA (binE subD (varE 2) (cstE (.int 2))) (consA (cstE .non) nilA))))) nilA))) (gNm 6))
    (seqS (retS (binE eqDI (callE none 2 c_told_copies (consA (varE 7) (consA (varE 6) nilA))) (tupE (consA (cstE (.str "whole")) (consA (varE 1) (consA (varE 8) nilA))))))
    nextS))))))))))
def c__law_right : CM := defM 12 b__law_right
def N_law : List Str := ["_law_script", "_law_spot", "_law_copies_here", "_law_tub_here", "_law_one", "_law_two"]
def b_law : SM := (seqS (forS (rngIt (consA (bltE maxI (consA (cstE (.int 1)) (consA (bltE minI (consA (cstE (.int 3)) (consA (bltE lenI (consA (varE 0) nilA)) nilA))) nilA))) nilA)) (gNm 1) (seqS (asgS (callE (some false) 2 c__law_tub (consA (varE 0) (consA (varE 1) nilA))) (gNm 3))
    (seqS (ifS (orT (notT (truT (callE none 1 c__law_right (consA (varE 3) nilA)))) (notT (truT (callE none 1 c__law_right (consA (varE 3) nilA))))) (seqS (retS (cstE (.bl false)))
    nextS) nextS)
    nextS)))
    (seqS (parS 4 5 (consA (callE none 3 c_made_block (consA (cstE (.int 9)) (consA (cstE (.int 3)) (consA (tupE (consA (cstE (.int 1)) nilA)) nilA)))) (consA (callE none 3 c_made_block (consA (cstE (.int 9)) (consA (cstE (.int 4)) (consA (tupE nilA) nilA)))) nilA)))
    (seqS (asgS (tupE (consA (binE addI (sliE (varE 4) noneO (someO (cstE (.int 2)))) (sliE (varE 5) (someO (cstE (.int 2))) noneO)) (consA (binE addI (sliE (varE 5) noneO (someO (cstE (.int 2)))) (sliE (varE 4) (someO (cstE (.int 2))) noneO)) nilA))) (gNm 2))
    (seqS (ifS (orT (cmpT neDI (callE none 2 c_whole_editions (consA (cstE (.int 9)) (consA (varE 2) nilA))) (tupE (consA (cstE (.int 3)) (consA (cstE (.int 4)) nilA)))) (cmpT neDI (callE none 2 c_told_copies (consA (cstE (.int 9)) (consA (varE 2) nilA))) (tupE (consA (cstE (.str "whole")) (consA (cstE (.int 4)) (consA (tupE nilA) nilA)))))) (seqS (retS (cstE (.bl false)))
    nextS) nextS)
    (seqS (ifS (orT (cmpT neDI (binE subD (callE none 2 c_told_copies (consA (cstE (.int 9)) (consA (tupE (consA (varE 4) (consA (binE addI (sliE (varE 5) noneO (someO (cstE (.int 3)))) (tupE (consA (cstE .non) nilA))) nilA))) nilA))) (cstE (.int 1))) (cstE (.int 3))) (cmpT neDI (callE none 2 c_whole_editions (consA (cstE (.int 8)) (consA (varE 2) nilA))) (tupE nilA))) (seqS (retS (cstE (.bl false)))
    nextS) nextS)
    (seqS (retS (andE (binE eqDI (callE none 2 c_told_block (consA (cstE (.int 8)) (consA (varE 4) nilA))) (tupE (consA (cstE (.str "torn")) nilA))) (binE eqDI (callE none 2 c_told_block (consA (cstE (.int 9)) (consA (binE addI (tupE (consA (cstE .non) nilA)) (sliE (varE 4) (someO (cstE (.int 1))) noneO)) nilA))) (tupE (consA (cstE (.str "lost")) nilA)))))
    nextS))))))
def c_law : CM := defM 6 b_law
structure Tab (K : PySem.W.Frag) (mg : Str → Option Value) : Prop where
  fr_abs : mg "abs" = none
  fr_all : mg "all" = none
  fr_bool : mg "bool" = none
  fr_enumerate : mg "enumerate" = none
  fr_int : mg "int" = none
  fr_isinstance : mg "isinstance" = none
  fr_len : mg "len" = none
  fr_list : mg "list" = none
  fr_max : mg "max" = none
  fr_min : mg "min" = none
  fr_range : mg "range" = none
  fr_set : mg "set" = none
  fr_sorted : mg "sorted" = none
  fr_tuple : mg "tuple" = none
  in_MARKS : ∃ t, mg "MARKS" = some (.int 3 t)
  in_MAX_CELL : ∃ t, mg "MAX_CELL" = some (.int 999999999999999999 t)
  in_MOST_BLOCKS : ∃ t, mg "MOST_BLOCKS" = some (.int 240 t)
  in_MOST_CELLS_blocks : ∃ t, mg "MOST_CELLS_blocks" = some (.int 52 t)
  in_MOST_CELLS_disks : ∃ t, mg "MOST_CELLS_disks" = some (.int 16 t)
  in_MOST_COPIES : ∃ t, mg "MOST_COPIES" = some (.int 4 t)
  in_PARTS : ∃ t, mg "PARTS" = some (.int 4 t)
  in_PART_CELLS : ∃ t, mg "PART_CELLS" = some (.int 13 t)
  in_BLANK : ∃ t, mg "BLANK" = some (.str "blank" t)
  in_LOST : ∃ t, mg "LOST" = some (.str "lost" t)
  in_TORN : ∃ t, mg "TORN" = some (.str "torn" t)
  in_WHOLE : ∃ t, mg "WHOLE" = some (.str "whole" t)
  fn_is_whole : mg "is_whole" = some (.ref (He.ga K "is_whole")) ∧ ∃ fd, FunD K "is_whole" "is_whole" (defArgs (top 6)) (defBody (top 6)) (defScope (top 6)) [] [] (He.ga K "is_whole") fd
  fn_made_in : mg "made_in" = some (.ref (He.ga K "made_in")) ∧ ∃ fd, FunD K "made_in" "made_in" (defArgs (top 26)) (defBody (top 26)) (defScope (top 26)) [] [] (He.ga K "made_in") fd
  fn_fits : mg "fits" = some (.ref (He.ga K "fits")) ∧ ∃ fd, FunD K "fits" "fits" (defArgs (top 27)) (defBody (top 27)) (defScope (top 27)) [] [] (He.ga K "fits") fd
  fn__law_tub : mg "_law_tub" = some (.ref (He.ga K "_law_tub")) ∧ ∃ fd, FunD K "_law_tub" "_law_tub" (defArgs (top 40)) (defBody (top 40)) (defScope (top 40)) [] [] (He.ga K "_law_tub") fd
  fn__law_dip : mg "_law_dip" = some (.ref (He.ga K "_law_dip")) ∧ ∃ fd, FunD K "_law_dip" "_law_dip" (defArgs (top 41)) (defBody (top 41)) (defScope (top 41)) [] [] (He.ga K "_law_dip") fd
  fn__law_made : mg "_law_made" = some (.ref (He.ga K "_law_made")) ∧ ∃ fd, FunD K "_law_made" "_law_made" (defArgs (top 45)) (defBody (top 45)) (defScope (top 45)) [] [] (He.ga K "_law_made") fd
  fn__law_with : mg "_law_with" = some (.ref (He.ga K "_law_with")) ∧ ∃ fd, FunD K "_law_with" "_law_with" (defArgs (top 49)) (defBody (top 49)) (defScope (top 49)) [] [] (He.ga K "_law_with") fd
  fn__law_readable : mg "_law_readable" = some (.ref (He.ga K "_law_readable")) ∧ ∃ fd, FunD K "_law_readable" "_law_readable" (defArgs (top 51)) (defBody (top 51)) (defScope (top 51)) [] [] (He.ga K "_law_readable") fd
  fn_is_within_bounds : mg "is_within_bounds" = some (.ref (He.ga K "is_within_bounds")) ∧ ∃ fd, FunD K "is_within_bounds" "is_within_bounds" (defArgs (top 7)) (defBody (top 7)) (defScope (top 7)) [] [] (He.ga K "is_within_bounds") fd
  fn_editions_at : mg "editions_at" = some (.ref (He.ga K "editions_at")) ∧ ∃ fd, FunD K "editions_at" "editions_at" (defArgs (top 28)) (defBody (top 28)) (defScope (top 28)) [] [] (He.ga K "editions_at") fd
  fn_values_of : mg "values_of" = some (.ref (He.ga K "values_of")) ∧ ∃ fd, FunD K "values_of" "values_of" (defArgs (top 29)) (defBody (top 29)) (defScope (top 29)) [] [] (He.ga K "values_of") fd
  fn__law_choice : mg "_law_choice" = some (.ref (He.ga K "_law_choice")) ∧ ∃ fd, FunD K "_law_choice" "_law_choice" (defArgs (top 42)) (defBody (top 42)) (defScope (top 42)) [] [] (He.ga K "_law_choice") fd
  fn__law_is_made : mg "_law_is_made" = some (.ref (He.ga K "_law_is_made")) ∧ ∃ fd, FunD K "_law_is_made" "_law_is_made" (defArgs (top 47)) (defBody (top 47)) (defScope (top 47)) [] [] (He.ga K "_law_is_made") fd
  fn_require_within : mg "require_within" = some (.ref (He.ga K "require_within")) ∧ ∃ fd, FunD K "require_within" "require_within" (defArgs (top 8)) (defBody (top 8)) (defScope (top 8)) [] [] (He.ga K "require_within") fd
  fn_is_cell : mg "is_cell" = some (.ref (He.ga K "is_cell")) ∧ ∃ fd, FunD K "is_cell" "is_cell" (defArgs (top 9)) (defBody (top 9)) (defScope (top 9)) [] [] (He.ga K "is_cell") fd
  fn_joined_cells : mg "joined_cells" = some (.ref (He.ga K "joined_cells")) ∧ ∃ fd, FunD K "joined_cells" "joined_cells" (defArgs (top 30)) (defBody (top 30)) (defScope (top 30)) [] [] (He.ga K "joined_cells") fd
  fn__law_sector : mg "_law_sector" = some (.ref (He.ga K "_law_sector")) ∧ ∃ fd, FunD K "_law_sector" "_law_sector" (defArgs (top 43)) (defBody (top 43)) (defScope (top 43)) [] [] (He.ga K "_law_sector") fd
  fn__law_cells : mg "_law_cells" = some (.ref (He.ga K "_law_cells")) ∧ ∃ fd, FunD K "_law_cells" "_law_cells" (defArgs (top 46)) (defBody (top 46)) (defScope (top 46)) [] [] (He.ga K "_law_cells") fd
  fn__law_told : mg "_law_told" = some (.ref (He.ga K "_law_told")) ∧ ∃ fd, FunD K "_law_told" "_law_told" (defArgs (top 48)) (defBody (top 48)) (defScope (top 48)) [] [] (He.ga K "_law_told") fd
  fn__law_whole : mg "_law_whole" = some (.ref (He.ga K "_law_whole")) ∧ ∃ fd, FunD K "_law_whole" "_law_whole" (defArgs (top 52)) (defBody (top 52)) (defScope (top 52)) [] [] (He.ga K "_law_whole") fd
  fn__law_copies : mg "_law_copies" = some (.ref (He.ga K "_law_copies")) ∧ ∃ fd, FunD K "_law_copies" "_law_copies" (defArgs (top 54)) (defBody (top 54)) (defScope (top 54)) [] [] (He.ga K "_law_copies") fd
  fn_is_filled : mg "is_filled" = some (.ref (He.ga K "is_filled")) ∧ ∃ fd, FunD K "is_filled" "is_filled" (defArgs (top 14)) (defBody (top 14)) (defScope (top 14)) [] [] (He.ga K "is_filled") fd
  fn_whole_in : mg "whole_in" = some (.ref (He.ga K "whole_in")) ∧ ∃ fd, FunD K "whole_in" "whole_in" (defArgs (top 31)) (defBody (top 31)) (defScope (top 31)) [] [] (He.ga K "whole_in") fd
  fn_require_block_place : mg "require_block_place" = some (.ref (He.ga K "require_block_place")) ∧ ∃ fd, FunD K "require_block_place" "require_block_place" (defArgs (top 33)) (defBody (top 33)) (defScope (top 33)) [] [] (He.ga K "require_block_place") fd
  fn__law_block : mg "_law_block" = some (.ref (He.ga K "_law_block")) ∧ ∃ fd, FunD K "_law_block" "_law_block" (defArgs (top 44)) (defBody (top 44)) (defScope (top 44)) [] [] (He.ga K "_law_block") fd
  fn__law_due : mg "_law_due" = some (.ref (He.ga K "_law_due")) ∧ ∃ fd, FunD K "_law_due" "_law_due" (defArgs (top 53)) (defBody (top 53)) (defScope (top 53)) [] [] (He.ga K "_law_due") fd
  fn_is_sector : mg "is_sector" = some (.ref (He.ga K "is_sector")) ∧ ∃ fd, FunD K "is_sector" "is_sector" (defArgs (top 15)) (defBody (top 15)) (defScope (top 15)) [] [] (He.ga K "is_sector") fd
  fn_told_in : mg "told_in" = some (.ref (He.ga K "told_in")) ∧ ∃ fd, FunD K "told_in" "told_in" (defArgs (top 32)) (defBody (top 32)) (defScope (top 32)) [] [] (He.ga K "told_in") fd
  fn_made_block : mg "made_block" = some (.ref (He.ga K "made_block")) ∧ ∃ fd, FunD K "made_block" "made_block" (defArgs (top 35)) (defBody (top 35)) (defScope (top 35)) [] [] (He.ga K "made_block") fd
  fn__law_near : mg "_law_near" = some (.ref (He.ga K "_law_near")) ∧ ∃ fd, FunD K "_law_near" "_law_near" (defArgs (top 50)) (defBody (top 50)) (defScope (top 50)) [] [] (He.ga K "_law_near") fd
  fn_is_block : mg "is_block" = some (.ref (He.ga K "is_block")) ∧ ∃ fd, FunD K "is_block" "is_block" (defArgs (top 16)) (defBody (top 16)) (defScope (top 16)) [] [] (He.ga K "is_block") fd
  fn_require_copies : mg "require_copies" = some (.ref (He.ga K "require_copies")) ∧ ∃ fd, FunD K "require_copies" "require_copies" (defArgs (top 34)) (defBody (top 34)) (defScope (top 34)) [] [] (He.ga K "require_copies") fd
  fn_told_block : mg "told_block" = some (.ref (He.ga K "told_block")) ∧ ∃ fd, FunD K "told_block" "told_block" (defArgs (top 36)) (defBody (top 36)) (defScope (top 36)) [] [] (He.ga K "told_block") fd
  fn_told_copies : mg "told_copies" = some (.ref (He.ga K "told_copies")) ∧ ∃ fd, FunD K "told_copies" "told_copies" (defArgs (top 37)) (defBody (top 37)) (defScope (top 37)) [] [] (He.ga K "told_copies") fd
  fn_whole_editions : mg "whole_editions" = some (.ref (He.ga K "whole_editions")) ∧ ∃ fd, FunD K "whole_editions" "whole_editions" (defArgs (top 38)) (defBody (top 38)) (defScope (top 38)) [] [] (He.ga K "whole_editions") fd
  fn__law_losses_right : mg "_law_losses_right" = some (.ref (He.ga K "_law_losses_right")) ∧ ∃ fd, FunD K "_law_losses_right" "_law_losses_right" (defArgs (top 55)) (defBody (top 55)) (defScope (top 55)) [] [] (He.ga K "_law_losses_right") fd
  fn__law_right : mg "_law_right" = some (.ref (He.ga K "_law_right")) ∧ ∃ fd, FunD K "_law_right" "_law_right" (defArgs (top 56)) (defBody (top 56)) (defScope (top 56)) [] [] (He.ga K "_law_right") fd
  fn_law : mg "law" = some (.ref (He.ga K "law")) ∧ ∃ fd, FunD K "law" "law" (defArgs (top 57)) (defBody (top 57)) (defScope (top 57)) [] [] (He.ga K "law") fd
section
variable {Pr : Program} {w : World} {K : PySem.W.Frag} {mg : Str → Option Value} {base : Heap} {G : Nat → Addr}
theorem sc_is_whole : FnScope N_is_whole ["value"] (defScope (top 6)) := ⟨rfl, rfl, rfl, by decide +kernel, rfl, by decide +kernel, by decide +kernel⟩
theorem body_is_whole (T : Tab K mg) (av : List Addr) (fA : Addr) (cdv : Value) (A : Around) (outer : List Env) (s : Shared) (H : Hp) (E : XK) (hr : Room 0 (A.deeper (envOfC "is_whole" (defScope (top 6)) s.heap.objs.size fA cdv))) :
    PSs (cxOf (L2.CX Pr w) Pr w K mg base N_is_whole "is_whole" (defScope (top 6)) fA cdv A outer s H E) (defBody (top 6)) (tS ((PP K G w).at av) (fun c d _ H => E c d H) b_is_whole) := by
  have hu := units65 hr
  have hu4 := hr.units
  have sc := sc_is_whole
  have pa := passes_of (X := cxOf (L2.CX Pr w) Pr w K mg base N_is_whole "is_whole" (defScope (top 6)) fA cdv A outer s H E) rfl
  have tk := takes_of (X := cxOf (L2.CX Pr w) Pr w K mg base N_is_whole "is_whole" (defScope (top 6)) fA cdv A outer s H E) rfl rfl rfl rfl
  unfold b_is_whole
  exact (pss_consI (ps_retI (pe_andI rfl (pe_bltI (cr_isaI rfl) rfl T.fr_isinstance boot_isinstance (pa_consI (pe_varI (pe_var rfl (by first | exact Or.inl rfl | exact Or.inr (Or.inl rfl) | exact Or.inr (Or.inr rfl)) rfl rfl)) (pa_consI (pe_cstI (pe_bltn (v := .ty "int") (u := .type "int") rfl T.fr_int boot_int rfl (by decide) rfl) fun _ _ => VR.t) pa_nilI rfl) rfl) (by decide) rfl rfl rfl) (pe_one (pe_notI rfl (pe_bltI (cr_isaI rfl) rfl T.fr_isinstance boot_isinstance (pa_consI (pe_varI (pe_var rfl (by first | exact Or.inl rfl | exact Or.inr (Or.inl rfl) | exact Or.inr (Or.inr rfl)) rfl rfl)) (pa_consI (pe_cstI (pe_bltn (v := .ty "bool") (u := .type "bool") rfl T.fr_bool boot_bool rfl (by decide) rfl) fun _ _ => VR.t) pa_nilI rfl) rfl) (by decide) rfl rfl rfl)))))
    pss_nilI)
theorem ok_is_whole (T : Tab K mg) : FnI Pr w K mg base (PP K G w) "is_whole" 1 1 c_is_whole := by
  obtain ⟨hm, fd, F⟩ := T.fn_is_whole
  exact FnI.all (ps := ["value"]) (fn_okI (P := PP K G w) (f := b_is_whole) (N := N_is_whole) (ps := ["value"]) F sc_is_whole fun av cdv A outer s H E hr => body_is_whole T  av _ cdv A outer s H E hr) hm F.kp (F.bindsN fun _ _ _ _ _ _ us hl => match us, hl with | [_], _ => by kernel_rfl)
theorem sc_made_in : FnScope N_made_in ["place", "edition", "cells"] (defScope (top 26)) := ⟨rfl, rfl, rfl, by decide +kernel, rfl, by decide +kernel, by decide +kernel⟩
theorem body_made_in (T : Tab K mg) (av : List Addr) (fA : Addr) (cdv : Value) (A : Around) (outer : List Env) (s : Shared) (H : Hp) (E : XK) (hr : Room 0 (A.deeper (envOfC "made_in" (defScope (top 26)) s.heap.objs.size fA cdv))) :
    PSs (cxOf (L2.CX Pr w) Pr w K mg base N_made_in "made_in" (defScope (top 26)) fA cdv A outer s H E) (defBody (top 26)) (tS ((PP K G w).at av) (fun c d _ H => E c d H) b_made_in) := by
  have hu := units65 hr
  have hu4 := hr.units
  have sc := sc_made_in
  have pa := passes_of (X := cxOf (L2.CX Pr w) Pr w K mg base N_made_in "made_in" (defScope (top 26)) fA cdv A outer s H E) rfl
  have tk := takes_of (X := cxOf (L2.CX Pr w) Pr w K mg base N_made_in "made_in" (defScope (top 26)) fA cdv A outer s H E) rfl rfl rfl rfl
  unfold b_made_in
  exact (pss_consI (ps_setLcI [("part", 4)] rfl sc.nd rfl rfl (sw_true rfl rfl rfl rfl) (pi_rngI rfl T.fr_range (pa_consI (pe_cstI (pe_glob (v := .int 4) rfl T.in_PARTS.choose_spec ⟨_, rfl⟩ rfl) fun _ _ => VR.i) pa_nilI rfl) rfl) (blkOk_by (by kernel_rfl)) (fun _ => rfl) (fun _ _ _ _ _ _ => (pg_nmW (by decide) (pg_name sc.nd rfl (by first | exact Or.inl rfl | exact Or.inr rfl) (by first | exact Or.inl rfl | exact Or.inr rfl)))) (fun _ _ _ _ _ _ => pts_nilI) (fun _ _ _ _ _ _ => (pe_binI (op_mulDI rfl) (pe_cstI (pe_glob (v := .int 13) rfl T.in_PART_CELLS.choose_spec ⟨_, rfl⟩ rfl) fun _ _ => VR.i) (pe_varI (pe_var rfl (by first | exact Or.inl rfl | exact Or.inr (Or.inl rfl) | exact Or.inr (Or.inr rfl)) rfl rfl)))))
    (pss_consI (ps_retI (pe_tyI (cr_tupleI rfl) rfl T.fr_tuple boot_tuple (pa_consI (pe_lcI [("part", 4), ("start", 5)] rfl sc.nd (pi_enuI rfl rfl T.fr_enumerate (pa_consI (pe_varI (pe_var rfl (by first | exact Or.inl rfl | exact Or.inr (Or.inl rfl) | exact Or.inr (Or.inr rfl)) rfl rfl)) pa_nilI rfl) rfl) (blkOk_by (by kernel_rfl)) (fun _ => rfl) (fun _ _ _ _ _ _ => (pg_tupW rfl rfl (pgs_consW (pg_nmW (by decide) (pg_name sc.nd rfl (by first | exact Or.inl rfl | exact Or.inr rfl) (by first | exact Or.inl rfl | exact Or.inr rfl))) (pgs_consW (pg_nmW (by decide) (pg_name sc.nd rfl (by first | exact Or.inl rfl | exact Or.inr rfl) (by first | exact Or.inl rfl | exact Or.inr rfl))) pgs_nilW rfl) rfl) rfl rfl)) (fun _ _ _ _ _ _ => pts_nilI) (fun _ _ _ _ _ _ => (pe_tupI (pa_consI (pe_varI (pe_var rfl (by first | exact Or.inl rfl | exact Or.inr (Or.inl rfl) | exact Or.inr (Or.inr rfl)) rfl rfl)) (pa_consI (pe_varI (pe_var rfl (by first | exact Or.inl rfl | exact Or.inr (Or.inl rfl) | exact Or.inr (Or.inr rfl)) rfl rfl)) (pa_consI (pe_varI (pe_var rfl (by first | exact Or.inl rfl | exact Or.inr (Or.inl rfl) | exact Or.inr (Or.inr rfl)) rfl rfl)) (pa_starI rfl (pe_sliI rfl (pe_varI (pe_var rfl (by first | exact Or.inl rfl | exact Or.inr (Or.inl rfl) | exact Or.inr (Or.inr rfl)) rfl rfl)) (po_someI (pe_varI (pe_var rfl (by first | exact Or.inl rfl | exact Or.inr (Or.inl rfl) | exact Or.inr (Or.inr rfl)) rfl rfl))) (po_someI (pe_binI (op_addI rfl) (pe_varI (pe_var rfl (by first | exact Or.inl rfl | exact Or.inr (Or.inl rfl) | exact Or.inr (Or.inr rfl)) rfl rfl)) (pe_cstI (pe_glob (v := .int 13) rfl T.in_PART_CELLS.choose_spec ⟨_, rfl⟩ rfl) fun _ _ => VR.i)))) pa_nilI) rfl) rfl) rfl)))) pa_nilI rfl) (by decide) rfl rfl rfl))
    pss_nilI))
theorem ok_made_in (T : Tab K mg) : FnI Pr w K mg base (PP K G w) "made_in" 1 3 c_made_in := by
  obtain ⟨hm, fd, F⟩ := T.fn_made_in
  exact FnI.all (ps := ["place", "edition", "cells"]) (fn_okI (P := PP K G w) (f := b_made_in) (N := N_made_in) (ps := ["place", "edition", "cells"]) F sc_made_in fun av cdv A outer s H E hr => body_made_in T  av _ cdv A outer s H E hr) hm F.kp (F.bindsN fun _ _ _ _ _ _ us hl => match us, hl with | [_, _, _], _ => by kernel_rfl)
theorem sc_fits : FnScope N_fits ["place", "part", "sector"] (defScope (top 27)) := ⟨rfl, rfl, rfl, by decide +kernel, rfl, by decide +kernel, by decide +kernel⟩
theorem body_fits (T : Tab K mg) (av : List Addr) (fA : Addr) (cdv : Value) (A : Around) (outer : List Env) (s : Shared) (H : Hp) (E : XK) (hr : Room 0 (A.deeper (envOfC "fits" (defScope (top 27)) s.heap.objs.size fA cdv))) :
    PSs (cxOf (L2.CX Pr w) Pr w K mg base N_fits "fits" (defScope (top 27)) fA cdv A outer s H E) (defBody (top 27)) (tS ((PP K G w).at av) (fun c d _ H => E c d H) b_fits) := by
  have hu := units65 hr
  have hu4 := hr.units
  have sc := sc_fits
  have pa := passes_of (X := cxOf (L2.CX Pr w) Pr w K mg base N_fits "fits" (defScope (top 27)) fA cdv A outer s H E) rfl
  have tk := takes_of (X := cxOf (L2.CX Pr w) Pr w K mg base N_fits "fits" (defScope (top 27)) fA cdv A outer s H E) rfl rfl rfl rfl
  unfold b_fits
  exact (pss_consI (ps_ifI (PW.pt (pw_orI (pt_cmpI (op_isI) (pe_varI (pe_var rfl (by first | exact Or.inl rfl | exact Or.inr (Or.inl rfl) | exact Or.inr (Or.inr rfl)) rfl rfl)) (pe_cstI pe_non fun _ _ => VR.n) rfl) (pw_or1 (pt_cmpI (op_ordI rfl hu4) (pe_bltI (cr_lenI rfl) rfl T.fr_len boot_len (pa_consI (pe_varI (pe_var rfl (by first | exact Or.inl rfl | exact Or.inr (Or.inl rfl) | exact Or.inr (Or.inr rfl)) rfl rfl)) pa_nilI rfl) (by decide) rfl rfl rfl) (pe_cstI (pe_glob (v := .int 3) rfl T.in_MARKS.choose_spec ⟨_, rfl⟩ rfl) fun _ _ => VR.i) rfl)))) (pss_consI (ps_retI (pe_cstI pe_bl fun _ _ => VR.b))
    pss_nilI) pss_nilI)
    (pss_consI (ps_retI (pe_andI rfl (pe_cmpI (op_eqDI rfl rfl hu4) (pe_subD rfl rfl hu (pe_varI (pe_var rfl (by first | exact Or.inl rfl | exact Or.inr (Or.inl rfl) | exact Or.inr (Or.inr rfl)) rfl rfl)) (pe_cstI pe_int fun _ _ => VR.i) fun _ _ => rfl) (pe_varI (pe_var rfl (by first | exact Or.inl rfl | exact Or.inr (Or.inl rfl) | exact Or.inr (Or.inr rfl)) rfl rfl)) rfl) (pe_andI rfl (pe_cmpI (op_ordI rfl hu4) (pe_subD rfl rfl hu (pe_varI (pe_var rfl (by first | exact Or.inl rfl | exact Or.inr (Or.inl rfl) | exact Or.inr (Or.inr rfl)) rfl rfl)) (pe_cstI pe_int fun _ _ => VR.i) fun _ _ => rfl) (pe_cstI pe_int fun _ _ => VR.i) rfl) (pe_one (pe_cmpI (op_eqDI rfl rfl hu4) (pe_subD rfl rfl hu (pe_varI (pe_var rfl (by first | exact Or.inl rfl | exact Or.inr (Or.inl rfl) | exact Or.inr (Or.inr rfl)) rfl rfl)) (pe_cstI pe_int fun _ _ => VR.i) fun _ _ => rfl) (pe_varI (pe_var rfl (by first | exact Or.inl rfl | exact Or.inr (Or.inl rfl) | exact Or.inr (Or.inr rfl)) rfl rfl)) rfl)))))
    pss_nilI))
theorem ok_fits (T : Tab K mg) : FnI Pr w K mg base (PP K G w) "fits" 1 3 c_fits := by
  obtain ⟨hm, fd, F⟩ := T.fn_fits
  exact FnI.all (ps := ["place", "part", "sector"]) (fn_okI (P := PP K G w) (f := b_fits) (N := N_fits) (ps := ["place", "part", "sector"]) F sc_fits fun av cdv A outer s H E hr => body_fits T  av _ cdv A outer s H E hr) hm F.kp (F.bindsN fun _ _ _ _ _ _ us hl => match us, hl with | [_, _, _], _ => by kernel_rfl)
theorem sc__law_tub : FnScope N__law_tub ["_law_script", "_law_spot"] (defScope (top 40)) := ⟨rfl, rfl, rfl, by decide +kernel, rfl, by decide +kernel, by decide +kernel⟩
theorem body__law_tub (T : Tab K mg) (av : List Addr) (fA : Addr) (cdv : Value) (A : Around) (outer : List Env) (s : Shared) (H : Hp) (E : XK) (hr : Room 0 (A.deeper (envOfC "_law_tub" (defScope (top 40)) s.heap.objs.size fA cdv))) :
    PSs (cxOf (L2.CX Pr w) Pr w K mg base N__law_tub "_law_tub" (defScope (top 40)) fA cdv A outer s H E) (defBody (top 40)) (tS ((PP K G w).at av) (fun c d _ H => E c d H) b__law_tub) := by
  have hu := units65 hr
  have hu4 := hr.units
  have sc := sc__law_tub
  have pa := passes_of (X := cxOf (L2.CX Pr w) Pr w K mg base N__law_tub "_law_tub" (defScope (top 40)) fA cdv A outer s H E) rfl
  have tk := takes_of (X := cxOf (L2.CX Pr w) Pr w K mg base N__law_tub "_law_tub" (defScope (top 40)) fA cdv A outer s H E) rfl rfl rfl rfl
  unfold b__law_tub
  exact (pss_consI (ps_asgI (pe_iteI (pt_cmpI (op_ordI rfl hu4) (pe_varI (pe_var rfl (by first | exact Or.inl rfl | exact Or.inr (Or.inl rfl) | exact Or.inr (Or.inr rfl)) rfl rfl)) (pe_bltI (cr_lenI rfl) rfl T.fr_len boot_len (pa_consI (pe_varI (pe_var rfl (by first | exact Or.inl rfl | exact Or.inr (Or.inl rfl) | exact Or.inr (Or.inr rfl)) rfl rfl)) pa_nilI rfl) (by decide) rfl rfl rfl) rfl) (pe_tyI (cr_intI) rfl T.fr_int boot_int (pa_consI (pe_subD rfl rfl hu (pe_varI (pe_var rfl (by first | exact Or.inl rfl | exact Or.inr (Or.inl rfl) | exact Or.inr (Or.inr rfl)) rfl rfl)) (pe_varI (pe_var rfl (by first | exact Or.inl rfl | exact Or.inr (Or.inl rfl) | exact Or.inr (Or.inr rfl)) rfl rfl)) fun _ _ => rfl) pa_nilI rfl) (by decide) rfl rfl rfl) (pe_binI (op_addI rfl) (pe_binI (op_mulDI rfl) (pe_cstI pe_int fun _ _ => VR.i) (pe_varI (pe_var rfl (by first | exact Or.inl rfl | exact Or.inr (Or.inl rfl) | exact Or.inr (Or.inr rfl)) rfl rfl))) (pe_cstI pe_int fun _ _ => VR.i))) (pg_nmI (pg_name sc.nd rfl (by first | exact Or.inl rfl | exact Or.inr rfl) (by first | exact Or.inl rfl | exact Or.inr rfl))) rfl rfl rfl)
    (pss_consI (ps_asgI (pe_binI (op_modI) (pe_tyI (cr_intI) rfl T.fr_int boot_int (pa_consI (pe_bltI (cr_absI) rfl T.fr_abs boot_abs (pa_consI (pe_varI (pe_var rfl (by first | exact Or.inl rfl | exact Or.inr (Or.inl rfl) | exact Or.inr (Or.inr rfl)) rfl rfl)) pa_nilI rfl) (by decide) rfl rfl rfl) pa_nilI rfl) (by decide) rfl rfl rfl) (pe_binI (op_mulDI rfl) (pe_binI (op_powI) (pe_cstI pe_int fun _ _ => VR.i) (pe_cstI pe_int fun _ _ => VR.i)) (pe_binI (op_powI) (pe_cstI pe_int fun _ _ => VR.i) (pe_cstI pe_int fun _ _ => VR.i)))) (pg_nmI (pg_name sc.nd rfl (by first | exact Or.inl rfl | exact Or.inr rfl) (by first | exact Or.inl rfl | exact Or.inr rfl))) rfl rfl rfl)
    (pss_consI (ps_asgI (pe_binI (op_addI rfl) (pe_binI (op_addI rfl) (pe_binI (op_addI rfl) (pe_binI (op_mulDI rfl) (pe_binI (op_modI) (pe_varI (pe_var rfl (by first | exact Or.inl rfl | exact Or.inr (Or.inl rfl) | exact Or.inr (Or.inr rfl)) rfl rfl)) (pe_cstI pe_int fun _ _ => VR.i)) (pe_cstI pe_int fun _ _ => VR.i)) (pe_binI (op_mulDI rfl) (pe_cstI pe_int fun _ _ => VR.i) (pe_varI (pe_var rfl (by first | exact Or.inl rfl | exact Or.inr (Or.inl rfl) | exact Or.inr (Or.inr rfl)) rfl rfl)))) (pe_binI (op_mulDI rfl) (pe_cstI pe_int fun _ _ => VR.i) (pe_tyI (cr_intI) rfl T.fr_int boot_int (pa_consI (pe_cmpI (op_ordI rfl hu4) (pe_varI (pe_var rfl (by first | exact Or.inl rfl | exact Or.inr (Or.inl rfl) | exact Or.inr (Or.inr rfl)) rfl rfl)) (pe_cstI pe_int fun _ _ => VR.i) rfl) pa_nilI rfl) (by decide) rfl rfl rfl))) (pe_cstI pe_int fun _ _ => VR.i)) (pg_nmI (pg_name sc.nd rfl (by first | exact Or.inl rfl | exact Or.inr rfl) (by first | exact Or.inl rfl | exact Or.inr rfl))) rfl rfl rfl)
    (pss_consI (ps_retI (pe_refOf (pl_list (pa_consI (pe_bltI (cr_maxI rfl) rfl T.fr_max boot_max (pa_consI (pe_cstI pe_int fun _ _ => VR.i) (pa_consI (pe_binI (op_subI) (pe_varI (pe_var rfl (by first | exact Or.inl rfl | exact Or.inr (Or.inl rfl) | exact Or.inr (Or.inr rfl)) rfl rfl)) (pe_binI (op_powI) (pe_cstI pe_int fun _ _ => VR.i) (pe_cstI pe_int fun _ _ => VR.i))) pa_nilI rfl) rfl) (by decide) rfl rfl rfl) (pa_consI (pe_binI (op_modI) (pe_tyI (cr_intI) rfl T.fr_int boot_int (pa_consI (pe_varI (pe_var rfl (by first | exact Or.inl rfl | exact Or.inr (Or.inl rfl) | exact Or.inr (Or.inr rfl)) rfl rfl)) pa_nilI rfl) (by decide) rfl rfl rfl) (pe_cstI pe_int fun _ _ => VR.i)) (pa_consI (pe_cstI pe_int fun _ _ => VR.i) pa_nilI rfl) rfl) rfl))))
    pss_nilI))))
theorem ok__law_tub (T : Tab K mg) : FnI Pr w K mg base (PP K G w) "_law_tub" 1 2 c__law_tub := by
  obtain ⟨hm, fd, F⟩ := T.fn__law_tub
  exact FnI.all (ps := ["_law_script", "_law_spot"]) (fn_okI (P := PP K G w) (f := b__law_tub) (N := N__law_tub) (ps := ["_law_script", "_law_spot"]) F sc__law_tub fun av cdv A outer s H E hr => body__law_tub T  av _ cdv A outer s H E hr) hm F.kp (F.bindsN fun _ _ _ _ _ _ us hl => match us, hl with | [_, _], _ => by kernel_rfl)
theorem sc__law_dip : FnScope N__law_dip ["_law_tub_here", "_law_total"] (defScope (top 41)) := ⟨rfl, rfl, rfl, by decide +kernel, rfl, by decide +kernel, by decide +kernel⟩
theorem body__law_dip (T : Tab K mg) (av : List Addr) (fA : Addr) (cdv : Value) (A : Around) (outer : List Env) (s : Shared) (H : Hp) (E : XK) (hr : Room 0 (A.deeper (envOfC "_law_dip" (defScope (top 41)) s.heap.objs.size fA cdv))) :
    PSs (cxOf (L2.CX Pr w) Pr w K mg base N__law_dip "_law_dip" (defScope (top 41)) fA cdv A outer s H E) (defBody (top 41)) (tS ((PP K G w).at av) (fun c d _ H => E c d H) b__law_dip) := by
  have hu := units65 hr
  have hu4 := hr.units
  have sc := sc__law_dip
  have pa := passes_of (X := cxOf (L2.CX Pr w) Pr w K mg base N__law_dip "_law_dip" (defScope (top 41)) fA cdv A outer s H E) rfl
  have tk := takes_of (X := cxOf (L2.CX Pr w) Pr w K mg base N__law_dip "_law_dip" (defScope (top 41)) fA cdv A outer s H E) rfl rfl rfl rfl
  unfold b__law_dip
  exact (pss_consI (ps_ifI (pt_cmpI (op_ordI rfl hu4) (pe_subD rfl rfl hu (pe_varI (pe_var rfl (by first | exact Or.inl rfl | exact Or.inr (Or.inl rfl) | exact Or.inr (Or.inr rfl)) rfl rfl)) (pe_cstI pe_int fun _ _ => VR.i) fun _ _ => rfl) (pe_cstI pe_int fun _ _ => VR.i) rfl) (pss_consI (ps_asgI (pe_binI (op_modI) (pe_tyI (cr_intI) rfl T.fr_int boot_int (pa_consI (pe_subD rfl rfl hu (pe_varI (pe_var rfl (by first | exact Or.inl rfl | exact Or.inr (Or.inl rfl) | exact Or.inr (Or.inr rfl)) rfl rfl)) (pe_cstI pe_int fun _ _ => VR.i) fun _ _ => rfl) pa_nilI rfl) (by decide) rfl rfl rfl) (pe_varI (pe_var rfl (by first | exact Or.inl rfl | exact Or.inr (Or.inl rfl) | exact Or.inr (Or.inr rfl)) rfl rfl))) (pg_nmI (pg_name sc.nd rfl (by first | exact Or.inl rfl | exact Or.inr rfl) (by first | exact Or.inl rfl | exact Or.inr rfl))) rfl rfl rfl)
    (pss_consI (ps_asgI (pe_binI (op_fdivI) (pe_subD rfl rfl hu (pe_varI (pe_var rfl (by first | exact Or.inl rfl | exact Or.inr (Or.inl rfl) | exact Or.inr (Or.inr rfl)) rfl rfl)) (pe_cstI pe_int fun _ _ => VR.i) fun _ _ => rfl) (pe_varI (pe_var rfl (by first | exact Or.inl rfl | exact Or.inr (Or.inl rfl) | exact Or.inr (Or.inr rfl)) rfl rfl))) (pg_sbI (W := WF) (pe_varI (pe_var rfl (by first | exact Or.inl rfl | exact Or.inr (Or.inl rfl) | exact Or.inr (Or.inr rfl)) rfl rfl)) (pe_cstI pe_int fun _ _ => VR.i) (st_putM rfl rfl hu) fun _ => rfl) rfl rfl rfl)
    (pss_consI (ps_retI (pe_varI (pe_var rfl (by first | exact Or.inl rfl | exact Or.inr (Or.inl rfl) | exact Or.inr (Or.inr rfl)) rfl rfl)))
    pss_nilI))) pss_nilI)
    (pss_consI (ps_asgI (pe_binI (op_addI rfl) (pe_subD rfl rfl hu (pe_varI (pe_var rfl (by first | exact Or.inl rfl | exact Or.inr (Or.inl rfl) | exact Or.inr (Or.inr rfl)) rfl rfl)) (pe_cstI pe_int fun _ _ => VR.i) fun _ _ => rfl) (pe_cstI pe_int fun _ _ => VR.i)) (pg_sbI (W := WF) (pe_varI (pe_var rfl (by first | exact Or.inl rfl | exact Or.inr (Or.inl rfl) | exact Or.inr (Or.inr rfl)) rfl rfl)) (pe_cstI pe_int fun _ _ => VR.i) (st_putM rfl rfl hu) fun _ => rfl) rfl rfl rfl)
    (pss_consI (ps_asgI (pe_binI (op_modI) (pe_tyI (cr_intI) rfl T.fr_int boot_int (pa_consI (pe_binI (op_addI rfl) (pe_subD rfl rfl hu (pe_varI (pe_var rfl (by first | exact Or.inl rfl | exact Or.inr (Or.inl rfl) | exact Or.inr (Or.inr rfl)) rfl rfl)) (pe_cstI pe_int fun _ _ => VR.i) fun _ _ => rfl) (pe_binI (op_mulDI rfl) (pe_cstI pe_int fun _ _ => VR.i) (pe_subD rfl rfl hu (pe_varI (pe_var rfl (by first | exact Or.inl rfl | exact Or.inr (Or.inl rfl) | exact Or.inr (Or.inr rfl)) rfl rfl)) (pe_cstI pe_int fun _ _ => VR.i) fun _ _ => rfl))) pa_nilI rfl) (by decide) rfl rfl rfl) (pe_cstI pe_int fun _ _ => VR.i)) (pg_nmI (pg_name sc.nd rfl (by first | exact Or.inl rfl | exact Or.inr rfl) (by first | exact Or.inl rfl | exact Or.inr rfl))) rfl rfl rfl)
    (pss_consI (ps_asgI (pe_binI (op_addI rfl) (pe_binI (op_mulDI rfl) (pe_binI (op_modI) (pe_tyI (cr_intI) rfl T.fr_int boot_int (pa_consI (pe_binI (op_addI rfl) (pe_binI (op_mulDI rfl) (pe_varI (pe_var rfl (by first | exact Or.inl rfl | exact Or.inr (Or.inl rfl) | exact Or.inr (Or.inr rfl)) rfl rfl)) (pe_varI (pe_var rfl (by first | exact Or.inl rfl | exact Or.inr (Or.inl rfl) | exact Or.inr (Or.inr rfl)) rfl rfl))) (pe_binI (op_mulDI rfl) (pe_cstI pe_int fun _ _ => VR.i) (pe_subD rfl rfl hu (pe_varI (pe_var rfl (by first | exact Or.inl rfl | exact Or.inr (Or.inl rfl) | exact Or.inr (Or.inr rfl)) rfl rfl)) (pe_cstI pe_int fun _ _ => VR.i) fun _ _ => rfl))) pa_nilI rfl) (by decide) rfl rfl rfl) (pe_cstI pe_int fun _ _ => VR.i)) (pe_cstI pe_int fun _ _ => VR.i)) (pe_varI (pe_var rfl (by first | exact Or.inl rfl | exact Or.inr (Or.inl rfl) | exact Or.inr (Or.inr rfl)) rfl rfl))) (pg_nmI (pg_name sc.nd rfl (by first | exact Or.inl rfl | exact Or.inr rfl) (by first | exact Or.inl rfl | exact Or.inr rfl))) rfl rfl rfl)
    (pss_consI (ps_retI (pe_binI (op_modI) (pe_tyI (cr_intI) rfl T.fr_int boot_int (pa_consI (pe_binI (op_fdivI) (pe_varI (pe_var rfl (by first | exact Or.inl rfl | exact Or.inr (Or.inl rfl) | exact Or.inr (Or.inr rfl)) rfl rfl)) (pe_cstI pe_int fun _ _ => VR.i)) pa_nilI rfl) (by decide) rfl rfl rfl) (pe_varI (pe_var rfl (by first | exact Or.inl rfl | exact Or.inr (Or.inl rfl) | exact Or.inr (Or.inr rfl)) rfl rfl))))
    pss_nilI)))))
theorem ok__law_dip (T : Tab K mg) : FnI Pr w K mg base (PP K G w) "_law_dip" 1 2 c__law_dip := by
  obtain ⟨hm, fd, F⟩ := T.fn__law_dip
  exact FnI.all (ps := ["_law_tub_here", "_law_total"]) (fn_okI (P := PP K G w) (f := b__law_dip) (N := N__law_dip) (ps := ["_law_tub_here", "_law_total"]) F sc__law_dip fun av cdv A outer s H E hr => body__law_dip T  av _ cdv A outer s H E hr) hm F.kp (F.bindsN fun _ _ _ _ _ _ us hl => match us, hl with | [_, _], _ => by kernel_rfl)
theorem sc__law_made : FnScope N__law_made ["_law_place", "_law_edition", "_law_cells_here"] (defScope (top 45)) := ⟨rfl, rfl, rfl, by decide +kernel, rfl, by decide +kernel, by decide +kernel⟩
theorem body__law_made (T : Tab K mg) (av : List Addr) (fA : Addr) (cdv : Value) (A : Around) (outer : List Env) (s : Shared) (H : Hp) (E : XK) (hr : Room 0 (A.deeper (envOfC "_law_made" (defScope (top 45)) s.heap.objs.size fA cdv))) :
    PSs (cxOf (L2.CX Pr w) Pr w K mg base N__law_made "_law_made" (defScope (top 45)) fA cdv A outer s H E) (defBody (top 45)) (tS ((PP K G w).at av) (fun c d _ H => E c d H) b__law_made) := by
  have hu := units65 hr
  have hu4 := hr.units
  have sc := sc__law_made
  have pa := passes_of (X := cxOf (L2.CX Pr w) Pr w K mg base N__law_made "_law_made" (defScope (top 45)) fA cdv A outer s H E) rfl
  have tk := takes_of (X := cxOf (L2.CX Pr w) Pr w K mg base N__law_made "_law_made" (defScope (top 45)) fA cdv A outer s H E) rfl rfl rfl rfl
  unfold b__law_made
  exact (pss_consI (ps_retI (pe_tyI (cr_tupleI rfl) rfl T.fr_tuple boot_tuple (pa_consI (pe_lcI [("_law_part", 3)] rfl sc.nd (pi_rngI rfl T.fr_range (pa_consI (pe_cstI pe_int fun _ _ => VR.i) pa_nilI rfl) rfl) (blkOk_by (by kernel_rfl)) (fun _ => rfl) (fun _ _ _ _ _ _ => (pg_nmW (by decide) (pg_name sc.nd rfl (by first | exact Or.inl rfl | exact Or.inr rfl) (by first | exact Or.inl rfl | exact Or.inr rfl)))) (fun _ _ _ _ _ _ => pts_nilI) (fun _ _ _ _ _ _ => (pe_binI (op_addI rfl) (pe_tupI (pa_consI (pe_varI (pe_var rfl (by first | exact Or.inl rfl | exact Or.inr (Or.inl rfl) | exact Or.inr (Or.inr rfl)) rfl rfl)) (pa_consI (pe_varI (pe_var rfl (by first | exact Or.inl rfl | exact Or.inr (Or.inl rfl) | exact Or.inr (Or.inr rfl)) rfl rfl)) (pa_consI (pe_varI (pe_var rfl (by first | exact Or.inl rfl | exact Or.inr (Or.inl rfl) | exact Or.inr (Or.inr rfl)) rfl rfl)) pa_nilI rfl) rfl) rfl)) (pe_tyI (cr_tupleI rfl) rfl T.fr_tuple boot_tuple (pa_consI (pe_sliI rfl (pe_varI (pe_var rfl (by first | exact Or.inl rfl | exact Or.inr (Or.inl rfl) | exact Or.inr (Or.inr rfl)) rfl rfl)) (po_someI (pe_binI (op_mulDI rfl) (pe_cstI pe_int fun _ _ => VR.i) (pe_varI (pe_var rfl (by first | exact Or.inl rfl | exact Or.inr (Or.inl rfl) | exact Or.inr (Or.inr rfl)) rfl rfl)))) (po_someI (pe_binI (op_addI rfl) (pe_binI (op_mulDI rfl) (pe_cstI pe_int fun _ _ => VR.i) (pe_varI (pe_var rfl (by first | exact Or.inl rfl | exact Or.inr (Or.inl rfl) | exact Or.inr (Or.inr rfl)) rfl rfl))) (pe_cstI pe_int fun _ _ => VR.i)))) pa_nilI rfl) (by decide) rfl rfl rfl)))) pa_nilI rfl) (by decide) rfl rfl rfl))
    pss_nilI)
theorem ok__law_made (T : Tab K mg) : FnI Pr w K mg base (PP K G w) "_law_made" 1 3 c__law_made := by
  obtain ⟨hm, fd, F⟩ := T.fn__law_made
  exact FnI.all (ps := ["_law_place", "_law_edition", "_law_cells_here"]) (fn_okI (P := PP K G w) (f := b__law_made) (N := N__law_made) (ps := ["_law_place", "_law_edition", "_law_cells_here"]) F sc__law_made fun av cdv A outer s H E hr => body__law_made T  av _ cdv A outer s H E hr) hm F.kp (F.bindsN fun _ _ _ _ _ _ us hl => match us, hl with | [_, _, _], _ => by kernel_rfl)
theorem sc__law_with : FnScope N__law_with ["_law_block_here", "_law_at", "_law_sector_here"] (defScope (top 49)) := ⟨rfl, rfl, rfl, by decide +kernel, rfl, by decide +kernel, by decide +kernel⟩
theorem body__law_with (T : Tab K mg) (av : List Addr) (fA : Addr) (cdv : Value) (A : Around) (outer : List Env) (s : Shared) (H : Hp) (E : XK) (hr : Room 0 (A.deeper (envOfC "_law_with" (defScope (top 49)) s.heap.objs.size fA cdv))) :
    PSs (cxOf (L2.CX Pr w) Pr w K mg base N__law_with "_law_with" (defScope (top 49)) fA cdv A outer s H E) (defBody (top 49)) (tS ((PP K G w).at av) (fun c d _ H => E c d H) b__law_with) := by
  have hu := units65 hr
  have hu4 := hr.units
  have sc := sc__law_with
  have pa := passes_of (X := cxOf (L2.CX Pr w) Pr w K mg base N__law_with "_law_with" (defScope (top 49)) fA cdv A outer s H E) rfl
  have tk := takes_of (X := cxOf (L2.CX Pr w) Pr w K mg base N__law_with "_law_with" (defScope (top 49)) fA cdv A outer s H E) rfl rfl rfl rfl
  unfold b__law_with
  exact (pss_consI (ps_retI (pe_binI (op_addI rfl) (pe_binI (op_addI rfl) (pe_sliI rfl (pe_varI (pe_var rfl (by first | exact Or.inl rfl | exact Or.inr (Or.inl rfl) | exact Or.inr (Or.inr rfl)) rfl rfl)) po_noneI (po_someI (pe_varI (pe_var rfl (by first | exact Or.inl rfl | exact Or.inr (Or.inl rfl) | exact Or.inr (Or.inr rfl)) rfl rfl)))) (pe_tupI (pa_consI (pe_varI (pe_var rfl (by first | exact Or.inl rfl | exact Or.inr (Or.inl rfl) | exact Or.inr (Or.inr rfl)) rfl rfl)) pa_nilI rfl))) (pe_sliI rfl (pe_varI (pe_var rfl (by first | exact Or.inl rfl | exact Or.inr (Or.inl rfl) | exact Or.inr (Or.inr rfl)) rfl rfl)) (po_someI (pe_binI (op_addI rfl) (pe_varI (pe_var rfl (by first | exact Or.inl rfl | exact Or.inr (Or.inl rfl) | exact Or.inr (Or.inr rfl)) rfl rfl)) (pe_cstI pe_int fun _ _ => VR.i))) po_noneI)))
    pss_nilI)
theorem ok__law_with (T : Tab K mg) : FnI Pr w K mg base (PP K G w) "_law_with" 1 3 c__law_with := by
  obtain ⟨hm, fd, F⟩ := T.fn__law_with
  exact FnI.all (ps := ["_law_block_here", "_law_at", "_law_sector_here"]) (fn_okI (P := PP K G w) (f := b__law_with) (N := N__law_with) (ps := ["_law_block_here", "_law_at", "_law_sector_here"]) F sc__law_with fun av cdv A outer s H E hr => body__law_with T  av _ cdv A outer s H E hr) hm F.kp (F.bindsN fun _ _ _ _ _ _ us hl => match us, hl with | [_, _, _], _ => by kernel_rfl)
theorem sc__law_readable : FnScope N__law_readable ["_law_copies_here"] (defScope (top 51)) := ⟨rfl, rfl, rfl, by decide +kernel, rfl, by decide +kernel, by decide +kernel⟩
theorem body__law_readable (T : Tab K mg) (av : List Addr) (fA : Addr) (cdv : Value) (A : Around) (outer : List Env) (s : Shared) (H : Hp) (E : XK) (hr : Room 0 (A.deeper (envOfC "_law_readable" (defScope (top 51)) s.heap.objs.size fA cdv))) :
    PSs (cxOf (L2.CX Pr w) Pr w K mg base N__law_readable "_law_readable" (defScope (top 51)) fA cdv A outer s H E) (defBody (top 51)) (tS ((PP K G w).at av) (fun c d _ H => E c d H) b__law_readable) := by
  have hu := units65 hr
  have hu4 := hr.units
  have sc := sc__law_readable
  have pa := passes_of (X := cxOf (L2.CX Pr w) Pr w K mg base N__law_readable "_law_readable" (defScope (top 51)) fA cdv A outer s H E) rfl
  have tk := takes_of (X := cxOf (L2.CX Pr w) Pr w K mg base N__law_readable "_law_readable" (defScope (top 51)) fA cdv A outer s H E) rfl rfl rfl rfl
  unfold b__law_readable
  exact (pss_consI (ps_asgI (pe_refOf (pl_list pa_nilI)) (pg_nmI (pg_name sc.nd rfl (by first | exact Or.inl rfl | exact Or.inr rfl) (by first | exact Or.inl rfl | exact Or.inr rfl))) rfl rfl rfl)
    (pss_consI (ps_forI pa rfl (pi_anyI rfl (pe_varI (pe_var rfl (by first | exact Or.inl rfl | exact Or.inr (Or.inl rfl) | exact Or.inr (Or.inr rfl)) rfl rfl))) (pg_nmI (pg_name sc.nd rfl (by first | exact Or.inl rfl | exact Or.inr rfl) (by first | exact Or.inl rfl | exact Or.inr rfl))) (pss_consI (ps_exprI (pe_mthI (.inl rfl) F.plainAttrs_list F.slot_list_extend F.type_list_extend (mt_extI rfl) rfl (pe_varI (pe_var rfl (by first | exact Or.inl rfl | exact Or.inr (Or.inl rfl) | exact Or.inr (Or.inr rfl)) rfl rfl)) (pa_consI (pe_lcI [("_law_sector_here", 3)] rfl sc.nd (pi_anyI rfl (pe_varI (pe_var rfl (by first | exact Or.inl rfl | exact Or.inr (Or.inl rfl) | exact Or.inr (Or.inr rfl)) rfl rfl))) (blkOk_by (by kernel_rfl)) (fun _ => rfl) (fun _ _ _ _ _ _ => (pg_nmW (by decide) (pg_name sc.nd rfl (by first | exact Or.inl rfl | exact Or.inr rfl) (by first | exact Or.inl rfl | exact Or.inr rfl)))) (fun _ _ _ _ _ _ => (pts_oneI (pt_cmpI (op_isnI) (pe_varI (pe_var rfl (by first | exact Or.inl rfl | exact Or.inr (Or.inl rfl) | exact Or.inr (Or.inr rfl)) rfl rfl)) (pe_cstI pe_non fun _ _ => VR.n) rfl))) (fun _ _ _ _ _ _ => (pe_varI (pe_var rfl (by first | exact Or.inl rfl | exact Or.inr (Or.inl rfl) | exact Or.inr (Or.inr rfl)) rfl rfl)))) pa_nilI rfl) rfl rfl rfl rfl rfl) rfl)
    pss_nilI) fun _ => rfl)
    (pss_consI (ps_retI (pe_varI (pe_var rfl (by first | exact Or.inl rfl | exact Or.inr (Or.inl rfl) | exact Or.inr (Or.inr rfl)) rfl rfl)))
    pss_nilI)))
theorem ok__law_readable (T : Tab K mg) : FnI Pr w K mg base (PP K G w) "_law_readable" 1 1 c__law_readable := by
  obtain ⟨hm, fd, F⟩ := T.fn__law_readable
  exact FnI.all (ps := ["_law_copies_here"]) (fn_okI (P := PP K G w) (f := b__law_readable) (N := N__law_readable) (ps := ["_law_copies_here"]) F sc__law_readable fun av cdv A outer s H E hr => body__law_readable T  av _ cdv A outer s H E hr) hm F.kp (F.bindsN fun _ _ _ _ _ _ us hl => match us, hl with | [_], _ => by kernel_rfl)
theorem sc_is_within_bounds : FnScope N_is_within_bounds ["value", "least", "greatest"] (defScope (top 7)) := ⟨rfl, rfl, rfl, by decide +kernel, rfl, by decide +kernel, by decide +kernel⟩
theorem body_is_within_bounds (T : Tab K mg) (F_is_whole : FnI Pr w K mg base (PP K G w) "is_whole" 1 1 c_is_whole) (av : List Addr) (fA : Addr) (cdv : Value) (A : Around) (outer : List Env) (s : Shared) (H : Hp) (E : XK) (hr : Room 1 (A.deeper (envOfC "is_within_bounds" (defScope (top 7)) s.heap.objs.size fA cdv))) :
    PSs (cxOf (L2.CX Pr w) Pr w K mg base N_is_within_bounds "is_within_bounds" (defScope (top 7)) fA cdv A outer s H E) (defBody (top 7)) (tS ((PP K G w).at av) (fun c d _ H => E c d H) b_is_within_bounds) := by
  have hu := units65 hr
  have hu4 := hr.units
  have sc := sc_is_within_bounds
  have pa := passes_of (X := cxOf (L2.CX Pr w) Pr w K mg base N_is_within_bounds "is_within_bounds" (defScope (top 7)) fA cdv A outer s H E) rfl
  have tk := takes_of (X := cxOf (L2.CX Pr w) Pr w K mg base N_is_within_bounds "is_within_bounds" (defScope (top 7)) fA cdv A outer s H E) rfl rfl rfl rfl
  unfold b_is_within_bounds
  exact (pss_consI (ps_retI (pe_andI rfl (pe_callI none F_is_whole hr rfl tk (pa_consI (pe_varI (pe_var rfl (by first | exact Or.inl rfl | exact Or.inr (Or.inl rfl) | exact Or.inr (Or.inr rfl)) rfl rfl)) pa_nilI rfl) rfl rfl rfl) (pe_one (pe_chnI (op_ordI rfl hu4) (op_ordI rfl hu4) (pe_varI (pe_var rfl (by first | exact Or.inl rfl | exact Or.inr (Or.inl rfl) | exact Or.inr (Or.inr rfl)) rfl rfl)) (pe_varI (pe_var rfl (by first | exact Or.inl rfl | exact Or.inr (Or.inl rfl) | exact Or.inr (Or.inr rfl)) rfl rfl)) (pe_varI (pe_var rfl (by first | exact Or.inl rfl | exact Or.inr (Or.inl rfl) | exact Or.inr (Or.inr rfl)) rfl rfl)) rfl))))
    pss_nilI)
theorem ok_is_within_bounds (T : Tab K mg) : FnI Pr w K mg base (PP K G w) "is_within_bounds" 2 3 c_is_within_bounds := by
  obtain ⟨hm, fd, F⟩ := T.fn_is_within_bounds
  have F_is_whole := (ok_is_whole (Pr := Pr) (w := w) (base := base) (G := G) T).mono (by decide : 1 ≤ 1)
  exact FnI.all (ps := ["value", "least", "greatest"]) (fn_okI (P := PP K G w) (f := b_is_within_bounds) (N := N_is_within_bounds) (ps := ["value", "least", "greatest"]) F sc_is_within_bounds fun av cdv A outer s H E hr => body_is_within_bounds T F_is_whole av _ cdv A outer s H E hr) hm F.kp (F.bindsN fun _ _ _ _ _ _ us hl => match us, hl with | [_, _, _], _ => by kernel_rfl)
theorem sc_editions_at : FnScope N_editions_at ["place", "copies"] (defScope (top 28)) := ⟨rfl, rfl, rfl, by decide +kernel, rfl, by decide +kernel, by decide +kernel⟩
theorem body_editions_at (T : Tab K mg) (F_fits : FnI Pr w K mg base (PP K G w) "fits" 1 3 c_fits) (av : List Addr) (fA : Addr) (cdv : Value) (A : Around) (outer : List Env) (s : Shared) (H : Hp) (E : XK) (hr : Room 1 (A.deeper (envOfC "editions_at" (defScope (top 28)) s.heap.objs.size fA cdv))) :
    PSs (cxOf (L2.CX Pr w) Pr w K mg base N_editions_at "editions_at" (defScope (top 28)) fA cdv A outer s H E) (defBody (top 28)) (tS ((PP K G w).at av) (fun c d _ H => E c d H) b_editions_at) := by
  have hu := units65 hr
  have hu4 := hr.units
  have sc := sc_editions_at
  have pa := passes_of (X := cxOf (L2.CX Pr w) Pr w K mg base N_editions_at "editions_at" (defScope (top 28)) fA cdv A outer s H E) rfl
  have tk := takes_of (X := cxOf (L2.CX Pr w) Pr w K mg base N_editions_at "editions_at" (defScope (top 28)) fA cdv A outer s H E) rfl rfl rfl rfl
  unfold b_editions_at
  exact (pss_consI (ps_asgI pe_d0R (pg_nmI (pg_name sc.nd rfl (by first | exact Or.inl rfl | exact Or.inr rfl) (by first | exact Or.inl rfl | exact Or.inr rfl))) rfl rfl rfl)
    (pss_consI (ps_forI pa rfl (pi_anyI rfl (pe_varI (pe_var rfl (by first | exact Or.inl rfl | exact Or.inr (Or.inl rfl) | exact Or.inr (Or.inr rfl)) rfl rfl))) (pg_nmI (pg_name sc.nd rfl (by first | exact Or.inl rfl | exact Or.inr rfl) (by first | exact Or.inl rfl | exact Or.inr rfl))) (pss_consI (ps_exprI (pe_mthI (.inr (.inl rfl)) F.plainAttrs_dict F.slot_dict_update F.type_dict_update (mt_updI rfl) rfl (pe_varI (pe_var rfl (by first | exact Or.inl rfl | exact Or.inr (Or.inl rfl) | exact Or.inr (Or.inr rfl)) rfl rfl)) (pa_consI (pe_dcI [("part", 4), ("sector", 5)] rfl sc.nd rfl rfl hu (pi_enuI rfl rfl T.fr_enumerate (pa_consI (pe_varI (pe_var rfl (by first | exact Or.inl rfl | exact Or.inr (Or.inl rfl) | exact Or.inr (Or.inr rfl)) rfl rfl)) pa_nilI rfl) rfl) (blkOk_by (by kernel_rfl)) (fun _ => rfl) (fun _ _ _ _ _ _ => (pg_tupW rfl rfl (pgs_consW (pg_nmW (by decide) (pg_name sc.nd rfl (by first | exact Or.inl rfl | exact Or.inr rfl) (by first | exact Or.inl rfl | exact Or.inr rfl))) (pgs_consW (pg_nmW (by decide) (pg_name sc.nd rfl (by first | exact Or.inl rfl | exact Or.inr rfl) (by first | exact Or.inl rfl | exact Or.inr rfl))) pgs_nilW rfl) rfl) rfl rfl)) (fun _ _ _ _ _ _ => (pts_oneI (pt_truI rfl (pe_callI none F_fits hr rfl takesF (pa_consI (pe_varI (pe_var rfl (by first | exact Or.inl rfl | exact Or.inr (Or.inl rfl) | exact Or.inr (Or.inr rfl)) rfl rfl)) (pa_consI (pe_varI (pe_var rfl (by first | exact Or.inl rfl | exact Or.inr (Or.inl rfl) | exact Or.inr (Or.inr rfl)) rfl rfl)) (pa_consI (pe_varI (pe_var rfl (by first | exact Or.inl rfl | exact Or.inr (Or.inl rfl) | exact Or.inr (Or.inr rfl)) rfl rfl)) pa_nilI rfl) rfl) rfl) rfl rfl rfl) fun _ => rfl))) (fun _ _ _ _ _ _ => (pe_subD rfl rfl hu (pe_varI (pe_var rfl (by first | exact Or.inl rfl | exact Or.inr (Or.inl rfl) | exact Or.inr (Or.inr rfl)) rfl rfl)) (pe_cstI pe_int fun _ _ => VR.i) fun _ _ => rfl)) (fun _ _ _ _ _ _ => (pe_cstI pe_bl fun _ _ => VR.b))) pa_nilI rfl) rfl rfl rfl rfl rfl) rfl)
    pss_nilI) fun _ => rfl)
    (pss_consI (ps_retI (pe_bltI (cr_sortedI rfl rfl hu) rfl T.fr_sorted boot_sorted (pa_consI (pe_varI (pe_var rfl (by first | exact Or.inl rfl | exact Or.inr (Or.inl rfl) | exact Or.inr (Or.inr rfl)) rfl rfl)) pa_nilI rfl) (by decide) rfl rfl rfl))
    pss_nilI)))
theorem ok_editions_at (T : Tab K mg) : FnI Pr w K mg base (PP K G w) "editions_at" 2 2 c_editions_at := by
  obtain ⟨hm, fd, F⟩ := T.fn_editions_at
  have F_fits := (ok_fits (Pr := Pr) (w := w) (base := base) (G := G) T).mono (by decide : 1 ≤ 1)
  exact FnI.all (ps := ["place", "copies"]) (fn_okI (P := PP K G w) (f := b_editions_at) (N := N_editions_at) (ps := ["place", "copies"]) F sc_editions_at fun av cdv A outer s H E hr => body_editions_at T F_fits av _ cdv A outer s H E hr) hm F.kp (F.bindsN fun _ _ _ _ _ _ us hl => match us, hl with | [_, _], _ => by kernel_rfl)
theorem sc_values_of : FnScope N_values_of ["place", "copies", "edition", "part"] (defScope (top 29)) := ⟨rfl, rfl, rfl, by decide +kernel, rfl, by decide +kernel, by decide +kernel⟩
theorem body_values_of (T : Tab K mg) (F_fits : FnI Pr w K mg base (PP K G w) "fits" 1 3 c_fits) (av : List Addr) (fA : Addr) (cdv : Value) (A : Around) (outer : List Env) (s : Shared) (H : Hp) (E : XK) (hr : Room 1 (A.deeper (envOfC "values_of" (defScope (top 29)) s.heap.objs.size fA cdv))) :
    PSs (cxOf (L2.CX Pr w) Pr w K mg base N_values_of "values_of" (defScope (top 29)) fA cdv A outer s H E) (defBody (top 29)) (tS ((PP K G w).at av) (fun c d _ H => E c d H) b_values_of) := by
  have hu := units65 hr
  have hu4 := hr.units
  have sc := sc_values_of
  have pa := passes_of (X := cxOf (L2.CX Pr w) Pr w K mg base N_values_of "values_of" (defScope (top 29)) fA cdv A outer s H E) rfl
  have tk := takes_of (X := cxOf (L2.CX Pr w) Pr w K mg base N_values_of "values_of" (defScope (top 29)) fA cdv A outer s H E) rfl rfl rfl rfl
  unfold b_values_of
  exact (pss_consI (ps_setDcI [("copy", 5)] rfl sc.nd rfl rfl (sw_trueD rfl rfl rfl rfl) rfl rfl hu (pi_anyI rfl (pe_varI (pe_var rfl (by first | exact Or.inl rfl | exact Or.inr (Or.inl rfl) | exact Or.inr (Or.inr rfl)) rfl rfl))) (blkOk_by (by kernel_rfl)) (fun _ => rfl) (fun _ _ _ _ _ _ => (pg_nmW (by decide) (pg_name sc.nd rfl (by first | exact Or.inl rfl | exact Or.inr rfl) (by first | exact Or.inl rfl | exact Or.inr rfl)))) (fun _ _ _ _ _ _ => (pts_oneI (PW.pt (pw_andI (pt_truI rfl (pe_callI none F_fits hr rfl takesF (pa_consI (pe_varI (pe_var rfl (by first | exact Or.inl rfl | exact Or.inr (Or.inl rfl) | exact Or.inr (Or.inr rfl)) rfl rfl)) (pa_consI (pe_varI (pe_var rfl (by first | exact Or.inl rfl | exact Or.inr (Or.inl rfl) | exact Or.inr (Or.inr rfl)) rfl rfl)) (pa_consI (pe_subD rfl rfl hu (pe_varI (pe_var rfl (by first | exact Or.inl rfl | exact Or.inr (Or.inl rfl) | exact Or.inr (Or.inr rfl)) rfl rfl)) (pe_varI (pe_var rfl (by first | exact Or.inl rfl | exact Or.inr (Or.inl rfl) | exact Or.inr (Or.inr rfl)) rfl rfl)) fun _ _ => rfl) pa_nilI rfl) rfl) rfl) rfl rfl rfl) fun _ => rfl) (pw_and1 (pt_cmpI (op_eqDI rfl rfl hu4) (pe_subD rfl rfl hu (pe_subD rfl rfl hu (pe_varI (pe_var rfl (by first | exact Or.inl rfl | exact Or.inr (Or.inl rfl) | exact Or.inr (Or.inr rfl)) rfl rfl)) (pe_varI (pe_var rfl (by first | exact Or.inl rfl | exact Or.inr (Or.inl rfl) | exact Or.inr (Or.inr rfl)) rfl rfl)) fun _ _ => rfl) (pe_cstI pe_int fun _ _ => VR.i) fun _ _ => rfl) (pe_varI (pe_var rfl (by first | exact Or.inl rfl | exact Or.inr (Or.inl rfl) | exact Or.inr (Or.inr rfl)) rfl rfl)) rfl)))))) (fun _ _ _ _ _ _ => (pe_subD rfl rfl hu (pe_varI (pe_var rfl (by first | exact Or.inl rfl | exact Or.inr (Or.inl rfl) | exact Or.inr (Or.inr rfl)) rfl rfl)) (pe_varI (pe_var rfl (by first | exact Or.inl rfl | exact Or.inr (Or.inl rfl) | exact Or.inr (Or.inr rfl)) rfl rfl)) fun _ _ => rfl)) (fun _ _ _ _ _ _ => (pe_cstI pe_bl fun _ _ => VR.b)))
    (pss_consI (ps_retI (pe_tyI (cr_listDI rfl rfl) rfl T.fr_list boot_list (pa_consI (pe_varI (pe_var rfl (by first | exact Or.inl rfl | exact Or.inr (Or.inl rfl) | exact Or.inr (Or.inr rfl)) rfl rfl)) pa_nilI rfl) (by decide) rfl rfl rfl))
    pss_nilI))
theorem ok_values_of (T : Tab K mg) : FnI Pr w K mg base (PP K G w) "values_of" 2 4 c_values_of := by
  obtain ⟨hm, fd, F⟩ := T.fn_values_of
  have F_fits := (ok_fits (Pr := Pr) (w := w) (base := base) (G := G) T).mono (by decide : 1 ≤ 1)
  exact FnI.all (ps := ["place", "copies", "edition", "part"]) (fn_okI (P := PP K G w) (f := b_values_of) (N := N_values_of) (ps := ["place", "copies", "edition", "part"]) F sc_values_of fun av cdv A outer s H E hr => body_values_of T F_fits av _ cdv A outer s H E hr) hm F.kp (F.bindsN fun _ _ _ _ _ _ us hl => match us, hl with | [_, _, _, _], _ => by kernel_rfl)
theorem sc__law_choice : FnScope N__law_choice ["_law_tub_here", "_law_items"] (defScope (top 42)) := ⟨rfl, rfl, rfl, by decide +kernel, rfl, by decide +kernel, by decide +kernel⟩
theorem body__law_choice (T : Tab K mg) (F__law_dip : FnI Pr w K mg base (PP K G w) "_law_dip" 1 2 c__law_dip) (av : List Addr) (fA : Addr) (cdv : Value) (A : Around) (outer : List Env) (s : Shared) (H : Hp) (E : XK) (hr : Room 1 (A.deeper (envOfC "_law_choice" (defScope (top 42)) s.heap.objs.size fA cdv))) :
    PSs (cxOf (L2.CX Pr w) Pr w K mg base N__law_choice "_law_choice" (defScope (top 42)) fA cdv A outer s H E) (defBody (top 42)) (tS ((PP K G w).at av) (fun c d _ H => E c d H) b__law_choice) := by
  have hu := units65 hr
  have hu4 := hr.units
  have sc := sc__law_choice
  have pa := passes_of (X := cxOf (L2.CX Pr w) Pr w K mg base N__law_choice "_law_choice" (defScope (top 42)) fA cdv A outer s H E) rfl
  have tk := takes_of (X := cxOf (L2.CX Pr w) Pr w K mg base N__law_choice "_law_choice" (defScope (top 42)) fA cdv A outer s H E) rfl rfl rfl rfl
  unfold b__law_choice
  exact (pss_consI (ps_retI (pe_subD rfl rfl hu (pe_varI (pe_var rfl (by first | exact Or.inl rfl | exact Or.inr (Or.inl rfl) | exact Or.inr (Or.inr rfl)) rfl rfl)) (pe_callI none F__law_dip hr rfl tk (pa_consI (pe_varI (pe_var rfl (by first | exact Or.inl rfl | exact Or.inr (Or.inl rfl) | exact Or.inr (Or.inr rfl)) rfl rfl)) (pa_consI (pe_bltI (cr_lenI rfl) rfl T.fr_len boot_len (pa_consI (pe_varI (pe_var rfl (by first | exact Or.inl rfl | exact Or.inr (Or.inl rfl) | exact Or.inr (Or.inr rfl)) rfl rfl)) pa_nilI rfl) (by decide) rfl rfl rfl) pa_nilI rfl) rfl) rfl rfl rfl) fun _ _ => rfl))
    pss_nilI)
theorem ok__law_choice (T : Tab K mg) : FnI Pr w K mg base (PP K G w) "_law_choice" 2 2 c__law_choice := by
  obtain ⟨hm, fd, F⟩ := T.fn__law_choice
  have F__law_dip := (ok__law_dip (Pr := Pr) (w := w) (base := base) (G := G) T).mono (by decide : 1 ≤ 1)
  exact FnI.all (ps := ["_law_tub_here", "_law_items"]) (fn_okI (P := PP K G w) (f := b__law_choice) (N := N__law_choice) (ps := ["_law_tub_here", "_law_items"]) F sc__law_choice fun av cdv A outer s H E hr => body__law_choice T F__law_dip av _ cdv A outer s H E hr) hm F.kp (F.bindsN fun _ _ _ _ _ _ us hl => match us, hl with | [_, _], _ => by kernel_rfl)
theorem sc__law_is_made : FnScope N__law_is_made ["_law_place", "_law_block_here"] (defScope (top 47)) := ⟨rfl, rfl, rfl, by decide +kernel, rfl, by decide +kernel, by decide +kernel⟩
theorem body__law_is_made (T : Tab K mg) (F__law_made : FnI Pr w K mg base (PP K G w) "_law_made" 1 3 c__law_made) (av : List Addr) (fA : Addr) (cdv : Value) (A : Around) (outer : List Env) (s : Shared) (H : Hp) (E : XK) (hr : Room 1 (A.deeper (envOfC "_law_is_made" (defScope (top 47)) s.heap.objs.size fA cdv))) :
    PSs (cxOf (L2.CX Pr w) Pr w K mg base N__law_is_made "_law_is_made" (defScope (top 47)) fA cdv A outer s H E) (defBody (top 47)) (tS ((PP K G w).at av) (fun c d _ H => E c d H) b__law_is_made) := by
  have hu := units65 hr
  have hu4 := hr.units
  have sc := sc__law_is_made
  have pa := passes_of (X := cxOf (L2.CX Pr w) Pr w K mg base N__law_is_made "_law_is_made" (defScope (top 47)) fA cdv A outer s H E) rfl
  have tk := takes_of (X := cxOf (L2.CX Pr w) Pr w K mg base N__law_is_made "_law_is_made" (defScope (top 47)) fA cdv A outer s H E) rfl rfl rfl rfl
  unfold b__law_is_made
  exact (pss_consI (ps_asgI (pe_tupI pa_nilI) (pg_nmI (pg_name sc.nd rfl (by first | exact Or.inl rfl | exact Or.inr rfl) (by first | exact Or.inl rfl | exact Or.inr rfl))) rfl rfl rfl)
    (pss_consI (ps_forI pa rfl (pi_enuI rfl rfl T.fr_enumerate (pa_consI (pe_varI (pe_var rfl (by first | exact Or.inl rfl | exact Or.inr (Or.inl rfl) | exact Or.inr (Or.inr rfl)) rfl rfl)) pa_nilI rfl) rfl) (pg_tupI rfl rfl (pgs_consI (pg_nmI (pg_name sc.nd rfl (by first | exact Or.inl rfl | exact Or.inr rfl) (by first | exact Or.inl rfl | exact Or.inr rfl))) (pgs_consI (pg_nmI (pg_name sc.nd rfl (by first | exact Or.inl rfl | exact Or.inr rfl) (by first | exact Or.inl rfl | exact Or.inr rfl))) pgs_nilI rfl) rfl) rfl rfl) (pss_consI (ps_ifI (PW.pt (pw_orI (pt_cmpI (op_isI) (pe_varI (pe_var rfl (by first | exact Or.inl rfl | exact Or.inr (Or.inl rfl) | exact Or.inr (Or.inr rfl)) rfl rfl)) (pe_cstI pe_non fun _ _ => VR.n) rfl) (pw_orI (pt_cmpI (op_ordI rfl hu4) (pe_bltI (cr_lenI rfl) rfl T.fr_len boot_len (pa_consI (pe_varI (pe_var rfl (by first | exact Or.inl rfl | exact Or.inr (Or.inl rfl) | exact Or.inr (Or.inr rfl)) rfl rfl)) pa_nilI rfl) (by decide) rfl rfl rfl) (pe_cstI pe_int fun _ _ => VR.i) rfl) (pw_orI (pt_cmpI (op_neDI rfl rfl hu4) (pe_subD rfl rfl hu (pe_varI (pe_var rfl (by first | exact Or.inl rfl | exact Or.inr (Or.inl rfl) | exact Or.inr (Or.inr rfl)) rfl rfl)) (pe_cstI pe_int fun _ _ => VR.i) fun _ _ => rfl) (pe_varI (pe_var rfl (by first | exact Or.inl rfl | exact Or.inr (Or.inl rfl) | exact Or.inr (Or.inr rfl)) rfl rfl)) rfl) (pw_orI (pt_cmpI (op_ordI rfl hu4) (pe_subD rfl rfl hu (pe_varI (pe_var rfl (by first | exact Or.inl rfl | exact Or.inr (Or.inl rfl) | exact Or.inr (Or.inr rfl)) rfl rfl)) (pe_cstI pe_int fun _ _ => VR.i) fun _ _ => rfl) (pe_cstI pe_int fun _ _ => VR.i) rfl) (pw_or1 (pt_cmpI (op_neDI rfl rfl hu4) (pe_subD rfl rfl hu (pe_varI (pe_var rfl (by first | exact Or.inl rfl | exact Or.inr (Or.inl rfl) | exact Or.inr (Or.inr rfl)) rfl rfl)) (pe_cstI pe_int fun _ _ => VR.i) fun _ _ => rfl) (pe_varI (pe_var rfl (by first | exact Or.inl rfl | exact Or.inr (Or.inl rfl) | exact Or.inr (Or.inr rfl)) rfl rfl)) rfl))))))) (pss_consI (ps_retI (pe_cstI pe_non fun _ _ => VR.n))
    pss_nilI) pss_nilI)
    (pss_consI (ps_asgI (pe_binI (op_addI rfl) (pe_varI (pe_var rfl (by first | exact Or.inl rfl | exact Or.inr (Or.inl rfl) | exact Or.inr (Or.inr rfl)) rfl rfl)) (pe_sliI rfl (pe_varI (pe_var rfl (by first | exact Or.inl rfl | exact Or.inr (Or.inl rfl) | exact Or.inr (Or.inr rfl)) rfl rfl)) (po_someI (pe_cstI pe_int fun _ _ => VR.i)) po_noneI)) (pg_nmI (pg_name sc.nd rfl (by first | exact Or.inl rfl | exact Or.inr rfl) (by first | exact Or.inl rfl | exact Or.inr rfl))) rfl rfl rfl)
    pss_nilI)) fun _ => rfl)
    (pss_consI (ps_asgI (pe_subD rfl rfl hu (pe_subD rfl rfl hu (pe_varI (pe_var rfl (by first | exact Or.inl rfl | exact Or.inr (Or.inl rfl) | exact Or.inr (Or.inr rfl)) rfl rfl)) (pe_cstI pe_int fun _ _ => VR.i) fun _ _ => rfl) (pe_cstI pe_int fun _ _ => VR.i) fun _ _ => rfl) (pg_nmI (pg_name sc.nd rfl (by first | exact Or.inl rfl | exact Or.inr rfl) (by first | exact Or.inl rfl | exact Or.inr rfl))) rfl rfl rfl)
    (pss_consI (ps_retI (pe_iteI (pt_cmpI (op_eqDI rfl rfl hu4) (pe_callI none F__law_made hr rfl tk (pa_consI (pe_varI (pe_var rfl (by first | exact Or.inl rfl | exact Or.inr (Or.inl rfl) | exact Or.inr (Or.inr rfl)) rfl rfl)) (pa_consI (pe_varI (pe_var rfl (by first | exact Or.inl rfl | exact Or.inr (Or.inl rfl) | exact Or.inr (Or.inr rfl)) rfl rfl)) (pa_consI (pe_varI (pe_var rfl (by first | exact Or.inl rfl | exact Or.inr (Or.inl rfl) | exact Or.inr (Or.inr rfl)) rfl rfl)) pa_nilI rfl) rfl) rfl) rfl rfl rfl) (pe_varI (pe_var rfl (by first | exact Or.inl rfl | exact Or.inr (Or.inl rfl) | exact Or.inr (Or.inr rfl)) rfl rfl)) rfl) (pe_tupI (pa_consI (pe_varI (pe_var rfl (by first | exact Or.inl rfl | exact Or.inr (Or.inl rfl) | exact Or.inr (Or.inr rfl)) rfl rfl)) (pa_consI (pe_varI (pe_var rfl (by first | exact Or.inl rfl | exact Or.inr (Or.inl rfl) | exact Or.inr (Or.inr rfl)) rfl rfl)) pa_nilI rfl) rfl)) (pe_cstI pe_non fun _ _ => VR.n)))
    pss_nilI))))
theorem ok__law_is_made (T : Tab K mg) : FnI Pr w K mg base (PP K G w) "_law_is_made" 2 2 c__law_is_made := by
  obtain ⟨hm, fd, F⟩ := T.fn__law_is_made
  have F__law_made := (ok__law_made (Pr := Pr) (w := w) (base := base) (G := G) T).mono (by decide : 1 ≤ 1)
  exact FnI.all (ps := ["_law_place", "_law_block_here"]) (fn_okI (P := PP K G w) (f := b__law_is_made) (N := N__law_is_made) (ps := ["_law_place", "_law_block_here"]) F sc__law_is_made fun av cdv A outer s H E hr => body__law_is_made T F__law_made av _ cdv A outer s H E hr) hm F.kp (F.bindsN fun _ _ _ _ _ _ us hl => match us, hl with | [_, _], _ => by kernel_rfl)
theorem sc_require_within : FnScope N_require_within ["value", "least", "greatest"] (defScope (top 8)) := ⟨rfl, rfl, rfl, by decide +kernel, rfl, by decide +kernel, by decide +kernel⟩
theorem body_require_within (T : Tab K mg) (F_is_within_bounds : FnI Pr w K mg base (PP K G w) "is_within_bounds" 2 3 c_is_within_bounds) (av : List Addr) (fA : Addr) (cdv : Value) (A : Around) (outer : List Env) (s : Shared) (H : Hp) (E : XK) (hr : Room 2 (A.deeper (envOfC "require_within" (defScope (top 8)) s.heap.objs.size fA cdv))) :
    PSs (cxOf (L2.CX Pr w) Pr w K mg base N_require_within "require_within" (defScope (top 8)) fA cdv A outer s H E) (defBody (top 8)) (tS ((PP K G w).at av) (fun c d _ H => E c d H) b_require_within) := by
  have hu := units65 hr
  have hu4 := hr.units
  have sc := sc_require_within
  have pa := passes_of (X := cxOf (L2.CX Pr w) Pr w K mg base N_require_within "require_within" (defScope (top 8)) fA cdv A outer s H E) rfl
  have tk := takes_of (X := cxOf (L2.CX Pr w) Pr w K mg base N_require_within "require_within" (defScope (top 8)) fA cdv A outer s H E) rfl rfl rfl rfl
  unfold b_require_within
  exact (pss_consI (ps_ifI (pt_notI (pt_truI rfl (pe_callI none F_is_within_bounds hr rfl tk (pa_consI (pe_varI (pe_var rfl (by first | exact Or.inl rfl | exact Or.inr (Or.inl rfl) | exact Or.inr (Or.inr rfl)) rfl rfl)) (pa_consI (pe_varI (pe_var rfl (by first | exact Or.inl rfl | exact Or.inr (Or.inl rfl) | exact Or.inr (Or.inr rfl)) rfl rfl)) (pa_consI (pe_varI (pe_var rfl (by first | exact Or.inl rfl | exact Or.inr (Or.inl rfl) | exact Or.inr (Or.inr rfl)) rfl rfl)) pa_nilI rfl) rfl) rfl) rfl rfl rfl) fun _ => rfl)) pss_no pss_nilI)
    pss_nilI)
theorem ok_require_within (T : Tab K mg) : FnI Pr w K mg base (PP K G w) "require_within" 3 3 c_require_within := by
  obtain ⟨hm, fd, F⟩ := T.fn_require_within
  have F_is_within_bounds := (ok_is_within_bounds (Pr := Pr) (w := w) (base := base) (G := G) T).mono (by decide : 2 ≤ 2)
  exact FnI.all (ps := ["value", "least", "greatest"]) (fn_okI (P := PP K G w) (f := b_require_within) (N := N_require_within) (ps := ["value", "least", "greatest"]) F sc_require_within fun av cdv A outer s H E hr => body_require_within T F_is_within_bounds av _ cdv A outer s H E hr) hm F.kp (F.bindsN fun _ _ _ _ _ _ us hl => match us, hl with | [_, _, _], _ => by kernel_rfl)
theorem sc_is_cell : FnScope N_is_cell ["value"] (defScope (top 9)) := ⟨rfl, rfl, rfl, by decide +kernel, rfl, by decide +kernel, by decide +kernel⟩
theorem body_is_cell (T : Tab K mg) (F_is_within_bounds : FnI Pr w K mg base (PP K G w) "is_within_bounds" 2 3 c_is_within_bounds) (av : List Addr) (fA : Addr) (cdv : Value) (A : Around) (outer : List Env) (s : Shared) (H : Hp) (E : XK) (hr : Room 2 (A.deeper (envOfC "is_cell" (defScope (top 9)) s.heap.objs.size fA cdv))) :
    PSs (cxOf (L2.CX Pr w) Pr w K mg base N_is_cell "is_cell" (defScope (top 9)) fA cdv A outer s H E) (defBody (top 9)) (tS ((PP K G w).at av) (fun c d _ H => E c d H) b_is_cell) := by
  have hu := units65 hr
  have hu4 := hr.units
  have sc := sc_is_cell
  have pa := passes_of (X := cxOf (L2.CX Pr w) Pr w K mg base N_is_cell "is_cell" (defScope (top 9)) fA cdv A outer s H E) rfl
  have tk := takes_of (X := cxOf (L2.CX Pr w) Pr w K mg base N_is_cell "is_cell" (defScope (top 9)) fA cdv A outer s H E) rfl rfl rfl rfl
  unfold b_is_cell
  exact (pss_consI (ps_retI (pe_callI none F_is_within_bounds hr rfl tk (pa_consI (pe_varI (pe_var rfl (by first | exact Or.inl rfl | exact Or.inr (Or.inl rfl) | exact Or.inr (Or.inr rfl)) rfl rfl)) (pa_consI (pe_cstI pe_int fun _ _ => VR.i) (pa_consI (pe_cstI (pe_glob (v := .int 999999999999999999) rfl T.in_MAX_CELL.choose_spec ⟨_, rfl⟩ rfl) fun _ _ => VR.i) pa_nilI rfl) rfl) rfl) rfl rfl rfl))
    pss_nilI)
theorem ok_is_cell (T : Tab K mg) : FnI Pr w K mg base (PP K G w) "is_cell" 3 1 c_is_cell := by
  obtain ⟨hm, fd, F⟩ := T.fn_is_cell
  have F_is_within_bounds := (ok_is_within_bounds (Pr := Pr) (w := w) (base := base) (G := G) T).mono (by decide : 2 ≤ 2)
  exact FnI.all (ps := ["value"]) (fn_okI (P := PP K G w) (f := b_is_cell) (N := N_is_cell) (ps := ["value"]) F sc_is_cell fun av cdv A outer s H E hr => body_is_cell T F_is_within_bounds av _ cdv A outer s H E hr) hm F.kp (F.bindsN fun _ _ _ _ _ _ us hl => match us, hl with | [_], _ => by kernel_rfl)
theorem sc_joined_cells : FnScope N_joined_cells ["place", "copies", "edition"] (defScope (top 30)) := ⟨rfl, rfl, rfl, by decide +kernel, rfl, by decide +kernel, by decide +kernel⟩
theorem body_joined_cells (T : Tab K mg) (F_made_in : FnI Pr w K mg base (PP K G w) "made_in" 2 3 c_made_in) (F_values_of : FnI Pr w K mg base (PP K G w) "values_of" 2 4 c_values_of) (av : List Addr) (fA : Addr) (cdv : Value) (A : Around) (outer : List Env) (s : Shared) (H : Hp) (E : XK) (hr : Room 2 (A.deeper (envOfC "joined_cells" (defScope (top 30)) s.heap.objs.size fA cdv))) :
    PSs (cxOf (L2.CX Pr w) Pr w K mg base N_joined_cells "joined_cells" (defScope (top 30)) fA cdv A outer s H E) (defBody (top 30)) (tS ((PP K G w).at av) (fun c d _ H => E c d H) b_joined_cells) := by
  have hu := units65 hr
  have hu4 := hr.units
  have sc := sc_joined_cells
  have pa := passes_of (X := cxOf (L2.CX Pr w) Pr w K mg base N_joined_cells "joined_cells" (defScope (top 30)) fA cdv A outer s H E) rfl
  have tk := takes_of (X := cxOf (L2.CX Pr w) Pr w K mg base N_joined_cells "joined_cells" (defScope (top 30)) fA cdv A outer s H E) rfl rfl rfl rfl
  unfold b_joined_cells
  exact (pss_consI (ps_setLcI [("part", 6)] rfl sc.nd rfl rfl (sw_true rfl rfl rfl rfl) (pi_rngI rfl T.fr_range (pa_consI (pe_cstI (pe_glob (v := .int 4) rfl T.in_PARTS.choose_spec ⟨_, rfl⟩ rfl) fun _ _ => VR.i) pa_nilI rfl) rfl) (blkOk_by (by kernel_rfl)) (fun _ => rfl) (fun _ _ _ _ _ _ => (pg_nmW (by decide) (pg_name sc.nd rfl (by first | exact Or.inl rfl | exact Or.inr rfl) (by first | exact Or.inl rfl | exact Or.inr rfl)))) (fun _ _ _ _ _ _ => pts_nilI) (fun _ _ _ _ _ _ => (pe_callI none F_values_of hr rfl takesF (pa_consI (pe_varI (pe_var rfl (by first | exact Or.inl rfl | exact Or.inr (Or.inl rfl) | exact Or.inr (Or.inr rfl)) rfl rfl)) (pa_consI (pe_varI (pe_var rfl (by first | exact Or.inl rfl | exact Or.inr (Or.inl rfl) | exact Or.inr (Or.inr rfl)) rfl rfl)) (pa_consI (pe_varI (pe_var rfl (by first | exact Or.inl rfl | exact Or.inr (Or.inl rfl) | exact Or.inr (Or.inr rfl)) rfl rfl)) (pa_consI (pe_varI (pe_var rfl (by first | exact Or.inl rfl | exact Or.inr (Or.inl rfl) | exact Or.inr (Or.inr rfl)) rfl rfl)) pa_nilI rfl) rfl) rfl) rfl) rfl rfl rfl)))
    (pss_consI (ps_ifI (pt_notI (pt_truI rfl (pe_bltI (cr_allI rfl rfl) rfl T.fr_all boot_all (pa_consI (pe_lcI [("some", 7)] rfl sc.nd (pi_anyI rfl (pe_varI (pe_var rfl (by first | exact Or.inl rfl | exact Or.inr (Or.inl rfl) | exact Or.inr (Or.inr rfl)) rfl rfl))) (blkOk_by (by kernel_rfl)) (fun _ => rfl) (fun _ _ _ _ _ _ => (pg_nmW (by decide) (pg_name sc.nd rfl (by first | exact Or.inl rfl | exact Or.inr rfl) (by first | exact Or.inl rfl | exact Or.inr rfl)))) (fun _ _ _ _ _ _ => pts_nilI) (fun _ _ _ _ _ _ => (pe_cmpI (op_eqDI rfl rfl hu4) (pe_bltI (cr_lenI rfl) rfl T.fr_len boot_len (pa_consI (pe_varI (pe_var rfl (by first | exact Or.inl rfl | exact Or.inr (Or.inl rfl) | exact Or.inr (Or.inr rfl)) rfl rfl)) pa_nilI rfl) (by decide) rfl rfl rfl) (pe_cstI pe_int fun _ _ => VR.i) rfl))) pa_nilI rfl) (by decide) rfl rfl rfl) fun _ => rfl)) (pss_consI (ps_retI (pe_cstI pe_non fun _ _ => VR.n))
    pss_nilI) pss_nilI)
    (pss_consI (ps_setLcI [("some", 7)] rfl sc.nd rfl rfl (sw_true rfl rfl rfl rfl) (pi_anyI rfl (pe_varI (pe_var rfl (by first | exact Or.inl rfl | exact Or.inr (Or.inl rfl) | exact Or.inr (Or.inr rfl)) rfl rfl))) (blkOk_by (by kernel_rfl)) (fun _ => rfl) (fun _ _ _ _ _ _ => (pg_nmW (by decide) (pg_name sc.nd rfl (by first | exact Or.inl rfl | exact Or.inr rfl) (by first | exact Or.inl rfl | exact Or.inr rfl)))) (fun _ _ _ _ _ _ => pts_nilI) (fun _ _ _ _ _ _ => (pe_subD rfl rfl hu (pe_varI (pe_var rfl (by first | exact Or.inl rfl | exact Or.inr (Or.inl rfl) | exact Or.inr (Or.inr rfl)) rfl rfl)) (pe_cstI pe_int fun _ _ => VR.i) fun _ _ => rfl)))
    (pss_consI (ps_asgI (pe_tyI (cr_tupleI rfl) rfl T.fr_tuple boot_tuple (pa_consI (pe_lc2I [("part", 6), ("cell", 8)] rfl sc.nd (pi_anyI rfl (pe_varI (pe_var rfl (by first | exact Or.inl rfl | exact Or.inr (Or.inl rfl) | exact Or.inr (Or.inr rfl)) rfl rfl))) (blkOk_by (by kernel_rfl)) (by decide) (fun _ => rfl) (fun _ _ => rfl) (fun _ _ _ _ _ _ => (pg_nmW (by decide) (pg_name sc.nd rfl (by first | exact Or.inl rfl | exact Or.inr rfl) (by first | exact Or.inl rfl | exact Or.inr rfl)))) (fun _ _ _ _ _ _ => pts_nilI) (fun _ _ _ _ _ _ => (pi_tupA rfl (pe_sliI rfl (pe_varI (pe_var rfl (by first | exact Or.inl rfl | exact Or.inr (Or.inl rfl) | exact Or.inr (Or.inr rfl)) rfl rfl)) (po_someI (pe_cstI (pe_glob (v := .int 3) rfl T.in_MARKS.choose_spec ⟨_, rfl⟩ rfl) fun _ _ => VR.i)) po_noneI))) (fun _ _ _ _ _ _ => (pg_nmW (by decide) (pg_name sc.nd rfl (by first | exact Or.inl rfl | exact Or.inr rfl) (by first | exact Or.inl rfl | exact Or.inr rfl)))) (fun _ _ _ _ _ _ => pts_nilI) (fun _ _ _ _ _ _ => (pe_varI (pe_var rfl (by first | exact Or.inl rfl | exact Or.inr (Or.inl rfl) | exact Or.inr (Or.inr rfl)) rfl rfl)))) pa_nilI rfl) (by decide) rfl rfl rfl) (pg_nmI (pg_name sc.nd rfl (by first | exact Or.inl rfl | exact Or.inr rfl) (by first | exact Or.inl rfl | exact Or.inr rfl))) rfl rfl rfl)
    (pss_consI (ps_retI (pe_iteI (pt_cmpI (op_eqDI rfl rfl hu4) (pe_callI none F_made_in hr rfl tk (pa_consI (pe_varI (pe_var rfl (by first | exact Or.inl rfl | exact Or.inr (Or.inl rfl) | exact Or.inr (Or.inr rfl)) rfl rfl)) (pa_consI (pe_varI (pe_var rfl (by first | exact Or.inl rfl | exact Or.inr (Or.inl rfl) | exact Or.inr (Or.inr rfl)) rfl rfl)) (pa_consI (pe_varI (pe_var rfl (by first | exact Or.inl rfl | exact Or.inr (Or.inl rfl) | exact Or.inr (Or.inr rfl)) rfl rfl)) pa_nilI rfl) rfl) rfl) rfl rfl rfl) (pe_tyI (cr_tupleI rfl) rfl T.fr_tuple boot_tuple (pa_consI (pe_varI (pe_var rfl (by first | exact Or.inl rfl | exact Or.inr (Or.inl rfl) | exact Or.inr (Or.inr rfl)) rfl rfl)) pa_nilI rfl) (by decide) rfl rfl rfl) rfl) (pe_varI (pe_var rfl (by first | exact Or.inl rfl | exact Or.inr (Or.inl rfl) | exact Or.inr (Or.inr rfl)) rfl rfl)) (pe_cstI pe_non fun _ _ => VR.n)))
    pss_nilI)))))
theorem ok_joined_cells (T : Tab K mg) : FnI Pr w K mg base (PP K G w) "joined_cells" 3 3 c_joined_cells := by
  obtain ⟨hm, fd, F⟩ := T.fn_joined_cells
  have F_made_in := (ok_made_in (Pr := Pr) (w := w) (base := base) (G := G) T).mono (by decide : 1 ≤ 2)
  have F_values_of := (ok_values_of (Pr := Pr) (w := w) (base := base) (G := G) T).mono (by decide : 2 ≤ 2)
  exact FnI.all (ps := ["place", "copies", "edition"]) (fn_okI (P := PP K G w) (f := b_joined_cells) (N := N_joined_cells) (ps := ["place", "copies", "edition"]) F sc_joined_cells fun av cdv A outer s H E hr => body_joined_cells T F_made_in F_values_of av _ cdv A outer s H E hr) hm F.kp (F.bindsN fun _ _ _ _ _ _ us hl => match us, hl with | [_, _, _], _ => by kernel_rfl)
theorem sc__law_sector : FnScope N__law_sector ["_law_tub_here"] (defScope (top 43)) := ⟨rfl, rfl, rfl, by decide +kernel, rfl, by decide +kernel, by decide +kernel⟩
theorem body__law_sector (T : Tab K mg) (F__law_choice : FnI Pr w K mg base (PP K G w) "_law_choice" 2 2 c__law_choice) (F__law_dip : FnI Pr w K mg base (PP K G w) "_law_dip" 2 2 c__law_dip) (av : List Addr) (fA : Addr) (cdv : Value) (A : Around) (outer : List Env) (s : Shared) (H : Hp) (E : XK) (hr : Room 2 (A.deeper (envOfC "_law_sector" (defScope (top 43)) s.heap.objs.size fA cdv))) :
    PSs (cxOf (L2.CX Pr w) Pr w K mg base N__law_sector "_law_sector" (defScope (top 43)) fA cdv A outer s H E) (defBody (top 43)) (tS ((PP K G w).at av) (fun c d _ H => E c d H) b__law_sector) := by
  have hu := units65 hr
  have hu4 := hr.units
  have sc := sc__law_sector
  have pa := passes_of (X := cxOf (L2.CX Pr w) Pr w K mg base N__law_sector "_law_sector" (defScope (top 43)) fA cdv A outer s H E) rfl
  have tk := takes_of (X := cxOf (L2.CX Pr w) Pr w K mg base N__law_sector "_law_sector" (defScope (top 43)) fA cdv A outer s H E) rfl rfl rfl rfl
  unfold b__law_sector
  exact (pss_consI (ps_asgI (pe_callI none F__law_dip hr rfl tk (pa_consI (pe_varI (pe_var rfl (by first | exact Or.inl rfl | exact Or.inr (Or.inl rfl) | exact Or.inr (Or.inr rfl)) rfl rfl)) (pa_consI (pe_cstI pe_int fun _ _ => VR.i) pa_nilI rfl) rfl) rfl rfl rfl) (pg_nmI (pg_name sc.nd rfl (by first | exact Or.inl rfl | exact Or.inr rfl) (by first | exact Or.inl rfl | exact Or.inr rfl))) rfl rfl rfl)
    (pss_consI (ps_ifI (pt_cmpI (op_ordI rfl hu4) (pe_varI (pe_var rfl (by first | exact Or.inl rfl | exact Or.inr (Or.inl rfl) | exact Or.inr (Or.inr rfl)) rfl rfl)) (pe_cstI pe_int fun _ _ => VR.i) rfl) (pss_consI (ps_retI (pe_callI none F__law_choice hr rfl tk (pa_consI (pe_varI (pe_var rfl (by first | exact Or.inl rfl | exact Or.inr (Or.inl rfl) | exact Or.inr (Or.inr rfl)) rfl rfl)) (pa_consI (pe_lstOf (pl_list (pa_consI (pe_tupI pa_nilI) (pa_consI (pe_tupI (pa_consI (pe_cstI pe_int fun _ _ => VR.i) pa_nilI rfl)) (pa_consI (pe_tupI (pa_consI (pe_cstI pe_int fun _ _ => VR.i) pa_nilI rfl)) (pa_consI (pe_tupI (pa_consI (pe_cstI pe_int fun _ _ => VR.i) (pa_consI (pe_cstI pe_int fun _ _ => VR.i) pa_nilI rfl) rfl)) (pa_consI (pe_tupI (pa_consI (pe_cstI pe_int fun _ _ => VR.i) (pa_consI (pe_cstI pe_int fun _ _ => VR.i) pa_nilI rfl) rfl)) pa_nilI rfl) rfl) rfl) rfl) rfl))) pa_nilI rfl) rfl) rfl rfl rfl))
    pss_nilI) pss_nilI)
    (pss_consI (ps_asgI (pe_callI none F__law_choice hr rfl tk (pa_consI (pe_varI (pe_var rfl (by first | exact Or.inl rfl | exact Or.inr (Or.inl rfl) | exact Or.inr (Or.inr rfl)) rfl rfl)) (pa_consI (pe_lstOf (pl_list (pa_consI (pe_cstI pe_int fun _ _ => VR.i) (pa_consI (pe_binI (op_powI) (pe_cstI pe_int fun _ _ => VR.i) (pe_cstI pe_int fun _ _ => VR.i)) (pa_consI (pe_binI (op_powI) (pe_cstI pe_int fun _ _ => VR.i) (pe_cstI pe_int fun _ _ => VR.i)) pa_nilI rfl) rfl) rfl))) pa_nilI rfl) rfl) rfl rfl rfl) (pg_nmI (pg_name sc.nd rfl (by first | exact Or.inl rfl | exact Or.inr rfl) (by first | exact Or.inl rfl | exact Or.inr rfl))) rfl rfl rfl)
    (pss_consI (ps_retI (pe_tyI (cr_tupleI rfl) rfl T.fr_tuple boot_tuple (pa_consI (pe_lcI [("_law_cell", 3)] rfl sc.nd (pi_rngI rfl T.fr_range (pa_consI (pe_callI none F__law_choice hr rfl tk (pa_consI (pe_varI (pe_var rfl (by first | exact Or.inl rfl | exact Or.inr (Or.inl rfl) | exact Or.inr (Or.inr rfl)) rfl rfl)) (pa_consI (pe_lstOf (pl_list (pa_consI (pe_cstI pe_int fun _ _ => VR.i) (pa_consI (pe_cstI pe_int fun _ _ => VR.i) (pa_consI (pe_cstI pe_int fun _ _ => VR.i) (pa_consI (pe_cstI pe_int fun _ _ => VR.i) pa_nilI rfl) rfl) rfl) rfl))) pa_nilI rfl) rfl) rfl rfl rfl) pa_nilI rfl) rfl) (blkOk_by (by kernel_rfl)) (fun _ => rfl) (fun _ _ _ _ _ _ => (pg_nmW (by decide) (pg_name sc.nd rfl (by first | exact Or.inl rfl | exact Or.inr rfl) (by first | exact Or.inl rfl | exact Or.inr rfl)))) (fun _ _ _ _ _ _ => pts_nilI) (fun _ _ _ _ _ _ => (pe_callI none F__law_dip hr rfl takesF (pa_consI (pe_varI (pe_var rfl (by first | exact Or.inl rfl | exact Or.inr (Or.inl rfl) | exact Or.inr (Or.inr rfl)) rfl rfl)) (pa_consI (pe_varI (pe_var rfl (by first | exact Or.inl rfl | exact Or.inr (Or.inl rfl) | exact Or.inr (Or.inr rfl)) rfl rfl)) pa_nilI rfl) rfl) rfl rfl rfl))) pa_nilI rfl) (by decide) rfl rfl rfl))
    pss_nilI))))
theorem ok__law_sector (T : Tab K mg) : FnI Pr w K mg base (PP K G w) "_law_sector" 3 1 c__law_sector := by
  obtain ⟨hm, fd, F⟩ := T.fn__law_sector
  have F__law_choice := (ok__law_choice (Pr := Pr) (w := w) (base := base) (G := G) T).mono (by decide : 2 ≤ 2)
  have F__law_dip := (ok__law_dip (Pr := Pr) (w := w) (base := base) (G := G) T).mono (by decide : 1 ≤ 2)
  exact FnI.all (ps := ["_law_tub_here"]) (fn_okI (P := PP K G w) (f := b__law_sector) (N := N__law_sector) (ps := ["_law_tub_here"]) F sc__law_sector fun av cdv A outer s H E hr => body__law_sector T F__law_choice F__law_dip av _ cdv A outer s H E hr) hm F.kp (F.bindsN fun _ _ _ _ _ _ us hl => match us, hl with | [_], _ => by kernel_rfl)
theorem sc__law_cells : FnScope N__law_cells ["_law_tub_here"] (defScope (top 46)) := ⟨rfl, rfl, rfl, by decide +kernel, rfl, by decide +kernel, by decide +kernel⟩
theorem body__law_cells (T : Tab K mg) (F__law_choice : FnI Pr w K mg base (PP K G w) "_law_choice" 2 2 c__law_choice) (F__law_dip : FnI Pr w K mg base (PP K G w) "_law_dip" 2 2 c__law_dip) (av : List Addr) (fA : Addr) (cdv : Value) (A : Around) (outer : List Env) (s : Shared) (H : Hp) (E : XK) (hr : Room 2 (A.deeper (envOfC "_law_cells" (defScope (top 46)) s.heap.objs.size fA cdv))) :
    PSs (cxOf (L2.CX Pr w) Pr w K mg base N__law_cells "_law_cells" (defScope (top 46)) fA cdv A outer s H E) (defBody (top 46)) (tS ((PP K G w).at av) (fun c d _ H => E c d H) b__law_cells) := by
  have hu := units65 hr
  have hu4 := hr.units
  have sc := sc__law_cells
  have pa := passes_of (X := cxOf (L2.CX Pr w) Pr w K mg base N__law_cells "_law_cells" (defScope (top 46)) fA cdv A outer s H E) rfl
  have tk := takes_of (X := cxOf (L2.CX Pr w) Pr w K mg base N__law_cells "_law_cells" (defScope (top 46)) fA cdv A outer s H E) rfl rfl rfl rfl
  unfold b__law_cells
  exact (pss_consI (ps_asgI (pe_callI none F__law_choice hr rfl tk (pa_consI (pe_varI (pe_var rfl (by first | exact Or.inl rfl | exact Or.inr (Or.inl rfl) | exact Or.inr (Or.inr rfl)) rfl rfl)) (pa_consI (pe_lstOf (pl_list (pa_consI (pe_cstI pe_int fun _ _ => VR.i) (pa_consI (pe_cstI pe_int fun _ _ => VR.i) (pa_consI (pe_cstI pe_int fun _ _ => VR.i) (pa_consI (pe_cstI pe_int fun _ _ => VR.i) (pa_consI (pe_cstI pe_int fun _ _ => VR.i) (pa_consI (pe_cstI pe_int fun _ _ => VR.i) (pa_consI (pe_cstI pe_int fun _ _ => VR.i) (pa_consI (pe_cstI pe_int fun _ _ => VR.i) (pa_consI (pe_cstI pe_int fun _ _ => VR.i) (pa_consI (pe_cstI pe_int fun _ _ => VR.i) (pa_consI (pe_cstI pe_int fun _ _ => VR.i) pa_nilI rfl) rfl) rfl) rfl) rfl) rfl) rfl) rfl) rfl) rfl) rfl))) pa_nilI rfl) rfl) rfl rfl rfl) (pg_nmI (pg_name sc.nd rfl (by first | exact Or.inl rfl | exact Or.inr rfl) (by first | exact Or.inl rfl | exact Or.inr rfl))) rfl rfl rfl)
    (pss_consI (ps_retI (pe_tyI (cr_tupleI rfl) rfl T.fr_tuple boot_tuple (pa_consI (pe_lcI [("_law_cell", 2)] rfl sc.nd (pi_rngI rfl T.fr_range (pa_consI (pe_varI (pe_var rfl (by first | exact Or.inl rfl | exact Or.inr (Or.inl rfl) | exact Or.inr (Or.inr rfl)) rfl rfl)) pa_nilI rfl) rfl) (blkOk_by (by kernel_rfl)) (fun _ => rfl) (fun _ _ _ _ _ _ => (pg_nmW (by decide) (pg_name sc.nd rfl (by first | exact Or.inl rfl | exact Or.inr rfl) (by first | exact Or.inl rfl | exact Or.inr rfl)))) (fun _ _ _ _ _ _ => pts_nilI) (fun _ _ _ _ _ _ => (pe_callI none F__law_dip hr rfl takesF (pa_consI (pe_varI (pe_var rfl (by first | exact Or.inl rfl | exact Or.inr (Or.inl rfl) | exact Or.inr (Or.inr rfl)) rfl rfl)) (pa_consI (pe_callI none F__law_choice hr rfl takesF (pa_consI (pe_varI (pe_var rfl (by first | exact Or.inl rfl | exact Or.inr (Or.inl rfl) | exact Or.inr (Or.inr rfl)) rfl rfl)) (pa_consI (pe_lstOf (pl_list (pa_consI (pe_cstI pe_int fun _ _ => VR.i) (pa_consI (pe_binI (op_powI) (pe_cstI pe_int fun _ _ => VR.i) (pe_cstI pe_int fun _ _ => VR.i)) pa_nilI rfl) rfl))) pa_nilI rfl) rfl) rfl rfl rfl) pa_nilI rfl) rfl) rfl rfl rfl))) pa_nilI rfl) (by decide) rfl rfl rfl))
    pss_nilI))
theorem ok__law_cells (T : Tab K mg) : FnI Pr w K mg base (PP K G w) "_law_cells" 3 1 c__law_cells := by
  obtain ⟨hm, fd, F⟩ := T.fn__law_cells
  have F__law_choice := (ok__law_choice (Pr := Pr) (w := w) (base := base) (G := G) T).mono (by decide : 2 ≤ 2)
  have F__law_dip := (ok__law_dip (Pr := Pr) (w := w) (base := base) (G := G) T).mono (by decide : 1 ≤ 2)
  exact FnI.all (ps := ["_law_tub_here"]) (fn_okI (P := PP K G w) (f := b__law_cells) (N := N__law_cells) (ps := ["_law_tub_here"]) F sc__law_cells fun av cdv A outer s H E hr => body__law_cells T F__law_choice F__law_dip av _ cdv A outer s H E hr) hm F.kp (F.bindsN fun _ _ _ _ _ _ us hl => match us, hl with | [_], _ => by kernel_rfl)
theorem sc__law_told : FnScope N__law_told ["_law_place", "_law_block_here"] (defScope (top 48)) := ⟨rfl, rfl, rfl, by decide +kernel, rfl, by decide +kernel, by decide +kernel⟩
theorem body__law_told (T : Tab K mg) (F__law_is_made : FnI Pr w K mg base (PP K G w) "_law_is_made" 2 2 c__law_is_made) (av : List Addr) (fA : Addr) (cdv : Value) (A : Around) (outer : List Env) (s : Shared) (H : Hp) (E : XK) (hr : Room 2 (A.deeper (envOfC "_law_told" (defScope (top 48)) s.heap.objs.size fA cdv))) :
    PSs (cxOf (L2.CX Pr w) Pr w K mg base N__law_told "_law_told" (defScope (top 48)) fA cdv A outer s H E) (defBody (top 48)) (tS ((PP K G w).at av) (fun c d _ H => E c d H) b__law_told) := by
  have hu := units65 hr
  have hu4 := hr.units
  have sc := sc__law_told
  have pa := passes_of (X := cxOf (L2.CX Pr w) Pr w K mg base N__law_told "_law_told" (defScope (top 48)) fA cdv A outer s H E) rfl
  have tk := takes_of (X := cxOf (L2.CX Pr w) Pr w K mg base N__law_told "_law_told" (defScope (top 48)) fA cdv A outer s H E) rfl rfl rfl rfl
  unfold b__law_told
  exact (pss_consI (ps_asgI (pe_callI none F__law_is_made hr rfl tk (pa_consI (pe_varI (pe_var rfl (by first | exact Or.inl rfl | exact Or.inr (Or.inl rfl) | exact Or.inr (Or.inr rfl)) rfl rfl)) (pa_consI (pe_varI (pe_var rfl (by first | exact Or.inl rfl | exact Or.inr (Or.inl rfl) | exact Or.inr (Or.inr rfl)) rfl rfl)) pa_nilI rfl) rfl) rfl rfl rfl) (pg_nmI (pg_name sc.nd rfl (by first | exact Or.inl rfl | exact Or.inr rfl) (by first | exact Or.inl rfl | exact Or.inr rfl))) rfl rfl rfl)
    (pss_consI (ps_ifI (pt_cmpI (op_isnI) (pe_varI (pe_var rfl (by first | exact Or.inl rfl | exact Or.inr (Or.inl rfl) | exact Or.inr (Or.inr rfl)) rfl rfl)) (pe_cstI pe_non fun _ _ => VR.n) rfl) (pss_consI (ps_retI (pe_binI (op_addI rfl) (pe_tupI (pa_consI (pe_cstI pe_str fun _ _ => VR.s) pa_nilI rfl)) (pe_varI (pe_var rfl (by first | exact Or.inl rfl | exact Or.inr (Or.inl rfl) | exact Or.inr (Or.inr rfl)) rfl rfl))))
    pss_nilI) pss_nilI)
    (pss_consI (ps_ifI (pt_cmpI (op_inDct rfl rfl hu) (pe_cstI pe_non fun _ _ => VR.n) (pe_varI (pe_var rfl (by first | exact Or.inl rfl | exact Or.inr (Or.inl rfl) | exact Or.inr (Or.inr rfl)) rfl rfl)) rfl) (pss_consI (ps_retI (pe_tupI (pa_consI (pe_cstI pe_str fun _ _ => VR.s) pa_nilI rfl)))
    pss_nilI) pss_nilI)
    (pss_consI (ps_retI (pe_iteI (pt_cmpI (op_eqDI rfl rfl hu4) (pe_varI (pe_var rfl (by first | exact Or.inl rfl | exact Or.inr (Or.inl rfl) | exact Or.inr (Or.inr rfl)) rfl rfl)) (pe_binI (op_mulDI rfl) (pe_tupI (pa_consI (pe_tupI pa_nilI) pa_nilI rfl)) (pe_cstI pe_int fun _ _ => VR.i)) rfl) (pe_tupI (pa_consI (pe_cstI pe_str fun _ _ => VR.s) pa_nilI rfl)) (pe_tupI (pa_consI (pe_cstI pe_str fun _ _ => VR.s) pa_nilI rfl))))
    pss_nilI))))
theorem ok__law_told (T : Tab K mg) : FnI Pr w K mg base (PP K G w) "_law_told" 3 2 c__law_told := by
  obtain ⟨hm, fd, F⟩ := T.fn__law_told
  have F__law_is_made := (ok__law_is_made (Pr := Pr) (w := w) (base := base) (G := G) T).mono (by decide : 2 ≤ 2)
  exact FnI.all (ps := ["_law_place", "_law_block_here"]) (fn_okI (P := PP K G w) (f := b__law_told) (N := N__law_told) (ps := ["_law_place", "_law_block_here"]) F sc__law_told fun av cdv A outer s H E hr => body__law_told T F__law_is_made av _ cdv A outer s H E hr) hm F.kp (F.bindsN fun _ _ _ _ _ _ us hl => match us, hl with | [_, _], _ => by kernel_rfl)
theorem sc__law_whole : FnScope N__law_whole ["_law_place", "_law_copies_here"] (defScope (top 52)) := ⟨rfl, rfl, rfl, by decide +kernel, rfl, by decide +kernel, by decide +kernel⟩
theorem body__law_whole (T : Tab K mg) (F__law_is_made : FnI Pr w K mg base (PP K G w) "_law_is_made" 2 2 c__law_is_made) (F__law_readable : FnI Pr w K mg base (PP K G w) "_law_readable" 2 1 c__law_readable) (av : List Addr) (fA : Addr) (cdv : Value) (A : Around) (outer : List Env) (s : Shared) (H : Hp) (E : XK) (hr : Room 2 (A.deeper (envOfC "_law_whole" (defScope (top 52)) s.heap.objs.size fA cdv))) :
    PSs (cxOf (L2.CX Pr w) Pr w K mg base N__law_whole "_law_whole" (defScope (top 52)) fA cdv A outer s H E) (defBody (top 52)) (tS ((PP K G w).at av) (fun c d _ H => E c d H) b__law_whole) := by
  have hu := units65 hr
  have hu4 := hr.units
  have sc := sc__law_whole
  have pa := passes_of (X := cxOf (L2.CX Pr w) Pr w K mg base N__law_whole "_law_whole" (defScope (top 52)) fA cdv A outer s H E) rfl
  have tk := takes_of (X := cxOf (L2.CX Pr w) Pr w K mg base N__law_whole "_law_whole" (defScope (top 52)) fA cdv A outer s H E) rfl rfl rfl rfl
  unfold b__law_whole
  exact (pss_consI (ps_parI rfl sc.nd rfl rfl (by decide) rfl rfl (pa_consI (pe_callI (some true) F__law_readable hr rfl tk (pa_consI (pe_varI (pe_var rfl (by first | exact Or.inl rfl | exact Or.inr (Or.inl rfl) | exact Or.inr (Or.inr rfl)) rfl rfl)) pa_nilI rfl) rfl rfl rfl) (pa_consI pe_d0R pa_nilI rfl) rfl) rfl rfl)
    (pss_consI (ps_forI pa rfl (pi_anyI rfl (pe_ssetI rfl rfl rfl hu rfl T.fr_sorted boot_sorted rfl T.fr_set boot_set (pa_consI (pe_lcI [("_law_one", 9)] rfl sc.nd (pi_anyI rfl (pe_varI (pe_var rfl (by first | exact Or.inl rfl | exact Or.inr (Or.inl rfl) | exact Or.inr (Or.inr rfl)) rfl rfl))) (blkOk_by (by kernel_rfl)) (fun _ => rfl) (fun _ _ _ _ _ _ => (pg_nmW (by decide) (pg_name sc.nd rfl (by first | exact Or.inl rfl | exact Or.inr rfl) (by first | exact Or.inl rfl | exact Or.inr rfl)))) (fun _ _ _ _ _ _ => (pts_oneI (pt_cmpI (op_ordI rfl hu4) (pe_bltI (cr_lenI rfl) rfl T.fr_len boot_len (pa_consI (pe_varI (pe_var rfl (by first | exact Or.inl rfl | exact Or.inr (Or.inl rfl) | exact Or.inr (Or.inr rfl)) rfl rfl)) pa_nilI rfl) (by decide) rfl rfl rfl) (pe_cstI pe_int fun _ _ => VR.i) rfl))) (fun _ _ _ _ _ _ => (pe_subD rfl rfl hu (pe_varI (pe_var rfl (by first | exact Or.inl rfl | exact Or.inr (Or.inl rfl) | exact Or.inr (Or.inr rfl)) rfl rfl)) (pe_cstI pe_int fun _ _ => VR.i) fun _ _ => rfl))) pa_nilI rfl) rfl rfl rfl rfl)) (pg_nmI (pg_name sc.nd rfl (by first | exact Or.inl rfl | exact Or.inr rfl) (by first | exact Or.inl rfl | exact Or.inr rfl))) (pss_consI (ps_asgI (pe_refOf (pl_list pa_nilI)) (pg_nmI (pg_name sc.nd rfl (by first | exact Or.inl rfl | exact Or.inr rfl) (by first | exact Or.inl rfl | exact Or.inr rfl))) rfl rfl rfl)
    (pss_consI (ps_forI pa rfl (pi_rngI rfl T.fr_range (pa_consI (pe_cstI pe_int fun _ _ => VR.i) pa_nilI rfl) rfl) (pg_nmI (pg_name sc.nd rfl (by first | exact Or.inl rfl | exact Or.inr rfl) (by first | exact Or.inl rfl | exact Or.inr rfl))) (pss_consI (ps_asgI (pe_tupI (pa_consI (pe_varI (pe_var rfl (by first | exact Or.inl rfl | exact Or.inr (Or.inl rfl) | exact Or.inr (Or.inr rfl)) rfl rfl)) (pa_consI (pe_varI (pe_var rfl (by first | exact Or.inl rfl | exact Or.inr (Or.inl rfl) | exact Or.inr (Or.inr rfl)) rfl rfl)) (pa_consI (pe_varI (pe_var rfl (by first | exact Or.inl rfl | exact Or.inr (Or.inl rfl) | exact Or.inr (Or.inr rfl)) rfl rfl)) pa_nilI rfl) rfl) rfl)) (pg_nmI (pg_name sc.nd rfl (by first | exact Or.inl rfl | exact Or.inr rfl) (by first | exact Or.inl rfl | exact Or.inr rfl))) rfl rfl rfl)
    (pss_consI (ps_exprI (pe_mthI (.inl rfl) F.plainAttrs_list F.slot_list_append F.type_list_append (mt_appI) rfl (pe_varI (pe_var rfl (by first | exact Or.inl rfl | exact Or.inr (Or.inl rfl) | exact Or.inr (Or.inr rfl)) rfl rfl)) (pa_consI (pe_ssetI rfl rfl rfl hu rfl T.fr_sorted boot_sorted rfl T.fr_set boot_set (pa_consI (pe_lcI [("_law_copy", 11)] rfl sc.nd (pi_anyI rfl (pe_varI (pe_var rfl (by first | exact Or.inl rfl | exact Or.inr (Or.inl rfl) | exact Or.inr (Or.inr rfl)) rfl rfl))) (blkOk_by (by kernel_rfl)) (fun _ => rfl) (fun _ _ _ _ _ _ => (pg_nmW (by decide) (pg_name sc.nd rfl (by first | exact Or.inl rfl | exact Or.inr rfl) (by first | exact Or.inl rfl | exact Or.inr rfl)))) (fun _ _ _ _ _ _ => (pts_oneI (pt_cmpI (op_eqDI rfl rfl hu4) (pe_sliI rfl (pe_orI rfl (pe_subD rfl rfl hu (pe_varI (pe_var rfl (by first | exact Or.inl rfl | exact Or.inr (Or.inl rfl) | exact Or.inr (Or.inr rfl)) rfl rfl)) (pe_varI (pe_var rfl (by first | exact Or.inl rfl | exact Or.inr (Or.inl rfl) | exact Or.inr (Or.inr rfl)) rfl rfl)) fun _ _ => rfl) (pe_one (pe_tupI pa_nilI))) po_noneI (po_someI (pe_cstI pe_int fun _ _ => VR.i))) (pe_varI (pe_var rfl (by first | exact Or.inl rfl | exact Or.inr (Or.inl rfl) | exact Or.inr (Or.inr rfl)) rfl rfl)) rfl))) (fun _ _ _ _ _ _ => (pe_subD rfl rfl hu (pe_varI (pe_var rfl (by first | exact Or.inl rfl | exact Or.inr (Or.inl rfl) | exact Or.inr (Or.inr rfl)) rfl rfl)) (pe_varI (pe_var rfl (by first | exact Or.inl rfl | exact Or.inr (Or.inl rfl) | exact Or.inr (Or.inr rfl)) rfl rfl)) fun _ _ => rfl))) pa_nilI rfl) rfl rfl rfl rfl) pa_nilI rfl) rfl rfl rfl rfl rfl) rfl)
    pss_nilI)) fun _ => rfl)
    (pss_consI (ps_ifI (pt_cmpI (op_eqDI rfl rfl hu4) (pe_lcCI [("_law_here", 10)] rfl sc.nd (pi_refI (pe_varI (pe_var rfl (by first | exact Or.inl rfl | exact Or.inr (Or.inl rfl) | exact Or.inr (Or.inr rfl)) rfl rfl))) (blkOk_by (by kernel_rfl)) (fun _ => rfl) (fun _ _ _ _ _ _ => (pg_nmW (by decide) (pg_name sc.nd rfl (by first | exact Or.inl rfl | exact Or.inr rfl) (by first | exact Or.inl rfl | exact Or.inr rfl)))) (fun _ _ _ _ _ _ => (pts_oneI (pt_cmpI (op_neDI rfl rfl hu4) (pe_bltI (cr_lenI rfl) rfl T.fr_len boot_len (pa_consI (pe_varI (pe_var rfl (by first | exact Or.inl rfl | exact Or.inr (Or.inl rfl) | exact Or.inr (Or.inr rfl)) rfl rfl)) pa_nilI rfl) (by decide) rfl rfl rfl) (pe_cstI pe_int fun _ _ => VR.i) rfl))) (fun _ _ _ _ _ _ => (pe_cstI pe_int fun _ _ => VR.i))) (pe_lstOf (pl_list pa_nilI)) rfl) (pss_consI (ps_asgI (pe_callI none F__law_is_made hr rfl tk (pa_consI (pe_varI (pe_var rfl (by first | exact Or.inl rfl | exact Or.inr (Or.inl rfl) | exact Or.inr (Or.inr rfl)) rfl rfl)) (pa_consI (pe_tyI (cr_tupleI rfl) rfl T.fr_tuple boot_tuple (pa_consI (pe_lcCI [("_law_here", 10)] rfl sc.nd (pi_refI (pe_varI (pe_var rfl (by first | exact Or.inl rfl | exact Or.inr (Or.inl rfl) | exact Or.inr (Or.inr rfl)) rfl rfl))) (blkOk_by (by kernel_rfl)) (fun _ => rfl) (fun _ _ _ _ _ _ => (pg_nmW (by decide) (pg_name sc.nd rfl (by first | exact Or.inl rfl | exact Or.inr rfl) (by first | exact Or.inl rfl | exact Or.inr rfl)))) (fun _ _ _ _ _ _ => pts_nilI) (fun _ _ _ _ _ _ => (pe_subD rfl rfl hu (pe_varI (pe_var rfl (by first | exact Or.inl rfl | exact Or.inr (Or.inl rfl) | exact Or.inr (Or.inr rfl)) rfl rfl)) (pe_cstI pe_int fun _ _ => VR.i) fun _ _ => rfl))) pa_nilI rfl) (by decide) rfl rfl rfl) pa_nilI rfl) rfl) rfl rfl rfl) (pg_nmI (pg_name sc.nd rfl (by first | exact Or.inl rfl | exact Or.inr rfl) (by first | exact Or.inl rfl | exact Or.inr rfl))) rfl rfl rfl)
    (pss_consI (ps_ifI (pt_cmpI (op_isnI) (pe_varI (pe_var rfl (by first | exact Or.inl rfl | exact Or.inr (Or.inl rfl) | exact Or.inr (Or.inr rfl)) rfl rfl)) (pe_cstI pe_non fun _ _ => VR.n) rfl) (pss_consI (ps_asgI (pe_subD rfl rfl hu (pe_varI (pe_var rfl (by first | exact Or.inl rfl | exact Or.inr (Or.inl rfl) | exact Or.inr (Or.inr rfl)) rfl rfl)) (pe_cstI pe_int fun _ _ => VR.i) fun _ _ => rfl) (pg_sbI (W := WF) (pe_varI (pe_var rfl (by first | exact Or.inl rfl | exact Or.inr (Or.inl rfl) | exact Or.inr (Or.inr rfl)) rfl rfl)) (pe_varI (pe_var rfl (by first | exact Or.inl rfl | exact Or.inr (Or.inl rfl) | exact Or.inr (Or.inr rfl)) rfl rfl)) (st_putM rfl rfl hu) fun _ => rfl) rfl rfl rfl)
    pss_nilI) pss_nilI)
    pss_nilI)) pss_nilI)
    pss_nilI))) fun _ => rfl)
    (pss_consI (ps_retI (pe_varI (pe_var rfl (by first | exact Or.inl rfl | exact Or.inr (Or.inl rfl) | exact Or.inr (Or.inr rfl)) rfl rfl)))
    pss_nilI)))
theorem ok__law_whole (T : Tab K mg) : FnI Pr w K mg base (PP K G w) "_law_whole" 3 2 c__law_whole := by
  obtain ⟨hm, fd, F⟩ := T.fn__law_whole
  have F__law_is_made := (ok__law_is_made (Pr := Pr) (w := w) (base := base) (G := G) T).mono (by decide : 2 ≤ 2)
  have F__law_readable := (ok__law_readable (Pr := Pr) (w := w) (base := base) (G := G) T).mono (by decide : 1 ≤ 2)
  exact FnI.all (ps := ["_law_place", "_law_copies_here"]) (fn_okI (P := PP K G w) (f := b__law_whole) (N := N__law_whole) (ps := ["_law_place", "_law_copies_here"]) F sc__law_whole fun av cdv A outer s H E hr => body__law_whole T F__law_is_made F__law_readable av _ cdv A outer s H E hr) hm F.kp (F.bindsN fun _ _ _ _ _ _ us hl => match us, hl with | [_, _], _ => by kernel_rfl)
theorem sc__law_copies : FnScope N__law_copies ["_law_tub_here", "_law_blocks"] (defScope (top 54)) := ⟨rfl, rfl, rfl, by decide +kernel, rfl, by decide +kernel, by decide +kernel⟩
theorem body__law_copies (T : Tab K mg) (F__law_choice : FnI Pr w K mg base (PP K G w) "_law_choice" 2 2 c__law_choice) (F__law_dip : FnI Pr w K mg base (PP K G w) "_law_dip" 2 2 c__law_dip) (av : List Addr) (fA : Addr) (cdv : Value) (A : Around) (outer : List Env) (s : Shared) (H : Hp) (E : XK) (hr : Room 2 (A.deeper (envOfC "_law_copies" (defScope (top 54)) s.heap.objs.size fA cdv))) :
    PSs (cxOf (L2.CX Pr w) Pr w K mg base N__law_copies "_law_copies" (defScope (top 54)) fA cdv A outer s H E) (defBody (top 54)) (tS ((PP K G w).at av) (fun c d _ H => E c d H) b__law_copies) := by
  have hu := units65 hr
  have hu4 := hr.units
  have sc := sc__law_copies
  have pa := passes_of (X := cxOf (L2.CX Pr w) Pr w K mg base N__law_copies "_law_copies" (defScope (top 54)) fA cdv A outer s H E) rfl
  have tk := takes_of (X := cxOf (L2.CX Pr w) Pr w K mg base N__law_copies "_law_copies" (defScope (top 54)) fA cdv A outer s H E) rfl rfl rfl rfl
  unfold b__law_copies
  exact (pss_consI (ps_asgI (pe_refOf (pl_list pa_nilI)) (pg_nmI (pg_name sc.nd rfl (by first | exact Or.inl rfl | exact Or.inr rfl) (by first | exact Or.inl rfl | exact Or.inr rfl))) rfl rfl rfl)
    (pss_consI (ps_forI pa rfl (pi_rngI rfl T.fr_range (pa_consI (pe_binI (op_addI rfl) (pe_cstI pe_int fun _ _ => VR.i) (pe_callI none F__law_dip hr rfl tk (pa_consI (pe_varI (pe_var rfl (by first | exact Or.inl rfl | exact Or.inr (Or.inl rfl) | exact Or.inr (Or.inr rfl)) rfl rfl)) (pa_consI (pe_cstI pe_int fun _ _ => VR.i) pa_nilI rfl) rfl) rfl rfl rfl)) pa_nilI rfl) rfl) (pg_nmI (pg_name sc.nd rfl (by first | exact Or.inl rfl | exact Or.inr rfl) (by first | exact Or.inl rfl | exact Or.inr rfl))) (pss_consI (ps_asgI (pe_refOf (pl_list pa_nilI)) (pg_nmI (pg_name sc.nd rfl (by first | exact Or.inl rfl | exact Or.inr rfl) (by first | exact Or.inl rfl | exact Or.inr rfl))) rfl rfl rfl)
    (pss_consI (ps_forI pa rfl (pi_rngI rfl T.fr_range (pa_consI (pe_cstI pe_int fun _ _ => VR.i) pa_nilI rfl) rfl) (pg_nmI (pg_name sc.nd rfl (by first | exact Or.inl rfl | exact Or.inr rfl) (by first | exact Or.inl rfl | exact Or.inr rfl))) (pss_consI (ps_exprI (pe_mthI (.inl rfl) F.plainAttrs_list F.slot_list_append F.type_list_append (mt_appI) rfl (pe_varI (pe_var rfl (by first | exact Or.inl rfl | exact Or.inr (Or.inl rfl) | exact Or.inr (Or.inr rfl)) rfl rfl)) (pa_consI (pe_iteI (pt_cmpI (op_eqDI rfl rfl hu4) (pe_callI none F__law_dip hr rfl tk (pa_consI (pe_varI (pe_var rfl (by first | exact Or.inl rfl | exact Or.inr (Or.inl rfl) | exact Or.inr (Or.inr rfl)) rfl rfl)) (pa_consI (pe_cstI pe_int fun _ _ => VR.i) pa_nilI rfl) rfl) rfl rfl rfl) (pe_cstI pe_int fun _ _ => VR.i) rfl) (pe_cstI pe_non fun _ _ => VR.n) (pe_subD rfl rfl hu (pe_callI none F__law_choice hr rfl tk (pa_consI (pe_varI (pe_var rfl (by first | exact Or.inl rfl | exact Or.inr (Or.inl rfl) | exact Or.inr (Or.inr rfl)) rfl rfl)) (pa_consI (pe_varI (pe_var rfl (by first | exact Or.inl rfl | exact Or.inr (Or.inl rfl) | exact Or.inr (Or.inr rfl)) rfl rfl)) pa_nilI rfl) rfl) rfl rfl rfl) (pe_varI (pe_var rfl (by first | exact Or.inl rfl | exact Or.inr (Or.inl rfl) | exact Or.inr (Or.inr rfl)) rfl rfl)) fun _ _ => rfl)) pa_nilI rfl) rfl rfl rfl rfl rfl) rfl)
    pss_nilI) fun _ => rfl)
    (pss_consI (ps_exprI (pe_mthI (.inl rfl) F.plainAttrs_list F.slot_list_append F.type_list_append (mt_appI) rfl (pe_varI (pe_var rfl (by first | exact Or.inl rfl | exact Or.inr (Or.inl rfl) | exact Or.inr (Or.inr rfl)) rfl rfl)) (pa_consI (pe_tyI (cr_tupleI rfl) rfl T.fr_tuple boot_tuple (pa_consI (pe_varI (pe_var rfl (by first | exact Or.inl rfl | exact Or.inr (Or.inl rfl) | exact Or.inr (Or.inr rfl)) rfl rfl)) pa_nilI rfl) (by decide) rfl rfl rfl) pa_nilI rfl) rfl rfl rfl rfl rfl) rfl)
    pss_nilI))) fun _ => rfl)
    (pss_consI (ps_retI (pe_tyI (cr_tupleI rfl) rfl T.fr_tuple boot_tuple (pa_consI (pe_varI (pe_var rfl (by first | exact Or.inl rfl | exact Or.inr (Or.inl rfl) | exact Or.inr (Or.inr rfl)) rfl rfl)) pa_nilI rfl) (by decide) rfl rfl rfl))
    pss_nilI)))
theorem ok__law_copies (T : Tab K mg) : FnI Pr w K mg base (PP K G w) "_law_copies" 3 2 c__law_copies := by
  obtain ⟨hm, fd, F⟩ := T.fn__law_copies
  have F__law_choice := (ok__law_choice (Pr := Pr) (w := w) (base := base) (G := G) T).mono (by decide : 2 ≤ 2)
  have F__law_dip := (ok__law_dip (Pr := Pr) (w := w) (base := base) (G := G) T).mono (by decide : 1 ≤ 2)
  exact FnI.all (ps := ["_law_tub_here", "_law_blocks"]) (fn_okI (P := PP K G w) (f := b__law_copies) (N := N__law_copies) (ps := ["_law_tub_here", "_law_blocks"]) F sc__law_copies fun av cdv A outer s H E hr => body__law_copies T F__law_choice F__law_dip av _ cdv A outer s H E hr) hm F.kp (F.bindsN fun _ _ _ _ _ _ us hl => match us, hl with | [_, _], _ => by kernel_rfl)
theorem sc_is_filled : FnScope N_is_filled ["value"] (defScope (top 14)) := ⟨rfl, rfl, rfl, by decide +kernel, rfl, by decide +kernel, by decide +kernel⟩
theorem body_is_filled (T : Tab K mg) (F_is_cell : FnI Pr w K mg base (PP K G w) "is_cell" 3 1 c_is_cell) (av : List Addr) (fA : Addr) (cdv : Value) (A : Around) (outer : List Env) (s : Shared) (H : Hp) (E : XK) (hr : Room 3 (A.deeper (envOfC "is_filled" (defScope (top 14)) s.heap.objs.size fA cdv))) :
    PSs (cxOf (L2.CX Pr w) Pr w K mg base N_is_filled "is_filled" (defScope (top 14)) fA cdv A outer s H E) (defBody (top 14)) (tS ((PP K G w).at av) (fun c d _ H => E c d H) b_is_filled) := by
  have hu := units65 hr
  have hu4 := hr.units
  have sc := sc_is_filled
  have pa := passes_of (X := cxOf (L2.CX Pr w) Pr w K mg base N_is_filled "is_filled" (defScope (top 14)) fA cdv A outer s H E) rfl
  have tk := takes_of (X := cxOf (L2.CX Pr w) Pr w K mg base N_is_filled "is_filled" (defScope (top 14)) fA cdv A outer s H E) rfl rfl rfl rfl
  unfold b_is_filled
  exact (pss_consI (ps_ifI (PW.pt (pw_orI (pt_notI (pt_truI rfl (pe_bltI (cr_isaI rfl) rfl T.fr_isinstance boot_isinstance (pa_consI (pe_varI (pe_var rfl (by first | exact Or.inl rfl | exact Or.inr (Or.inl rfl) | exact Or.inr (Or.inr rfl)) rfl rfl)) (pa_consI (pe_cstI (pe_bltn (v := .ty "tuple") (u := .type "tuple") rfl T.fr_tuple boot_tuple rfl (by decide) rfl) fun _ _ => VR.t) pa_nilI rfl) rfl) (by decide) rfl rfl rfl) fun _ => rfl)) (pw_or1 (pt_cmpI (op_ordI rfl hu4) (pe_bltI (cr_lenI rfl) rfl T.fr_len boot_len (pa_consI (pe_varI (pe_var rfl (by first | exact Or.inl rfl | exact Or.inr (Or.inl rfl) | exact Or.inr (Or.inr rfl)) rfl rfl)) pa_nilI rfl) (by decide) rfl rfl rfl) (pe_cstI (pe_glob (v := .int 16) rfl T.in_MOST_CELLS_disks.choose_spec ⟨_, rfl⟩ rfl) fun _ _ => VR.i) rfl)))) (pss_consI (ps_retI (pe_cstI pe_bl fun _ _ => VR.b))
    pss_nilI) pss_nilI)
    (pss_consI (ps_retI (pe_bltI (cr_allI rfl rfl) rfl T.fr_all boot_all (pa_consI (pe_lcI [("cell", 1)] rfl sc.nd (pi_anyI rfl (pe_varI (pe_var rfl (by first | exact Or.inl rfl | exact Or.inr (Or.inl rfl) | exact Or.inr (Or.inr rfl)) rfl rfl))) (blkOk_by (by kernel_rfl)) (fun _ => rfl) (fun _ _ _ _ _ _ => (pg_nmW (by decide) (pg_name sc.nd rfl (by first | exact Or.inl rfl | exact Or.inr rfl) (by first | exact Or.inl rfl | exact Or.inr rfl)))) (fun _ _ _ _ _ _ => pts_nilI) (fun _ _ _ _ _ _ => (pe_callI none F_is_cell hr rfl takesF (pa_consI (pe_varI (pe_var rfl (by first | exact Or.inl rfl | exact Or.inr (Or.inl rfl) | exact Or.inr (Or.inr rfl)) rfl rfl)) pa_nilI rfl) rfl rfl rfl))) pa_nilI rfl) (by decide) rfl rfl rfl))
    pss_nilI))
theorem ok_is_filled (T : Tab K mg) : FnI Pr w K mg base (PP K G w) "is_filled" 4 1 c_is_filled := by
  obtain ⟨hm, fd, F⟩ := T.fn_is_filled
  have F_is_cell := (ok_is_cell (Pr := Pr) (w := w) (base := base) (G := G) T).mono (by decide : 3 ≤ 3)
  exact FnI.all (ps := ["value"]) (fn_okI (P := PP K G w) (f := b_is_filled) (N := N_is_filled) (ps := ["value"]) F sc_is_filled fun av cdv A outer s H E hr => body_is_filled T F_is_cell av _ cdv A outer s H E hr) hm F.kp (F.bindsN fun _ _ _ _ _ _ us hl => match us, hl with | [_], _ => by kernel_rfl)
theorem sc_whole_in : FnScope N_whole_in ["place", "copies"] (defScope (top 31)) := ⟨rfl, rfl, rfl, by decide +kernel, rfl, by decide +kernel, by decide +kernel⟩
theorem body_whole_in (T : Tab K mg) (F_editions_at : FnI Pr w K mg base (PP K G w) "editions_at" 3 2 c_editions_at) (F_joined_cells : FnI Pr w K mg base (PP K G w) "joined_cells" 3 3 c_joined_cells) (av : List Addr) (fA : Addr) (cdv : Value) (A : Around) (outer : List Env) (s : Shared) (H : Hp) (E : XK) (hr : Room 3 (A.deeper (envOfC "whole_in" (defScope (top 31)) s.heap.objs.size fA cdv))) :
    PSs (cxOf (L2.CX Pr w) Pr w K mg base N_whole_in "whole_in" (defScope (top 31)) fA cdv A outer s H E) (defBody (top 31)) (tS ((PP K G w).at av) (fun c d _ H => E c d H) b_whole_in) := by
  have hu := units65 hr
  have hu4 := hr.units
  have sc := sc_whole_in
  have pa := passes_of (X := cxOf (L2.CX Pr w) Pr w K mg base N_whole_in "whole_in" (defScope (top 31)) fA cdv A outer s H E) rfl
  have tk := takes_of (X := cxOf (L2.CX Pr w) Pr w K mg base N_whole_in "whole_in" (defScope (top 31)) fA cdv A outer s H E) rfl rfl rfl rfl
  unfold b_whole_in
  exact (pss_consI (ps_retI (pe_lcI [("edition", 2)] rfl sc.nd (pi_anyI rfl (pe_callI (some true) F_editions_at hr rfl tk (pa_consI (pe_varI (pe_var rfl (by first | exact Or.inl rfl | exact Or.inr (Or.inl rfl) | exact Or.inr (Or.inr rfl)) rfl rfl)) (pa_consI (pe_varI (pe_var rfl (by first | exact Or.inl rfl | exact Or.inr (Or.inl rfl) | exact Or.inr (Or.inr rfl)) rfl rfl)) pa_nilI rfl) rfl) rfl rfl rfl)) (blkOk_by (by kernel_rfl)) (fun _ => rfl) (fun _ _ _ _ _ _ => (pg_nmW (by decide) (pg_name sc.nd rfl (by first | exact Or.inl rfl | exact Or.inr rfl) (by first | exact Or.inl rfl | exact Or.inr rfl)))) (fun _ _ _ _ _ _ => (pts_oneI (pt_cmpI (op_isnI) (pe_callI none F_joined_cells hr rfl takesF (pa_consI (pe_varI (pe_var rfl (by first | exact Or.inl rfl | exact Or.inr (Or.inl rfl) | exact Or.inr (Or.inr rfl)) rfl rfl)) (pa_consI (pe_varI (pe_var rfl (by first | exact Or.inl rfl | exact Or.inr (Or.inl rfl) | exact Or.inr (Or.inr rfl)) rfl rfl)) (pa_consI (pe_varI (pe_var rfl (by first | exact Or.inl rfl | exact Or.inr (Or.inl rfl) | exact Or.inr (Or.inr rfl)) rfl rfl)) pa_nilI rfl) rfl) rfl) rfl rfl rfl) (pe_cstI pe_non fun _ _ => VR.n) rfl))) (fun _ _ _ _ _ _ => (pe_varI (pe_var rfl (by first | exact Or.inl rfl | exact Or.inr (Or.inl rfl) | exact Or.inr (Or.inr rfl)) rfl rfl)))))
    pss_nilI)
theorem ok_whole_in (T : Tab K mg) : FnI Pr w K mg base (PP K G w) "whole_in" 4 2 c_whole_in := by
  obtain ⟨hm, fd, F⟩ := T.fn_whole_in
  have F_editions_at := (ok_editions_at (Pr := Pr) (w := w) (base := base) (G := G) T).mono (by decide : 2 ≤ 3)
  have F_joined_cells := (ok_joined_cells (Pr := Pr) (w := w) (base := base) (G := G) T).mono (by decide : 3 ≤ 3)
  exact FnI.all (ps := ["place", "copies"]) (fn_okI (P := PP K G w) (f := b_whole_in) (N := N_whole_in) (ps := ["place", "copies"]) F sc_whole_in fun av cdv A outer s H E hr => body_whole_in T F_editions_at F_joined_cells av _ cdv A outer s H E hr) hm F.kp (F.bindsN fun _ _ _ _ _ _ us hl => match us, hl with | [_, _], _ => by kernel_rfl)
theorem sc_require_block_place : FnScope N_require_block_place ["place"] (defScope (top 33)) := ⟨rfl, rfl, rfl, by decide +kernel, rfl, by decide +kernel, by decide +kernel⟩
theorem body_require_block_place (T : Tab K mg) (F_require_within : FnI Pr w K mg base (PP K G w) "require_within" 3 3 c_require_within) (av : List Addr) (fA : Addr) (cdv : Value) (A : Around) (outer : List Env) (s : Shared) (H : Hp) (E : XK) (hr : Room 3 (A.deeper (envOfC "require_block_place" (defScope (top 33)) s.heap.objs.size fA cdv))) :
    PSs (cxOf (L2.CX Pr w) Pr w K mg base N_require_block_place "require_block_place" (defScope (top 33)) fA cdv A outer s H E) (defBody (top 33)) (tS ((PP K G w).at av) (fun c d _ H => E c d H) b_require_block_place) := by
  have hu := units65 hr
  have hu4 := hr.units
  have sc := sc_require_block_place
  have pa := passes_of (X := cxOf (L2.CX Pr w) Pr w K mg base N_require_block_place "require_block_place" (defScope (top 33)) fA cdv A outer s H E) rfl
  have tk := takes_of (X := cxOf (L2.CX Pr w) Pr w K mg base N_require_block_place "require_block_place" (defScope (top 33)) fA cdv A outer s H E) rfl rfl rfl rfl
  unfold b_require_block_place
  exact (pss_consI (ps_exprI (pe_callI none F_require_within hr rfl tk (pa_consI (pe_varI (pe_var rfl (by first | exact Or.inl rfl | exact Or.inr (Or.inl rfl) | exact Or.inr (Or.inr rfl)) rfl rfl)) (pa_consI (pe_cstI pe_int fun _ _ => VR.i) (pa_consI (pe_binI (op_subI) (pe_cstI (pe_glob (v := .int 240) rfl T.in_MOST_BLOCKS.choose_spec ⟨_, rfl⟩ rfl) fun _ _ => VR.i) (pe_cstI pe_int fun _ _ => VR.i)) pa_nilI rfl) rfl) rfl) rfl rfl rfl) rfl)
    pss_nilI)
theorem ok_require_block_place (T : Tab K mg) : FnI Pr w K mg base (PP K G w) "require_block_place" 4 1 c_require_block_place := by
  obtain ⟨hm, fd, F⟩ := T.fn_require_block_place
  have F_require_within := (ok_require_within (Pr := Pr) (w := w) (base := base) (G := G) T).mono (by decide : 3 ≤ 3)
  exact FnI.all (ps := ["place"]) (fn_okI (P := PP K G w) (f := b_require_block_place) (N := N_require_block_place) (ps := ["place"]) F sc_require_block_place fun av cdv A outer s H E hr => body_require_block_place T F_require_within av _ cdv A outer s H E hr) hm F.kp (F.bindsN fun _ _ _ _ _ _ us hl => match us, hl with | [_], _ => by kernel_rfl)
theorem sc__law_block : FnScope N__law_block ["_law_tub_here"] (defScope (top 44)) := ⟨rfl, rfl, rfl, by decide +kernel, rfl, by decide +kernel, by decide +kernel⟩
theorem body__law_block (T : Tab K mg) (F__law_sector : FnI Pr w K mg base (PP K G w) "_law_sector" 3 1 c__law_sector) (av : List Addr) (fA : Addr) (cdv : Value) (A : Around) (outer : List Env) (s : Shared) (H : Hp) (E : XK) (hr : Room 3 (A.deeper (envOfC "_law_block" (defScope (top 44)) s.heap.objs.size fA cdv))) :
    PSs (cxOf (L2.CX Pr w) Pr w K mg base N__law_block "_law_block" (defScope (top 44)) fA cdv A outer s H E) (defBody (top 44)) (tS ((PP K G w).at av) (fun c d _ H => E c d H) b__law_block) := by
  have hu := units65 hr
  have hu4 := hr.units
  have sc := sc__law_block
  have pa := passes_of (X := cxOf (L2.CX Pr w) Pr w K mg base N__law_block "_law_block" (defScope (top 44)) fA cdv A outer s H E) rfl
  have tk := takes_of (X := cxOf (L2.CX Pr w) Pr w K mg base N__law_block "_law_block" (defScope (top 44)) fA cdv A outer s H E) rfl rfl rfl rfl
  unfold b__law_block
  exact (pss_consI (ps_retI (pe_tyI (cr_tupleI rfl) rfl T.fr_tuple boot_tuple (pa_consI (pe_lcI [("_law_part", 1)] rfl sc.nd (pi_rngI rfl T.fr_range (pa_consI (pe_cstI pe_int fun _ _ => VR.i) pa_nilI rfl) rfl) (blkOk_by (by kernel_rfl)) (fun _ => rfl) (fun _ _ _ _ _ _ => (pg_nmW (by decide) (pg_name sc.nd rfl (by first | exact Or.inl rfl | exact Or.inr rfl) (by first | exact Or.inl rfl | exact Or.inr rfl)))) (fun _ _ _ _ _ _ => pts_nilI) (fun _ _ _ _ _ _ => (pe_callI none F__law_sector hr rfl takesF (pa_consI (pe_varI (pe_var rfl (by first | exact Or.inl rfl | exact Or.inr (Or.inl rfl) | exact Or.inr (Or.inr rfl)) rfl rfl)) pa_nilI rfl) rfl rfl rfl))) pa_nilI rfl) (by decide) rfl rfl rfl))
    pss_nilI)
theorem ok__law_block (T : Tab K mg) : FnI Pr w K mg base (PP K G w) "_law_block" 4 1 c__law_block := by
  obtain ⟨hm, fd, F⟩ := T.fn__law_block
  have F__law_sector := (ok__law_sector (Pr := Pr) (w := w) (base := base) (G := G) T).mono (by decide : 3 ≤ 3)
  exact FnI.all (ps := ["_law_tub_here"]) (fn_okI (P := PP K G w) (f := b__law_block) (N := N__law_block) (ps := ["_law_tub_here"]) F sc__law_block fun av cdv A outer s H E hr => body__law_block T F__law_sector av _ cdv A outer s H E hr) hm F.kp (F.bindsN fun _ _ _ _ _ _ us hl => match us, hl with | [_], _ => by kernel_rfl)
theorem sc__law_due : FnScope N__law_due ["_law_place", "_law_copies_here"] (defScope (top 53)) := ⟨rfl, rfl, rfl, by decide +kernel, rfl, by decide +kernel, by decide +kernel⟩
theorem body__law_due (T : Tab K mg) (F__law_readable : FnI Pr w K mg base (PP K G w) "_law_readable" 3 1 c__law_readable) (F__law_whole : FnI Pr w K mg base (PP K G w) "_law_whole" 3 2 c__law_whole) (av : List Addr) (fA : Addr) (cdv : Value) (A : Around) (outer : List Env) (s : Shared) (H : Hp) (E : XK) (hr : Room 3 (A.deeper (envOfC "_law_due" (defScope (top 53)) s.heap.objs.size fA cdv))) :
    PSs (cxOf (L2.CX Pr w) Pr w K mg base N__law_due "_law_due" (defScope (top 53)) fA cdv A outer s H E) (defBody (top 53)) (tS ((PP K G w).at av) (fun c d _ H => E c d H) b__law_due) := by
  have hu := units65 hr
  have hu4 := hr.units
  have sc := sc__law_due
  have pa := passes_of (X := cxOf (L2.CX Pr w) Pr w K mg base N__law_due "_law_due" (defScope (top 53)) fA cdv A outer s H E) rfl
  have tk := takes_of (X := cxOf (L2.CX Pr w) Pr w K mg base N__law_due "_law_due" (defScope (top 53)) fA cdv A outer s H E) rfl rfl rfl rfl
  unfold b__law_due
  exact (pss_consI (ps_asgI (pe_callI (some true) F__law_whole hr rfl tk (pa_consI (pe_varI (pe_var rfl (by first | exact Or.inl rfl | exact Or.inr (Or.inl rfl) | exact Or.inr (Or.inr rfl)) rfl rfl)) (pa_consI (pe_varI (pe_var rfl (by first | exact Or.inl rfl | exact Or.inr (Or.inl rfl) | exact Or.inr (Or.inr rfl)) rfl rfl)) pa_nilI rfl) rfl) rfl rfl rfl) (pg_nmI (pg_name sc.nd rfl (by first | exact Or.inl rfl | exact Or.inr rfl) (by first | exact Or.inl rfl | exact Or.inr rfl))) rfl rfl rfl)
    (pss_consI (ps_ifI (pt_cmpI (op_neDI rfl rfl hu4) (pe_varI (pe_var rfl (by first | exact Or.inl rfl | exact Or.inr (Or.inl rfl) | exact Or.inr (Or.inr rfl)) rfl rfl)) pe_d0I rfl) (pss_consI (ps_retI (pe_tupI (pa_consI (pe_cstI pe_str fun _ _ => VR.s) (pa_consI (pe_bltI (cr_maxDI rfl rfl) rfl T.fr_max boot_max (pa_consI (pe_varI (pe_var rfl (by first | exact Or.inl rfl | exact Or.inr (Or.inl rfl) | exact Or.inr (Or.inr rfl)) rfl rfl)) pa_nilI rfl) (by decide) rfl rfl rfl) (pa_consI (pe_subD rfl rfl hu (pe_varI (pe_var rfl (by first | exact Or.inl rfl | exact Or.inr (Or.inl rfl) | exact Or.inr (Or.inr rfl)) rfl rfl)) (pe_bltI (cr_maxDI rfl rfl) rfl T.fr_max boot_max (pa_consI (pe_varI (pe_var rfl (by first | exact Or.inl rfl | exact Or.inr (Or.inl rfl) | exact Or.inr (Or.inr rfl)) rfl rfl)) pa_nilI rfl) (by decide) rfl rfl rfl) fun _ _ => rfl) pa_nilI rfl) rfl) rfl)))
    pss_nilI) pss_nilI)
    (pss_consI (ps_forI pa rfl (pi_rngI rfl T.fr_range (pa_consI (pe_cstI pe_int fun _ _ => VR.i) pa_nilI rfl) rfl) (pg_nmI (pg_name sc.nd rfl (by first | exact Or.inl rfl | exact Or.inr rfl) (by first | exact Or.inl rfl | exact Or.inr rfl))) (pss_consI (ps_ifI (pt_cmpI (op_eqDI rfl rfl hu4) (pe_lcI [("_law_copy", 6)] rfl sc.nd (pi_anyI rfl (pe_varI (pe_var rfl (by first | exact Or.inl rfl | exact Or.inr (Or.inl rfl) | exact Or.inr (Or.inr rfl)) rfl rfl))) (blkOk_by (by kernel_rfl)) (fun _ => rfl) (fun _ _ _ _ _ _ => (pg_nmW (by decide) (pg_name sc.nd rfl (by first | exact Or.inl rfl | exact Or.inr rfl) (by first | exact Or.inl rfl | exact Or.inr rfl)))) (fun _ _ _ _ _ _ => (pts_oneI (pt_cmpI (op_isnI) (pe_subD rfl rfl hu (pe_varI (pe_var rfl (by first | exact Or.inl rfl | exact Or.inr (Or.inl rfl) | exact Or.inr (Or.inr rfl)) rfl rfl)) (pe_varI (pe_var rfl (by first | exact Or.inl rfl | exact Or.inr (Or.inl rfl) | exact Or.inr (Or.inr rfl)) rfl rfl)) fun _ _ => rfl) (pe_cstI pe_non fun _ _ => VR.n) rfl))) (fun _ _ _ _ _ _ => (pe_varI (pe_var rfl (by first | exact Or.inl rfl | exact Or.inr (Or.inl rfl) | exact Or.inr (Or.inr rfl)) rfl rfl)))) (pe_lstOf (pl_list pa_nilI)) rfl) (pss_consI (ps_retI (pe_tupI (pa_consI (pe_cstI pe_str fun _ _ => VR.s) pa_nilI rfl)))
    pss_nilI) pss_nilI)
    pss_nilI) fun _ => rfl)
    (pss_consI (ps_setLcI [("_law_sector_here", 5)] rfl sc.nd rfl rfl (sw_true rfl rfl rfl rfl) (pi_anyI rfl (pe_callI (some true) F__law_readable hr rfl tk (pa_consI (pe_varI (pe_var rfl (by first | exact Or.inl rfl | exact Or.inr (Or.inl rfl) | exact Or.inr (Or.inr rfl)) rfl rfl)) pa_nilI rfl) rfl rfl rfl)) (blkOk_by (by kernel_rfl)) (fun _ => rfl) (fun _ _ _ _ _ _ => (pg_nmW (by decide) (pg_name sc.nd rfl (by first | exact Or.inl rfl | exact Or.inr rfl) (by first | exact Or.inl rfl | exact Or.inr rfl)))) (fun _ _ _ _ _ _ => (pts_oneI (pt_cmpI (op_neDI rfl rfl hu4) (pe_varI (pe_var rfl (by first | exact Or.inl rfl | exact Or.inr (Or.inl rfl) | exact Or.inr (Or.inr rfl)) rfl rfl)) (pe_tupI pa_nilI) rfl))) (fun _ _ _ _ _ _ => (pe_varI (pe_var rfl (by first | exact Or.inl rfl | exact Or.inr (Or.inl rfl) | exact Or.inr (Or.inr rfl)) rfl rfl))))
    (pss_consI (ps_retI (pe_iteI (pt_cmpI (op_eqDI rfl rfl hu4) (pe_varI (pe_var rfl (by first | exact Or.inl rfl | exact Or.inr (Or.inl rfl) | exact Or.inr (Or.inr rfl)) rfl rfl)) (pe_lstOf (pl_list pa_nilI)) rfl) (pe_tupI (pa_consI (pe_cstI pe_str fun _ _ => VR.s) pa_nilI rfl)) (pe_tupI (pa_consI (pe_cstI pe_str fun _ _ => VR.s) pa_nilI rfl))))
    pss_nilI)))))
theorem ok__law_due (T : Tab K mg) : FnI Pr w K mg base (PP K G w) "_law_due" 4 2 c__law_due := by
  obtain ⟨hm, fd, F⟩ := T.fn__law_due
  have F__law_readable := (ok__law_readable (Pr := Pr) (w := w) (base := base) (G := G) T).mono (by decide : 1 ≤ 3)
  have F__law_whole := (ok__law_whole (Pr := Pr) (w := w) (base := base) (G := G) T).mono (by decide : 3 ≤ 3)
  exact FnI.all (ps := ["_law_place", "_law_copies_here"]) (fn_okI (P := PP K G w) (f := b__law_due) (N := N__law_due) (ps := ["_law_place", "_law_copies_here"]) F sc__law_due fun av cdv A outer s H E hr => body__law_due T F__law_readable F__law_whole av _ cdv A outer s H E hr) hm F.kp (F.bindsN fun _ _ _ _ _ _ us hl => match us, hl with | [_, _], _ => by kernel_rfl)
theorem sc_is_sector : FnScope N_is_sector ["value"] (defScope (top 15)) := ⟨rfl, rfl, rfl, by decide +kernel, rfl, by decide +kernel, by decide +kernel⟩
theorem body_is_sector (T : Tab K mg) (F_is_filled : FnI Pr w K mg base (PP K G w) "is_filled" 4 1 c_is_filled) (av : List Addr) (fA : Addr) (cdv : Value) (A : Around) (outer : List Env) (s : Shared) (H : Hp) (E : XK) (hr : Room 4 (A.deeper (envOfC "is_sector" (defScope (top 15)) s.heap.objs.size fA cdv))) :
    PSs (cxOf (L2.CX Pr w) Pr w K mg base N_is_sector "is_sector" (defScope (top 15)) fA cdv A outer s H E) (defBody (top 15)) (tS ((PP K G w).at av) (fun c d _ H => E c d H) b_is_sector) := by
  have hu := units65 hr
  have hu4 := hr.units
  have sc := sc_is_sector
  have pa := passes_of (X := cxOf (L2.CX Pr w) Pr w K mg base N_is_sector "is_sector" (defScope (top 15)) fA cdv A outer s H E) rfl
  have tk := takes_of (X := cxOf (L2.CX Pr w) Pr w K mg base N_is_sector "is_sector" (defScope (top 15)) fA cdv A outer s H E) rfl rfl rfl rfl
  unfold b_is_sector
  exact (pss_consI (ps_retI (pe_orI rfl (pe_cmpI (op_isI) (pe_varI (pe_var rfl (by first | exact Or.inl rfl | exact Or.inr (Or.inl rfl) | exact Or.inr (Or.inr rfl)) rfl rfl)) (pe_cstI pe_non fun _ _ => VR.n) rfl) (pe_one (pe_callI none F_is_filled hr rfl tk (pa_consI (pe_varI (pe_var rfl (by first | exact Or.inl rfl | exact Or.inr (Or.inl rfl) | exact Or.inr (Or.inr rfl)) rfl rfl)) pa_nilI rfl) rfl rfl rfl))))
    pss_nilI)
theorem ok_is_sector (T : Tab K mg) : FnI Pr w K mg base (PP K G w) "is_sector" 5 1 c_is_sector := by
  obtain ⟨hm, fd, F⟩ := T.fn_is_sector
  have F_is_filled := (ok_is_filled (Pr := Pr) (w := w) (base := base) (G := G) T).mono (by decide : 4 ≤ 4)
  exact FnI.all (ps := ["value"]) (fn_okI (P := PP K G w) (f := b_is_sector) (N := N_is_sector) (ps := ["value"]) F sc_is_sector fun av cdv A outer s H E hr => body_is_sector T F_is_filled av _ cdv A outer s H E hr) hm F.kp (F.bindsN fun _ _ _ _ _ _ us hl => match us, hl with | [_], _ => by kernel_rfl)
theorem sc_told_in : FnScope N_told_in ["place", "copies"] (defScope (top 32)) := ⟨rfl, rfl, rfl, by decide +kernel, rfl, by decide +kernel, by decide +kernel⟩
theorem body_told_in (T : Tab K mg) (F_joined_cells : FnI Pr w K mg base (PP K G w) "joined_cells" 4 3 c_joined_cells) (F_whole_in : FnI Pr w K mg base (PP K G w) "whole_in" 4 2 c_whole_in) (av : List Addr) (fA : Addr) (cdv : Value) (A : Around) (outer : List Env) (s : Shared) (H : Hp) (E : XK) (hr : Room 4 (A.deeper (envOfC "told_in" (defScope (top 32)) s.heap.objs.size fA cdv))) :
    PSs (cxOf (L2.CX Pr w) Pr w K mg base N_told_in "told_in" (defScope (top 32)) fA cdv A outer s H E) (defBody (top 32)) (tS ((PP K G w).at av) (fun c d _ H => E c d H) b_told_in) := by
  have hu := units65 hr
  have hu4 := hr.units
  have sc := sc_told_in
  have pa := passes_of (X := cxOf (L2.CX Pr w) Pr w K mg base N_told_in "told_in" (defScope (top 32)) fA cdv A outer s H E) rfl
  have tk := takes_of (X := cxOf (L2.CX Pr w) Pr w K mg base N_told_in "told_in" (defScope (top 32)) fA cdv A outer s H E) rfl rfl rfl rfl
  unfold b_told_in
  exact (pss_consI (ps_asgI (pe_callI none F_whole_in hr rfl tk (pa_consI (pe_varI (pe_var rfl (by first | exact Or.inl rfl | exact Or.inr (Or.inl rfl) | exact Or.inr (Or.inr rfl)) rfl rfl)) (pa_consI (pe_varI (pe_var rfl (by first | exact Or.inl rfl | exact Or.inr (Or.inl rfl) | exact Or.inr (Or.inr rfl)) rfl rfl)) pa_nilI rfl) rfl) rfl rfl rfl) (pg_nmI (pg_name sc.nd rfl (by first | exact Or.inl rfl | exact Or.inr rfl) (by first | exact Or.inl rfl | exact Or.inr rfl))) rfl rfl rfl)
    (pss_consI (ps_ifI (pt_cmpI (op_neDI rfl rfl hu4) (pe_varI (pe_var rfl (by first | exact Or.inl rfl | exact Or.inr (Or.inl rfl) | exact Or.inr (Or.inr rfl)) rfl rfl)) (pe_lstOf (pl_list pa_nilI)) rfl) (pss_consI (ps_retI (pe_tupI (pa_consI (pe_cstI (pe_glob (v := .str "whole") rfl T.in_WHOLE.choose_spec ⟨_, rfl⟩ rfl) fun _ _ => VR.s) (pa_consI (pe_subD rfl rfl hu (pe_varI (pe_var rfl (by first | exact Or.inl rfl | exact Or.inr (Or.inl rfl) | exact Or.inr (Or.inr rfl)) rfl rfl)) (pe_negI (pe_cstI pe_int fun _ _ => VR.i)) fun _ _ => rfl) (pa_consI (pe_callI none F_joined_cells hr rfl tk (pa_consI (pe_varI (pe_var rfl (by first | exact Or.inl rfl | exact Or.inr (Or.inl rfl) | exact Or.inr (Or.inr rfl)) rfl rfl)) (pa_consI (pe_varI (pe_var rfl (by first | exact Or.inl rfl | exact Or.inr (Or.inl rfl) | exact Or.inr (Or.inr rfl)) rfl rfl)) (pa_consI (pe_subD rfl rfl hu (pe_varI (pe_var rfl (by first | exact Or.inl rfl | exact Or.inr (Or.inl rfl) | exact Or.inr (Or.inr rfl)) rfl rfl)) (pe_negI (pe_cstI pe_int fun _ _ => VR.i)) fun _ _ => rfl) pa_nilI rfl) rfl) rfl) rfl rfl rfl) pa_nilI rfl) rfl) rfl)))
    pss_nilI) pss_nilI)
    (pss_consI (ps_setLcI [("part", 4)] rfl sc.nd rfl rfl (sw_true rfl rfl rfl rfl) (pi_rngI rfl T.fr_range (pa_consI (pe_cstI (pe_glob (v := .int 4) rfl T.in_PARTS.choose_spec ⟨_, rfl⟩ rfl) fun _ _ => VR.i) pa_nilI rfl) rfl) (blkOk_by (by kernel_rfl)) (fun _ => rfl) (fun _ _ _ _ _ _ => (pg_nmW (by decide) (pg_name sc.nd rfl (by first | exact Or.inl rfl | exact Or.inr rfl) (by first | exact Or.inl rfl | exact Or.inr rfl)))) (fun _ _ _ _ _ _ => pts_nilI) (fun _ _ _ _ _ _ => (pe_lcI [("copy", 5)] rfl sc.nd (pi_anyI rfl (pe_varI (pe_var rfl (by first | exact Or.inl rfl | exact Or.inr (Or.inl rfl) | exact Or.inr (Or.inr rfl)) rfl rfl))) (blkOk_by (by kernel_rfl)) (fun _ => rfl) (fun _ _ _ _ _ _ => (pg_nmW (by decide) (pg_name sc.nd rfl (by first | exact Or.inl rfl | exact Or.inr rfl) (by first | exact Or.inl rfl | exact Or.inr rfl)))) (fun _ _ _ _ _ _ => (pts_oneI (pt_cmpI (op_isnI) (pe_subD rfl rfl hu (pe_varI (pe_var rfl (by first | exact Or.inl rfl | exact Or.inr (Or.inl rfl) | exact Or.inr (Or.inr rfl)) rfl rfl)) (pe_varI (pe_var rfl (by first | exact Or.inl rfl | exact Or.inr (Or.inl rfl) | exact Or.inr (Or.inr rfl)) rfl rfl)) fun _ _ => rfl) (pe_cstI pe_non fun _ _ => VR.n) rfl))) (fun _ _ _ _ _ _ => (pe_subD rfl rfl hu (pe_varI (pe_var rfl (by first | exact Or.inl rfl | exact Or.inr (Or.inl rfl) | exact Or.inr (Or.inr rfl)) rfl rfl)) (pe_varI (pe_var rfl (by first | exact Or.inl rfl | exact Or.inr (Or.inl rfl) | exact Or.inr (Or.inr rfl)) rfl rfl)) fun _ _ => rfl)))))
    (pss_consI (ps_ifI (pt_cmpI (op_inDct rfl rfl hu) (pe_lstOf (pl_list pa_nilI)) (pe_varI (pe_var rfl (by first | exact Or.inl rfl | exact Or.inr (Or.inl rfl) | exact Or.inr (Or.inr rfl)) rfl rfl)) rfl) (pss_consI (ps_retI (pe_tupI (pa_consI (pe_cstI (pe_glob (v := .str "lost") rfl T.in_LOST.choose_spec ⟨_, rfl⟩ rfl) fun _ _ => VR.s) pa_nilI rfl)))
    pss_nilI) pss_nilI)
    (pss_consI (ps_ifI (pt_truI rfl (pe_bltI (cr_allI rfl rfl) rfl T.fr_all boot_all (pa_consI (pe_lc2I [("some", 6), ("sector", 7)] rfl sc.nd (pi_anyI rfl (pe_varI (pe_var rfl (by first | exact Or.inl rfl | exact Or.inr (Or.inl rfl) | exact Or.inr (Or.inr rfl)) rfl rfl))) (blkOk_by (by kernel_rfl)) (by decide) (fun _ => rfl) (fun _ _ => rfl) (fun _ _ _ _ _ _ => (pg_nmW (by decide) (pg_name sc.nd rfl (by first | exact Or.inl rfl | exact Or.inr rfl) (by first | exact Or.inl rfl | exact Or.inr rfl)))) (fun _ _ _ _ _ _ => pts_nilI) (fun _ _ _ _ _ _ => (pi_lstA rfl (pe_varI (pe_var rfl (by first | exact Or.inl rfl | exact Or.inr (Or.inl rfl) | exact Or.inr (Or.inr rfl)) rfl rfl)))) (fun _ _ _ _ _ _ => (pg_nmW (by decide) (pg_name sc.nd rfl (by first | exact Or.inl rfl | exact Or.inr rfl) (by first | exact Or.inl rfl | exact Or.inr rfl)))) (fun _ _ _ _ _ _ => pts_nilI) (fun _ _ _ _ _ _ => (pe_cmpI (op_eqDI rfl rfl hu4) (pe_varI (pe_var rfl (by first | exact Or.inl rfl | exact Or.inr (Or.inl rfl) | exact Or.inr (Or.inr rfl)) rfl rfl)) (pe_tupI pa_nilI) rfl))) pa_nilI rfl) (by decide) rfl rfl rfl) fun _ => rfl) (pss_consI (ps_retI (pe_tupI (pa_consI (pe_cstI (pe_glob (v := .str "blank") rfl T.in_BLANK.choose_spec ⟨_, rfl⟩ rfl) fun _ _ => VR.s) pa_nilI rfl)))
    pss_nilI) pss_nilI)
    (pss_consI (ps_retI (pe_tupI (pa_consI (pe_cstI (pe_glob (v := .str "torn") rfl T.in_TORN.choose_spec ⟨_, rfl⟩ rfl) fun _ _ => VR.s) pa_nilI rfl)))
    pss_nilI))))))
theorem ok_told_in (T : Tab K mg) : FnI Pr w K mg base (PP K G w) "told_in" 5 2 c_told_in := by
  obtain ⟨hm, fd, F⟩ := T.fn_told_in
  have F_joined_cells := (ok_joined_cells (Pr := Pr) (w := w) (base := base) (G := G) T).mono (by decide : 3 ≤ 4)
  have F_whole_in := (ok_whole_in (Pr := Pr) (w := w) (base := base) (G := G) T).mono (by decide : 4 ≤ 4)
  exact FnI.all (ps := ["place", "copies"]) (fn_okI (P := PP K G w) (f := b_told_in) (N := N_told_in) (ps := ["place", "copies"]) F sc_told_in fun av cdv A outer s H E hr => body_told_in T F_joined_cells F_whole_in av _ cdv A outer s H E hr) hm F.kp (F.bindsN fun _ _ _ _ _ _ us hl => match us, hl with | [_, _], _ => by kernel_rfl)
theorem sc_made_block : FnScope N_made_block ["place", "edition", "cells"] (defScope (top 35)) := ⟨rfl, rfl, rfl, by decide +kernel, rfl, by decide +kernel, by decide +kernel⟩
theorem body_made_block (T : Tab K mg) (F_is_cell : FnI Pr w K mg base (PP K G w) "is_cell" 4 1 c_is_cell) (F_made_in : FnI Pr w K mg base (PP K G w) "made_in" 4 3 c_made_in) (F_require_block_place : FnI Pr w K mg base (PP K G w) "require_block_place" 4 1 c_require_block_place) (F_require_within : FnI Pr w K mg base (PP K G w) "require_within" 4 3 c_require_within) (av : List Addr) (fA : Addr) (cdv : Value) (A : Around) (outer : List Env) (s : Shared) (H : Hp) (E : XK) (hr : Room 4 (A.deeper (envOfC "made_block" (defScope (top 35)) s.heap.objs.size fA cdv))) :
    PSs (cxOf (L2.CX Pr w) Pr w K mg base N_made_block "made_block" (defScope (top 35)) fA cdv A outer s H E) (defBody (top 35)) (tS ((PP K G w).at av) (fun c d _ H => E c d H) b_made_block) := by
  have hu := units65 hr
  have hu4 := hr.units
  have sc := sc_made_block
  have pa := passes_of (X := cxOf (L2.CX Pr w) Pr w K mg base N_made_block "made_block" (defScope (top 35)) fA cdv A outer s H E) rfl
  have tk := takes_of (X := cxOf (L2.CX Pr w) Pr w K mg base N_made_block "made_block" (defScope (top 35)) fA cdv A outer s H E) rfl rfl rfl rfl
  unfold b_made_block
  exact (pss_consI (ps_exprI (pe_callI none F_require_block_place hr rfl tk (pa_consI (pe_varI (pe_var rfl (by first | exact Or.inl rfl | exact Or.inr (Or.inl rfl) | exact Or.inr (Or.inr rfl)) rfl rfl)) pa_nilI rfl) rfl rfl rfl) rfl)
    (pss_consI (ps_exprI (pe_callI none F_require_within hr rfl tk (pa_consI (pe_varI (pe_var rfl (by first | exact Or.inl rfl | exact Or.inr (Or.inl rfl) | exact Or.inr (Or.inr rfl)) rfl rfl)) (pa_consI (pe_cstI pe_int fun _ _ => VR.i) (pa_consI (pe_cstI (pe_glob (v := .int 999999999999999999) rfl T.in_MAX_CELL.choose_spec ⟨_, rfl⟩ rfl) fun _ _ => VR.i) pa_nilI rfl) rfl) rfl) rfl rfl rfl) rfl)
    (pss_consI (ps_ifI (PW.pt (pw_orI (pt_notI (pt_truI rfl (pe_bltI (cr_isaI rfl) rfl T.fr_isinstance boot_isinstance (pa_consI (pe_varI (pe_var rfl (by first | exact Or.inl rfl | exact Or.inr (Or.inl rfl) | exact Or.inr (Or.inr rfl)) rfl rfl)) (pa_consI (pe_cstI (pe_bltn (v := .ty "tuple") (u := .type "tuple") rfl T.fr_tuple boot_tuple rfl (by decide) rfl) fun _ _ => VR.t) pa_nilI rfl) rfl) (by decide) rfl rfl rfl) fun _ => rfl)) (pw_or1 (pt_cmpI (op_ordI rfl hu4) (pe_bltI (cr_lenI rfl) rfl T.fr_len boot_len (pa_consI (pe_varI (pe_var rfl (by first | exact Or.inl rfl | exact Or.inr (Or.inl rfl) | exact Or.inr (Or.inr rfl)) rfl rfl)) pa_nilI rfl) (by decide) rfl rfl rfl) (pe_cstI (pe_glob (v := .int 52) rfl T.in_MOST_CELLS_blocks.choose_spec ⟨_, rfl⟩ rfl) fun _ _ => VR.i) rfl)))) pss_no pss_nilI)
    (pss_consI (ps_ifI (pt_notI (pt_truI rfl (pe_bltI (cr_allI rfl rfl) rfl T.fr_all boot_all (pa_consI (pe_lcI [("cell", 3)] rfl sc.nd (pi_anyI rfl (pe_varI (pe_var rfl (by first | exact Or.inl rfl | exact Or.inr (Or.inl rfl) | exact Or.inr (Or.inr rfl)) rfl rfl))) (blkOk_by (by kernel_rfl)) (fun _ => rfl) (fun _ _ _ _ _ _ => (pg_nmW (by decide) (pg_name sc.nd rfl (by first | exact Or.inl rfl | exact Or.inr rfl) (by first | exact Or.inl rfl | exact Or.inr rfl)))) (fun _ _ _ _ _ _ => pts_nilI) (fun _ _ _ _ _ _ => (pe_callI none F_is_cell hr rfl takesF (pa_consI (pe_varI (pe_var rfl (by first | exact Or.inl rfl | exact Or.inr (Or.inl rfl) | exact Or.inr (Or.inr rfl)) rfl rfl)) pa_nilI rfl) rfl rfl rfl))) pa_nilI rfl) (by decide) rfl rfl rfl) fun _ => rfl)) pss_no pss_nilI)
    (pss_consI (ps_retI (pe_callI none F_made_in hr rfl tk (pa_consI (pe_varI (pe_var rfl (by first | exact Or.inl rfl | exact Or.inr (Or.inl rfl) | exact Or.inr (Or.inr rfl)) rfl rfl)) (pa_consI (pe_varI (pe_var rfl (by first | exact Or.inl rfl | exact Or.inr (Or.inl rfl) | exact Or.inr (Or.inr rfl)) rfl rfl)) (pa_consI (pe_varI (pe_var rfl (by first | exact Or.inl rfl | exact Or.inr (Or.inl rfl) | exact Or.inr (Or.inr rfl)) rfl rfl)) pa_nilI rfl) rfl) rfl) rfl rfl rfl))
    pss_nilI)))))
theorem ok_made_block (T : Tab K mg) : FnI Pr w K mg base (PP K G w) "made_block" 5 3 c_made_block := by
  obtain ⟨hm, fd, F⟩ := T.fn_made_block
  have F_is_cell := (ok_is_cell (Pr := Pr) (w := w) (base := base) (G := G) T).mono (by decide : 3 ≤ 4)
  have F_made_in := (ok_made_in (Pr := Pr) (w := w) (base := base) (G := G) T).mono (by decide : 1 ≤ 4)
  have F_require_block_place := (ok_require_block_place (Pr := Pr) (w := w) (base := base) (G := G) T).mono (by decide : 4 ≤ 4)
  have F_require_within := (ok_require_within (Pr := Pr) (w := w) (base := base) (G := G) T).mono (by decide : 3 ≤ 4)
  exact FnI.all (ps := ["place", "edition", "cells"]) (fn_okI (P := PP K G w) (f := b_made_block) (N := N_made_block) (ps := ["place", "edition", "cells"]) F sc_made_block fun av cdv A outer s H E hr => body_made_block T F_is_cell F_made_in F_require_block_place F_require_within av _ cdv A outer s H E hr) hm F.kp (F.bindsN fun _ _ _ _ _ _ us hl => match us, hl with | [_, _, _], _ => by kernel_rfl)
theorem sc__law_near : FnScope N__law_near ["_law_tub_here", "_law_place", "_law_edition", "_law_cells_here"] (defScope (top 50)) := ⟨rfl, rfl, rfl, by decide +kernel, rfl, by decide +kernel, by decide +kernel⟩
theorem body__law_near (T : Tab K mg) (F__law_block : FnI Pr w K mg base (PP K G w) "_law_block" 4 1 c__law_block) (F__law_cells : FnI Pr w K mg base (PP K G w) "_law_cells" 4 1 c__law_cells) (F__law_choice : FnI Pr w K mg base (PP K G w) "_law_choice" 4 2 c__law_choice) (F__law_dip : FnI Pr w K mg base (PP K G w) "_law_dip" 4 2 c__law_dip) (F__law_made : FnI Pr w K mg base (PP K G w) "_law_made" 4 3 c__law_made) (F__law_with : FnI Pr w K mg base (PP K G w) "_law_with" 4 3 c__law_with) (av : List Addr) (fA : Addr) (cdv : Value) (A : Around) (outer : List Env) (s : Shared) (H : Hp) (E : XK) (hr : Room 4 (A.deeper (envOfC "_law_near" (defScope (top 50)) s.heap.objs.size fA cdv))) :
    PSs (cxOf (L2.CX Pr w) Pr w K mg base N__law_near "_law_near" (defScope (top 50)) fA cdv A outer s H E) (defBody (top 50)) (tS ((PP K G w).at av) (fun c d _ H => E c d H) b__law_near) := by
  have hu := units65 hr
  have hu4 := hr.units
  have sc := sc__law_near
  have pa := passes_of (X := cxOf (L2.CX Pr w) Pr w K mg base N__law_near "_law_near" (defScope (top 50)) fA cdv A outer s H E) rfl
  have tk := takes_of (X := cxOf (L2.CX Pr w) Pr w K mg base N__law_near "_law_near" (defScope (top 50)) fA cdv A outer s H E) rfl rfl rfl rfl
  unfold b__law_near
  exact (pss_consI (ps_parI rfl sc.nd rfl rfl (by decide) rfl rfl (pa_consI (pe_callI none F__law_made hr rfl tk (pa_consI (pe_varI (pe_var rfl (by first | exact Or.inl rfl | exact Or.inr (Or.inl rfl) | exact Or.inr (Or.inr rfl)) rfl rfl)) (pa_consI (pe_varI (pe_var rfl (by first | exact Or.inl rfl | exact Or.inr (Or.inl rfl) | exact Or.inr (Or.inr rfl)) rfl rfl)) (pa_consI (pe_varI (pe_var rfl (by first | exact Or.inl rfl | exact Or.inr (Or.inl rfl) | exact Or.inr (Or.inr rfl)) rfl rfl)) pa_nilI rfl) rfl) rfl) rfl rfl rfl) (pa_consI (pe_callI none F__law_choice hr rfl tk (pa_consI (pe_varI (pe_var rfl (by first | exact Or.inl rfl | exact Or.inr (Or.inl rfl) | exact Or.inr (Or.inr rfl)) rfl rfl)) (pa_consI (pe_lstOf (pl_list (pa_consI (pe_cstI pe_int fun _ _ => VR.i) (pa_consI (pe_cstI pe_int fun _ _ => VR.i) (pa_consI (pe_binI (op_powI) (pe_cstI pe_int fun _ _ => VR.i) (pe_cstI pe_int fun _ _ => VR.i)) pa_nilI rfl) rfl) rfl))) pa_nilI rfl) rfl) rfl rfl rfl) pa_nilI rfl) rfl) rfl rfl)
    (pss_consI (ps_asgI (pe_callI none F__law_dip hr rfl tk (pa_consI (pe_varI (pe_var rfl (by first | exact Or.inl rfl | exact Or.inr (Or.inl rfl) | exact Or.inr (Or.inr rfl)) rfl rfl)) (pa_consI (pe_cstI pe_int fun _ _ => VR.i) pa_nilI rfl) rfl) rfl rfl rfl) (pg_nmI (pg_name sc.nd rfl (by first | exact Or.inl rfl | exact Or.inr rfl) (by first | exact Or.inl rfl | exact Or.inr rfl))) rfl rfl rfl)
    (pss_consI (ps_asgI (pe_subD rfl rfl hu (pe_varI (pe_var rfl (by first | exact Or.inl rfl | exact Or.inr (Or.inl rfl) | exact Or.inr (Or.inr rfl)) rfl rfl)) (pe_varI (pe_var rfl (by first | exact Or.inl rfl | exact Or.inr (Or.inl rfl) | exact Or.inr (Or.inr rfl)) rfl rfl)) fun _ _ => rfl) (pg_nmI (pg_name sc.nd rfl (by first | exact Or.inl rfl | exact Or.inr rfl) (by first | exact Or.inl rfl | exact Or.inr rfl))) rfl rfl rfl)
    (pss_consI (ps_asgI (pe_refOf (pl_list (pa_consI (pe_varI (pe_var rfl (by first | exact Or.inl rfl | exact Or.inr (Or.inl rfl) | exact Or.inr (Or.inr rfl)) rfl rfl)) (pa_consI (pe_revI rfl (pe_varI (pe_var rfl (by first | exact Or.inl rfl | exact Or.inr (Or.inl rfl) | exact Or.inr (Or.inr rfl)) rfl rfl))) (pa_consI (pe_binI (op_mulDI rfl) (pe_tupI (pa_consI (pe_tupI pa_nilI) pa_nilI rfl)) (pe_cstI pe_int fun _ _ => VR.i)) (pa_consI (pe_binI (op_mulDI rfl) (pe_tupI (pa_consI (pe_cstI pe_non fun _ _ => VR.n) pa_nilI rfl)) (pe_cstI pe_int fun _ _ => VR.i)) (pa_consI (pe_callI none F__law_with hr rfl tk (pa_consI (pe_varI (pe_var rfl (by first | exact Or.inl rfl | exact Or.inr (Or.inl rfl) | exact Or.inr (Or.inr rfl)) rfl rfl)) (pa_consI (pe_varI (pe_var rfl (by first | exact Or.inl rfl | exact Or.inr (Or.inl rfl) | exact Or.inr (Or.inr rfl)) rfl rfl)) (pa_consI (pe_tupI pa_nilI) pa_nilI rfl) rfl) rfl) rfl rfl rfl) (pa_consI (pe_callI none F__law_with hr rfl tk (pa_consI (pe_varI (pe_var rfl (by first | exact Or.inl rfl | exact Or.inr (Or.inl rfl) | exact Or.inr (Or.inr rfl)) rfl rfl)) (pa_consI (pe_varI (pe_var rfl (by first | exact Or.inl rfl | exact Or.inr (Or.inl rfl) | exact Or.inr (Or.inr rfl)) rfl rfl)) (pa_consI (pe_cstI pe_non fun _ _ => VR.n) pa_nilI rfl) rfl) rfl) rfl rfl rfl) pa_nilI rfl) rfl) rfl) rfl) rfl) rfl))) (pg_nmI (pg_name sc.nd rfl (by first | exact Or.inl rfl | exact Or.inr rfl) (by first | exact Or.inl rfl | exact Or.inr rfl))) rfl rfl rfl)
    (pss_consI (ps_exprI (pe_mthI (.inl rfl) F.plainAttrs_list F.slot_list_append F.type_list_append (mt_appI) rfl (pe_varI (pe_var rfl (by first | exact Or.inl rfl | exact Or.inr (Or.inl rfl) | exact Or.inr (Or.inr rfl)) rfl rfl)) (pa_consI (pe_callI none F__law_with hr rfl tk (pa_consI (pe_varI (pe_var rfl (by first | exact Or.inl rfl | exact Or.inr (Or.inl rfl) | exact Or.inr (Or.inr rfl)) rfl rfl)) (pa_consI (pe_varI (pe_var rfl (by first | exact Or.inl rfl | exact Or.inr (Or.inl rfl) | exact Or.inr (Or.inr rfl)) rfl rfl)) (pa_consI (pe_binI (op_addI rfl) (pe_tupI (pa_consI (pe_binI (op_addI rfl) (pe_varI (pe_var rfl (by first | exact Or.inl rfl | exact Or.inr (Or.inl rfl) | exact Or.inr (Or.inr rfl)) rfl rfl)) (pe_cstI pe_int fun _ _ => VR.i)) pa_nilI rfl)) (pe_sliI rfl (pe_varI (pe_var rfl (by first | exact Or.inl rfl | exact Or.inr (Or.inl rfl) | exact Or.inr (Or.inr rfl)) rfl rfl)) (po_someI (pe_cstI pe_int fun _ _ => VR.i)) po_noneI)) pa_nilI rfl) rfl) rfl) rfl rfl rfl) pa_nilI rfl) rfl rfl rfl rfl rfl) rfl)
    (pss_consI (ps_exprI (pe_mthI (.inl rfl) F.plainAttrs_list F.slot_list_append F.type_list_append (mt_appI) rfl (pe_varI (pe_var rfl (by first | exact Or.inl rfl | exact Or.inr (Or.inl rfl) | exact Or.inr (Or.inr rfl)) rfl rfl)) (pa_consI (pe_callI none F__law_with hr rfl tk (pa_consI (pe_varI (pe_var rfl (by first | exact Or.inl rfl | exact Or.inr (Or.inl rfl) | exact Or.inr (Or.inr rfl)) rfl rfl)) (pa_consI (pe_varI (pe_var rfl (by first | exact Or.inl rfl | exact Or.inr (Or.inl rfl) | exact Or.inr (Or.inr rfl)) rfl rfl)) (pa_consI (pe_binI (op_addI rfl) (pe_tupI (pa_consI (pe_varI (pe_var rfl (by first | exact Or.inl rfl | exact Or.inr (Or.inl rfl) | exact Or.inr (Or.inr rfl)) rfl rfl)) (pa_consI (pe_binI (op_addI rfl) (pe_varI (pe_var rfl (by first | exact Or.inl rfl | exact Or.inr (Or.inl rfl) | exact Or.inr (Or.inr rfl)) rfl rfl)) (pe_varI (pe_var rfl (by first | exact Or.inl rfl | exact Or.inr (Or.inl rfl) | exact Or.inr (Or.inr rfl)) rfl rfl))) pa_nilI rfl) rfl)) (pe_sliI rfl (pe_varI (pe_var rfl (by first | exact Or.inl rfl | exact Or.inr (Or.inl rfl) | exact Or.inr (Or.inr rfl)) rfl rfl)) (po_someI (pe_cstI pe_int fun _ _ => VR.i)) po_noneI)) pa_nilI rfl) rfl) rfl) rfl rfl rfl) pa_nilI rfl) rfl rfl rfl rfl rfl) rfl)
    (pss_consI (ps_exprI (pe_mthI (.inl rfl) F.plainAttrs_list F.slot_list_append F.type_list_append (mt_appI) rfl (pe_varI (pe_var rfl (by first | exact Or.inl rfl | exact Or.inr (Or.inl rfl) | exact Or.inr (Or.inr rfl)) rfl rfl)) (pa_consI (pe_callI none F__law_with hr rfl tk (pa_consI (pe_varI (pe_var rfl (by first | exact Or.inl rfl | exact Or.inr (Or.inl rfl) | exact Or.inr (Or.inr rfl)) rfl rfl)) (pa_consI (pe_varI (pe_var rfl (by first | exact Or.inl rfl | exact Or.inr (Or.inl rfl) | exact Or.inr (Or.inr rfl)) rfl rfl)) (pa_consI (pe_sliI rfl (pe_varI (pe_var rfl (by first | exact Or.inl rfl | exact Or.inr (Or.inl rfl) | exact Or.inr (Or.inr rfl)) rfl rfl)) po_noneI (po_someI (pe_cstI pe_int fun _ _ => VR.i))) pa_nilI rfl) rfl) rfl) rfl rfl rfl) pa_nilI rfl) rfl rfl rfl rfl rfl) rfl)
    (pss_consI (ps_exprI (pe_mthI (.inl rfl) F.plainAttrs_list F.slot_list_append F.type_list_append (mt_appI) rfl (pe_varI (pe_var rfl (by first | exact Or.inl rfl | exact Or.inr (Or.inl rfl) | exact Or.inr (Or.inr rfl)) rfl rfl)) (pa_consI (pe_callI none F__law_with hr rfl tk (pa_consI (pe_varI (pe_var rfl (by first | exact Or.inl rfl | exact Or.inr (Or.inl rfl) | exact Or.inr (Or.inr rfl)) rfl rfl)) (pa_consI (pe_varI (pe_var rfl (by first | exact Or.inl rfl | exact Or.inr (Or.inl rfl) | exact Or.inr (Or.inr rfl)) rfl rfl)) (pa_consI (pe_binI (op_addI rfl) (pe_binI (op_addI rfl) (pe_sliI rfl (pe_varI (pe_var rfl (by first | exact Or.inl rfl | exact Or.inr (Or.inl rfl) | exact Or.inr (Or.inr rfl)) rfl rfl)) po_noneI (po_someI (pe_cstI pe_int fun _ _ => VR.i))) (pe_tupI (pa_consI (pe_cstI pe_int fun _ _ => VR.i) pa_nilI rfl))) (pe_sliI rfl (pe_varI (pe_var rfl (by first | exact Or.inl rfl | exact Or.inr (Or.inl rfl) | exact Or.inr (Or.inr rfl)) rfl rfl)) (po_someI (pe_cstI pe_int fun _ _ => VR.i)) po_noneI)) pa_nilI rfl) rfl) rfl) rfl rfl rfl) pa_nilI rfl) rfl rfl rfl rfl rfl) rfl)
    (pss_consI (ps_exprI (pe_mthI (.inl rfl) F.plainAttrs_list F.slot_list_append F.type_list_append (mt_appI) rfl (pe_varI (pe_var rfl (by first | exact Or.inl rfl | exact Or.inr (Or.inl rfl) | exact Or.inr (Or.inr rfl)) rfl rfl)) (pa_consI (pe_callI none F__law_with hr rfl tk (pa_consI (pe_varI (pe_var rfl (by first | exact Or.inl rfl | exact Or.inr (Or.inl rfl) | exact Or.inr (Or.inr rfl)) rfl rfl)) (pa_consI (pe_varI (pe_var rfl (by first | exact Or.inl rfl | exact Or.inr (Or.inl rfl) | exact Or.inr (Or.inr rfl)) rfl rfl)) (pa_consI (pe_binI (op_addI rfl) (pe_binI (op_addI rfl) (pe_sliI rfl (pe_varI (pe_var rfl (by first | exact Or.inl rfl | exact Or.inr (Or.inl rfl) | exact Or.inr (Or.inr rfl)) rfl rfl)) po_noneI (po_someI (pe_cstI pe_int fun _ _ => VR.i))) (pe_tupI (pa_consI (pe_binI (op_modI) (pe_tyI (cr_intI) rfl T.fr_int boot_int (pa_consI (pe_binI (op_addI rfl) (pe_varI (pe_var rfl (by first | exact Or.inl rfl | exact Or.inr (Or.inl rfl) | exact Or.inr (Or.inr rfl)) rfl rfl)) (pe_cstI pe_int fun _ _ => VR.i)) pa_nilI rfl) (by decide) rfl rfl rfl) (pe_cstI pe_int fun _ _ => VR.i)) pa_nilI rfl))) (pe_sliI rfl (pe_varI (pe_var rfl (by first | exact Or.inl rfl | exact Or.inr (Or.inl rfl) | exact Or.inr (Or.inr rfl)) rfl rfl)) (po_someI (pe_cstI pe_int fun _ _ => VR.i)) po_noneI)) pa_nilI rfl) rfl) rfl) rfl rfl rfl) pa_nilI rfl) rfl rfl rfl rfl rfl) rfl)
    (pss_consI (ps_exprI (pe_mthI (.inl rfl) F.plainAttrs_list F.slot_list_append F.type_list_append (mt_appI) rfl (pe_varI (pe_var rfl (by first | exact Or.inl rfl | exact Or.inr (Or.inl rfl) | exact Or.inr (Or.inr rfl)) rfl rfl)) (pa_consI (pe_callI none F__law_with hr rfl tk (pa_consI (pe_varI (pe_var rfl (by first | exact Or.inl rfl | exact Or.inr (Or.inl rfl) | exact Or.inr (Or.inr rfl)) rfl rfl)) (pa_consI (pe_varI (pe_var rfl (by first | exact Or.inl rfl | exact Or.inr (Or.inl rfl) | exact Or.inr (Or.inr rfl)) rfl rfl)) (pa_consI (pe_sliI rfl (pe_binI (op_addI rfl) (pe_varI (pe_var rfl (by first | exact Or.inl rfl | exact Or.inr (Or.inl rfl) | exact Or.inr (Or.inr rfl)) rfl rfl)) (pe_tupI (pa_consI (pe_cstI pe_int fun _ _ => VR.i) pa_nilI rfl))) po_noneI (po_someI (pe_cstI pe_int fun _ _ => VR.i))) pa_nilI rfl) rfl) rfl) rfl rfl rfl) pa_nilI rfl) rfl rfl rfl rfl rfl) rfl)
    (pss_consI (ps_asgI (pe_callI none F__law_made hr rfl tk (pa_consI (pe_varI (pe_var rfl (by first | exact Or.inl rfl | exact Or.inr (Or.inl rfl) | exact Or.inr (Or.inr rfl)) rfl rfl)) (pa_consI (pe_binI (op_addI rfl) (pe_varI (pe_var rfl (by first | exact Or.inl rfl | exact Or.inr (Or.inl rfl) | exact Or.inr (Or.inr rfl)) rfl rfl)) (pe_varI (pe_var rfl (by first | exact Or.inl rfl | exact Or.inr (Or.inl rfl) | exact Or.inr (Or.inr rfl)) rfl rfl))) (pa_consI (pe_callI none F__law_cells hr rfl tk (pa_consI (pe_varI (pe_var rfl (by first | exact Or.inl rfl | exact Or.inr (Or.inl rfl) | exact Or.inr (Or.inr rfl)) rfl rfl)) pa_nilI rfl) rfl rfl rfl) pa_nilI rfl) rfl) rfl) rfl rfl rfl) (pg_nmI (pg_name sc.nd rfl (by first | exact Or.inl rfl | exact Or.inr rfl) (by first | exact Or.inl rfl | exact Or.inr rfl))) rfl rfl rfl)
    (pss_consI (ps_asgI (pe_binI (op_addI rfl) (pe_varI (pe_var rfl (by first | exact Or.inl rfl | exact Or.inr (Or.inl rfl) | exact Or.inr (Or.inr rfl)) rfl rfl)) (pe_lstOf (pl_list (pa_consI (pe_varI (pe_var rfl (by first | exact Or.inl rfl | exact Or.inr (Or.inl rfl) | exact Or.inr (Or.inr rfl)) rfl rfl)) (pa_consI (pe_binI (op_addI rfl) (pe_sliI rfl (pe_varI (pe_var rfl (by first | exact Or.inl rfl | exact Or.inr (Or.inl rfl) | exact Or.inr (Or.inr rfl)) rfl rfl)) po_noneI (po_someI (pe_varI (pe_var rfl (by first | exact Or.inl rfl | exact Or.inr (Or.inl rfl) | exact Or.inr (Or.inr rfl)) rfl rfl)))) (pe_sliI rfl (pe_varI (pe_var rfl (by first | exact Or.inl rfl | exact Or.inr (Or.inl rfl) | exact Or.inr (Or.inr rfl)) rfl rfl)) (po_someI (pe_varI (pe_var rfl (by first | exact Or.inl rfl | exact Or.inr (Or.inl rfl) | exact Or.inr (Or.inr rfl)) rfl rfl))) po_noneI)) (pa_consI (pe_callI none F__law_block hr rfl tk (pa_consI (pe_varI (pe_var rfl (by first | exact Or.inl rfl | exact Or.inr (Or.inl rfl) | exact Or.inr (Or.inr rfl)) rfl rfl)) pa_nilI rfl) rfl rfl rfl) pa_nilI rfl) rfl) rfl)))) (pg_nmI (pg_name sc.nd rfl (by first | exact Or.inl rfl | exact Or.inr rfl) (by first | exact Or.inl rfl | exact Or.inr rfl))) rfl rfl rfl)
    (pss_consI (ps_retI (pe_binI (op_addI rfl) (pe_varI (pe_var rfl (by first | exact Or.inl rfl | exact Or.inr (Or.inl rfl) | exact Or.inr (Or.inr rfl)) rfl rfl)) (pe_lstOf (pl_list (pa_consI (pe_tyI (cr_tupleI rfl) rfl T.fr_tuple boot_tuple (pa_consI (pe_lcI [("_law_part", 10)] rfl sc.nd (pi_rngI rfl T.fr_range (pa_consI (pe_cstI pe_int fun _ _ => VR.i) pa_nilI rfl) rfl) (blkOk_by (by kernel_rfl)) (fun _ => rfl) (fun _ _ _ _ _ _ => (pg_nmW (by decide) (pg_name sc.nd rfl (by first | exact Or.inl rfl | exact Or.inr rfl) (by first | exact Or.inl rfl | exact Or.inr rfl)))) (fun _ _ _ _ _ _ => pts_nilI) (fun _ _ _ _ _ _ => (pe_tupI (pa_consI (pe_varI (pe_var rfl (by first | exact Or.inl rfl | exact Or.inr (Or.inl rfl) | exact Or.inr (Or.inr rfl)) rfl rfl)) (pa_consI (pe_cstI pe_int fun _ _ => VR.i) (pa_consI (pe_varI (pe_var rfl (by first | exact Or.inl rfl | exact Or.inr (Or.inl rfl) | exact Or.inr (Or.inr rfl)) rfl rfl)) pa_nilI rfl) rfl) rfl)))) pa_nilI rfl) (by decide) rfl rfl rfl) pa_nilI rfl)))))
    pss_nilI)))))))))))))
theorem ok__law_near (T : Tab K mg) : FnI Pr w K mg base (PP K G w) "_law_near" 5 4 c__law_near := by
  obtain ⟨hm, fd, F⟩ := T.fn__law_near
  have F__law_block := (ok__law_block (Pr := Pr) (w := w) (base := base) (G := G) T).mono (by decide : 4 ≤ 4)
  have F__law_cells := (ok__law_cells (Pr := Pr) (w := w) (base := base) (G := G) T).mono (by decide : 3 ≤ 4)
  have F__law_choice := (ok__law_choice (Pr := Pr) (w := w) (base := base) (G := G) T).mono (by decide : 2 ≤ 4)
  have F__law_dip := (ok__law_dip (Pr := Pr) (w := w) (base := base) (G := G) T).mono (by decide : 1 ≤ 4)
  have F__law_made := (ok__law_made (Pr := Pr) (w := w) (base := base) (G := G) T).mono (by decide : 1 ≤ 4)
  have F__law_with := (ok__law_with (Pr := Pr) (w := w) (base := base) (G := G) T).mono (by decide : 1 ≤ 4)
  exact FnI.all (ps := ["_law_tub_here", "_law_place", "_law_edition", "_law_cells_here"]) (fn_okI (P := PP K G w) (f := b__law_near) (N := N__law_near) (ps := ["_law_tub_here", "_law_place", "_law_edition", "_law_cells_here"]) F sc__law_near fun av cdv A outer s H E hr => body__law_near T F__law_block F__law_cells F__law_choice F__law_dip F__law_made F__law_with av _ cdv A outer s H E hr) hm F.kp (F.bindsN fun _ _ _ _ _ _ us hl => match us, hl with | [_, _, _, _], _ => by kernel_rfl)
theorem sc_is_block : FnScope N_is_block ["value"] (defScope (top 16)) := ⟨rfl, rfl, rfl, by decide +kernel, rfl, by decide +kernel, by decide +kernel⟩
theorem body_is_block (T : Tab K mg) (F_is_sector : FnI Pr w K mg base (PP K G w) "is_sector" 5 1 c_is_sector) (av : List Addr) (fA : Addr) (cdv : Value) (A : Around) (outer : List Env) (s : Shared) (H : Hp) (E : XK) (hr : Room 5 (A.deeper (envOfC "is_block" (defScope (top 16)) s.heap.objs.size fA cdv))) :
    PSs (cxOf (L2.CX Pr w) Pr w K mg base N_is_block "is_block" (defScope (top 16)) fA cdv A outer s H E) (defBody (top 16)) (tS ((PP K G w).at av) (fun c d _ H => E c d H) b_is_block) := by
  have hu := units65 hr
  have hu4 := hr.units
  have sc := sc_is_block
  have pa := passes_of (X := cxOf (L2.CX Pr w) Pr w K mg base N_is_block "is_block" (defScope (top 16)) fA cdv A outer s H E) rfl
  have tk := takes_of (X := cxOf (L2.CX Pr w) Pr w K mg base N_is_block "is_block" (defScope (top 16)) fA cdv A outer s H E) rfl rfl rfl rfl
  unfold b_is_block
  exact (pss_consI (ps_retI (pe_andI rfl (pe_bltI (cr_isaI rfl) rfl T.fr_isinstance boot_isinstance (pa_consI (pe_varI (pe_var rfl (by first | exact Or.inl rfl | exact Or.inr (Or.inl rfl) | exact Or.inr (Or.inr rfl)) rfl rfl)) (pa_consI (pe_cstI (pe_bltn (v := .ty "tuple") (u := .type "tuple") rfl T.fr_tuple boot_tuple rfl (by decide) rfl) fun _ _ => VR.t) pa_nilI rfl) rfl) (by decide) rfl rfl rfl) (pe_andI rfl (pe_cmpI (op_eqDI rfl rfl hu4) (pe_bltI (cr_lenI rfl) rfl T.fr_len boot_len (pa_consI (pe_varI (pe_var rfl (by first | exact Or.inl rfl | exact Or.inr (Or.inl rfl) | exact Or.inr (Or.inr rfl)) rfl rfl)) pa_nilI rfl) (by decide) rfl rfl rfl) (pe_cstI (pe_glob (v := .int 4) rfl T.in_PARTS.choose_spec ⟨_, rfl⟩ rfl) fun _ _ => VR.i) rfl) (pe_one (pe_bltI (cr_allI rfl rfl) rfl T.fr_all boot_all (pa_consI (pe_lcI [("sector", 1)] rfl sc.nd (pi_anyI rfl (pe_varI (pe_var rfl (by first | exact Or.inl rfl | exact Or.inr (Or.inl rfl) | exact Or.inr (Or.inr rfl)) rfl rfl))) (blkOk_by (by kernel_rfl)) (fun _ => rfl) (fun _ _ _ _ _ _ => (pg_nmW (by decide) (pg_name sc.nd rfl (by first | exact Or.inl rfl | exact Or.inr rfl) (by first | exact Or.inl rfl | exact Or.inr rfl)))) (fun _ _ _ _ _ _ => pts_nilI) (fun _ _ _ _ _ _ => (pe_callI none F_is_sector hr rfl takesF (pa_consI (pe_varI (pe_var rfl (by first | exact Or.inl rfl | exact Or.inr (Or.inl rfl) | exact Or.inr (Or.inr rfl)) rfl rfl)) pa_nilI rfl) rfl rfl rfl))) pa_nilI rfl) (by decide) rfl rfl rfl)))))
    pss_nilI)
theorem ok_is_block (T : Tab K mg) : FnI Pr w K mg base (PP K G w) "is_block" 6 1 c_is_block := by
  obtain ⟨hm, fd, F⟩ := T.fn_is_block
  have F_is_sector := (ok_is_sector (Pr := Pr) (w := w) (base := base) (G := G) T).mono (by decide : 5 ≤ 5)
  exact FnI.all (ps := ["value"]) (fn_okI (P := PP K G w) (f := b_is_block) (N := N_is_block) (ps := ["value"]) F sc_is_block fun av cdv A outer s H E hr => body_is_block T F_is_sector av _ cdv A outer s H E hr) hm F.kp (F.bindsN fun _ _ _ _ _ _ us hl => match us, hl with | [_], _ => by kernel_rfl)
theorem sc_require_copies : FnScope N_require_copies ["copies"] (defScope (top 34)) := ⟨rfl, rfl, rfl, by decide +kernel, rfl, by decide +kernel, by decide +kernel⟩
theorem body_require_copies (T : Tab K mg) (F_is_block : FnI Pr w K mg base (PP K G w) "is_block" 6 1 c_is_block) (av : List Addr) (fA : Addr) (cdv : Value) (A : Around) (outer : List Env) (s : Shared) (H : Hp) (E : XK) (hr : Room 6 (A.deeper (envOfC "require_copies" (defScope (top 34)) s.heap.objs.size fA cdv))) :
    PSs (cxOf (L2.CX Pr w) Pr w K mg base N_require_copies "require_copies" (defScope (top 34)) fA cdv A outer s H E) (defBody (top 34)) (tS ((PP K G w).at av) (fun c d _ H => E c d H) b_require_copies) := by
  have hu := units65 hr
  have hu4 := hr.units
  have sc := sc_require_copies
  have pa := passes_of (X := cxOf (L2.CX Pr w) Pr w K mg base N_require_copies "require_copies" (defScope (top 34)) fA cdv A outer s H E) rfl
  have tk := takes_of (X := cxOf (L2.CX Pr w) Pr w K mg base N_require_copies "require_copies" (defScope (top 34)) fA cdv A outer s H E) rfl rfl rfl rfl
  unfold b_require_copies
  exact (pss_consI (ps_ifI (PW.pt (pw_orI (pt_notI (pt_truI rfl (pe_bltI (cr_isaI rfl) rfl T.fr_isinstance boot_isinstance (pa_consI (pe_varI (pe_var rfl (by first | exact Or.inl rfl | exact Or.inr (Or.inl rfl) | exact Or.inr (Or.inr rfl)) rfl rfl)) (pa_consI (pe_cstI (pe_bltn (v := .ty "tuple") (u := .type "tuple") rfl T.fr_tuple boot_tuple rfl (by decide) rfl) fun _ _ => VR.t) pa_nilI rfl) rfl) (by decide) rfl rfl rfl) fun _ => rfl)) (pw_or1 (pt_notI (pt_chnI (op_ordI rfl hu4) (op_ordI rfl hu4) (pe_cstI pe_int fun _ _ => VR.i) (pe_bltI (cr_lenI rfl) rfl T.fr_len boot_len (pa_consI (pe_varI (pe_var rfl (by first | exact Or.inl rfl | exact Or.inr (Or.inl rfl) | exact Or.inr (Or.inr rfl)) rfl rfl)) pa_nilI rfl) (by decide) rfl rfl rfl) (pe_cstI (pe_glob (v := .int 4) rfl T.in_MOST_COPIES.choose_spec ⟨_, rfl⟩ rfl) fun _ _ => VR.i) rfl))))) pss_no pss_nilI)
    (pss_consI (ps_ifI (pt_notI (pt_truI rfl (pe_bltI (cr_allI rfl rfl) rfl T.fr_all boot_all (pa_consI (pe_lcI [("copy", 1)] rfl sc.nd (pi_anyI rfl (pe_varI (pe_var rfl (by first | exact Or.inl rfl | exact Or.inr (Or.inl rfl) | exact Or.inr (Or.inr rfl)) rfl rfl))) (blkOk_by (by kernel_rfl)) (fun _ => rfl) (fun _ _ _ _ _ _ => (pg_nmW (by decide) (pg_name sc.nd rfl (by first | exact Or.inl rfl | exact Or.inr rfl) (by first | exact Or.inl rfl | exact Or.inr rfl)))) (fun _ _ _ _ _ _ => pts_nilI) (fun _ _ _ _ _ _ => (pe_callI none F_is_block hr rfl takesF (pa_consI (pe_varI (pe_var rfl (by first | exact Or.inl rfl | exact Or.inr (Or.inl rfl) | exact Or.inr (Or.inr rfl)) rfl rfl)) pa_nilI rfl) rfl rfl rfl))) pa_nilI rfl) (by decide) rfl rfl rfl) fun _ => rfl)) pss_no pss_nilI)
    pss_nilI))
theorem ok_require_copies (T : Tab K mg) : FnI Pr w K mg base (PP K G w) "require_copies" 7 1 c_require_copies := by
  obtain ⟨hm, fd, F⟩ := T.fn_require_copies
  have F_is_block := (ok_is_block (Pr := Pr) (w := w) (base := base) (G := G) T).mono (by decide : 6 ≤ 6)
  exact FnI.all (ps := ["copies"]) (fn_okI (P := PP K G w) (f := b_require_copies) (N := N_require_copies) (ps := ["copies"]) F sc_require_copies fun av cdv A outer s H E hr => body_require_copies T F_is_block av _ cdv A outer s H E hr) hm F.kp (F.bindsN fun _ _ _ _ _ _ us hl => match us, hl with | [_], _ => by kernel_rfl)
theorem sc_told_block : FnScope N_told_block ["place", "block"] (defScope (top 36)) := ⟨rfl, rfl, rfl, by decide +kernel, rfl, by decide +kernel, by decide +kernel⟩
theorem body_told_block (T : Tab K mg) (F_require_block_place : FnI Pr w K mg base (PP K G w) "require_block_place" 7 1 c_require_block_place) (F_require_copies : FnI Pr w K mg base (PP K G w) "require_copies" 7 1 c_require_copies) (F_told_in : FnI Pr w K mg base (PP K G w) "told_in" 7 2 c_told_in) (av : List Addr) (fA : Addr) (cdv : Value) (A : Around) (outer : List Env) (s : Shared) (H : Hp) (E : XK) (hr : Room 7 (A.deeper (envOfC "told_block" (defScope (top 36)) s.heap.objs.size fA cdv))) :
    PSs (cxOf (L2.CX Pr w) Pr w K mg base N_told_block "told_block" (defScope (top 36)) fA cdv A outer s H E) (defBody (top 36)) (tS ((PP K G w).at av) (fun c d _ H => E c d H) b_told_block) := by
  have hu := units65 hr
  have hu4 := hr.units
  have sc := sc_told_block
  have pa := passes_of (X := cxOf (L2.CX Pr w) Pr w K mg base N_told_block "told_block" (defScope (top 36)) fA cdv A outer s H E) rfl
  have tk := takes_of (X := cxOf (L2.CX Pr w) Pr w K mg base N_told_block "told_block" (defScope (top 36)) fA cdv A outer s H E) rfl rfl rfl rfl
  unfold b_told_block
  exact (pss_consI (ps_exprI (pe_callI none F_require_block_place hr rfl tk (pa_consI (pe_varI (pe_var rfl (by first | exact Or.inl rfl | exact Or.inr (Or.inl rfl) | exact Or.inr (Or.inr rfl)) rfl rfl)) pa_nilI rfl) rfl rfl rfl) rfl)
    (pss_consI (ps_exprI (pe_callI none F_require_copies hr rfl tk (pa_consI (pe_tupI (pa_consI (pe_varI (pe_var rfl (by first | exact Or.inl rfl | exact Or.inr (Or.inl rfl) | exact Or.inr (Or.inr rfl)) rfl rfl)) pa_nilI rfl)) pa_nilI rfl) rfl rfl rfl) rfl)
    (pss_consI (ps_retI (pe_callI none F_told_in hr rfl tk (pa_consI (pe_varI (pe_var rfl (by first | exact Or.inl rfl | exact Or.inr (Or.inl rfl) | exact Or.inr (Or.inr rfl)) rfl rfl)) (pa_consI (pe_tupI (pa_consI (pe_varI (pe_var rfl (by first | exact Or.inl rfl | exact Or.inr (Or.inl rfl) | exact Or.inr (Or.inr rfl)) rfl rfl)) pa_nilI rfl)) pa_nilI rfl) rfl) rfl rfl rfl))
    pss_nilI)))
theorem ok_told_block (T : Tab K mg) : FnI Pr w K mg base (PP K G w) "told_block" 8 2 c_told_block := by
  obtain ⟨hm, fd, F⟩ := T.fn_told_block
  have F_require_block_place := (ok_require_block_place (Pr := Pr) (w := w) (base := base) (G := G) T).mono (by decide : 4 ≤ 7)
  have F_require_copies := (ok_require_copies (Pr := Pr) (w := w) (base := base) (G := G) T).mono (by decide : 7 ≤ 7)
  have F_told_in := (ok_told_in (Pr := Pr) (w := w) (base := base) (G := G) T).mono (by decide : 5 ≤ 7)
  exact FnI.all (ps := ["place", "block"]) (fn_okI (P := PP K G w) (f := b_told_block) (N := N_told_block) (ps := ["place", "block"]) F sc_told_block fun av cdv A outer s H E hr => body_told_block T F_require_block_place F_require_copies F_told_in av _ cdv A outer s H E hr) hm F.kp (F.bindsN fun _ _ _ _ _ _ us hl => match us, hl with | [_, _], _ => by kernel_rfl)
theorem sc_told_copies : FnScope N_told_copies ["place", "copies"] (defScope (top 37)) := ⟨rfl, rfl, rfl, by decide +kernel, rfl, by decide +kernel, by decide +kernel⟩
theorem body_told_copies (T : Tab K mg) (F_require_block_place : FnI Pr w K mg base (PP K G w) "require_block_place" 7 1 c_require_block_place) (F_require_copies : FnI Pr w K mg base (PP K G w) "require_copies" 7 1 c_require_copies) (F_told_in : FnI Pr w K mg base (PP K G w) "told_in" 7 2 c_told_in) (av : List Addr) (fA : Addr) (cdv : Value) (A : Around) (outer : List Env) (s : Shared) (H : Hp) (E : XK) (hr : Room 7 (A.deeper (envOfC "told_copies" (defScope (top 37)) s.heap.objs.size fA cdv))) :
    PSs (cxOf (L2.CX Pr w) Pr w K mg base N_told_copies "told_copies" (defScope (top 37)) fA cdv A outer s H E) (defBody (top 37)) (tS ((PP K G w).at av) (fun c d _ H => E c d H) b_told_copies) := by
  have hu := units65 hr
  have hu4 := hr.units
  have sc := sc_told_copies
  have pa := passes_of (X := cxOf (L2.CX Pr w) Pr w K mg base N_told_copies "told_copies" (defScope (top 37)) fA cdv A outer s H E) rfl
  have tk := takes_of (X := cxOf (L2.CX Pr w) Pr w K mg base N_told_copies "told_copies" (defScope (top 37)) fA cdv A outer s H E) rfl rfl rfl rfl
  unfold b_told_copies
  exact (pss_consI (ps_exprI (pe_callI none F_require_block_place hr rfl tk (pa_consI (pe_varI (pe_var rfl (by first | exact Or.inl rfl | exact Or.inr (Or.inl rfl) | exact Or.inr (Or.inr rfl)) rfl rfl)) pa_nilI rfl) rfl rfl rfl) rfl)
    (pss_consI (ps_exprI (pe_callI none F_require_copies hr rfl tk (pa_consI (pe_varI (pe_var rfl (by first | exact Or.inl rfl | exact Or.inr (Or.inl rfl) | exact Or.inr (Or.inr rfl)) rfl rfl)) pa_nilI rfl) rfl rfl rfl) rfl)
    (pss_consI (ps_retI (pe_callI none F_told_in hr rfl tk (pa_consI (pe_varI (pe_var rfl (by first | exact Or.inl rfl | exact Or.inr (Or.inl rfl) | exact Or.inr (Or.inr rfl)) rfl rfl)) (pa_consI (pe_varI (pe_var rfl (by first | exact Or.inl rfl | exact Or.inr (Or.inl rfl) | exact Or.inr (Or.inr rfl)) rfl rfl)) pa_nilI rfl) rfl) rfl rfl rfl))
    pss_nilI)))
theorem ok_told_copies (T : Tab K mg) : FnI Pr w K mg base (PP K G w) "told_copies" 8 2 c_told_copies := by
  obtain ⟨hm, fd, F⟩ := T.fn_told_copies
  have F_require_block_place := (ok_require_block_place (Pr := Pr) (w := w) (base := base) (G := G) T).mono (by decide : 4 ≤ 7)
  have F_require_copies := (ok_require_copies (Pr := Pr) (w := w) (base := base) (G := G) T).mono (by decide : 7 ≤ 7)
  have F_told_in := (ok_told_in (Pr := Pr) (w := w) (base := base) (G := G) T).mono (by decide : 5 ≤ 7)
  exact FnI.all (ps := ["place", "copies"]) (fn_okI (P := PP K G w) (f := b_told_copies) (N := N_told_copies) (ps := ["place", "copies"]) F sc_told_copies fun av cdv A outer s H E hr => body_told_copies T F_require_block_place F_require_copies F_told_in av _ cdv A outer s H E hr) hm F.kp (F.bindsN fun _ _ _ _ _ _ us hl => match us, hl with | [_, _], _ => by kernel_rfl)
theorem sc_whole_editions : FnScope N_whole_editions ["place", "copies"] (defScope (top 38)) := ⟨rfl, rfl, rfl, by decide +kernel, rfl, by decide +kernel, by decide +kernel⟩
theorem body_whole_editions (T : Tab K mg) (F_require_block_place : FnI Pr w K mg base (PP K G w) "require_block_place" 7 1 c_require_block_place) (F_require_copies : FnI Pr w K mg base (PP K G w) "require_copies" 7 1 c_require_copies) (F_whole_in : FnI Pr w K mg base (PP K G w) "whole_in" 7 2 c_whole_in) (av : List Addr) (fA : Addr) (cdv : Value) (A : Around) (outer : List Env) (s : Shared) (H : Hp) (E : XK) (hr : Room 7 (A.deeper (envOfC "whole_editions" (defScope (top 38)) s.heap.objs.size fA cdv))) :
    PSs (cxOf (L2.CX Pr w) Pr w K mg base N_whole_editions "whole_editions" (defScope (top 38)) fA cdv A outer s H E) (defBody (top 38)) (tS ((PP K G w).at av) (fun c d _ H => E c d H) b_whole_editions) := by
  have hu := units65 hr
  have hu4 := hr.units
  have sc := sc_whole_editions
  have pa := passes_of (X := cxOf (L2.CX Pr w) Pr w K mg base N_whole_editions "whole_editions" (defScope (top 38)) fA cdv A outer s H E) rfl
  have tk := takes_of (X := cxOf (L2.CX Pr w) Pr w K mg base N_whole_editions "whole_editions" (defScope (top 38)) fA cdv A outer s H E) rfl rfl rfl rfl
  unfold b_whole_editions
  exact (pss_consI (ps_exprI (pe_callI none F_require_block_place hr rfl tk (pa_consI (pe_varI (pe_var rfl (by first | exact Or.inl rfl | exact Or.inr (Or.inl rfl) | exact Or.inr (Or.inr rfl)) rfl rfl)) pa_nilI rfl) rfl rfl rfl) rfl)
    (pss_consI (ps_exprI (pe_callI none F_require_copies hr rfl tk (pa_consI (pe_varI (pe_var rfl (by first | exact Or.inl rfl | exact Or.inr (Or.inl rfl) | exact Or.inr (Or.inr rfl)) rfl rfl)) pa_nilI rfl) rfl rfl rfl) rfl)
    (pss_consI (ps_retI (pe_tyI (cr_tupleI rfl) rfl T.fr_tuple boot_tuple (pa_consI (pe_callI none F_whole_in hr rfl tk (pa_consI (pe_varI (pe_var rfl (by first | exact Or.inl rfl | exact Or.inr (Or.inl rfl) | exact Or.inr (Or.inr rfl)) rfl rfl)) (pa_consI (pe_varI (pe_var rfl (by first | exact Or.inl rfl | exact Or.inr (Or.inl rfl) | exact Or.inr (Or.inr rfl)) rfl rfl)) pa_nilI rfl) rfl) rfl rfl rfl) pa_nilI rfl) (by decide) rfl rfl rfl))
    pss_nilI)))
theorem ok_whole_editions (T : Tab K mg) : FnI Pr w K mg base (PP K G w) "whole_editions" 8 2 c_whole_editions := by
  obtain ⟨hm, fd, F⟩ := T.fn_whole_editions
  have F_require_block_place := (ok_require_block_place (Pr := Pr) (w := w) (base := base) (G := G) T).mono (by decide : 4 ≤ 7)
  have F_require_copies := (ok_require_copies (Pr := Pr) (w := w) (base := base) (G := G) T).mono (by decide : 7 ≤ 7)
  have F_whole_in := (ok_whole_in (Pr := Pr) (w := w) (base := base) (G := G) T).mono (by decide : 4 ≤ 7)
  exact FnI.all (ps := ["place", "copies"]) (fn_okI (P := PP K G w) (f := b_whole_editions) (N := N_whole_editions) (ps := ["place", "copies"]) F sc_whole_editions fun av cdv A outer s H E hr => body_whole_editions T F_require_block_place F_require_copies F_whole_in av _ cdv A outer s H E hr) hm F.kp (F.bindsN fun _ _ _ _ _ _ us hl => match us, hl with | [_, _], _ => by kernel_rfl)
theorem sc__law_losses_right : FnScope N__law_losses_right ["_law_tub_here", "_law_place", "_law_blocks"] (defScope (top 55)) := ⟨rfl, rfl, rfl, by decide +kernel, rfl, by decide +kernel, by decide +kernel⟩
theorem body__law_losses_right (T : Tab K mg) (F__law_copies : FnI Pr w K mg base (PP K G w) "_law_copies" 8 2 c__law_copies) (F__law_dip : FnI Pr w K mg base (PP K G w) "_law_dip" 8 2 c__law_dip) (F__law_whole : FnI Pr w K mg base (PP K G w) "_law_whole" 8 2 c__law_whole) (F__law_with : FnI Pr w K mg base (PP K G w) "_law_with" 8 3 c__law_with) (F_whole_editions : FnI Pr w K mg base (PP K G w) "whole_editions" 8 2 c_whole_editions) (av : List Addr) (fA : Addr) (cdv : Value) (A : Around) (outer : List Env) (s : Shared) (H : Hp) (E : XK) (hr : Room 8 (A.deeper (envOfC "_law_losses_right" (defScope (top 55)) s.heap.objs.size fA cdv))) :
    PSs (cxOf (L2.CX Pr w) Pr w K mg base N__law_losses_right "_law_losses_right" (defScope (top 55)) fA cdv A outer s H E) (defBody (top 55)) (tS ((PP K G w).at av) (fun c d _ H => E c d H) b__law_losses_right) := by
  have hu := units65 hr
  have hu4 := hr.units
  have sc := sc__law_losses_right
  have pa := passes_of (X := cxOf (L2.CX Pr w) Pr w K mg base N__law_losses_right "_law_losses_right" (defScope (top 55)) fA cdv A outer s H E) rfl
  have tk := takes_of (X := cxOf (L2.CX Pr w) Pr w K mg base N__law_losses_right "_law_losses_right" (defScope (top 55)) fA cdv A outer s H E) rfl rfl rfl rfl
  unfold b__law_losses_right
  exact (pss_consI (ps_asgI (pe_callI (some true) F__law_copies hr rfl tk (pa_consI (pe_varI (pe_var rfl (by first | exact Or.inl rfl | exact Or.inr (Or.inl rfl) | exact Or.inr (Or.inr rfl)) rfl rfl)) (pa_consI (pe_varI (pe_var rfl (by first | exact Or.inl rfl | exact Or.inr (Or.inl rfl) | exact Or.inr (Or.inr rfl)) rfl rfl)) pa_nilI rfl) rfl) rfl rfl rfl) (pg_nmI (pg_name sc.nd rfl (by first | exact Or.inl rfl | exact Or.inr rfl) (by first | exact Or.inl rfl | exact Or.inr rfl))) rfl rfl rfl)
    (pss_consI (ps_asgI (pe_callI none F_whole_editions hr rfl tk (pa_consI (pe_varI (pe_var rfl (by first | exact Or.inl rfl | exact Or.inr (Or.inl rfl) | exact Or.inr (Or.inr rfl)) rfl rfl)) (pa_consI (pe_varI (pe_var rfl (by first | exact Or.inl rfl | exact Or.inr (Or.inl rfl) | exact Or.inr (Or.inr rfl)) rfl rfl)) pa_nilI rfl) rfl) rfl rfl rfl) (pg_nmI (pg_name sc.nd rfl (by first | exact Or.inl rfl | exact Or.inr rfl) (by first | exact Or.inl rfl | exact Or.inr rfl))) rfl rfl rfl)
    (pss_consI (ps_asgI (pe_tupI (pa_consI (pe_callI none F__law_dip hr rfl tk (pa_consI (pe_varI (pe_var rfl (by first | exact Or.inl rfl | exact Or.inr (Or.inl rfl) | exact Or.inr (Or.inr rfl)) rfl rfl)) (pa_consI (pe_bltI (cr_lenI rfl) rfl T.fr_len boot_len (pa_consI (pe_varI (pe_var rfl (by first | exact Or.inl rfl | exact Or.inr (Or.inl rfl) | exact Or.inr (Or.inr rfl)) rfl rfl)) pa_nilI rfl) (by decide) rfl rfl rfl) pa_nilI rfl) rfl) rfl rfl rfl) (pa_consI (pe_callI none F__law_dip hr rfl tk (pa_consI (pe_varI (pe_var rfl (by first | exact Or.inl rfl | exact Or.inr (Or.inl rfl) | exact Or.inr (Or.inr rfl)) rfl rfl)) (pa_consI (pe_cstI pe_int fun _ _ => VR.i) pa_nilI rfl) rfl) rfl rfl rfl) pa_nilI rfl) rfl)) (pg_tupI rfl rfl (pgs_consI (pg_nmI (pg_name sc.nd rfl (by first | exact Or.inl rfl | exact Or.inr rfl) (by first | exact Or.inl rfl | exact Or.inr rfl))) (pgs_consI (pg_nmI (pg_name sc.nd rfl (by first | exact Or.inl rfl | exact Or.inr rfl) (by first | exact Or.inl rfl | exact Or.inr rfl))) pgs_nilI rfl) rfl) rfl rfl) rfl rfl rfl)
    (pss_consI (ps_asgI (pe_binI (op_addI rfl) (pe_binI (op_addI rfl) (pe_sliI rfl (pe_varI (pe_var rfl (by first | exact Or.inl rfl | exact Or.inr (Or.inl rfl) | exact Or.inr (Or.inr rfl)) rfl rfl)) po_noneI (po_someI (pe_varI (pe_var rfl (by first | exact Or.inl rfl | exact Or.inr (Or.inl rfl) | exact Or.inr (Or.inr rfl)) rfl rfl)))) (pe_tupI (pa_consI (pe_callI none F__law_with hr rfl tk (pa_consI (pe_subD rfl rfl hu (pe_varI (pe_var rfl (by first | exact Or.inl rfl | exact Or.inr (Or.inl rfl) | exact Or.inr (Or.inr rfl)) rfl rfl)) (pe_varI (pe_var rfl (by first | exact Or.inl rfl | exact Or.inr (Or.inl rfl) | exact Or.inr (Or.inr rfl)) rfl rfl)) fun _ _ => rfl) (pa_consI (pe_varI (pe_var rfl (by first | exact Or.inl rfl | exact Or.inr (Or.inl rfl) | exact Or.inr (Or.inr rfl)) rfl rfl)) (pa_consI (pe_cstI pe_non fun _ _ => VR.n) pa_nilI rfl) rfl) rfl) rfl rfl rfl) pa_nilI rfl))) (pe_sliI rfl (pe_varI (pe_var rfl (by first | exact Or.inl rfl | exact Or.inr (Or.inl rfl) | exact Or.inr (Or.inr rfl)) rfl rfl)) (po_someI (pe_binI (op_addI rfl) (pe_varI (pe_var rfl (by first | exact Or.inl rfl | exact Or.inr (Or.inl rfl) | exact Or.inr (Or.inr rfl)) rfl rfl)) (pe_cstI pe_int fun _ _ => VR.i))) po_noneI)) (pg_nmI (pg_name sc.nd rfl (by first | exact Or.inl rfl | exact Or.inr rfl) (by first | exact Or.inl rfl | exact Or.inr rfl))) rfl rfl rfl)
    (pss_consI (ps_asgI (pe_callI none F_whole_editions hr rfl tk (pa_consI (pe_varI (pe_var rfl (by first | exact Or.inl rfl | exact Or.inr (Or.inl rfl) | exact Or.inr (Or.inr rfl)) rfl rfl)) (pa_consI (pe_varI (pe_var rfl (by first | exact Or.inl rfl | exact Or.inr (Or.inl rfl) | exact Or.inr (Or.inr rfl)) rfl rfl)) pa_nilI rfl) rfl) rfl rfl rfl) (pg_nmI (pg_name sc.nd rfl (by first | exact Or.inl rfl | exact Or.inr rfl) (by first | exact Or.inl rfl | exact Or.inr rfl))) rfl rfl rfl)
    (pss_consI (ps_ifI (PW.pt (pw_orI (pt_cmpI (op_neDI rfl rfl hu4) (pe_lcI [("_law_one", 12)] rfl sc.nd (pi_anyI rfl (pe_varI (pe_var rfl (by first | exact Or.inl rfl | exact Or.inr (Or.inl rfl) | exact Or.inr (Or.inr rfl)) rfl rfl))) (blkOk_by (by kernel_rfl)) (fun _ => rfl) (fun _ _ _ _ _ _ => (pg_nmW (by decide) (pg_name sc.nd rfl (by first | exact Or.inl rfl | exact Or.inr rfl) (by first | exact Or.inl rfl | exact Or.inr rfl)))) (fun _ _ _ _ _ _ => (pts_oneI (pt_cmpI (op_ninDct rfl rfl hu) (pe_varI (pe_var rfl (by first | exact Or.inl rfl | exact Or.inr (Or.inl rfl) | exact Or.inr (Or.inr rfl)) rfl rfl)) (pe_varI (pe_var rfl (by first | exact Or.inl rfl | exact Or.inr (Or.inl rfl) | exact Or.inr (Or.inr rfl)) rfl rfl)) rfl))) (fun _ _ _ _ _ _ => (pe_varI (pe_var rfl (by first | exact Or.inl rfl | exact Or.inr (Or.inl rfl) | exact Or.inr (Or.inr rfl)) rfl rfl)))) (pe_lstOf (pl_list pa_nilI)) rfl) (pw_or1 (pt_cmpI (op_neDI rfl rfl hu4) (pe_varI (pe_var rfl (by first | exact Or.inl rfl | exact Or.inr (Or.inl rfl) | exact Or.inr (Or.inr rfl)) rfl rfl)) (pe_tyI (cr_tupleI rfl) rfl T.fr_tuple boot_tuple (pa_consI (pe_bltI (cr_sortedI rfl rfl hu) rfl T.fr_sorted boot_sorted (pa_consI (pe_callI (some true) F__law_whole hr rfl tk (pa_consI (pe_varI (pe_var rfl (by first | exact Or.inl rfl | exact Or.inr (Or.inl rfl) | exact Or.inr (Or.inr rfl)) rfl rfl)) (pa_consI (pe_varI (pe_var rfl (by first | exact Or.inl rfl | exact Or.inr (Or.inl rfl) | exact Or.inr (Or.inr rfl)) rfl rfl)) pa_nilI rfl) rfl) rfl rfl rfl) pa_nilI rfl) (by decide) rfl rfl rfl) pa_nilI rfl) (by decide) rfl rfl rfl) rfl)))) (pss_consI (ps_retI (pe_cstI pe_bl fun _ _ => VR.b))
    pss_nilI) pss_nilI)
    (pss_consI (ps_asgI (pe_lcI [("_law_copy", 11)] rfl sc.nd (pi_anyI rfl (pe_varI (pe_var rfl (by first | exact Or.inl rfl | exact Or.inr (Or.inl rfl) | exact Or.inr (Or.inr rfl)) rfl rfl))) (blkOk_by (by kernel_rfl)) (fun _ => rfl) (fun _ _ _ _ _ _ => (pg_nmW (by decide) (pg_name sc.nd rfl (by first | exact Or.inl rfl | exact Or.inr rfl) (by first | exact Or.inl rfl | exact Or.inr rfl)))) (fun _ _ _ _ _ _ => pts_nilI) (fun _ _ _ _ _ _ => (pe_subD rfl rfl hu (pe_varI (pe_var rfl (by first | exact Or.inl rfl | exact Or.inr (Or.inl rfl) | exact Or.inr (Or.inr rfl)) rfl rfl)) (pe_varI (pe_var rfl (by first | exact Or.inl rfl | exact Or.inr (Or.inl rfl) | exact Or.inr (Or.inr rfl)) rfl rfl)) fun _ _ => rfl))) (pg_nmI (pg_name sc.nd rfl (by first | exact Or.inl rfl | exact Or.inr rfl) (by first | exact Or.inl rfl | exact Or.inr rfl))) rfl rfl rfl)
    (pss_consI (ps_setLcI [("_law_one", 12)] rfl sc.nd rfl rfl (sw_true rfl rfl rfl rfl) (pi_anyI rfl (pe_varI (pe_var rfl (by first | exact Or.inl rfl | exact Or.inr (Or.inl rfl) | exact Or.inr (Or.inr rfl)) rfl rfl))) (blkOk_by (by kernel_rfl)) (fun _ => rfl) (fun _ _ _ _ _ _ => (pg_nmW (by decide) (pg_name sc.nd rfl (by first | exact Or.inl rfl | exact Or.inr rfl) (by first | exact Or.inl rfl | exact Or.inr rfl)))) (fun _ _ _ _ _ _ => (pts_oneI (pt_cmpI (op_neDI rfl rfl hu4) (pe_lcI [("_law_sector_here", 13)] rfl sc.nd (pi_anyI rfl (pe_varI (pe_var rfl (by first | exact Or.inl rfl | exact Or.inr (Or.inl rfl) | exact Or.inr (Or.inr rfl)) rfl rfl))) (blkOk_by (by kernel_rfl)) (fun _ => rfl) (fun _ _ _ _ _ _ => (pg_nmW (by decide) (pg_name sc.nd rfl (by first | exact Or.inl rfl | exact Or.inr rfl) (by first | exact Or.inl rfl | exact Or.inr rfl)))) (fun _ _ _ _ _ _ => (pts_oneI (pt_cmpI (op_eqDI rfl rfl hu4) (pe_sliI rfl (pe_orI rfl (pe_varI (pe_var rfl (by first | exact Or.inl rfl | exact Or.inr (Or.inl rfl) | exact Or.inr (Or.inr rfl)) rfl rfl)) (pe_one (pe_tupI pa_nilI))) po_noneI (po_someI (pe_cstI pe_int fun _ _ => VR.i))) (pe_tupI (pa_consI (pe_varI (pe_var rfl (by first | exact Or.inl rfl | exact Or.inr (Or.inl rfl) | exact Or.inr (Or.inr rfl)) rfl rfl)) (pa_consI (pe_varI (pe_var rfl (by first | exact Or.inl rfl | exact Or.inr (Or.inl rfl) | exact Or.inr (Or.inr rfl)) rfl rfl)) pa_nilI rfl) rfl)) rfl))) (fun _ _ _ _ _ _ => (pe_varI (pe_var rfl (by first | exact Or.inl rfl | exact Or.inr (Or.inl rfl) | exact Or.inr (Or.inr rfl)) rfl rfl)))) (pe_lstOf (pl_list pa_nilI)) rfl))) (fun _ _ _ _ _ _ => (pe_varI (pe_var rfl (by first | exact Or.inl rfl | exact Or.inr (Or.inl rfl) | exact Or.inr (Or.inr rfl)) rfl rfl))))
    (pss_consI (ps_retI (pe_cmpI (op_eqDI rfl rfl hu4) (pe_varI (pe_var rfl (by first | exact Or.inl rfl | exact Or.inr (Or.inl rfl) | exact Or.inr (Or.inr rfl)) rfl rfl)) (pe_tyI (cr_tupleI rfl) rfl T.fr_tuple boot_tuple (pa_consI (pe_varI (pe_var rfl (by first | exact Or.inl rfl | exact Or.inr (Or.inl rfl) | exact Or.inr (Or.inr rfl)) rfl rfl)) pa_nilI rfl) (by decide) rfl rfl rfl) rfl))
    pss_nilI)))))))))
theorem ok__law_losses_right (T : Tab K mg) : FnI Pr w K mg base (PP K G w) "_law_losses_right" 9 3 c__law_losses_right := by
  obtain ⟨hm, fd, F⟩ := T.fn__law_losses_right
  have F__law_copies := (ok__law_copies (Pr := Pr) (w := w) (base := base) (G := G) T).mono (by decide : 3 ≤ 8)
  have F__law_dip := (ok__law_dip (Pr := Pr) (w := w) (base := base) (G := G) T).mono (by decide : 1 ≤ 8)
  have F__law_whole := (ok__law_whole (Pr := Pr) (w := w) (base := base) (G := G) T).mono (by decide : 3 ≤ 8)
  have F__law_with := (ok__law_with (Pr := Pr) (w := w) (base := base) (G := G) T).mono (by decide : 1 ≤ 8)
  have F_whole_editions := (ok_whole_editions (Pr := Pr) (w := w) (base := base) (G := G) T).mono (by decide : 8 ≤ 8)
  exact FnI.all (ps := ["_law_tub_here", "_law_place", "_law_blocks"]) (fn_okI (P := PP K G w) (f := b__law_losses_right) (N := N__law_losses_right) (ps := ["_law_tub_here", "_law_place", "_law_blocks"]) F sc__law_losses_right fun av cdv A outer s H E hr => body__law_losses_right T F__law_copies F__law_dip F__law_whole F__law_with F_whole_editions av _ cdv A outer s H E hr) hm F.kp (F.bindsN fun _ _ _ _ _ _ us hl => match us, hl with | [_, _, _], _ => by kernel_rfl)
theorem sc__law_right : FnScope N__law_right ["_law_tub_here"] (defScope (top 56)) := ⟨rfl, rfl, rfl, by decide +kernel, rfl, by decide +kernel, by decide +kernel⟩
theorem body__law_right (T : Tab K mg) (F__law_cells : FnI Pr w K mg base (PP K G w) "_law_cells" 9 1 c__law_cells) (F__law_choice : FnI Pr w K mg base (PP K G w) "_law_choice" 9 2 c__law_choice) (F__law_copies : FnI Pr w K mg base (PP K G w) "_law_copies" 9 2 c__law_copies) (F__law_dip : FnI Pr w K mg base (PP K G w) "_law_dip" 9 2 c__law_dip) (F__law_due : FnI Pr w K mg base (PP K G w) "_law_due" 9 2 c__law_due) (F__law_losses_right : FnI Pr w K mg base (PP K G w) "_law_losses_right" 9 3 c__law_losses_right) (F__law_made : FnI Pr w K mg base (PP K G w) "_law_made" 9 3 c__law_made) (F__law_near : FnI Pr w K mg base (PP K G w) "_law_near" 9 4 c__law_near) (F__law_told : FnI Pr w K mg base (PP K G w) "_law_told" 9 2 c__law_told) (F__law_whole : FnI Pr w K mg base (PP K G w) "_law_whole" 9 2 c__law_whole) (F_made_block : FnI Pr w K mg base (PP K G w) "made_block" 9 3 c_made_block) (F_told_block : FnI Pr w K mg base (PP K G w) "told_block" 9 2 c_told_block) (F_told_copies : FnI Pr w K mg base (PP K G w) "told_copies" 9 2 c_told_copies) (F_whole_editions : FnI Pr w K mg base (PP K G w) "whole_editions" 9 2 c_whole_editions) (av : List Addr) (fA : Addr) (cdv : Value) (A : Around) (outer : List Env) (s : Shared) (H : Hp) (E : XK) (hr : Room 9 (A.deeper (envOfC "_law_right" (defScope (top 56)) s.heap.objs.size fA cdv))) :
    PSs (cxOf (L2.CX Pr w) Pr w K mg base N__law_right "_law_right" (defScope (top 56)) fA cdv A outer s H E) (defBody (top 56)) (tS ((PP K G w).at av) (fun c d _ H => E c d H) b__law_right) := by
  have hu := units65 hr
  have hu4 := hr.units
  have sc := sc__law_right
  have pa := passes_of (X := cxOf (L2.CX Pr w) Pr w K mg base N__law_right "_law_right" (defScope (top 56)) fA cdv A outer s H E) rfl
  have tk := takes_of (X := cxOf (L2.CX Pr w) Pr w K mg base N__law_right "_law_right" (defScope (top 56)) fA cdv A outer s H E) rfl rfl rfl rfl
  unfold b__law_right
  exact (pss_consI (ps_parI rfl sc.nd rfl rfl (by decide) rfl rfl (pa_consI (pe_callI none F__law_dip hr rfl tk (pa_consI (pe_varI (pe_var rfl (by first | exact Or.inl rfl | exact Or.inr (Or.inl rfl) | exact Or.inr (Or.inr rfl)) rfl rfl)) (pa_consI (pe_cstI pe_int fun _ _ => VR.i) pa_nilI rfl) rfl) rfl rfl rfl) (pa_consI (pe_callI none F__law_cells hr rfl tk (pa_consI (pe_varI (pe_var rfl (by first | exact Or.inl rfl | exact Or.inr (Or.inl rfl) | exact Or.inr (Or.inr rfl)) rfl rfl)) pa_nilI rfl) rfl rfl rfl) pa_nilI rfl) rfl) rfl rfl)
    (pss_consI (ps_asgI (pe_binI (op_addI rfl) (pe_cstI pe_int fun _ _ => VR.i) (pe_callI none F__law_dip hr rfl tk (pa_consI (pe_varI (pe_var rfl (by first | exact Or.inl rfl | exact Or.inr (Or.inl rfl) | exact Or.inr (Or.inr rfl)) rfl rfl)) (pa_consI (pe_callI none F__law_choice hr rfl tk (pa_consI (pe_varI (pe_var rfl (by first | exact Or.inl rfl | exact Or.inr (Or.inl rfl) | exact Or.inr (Or.inr rfl)) rfl rfl)) (pa_consI (pe_lstOf (pl_list (pa_consI (pe_cstI pe_int fun _ _ => VR.i) (pa_consI (pe_binI (op_powI) (pe_cstI pe_int fun _ _ => VR.i) (pe_cstI pe_int fun _ _ => VR.i)) pa_nilI rfl) rfl))) pa_nilI rfl) rfl) rfl rfl rfl) pa_nilI rfl) rfl) rfl rfl rfl)) (pg_nmI (pg_name sc.nd rfl (by first | exact Or.inl rfl | exact Or.inr rfl) (by first | exact Or.inl rfl | exact Or.inr rfl))) rfl rfl rfl)
    (pss_consI (ps_asgI (pe_callI none F_made_block hr rfl tk (pa_consI (pe_varI (pe_var rfl (by first | exact Or.inl rfl | exact Or.inr (Or.inl rfl) | exact Or.inr (Or.inr rfl)) rfl rfl)) (pa_consI (pe_varI (pe_var rfl (by first | exact Or.inl rfl | exact Or.inr (Or.inl rfl) | exact Or.inr (Or.inr rfl)) rfl rfl)) (pa_consI (pe_varI (pe_var rfl (by first | exact Or.inl rfl | exact Or.inr (Or.inl rfl) | exact Or.inr (Or.inr rfl)) rfl rfl)) pa_nilI rfl) rfl) rfl) rfl rfl rfl) (pg_nmI (pg_name sc.nd rfl (by first | exact Or.inl rfl | exact Or.inr rfl) (by first | exact Or.inl rfl | exact Or.inr rfl))) rfl rfl rfl)
    (pss_consI (ps_ifI (PW.pt (pw_orI (pt_cmpI (op_neDI rfl rfl hu4) (pe_varI (pe_var rfl (by first | exact Or.inl rfl | exact Or.inr (Or.inl rfl) | exact Or.inr (Or.inr rfl)) rfl rfl)) (pe_callI none F__law_made hr rfl tk (pa_consI (pe_varI (pe_var rfl (by first | exact Or.inl rfl | exact Or.inr (Or.inl rfl) | exact Or.inr (Or.inr rfl)) rfl rfl)) (pa_consI (pe_varI (pe_var rfl (by first | exact Or.inl rfl | exact Or.inr (Or.inl rfl) | exact Or.inr (Or.inr rfl)) rfl rfl)) (pa_consI (pe_varI (pe_var rfl (by first | exact Or.inl rfl | exact Or.inr (Or.inl rfl) | exact Or.inr (Or.inr rfl)) rfl rfl)) pa_nilI rfl) rfl) rfl) rfl rfl rfl) rfl) (pw_or1 (pt_cmpI (op_neDI rfl rfl hu4) (pe_callI none F_told_block hr rfl tk (pa_consI (pe_varI (pe_var rfl (by first | exact Or.inl rfl | exact Or.inr (Or.inl rfl) | exact Or.inr (Or.inr rfl)) rfl rfl)) (pa_consI (pe_varI (pe_var rfl (by first | exact Or.inl rfl | exact Or.inr (Or.inl rfl) | exact Or.inr (Or.inr rfl)) rfl rfl)) pa_nilI rfl) rfl) rfl rfl rfl) (pe_tupI (pa_consI (pe_cstI pe_str fun _ _ => VR.s) (pa_consI (pe_varI (pe_var rfl (by first | exact Or.inl rfl | exact Or.inr (Or.inl rfl) | exact Or.inr (Or.inr rfl)) rfl rfl)) (pa_consI (pe_varI (pe_var rfl (by first | exact Or.inl rfl | exact Or.inr (Or.inl rfl) | exact Or.inr (Or.inr rfl)) rfl rfl)) pa_nilI rfl) rfl) rfl)) rfl)))) (pss_consI (ps_retI (pe_cstI pe_bl fun _ _ => VR.b))
    pss_nilI) pss_nilI)
    (pss_consI (ps_asgI (pe_callI (some true) F__law_near hr rfl tk (pa_consI (pe_varI (pe_var rfl (by first | exact Or.inl rfl | exact Or.inr (Or.inl rfl) | exact Or.inr (Or.inr rfl)) rfl rfl)) (pa_consI (pe_varI (pe_var rfl (by first | exact Or.inl rfl | exact Or.inr (Or.inl rfl) | exact Or.inr (Or.inr rfl)) rfl rfl)) (pa_consI (pe_varI (pe_var rfl (by first | exact Or.inl rfl | exact Or.inr (Or.inl rfl) | exact Or.inr (Or.inr rfl)) rfl rfl)) (pa_consI (pe_varI (pe_var rfl (by first | exact Or.inl rfl | exact Or.inr (Or.inl rfl) | exact Or.inr (Or.inr rfl)) rfl rfl)) pa_nilI rfl) rfl) rfl) rfl) rfl rfl rfl) (pg_nmI (pg_name sc.nd rfl (by first | exact Or.inl rfl | exact Or.inr rfl) (by first | exact Or.inl rfl | exact Or.inr rfl))) rfl rfl rfl)
    (pss_consI (ps_forI pa rfl (pi_anyI rfl (pe_varI (pe_var rfl (by first | exact Or.inl rfl | exact Or.inr (Or.inl rfl) | exact Or.inr (Or.inr rfl)) rfl rfl))) (pg_nmI (pg_name sc.nd rfl (by first | exact Or.inl rfl | exact Or.inr rfl) (by first | exact Or.inl rfl | exact Or.inr rfl))) (pss_consI (ps_ifI (PW.pt (pw_orI (pt_cmpI (op_neDI rfl rfl hu4) (pe_callI none F_told_block hr rfl tk (pa_consI (pe_varI (pe_var rfl (by first | exact Or.inl rfl | exact Or.inr (Or.inl rfl) | exact Or.inr (Or.inr rfl)) rfl rfl)) (pa_consI (pe_varI (pe_var rfl (by first | exact Or.inl rfl | exact Or.inr (Or.inl rfl) | exact Or.inr (Or.inr rfl)) rfl rfl)) pa_nilI rfl) rfl) rfl rfl rfl) (pe_callI none F__law_told hr rfl tk (pa_consI (pe_varI (pe_var rfl (by first | exact Or.inl rfl | exact Or.inr (Or.inl rfl) | exact Or.inr (Or.inr rfl)) rfl rfl)) (pa_consI (pe_varI (pe_var rfl (by first | exact Or.inl rfl | exact Or.inr (Or.inl rfl) | exact Or.inr (Or.inr rfl)) rfl rfl)) pa_nilI rfl) rfl) rfl rfl rfl) rfl) (pw_or1 (pt_cmpI (op_neDI rfl rfl hu4) (pe_callI none F_told_copies hr rfl tk (pa_consI (pe_varI (pe_var rfl (by first | exact Or.inl rfl | exact Or.inr (Or.inl rfl) | exact Or.inr (Or.inr rfl)) rfl rfl)) (pa_consI (pe_tupI (pa_consI (pe_varI (pe_var rfl (by first | exact Or.inl rfl | exact Or.inr (Or.inl rfl) | exact Or.inr (Or.inr rfl)) rfl rfl)) pa_nilI rfl)) pa_nilI rfl) rfl) rfl rfl rfl) (pe_callI none F__law_told hr rfl tk (pa_consI (pe_varI (pe_var rfl (by first | exact Or.inl rfl | exact Or.inr (Or.inl rfl) | exact Or.inr (Or.inr rfl)) rfl rfl)) (pa_consI (pe_varI (pe_var rfl (by first | exact Or.inl rfl | exact Or.inr (Or.inl rfl) | exact Or.inr (Or.inr rfl)) rfl rfl)) pa_nilI rfl) rfl) rfl rfl rfl) rfl)))) (pss_consI (ps_retI (pe_cstI pe_bl fun _ _ => VR.b))
    pss_nilI) pss_nilI)
    pss_nilI) fun _ => rfl)
    (pss_consI (ps_parI rfl sc.nd rfl rfl (by decide) rfl rfl (pa_consI (pe_callI none F__law_made hr rfl tk (pa_consI (pe_varI (pe_var rfl (by first | exact Or.inl rfl | exact Or.inr (Or.inl rfl) | exact Or.inr (Or.inr rfl)) rfl rfl)) (pa_consI (pe_binI (op_addI rfl) (pe_varI (pe_var rfl (by first | exact Or.inl rfl | exact Or.inr (Or.inl rfl) | exact Or.inr (Or.inr rfl)) rfl rfl)) (pe_cstI pe_int fun _ _ => VR.i)) (pa_consI (pe_callI none F__law_cells hr rfl tk (pa_consI (pe_varI (pe_var rfl (by first | exact Or.inl rfl | exact Or.inr (Or.inl rfl) | exact Or.inr (Or.inr rfl)) rfl rfl)) pa_nilI rfl) rfl rfl rfl) pa_nilI rfl) rfl) rfl) rfl rfl rfl) (pa_consI (pe_binI (op_mulDI rfl) (pe_tupI (pa_consI (pe_tupI pa_nilI) pa_nilI rfl)) (pe_cstI pe_int fun _ _ => VR.i)) pa_nilI rfl) rfl) rfl rfl)
    (pss_consI (ps_forI pa rfl (pi_rngI rfl T.fr_range (pa_consI (pe_cstI pe_int fun _ _ => VR.i) pa_nilI rfl) rfl) (pg_nmI (pg_name sc.nd rfl (by first | exact Or.inl rfl | exact Or.inr rfl) (by first | exact Or.inl rfl | exact Or.inr rfl))) (pss_consI (ps_asgI (pe_callI (some true) F__law_copies hr rfl tk (pa_consI (pe_varI (pe_var rfl (by first | exact Or.inl rfl | exact Or.inr (Or.inl rfl) | exact Or.inr (Or.inr rfl)) rfl rfl)) (pa_consI (pe_lstOf (pl_list (pa_consI (pe_varI (pe_var rfl (by first | exact Or.inl rfl | exact Or.inr (Or.inl rfl) | exact Or.inr (Or.inr rfl)) rfl rfl)) (pa_consI (pe_callI none F__law_choice hr rfl tk (pa_consI (pe_varI (pe_var rfl (by first | exact Or.inl rfl | exact Or.inr (Or.inl rfl) | exact Or.inr (Or.inr rfl)) rfl rfl)) (pa_consI (pe_lstOf (pl_list (pa_consI (pe_varI (pe_var rfl (by first | exact Or.inl rfl | exact Or.inr (Or.inl rfl) | exact Or.inr (Or.inr rfl)) rfl rfl)) (pa_consI (pe_varI (pe_var rfl (by first | exact Or.inl rfl | exact Or.inr (Or.inl rfl) | exact Or.inr (Or.inr rfl)) rfl rfl)) pa_nilI rfl) rfl))) pa_nilI rfl) rfl) rfl rfl rfl) (pa_consI (pe_callI none F__law_choice hr rfl tk (pa_consI (pe_varI (pe_var rfl (by first | exact Or.inl rfl | exact Or.inr (Or.inl rfl) | exact Or.inr (Or.inr rfl)) rfl rfl)) (pa_consI (pe_varI (pe_var rfl (by first | exact Or.inl rfl | exact Or.inr (Or.inl rfl) | exact Or.inr (Or.inr rfl)) rfl rfl)) pa_nilI rfl) rfl) rfl rfl rfl) pa_nilI rfl) rfl) rfl))) pa_nilI rfl) rfl) rfl rfl rfl) (pg_nmI (pg_name sc.nd rfl (by first | exact Or.inl rfl | exact Or.inr rfl) (by first | exact Or.inl rfl | exact Or.inr rfl))) rfl rfl rfl)
    (pss_consI (ps_ifI (pt_cmpI (op_neDI rfl rfl hu4) (pe_callI none F_told_copies hr rfl tk (pa_consI (pe_varI (pe_var rfl (by first | exact Or.inl rfl | exact Or.inr (Or.inl rfl) | exact Or.inr (Or.inr rfl)) rfl rfl)) (pa_consI (pe_varI (pe_var rfl (by first | exact Or.inl rfl | exact Or.inr (Or.inl rfl) | exact Or.inr (Or.inr rfl)) rfl rfl)) pa_nilI rfl) rfl) rfl rfl rfl) (pe_callI none F__law_due hr rfl tk (pa_consI (pe_varI (pe_var rfl (by first | exact Or.inl rfl | exact Or.inr (Or.inl rfl) | exact Or.inr (Or.inr rfl)) rfl rfl)) (pa_consI (pe_varI (pe_var rfl (by first | exact Or.inl rfl | exact Or.inr (Or.inl rfl) | exact Or.inr (Or.inr rfl)) rfl rfl)) pa_nilI rfl) rfl) rfl rfl rfl) rfl) (pss_consI (ps_retI (pe_cstI pe_bl fun _ _ => VR.b))
    pss_nilI) pss_nilI)
    (pss_consI (ps_ifI (pt_cmpI (op_neDI rfl rfl hu4) (pe_callI none F_whole_editions hr rfl tk (pa_consI (pe_varI (pe_var rfl (by first | exact Or.inl rfl | exact Or.inr (Or.inl rfl) | exact Or.inr (Or.inr rfl)) rfl rfl)) (pa_consI (pe_varI (pe_var rfl (by first | exact Or.inl rfl | exact Or.inr (Or.inl rfl) | exact Or.inr (Or.inr rfl)) rfl rfl)) pa_nilI rfl) rfl) rfl rfl rfl) (pe_tyI (cr_tupleI rfl) rfl T.fr_tuple boot_tuple (pa_consI (pe_bltI (cr_sortedI rfl rfl hu) rfl T.fr_sorted boot_sorted (pa_consI (pe_callI (some true) F__law_whole hr rfl tk (pa_consI (pe_varI (pe_var rfl (by first | exact Or.inl rfl | exact Or.inr (Or.inl rfl) | exact Or.inr (Or.inr rfl)) rfl rfl)) (pa_consI (pe_varI (pe_var rfl (by first | exact Or.inl rfl | exact Or.inr (Or.inl rfl) | exact Or.inr (Or.inr rfl)) rfl rfl)) pa_nilI rfl) rfl) rfl rfl rfl) pa_nilI rfl) (by decide) rfl rfl rfl) pa_nilI rfl) (by decide) rfl rfl rfl) rfl) (pss_consI (ps_retI (pe_cstI pe_bl fun _ _ => VR.b))
    pss_nilI) pss_nilI)
    (pss_consI (ps_ifI (pt_notI (pt_truI rfl (pe_callI none F__law_losses_right hr rfl tk (pa_consI (pe_varI (pe_var rfl (by first | exact Or.inl rfl | exact Or.inr (Or.inl rfl) | exact Or.inr (Or.inr rfl)) rfl rfl)) (pa_consI (pe_varI (pe_var rfl (by first | exact Or.inl rfl | exact Or.inr (Or.inl rfl) | exact Or.inr (Or.inr rfl)) rfl rfl)) (pa_consI (pe_lstOf (pl_list (pa_consI (pe_varI (pe_var rfl (by first | exact Or.inl rfl | exact Or.inr (Or.inl rfl) | exact Or.inr (Or.inr rfl)) rfl rfl)) (pa_consI (pe_varI (pe_var rfl (by first | exact Or.inl rfl | exact Or.inr (Or.inl rfl) | exact Or.inr (Or.inr rfl)) rfl rfl)) (pa_consI (pe_varI (pe_var rfl (by first | exact Or.inl rfl | exact Or.inr (Or.inl rfl) | exact Or.inr (Or.inr rfl)) rfl rfl)) pa_nilI rfl) rfl) rfl))) pa_nilI rfl) rfl) rfl) rfl rfl rfl) fun _ => rfl)) (pss_consI (ps_retI (pe_cstI pe_bl fun _ _ => VR.b))
    pss_nilI) pss_nilI)
    pss_nilI)))) fun _ => rfl)
    (pss_consI (ps_asgI (pe_tupI (pa_consI (pe_tupI (pa_consI (pe_subD rfl rfl hu (pe_varI (pe_var rfl (by first | exact Or.inl rfl | exact Or.inr (Or.inl rfl) | exact Or.inr (Or.inr rfl)) rfl rfl)) (pe_cstI pe_int fun _ _ => VR.i) fun _ _ => rfl) (pa_consI (pe_cstI pe_non fun _ _ => VR.n) (pa_consI (pe_cstI pe_non fun _ _ => VR.n) (pa_consI (pe_subD rfl rfl hu (pe_varI (pe_var rfl (by first | exact Or.inl rfl | exact Or.inr (Or.inl rfl) | exact Or.inr (Or.inr rfl)) rfl rfl)) (pe_cstI pe_int fun _ _ => VR.i) fun _ _ => rfl) pa_nilI rfl) rfl) rfl) rfl)) (pa_consI (pe_tupI (pa_consI (pe_cstI pe_non fun _ _ => VR.n) (pa_consI (pe_subD rfl rfl hu (pe_varI (pe_var rfl (by first | exact Or.inl rfl | exact Or.inr (Or.inl rfl) | exact Or.inr (Or.inr rfl)) rfl rfl)) (pe_cstI pe_int fun _ _ => VR.i) fun _ _ => rfl) (pa_consI (pe_subD rfl rfl hu (pe_varI (pe_var rfl (by first | exact Or.inl rfl | exact Or.inr (Or.inl rfl) | exact Or.inr (Or.inr rfl)) rfl rfl)) (pe_cstI pe_int fun _ _ => VR.i) fun _ _ => rfl) (pa_consI (pe_cstI pe_non fun _ _ => VR.n) pa_nilI rfl) rfl) rfl) rfl)) pa_nilI rfl) rfl)) (pg_nmI (pg_name sc.nd rfl (by first | exact Or.inl rfl | exact Or.inr rfl) (by first | exact Or.inl rfl | exact Or.inr rfl))) rfl rfl rfl)
    (pss_consI (ps_retI (pe_cmpI (op_eqDI rfl rfl hu4) (pe_callI none F_told_copies hr rfl tk (pa_consI (pe_varI (pe_var rfl (by first | exact Or.inl rfl | exact Or.inr (Or.inl rfl) | exact Or.inr (Or.inr rfl)) rfl rfl)) (pa_consI (pe_varI (pe_var rfl (by first | exact Or.inl rfl | exact Or.inr (Or.inl rfl) | exact Or.inr (Or.inr rfl)) rfl rfl)) pa_nilI rfl) rfl) rfl rfl rfl) (pe_tupI (pa_consI (pe_cstI pe_str fun _ _ => VR.s) (pa_consI (pe_varI (pe_var rfl (by first | exact Or.inl rfl | exact Or.inr (Or.inl rfl) | exact Or.inr (Or.inr rfl)) rfl rfl)) (pa_consI (pe_varI (pe_var rfl (by first | exact Or.inl rfl | exact Or.inr (Or.inl rfl) | exact Or.inr (Or.inr rfl)) rfl rfl)) pa_nilI rfl) rfl) rfl)) rfl))
    pss_nilI))))))))))
theorem ok__law_right (T : Tab K mg) : FnI Pr w K mg base (PP K G w) "_law_right" 10 1 c__law_right := by
  obtain ⟨hm, fd, F⟩ := T.fn__law_right
  have F__law_cells := (ok__law_cells (Pr := Pr) (w := w) (base := base) (G := G) T).mono (by decide : 3 ≤ 9)
  have F__law_choice := (ok__law_choice (Pr := Pr) (w := w) (base := base) (G := G) T).mono (by decide : 2 ≤ 9)
  have F__law_copies := (ok__law_copies (Pr := Pr) (w := w) (base := base) (G := G) T).mono (by decide : 3 ≤ 9)
  have F__law_dip := (ok__law_dip (Pr := Pr) (w := w) (base := base) (G := G) T).mono (by decide : 1 ≤ 9)
  have F__law_due := (ok__law_due (Pr := Pr) (w := w) (base := base) (G := G) T).mono (by decide : 4 ≤ 9)
  have F__law_losses_right := (ok__law_losses_right (Pr := Pr) (w := w) (base := base) (G := G) T).mono (by decide : 9 ≤ 9)
  have F__law_made := (ok__law_made (Pr := Pr) (w := w) (base := base) (G := G) T).mono (by decide : 1 ≤ 9)
  have F__law_near := (ok__law_near (Pr := Pr) (w := w) (base := base) (G := G) T).mono (by decide : 5 ≤ 9)
  have F__law_told := (ok__law_told (Pr := Pr) (w := w) (base := base) (G := G) T).mono (by decide : 3 ≤ 9)
  have F__law_whole := (ok__law_whole (Pr := Pr) (w := w) (base := base) (G := G) T).mono (by decide : 3 ≤ 9)
  have F_made_block := (ok_made_block (Pr := Pr) (w := w) (base := base) (G := G) T).mono (by decide : 5 ≤ 9)
  have F_told_block := (ok_told_block (Pr := Pr) (w := w) (base := base) (G := G) T).mono (by decide : 8 ≤ 9)
  have F_told_copies := (ok_told_copies (Pr := Pr) (w := w) (base := base) (G := G) T).mono (by decide : 8 ≤ 9)
  have F_whole_editions := (ok_whole_editions (Pr := Pr) (w := w) (base := base) (G := G) T).mono (by decide : 8 ≤ 9)
  exact FnI.all (ps := ["_law_tub_here"]) (fn_okI (P := PP K G w) (f := b__law_right) (N := N__law_right) (ps := ["_law_tub_here"]) F sc__law_right fun av cdv A outer s H E hr => body__law_right T F__law_cells F__law_choice F__law_copies F__law_dip F__law_due F__law_losses_right F__law_made F__law_near F__law_told F__law_whole F_made_block F_told_block F_told_copies F_whole_editions av _ cdv A outer s H E hr) hm F.kp (F.bindsN fun _ _ _ _ _ _ us hl => match us, hl with | [_], _ => by kernel_rfl)
theorem sc_law : FnScope N_law ["_law_script"] (defScope (top 57)) := ⟨rfl, rfl, rfl, by decide +kernel, rfl, by decide +kernel, by decide +kernel⟩
theorem body_law (T : Tab K mg) (F__law_right : FnI Pr w K mg base (PP K G w) "_law_right" 10 1 c__law_right) (F__law_tub : FnI Pr w K mg base (PP K G w) "_law_tub" 10 2 c__law_tub) (F_made_block : FnI Pr w K mg base (PP K G w) "made_block" 10 3 c_made_block) (F_told_block : FnI Pr w K mg base (PP K G w) "told_block" 10 2 c_told_block) (F_told_copies : FnI Pr w K mg base (PP K G w) "told_copies" 10 2 c_told_copies) (F_whole_editions : FnI Pr w K mg base (PP K G w) "whole_editions" 10 2 c_whole_editions) (av : List Addr) (fA : Addr) (cdv : Value) (A : Around) (outer : List Env) (s : Shared) (H : Hp) (E : XK) (hr : Room 10 (A.deeper (envOfC "law" (defScope (top 57)) s.heap.objs.size fA cdv))) :
    PSs (cxOf (L2.CX Pr w) Pr w K mg base N_law "law" (defScope (top 57)) fA cdv A outer s H E) (defBody (top 57)) (tS ((PP K G w).at av) (fun c d _ H => E c d H) b_law) := by
  have hu := units65 hr
  have hu4 := hr.units
  have sc := sc_law
  have pa := passes_of (X := cxOf (L2.CX Pr w) Pr w K mg base N_law "law" (defScope (top 57)) fA cdv A outer s H E) rfl
  have tk := takes_of (X := cxOf (L2.CX Pr w) Pr w K mg base N_law "law" (defScope (top 57)) fA cdv A outer s H E) rfl rfl rfl rfl
  unfold b_law
  exact (pss_consI (ps_forI pa rfl (pi_rngI rfl T.fr_range (pa_consI (pe_bltI (cr_maxI rfl) rfl T.fr_max boot_max (pa_consI (pe_cstI pe_int fun _ _ => VR.i) (pa_consI (pe_bltI (cr_minI rfl) rfl T.fr_min boot_min (pa_consI (pe_cstI pe_int fun _ _ => VR.i) (pa_consI (pe_bltI (cr_lenI rfl) rfl T.fr_len boot_len (pa_consI (pe_varI (pe_var rfl (by first | exact Or.inl rfl | exact Or.inr (Or.inl rfl) | exact Or.inr (Or.inr rfl)) rfl rfl)) pa_nilI rfl) (by decide) rfl rfl rfl) pa_nilI rfl) rfl) (by decide) rfl rfl rfl) pa_nilI rfl) rfl) (by decide) rfl rfl rfl) pa_nilI rfl) rfl) (pg_nmI (pg_name sc.nd rfl (by first | exact Or.inl rfl | exact Or.inr rfl) (by first | exact Or.inl rfl | exact Or.inr rfl))) (pss_consI (ps_asgI (pe_callI (some false) F__law_tub hr rfl tk (pa_consI (pe_varI (pe_var rfl (by first | exact Or.inl rfl | exact Or.inr (Or.inl rfl) | exact Or.inr (Or.inr rfl)) rfl rfl)) (pa_consI (pe_varI (pe_var rfl (by first | exact Or.inl rfl | exact Or.inr (Or.inl rfl) | exact Or.inr (Or.inr rfl)) rfl rfl)) pa_nilI rfl) rfl) rfl rfl rfl) (pg_nmI (pg_name sc.nd rfl (by first | exact Or.inl rfl | exact Or.inr rfl) (by first | exact Or.inl rfl | exact Or.inr rfl))) rfl rfl rfl)
    (pss_consI (ps_ifI (PW.pt (pw_orI (pt_notI (pt_truI rfl (pe_callI none F__law_right hr rfl tk (pa_consI (pe_varI (pe_var rfl (by first | exact Or.inl rfl | exact Or.inr (Or.inl rfl) | exact Or.inr (Or.inr rfl)) rfl rfl)) pa_nilI rfl) rfl rfl rfl) fun _ => rfl)) (pw_or1 (pt_notI (pt_truI rfl (pe_callI none F__law_right hr rfl tk (pa_consI (pe_varI (pe_var rfl (by first | exact Or.inl rfl | exact Or.inr (Or.inl rfl) | exact Or.inr (Or.inr rfl)) rfl rfl)) pa_nilI rfl) rfl rfl rfl) fun _ => rfl))))) (pss_consI (ps_retI (pe_cstI pe_bl fun _ _ => VR.b))
    pss_nilI) pss_nilI)
    pss_nilI)) fun _ => rfl)
    (pss_consI (ps_parI rfl sc.nd rfl rfl (by decide) rfl rfl (pa_consI (pe_callI none F_made_block hr rfl tk (pa_consI (pe_cstI pe_int fun _ _ => VR.i) (pa_consI (pe_cstI pe_int fun _ _ => VR.i) (pa_consI (pe_tupI (pa_consI (pe_cstI pe_int fun _ _ => VR.i) pa_nilI rfl)) pa_nilI rfl) rfl) rfl) rfl rfl rfl) (pa_consI (pe_callI none F_made_block hr rfl tk (pa_consI (pe_cstI pe_int fun _ _ => VR.i) (pa_consI (pe_cstI pe_int fun _ _ => VR.i) (pa_consI (pe_tupI pa_nilI) pa_nilI rfl) rfl) rfl) rfl rfl rfl) pa_nilI rfl) rfl) rfl rfl)
    (pss_consI (ps_asgI (pe_tupI (pa_consI (pe_binI (op_addI rfl) (pe_sliI rfl (pe_varI (pe_var rfl (by first | exact Or.inl rfl | exact Or.inr (Or.inl rfl) | exact Or.inr (Or.inr rfl)) rfl rfl)) po_noneI (po_someI (pe_cstI pe_int fun _ _ => VR.i))) (pe_sliI rfl (pe_varI (pe_var rfl (by first | exact Or.inl rfl | exact Or.inr (Or.inl rfl) | exact Or.inr (Or.inr rfl)) rfl rfl)) (po_someI (pe_cstI pe_int fun _ _ => VR.i)) po_noneI)) (pa_consI (pe_binI (op_addI rfl) (pe_sliI rfl (pe_varI (pe_var rfl (by first | exact Or.inl rfl | exact Or.inr (Or.inl rfl) | exact Or.inr (Or.inr rfl)) rfl rfl)) po_noneI (po_someI (pe_cstI pe_int fun _ _ => VR.i))) (pe_sliI rfl (pe_varI (pe_var rfl (by first | exact Or.inl rfl | exact Or.inr (Or.inl rfl) | exact Or.inr (Or.inr rfl)) rfl rfl)) (po_someI (pe_cstI pe_int fun _ _ => VR.i)) po_noneI)) pa_nilI rfl) rfl)) (pg_nmI (pg_name sc.nd rfl (by first | exact Or.inl rfl | exact Or.inr rfl) (by first | exact Or.inl rfl | exact Or.inr rfl))) rfl rfl rfl)
    (pss_consI (ps_ifI (PW.pt (pw_orI (pt_cmpI (op_neDI rfl rfl hu4) (pe_callI none F_whole_editions hr rfl tk (pa_consI (pe_cstI pe_int fun _ _ => VR.i) (pa_consI (pe_varI (pe_var rfl (by first | exact Or.inl rfl | exact Or.inr (Or.inl rfl) | exact Or.inr (Or.inr rfl)) rfl rfl)) pa_nilI rfl) rfl) rfl rfl rfl) (pe_tupI (pa_consI (pe_cstI pe_int fun _ _ => VR.i) (pa_consI (pe_cstI pe_int fun _ _ => VR.i) pa_nilI rfl) rfl)) rfl) (pw_or1 (pt_cmpI (op_neDI rfl rfl hu4) (pe_callI none F_told_copies hr rfl tk (pa_consI (pe_cstI pe_int fun _ _ => VR.i) (pa_consI (pe_varI (pe_var rfl (by first | exact Or.inl rfl | exact Or.inr (Or.inl rfl) | exact Or.inr (Or.inr rfl)) rfl rfl)) pa_nilI rfl) rfl) rfl rfl rfl) (pe_tupI (pa_consI (pe_cstI pe_str fun _ _ => VR.s) (pa_consI (pe_cstI pe_int fun _ _ => VR.i) (pa_consI (pe_tupI pa_nilI) pa_nilI rfl) rfl) rfl)) rfl)))) (pss_consI (ps_retI (pe_cstI pe_bl fun _ _ => VR.b))
    pss_nilI) pss_nilI)
    (pss_consI (ps_ifI (PW.pt (pw_orI (pt_cmpI (op_neDI rfl rfl hu4) (pe_subD rfl rfl hu (pe_callI none F_told_copies hr rfl tk (pa_consI (pe_cstI pe_int fun _ _ => VR.i) (pa_consI (pe_tupI (pa_consI (pe_varI (pe_var rfl (by first | exact Or.inl rfl | exact Or.inr (Or.inl rfl) | exact Or.inr (Or.inr rfl)) rfl rfl)) (pa_consI (pe_binI (op_addI rfl) (pe_sliI rfl (pe_varI (pe_var rfl (by first | exact Or.inl rfl | exact Or.inr (Or.inl rfl) | exact Or.inr (Or.inr rfl)) rfl rfl)) po_noneI (po_someI (pe_cstI pe_int fun _ _ => VR.i))) (pe_tupI (pa_consI (pe_cstI pe_non fun _ _ => VR.n) pa_nilI rfl))) pa_nilI rfl) rfl)) pa_nilI rfl) rfl) rfl rfl rfl) (pe_cstI pe_int fun _ _ => VR.i) fun _ _ => rfl) (pe_cstI pe_int fun _ _ => VR.i) rfl) (pw_or1 (pt_cmpI (op_neDI rfl rfl hu4) (pe_callI none F_whole_editions hr rfl tk (pa_consI (pe_cstI pe_int fun _ _ => VR.i) (pa_consI (pe_varI (pe_var rfl (by first | exact Or.inl rfl | exact Or.inr (Or.inl rfl) | exact Or.inr (Or.inr rfl)) rfl rfl)) pa_nilI rfl) rfl) rfl rfl rfl) (pe_tupI pa_nilI) rfl)))) (pss_consI (ps_retI (pe_cstI pe_bl fun _ _ => VR.b))
    pss_nilI) pss_nilI)
    (pss_consI (ps_retI (pe_andI rfl (pe_cmpI (op_eqDI rfl rfl hu4) (pe_callI none F_told_block hr rfl tk (pa_consI (pe_cstI pe_int fun _ _ => VR.i) (pa_consI (pe_varI (pe_var rfl (by first | exact Or.inl rfl | exact Or.inr (Or.inl rfl) | exact Or.inr (Or.inr rfl)) rfl rfl)) pa_nilI rfl) rfl) rfl rfl rfl) (pe_tupI (pa_consI (pe_cstI pe_str fun _ _ => VR.s) pa_nilI rfl)) rfl) (pe_one (pe_cmpI (op_eqDI rfl rfl hu4) (pe_callI none F_told_block hr rfl tk (pa_consI (pe_cstI pe_int fun _ _ => VR.i) (pa_consI (pe_binI (op_addI rfl) (pe_tupI (pa_consI (pe_cstI pe_non fun _ _ => VR.n) pa_nilI rfl)) (pe_sliI rfl (pe_varI (pe_var rfl (by first | exact Or.inl rfl | exact Or.inr (Or.inl rfl) | exact Or.inr (Or.inr rfl)) rfl rfl)) (po_someI (pe_cstI pe_int fun _ _ => VR.i)) po_noneI)) pa_nilI rfl) rfl) rfl rfl rfl) (pe_tupI (pa_consI (pe_cstI pe_str fun _ _ => VR.s) pa_nilI rfl)) rfl))))
    pss_nilI))))))
theorem ok_law (T : Tab K mg) : FnI Pr w K mg base (PP K G w) "law" 11 1 c_law := by
  obtain ⟨hm, fd, F⟩ := T.fn_law
  have F__law_right := (ok__law_right (Pr := Pr) (w := w) (base := base) (G := G) T).mono (by decide : 10 ≤ 10)
  have F__law_tub := (ok__law_tub (Pr := Pr) (w := w) (base := base) (G := G) T).mono (by decide : 1 ≤ 10)
  have F_made_block := (ok_made_block (Pr := Pr) (w := w) (base := base) (G := G) T).mono (by decide : 5 ≤ 10)
  have F_told_block := (ok_told_block (Pr := Pr) (w := w) (base := base) (G := G) T).mono (by decide : 8 ≤ 10)
  have F_told_copies := (ok_told_copies (Pr := Pr) (w := w) (base := base) (G := G) T).mono (by decide : 8 ≤ 10)
  have F_whole_editions := (ok_whole_editions (Pr := Pr) (w := w) (base := base) (G := G) T).mono (by decide : 8 ≤ 10)
  exact FnI.all (ps := ["_law_script"]) (fn_okI (P := PP K G w) (f := b_law) (N := N_law) (ps := ["_law_script"]) F sc_law fun av cdv A outer s H E hr => body_law T F__law_right F__law_tub F_made_block F_told_block F_told_copies F_whole_editions av _ cdv A outer s H E hr) hm F.kp (F.bindsN fun _ _ _ _ _ _ us hl => match us, hl with | [_], _ => by kernel_rfl)
theorem fok_law (T : Tab K mg) {fA : Addr} {fd : FuncData} (F : FunD K "law" "law" (defArgs (top 57)) (defBody (top 57)) (defScope (top 57)) [] [] fA fd) : FnOk Pr w K mg base (L2.CX Pr w) 11 fA fd ["_law_script"] (spI (PP K G w) 1 c_law) := by
  have F__law_right := (ok__law_right (Pr := Pr) (w := w) (base := base) (G := G) T).mono (by decide : 10 ≤ 10)
  have F__law_tub := (ok__law_tub (Pr := Pr) (w := w) (base := base) (G := G) T).mono (by decide : 1 ≤ 10)
  have F_made_block := (ok_made_block (Pr := Pr) (w := w) (base := base) (G := G) T).mono (by decide : 5 ≤ 10)
  have F_told_block := (ok_told_block (Pr := Pr) (w := w) (base := base) (G := G) T).mono (by decide : 8 ≤ 10)
  have F_told_copies := (ok_told_copies (Pr := Pr) (w := w) (base := base) (G := G) T).mono (by decide : 8 ≤ 10)
  have F_whole_editions := (ok_whole_editions (Pr := Pr) (w := w) (base := base) (G := G) T).mono (by decide : 8 ≤ 10)
  exact fn_okI (P := PP K G w) (f := b_law) (N := N_law) (ps := ["_law_script"]) F sc_law fun av cdv A outer s H E hr => body_law T F__law_right F__law_tub F_made_block F_told_block F_told_copies F_whole_editions av _ cdv A outer s H E hr
end
end K08
namespace K08
open PySem PySem.Spec PyProof.Rows L2 EV
abbrev T3 (a b c : Int) : IO := .lst [.int a, .int b, .int c]
def Hok (h : IH) : Prop := ∀ o ∈ h, ∃ a b c, o = T3 a b c
def Dr {α : Type} (m : Out α) (n : Nat) (Q : α → Prop) : Prop := ∃ v h', m = .ok v h' ∧ Hok h' ∧ h'.length = n ∧ Q v
theorem Hok.at {h : IH} (k : Hok h) {r : Nat} (hr : r < h.length) : ∃ a b c, h[r]? = some (T3 a b c) := by
  obtain ⟨a, b, c, e⟩ := k h[r] (List.getElem_mem hr)
  exact ⟨a, b, c, by rw [List.getElem?_eq_getElem hr, e]⟩
theorem Hok.set {h : IH} (k : Hok h) (r : Nat) (a b c : Int) : Hok (h.set r (T3 a b c)) := fun o ho => by
  rcases List.mem_or_eq_of_mem_set ho with h1 | h1
  · exact k o h1
  · exact ⟨a, b, c, h1⟩
theorem mul_ok {a b : Int} {hh : IH} (h : mulOk a b) : mulDI (.int a) (.int b) hh = .ok (.int (a * b)) hh := by
  show (if mulOk a b then _ else _) = _
  rw [if_pos h]
theorem mod_ok {a b : Int} {hh : IH} (h : 0 < b) : modI (.int a) (.int b) hh = .ok (.int (a % b)) hh := by
  show (if 0 < b then _ else _) = _
  rw [if_pos h]
theorem div_ok {a b : Int} {hh : IH} (h : divOk b) : fdivI (.int a) (.int b) hh = .ok (.int (a / b)) hh := by
  show (if divOk b then _ else _) = _
  rw [if_pos h]
theorem div_big {t : Int} (ht : 0 < t) (ht2 : t < 2 ^ 64) : divOk t := ⟨ht, by
  have h3 : t.natAbs < 2 ^ 64 := by omega
  have := (Nat.log2_lt (n := t.natAbs) (k := 64) (by omega)).mpr h3
  omega⟩
/-- a draw -/
theorem dip {h : IH} (k : Hok h) {r : Nat} (hr : r < h.length) {t : Int} (ht : 0 < t) (ht2 : t < 2 ^ 64) : Dr (c__law_dip [.ref r, .int t] h) h.length fun v => ∃ i : Int, v = .int i ∧ 0 ≤ i ∧ i < t := by
  obtain ⟨a, b, c, e⟩ := k.at hr
  have hd := div_big ht ht2
  by_cases ha : a > 0
  · refine ⟨.int (a % t), h.set r (T3 (a / t) b c), ?_, k.set r _ _ _, by simp, a % t, rfl, Int.emod_nonneg _ (by omega), Int.emod_lt_of_pos _ ht⟩
    simp [c__law_dip, b__law_dip, N__law_dip, defM, startI, seqS, ifS, asgS, retS, cmpT, binE, varE, cstE, ordE, ordI, bltE, consA, nilA, intI, addI, subD, dctO, subE, lsR, lsO, atI, gNm, gSb, putM, setM, ixN, gthn, Out.bind, Out.thn, boolM, nextS, e, ha, mod_ok ht, div_ok hd]
  · have one := Int.emod_nonneg (b + 67867967 * (c + 1)) (b := 2305843009213693951) (by omega)
    have one2 := Int.emod_lt_of_pos (b + 67867967 * (c + 1)) (b := 2305843009213693951) (by omega)
    generalize eo : (b + 67867967 * (c + 1)) % 2305843009213693951 = o1 at one one2
    generalize et : (o1 * o1 + 89 * (c + 1)) % 2305843009213693907 * 32452867 + o1 = o2
    refine ⟨.int (o2 / 65543 % t), h.set r (T3 a b (c + 1)), ?_, k.set r _ _ _, by simp, o2 / 65543 % t, rfl, Int.emod_nonneg _ (by omega), Int.emod_lt_of_pos _ ht⟩
    have m1 : ∀ x : Int, mulOk 67867967 x := fun x => .inl (by omega)
    have m2 : mulOk o1 o1 := .inl (by omega)
    have m3 : ∀ x : Int, mulOk 89 x := fun x => .inl (by omega)
    have m4 : ∀ x : Int, mulOk x 32452867 := fun x => .inr (.inl (by omega))
    have hd2 : divOk 65543 := div_big (by omega) (by omega)
    have hset : (h.set r (T3 a b (c + 1)))[r]? = some (T3 a b (c + 1)) := by rw [List.getElem?_set_self hr]
    simp [c__law_dip, b__law_dip, N__law_dip, defM, startI, seqS, ifS, asgS, retS, cmpT, binE, varE, cstE, ordE, ordI, bltE, consA, nilA, intI, addI, subD, dctO, subE, lsR, lsO, atI, gNm, gSb, putM, setM, ixN, gthn, Out.bind, Out.thn, boolM, nextS, e, hset, ha, mod_ok, mod_ok ht, div_ok hd, div_ok hd2, mul_ok (m1 _), mul_ok m2, mul_ok (m3 _), mul_ok (m4 _), eo, et]
end K08
namespace K08
open PySem PySem.Spec PyProof.Rows L2 EV
abbrev Sec := Option (List Int)
def secV : Sec → IV
  | none => .non
  | some ns => tupOf ns
def blkV (b : List Sec) : IV := .tup (b.map secV)
def partS (p e : Int) (cells : List Int) (k : Nat) : List Int := p :: e :: (k : Int) :: (cells.drop (13 * k)).take 13
def madeS (p e : Int) (cells : List Int) : List (List Int) := [0, 1, 2, 3].map (partS p e cells)
theorem cut_13 (xs : List IV) (a : Nat) : cutL xs (some (a : Int)) (some ((a : Int) + 13)) = (xs.drop a).take 13 := by
  unfold cutL
  have e1 : HT.sIx xs.length 0 (some (a : Int)) = min a xs.length := by
    simp [HT.sIx]; omega
  have e2 : HT.sIx xs.length xs.length (some ((a : Int) + 13)) = min (a + 13) xs.length := by
    rw [show ((a : Int) + 13) = ((a + 13 : Nat) : Int) by omega, HT.sIx_nat]
  rw [e1, e2]
  by_cases h : a ≤ xs.length
  · rw [Nat.min_eq_left h]
    rw [List.take_eq_take_iff]
    simp; omega
  · rw [List.drop_eq_nil_of_le (by omega), List.drop_eq_nil_of_le (by omega)]; simp
theorem comp_one {g : TM} {f : IE → M IV} {σ0 σ1 : IE} {x v : IV} {xs vs : List IV} {h h1 h2 h3 : IH} (e1 : g x σ0 h = some (σ1, h1)) (e2 : f σ1 h1 = .ok v h2) (e3 : compM g yesT f σ0 xs h2 = .ok vs h3) : compM g yesT f σ0 (x :: xs) h = .ok (v :: vs) h3 := by
  unfold compM yesT
  rw [e1]
  show (match f σ1 h1 with
    | .ok v h3 => (compM g yesT f σ0 xs h3).bind fun vs h => .ok (v :: vs) h
    | _ => .no) = _
  rw [e2]
  show (compM g yesT f σ0 xs h2).bind _ = _
  rw [e3]; rfl
theorem lc_ok {fi : IE → M (List IV)} {g : TM} {t : IE → M Bool} {f : IE → M IV} {ws : List Nat} {σ : IE} {h h1 h2 : IH} {xs vs : List IV} (e1 : fi σ h = .ok xs h1) (hl : xs.length ≤ 16777216) (e2 : compM g t f (wipeI σ ws) xs h1 = .ok vs h2) : lcI fi g t f ws σ h = .ok (.lst vs) h2 := by
  unfold lcI
  rw [e1]
  show (if xs.length ≤ 16777216 then _ else _) = _
  rw [if_pos hl, e2]; rfl
theorem seq_nx {f g : SM} {σ σ' : IE} {h h' : IH} (e : f σ h = .nx σ' h') : seqS f g σ h = g σ' h' := by unfold seqS; rw [e]
theorem seq_rt {f g : SM} {σ : IE} {v : IV} {h h' : IH} (e : f σ h = .rt v h') : seqS f g σ h = .rt v h' := by unfold seqS; rw [e]
theorem asg_nm {fa : IE → M IV} {i : Nat} {σ : IE} {v : IV} {h h' : IH} (e : fa σ h = .ok v h') : asgS fa (gNm i) σ h = .nx (σ.set i (some v)) h' := by unfold asgS; rw [e]; rfl
theorem ret_ok {fa : IE → M IV} {σ : IE} {v : IV} {h h' : IH} (e : fa σ h = .ok v h') : retS fa σ h = .rt v h' := by unfold retS; rw [e]; rfl
theorem def_rt {k : Nat} {f : SM} {vs : List IV} {v : IV} {h h' : IH} (e : f (startI k vs) h = .rt v h') : defM k f vs h = .ok v h' := by unfold defM; rw [e]
theorem tuple_of {fa : IE → M IV} {σ : IE} {vs : List IV} {h h' : IH} (e : fa σ h = .ok (.lst vs) h') : bltE tupleI (consA fa nilA) σ h = .ok (.tup vs) h' := by unfold bltE consA; rw [e]; rfl
theorem made_len (p e : Int) (cells : List Int) (k : Nat) : (partS p e cells k).length ≤ 16 := by
  unfold partS; simp; omega
theorem made_in {p e : Int} {cells : List Int} {h : IH} : c_made_in [.int p, .int e, tupOf cells] h = .ok (.tup ((madeS p e cells).map tupOf)) h := by
  have cut : ∀ a : Nat, cutL (cells.map IV.int) (some (a : Int)) (some ((a : Int) + 13)) = ((cells.drop a).take 13).map IV.int := fun a => by rw [cut_13]; simp
  have len : ∀ (k : Int) (n : Nat), ((IV.int p :: IV.int e :: IV.int k :: (((cells.drop n).take 13).map IV.int ++ [])).length ≤ sizeLine) := fun k n => by
    have : sizeLine = 16777216 := sizeLine_eq
    simp; omega
  have c0 := cut 0
  have c1 := cut 13
  have c2 := cut 26
  have c3 := cut 39
  have m : ∀ x : Int, mulOk 13 x := fun x => .inl (by omega)
  have starts : lcI (rngIt (consA (cstE (.int 4)) nilA)) (gNm 4) yesT (binE mulDI (cstE (.int 13)) (varE 4)) [4] [some (.int p), some (.int e), some (tupOf cells), none, none, none] h = .ok (.lst [.int 0, .int 13, .int 26, .int 39]) h := by
    rfl
  have one : ∀ (i a : Int) (n : Nat), a = (n : Int) → (tupE (consA (varE 0) (consA (varE 1) (consA (varE 4) (starA (sliE (varE 2) (someO (varE 5)) (someO (binE addI (varE 5) (cstE (.int 13))))) nilA))))) [some (.int p), some (.int e), some (tupOf cells), some (.lst [.int 0, .int 13, .int 26, .int 39]), some (.int i), some (.int a)] h = .ok (tupOf (p :: e :: i :: (cells.drop n).take 13)) h := fun i a n ea => by
    subst ea
    have q := cut n
    show (if (IV.int p :: IV.int e :: IV.int i :: (cutL (cells.map IV.int) (some (n : Int)) (some ((n : Int) + 13)) ++ [])).length ≤ sizeLine then Out.ok (IV.tup (IV.int p :: IV.int e :: IV.int i :: (cutL (cells.map IV.int) (some (n : Int)) (some ((n : Int) + 13)) ++ []))) h else .no) = _
    rw [q, if_pos (len i n)]
    simp [tupOf]
  refine def_rt ((seq_nx (asg_nm starts)).trans (seq_rt (ret_ok (tuple_of (lc_ok (xs := [.tup [.int 0, .int 0], .tup [.int 1, .int 13], .tup [.int 2, .int 26], .tup [.int 3, .int 39]]) rfl (by decide) ?_)))))
  exact comp_one rfl (one 0 0 0 rfl) (comp_one rfl (one 1 13 13 rfl) (comp_one rfl (one 2 26 26 rfl) (comp_one rfl (one 3 39 39 rfl) rfl)))
theorem law_made {p e : Int} {cells : List Int} {h : IH} : c__law_made [.int p, .int e, tupOf cells] h = .ok (.tup ((madeS p e cells).map tupOf)) h := by
  have cut : ∀ a : Nat, cutL (cells.map IV.int) (some (a : Int)) (some ((a : Int) + 13)) = ((cells.drop a).take 13).map IV.int := fun a => by rw [cut_13]; simp
  have len : ∀ (i : Int) (n : Nat), [IV.int p, IV.int e, IV.int i].length + (((cells.drop n).take 13).map IV.int).length ≤ sizeLine := fun i n => by
    have : sizeLine = 16777216 := sizeLine_eq
    simp; omega
  have cutc : ∀ (n : Nat) (a b : Int), a = n → b = n + 13 → cutL (cells.map IV.int) (some a) (some b) = ((cells.drop n).take 13).map IV.int := fun n a b ha hb => by subst ha hb; exact cut n
  have fin : ∀ (i : Int) (n : Nat) (a b : Int), a = n → b = n + 13 → addI (.tup [.int p, .int e, .int i]) (.tup (cutL (cells.map IV.int) (some a) (some b))) h = .ok (tupOf (p :: e :: i :: (cells.drop n).take 13)) h := fun i n a b ha hb => by
    rw [cutc n a b ha hb]
    show (if [IV.int p, IV.int e, IV.int i].length + (((cells.drop n).take 13).map IV.int).length ≤ sizeLine then Out.ok (IV.tup _) h else .no) = _
    rw [if_pos (len i n)]; rfl
  refine def_rt (seq_rt (ret_ok (tuple_of (lc_ok (xs := [.int 0, .int 1, .int 2, .int 3]) rfl (by decide) ?_))))
  exact comp_one rfl (fin 0 0 0 13 rfl rfl) (comp_one rfl (fin 1 13 13 26 rfl rfl) (comp_one rfl (fin 2 26 26 39 rfl rfl) (comp_one rfl (fin 3 39 39 52 rfl rfl) rfl)))
end K08
namespace K08
open PySem PySem.Spec PyProof.Rows EV
open L2 hiding eqV keyOf
theorem map_inj {α β : Type} {f : α → β} (hf : ∀ x y, f x = f y → x = y) : ∀ {xs ys : List α}, xs.map f = ys.map f → xs = ys
  | [], [], _ => rfl
  | [], _ :: _, e => by cases e
  | _ :: _, [], e => by cases e
  | x :: xs, y :: ys, e => by
    rw [List.map_cons, List.map_cons] at e
    injection e with e1 e2
    rw [hf x y e1, map_inj hf e2]
def cl : Nat → IV → Bool
  | _, .non => true
  | _, .int _ => true
  | _, .str x => PyData.strOk x
  | n + 1, .tup xs => xs.all (cl n)
  | n + 1, .lst xs => xs.all (cl n)
  | _, _ => false
theorem mapO_cl {n : Nat} {h : IH} (ih : ∀ {x}, cl n x = true → ∃ d, dat h n x = some d) : ∀ {xs : List IV}, xs.all (cl n) = true → ∃ ds, mapO (dat h n) xs = some ds
  | [], _ => ⟨[], rfl⟩
  | x :: xs, c => by
    simp only [List.all_cons, Bool.and_eq_true] at c
    obtain ⟨d, e⟩ := ih c.1
    obtain ⟨ds, es⟩ := mapO_cl ih c.2
    exact ⟨d :: ds, by simp [mapO, e, es]⟩
theorem dat_cl {h : IH} : ∀ (n : Nat) {x : IV}, cl n x = true → ∃ d, dat h n x = some d
  | n, .non, _ => ⟨.none, by cases n <;> rfl⟩
  | n, .int i, _ => ⟨.int i, by cases n <;> rfl⟩
  | n, .str x, c => ⟨.str x, by
      have : PyData.strOk x = true := by cases n <;> exact c
      cases n <;> simp [dat, this]⟩
  | n + 1, .tup xs, c => by
    obtain ⟨ds, e⟩ := mapO_cl (h := h) (dat_cl n) (xs := xs) (by simpa only [cl] using c)
    exact ⟨.tuple ds, by simp only [dat, e]⟩
  | n + 1, .lst xs, c => by
    obtain ⟨ds, e⟩ := mapO_cl (h := h) (dat_cl n) (xs := xs) (by simpa only [cl] using c)
    exact ⟨.list ds, by simp only [dat, e]⟩
  | 0, .tup xs, c => by simp [cl] at c
  | 0, .lst xs, c => by simp [cl] at c
  | n, .bl _, c => by cases n <;> simp [cl] at c
  | n, .scr _, c => by cases n <;> simp [cl] at c
  | n, .dct _ _, c => by cases n <;> simp [cl] at c
  | n, .ref _, c => by cases n <;> simp [cl] at c
  | n, .ty _, c => by cases n <;> simp [cl] at c
  | n, .glo _, c => by cases n <;> simp [cl] at c
/-- shapes of clean data -/
inductive Sh (h : IH) : Nat → IV → PyData → Prop
  | non {n} : Sh h n .non .none
  | int {n i} : Sh h n (.int i) (.int i)
  | str {n x} : Sh h n (.str x) (.str x)
  | tup {n xs ds} : xs.all (cl n) = true → mapO (dat h n) xs = some ds → Sh h (n + 1) (.tup xs) (.tuple ds)
  | lst {n xs ds} : xs.all (cl n) = true → mapO (dat h n) xs = some ds → Sh h (n + 1) (.lst xs) (.list ds)
theorem sh_cl {h : IH} {n : Nat} {x : IV} {d : PyData} (c : cl n x = true) (e : dat h n x = some d) : Sh h n x d := by
  cases x with
  | non => cases n <;> (simp only [dat] at e; cases e; exact .non)
  | int i => cases n <;> (simp only [dat] at e; cases e; exact .int)
  | str x =>
    have : PyData.strOk x = true := by cases n <;> exact c
    cases n <;> (simp only [dat, this, if_true] at e; cases e; exact .str)
  | tup xs =>
    cases n with
    | zero => simp [cl] at c
    | succ n =>
      simp only [cl] at c
      obtain ⟨ds, e2⟩ := mapO_cl (h := h) (dat_cl n) c
      simp only [dat, e2] at e
      cases e
      exact .tup c e2
  | lst xs =>
    cases n with
    | zero => simp [cl] at c
    | succ n =>
      simp only [cl] at c
      obtain ⟨ds, e2⟩ := mapO_cl (h := h) (dat_cl n) c
      simp only [dat, e2] at e
      cases e
      exact .lst c e2
  | _ => cases n <;> simp [cl] at c
theorem eqvs_cl {h : IH} {n m : Nat} (ih : ∀ {x y d e}, Sh h n x d → Sh h m y e → PyData.eqv d e = eqV x y) : ∀ {xs ys : List IV} {ds es : List PyData}, xs.all (cl n) = true → ys.all (cl m) = true → mapO (dat h n) xs = some ds → mapO (dat h m) ys = some es → PyData.eqvAll ds es = eqVs xs ys
  | [], [], _, _, _, _, e1, e2 => by simp only [mapO] at e1 e2; cases e1; cases e2; simp [PyData.eqvAll, eqVs]
  | [], y :: ys, _, _, _, _, e1, e2 => by
    obtain ⟨b, bs, _, _, rfl⟩ := mapO_cons e2
    simp only [mapO] at e1; cases e1; simp [PyData.eqvAll, eqVs]
  | x :: xs, [], _, _, _, _, e1, e2 => by
    obtain ⟨b, bs, _, _, rfl⟩ := mapO_cons e1
    simp only [mapO] at e2; cases e2; simp [PyData.eqvAll, eqVs]
  | x :: xs, y :: ys, _, _, c1, c2, e1, e2 => by
    obtain ⟨a, as, p1, p2, rfl⟩ := mapO_cons e1
    obtain ⟨b, bs, q1, q2, rfl⟩ := mapO_cons e2
    simp only [List.all_cons, Bool.and_eq_true] at c1 c2
    simp only [PyData.eqvAll, eqVs]
    rw [ih (sh_cl c1.1 p1) (sh_cl c2.1 q1), eqvs_cl ih c1.2 c2.2 p2 q2]
theorem strEq {x y : Str} : (x == y) = decide (x = y) := by
  rw [Bool.eq_iff_iff, decide_eq_true_iff]; exact beq_iff_eq
theorem eqv_sh {h : IH} : ∀ (n : Nat) {m : Nat} {x y : IV} {d e : PyData}, Sh h n x d → Sh h m y e → PyData.eqv d e = eqV x y := by
  intro n
  induction n with
  | zero =>
    intro m x y d e s t
    cases s <;> cases t <;> simp [PyData.eqv, eqV, strEq]
  | succ n ih =>
    intro m x y d e s t
    cases s with
    | non => cases t <;> simp [PyData.eqv, eqV]
    | int => cases t <;> simp [PyData.eqv, eqV]
    | str => cases t <;> simp [PyData.eqv, eqV, strEq]
    | tup c1 e1 =>
      cases t with
      | tup c2 e2 => simp only [PyData.eqv, eqV]; exact eqvs_cl ih c1 c2 e1 e2
      | _ => simp [PyData.eqv, eqV]
    | lst c1 e1 =>
      cases t with
      | lst c2 e2 => simp only [PyData.eqv, eqV]; exact eqvs_cl ih c1 c2 e1 e2
      | _ => simp [PyData.eqv, eqV]
theorem eqv_cl {h : IH} {n m : Nat} {x y : IV} {d e : PyData} (cx : cl n x = true) (cy : cl m y = true) (ex : dat h n x = some d) (ey : dat h m y = some e) : PyData.eqv d e = eqV x y := eqv_sh n (sh_cl cx ex) (sh_cl cy ey)
theorem dctO_cl {h : IH} {n : Nat} {x : IV} (c : cl n x = true) : dctO h x = none := by
  cases x <;> first | rfl | (cases n <;> simp [cl] at c)
theorem eqI_cl {h : IH} {x y : IV} (cx : cl DEEP x = true) (cy : cl DEEP y = true) : eqI x y h = .ok (.bl (eqV x y)) h := by
  obtain ⟨d, ed⟩ := dat_cl (h := h) _ cx
  obtain ⟨e, ee⟩ := dat_cl (h := h) _ cy
  unfold eqI eqD
  rw [ed, ee]
  show Out.ok (IV.bl (PyData.eqv d e)) h = _
  rw [eqv_cl cx cy ed ee]
theorem neI_cl {h : IH} {x y : IV} (cx : cl DEEP x = true) (cy : cl DEEP y = true) : neI x y h = .ok (.bl (!eqV x y)) h := by
  obtain ⟨d, ed⟩ := dat_cl (h := h) _ cx
  obtain ⟨e, ee⟩ := dat_cl (h := h) _ cy
  unfold neI eqD
  rw [ed, ee]
  show Out.ok (IV.bl (!PyData.eqv d e)) h = _
  rw [eqv_cl cx cy ed ee]
theorem eqDI_cl {h : IH} {x y : IV} (cx : cl DEEP x = true) (cy : cl DEEP y = true) : eqDI x y h = .ok (.bl (eqV x y)) h := by
  unfold eqDI
  rw [dctO_cl cx]
  exact eqI_cl cx cy
theorem neDI_cl {h : IH} {x y : IV} (cx : cl DEEP x = true) (cy : cl DEEP y = true) : neDI x y h = .ok (.bl (!eqV x y)) h := by
  unfold neDI
  rw [dctO_cl cx]
  exact neI_cl cx cy
theorem any_cl {h : IH} {n m : Nat} {x : IV} {d : PyData} (cx : cl m x = true) (ex : dat h m x = some d) : ∀ {ys : List IV} {ds : List PyData}, ys.all (cl n) = true → mapO (dat h n) ys = some ds → (ds.any fun z => PyData.eqv z d) = ys.any fun y => eqV y x
  | [], _, _, e => by simp only [mapO] at e; cases e; rfl
  | y :: ys, _, c, e => by
    obtain ⟨a, as, p1, p2, rfl⟩ := mapO_cons e
    simp only [List.all_cons, Bool.and_eq_true] at c
    simp only [List.any_cons]
    rw [eqv_cl c.1 cx p1 ex, any_cl cx ex c.2 p2]
theorem inB_cl {h : IH} {x : IV} {ys : List IV} (cx : cl DEEP x = true) (cy : ys.all (cl 11) = true) : inB h x (.tup ys) = some (ys.any fun y => eqV y x) ∧ inB h x (.lst ys) = some (ys.any fun y => eqV y x) := by
  obtain ⟨d, ed⟩ := dat_cl (h := h) _ cx
  obtain ⟨ds, ee⟩ := mapO_cl (h := h) (dat_cl 11) cy
  have e1 : dat h DEEP (.tup ys) = some (.tuple ds) := by show (match mapO (dat h 11) ys with | some ys => some (PyData.tuple ys) | none => none) = _; rw [ee]
  have e2 : dat h DEEP (.lst ys) = some (.list ds) := by show (match mapO (dat h 11) ys with | some ys => some (PyData.list ys) | none => none) = _; rw [ee]
  constructor
  · cases x <;> (unfold inB; simp only [ed, e1, any_cl cx ed cy ee])
  · cases x <;> (unfold inB; simp only [ed, e2, any_cl cx ed cy ee])
theorem inDct_tup {h : IH} {x : IV} {ys : List IV} (cx : cl DEEP x = true) (cy : ys.all (cl 11) = true) : inDct x (.tup ys) h = .ok (.bl (ys.any fun y => eqV y x)) h := by
  unfold inDct inI
  simp only [dctO, (inB_cl cx cy).1]
theorem inDct_lst {h : IH} {x : IV} {ys : List IV} (cx : cl DEEP x = true) (cy : ys.all (cl 11) = true) : inDct x (.lst ys) h = .ok (.bl (ys.any fun y => eqV y x)) h := by
  unfold inDct inI
  simp only [dctO, (inB_cl cx cy).2]
theorem ninDct_tup {h : IH} {x : IV} {ys : List IV} (cx : cl DEEP x = true) (cy : ys.all (cl 11) = true) : ninDct x (.tup ys) h = .ok (.bl (!ys.any fun y => eqV y x)) h := by
  unfold ninDct ninI
  simp only [dctO, (inB_cl cx cy).1]
theorem eqV_iff {x y : IV} : eqV x y = true ↔ x = y := ⟨eqV_ok, fun e => e ▸ eqV_rf x⟩
theorem eqV_dec {x y : IV} {p : Prop} [Decidable p] (e : x = y ↔ p) : eqV x y = decide p := by
  rw [Bool.eq_iff_iff, eqV_iff, decide_eq_true_iff]; exact e
theorem tupOf_inj {a b : List Int} : tupOf a = tupOf b ↔ a = b := by
  unfold tupOf
  constructor
  · intro e
    injection e with e
    exact map_inj (fun x y z => by injection z) e
  · exact fun e => e ▸ rfl
theorem secV_inj {a b : Sec} : secV a = secV b ↔ a = b := by
  cases a <;> cases b <;> simp [secV, tupOf_inj]
  · simp [tupOf]
  · simp [tupOf]
theorem blkV_inj {a b : List Sec} : blkV a = blkV b ↔ a = b := by
  unfold blkV
  constructor
  · intro e
    injection e with e
    exact map_inj (fun x y z => secV_inj.mp z) e
  · exact fun e => e ▸ rfl
theorem cl_tupOf {n : Nat} {ns : List Int} : cl (n + 1) (tupOf ns) = true := by
  simp only [cl, tupOf, List.all_map]
  rw [List.all_eq_true]; intro x _; cases n <;> rfl
theorem cl_secV {n : Nat} {s : Sec} : cl (n + 1) (secV s) = true := by
  cases s with
  | none => rfl
  | some ns => exact cl_tupOf
theorem cl_blkV {n : Nat} {b : List Sec} : cl (n + 2) (blkV b) = true := by
  simp only [cl, blkV, List.all_map]
  rw [List.all_eq_true]; intro x _; exact cl_secV
theorem cl_int {n : Nat} {i : Int} : cl n (.int i) = true := by cases n <;> rfl
theorem cl_non {n : Nat} : cl n .non = true := by cases n <;> rfl
theorem eq_tupOf {a b : List Int} {h : IH} : eqDI (tupOf a) (tupOf b) h = .ok (.bl (decide (a = b))) h := by
  rw [eqDI_cl cl_tupOf cl_tupOf, eqV_dec tupOf_inj]
theorem eq_int {a b : Int} {h : IH} : eqDI (.int a) (.int b) h = .ok (.bl (decide (a = b))) h := by
  rw [eqDI_cl cl_int cl_int, eqV_dec (p := a = b) (by simp)]
theorem ne_int {a b : Int} {h : IH} : neDI (.int a) (.int b) h = .ok (.bl (!decide (a = b))) h := by
  rw [neDI_cl cl_int cl_int, eqV_dec (p := a = b) (by simp)]
section
variable {α : Type} {n : Nat} {σ : IE} {h : IH}
theorem comp_typ {g : TM} {t : IE → M Bool} {f : IE → M IV} {σ0 : IE} (V : α → IV) (T : α → Bool) (F : α → IV) : ∀ (ys : List α), (∀ y ∈ ys, ∃ σ1, g (V y) σ0 h = some (σ1, h) ∧ t σ1 h = .ok (T y) h ∧ (T y = true → f σ1 h = .ok (F y) h)) → compM g t f σ0 (ys.map V) h = .ok ((ys.filter T).map F) h
  | [], _ => rfl
  | y :: ys, H => by
    obtain ⟨σ1, e1, e2, e3⟩ := H y List.mem_cons_self
    have ih := comp_typ V T F ys fun z hz => H z (List.mem_cons_of_mem _ hz)
    rw [List.map_cons]
    unfold compM
    simp only [e1, e2]
    cases hT : T y with
    | true =>
      simp only [e3 hT, ih]
      simp [Out.bind, hT]
    | false =>
      simp only [ih]
      simp [hT]
theorem lc_typ {fi : IE → M (List IV)} {g : TM} {t : IE → M Bool} {f : IE → M IV} {ws : List Nat} (V : α → IV) (T : α → Bool) (F : α → IV) (ys : List α) (e : fi σ h = .ok (ys.map V) h) (hl : ys.length ≤ 16777216)
    (H : ∀ y ∈ ys, ∃ σ1, g (V y) (wipeI σ ws) h = some (σ1, h) ∧ t σ1 h = .ok (T y) h ∧ (T y = true → f σ1 h = .ok (F y) h)) : lcI fi g t f ws σ h = .ok (.lst ((ys.filter T).map F)) h :=
  lc_ok e (by simpa using hl) (comp_typ V T F ys H)
theorem filter_yes (ys : List α) : ys.filter (fun _ => true) = ys := List.filter_eq_self.mpr fun _ _ => rfl
/-- a comprehension without a test -/
theorem lc_all {fi : IE → M (List IV)} {g : TM} {f : IE → M IV} {ws : List Nat} (V : α → IV) (F : α → IV) (ys : List α) (e : fi σ h = .ok (ys.map V) h) (hl : ys.length ≤ 16777216)
    (H : ∀ y ∈ ys, ∃ σ1, g (V y) (wipeI σ ws) h = some (σ1, h) ∧ f σ1 h = .ok (F y) h) : lcI fi g yesT f ws σ h = .ok (.lst (ys.map F)) h := by
  have q := lc_typ (t := yesT) (f := f) (g := g) (ws := ws) V (fun _ => true) F ys e hl fun y hy => by
    obtain ⟨σ1, e1, e2⟩ := H y hy
    exact ⟨σ1, e1, rfl, fun _ => e2⟩
  rw [filter_yes] at q
  exact q
end
def insD {κ : Type} [DecidableEq κ] (d : List κ) (x : κ) : List κ := if x ∈ d then d else d ++ [x]
/-- keys of a kind -/
structure KeyV {κ : Type} [DecidableEq κ] (KV : κ → IV) : Prop where
  inj : ∀ a b, keyOf (KV a) = keyOf (KV b) → a = b
  is : ∀ a, ∃ q, keyOf (KV a) = some q
  ok : ∀ a (ds : List κ), kindOk (KV a) (ds.map KV) = true
theorem keysOf_ints : ∀ (ns : List Int), keysOf (ns.map IV.int) = some (ns.map NestedKey.num)
  | [] => rfl
  | n :: ns => by simp [keysOf, keyOf, keysOf_ints ns]
theorem keyOf_tupOf (ns : List Int) : keyOf (tupOf ns) = some (.tup (ns.map .num)) := by
  simp [tupOf, keyOf, keysOf_ints]
theorem depth_nums : ∀ (ns : List Int), NestedKey.depthAll (ns.map NestedKey.num) = 0
  | [] => by simp [NestedKey.depthAll]
  | n :: ns => by simp [NestedKey.depthAll, NestedKey.depth, depth_nums ns]
theorem isKT_tupOf (ns : List Int) : isKT (tupOf ns) = true := by
  have e := keyOf_tupOf ns
  unfold isKT
  unfold tupOf at e ⊢
  simp [e, NestedKey.depth, depth_nums]
theorem keyV_tup : KeyV tupOf where
  inj a b e := by
    rw [keyOf_tupOf, keyOf_tupOf] at e
    injection e with e
    injection e with e
    exact map_inj (fun x y z => by injection z) e
  is a := ⟨_, keyOf_tupOf a⟩
  ok a ds := by
    unfold kindOk allKT
    rw [isKT_tupOf]
    have : (ds.map tupOf).all isKT = true := by
      rw [List.all_eq_true]; intro x hx
      obtain ⟨d, _, rfl⟩ := List.mem_map.mp hx
      exact isKT_tupOf d
    rw [this]; rfl
theorem keyV_int : KeyV IV.int where
  inj a b e := by
    simp only [keyOf] at e
    injection e with e
    injection e
  is a := ⟨_, rfl⟩
  ok a ds := by
    unfold kindOk allKA
    have : (ds.map IV.int).all isKA = true := by
      rw [List.all_eq_true]; intro x hx
      obtain ⟨d, _, rfl⟩ := List.mem_map.mp hx
      rfl
    rw [this, Bool.and_true]
    exact Bool.or_true _
section
variable {κ : Type} [DecidableEq κ] {KV : κ → IV}
abbrev yesV {κ : Type} (ds : List κ) : List IV := ds.map fun _ => IV.bl true
theorem dhas_typ (K : KeyV KV) (x : κ) {q : NestedKey} (e : keyOf (KV x) = some q) (ds : List κ) : dhas q (ds.map KV) = decide (x ∈ ds) := by
  unfold dhas
  rw [Bool.eq_iff_iff, List.any_eq_true, decide_eq_true_iff]
  constructor
  · rintro ⟨k, hk, hq⟩
    obtain ⟨d, hd, rfl⟩ := List.mem_map.mp hk
    have := K.inj d x ((of_decide_eq_true hq).trans e.symm)
    exact this ▸ hd
  · exact fun hx => ⟨KV x, List.mem_map.mpr ⟨x, hx, rfl⟩, decide_eq_true e⟩
theorem dset_yes {q : NestedKey} : ∀ (ds : List κ), dset q (.bl true) (ds.map KV) (yesV ds) = yesV ds
  | [] => rfl
  | d :: ds => by
    simp only [List.map_cons, dset]
    split
    · rfl
    · rw [dset_yes ds]
theorem dput_yes (K : KeyV KV) (x : κ) (ds : List κ) : dput (KV x) (.bl true) (ds.map KV) (yesV ds) = ((insD ds x).map KV, yesV (insD ds x)) := by
  obtain ⟨q, e⟩ := K.is x
  unfold dput insD
  simp only [e, dhas_typ K x e]
  by_cases hx : x ∈ ds
  · simp only [hx, decide_true, if_true, dset_yes]
  · simp [hx]
theorem insD_mem {d : List κ} {x y : κ} : y ∈ insD d x ↔ y ∈ d ∨ y = x := by
  unfold insD
  split
  · constructor
    · exact .inl
    · rintro (h | rfl)
      · exact h
      · assumption
  · simp
theorem insD_nodup {d : List κ} {x : κ} (n : d.Nodup) : (insD d x).Nodup := by
  unfold insD
  split
  · exact n
  · rename_i h
    exact List.nodup_append.mpr ⟨n, by simp, fun a ha b hb => by simp at hb; subst hb; exact fun z => h (z ▸ ha)⟩
theorem insD_len {d : List κ} {x : κ} : (insD d x).length ≤ d.length + 1 := by
  unfold insD; split <;> simp
theorem fold_mem : ∀ {xs d : List κ} {y : κ}, y ∈ xs.foldl insD d ↔ y ∈ d ∨ y ∈ xs
  | [], d, y => by simp
  | x :: xs, d, y => by rw [List.foldl_cons, fold_mem, insD_mem, List.mem_cons]; exact or_assoc
theorem fold_nodup : ∀ {xs d : List κ}, d.Nodup → (xs.foldl insD d).Nodup
  | [], d, n => n
  | x :: xs, d, n => fold_nodup (xs := xs) (insD_nodup n)
theorem fold_len : ∀ {xs d : List κ}, (xs.foldl insD d).length ≤ d.length + xs.length
  | [], d => by simp
  | x :: xs, d => by
    have := fold_len (xs := xs) (d := insD d x)
    have := insD_len (d := d) (x := x)
    simp only [List.foldl_cons, List.length_cons]; omega
/-- a dict of keys whose values are all True -/
theorem dc_typ {α : Type} (K : KeyV KV) {g : TM} {t : IE → M Bool} {fk fv : IE → M IV} {σ0 : IE} {h : IH} (V : α → IV) (T : α → Bool) (F : α → κ) (hv : ∀ σ, fv σ h = .ok (.bl true) h) : ∀ (ys : List α) (ds : List κ), ds.length + ys.length ≤ 16777216 → (∀ y ∈ ys, ∃ σ1, g (V y) σ0 h = some (σ1, h) ∧ t σ1 h = .ok (T y) h ∧ (T y = true → fk σ1 h = .ok (KV (F y)) h)) →
    dcM g t fk fv σ0 (ys.map V) (ds.map KV) (yesV ds) h = .ok ((((ys.filter T).map F).foldl insD ds).map KV, yesV (((ys.filter T).map F).foldl insD ds)) h
  | [], ds, _, _ => rfl
  | y :: ys, ds, hl, H => by
    obtain ⟨σ1, e1, e2, e3⟩ := H y List.mem_cons_self
    simp only [List.length_cons] at hl
    rw [List.map_cons]
    unfold dcM
    simp only [e1, e2]
    cases hT : T y with
    | true =>
      have il := insD_len (d := ds) (x := F y)
      have ih := dc_typ K (h := h) V T F hv ys (insD ds (F y)) (by omega) fun z hz => H z (List.mem_cons_of_mem _ hz)
      simp only [e3 hT, hv, K.ok, dput_yes K, List.length_map, true_and]
      rw [if_pos (by omega), ih]
      simp [hT]
    | false =>
      have ih := dc_typ K (h := h) V T F hv ys ds (by omega) fun z hz => H z (List.mem_cons_of_mem _ hz)
      simp only [ih]
      simp [hT]
theorem dcI_typ {α : Type} (K : KeyV KV) {fi : IE → M (List IV)} {g : TM} {t : IE → M Bool} {fk fv : IE → M IV} {ws : List Nat} {σ : IE} {h : IH} (V : α → IV) (T : α → Bool) (F : α → κ) (ys : List α) (e : fi σ h = .ok (ys.map V) h) (hv : ∀ σ, fv σ h = .ok (.bl true) h) (hl : ys.length ≤ 16777216) (H : ∀ y ∈ ys, ∃ σ1, g (V y) (wipeI σ ws) h = some (σ1, h) ∧ t σ1 h = .ok (T y) h ∧ (T y = true → fk σ1 h = .ok (KV (F y)) h)) :
    dcI fi g t fk fv ws σ h = .ok (.dct ((((ys.filter T).map F).foldl insD []).map KV) (yesV (((ys.filter T).map F).foldl insD []))) h := by
  unfold dcI
  rw [e]
  show (dcM g t fk fv (wipeI σ ws) (ys.map V) (([] : List κ).map KV) (yesV ([] : List κ)) h).bind _ = _
  rw [dc_typ K V T F hv ys [] (by simpa using hl) H]
  rfl
theorem dmerge_yes (K : KeyV KV) : ∀ (xs ds : List κ), dmerge (ds.map KV) (yesV ds) (xs.map KV) (yesV xs) = ((xs.foldl insD ds).map KV, yesV (xs.foldl insD ds))
  | [], ds => rfl
  | x :: xs, ds => by
    simp only [List.map_cons, dmerge, dput_yes K]
    exact dmerge_yes K xs (insD ds x)
end
theorem for_inv {α : Type} {g : TM} {f : SM} (V : α → IV) (I : List α → IE → IH → Prop) (step : ∀ y ys σ h, I (y :: ys) σ h → ∃ σ1 h1 σ2 h2, g (V y) σ h = some (σ1, h1) ∧ f σ1 h1 = .nx σ2 h2 ∧ I ys σ2 h2) : ∀ (ys : List α) (σ : IE) (h : IH), I ys σ h → ∃ σ' h', forL g f (ys.map V) σ h = .nx σ' h' ∧ I [] σ' h'
  | [], σ, h, i => ⟨σ, h, rfl, i⟩
  | y :: ys, σ, h, i => by
    obtain ⟨σ1, h1, σ2, h2, e1, e2, i2⟩ := step y ys σ h i
    obtain ⟨σ3, h3, e3, i3⟩ := for_inv V I step ys σ2 h2 i2
    refine ⟨σ3, h3, ?_, i3⟩
    rw [List.map_cons]
    unfold forL
    simp only [e1, e2, e3]
theorem for_nx {fi : IE → M (List IV)} {g : TM} {f : SM} {σ σ' : IE} {h h1 h' : IH} {xs : List IV} (e : fi σ h = .ok xs h1) (e2 : forL g f xs σ h1 = .nx σ' h') : forS fi g f σ h = .nx σ' h' := by
  unfold forS
  rw [e]; exact e2
theorem leI_int {h : IH} (a b : Int) : leI h (.int a) (.int b) = decide (a ≤ b) := by
  show (!PySem.W.dataLt (.int b) (.int a)) = _
  rw [PySem.W.dataLt_int]
  by_cases c : a ≤ b
  · simp [c]
  · simp [c]; omega
theorem sortL_int {h : IH} (ns : List Int) : sortL h (ns.map .int) = (ns.mergeSort fun a b => decide (a ≤ b)).map .int := by
  unfold sortL
  exact (List.map_mergeSort (r := fun a b => decide (a ≤ b)) (s := leI h) (f := IV.int) fun a _ b _ => (leI_int a b).symm).symm
theorem mapO_dat_int {h : IH} {n : Nat} : ∀ (ns : List Int), mapO (dat h n) (ns.map IV.int) = some (ns.map PyData.int)
  | [] => rfl
  | i :: ns => by
    have : dat h n (.int i) = some (.int i) := by cases n <;> rfl
    simp [mapO, this, mapO_dat_int ns]
theorem sortOk_int {h : IH} (ns : List Int) : sortOk h (ns.map .int) = true := by
  unfold sortOk
  rw [mapO_dat_int]
  simp [PySem.W.alike, notNT]
theorem sort_strict {ns : List Int} (n : ns.Nodup) : (ns.mergeSort fun a b => decide (a ≤ b)).Pairwise (· < ·) := by
  have p := List.pairwise_mergeSort (le := fun (a b : Int) => decide (a ≤ b)) (fun a b c h1 h2 => by simp at *; omega) (fun a b => by simp; omega) ns
  have q : (ns.mergeSort fun a b => decide (a ≤ b)).Nodup := (List.mergeSort_perm ns _).nodup_iff.mpr n
  exact (p.and q).imp fun ⟨h1, h2⟩ => by simp at h1; omega
theorem strict_ext : ∀ {xs ys : List Int}, xs.Pairwise (· < ·) → ys.Pairwise (· < ·) → (∀ e, e ∈ xs ↔ e ∈ ys) → xs = ys
  | [], [], _, _, _ => rfl
  | [], y :: ys, _, _, m => by simpa using (m y).mpr List.mem_cons_self
  | x :: xs, [], _, _, m => by simpa using (m x).mp List.mem_cons_self
  | x :: xs, y :: ys, p, q, m => by
    rw [List.pairwise_cons] at p q
    have hxy : x = y := by
      have a := (m x).mp List.mem_cons_self
      have b := (m y).mpr List.mem_cons_self
      rcases List.mem_cons.mp a with a | a
      · exact a
      · rcases List.mem_cons.mp b with b | b
        · exact b.symm
        · have := q.1 x a; have := p.1 y b; omega
    subst hxy
    congr 1
    refine strict_ext p.2 q.2 fun e => ?_
    constructor
    · intro he
      have := p.1 e he
      rcases List.mem_cons.mp ((m e).mp (List.mem_cons_of_mem _ he)) with rfl | z
      · omega
      · exact z
    · intro he
      have := q.1 e he
      rcases List.mem_cons.mp ((m e).mpr (List.mem_cons_of_mem _ he)) with rfl | z
      · omega
      · exact z
end K08
namespace K08
open PySem PySem.Spec PyProof.Rows EV
open L2 hiding eqV keyOf
def ed : Sec → Int
  | some (_ :: b :: _) => b
  | _ => 0
def fitsS (p k : Int) : Sec → Bool
  | some (a :: b :: c :: _) => decide (a = p) && (decide (0 < b) && decide (c = k))
  | _ => false
def copV (cs : List (List Sec)) : IV := .tup (cs.map blkV)
def atS (c : List Sec) (k : Nat) : Sec := c.getD k none
def valT (p e : Int) (k : Nat) (s : Sec) : Bool := fitsS p k s && decide (ed s = e)
def valsP (p : Int) (cs : List (List Sec)) (e : Int) (k : Nat) : List (List Int) := ((cs.filter fun c => valT p e k (atS c k)).map fun c => (atS c k).getD []).foldl insD []
theorem call_ok {np : Nat} {c : CM} {fs : IE → M (List IV)} {vs : List IV} {σ : IE} {h h' : IH} {o : Out IV} (e : fs σ h = .ok vs h') (hl : vs.length = np) (q : c vs h' = o) : callE none np c fs σ h = o := by
  unfold callE
  rw [e]
  show (if vs.length = np then _ else _) = _
  rw [if_pos hl]; exact q
theorem arg_ok {fa : IE → M IV} {fs : IE → M (List IV)} {σ : IE} {h h1 h2 : IH} {v : IV} {vs : List IV} (e1 : fa σ h = .ok v h1) (e2 : fs σ h1 = .ok vs h2) : consA fa fs σ h = .ok (v :: vs) h2 := by
  unfold consA
  rw [e1]
  show (fs σ h1).bind _ = _
  rw [e2]; rfl
theorem bin_ok {g : G2} {fa fb : IE → M IV} {σ : IE} {h h1 h2 : IH} {v u : IV} {o : Out IV} (e1 : fa σ h = .ok v h1) (e2 : fb σ h1 = .ok u h2) (e3 : g v u h2 = o) : binE g fa fb σ h = o := by
  unfold binE
  rw [e1]
  show (fb σ h1).bind _ = _
  rw [e2]; exact e3
theorem cmp_ok {g : G2} {fa fb : IE → M IV} {σ : IE} {h h1 h2 h3 : IH} {v u : IV} {b : Bool} (e1 : fa σ h = .ok v h1) (e2 : fb σ h1 = .ok u h2) (e3 : g v u h2 = .ok (.bl b) h3) : cmpT g fa fb σ h = .ok b h3 := by
  unfold cmpT
  rw [bin_ok e1 e2 e3]; rfl
theorem tru_bl {fa : IE → M IV} {σ : IE} {h h1 : IH} {b : Bool} (e : fa σ h = .ok (.bl b) h1) : truT fa σ h = .ok b h1 := by
  unfold truT
  rw [e]; rfl
theorem and_ok {ta tb : IE → M Bool} {σ : IE} {h h1 h2 : IH} {a b : Bool} (e1 : ta σ h = .ok a h1) (e2 : a = true → tb σ h1 = .ok b h2) (e3 : a = false → h2 = h1) : andT ta tb σ h = .ok (a && b) h2 := by
  unfold andT
  rw [e1]
  show (if a = true then _ else _) = _
  cases a with
  | true => rw [if_pos rfl, e2 rfl]; rfl
  | false => rw [if_neg (by simp), e3 rfl]; rfl
theorem or_ok {ta tb : IE → M Bool} {σ : IE} {h h1 h2 : IH} {a b : Bool} (e1 : ta σ h = .ok a h1) (e2 : a = false → tb σ h1 = .ok b h2) (e3 : a = true → h2 = h1) : orT ta tb σ h = .ok (a || b) h2 := by
  unfold orT
  rw [e1]
  show (if a = true then _ else _) = _
  cases a with
  | false => rw [if_neg (by simp), e2 rfl]; rfl
  | true => rw [if_pos rfl, e3 rfl]; rfl
theorem not_ok {ta : IE → M Bool} {σ : IE} {h h1 : IH} {a : Bool} (e1 : ta σ h = .ok a h1) : notT ta σ h = .ok (!a) h1 := by
  unfold notT
  rw [e1]; rfl
theorem if_ok {t : IE → M Bool} {f g : SM} {σ : IE} {h h1 : IH} {b : Bool} {o : SOut} (e : t σ h = .ok b h1) (q : (if b = true then f σ h1 else g σ h1) = o) : ifS t f g σ h = o := by
  unfold ifS
  rw [e]; exact q
theorem expr_ok {fa : IE → M IV} {σ : IE} {h h1 : IH} {v : IV} (e : fa σ h = .ok v h1) : exprS fa σ h = .nx σ h1 := by
  unfold exprS
  rw [e]; rfl
theorem ite_ok {t : IE → M Bool} {fa fb : IE → M IV} {σ : IE} {h h1 : IH} {b : Bool} {o : Out IV} (e : t σ h = .ok b h1) (q : (if b = true then fa σ h1 else fb σ h1) = o) : iteE t fa fb σ h = o := by
  unfold iteE
  rw [e]; exact q
theorem and_e {fa fb : IE → M IV} {σ : IE} {h h1 : IH} {a b : Bool} (e1 : fa σ h = .ok (.bl a) h1) (e2 : a = true → fb σ h1 = .ok (.bl b) h1) : andE fa fb σ h = .ok (.bl (a && b)) h1 := by
  unfold andE
  rw [e1]
  cases a with
  | true => exact e2 rfl
  | false => rfl
theorem blt_ok {r : RM} {fs : IE → M (List IV)} {σ : IE} {h h1 : IH} {vs : List IV} {o : Out IV} (e : fs σ h = .ok vs h1) (q : r vs h1 = o) : bltE r fs σ h = o := by
  unfold bltE
  rw [e]; exact q
theorem mth_ok {T : String} {r : RMt} {fo : IE → M IV} {fs : IE → M (List IV)} {σ : IE} {h h1 h2 : IH} {o : IV} {xs : List IV} {z : Out IV} (e1 : fo σ h = .ok o h1) (ty : tyName h1 o = some T) (e2 : fs σ h1 = .ok xs h2) (e3 : r o xs h2 = z) : mthE T r fo fs σ h = z := by
  unfold mthE
  rw [e1]
  show (if tyName h1 o = some T then _ else _) = _
  rw [if_pos ty, e2]; exact e3
theorem sub_tup {xs : List IV} {k : Nat} {v : IV} {h : IH} (e : xs[k]? = some v) : subD (.tup xs) (.int k) h = .ok v h := by
  have hk : k < xs.length := (List.getElem?_eq_some_iff.mp e).1
  have : atI xs (k : Int) = some v := by
    unfold atI ixN
    rw [if_pos (by omega), if_pos (by omega)]
    simpa using e
  show (match atI xs (k : Int) with | some v => Out.ok v h | none => .no) = _
  rw [this]
theorem atS_get {c : List Sec} {k : Nat} (hk : k < c.length) : (c.map secV)[k]? = some (secV (atS c k)) := by
  unfold atS
  rw [List.getElem?_map, List.getElem?_eq_getElem hk]
  simp [List.getD, hk]
theorem atS_mem {c : List Sec} {k : Nat} {s : List Int} (e : atS c k = some s) : c[k]? = some (some s) := by
  unfold atS at e
  rw [List.getD_eq_getElem?_getD] at e
  cases hq : c[k]? with
  | none => rw [hq] at e; cases e
  | some x => rw [hq] at e; simp at e; rw [e]
theorem sub_blk {c : List Sec} {k : Nat} {h : IH} (hk : k < c.length) : subD (blkV c) (.int k) h = .ok (secV (atS c k)) h := sub_tup (atS_get hk)
theorem sub_int {ns : List Int} {k : Nat} {i : Int} {h : IH} (e : ns[k]? = some i) : subD (tupOf ns) (.int k) h = .ok (.int i) h := sub_tup (by rw [List.getElem?_map, e]; rfl)
theorem ev_fits {p k : Int} {s : Sec} {h : IH} : c_fits [.int p, .int k, secV s] h = .ok (.bl (fitsS p k s)) h := by
  rcases s with _ | ns
  · rfl
  · by_cases hl : 3 ≤ ns.length
    · obtain ⟨a, b, c, r, rfl⟩ : ∃ a b c r, ns = a :: b :: c :: r := by
        match ns, hl with
        | a :: b :: c :: r, _ => exact ⟨a, b, c, r, rfl⟩
      refine def_rt ((seq_nx (if_ok (b := false) (or_ok (a := false) (b := false) rfl (fun _ => cmp_ok (v := .int ((a :: b :: c :: r).map IV.int).length) (u := .int 3) rfl rfl ?_) (fun z => by cases z)) rfl)).trans (seq_rt (ret_ok (and_e (bin_ok (v := .int a) (u := .int p) (bin_ok rfl rfl (sub_int (k := 0) rfl)) rfl eq_int) fun _ => and_e (bin_ok (v := .int b) (u := .int 0) (bin_ok rfl rfl (sub_int (k := 1) rfl)) rfl rfl) fun _ => bin_ok (v := .int c) (u := .int k) (bin_ok rfl rfl (sub_int (k := 2) rfl)) rfl eq_int))))
      show Out.ok (IV.bl (decide (_ < _))) h = _
      congr 2
    · have e : fitsS p k (some ns) = false := by
        rcases ns with _ | ⟨a, _ | ⟨b, _ | ⟨c, r⟩⟩⟩
        · rfl
        · rfl
        · rfl
        · exact absurd (by simp) hl
      rw [e]
      refine def_rt (seq_rt (if_ok (b := true) (or_ok (a := false) (b := true) rfl (fun _ => cmp_ok (v := .int (ns.map IV.int).length) (u := .int 3) rfl rfl ?_) (fun z => by cases z)) rfl))
      show Out.ok (IV.bl (decide (_ < _))) h = _
      congr 2
      simp; omega
theorem fits_shape {p k : Int} {s : Sec} (e : fitsS p k s = true) : ∃ b r, s = some (p :: b :: k :: r) ∧ 0 < b ∧ ed s = b := by
  rcases s with _ | (_ | ⟨a, _ | ⟨b, _ | ⟨c, r⟩⟩⟩)
  · cases e
  · cases e
  · cases e
  · cases e
  · unfold fitsS at e
    simp only [Bool.and_eq_true, decide_eq_true_eq] at e
    obtain ⟨e1, h, e2⟩ := e
    subst e1 e2
    exact ⟨b, r, rfl, h, rfl⟩
theorem sub_ed {p k : Int} {s : Sec} {h : IH} (e : fitsS p k s = true) : subD (secV s) (.int 1) h = .ok (.int (ed s)) h := by
  obtain ⟨b, r, rfl, _, _⟩ := fits_shape e
  exact sub_int (k := 1) rfl
def okC (i : Int) : Prop := 0 ≤ i ∧ i ≤ 999999999999999999
def okL (ns : List Int) : Prop := ns.length ≤ 16 ∧ ∀ i ∈ ns, okC i
def okS : Sec → Prop
  | none => True
  | some ns => okL ns
/-- a block of four sectors -/
structure okB (c : List Sec) : Prop where
  len : c.length = 4
  sec : ∀ s ∈ c, okS s
/-- copies -/
structure okCs (cs : List (List Sec)) : Prop where
  one : 1 ≤ cs.length
  len : cs.length ≤ 4
  blk : ∀ c ∈ cs, okB c
theorem ev_values {p e : Int} {k : Nat} {cs : List (List Sec)} {h : IH} (hk : k < 4) (hc : ∀ c ∈ cs, c.length = 4) (hl : cs.length ≤ 1000) : c_values_of [.int p, copV cs, .int e, .int k] h = .ok (.lst ((valsP p cs e k).map tupOf)) h := by
  have dc := dcI_typ keyV_tup (fi := anyIt (varE 1)) (g := gNm 5) (t := andT (truT (callE none 3 c_fits (consA (varE 0) (consA (varE 3) (consA (binE subD (varE 5) (varE 3)) nilA))))) (cmpT eqDI (binE subD (binE subD (varE 5) (varE 3)) (cstE (.int 1))) (varE 2))) (fk := binE subD (varE 5) (varE 3)) (fv := cstE (.bl true)) (ws := [5]) (σ := [some (.int p), some (copV cs), some (.int e), some (.int k), none, none]) (h := h) blkV (fun c => valT p e k (atS c k)) (fun c => (atS c k).getD []) cs rfl (fun _ => rfl) (by omega) fun c hc' => by
    have sb : subD (blkV c) (.int k) h = .ok (secV (atS c k)) h := sub_blk (by rw [hc c hc']; exact hk)
    refine ⟨[some (.int p), some (copV cs), some (.int e), some (.int k), none, some (blkV c)], rfl, and_ok (a := fitsS p k (atS c k)) (b := decide (ed (atS c k) = e)) (tru_bl (call_ok (vs := [.int p, .int k, secV (atS c k)]) (arg_ok rfl (arg_ok rfl (arg_ok (bin_ok rfl rfl sb) rfl))) rfl ev_fits)) (fun ht => cmp_ok (bin_ok (bin_ok rfl rfl sb) rfl (sub_ed ht)) rfl eq_int) (fun _ => rfl), fun ht => ?_⟩
    have ht' : fitsS p k (atS c k) = true := by
      unfold valT at ht; exact (Bool.and_eq_true_iff.mp ht).1
    obtain ⟨b, r, es, _, _⟩ := fits_shape ht'
    refine bin_ok (v := blkV c) (u := .int k) rfl rfl (sb.trans ?_)
    rw [es]; rfl
  exact def_rt ((seq_nx (asg_nm dc)).trans (seq_rt (ret_ok rfl)))
def enumS : Nat → List Sec → List (Nat × Sec)
  | _, [] => []
  | n, s :: c => (n, s) :: enumS (n + 1) c
def enV (q : Nat × Sec) : IV := .tup [.int (q.1 : Int), secV q.2]
theorem enu_blk : ∀ (c : List Sec) (n : Nat), enuV n (c.map secV) = (enumS n c).map enV
  | [], _ => rfl
  | s :: c, n => by simp only [List.map_cons, enuV, enumS, enu_blk c]; rfl
theorem enumS_len : ∀ (c : List Sec) (n : Nat), (enumS n c).length = c.length
  | [], _ => rfl
  | s :: c, n => by simp [enumS, enumS_len c]
theorem enumS_mem : ∀ {c : List Sec} {n k : Nat} {t : Sec}, (k, t) ∈ enumS n c ↔ ∃ j, k = n + j ∧ c[j]? = some t
  | [], n, k, t => by simp [enumS]
  | s :: c, n, k, t => by
    rw [enumS, List.mem_cons, enumS_mem, Prod.mk.injEq]
    constructor
    · rintro (⟨h1, h2⟩ | ⟨j, h1, h2⟩)
      · exact ⟨0, by omega, by rw [h2]; rfl⟩
      · exact ⟨j + 1, by omega, by simpa using h2⟩
    · rintro ⟨j, h1, h2⟩
      cases j with
      | zero => left; exact ⟨by omega, by simpa using h2.symm⟩
      | succ j => right; exact ⟨j, by omega, by simpa using h2⟩
def edsC (p : Int) (c : List Sec) : List Int := (((enumS 0 c).filter fun q => fitsS p q.1 q.2).map fun q => ed q.2).foldl insD []
def edsP (p : Int) (cs : List (List Sec)) : List Int := cs.foldl (fun D c => (edsC p c).foldl insD D) []
theorem edsC_mem {p : Int} {c : List Sec} {e : Int} : e ∈ edsC p c ↔ ∃ (k : Nat) (s : Sec), c[k]? = some s ∧ fitsS p k s = true ∧ ed s = e := by
  unfold edsC
  rw [fold_mem]
  simp only [List.not_mem_nil, false_or, List.mem_map, List.mem_filter]
  constructor
  · rintro ⟨⟨k, s⟩, ⟨h1, h2⟩, h3⟩
    obtain ⟨j, h4, h5⟩ := enumS_mem.mp h1
    rw [Nat.zero_add] at h4; subst h4
    exact ⟨k, s, h5, h2, h3⟩
  · rintro ⟨k, s, h1, h2, h3⟩
    exact ⟨(k, s), ⟨enumS_mem.mpr ⟨k, by simp, h1⟩, h2⟩, h3⟩
theorem edsC_len {p : Int} {c : List Sec} : (edsC p c).length ≤ c.length := by
  unfold edsC
  have := fold_len (xs := ((enumS 0 c).filter fun q => fitsS p q.1 q.2).map fun q => ed q.2) (d := [])
  have h2 := List.length_filter_le (fun q : Nat × Sec => fitsS p q.1 q.2) (enumS 0 c)
  rw [enumS_len] at h2
  simp only [List.length_map, List.length_nil, Nat.zero_add] at this
  omega
theorem eds_fold_mem {p e : Int} : ∀ {cs : List (List Sec)} {D : List Int}, e ∈ cs.foldl (fun D c => (edsC p c).foldl insD D) D ↔ e ∈ D ∨ ∃ c ∈ cs, e ∈ edsC p c
  | [], D => by simp
  | c :: cs, D => by
    rw [List.foldl_cons, eds_fold_mem, fold_mem]
    simp only [List.mem_cons, exists_eq_or_imp]
    exact or_assoc
theorem edsP_mem {p e : Int} {cs : List (List Sec)} : e ∈ edsP p cs ↔ ∃ c ∈ cs, ∃ (k : Nat) (s : Sec), c[k]? = some s ∧ fitsS p k s = true ∧ ed s = e := by
  unfold edsP
  rw [eds_fold_mem]
  simp only [List.not_mem_nil, false_or, edsC_mem]
theorem eds_fold_nodup {p : Int} : ∀ {cs : List (List Sec)} {D : List Int}, D.Nodup → (cs.foldl (fun D c => (edsC p c).foldl insD D) D).Nodup
  | [], D, n => n
  | c :: cs, D, n => eds_fold_nodup (cs := cs) (fold_nodup n)
theorem allKA_int (D : List Int) : allKA (D.map IV.int) = true := by
  unfold allKA
  rw [List.all_eq_true]; intro x hx
  obtain ⟨d, _, rfl⟩ := List.mem_map.mp hx
  rfl
theorem get_last {h : IH} {o : IO} : (h ++ [o])[h.length]? = some o := by simp
theorem set_last {h : IH} {o o' : IO} : (h ++ [o]).set h.length o' = h ++ [o'] := by simp
theorem ev_editions {p : Int} {cs : List (List Sec)} {h : IH} (hc : ∀ c ∈ cs, c.length = 4) (hl : cs.length ≤ 1000) : ∃ D : List Int, c_editions_at [.int p, copV cs] h = .ok (.lst (((edsP p cs).mergeSort fun a b => decide (a ≤ b)).map .int)) (h ++ [.dct (D.map .int) (yesV D)]) := by
  have loop := for_inv (g := gNm 3) (f := seqS (exprS (mthE "dict" updM (varE 2) (consA (dcI (enuIt (consA (varE 3) nilA)) (gTp 2 (gsCons (gNm 4) (gsCons (gNm 5) gsNil))) (truT (callE none 3 c_fits (consA (varE 0) (consA (varE 4) (consA (varE 5) nilA))))) (binE subD (varE 5) (cstE (.int 1))) (cstE (.bl true)) [4, 5]) nilA))) nextS) blkV
    (fun rest σ h' => ∃ D x, σ = [some (.int p), some (copV cs), some (.ref h.length), x, none, none] ∧ h' = h ++ [.dct (D.map .int) (yesV D)] ∧ D.length + 4 * rest.length ≤ 4000 ∧ (∀ c ∈ rest, c.length = 4) ∧ rest.foldl (fun D c => (edsC p c).foldl insD D) D = edsP p cs)
    (fun c rest σ h' => by
      rintro ⟨D, x, e1, e2, e3, e4, e5⟩
      subst e1 e2
      have hc4 := e4 c List.mem_cons_self
      have dl := edsC_len (p := p) (c := c)
      have fl := fold_len (xs := edsC p c) (d := D)
      simp only [List.length_cons] at e3
      refine ⟨_, _, [some (.int p), some (copV cs), some (.ref h.length), some (blkV c), none, none], h ++ [.dct (((edsC p c).foldl insD D).map .int) (yesV ((edsC p c).foldl insD D))], rfl, ?_, (edsC p c).foldl insD D, _, rfl, rfl, by omega, fun c' h' => e4 c' (List.mem_cons_of_mem _ h'), e5⟩
      have ty : tyName (h ++ [IO.dct (D.map .int) (yesV D)]) (.ref h.length) = some "dict" := by
        simp only [tyName, get_last]
      have inner := dcI_typ keyV_int (fi := enuIt (consA (varE 3) nilA)) (g := gTp 2 (gsCons (gNm 4) (gsCons (gNm 5) gsNil))) (t := truT (callE none 3 c_fits (consA (varE 0) (consA (varE 4) (consA (varE 5) nilA))))) (fk := binE subD (varE 5) (cstE (.int 1))) (fv := cstE (.bl true)) (ws := [4, 5]) (σ := [some (.int p), some (copV cs), some (.ref h.length), some (blkV c), none, none]) (h := h ++ [IO.dct (D.map .int) (yesV D)]) enV (fun q => fitsS p q.1 q.2) (fun q => ed q.2) (enumS 0 c)
        (by show Out.ok (enuV 0 (c.map secV)) _ = _; rw [enu_blk]) (fun _ => rfl) (by rw [enumS_len]; omega) fun q hq => ⟨[some (.int p), some (copV cs), some (.ref h.length), some (blkV c), some (.int q.1), some (secV q.2)], rfl, tru_bl (call_ok (vs := [.int p, .int q.1, secV q.2]) (arg_ok rfl (arg_ok rfl (arg_ok rfl rfl))) rfl ev_fits), fun ht => bin_ok (v := secV q.2) (u := .int 1) rfl rfl (sub_ed ht)⟩
      refine (seq_nx (expr_ok (v := .non) (h1 := h ++ [.dct (((edsC p c).foldl insD D).map .int) (yesV ((edsC p c).foldl insD D))]) ?_)).trans rfl
      refine mth_ok (o := .ref h.length) rfl ty (arg_ok inner rfl) ?_
      unfold updM
      simp only [get_last]
      have dl' := dl
      unfold edsC at dl'
      rw [if_pos ⟨allKA_int _, allKA_int _, by simp only [List.length_map]; omega⟩, set_last, dmerge_yes keyV_int]
      rfl)
    cs [some (.int p), some (copV cs), some (.ref h.length), none, none, none] (h ++ [.dct [] []]) ⟨[], none, rfl, rfl, by simp; omega, hc, rfl⟩
  obtain ⟨σ', h', e, D, x, e1, e2, e3, _, e5⟩ := loop
  refine ⟨D, ?_⟩
  subst e1 e2
  refine def_rt ((seq_nx (asg_nm rfl)).trans ((seq_nx (for_nx rfl e)).trans (seq_rt (ret_ok (blt_ok (arg_ok rfl rfl) ?_)))))
  have e6 : D = edsP p cs := e5
  unfold sortedI
  simp only [srcI, get_last]
  simp only [List.length_nil] at e3
  rw [if_pos ⟨sortOk_int _, by rw [List.length_map]; omega⟩, sortL_int, e6]
end K08
namespace K08
open PySem PySem.Spec PyProof.Rows EV
open L2 hiding eqV keyOf
theorem pure_ints : ∀ (ns : List Int), pureVs (ns.map IV.int) = true
  | [] => rfl
  | n :: ns => by simp [pureVs, pureV, pure_ints ns]
theorem pure_tupOf (ns : List Int) : pureV (tupOf ns) = true := by
  unfold tupOf; simp only [pureV]; exact pure_ints ns
theorem pure_secV (s : Sec) : pureV (secV s) = true := by
  cases s with
  | none => rfl
  | some ns => exact pure_tupOf ns
theorem pure_all {xs : List IV} (k : ∀ x ∈ xs, pureV x = true) : pureVs xs = true := by
  induction xs with
  | nil => rfl
  | cons x xs ih =>
    simp only [pureVs, k x List.mem_cons_self, Bool.true_and]
    exact ih fun y hy => k y (List.mem_cons_of_mem _ hy)
theorem pure_blkV (b : List Sec) : pureV (blkV b) = true := by
  unfold blkV; simp only [pureV]
  exact pure_all fun x hx => by
    obtain ⟨s, _, rfl⟩ := List.mem_map.mp hx
    exact pure_secV s
theorem settle_pure {fz : Bool} {v : IV} {h t : IH} (ph : pureH h = true) (pv : pureV v = true) : EV.settle fz h.length (.ok v (h ++ t)) = .ok v h := by
  show (if pureH (List.take h.length (h ++ t)) = true then (if pureV v = true then Out.ok v (List.take h.length (h ++ t)) else _) else _) = _
  rw [List.take_left, if_pos ph, if_pos pv]
theorem settle_ref {h t : IH} {o : IO} {r : Nat} (ph : pureH h = true) (e : (h ++ t)[r]? = some o) (hr : h.length ≤ r) (po : pureO o = true) : EV.settle true h.length (.ok (.ref r) (h ++ t)) = .ok o.val h := by
  show (if pureH (List.take h.length (h ++ t)) = true then (match (h ++ t)[r]? with
    | some o => if h.length ≤ r ∧ pureO o = true then (if true = true then Out.ok o.val (List.take h.length (h ++ t)) else _) else _
    | none => _) else _) = _
  rw [List.take_left, if_pos ph, e]
  show (if h.length ≤ r ∧ pureO o = true then _ else _) = _
  rw [if_pos ⟨hr, po⟩, if_pos rfl]
theorem callz_ok {np : Nat} {c : CM} {fs : IE → M (List IV)} {vs : List IV} {σ : IE} {h h' : IH} {o : Out IV} {z : Bool} (e : fs σ h = .ok vs h') (hl : vs.length = np) (q : EV.settle z h'.length (c vs h') = o) : callE (some z) np c fs σ h = o := by
  unfold callE
  rw [e]
  show (if vs.length = np then _ else _) = _
  rw [if_pos hl]; exact q
def joinP (p : Int) (cs : List (List Sec)) (e : Int) : Option (List Int) := match valsP p cs e 0, valsP p cs e 1, valsP p cs e 2, valsP p cs e 3 with
  | [a], [b], [c], [d] => if madeS p e (a.drop 3 ++ (b.drop 3 ++ (c.drop 3 ++ d.drop 3))) = [a, b, c, d] then some (a.drop 3 ++ (b.drop 3 ++ (c.drop 3 ++ d.drop 3))) else none
  | _, _, _, _ => none
def optV : Option (List Int) → IV
  | none => .non
  | some ns => tupOf ns
theorem valsP_mem {p e : Int} {cs : List (List Sec)} {k : Nat} {s : List Int} : s ∈ valsP p cs e k ↔ ∃ c ∈ cs, atS c k = some s ∧ valT p e k (some s) = true := by
  unfold valsP
  rw [fold_mem]
  simp only [List.not_mem_nil, false_or, List.mem_map, List.mem_filter]
  constructor
  · rintro ⟨c, ⟨h1, h2⟩, h3⟩
    have h4 := (Bool.and_eq_true_iff.mp h2).1
    obtain ⟨b, r, es, _, _⟩ := fits_shape h4
    rw [es] at h3
    refine ⟨c, h1, ?_, ?_⟩
    · rw [es, ← h3]; rfl
    · rw [es] at h2; rw [← h3]; exact h2
  · rintro ⟨c, h1, h2, h3⟩
    exact ⟨c, ⟨h1, by rw [h2]; exact h3⟩, by rw [h2]; rfl⟩
theorem valsP_nodup {p e : Int} {cs : List (List Sec)} {k : Nat} : (valsP p cs e k).Nodup := fold_nodup List.nodup_nil
theorem mapO_bl {α : Type} (f : α → Bool) : ∀ (ys : List α), mapO blO (ys.map fun y => IV.bl (f y)) = some (ys.map f)
  | [] => rfl
  | y :: ys => by simp [mapO, blO, mapO_bl f ys]
theorem all_ok {α : Type} {f : α → Bool} {ys : List α} {h : IH} : allI [.lst (ys.map fun y => IV.bl (f y))] h = .ok (.bl (ys.all f)) h := by
  unfold allI
  simp only [lsR, lsO, mapO_bl]
  congr 2
  rw [List.all_map]; rfl
theorem eq_lists {a b : List (List Int)} {h : IH} : eqDI (.tup (a.map tupOf)) (.tup (b.map tupOf)) h = .ok (.bl (decide (a = b))) h := by
  have c : ∀ (a : List (List Int)), cl DEEP (.tup (a.map tupOf)) = true := fun a => by
    show (a.map tupOf).all (cl 11) = true
    rw [List.all_eq_true]; intro x hx
    obtain ⟨y, _, rfl⟩ := List.mem_map.mp hx
    exact cl_tupOf
  rw [eqDI_cl (c a) (c b), eqV_dec (p := a = b)]
  constructor
  · intro e
    injection e with e
    exact map_inj (fun x y z => tupOf_inj.mp z) e
  · exact fun e => e ▸ rfl
theorem cut_from (ns : List Int) (k : Nat) : cutL (ns.map IV.int) (some (k : Int)) none = (ns.drop k).map IV.int := by
  unfold cutL
  rw [HT.sIx_nat, HT.sIx_none, List.length_map]
  by_cases hk : k ≤ ns.length
  · rw [Nat.min_eq_left hk, List.take_of_length_le (by simp), List.map_drop]
  · rw [Nat.min_eq_right (by omega)]
    rw [List.drop_eq_nil_of_le (by simp), List.drop_eq_nil_of_le (as := ns) (by omega)]; simp
theorem cut_to (ns : List Int) (k : Nat) : cutL (ns.map IV.int) none (some (k : Int)) = (ns.take k).map IV.int := by
  unfold cutL
  rw [HT.sIx_nat, HT.sIx_none, List.length_map]
  simp only [List.drop_zero, Nat.sub_zero]
  rw [← List.map_take]
  congr 1
  rw [List.take_eq_take_iff]; omega
theorem comp_id {i : Nat} {σ : IE} {h : IH} (hi : i < σ.length) {xs : List IV} : compM (gNm i) yesT (varE i) σ xs h = .ok xs h := by
  have q := comp_typ (g := gNm i) (t := yesT) (f := varE i) (σ0 := σ) (h := h) (V := fun x : IV => x) (T := fun _ => true) (F := fun x : IV => x) xs fun y _ => ⟨_, rfl, rfl, fun _ => by
    unfold varE
    rw [List.getElem?_set_self hi]⟩
  rw [filter_yes, List.map_id'] at q
  exact q
theorem comp2_typ {α : Type} {g : TM} {fi1 : IE → M (List IV)} {g1 : TM} {t1 : IE → M Bool} {f : IE → M IV} {ws1 : List Nat} {σ0 : IE} {h : IH} (V : α → IV) (Z U : α → List IV) : ∀ (ys : List α), (∀ y ∈ ys, ∃ σ1, g (V y) σ0 h = some (σ1, h) ∧ fi1 σ1 h = .ok (Z y) h ∧ (Z y).length ≤ 4096 ∧ compM g1 t1 f (wipeI σ1 ws1) (Z y) h = .ok (U y) h) →
    compM2 g yesT fi1 g1 t1 f ws1 σ0 (ys.map V) h = .ok (ys.flatMap U) h
  | [], _ => rfl
  | y :: ys, H => by
    obtain ⟨σ1, e1, e2, e3, e4⟩ := H y List.mem_cons_self
    rw [List.map_cons]
    unfold compM2
    simp only [e1]
    rw [show yesT σ1 h = .ok true h from rfl]
    simp only [e2, if_pos e3, e4]
    show (compM2 g yesT fi1 g1 t1 f ws1 σ0 (List.map V ys) h).bind _ = _
    have ih := comp2_typ V Z U ys fun z hz => H z (List.mem_cons_of_mem _ hz)
    rw [ih]
    rfl
theorem lc2_typ {α : Type} {fi : IE → M (List IV)} {g : TM} {fi1 : IE → M (List IV)} {g1 : TM} {t1 : IE → M Bool} {f : IE → M IV} {ws ws1 : List Nat} {σ : IE} {h : IH} (V : α → IV) (Z U : α → List IV) (ys : List α) (e : fi σ h = .ok (ys.map V) h) (hl : ys.length ≤ 4096) (H : ∀ y ∈ ys, ∃ σ1, g (V y) (wipeI σ ws) h = some (σ1, h) ∧ fi1 σ1 h = .ok (Z y) h ∧ (Z y).length ≤ 4096 ∧ compM g1 t1 f (wipeI σ1 ws1) (Z y) h = .ok (U y) h) :
    lc2I fi g yesT fi1 g1 t1 f ws ws1 σ h = .ok (.lst (ys.flatMap U)) h := by
  unfold lc2I
  rw [e]
  show (if (ys.map V).length ≤ 4096 then (compM2 g yesT fi1 g1 t1 f ws1 (wipeI σ ws) (ys.map V) h).bind _ else .no) = _
  rw [if_pos (by simpa using hl), comp2_typ V Z U ys H]
  rfl
theorem ev_joined {p e : Int} {cs : List (List Sec)} {h : IH} (hc : ∀ c ∈ cs, okB c) (hl : cs.length ≤ 1000) : c_joined_cells [.int p, copV cs, .int e] h = .ok (optV (joinP p cs e)) h := by
  have hc4 : ∀ c ∈ cs, c.length = 4 := fun c hc' => (hc c hc').len
  have short : ∀ {k : Nat} {s : List Int}, s ∈ valsP p cs e k → s.length ≤ 4096 := fun {k s} hs => by
    obtain ⟨c, h1, h2, _⟩ := valsP_mem.mp hs
    have h3 : some s ∈ c := List.mem_of_getElem? (atS_mem h2)
    have := ((hc c h1).sec _ h3).1
    omega
  have vals := lc_all (σ := startI 9 [IV.int p, copV cs, .int e]) (h := h) (fi := rngIt (consA (cstE (.int 4)) nilA)) (g := gNm 6) (f := callE none 4 c_values_of (consA (varE 0) (consA (varE 1) (consA (varE 2) (consA (varE 6) nilA))))) (ws := [6]) (fun (k : Nat) => IV.int (k : Int)) (fun k => .lst ((valsP p cs e k).map tupOf)) [0, 1, 2, 3] rfl (by decide) fun k hk => ⟨_, rfl, call_ok (arg_ok rfl (arg_ok rfl (arg_ok rfl (arg_ok rfl rfl)))) rfl (ev_values (by simp at hk; omega) hc4 hl)⟩
  have lens := lc_all (σ := (startI 9 [IV.int p, copV cs, .int e]).set 3 (some (.lst ([0, 1, 2, 3].map fun k => IV.lst ((valsP p cs e k).map tupOf))))) (h := h) (fi := anyIt (varE 3)) (g := gNm 7) (f := binE eqDI (bltE lenI (consA (varE 7) nilA)) (cstE (.int 1))) (ws := [7]) (fun (k : Nat) => IV.lst ((valsP p cs e k).map tupOf)) (fun k => .bl (decide ((valsP p cs e k).length = 1))) [0, 1, 2, 3] rfl (by decide) fun k _ => ⟨_, rfl, by
    refine bin_ok (v := .int ((valsP p cs e k).map tupOf).length) (u := .int 1) rfl rfl (eq_int.trans ?_)
    congr 3
    simp
    omega⟩
  have test := if_ok (f := seqS (retS (cstE .non)) nextS) (g := nextS) (o := if ([0, 1, 2, 3].all fun k => decide ((valsP p cs e k).length = 1)) = true then .nx ((startI 9 [IV.int p, copV cs, .int e]).set 3 (some (.lst ([0, 1, 2, 3].map fun k => IV.lst ((valsP p cs e k).map tupOf))))) h else .rt .non h) (not_ok (tru_bl (blt_ok (r := allI) (fs := consA (lcI (anyIt (varE 3)) (gNm 7) yesT (binE eqDI (bltE lenI (consA (varE 7) nilA)) (cstE (.int 1))) [7]) nilA) (arg_ok lens rfl) all_ok))) (by
      cases ([0, 1, 2, 3].all fun k => decide ((valsP p cs e k).length = 1)) <;> rfl)
  cases hb : ([0, 1, 2, 3].all fun k => decide ((valsP p cs e k).length = 1)) with
  | false =>
    rw [hb] at test
    have : joinP p cs e = none := by
      unfold joinP
      split
      · rename_i a b c d e0 e1 e2 e3
        simp [e0, e1, e2, e3] at hb
      · rfl
    rw [this]
    exact def_rt ((seq_nx (asg_nm vals)).trans (seq_rt test))
  | true =>
    rw [hb] at test
    simp only [List.all_cons, List.all_nil, Bool.and_true, Bool.and_eq_true, decide_eq_true_eq] at hb
    obtain ⟨b0, b1, b2, b3⟩ := hb
    obtain ⟨a, ea⟩ := List.length_eq_one_iff.mp b0
    obtain ⟨b, eb⟩ := List.length_eq_one_iff.mp b1
    obtain ⟨c, ec⟩ := List.length_eq_one_iff.mp b2
    obtain ⟨d, ed⟩ := List.length_eq_one_iff.mp b3
    have sa := short (ea ▸ List.mem_singleton_self a)
    have sb := short (eb ▸ List.mem_singleton_self b)
    have sc := short (ec ▸ List.mem_singleton_self c)
    have sd := short (ed ▸ List.mem_singleton_self d)
    simp only [List.map_cons, List.map_nil, ea, eb, ec, ed] at test vals
    refine def_rt ((seq_nx (asg_nm vals)).trans ((seq_nx test).trans ?_))
    have parts := lc_all (σ := (startI 9 [IV.int p, copV cs, .int e]).set 3 (some (.lst [.lst [tupOf a], .lst [tupOf b], .lst [tupOf c], .lst [tupOf d]]))) (h := h) (fi := anyIt (varE 3)) (g := gNm 7) (f := binE subD (varE 7) (cstE (.int 0))) (ws := [7]) (fun (s : List Int) => IV.lst [tupOf s]) (fun s => tupOf s) [a, b, c, d] rfl (by simp) fun s _ => ⟨_, rfl, rfl⟩
    refine (seq_nx (asg_nm parts)).trans ?_
    have cells := lc2_typ (σ := ((startI 9 [IV.int p, copV cs, .int e]).set 3 (some (.lst [.lst [tupOf a], .lst [tupOf b], .lst [tupOf c], .lst [tupOf d]]))).set 4 (some (.lst ([a, b, c, d].map tupOf)))) (h := h) (fi := anyIt (varE 4)) (g := gNm 6) (fi1 := tupIt (sliE (varE 6) (someO (cstE (.int 3))) noneO)) (g1 := gNm 8) (t1 := yesT) (f := varE 8) (ws := [6, 8]) (ws1 := [8]) tupOf (fun s => (s.drop 3).map IV.int) (fun s => (s.drop 3).map IV.int) [a, b, c, d] rfl (by simp) fun s hs => ⟨_, rfl, by
      have q : cutL (s.map IV.int) (some ((3 : Nat) : Int)) none = _ := cut_from s 3
      show Out.ok (cutL (s.map IV.int) (some (3 : Int)) none) h = _
      rw [show (3 : Int) = ((3 : Nat) : Int) from rfl, q], by
      have : s.length ≤ 4096 := by
        simp only [List.mem_cons, List.not_mem_nil, or_false] at hs
        rcases hs with rfl | rfl | rfl | rfl <;> assumption
      simp; omega, comp_id (by show 8 < 9; decide)⟩
    have flat : ([a, b, c, d].flatMap fun s => (s.drop 3).map IV.int) = (a.drop 3 ++ (b.drop 3 ++ (c.drop 3 ++ d.drop 3))).map IV.int := by simp
    rw [flat] at cells
    refine (seq_nx (asg_nm (tuple_of cells))).trans (seq_rt (ret_ok (ite_ok (cmp_ok (call_ok (vs := [.int p, .int e, tupOf (a.drop 3 ++ (b.drop 3 ++ (c.drop 3 ++ d.drop 3)))]) (arg_ok rfl (arg_ok rfl (arg_ok rfl rfl))) rfl made_in) (tuple_of rfl) eq_lists) ?_)))
    unfold joinP
    simp only [ea, eb, ec, ed]
    by_cases z : madeS p e (a.drop 3 ++ (b.drop 3 ++ (c.drop 3 ++ d.drop 3))) = [a, b, c, d]
    · rw [if_pos z, if_pos (decide_eq_true z)]; rfl
    · rw [if_neg z, if_neg (by simpa using z)]; rfl
end K08
namespace K08
open PySem PySem.Spec PyProof.Rows EV
open L2 hiding eqV keyOf
theorem fold_eds_len {p : Int} : ∀ {cs : List (List Sec)} {D : List Int}, (∀ c ∈ cs, c.length = 4) → (cs.foldl (fun D c => (edsC p c).foldl insD D) D).length ≤ D.length + 4 * cs.length
  | [], D, _ => by simp
  | c :: cs, D, H => by
    have h1 := fold_eds_len (p := p) (cs := cs) (D := (edsC p c).foldl insD D) fun c' h => H c' (List.mem_cons_of_mem _ h)
    have h2 := fold_len (xs := edsC p c) (d := D)
    have h3 := edsC_len (p := p) (c := c)
    have h4 := H c List.mem_cons_self
    simp only [List.foldl_cons, List.length_cons]
    omega
def wholeP (p : Int) (cs : List (List Sec)) : List Int := ((edsP p cs).mergeSort fun a b => decide (a ≤ b)).filter fun e => (joinP p cs e).isSome
theorem joinP_vals {p e : Int} {cs : List (List Sec)} {cells : List Int} (j : joinP p cs e = some cells) : ∃ a b c d, valsP p cs e 0 = [a] ∧ valsP p cs e 1 = [b] ∧ valsP p cs e 2 = [c] ∧ valsP p cs e 3 = [d] ∧ madeS p e cells = [a, b, c, d] ∧ cells = a.drop 3 ++ (b.drop 3 ++ (c.drop 3 ++ d.drop 3)) := by
  unfold joinP at j
  split at j
  · rename_i a b c d e0 e1 e2 e3
    split at j
    · rename_i z
      injection j with j
      subst j
      exact ⟨a, b, c, d, e0, e1, e2, e3, z, rfl⟩
    · cases j
  · cases j
theorem join_pos {p e : Int} {cs : List (List Sec)} (j : (joinP p cs e).isSome = true) : 0 < e ∧ e ∈ edsP p cs := by
  obtain ⟨cells, j⟩ := Option.isSome_iff_exists.mp j
  obtain ⟨a, _, _, _, e0, _⟩ := joinP_vals j
  obtain ⟨c, h1, h2, h3⟩ := valsP_mem.mp (e0 ▸ List.mem_singleton_self a)
  unfold valT at h3
  obtain ⟨h4, h5⟩ := Bool.and_eq_true_iff.mp h3
  obtain ⟨b, r, _, hb, eb⟩ := fits_shape h4
  have h6 := of_decide_eq_true h5
  exact ⟨by omega, edsP_mem.mpr ⟨c, h1, 0, some a, atS_mem h2, h4, h6⟩⟩
theorem wholeP_mem {p e : Int} {cs : List (List Sec)} : e ∈ wholeP p cs ↔ (joinP p cs e).isSome = true := by
  unfold wholeP
  rw [List.mem_filter, List.mem_mergeSort]
  exact ⟨fun h => h.2, fun h => ⟨(join_pos h).2, h⟩⟩
theorem wholeP_strict {p : Int} {cs : List (List Sec)} : (wholeP p cs).Pairwise (· < ·) := (sort_strict (eds_fold_nodup List.nodup_nil)).filter _
theorem any_ok {fa : IE → M IV} {σ : IE} {h h1 : IH} {xs : List IV} (e : fa σ h = .ok (.lst xs) h1) : anyIt fa σ h = .ok xs h1 := by
  unfold anyIt
  rw [e]; rfl
theorem non_optV {o : Option (List Int)} : isNonB (optV o) = !o.isSome := by
  cases o <;> rfl
theorem ev_whole {p : Int} {cs : List (List Sec)} {h : IH} (ph : pureH h = true) (hc : ∀ c ∈ cs, okB c) (hl : cs.length ≤ 1000) : c_whole_in [.int p, copV cs] h = .ok (.lst ((wholeP p cs).map .int)) h := by
  have hc4 : ∀ c ∈ cs, c.length = 4 := fun c hc' => (hc c hc').len
  obtain ⟨D, eds⟩ := ev_editions (p := p) (h := h) hc4 hl
  have len := fold_eds_len (p := p) (D := []) hc4
  refine def_rt (seq_rt (ret_ok (lc_typ IV.int (fun e => (joinP p cs e).isSome) IV.int ((edsP p cs).mergeSort fun a b => decide (a ≤ b)) (any_ok (callz_ok (arg_ok rfl (arg_ok rfl rfl)) rfl ?_)) ?_ fun e he => ⟨_, rfl, cmp_ok (call_ok (arg_ok rfl (arg_ok rfl (arg_ok rfl rfl))) rfl (ev_joined hc hl)) rfl ?_, fun _ => rfl⟩)))
  · refine (congrArg (EV.settle true h.length) eds).trans (settle_pure ph ?_)
    simp only [pureV]; exact pure_ints _
  · rw [List.length_mergeSort]
    unfold edsP
    simp only [List.length_nil] at len
    omega
  · unfold isnI
    rw [non_optV, Bool.not_not]
theorem tup_ok {fs : IE → M (List IV)} {σ : IE} {h h1 : IH} {xs : List IV} (e : fs σ h = .ok xs h1) (hl : xs.length ≤ 1000) : tupE fs σ h = .ok (.tup xs) h1 := by
  unfold tupE
  rw [e]
  show (if xs.length ≤ sizeLine then _ else _) = _
  rw [if_pos (by rw [sizeLine_eq]; omega)]
theorem lst_ok {fs : IE → M (List IV)} {σ : IE} {h h1 : IH} {xs : List IV} (e : fs σ h = .ok xs h1) (hl : xs.length ≤ 1000) : lstE (capA fs) σ h = .ok (.lst xs) h1 := by
  unfold lstE capA
  rw [e]
  show (if xs.length ≤ sizeLine then Out.ok xs h1 else _).bind _ = _
  rw [if_pos (by rw [sizeLine_eq]; omega)]; rfl
theorem ref_ok {fs : IE → M (List IV)} {σ : IE} {h h1 : IH} {xs : List IV} (e : fs σ h = .ok xs h1) (hl : xs.length ≤ 1000) : refE (capA fs) σ h = .ok (.ref h1.length) (h1 ++ [.lst xs]) := by
  unfold refE capA
  rw [e]
  show (if xs.length ≤ sizeLine then Out.ok xs h1 else _).bind _ = _
  rw [if_pos (by rw [sizeLine_eq]; omega)]; rfl
theorem cl_lints {n : Nat} {ns : List Int} : cl (n + 1) (.lst (ns.map IV.int)) = true := by
  simp only [cl, List.all_map]
  rw [List.all_eq_true]; intro x _; cases n <;> rfl
theorem eqVs_nil {xs : List IV} : eqVs xs [] = xs.isEmpty := by cases xs <;> simp [eqVs]
theorem at_last {xs : List IV} {v : IV} (e : xs.getLast? = some v) : atI xs (-1) = some v := by
  have hx : xs ≠ [] := fun z => by subst z; cases e
  have hl := List.length_pos_iff.mpr hx
  unfold atI ixN
  rw [if_neg (by omega), if_pos (by omega)]
  show xs[(-1 + (xs.length : Int)).toNat]? = _
  rw [show (-1 + (xs.length : Int)).toNat = xs.length - 1 by omega, ← List.getLast?_eq_getElem?, e]
abbrev sWhole : IV := .str "whole"
abbrev sLost : IV := .str "lost"
abbrev sBlank : IV := .str "blank"
abbrev sTorn : IV := .str "torn"
def lostB (cs : List (List Sec)) : Bool := [0, 1, 2, 3].any fun k => cs.all fun c => (atS c k).isNone
def blankB (cs : List (List Sec)) : Bool := [0, 1, 2, 3].all fun k => cs.all fun c => decide ((atS c k).getD [] = [])
def toldW (W : List Int) (J : Int → Option (List Int)) (cs : List (List Sec)) : IV := match W.getLast? with
  | some e => .tup [sWhole, .int e, optV (J e)]
  | none => if lostB cs = true then .tup [sLost] else if blankB cs = true then .tup [sBlank] else .tup [sTorn]
def toldP (p : Int) (cs : List (List Sec)) : IV := toldW (wholeP p cs) (joinP p cs) cs
theorem lstIt_ok {fa : IE → M IV} {σ : IE} {h h1 : IH} {xs : List IV} (e : fa σ h = .ok (.lst xs) h1) : lstIt fa σ h = .ok xs h1 := by
  unfold lstIt
  rw [e]; rfl
theorem eq_secV_nil {s : Sec} {h : IH} : eqDI (secV s) (.tup []) h = .ok (.bl (decide (s = some []))) h := by
  rw [eqDI_cl cl_secV rfl, eqV_dec (p := s = some []) (by
    have : IV.tup [] = secV (some []) := rfl
    rw [this, secV_inj])]
theorem ev_told {p : Int} {cs : List (List Sec)} {h : IH} (ph : pureH h = true) (hc : ∀ c ∈ cs, okB c) (hl : cs.length ≤ 1000) : c_told_in [.int p, copV cs] h = .ok (toldP p cs) h := by
  have hc4 : ∀ c ∈ cs, c.length = 4 := fun c hc' => (hc c hc').len
  unfold toldP toldW
  have wh := call_ok (np := 2) (c := c_whole_in) (fs := consA (varE 0) (consA (varE 1) nilA)) (σ := startI 8 [IV.int p, copV cs]) (arg_ok rfl (arg_ok rfl rfl)) rfl (ev_whole (p := p) (cs := cs) (h := h) ph hc hl)
  have tst : cmpT neDI (varE 2) (lstE (capA nilA)) ((startI 8 [IV.int p, copV cs]).set 2 (some (.lst ((wholeP p cs).map .int)))) h = .ok (!(wholeP p cs).isEmpty) h := cmp_ok rfl (lst_ok rfl (by simp)) (by
    rw [neDI_cl cl_lints rfl]
    simp [eqV, eqVs_nil])
  cases hw : (wholeP p cs).getLast? with
  | some e =>
    have hne : (wholeP p cs).isEmpty = false := by
      cases z : wholeP p cs with
      | nil => rw [z] at hw; cases hw
      | cons => rfl
    have last : subD (.lst ((wholeP p cs).map .int)) (.int (-1)) h = .ok (.int e) h := by
      have : atI ((wholeP p cs).map IV.int) (-1) = some (.int e) := at_last (by rw [List.getLast?_map, hw]; rfl)
      show (match atI ((wholeP p cs).map IV.int) (-1) with | some v => Out.ok v h | none => .no) = _
      rw [this]
    refine def_rt ((seq_nx (asg_nm wh)).trans (seq_rt (if_ok tst ?_)))
    rw [hne]
    exact seq_rt (ret_ok (tup_ok (arg_ok rfl (arg_ok (bin_ok rfl rfl last) (arg_ok (call_ok (arg_ok rfl (arg_ok rfl (arg_ok (bin_ok rfl rfl last) rfl))) rfl (ev_joined hc hl)) rfl))) (by simp)))
  | none =>
    have hne : (wholeP p cs).isEmpty = true := by
      cases z : wholeP p cs with
      | nil => rfl
      | cons => rw [z] at hw; simp at hw
    refine def_rt ((seq_nx (asg_nm wh)).trans ((seq_nx (if_ok (o := .nx ((startI 8 [IV.int p, copV cs]).set 2 (some (.lst ((wholeP p cs).map .int)))) h) tst (by rw [hne]; rfl))).trans ?_))
    have rd := lc_all (σ := (startI 8 [IV.int p, copV cs]).set 2 (some (.lst ((wholeP p cs).map .int)))) (h := h) (fi := rngIt (consA (cstE (.int 4)) nilA)) (g := gNm 4) (f := lcI (anyIt (varE 1)) (gNm 5) (cmpT isnI (binE subD (varE 5) (varE 4)) (cstE .non)) (binE subD (varE 5) (varE 4)) [5]) (ws := [4]) (fun (k : Nat) => IV.int (k : Int)) (fun k => .lst ((cs.filter fun c => (atS c k).isSome).map fun c => secV (atS c k))) [0, 1, 2, 3] rfl (by decide) fun k hk => ⟨_, rfl, lc_typ blkV (fun c => (atS c k).isSome) (fun c => secV (atS c k)) cs rfl (by omega) fun c hc' => ⟨_, rfl, cmp_ok (bin_ok rfl rfl (sub_blk (by rw [hc4 c hc']; simp at hk; omega))) rfl (by
      unfold isnI
      congr 2
      cases atS c k <;> rfl), fun _ => bin_ok rfl rfl (sub_blk (by rw [hc4 c hc']; simp at hk; omega))⟩⟩
    refine (seq_nx (asg_nm rd)).trans ?_
    have clR : ∀ k : Nat, cl 11 (.lst ((cs.filter fun c => (atS c k).isSome).map fun c => secV (atS c k))) = true := fun k => by
      show List.all _ (cl 10) = true
      rw [List.all_eq_true]; intro x hx
      obtain ⟨c, _, rfl⟩ := List.mem_map.mp hx
      exact cl_secV
    have lost : cmpT inDct (lstE (capA nilA)) (varE 3) (((startI 8 [IV.int p, copV cs]).set 2 (some (.lst ((wholeP p cs).map .int)))).set 3 (some (.lst ([0, 1, 2, 3].map fun k => IV.lst ((cs.filter fun c => (atS c k).isSome).map fun c => secV (atS c k)))))) h = .ok (lostB cs) h := cmp_ok (lst_ok rfl (by simp)) rfl (by
      rw [inDct_lst rfl (by
        rw [List.all_eq_true]; intro x hx
        obtain ⟨k, _, rfl⟩ := List.mem_map.mp hx
        exact clR k)]
      congr 2
      rw [List.any_map]
      unfold lostB
      congr 1
      funext k
      show eqVs _ [] = _
      rw [eqVs_nil]
      rw [Bool.eq_iff_iff]
      simp [List.filter_eq_nil_iff])
    show _ = SOut.rt (if lostB cs = true then .tup [sLost] else if blankB cs = true then .tup [sBlank] else .tup [sTorn]) h
    cases hL : lostB cs with
    | true =>
      rw [hL] at lost
      rw [if_pos rfl]
      refine seq_rt (if_ok lost ?_)
      rw [if_pos rfl]
      exact seq_rt (ret_ok (tup_ok (xs := [sLost]) (arg_ok rfl rfl) (by simp)))
    | false =>
      rw [hL] at lost
      refine (seq_nx (if_ok (f := seqS (retS (tupE (consA (cstE sLost) nilA))) nextS) lost rfl)).trans ?_
      have bl := lc2_typ (σ := ((startI 8 [IV.int p, copV cs]).set 2 (some (.lst ((wholeP p cs).map .int)))).set 3 (some (.lst ([0, 1, 2, 3].map fun k => IV.lst ((cs.filter fun c => (atS c k).isSome).map fun c => secV (atS c k)))))) (h := h) (fi := anyIt (varE 3)) (g := gNm 6) (fi1 := lstIt (varE 6)) (g1 := gNm 7) (t1 := yesT) (f := binE eqDI (varE 7) (tupE nilA)) (ws := [6, 7]) (ws1 := [7]) (fun k => IV.lst ((cs.filter fun c => (atS c k).isSome).map fun c => secV (atS c k))) (fun k => (cs.filter fun c => (atS c k).isSome).map fun c => secV (atS c k)) (fun k => (cs.filter fun c => (atS c k).isSome).map fun c => IV.bl (decide (atS c k = some []))) [0, 1, 2, 3] rfl (by decide) fun k hk => ⟨_, rfl, rfl, by
        have := List.length_filter_le (fun c => (atS c k).isSome) cs
        rw [List.length_map]; omega, by
        have q := comp_typ (g := gNm 7) (t := yesT) (f := binE eqDI (varE 7) (tupE nilA)) (σ0 := wipeI (List.set (wipeI (((startI 8 [IV.int p, copV cs]).set 2 (some (.lst ((wholeP p cs).map .int)))).set 3 (some (.lst ([0, 1, 2, 3].map fun k => IV.lst ((cs.filter fun c => (atS c k).isSome).map fun c => secV (atS c k)))))) [6, 7]) 6 (some (IV.lst ((cs.filter fun c => (atS c k).isSome).map fun c => secV (atS c k))))) [7]) (h := h) (fun c => secV (atS c k)) (fun _ => true) (fun c => IV.bl (decide (atS c k = some []))) (cs.filter fun c => (atS c k).isSome) fun c _ => ⟨_, rfl, rfl, fun _ => bin_ok rfl (tup_ok rfl (by simp)) eq_secV_nil⟩
        rw [filter_yes] at q
        exact q⟩
      have fl : ([0, 1, 2, 3].flatMap fun k => (cs.filter fun c => (atS c k).isSome).map fun c => IV.bl (decide (atS c k = some []))) = ([0, 1, 2, 3].flatMap fun k => (cs.filter fun c => (atS c k).isSome).map fun c => (k, c)).map fun q => IV.bl (decide (atS q.2 q.1 = some [])) := by
        simp [List.map_flatMap, Function.comp_def]
      rw [fl] at bl
      have be : (([0, 1, 2, 3].flatMap fun k => (cs.filter fun c => (atS c k).isSome).map fun c => (k, c)).all fun q => decide (atS q.2 q.1 = some [])) = blankB cs := by
        unfold blankB
        rw [Bool.eq_iff_iff]
        simp only [List.all_eq_true, List.mem_flatMap, List.mem_map, List.mem_filter, decide_eq_true_eq]
        constructor
        · intro H k hk c hc'
          cases ha : atS c k with
          | none => rfl
          | some s =>
            have := H (k, c) ⟨k, hk, c, ⟨hc', by rw [ha]; rfl⟩, rfl⟩
            simp only [ha] at this
            injection this
        · rintro H q ⟨k, hk, c, ⟨hc', hs⟩, rfl⟩
          have := H k hk c hc'
          cases ha : atS c k with
          | none => rw [ha] at hs; cases hs
          | some s => rw [ha] at this; exact congrArg some this
      have tb := tru_bl (blt_ok (r := allI) (fs := consA (lc2I (anyIt (varE 3)) (gNm 6) yesT (lstIt (varE 6)) (gNm 7) yesT (binE eqDI (varE 7) (tupE nilA)) [6, 7] [7]) nilA) (arg_ok bl rfl) all_ok)
      rw [be] at tb
      rw [if_neg (by simp)]
      cases hB : blankB cs with
      | true =>
        rw [hB] at tb
        rw [if_pos rfl]
        refine seq_rt (if_ok tb ?_)
        rw [if_pos rfl]
        exact seq_rt (ret_ok (tup_ok (xs := [sBlank]) (arg_ok rfl rfl) (by simp)))
      | false =>
        rw [hB] at tb
        rw [if_neg (by simp)]
        exact (seq_nx (if_ok (f := seqS (retS (tupE (consA (cstE sBlank) nilA))) nextS) tb rfl)).trans (seq_rt (ret_ok (tup_ok (xs := [sTorn]) (arg_ok rfl rfl) (by simp))))
theorem ev_is_whole {i : Int} {h : IH} : c_is_whole [.int i] h = .ok (.bl true) h := def_rt (seq_rt (ret_ok (and_e (a := true) (b := true) (by rfl) fun _ => by rfl)))
theorem chn_ok {g g' : G2} {fa fb fc : IE → M IV} {σ : IE} {h : IH} {va vb vc : IV} {a b : Bool} (e1 : fa σ h = .ok va h) (e2 : fb σ h = .ok vb h) (e3 : g va vb h = .ok (.bl a) h) (e4 : fc σ h = .ok vc h) (e5 : g' vb vc h = .ok (.bl b) h) : chnE g g' fa fb fc σ h = .ok (.bl (a && b)) h := by
  unfold chnE
  rw [e1]
  show (fb σ h).bind _ = _
  rw [e2]
  show (g va vb h).bind _ = _
  rw [e3]
  cases a with
  | true =>
    show (fc σ h).bind _ = _
    rw [e4]; exact e5
  | false => rfl
theorem ev_within {v lo hi : Int} {h : IH} : c_is_within_bounds [.int v, .int lo, .int hi] h = .ok (.bl (decide (lo ≤ v) && decide (v ≤ hi))) h :=
  def_rt (seq_rt (ret_ok (and_e (a := true) (b := decide (lo ≤ v) && decide (v ≤ hi)) (call_ok (arg_ok rfl rfl) rfl ev_is_whole) fun _ => chn_ok (va := .int lo) (vb := .int v) (vc := .int hi) rfl rfl rfl rfl rfl)))
theorem ev_is_cell {i : Int} {h : IH} (o : okC i) : c_is_cell [.int i] h = .ok (.bl true) h := by
  refine def_rt (seq_rt (ret_ok (call_ok (arg_ok rfl (arg_ok rfl (arg_ok rfl rfl))) rfl (ev_within.trans ?_))))
  rw [decide_eq_true o.1, decide_eq_true o.2]; rfl
theorem ev_is_filled {ns : List Int} {h : IH} (o : okL ns) : c_is_filled [tupOf ns] h = .ok (.bl true) h := by
  have ln : cmpT (ordE .Gt) (bltE lenI (consA (varE 0) nilA)) (cstE (.int 16)) [some (tupOf ns), none] h = .ok false h := cmp_ok (v := .int (ns.map IV.int).length) (u := .int 16) rfl rfl (by
    have := o.1
    show Out.ok (IV.bl (decide (_ < _))) h = _
    congr 2
    simp; omega)
  have al := lc_all (σ := [some (tupOf ns), none]) (h := h) (fi := anyIt (varE 0)) (g := gNm 1) (f := callE none 1 c_is_cell (consA (varE 1) nilA)) (ws := [1]) IV.int (fun _ => IV.bl true) ns rfl (by have := o.1; omega) fun i hi => ⟨_, rfl, call_ok (arg_ok rfl rfl) rfl (ev_is_cell (o.2 i hi))⟩
  have ax := all_ok (f := fun _ : Int => true) (ys := ns) (h := h)
  rw [show (ns.all fun _ => true) = true by simp] at ax
  refine def_rt ((seq_nx (if_ok (f := seqS (retS (cstE (.bl false))) nextS) (g := nextS) (or_ok (a := false) (b := false) (not_ok (a := true) (tru_bl rfl)) (fun _ => ln) fun z => by cases z) (o := .nx [some (tupOf ns), none] h) rfl)).trans (seq_rt (ret_ok (blt_ok (arg_ok al rfl) ax))))
theorem ev_is_sector {s : Sec} {h : IH} (o : okS s) : c_is_sector [secV s] h = .ok (.bl true) h := by
  cases s with
  | none => rfl
  | some ns =>
    refine def_rt (seq_rt (ret_ok ?_))
    show callE none 1 c_is_filled (consA (varE 0) nilA) [some (secV (some ns))] h = _
    exact call_ok (arg_ok rfl rfl) rfl (ev_is_filled o)
theorem ev_is_block {c : List Sec} {h : IH} (o : okB c) : c_is_block [blkV c] h = .ok (.bl true) h := by
  have al := lc_all (σ := [some (blkV c), none]) (h := h) (fi := anyIt (varE 0)) (g := gNm 1) (f := callE none 1 c_is_sector (consA (varE 1) nilA)) (ws := [1]) secV (fun _ => IV.bl true) c rfl (by have := o.len; omega) fun s hs => ⟨_, rfl, call_ok (arg_ok rfl rfl) rfl (ev_is_sector (o.sec s hs))⟩
  have ax := all_ok (f := fun _ : Sec => true) (ys := c) (h := h)
  rw [show (c.all fun _ => true) = true by simp] at ax
  refine def_rt (seq_rt (ret_ok (and_e (a := true) (b := true) rfl fun _ => and_e (a := true) (b := true) (bin_ok (v := .int (c.map secV).length) (u := .int 4) rfl rfl (eq_int.trans ?_)) fun _ => blt_ok (arg_ok al rfl) ax)))
  rw [List.length_map, o.len]; rfl
theorem ev_require_copies {cs : List (List Sec)} {h : IH} (o : okCs cs) : c_require_copies [copV cs] h = .ok .non h := by
  have h1 := o.one
  have h4 := o.len
  have l : chnT (ordE .LtE) (ordE .LtE) (cstE (.int 1)) (bltE lenI (consA (varE 0) nilA)) (cstE (.int 4)) [some (copV cs), none] h = .ok true h := by
    have q := chn_ok (g := ordE .LtE) (g' := ordE .LtE) (fa := cstE (.int 1)) (fb := bltE lenI (consA (varE 0) nilA)) (fc := cstE (.int 4)) (σ := [some (copV cs), none]) (h := h) (va := .int 1) (vb := .int (cs.map blkV).length) (vc := .int 4) rfl rfl rfl rfl rfl
    rw [List.length_map] at q
    show (chnE _ _ _ _ _ _ _).bind boolM = _
    rw [q, decide_eq_true (by omega), decide_eq_true (by omega)]
    rfl
  have two := if_ok (f := noS) (g := nextS) (σ := [some (copV cs), none]) (h := h) (or_ok (a := false) (b := false) (ta := notT (truT (bltE isaIB (consA (varE 0) (consA (cstE (.ty "tuple")) nilA))))) (not_ok (a := true) (tru_bl rfl)) (fun _ => not_ok l) fun z => by cases z) (o := .nx [some (copV cs), none] h) rfl
  have al := tru_bl (blt_ok (r := allI) (h1 := h) (σ := [some (copV cs), none]) (fs := consA (lcI (anyIt (varE 0)) (gNm 1) yesT (callE none 1 c_is_block (consA (varE 1) nilA)) [1]) nilA) (arg_ok (lc_all blkV (fun _ => IV.bl true) cs rfl (by omega) fun c hc => ⟨_, rfl, call_ok (arg_ok rfl rfl) rfl (ev_is_block (o.blk c hc))⟩) rfl) all_ok)
  rw [show (cs.all fun _ => true) = true by simp] at al
  have three := if_ok (f := noS) (g := nextS) (not_ok al) (o := .nx [some (copV cs), none] h) rfl
  unfold c_require_copies defM
  have e : b_require_copies (startI 2 [copV cs]) h = .nx [some (copV cs), none] h := (seq_nx two).trans ((seq_nx three).trans rfl)
  rw [e]
theorem def_nx {k : Nat} {f : SM} {vs : List IV} {σ : IE} {h h' : IH} (e : f (startI k vs) h = .nx σ h') : defM k f vs h = .ok .non h' := by unfold defM; rw [e]
theorem ev_require_within {v lo hi : Int} {h : IH} (h1 : lo ≤ v) (h2 : v ≤ hi) : c_require_within [.int v, .int lo, .int hi] h = .ok .non h := by
  have w := ev_within (v := v) (lo := lo) (hi := hi) (h := h)
  rw [decide_eq_true h1, decide_eq_true h2] at w
  exact def_nx ((seq_nx (if_ok (f := noS) (g := nextS) (not_ok (tru_bl (call_ok (fs := consA (varE 0) (consA (varE 1) (consA (varE 2) nilA))) (σ := [some (.int v), some (.int lo), some (.int hi)]) (arg_ok rfl (arg_ok rfl (arg_ok rfl rfl))) rfl w))) (o := .nx [some (.int v), some (.int lo), some (.int hi)] h) rfl)).trans rfl)
theorem ev_require_place {p : Int} {h : IH} (h1 : 0 ≤ p) (h2 : p ≤ 239) : c_require_block_place [.int p] h = .ok .non h :=
  def_nx ((seq_nx (expr_ok (call_ok (vs := [.int p, .int 0, .int 239]) (arg_ok rfl (arg_ok rfl (arg_ok rfl rfl))) rfl (ev_require_within h1 h2)))).trans rfl)
theorem ev_made_block {p e : Int} {cells : List Int} {h : IH} (h1 : 0 ≤ p) (h2 : p ≤ 239) (h3 : 1 ≤ e) (h4 : e ≤ 999999999999999999) (h5 : cells.length ≤ 52) (h6 : ∀ i ∈ cells, okC i) : c_made_block [.int p, .int e, tupOf cells] h = .ok (.tup ((madeS p e cells).map tupOf)) h := by
  have al := tru_bl (blt_ok (r := allI) (h1 := h) (σ := [some (.int p), some (.int e), some (tupOf cells), none]) (fs := consA (lcI (anyIt (varE 2)) (gNm 3) yesT (callE none 1 c_is_cell (consA (varE 3) nilA)) [3]) nilA) (arg_ok (lc_all IV.int (fun _ => IV.bl true) cells rfl (by omega) fun c hc => ⟨_, rfl, call_ok (arg_ok rfl rfl) rfl (ev_is_cell (h6 c hc))⟩) rfl) all_ok)
  rw [show (cells.all fun _ => true) = true by simp] at al
  have ln : cmpT (ordE .Gt) (bltE lenI (consA (varE 2) nilA)) (cstE (.int 52)) [some (.int p), some (.int e), some (tupOf cells), none] h = .ok false h := cmp_ok (v := .int (cells.map IV.int).length) (u := .int 52) rfl rfl (by
    show Out.ok (IV.bl (decide (_ < _))) h = _
    congr 2
    simp; omega)
  refine def_rt ((seq_nx (expr_ok (call_ok (arg_ok rfl rfl) rfl (ev_require_place h1 h2)))).trans ((seq_nx (expr_ok (call_ok (arg_ok rfl (arg_ok rfl (arg_ok rfl rfl))) rfl (ev_require_within h3 h4)))).trans ?_))
  refine (seq_nx (if_ok (f := noS) (g := nextS) (or_ok (a := false) (b := false) (not_ok (a := true) (tru_bl rfl)) (fun _ => ln) fun z => by cases z) (o := .nx [some (.int p), some (.int e), some (tupOf cells), none] h) rfl)).trans ?_
  refine (seq_nx (if_ok (f := noS) (g := nextS) (not_ok al) (o := .nx [some (.int p), some (.int e), some (tupOf cells), none] h) rfl)).trans ?_
  exact seq_rt (ret_ok (call_ok (arg_ok rfl (arg_ok rfl (arg_ok rfl rfl))) rfl made_in))
theorem ev_told_copies {p : Int} {cs : List (List Sec)} {h : IH} (ph : pureH h = true) (h1 : 0 ≤ p) (h2 : p ≤ 239) (o : okCs cs) : c_told_copies [.int p, copV cs] h = .ok (toldP p cs) h :=
  def_rt ((seq_nx (expr_ok (call_ok (arg_ok rfl rfl) rfl (ev_require_place h1 h2)))).trans ((seq_nx (expr_ok (call_ok (arg_ok rfl rfl) rfl (ev_require_copies o)))).trans (seq_rt (ret_ok (call_ok (arg_ok rfl (arg_ok rfl rfl)) rfl (ev_told ph o.blk (by have := o.len; omega)))))))
theorem ev_told_block {p : Int} {c : List Sec} {h : IH} (ph : pureH h = true) (h1 : 0 ≤ p) (h2 : p ≤ 239) (o : okB c) : c_told_block [.int p, blkV c] h = .ok (toldP p [c]) h := by
  have oc : okCs [c] := ⟨by simp, by simp, fun c' hc' => by rw [List.mem_singleton.mp hc']; exact o⟩
  exact def_rt ((seq_nx (expr_ok (call_ok (arg_ok rfl rfl) rfl (ev_require_place h1 h2)))).trans ((seq_nx (expr_ok (call_ok (vs := [copV [c]]) (arg_ok (tup_ok (arg_ok rfl rfl) (by simp)) rfl) rfl (ev_require_copies oc)))).trans (seq_rt (ret_ok (call_ok (vs := [.int p, copV [c]]) (arg_ok rfl (arg_ok (tup_ok (arg_ok rfl rfl) (by simp)) rfl)) rfl (ev_told ph oc.blk (by simp)))))))
theorem ev_whole_editions {p : Int} {cs : List (List Sec)} {h : IH} (ph : pureH h = true) (h1 : 0 ≤ p) (h2 : p ≤ 239) (o : okCs cs) : c_whole_editions [.int p, copV cs] h = .ok (tupOf (wholeP p cs)) h :=
  def_rt ((seq_nx (expr_ok (call_ok (arg_ok rfl rfl) rfl (ev_require_place h1 h2)))).trans ((seq_nx (expr_ok (call_ok (arg_ok rfl rfl) rfl (ev_require_copies o)))).trans (seq_rt (ret_ok (tuple_of (call_ok (arg_ok rfl (arg_ok rfl rfl)) rfl (ev_whole ph o.blk (by have := o.len; omega))))))))
end K08
namespace K08
open PySem PySem.Spec PyProof.Rows EV
open L2 hiding eqV keyOf
def mk (p e : Int) (cells : List Int) : List Sec := (madeS p e cells).map some
theorem blk_mk {p e : Int} {cells : List Int} : blkV (mk p e cells) = .tup ((madeS p e cells).map tupOf) := by
  unfold blkV mk
  rw [List.map_map]; rfl
abbrev secL (b : List Sec) (k : Nat) : List Int := (atS b k).getD []
def cellsOf (b : List Sec) : List Int := (secL b 0).drop 3 ++ ((secL b 1).drop 3 ++ ((secL b 2).drop 3 ++ (secL b 3).drop 3))
def fitAll (p : Int) (b : List Sec) : Bool := fitsS p 0 (atS b 0) && (fitsS p 1 (atS b 1) && (fitsS p 2 (atS b 2) && fitsS p 3 (atS b 3)))
def isMadeP (p : Int) (b : List Sec) : Option (Int × List Int) := if fitAll p b = true then (if mk p (ed (atS b 0)) (cellsOf b) = b then some (ed (atS b 0), cellsOf b) else none) else none
def pairV : Option (Int × List Int) → IV
  | none => .non
  | some (e, cells) => .tup [.int e, tupOf cells]
theorem ret_ok' {fa : IE → M IV} {σ : IE} {v : IV} {h h' : IH} (e : fa σ h = .ok v h') : seqS (retS fa) nextS σ h = .rt v h' := seq_rt (ret_ok e)
theorem made_test {p : Int} {k : Nat} {s : Sec} {h : IH} {σ : IE} (e0 : varE 0 σ h = .ok (.int p) h) (e4 : varE 4 σ h = .ok (.int k) h) (e5 : varE 5 σ h = .ok (secV s) h) :
    orT (cmpT isI (varE 5) (cstE .non)) (orT (cmpT (ordE .Lt) (bltE lenI (consA (varE 5) nilA)) (cstE (.int 3))) (orT (cmpT neDI (binE subD (varE 5) (cstE (.int 0))) (varE 0)) (orT (cmpT (ordE .Lt) (binE subD (varE 5) (cstE (.int 1))) (cstE (.int 1))) (cmpT neDI (binE subD (varE 5) (cstE (.int 2))) (varE 4))))) σ h = .ok (!fitsS p k s) h := by
  have ln : ∀ ns : List Int, s = some ns → cmpT (ordE .Lt) (bltE lenI (consA (varE 5) nilA)) (cstE (.int 3)) σ h = .ok (decide (((ns.map IV.int).length : Int) < 3)) h := fun ns es => cmp_ok (v := .int (ns.map IV.int).length) (u := .int 3) (blt_ok (arg_ok e5 rfl) (by rw [es]; rfl)) rfl rfl
  rcases s with _ | (_ | ⟨a, _ | ⟨b, _ | ⟨c, r⟩⟩⟩)
  · exact or_ok (a := true) (b := true) (cmp_ok e5 rfl rfl) (fun z => by cases z) (fun _ => rfl)
  · exact or_ok (a := false) (b := true) (cmp_ok e5 rfl rfl) (fun _ => or_ok (a := true) (b := true) (ln _ rfl) (fun z => by cases z) (fun _ => rfl)) (fun z => by cases z)
  · exact or_ok (a := false) (b := true) (cmp_ok e5 rfl rfl) (fun _ => or_ok (a := true) (b := true) (ln _ rfl) (fun z => by cases z) (fun _ => rfl)) (fun z => by cases z)
  · exact or_ok (a := false) (b := true) (cmp_ok e5 rfl rfl) (fun _ => or_ok (a := true) (b := true) (ln _ rfl) (fun z => by cases z) (fun _ => rfl)) (fun z => by cases z)
  · have l2 := ln _ rfl
    rw [decide_eq_false (by simp; omega)] at l2
    refine Eq.trans (or_ok (a := false) (cmp_ok e5 rfl rfl) (fun _ => or_ok (a := false) l2 (fun _ => or_ok (a := !decide (a = p)) (cmp_ok (v := .int a) (u := .int p) (bin_ok e5 rfl (sub_int (k := 0) rfl)) e0 ne_int) (fun _ => or_ok (a := decide (b < 1)) (cmp_ok (v := .int b) (u := .int 1) (bin_ok e5 rfl (sub_int (k := 1) rfl)) rfl rfl) (fun _ => (cmp_ok (v := .int c) (u := .int k) (bin_ok e5 rfl (sub_int (k := 2) rfl)) e4 ne_int)) (fun _ => rfl)) (fun _ => rfl)) fun z => by cases z) fun z => by cases z) ?_
    congr 1
    unfold fitsS
    have z : decide (b < 1) = !decide (0 < b) := by
      by_cases z : 0 < b
      · simp [z]; omega
      · simp [z]; omega
    rw [z, Bool.false_or, Bool.false_or, Bool.not_and, Bool.not_and]
abbrev bodyMade : SM := (seqS (ifS (orT (cmpT isI (varE 5) (cstE .non)) (orT (cmpT (ordE .Lt) (bltE lenI (consA (varE 5) nilA)) (cstE (.int 3))) (orT (cmpT neDI (binE subD (varE 5) (cstE (.int 0))) (varE 0)) (orT (cmpT (ordE .Lt) (binE subD (varE 5) (cstE (.int 1))) (cstE (.int 1))) (cmpT neDI (binE subD (varE 5) (cstE (.int 2))) (varE 4)))))) (seqS (retS (cstE .non))
    nextS) nextS)
    (seqS (asgS (binE addI (varE 2) (sliE (varE 5) (someO (cstE (.int 3))) noneO)) (gNm 2))
    nextS))
abbrev tgMade : TM := gTp 2 (gsCons (gNm 4) (gsCons (gNm 5) gsNil))
theorem add_ints {a b : List Int} {h : IH} (hl : a.length + b.length ≤ 1000) : addI (tupOf a) (tupOf b) h = .ok (tupOf (a ++ b)) h := by
  show (if (a.map IV.int).length + (b.map IV.int).length ≤ sizeLine then Out.ok (IV.tup (a.map IV.int ++ b.map IV.int)) h else .no) = _
  rw [if_pos (by rw [sizeLine_eq]; simp; omega), ← List.map_append]; rfl
theorem made_no {p : Int} {k : Nat} {s : Sec} {rest : List IV} {bv : IV} {acc : List Int} {x y : Option IV} {h : IH} (f : fitsS p k s = false) : forL tgMade bodyMade (enV (k, s) :: rest) [some (.int p), some bv, some (tupOf acc), none, x, y] h = .rt .non h := by
  have t := made_test (p := p) (k := k) (s := s) (h := h) (σ := [some (.int p), some bv, some (tupOf acc), none, some (.int k), some (secV s)]) rfl rfl rfl
  rw [f] at t
  have q : bodyMade [some (.int p), some bv, some (tupOf acc), none, some (.int k), some (secV s)] h = .rt .non h := seq_rt (if_ok t rfl)
  unfold forL
  show (match bodyMade [some (.int p), some bv, some (tupOf acc), none, some (.int k), some (secV s)] h with
      | .nx σ h => forL _ _ rest σ h
      | .ct σ h => forL _ _ rest σ h
      | .bk σ h => .nx σ h
      | o => o) = _
  rw [q]
theorem made_yes {p : Int} {k : Nat} {s : Sec} {rest : List IV} {bv : IV} {acc : List Int} {x y : Option IV} {h : IH} (f : fitsS p k s = true) (hl : acc.length ≤ 500) (hs : (s.getD []).length ≤ 100) : forL tgMade bodyMade (enV (k, s) :: rest) [some (.int p), some bv, some (tupOf acc), none, x, y] h = forL tgMade bodyMade rest [some (.int p), some bv, some (tupOf (acc ++ (s.getD []).drop 3)), none, some (.int k), some (secV s)] h := by
  have t := made_test (p := p) (k := k) (s := s) (h := h) (σ := [some (.int p), some bv, some (tupOf acc), none, some (.int k), some (secV s)]) rfl rfl rfl
  rw [f] at t
  obtain ⟨b, r, rfl, _, _⟩ := fits_shape f
  have sl : sliE (varE 5) (someO (cstE (.int 3))) noneO [some (.int p), some bv, some (tupOf acc), none, some (.int k), some (secV (some (p :: b :: (k : Int) :: r)))] h = .ok (tupOf r) h := by
    have q := cut_from (p :: b :: (k : Int) :: r) 3
    show Out.ok (IV.tup (cutL ((p :: b :: (k : Int) :: r).map IV.int) (some (3 : Int)) none)) h = _
    rw [show (3 : Int) = ((3 : Nat) : Int) from rfl, q]; rfl
  have q : bodyMade [some (.int p), some bv, some (tupOf acc), none, some (.int k), some (secV (some (p :: b :: (k : Int) :: r)))] h = .nx [some (.int p), some bv, some (tupOf (acc ++ r)), none, some (.int k), some (secV (some (p :: b :: (k : Int) :: r)))] h :=
    (seq_nx (if_ok (f := seqS (retS (cstE .non)) nextS) (g := nextS) t rfl)).trans ((seq_nx (asg_nm (bin_ok rfl sl (add_ints (by simp at hs; omega))))).trans rfl)
  rw [forL]
  show (match bodyMade [some (.int p), some bv, some (tupOf acc), none, some (.int k), some (secV (some (p :: b :: (k : Int) :: r)))] h with
      | .nx σ h => forL _ _ rest σ h
      | .ct σ h => forL _ _ rest σ h
      | .bk σ h => .nx σ h
      | o => o) = _
  rw [q]
  rfl
theorem four {α : Type} {b : List α} (h : b.length = 4) : ∃ a0 a1 a2 a3, b = [a0, a1, a2, a3] := by
  match b, h with
  | [a0, a1, a2, a3], _ => exact ⟨a0, a1, a2, a3, rfl⟩
theorem sec_len {b : List Sec} (o : ∀ s ∈ b, okS s) (k : Nat) : (secL b k).length ≤ 16 := by
  unfold secL
  cases e : atS b k with
  | none => simp
  | some ns => exact (o _ (List.mem_of_getElem? (atS_mem e))).1
theorem eq_blk {a b : List Sec} {h : IH} : eqDI (blkV a) (blkV b) h = .ok (.bl (decide (a = b))) h := by
  rw [eqDI_cl cl_blkV cl_blkV, eqV_dec blkV_inj]
theorem ne_blk {a b : List Sec} {h : IH} : neDI (blkV a) (blkV b) h = .ok (.bl (!decide (a = b))) h := by
  rw [neDI_cl cl_blkV cl_blkV, eqV_dec blkV_inj]
theorem ev_is_made {p : Int} {b : List Sec} {h : IH} (hb : b.length = 4) (o : ∀ s ∈ b, okS s) : c__law_is_made [.int p, blkV b] h = .ok (pairV (isMadeP p b)) h := by
  have l0 := sec_len o 0
  have l1 := sec_len o 1
  have l2 := sec_len o 2
  have l3 := sec_len o 3
  obtain ⟨s0, s1, s2, s3, rfl⟩ := four hb
  have a0 : atS [s0, s1, s2, s3] 0 = s0 := rfl
  have a1 : atS [s0, s1, s2, s3] 1 = s1 := rfl
  have a2 : atS [s0, s1, s2, s3] 2 = s2 := rfl
  have a3 : atS [s0, s1, s2, s3] 3 = s3 := rfl
  unfold secL at l0 l1 l2 l3
  rw [a0] at l0
  rw [a1] at l1
  rw [a2] at l2
  rw [a3] at l3
  have start : b__law_is_made (startI 6 [.int p, blkV [s0, s1, s2, s3]]) h = seqS (forS (enuIt (consA (varE 1) nilA)) tgMade bodyMade) (seqS (asgS (binE subD (binE subD (varE 1) (cstE (.int 0))) (cstE (.int 1))) (gNm 3))
    (seqS (retS (iteE (cmpT eqDI (callE none 3 c__law_made (consA (varE 0) (consA (varE 3) (consA (varE 2) nilA)))) (varE 1)) (tupE (consA (varE 3) (consA (varE 2) nilA))) (cstE .non)))
    nextS)) [some (.int p), some (blkV [s0, s1, s2, s3]), some (tupOf []), none, none, none] h := seq_nx (asg_nm (tup_ok rfl (by simp)))
  have walk : ∀ σ : IE, σ = [some (.int p), some (blkV [s0, s1, s2, s3]), some (tupOf []), none, none, none] → forS (enuIt (consA (varE 1) nilA)) tgMade bodyMade σ h = forL tgMade bodyMade [enV (0, s0), enV (1, s1), enV (2, s2), enV (3, s3)] σ h := fun σ e => by subst e; rfl
  have w := walk _ rfl
  unfold isMadeP
  cases f0 : fitsS p 0 s0 with
  | false =>
    rw [made_no (k := 0) f0] at w
    rw [if_neg (by unfold fitAll; rw [a0, f0]; simp)]
    exact def_rt (start.trans (seq_rt w))
  | true =>
  rw [made_yes (k := 0) f0 (by simp) (by omega)] at w
  cases f1 : fitsS p 1 s1 with
  | false =>
    rw [made_no (k := 1) f1] at w
    rw [if_neg (by unfold fitAll; rw [a1, f1]; simp)]
    exact def_rt (start.trans (seq_rt w))
  | true =>
  rw [made_yes (k := 1) f1 (by simp; omega) (by omega)] at w
  cases f2 : fitsS p 2 s2 with
  | false =>
    rw [made_no (k := 2) f2] at w
    rw [if_neg (by unfold fitAll; rw [a2, f2]; simp)]
    exact def_rt (start.trans (seq_rt w))
  | true =>
  rw [made_yes (k := 2) f2 (by simp; omega) (by omega)] at w
  cases f3 : fitsS p 3 s3 with
  | false =>
    rw [made_no (k := 3) f3] at w
    rw [if_neg (by unfold fitAll; rw [a3, f3]; simp)]
    exact def_rt (start.trans (seq_rt w))
  | true =>
  rw [made_yes (k := 3) f3 (by simp; omega) (by omega)] at w
  rw [if_pos (by unfold fitAll; rw [a0, a1, a2, a3, f0, f1, f2, f3]; rfl)]
  have ce : [] ++ (s0.getD []).drop 3 ++ (s1.getD []).drop 3 ++ (s2.getD []).drop 3 ++ (s3.getD []).drop 3 = cellsOf [s0, s1, s2, s3] := by
    unfold cellsOf secL
    rw [a0, a1, a2, a3]
    simp
  rw [ce] at w
  refine def_rt (start.trans ((seq_nx w).trans ((seq_nx (asg_nm (bin_ok (bin_ok (u := .int 0) rfl rfl (sub_blk (k := 0) (c := [s0, s1, s2, s3]) (by simp))) rfl (sub_ed (p := p) (k := 0) f0)))).trans (seq_rt (ret_ok (ite_ok (h1 := h) (b := decide (mk p (ed s0) (cellsOf [s0, s1, s2, s3]) = [s0, s1, s2, s3])) (cmp_ok (call_ok (arg_ok rfl (arg_ok rfl (arg_ok rfl rfl))) rfl law_made) rfl ?_) ?_))))))
  · rw [← blk_mk]; exact eq_blk
  · rw [a0]
    by_cases z : mk p (ed s0) (cellsOf [s0, s1, s2, s3]) = [s0, s1, s2, s3]
    · rw [if_pos z, if_pos (decide_eq_true z)]
      exact tup_ok rfl (by simp)
    · rw [if_neg z, if_neg (by simpa using z)]; rfl
def toldL (p : Int) (b : List Sec) : IV := match isMadeP p b with
  | some (e, cells) => .tup [sWhole, .int e, tupOf cells]
  | none => if (b.any fun s => s.isNone) = true then .tup [sLost] else if b = [some [], some [], some [], some []] then .tup [sBlank] else .tup [sTorn]
theorem blank4 {fs : IE → M (List IV)} {σ : IE} {h : IH} {v : IV} (e : fs σ h = .ok [v] h) : binE mulDI (tupE fs) (cstE (.int 4)) σ h = .ok (.tup [v, v, v, v]) h := by
  refine bin_ok (tup_ok e (by simp)) rfl ?_
  rfl
theorem ev_law_told {p : Int} {b : List Sec} {h : IH} (hb : b.length = 4) (o : ∀ s ∈ b, okS s) : c__law_told [.int p, blkV b] h = .ok (toldL p b) h := by
  have m := call_ok (np := 2) (c := c__law_is_made) (fs := consA (varE 0) (consA (varE 1) nilA)) (σ := [some (.int p), some (blkV b), none]) (arg_ok rfl (arg_ok rfl rfl)) rfl (ev_is_made (p := p) (b := b) (h := h) hb o)
  unfold toldL
  cases hm : isMadeP p b with
  | some ec =>
    obtain ⟨e, cells⟩ := ec
    rw [hm] at m
    refine def_rt ((seq_nx (asg_nm m)).trans (seq_rt (if_ok (b := true) (cmp_ok rfl rfl rfl) ?_)))
    rw [if_pos rfl]
    exact ret_ok' (bin_ok (tup_ok (arg_ok rfl rfl) (by simp)) rfl rfl)
  | none =>
    rw [hm] at m
    refine def_rt ((seq_nx (asg_nm m)).trans ((seq_nx (if_ok (f := seqS (retS (binE addI (tupE (consA (cstE (.str "whole")) nilA)) (varE 2))) nextS) (g := nextS) (b := false) (o := .nx [some (.int p), some (blkV b), some .non] h) (cmp_ok rfl rfl rfl) rfl)).trans ?_))
    have lo : cmpT inDct (cstE .non) (varE 1) [some (.int p), some (blkV b), some .non] h = .ok (b.any fun s => s.isNone) h := cmp_ok rfl rfl (by
      unfold blkV
      rw [inDct_tup rfl (by rw [List.all_map, List.all_eq_true]; intro s _; exact cl_secV)]
      congr 2
      rw [List.any_map]
      congr 1
      funext s
      cases s <;> rfl)
    show _ = SOut.rt (if (b.any fun s => s.isNone) = true then .tup [sLost] else if b = [some [], some [], some [], some []] then .tup [sBlank] else .tup [sTorn]) h
    cases hl : (b.any fun s => s.isNone) with
    | true =>
      rw [hl] at lo
      rw [if_pos rfl]
      refine seq_rt (if_ok lo ?_)
      rw [if_pos rfl]
      exact ret_ok' (tup_ok (xs := [sLost]) (arg_ok rfl rfl) (by simp))
    | false =>
      rw [hl] at lo
      rw [if_neg (by simp)]
      refine (seq_nx (if_ok (f := seqS (retS (tupE (consA (cstE sLost) nilA))) nextS) (g := nextS) lo rfl)).trans (ret_ok' (ite_ok (h1 := h) (b := decide (b = [some [], some [], some [], some []])) (cmp_ok rfl (blank4 (arg_ok (tup_ok rfl (by simp)) rfl)) ?_) ?_))
      · exact eq_blk (b := [some [], some [], some [], some []])
      · by_cases z : b = [some [], some [], some [], some []]
        · rw [if_pos z, if_pos (decide_eq_true z)]
          exact tup_ok (xs := [sBlank]) (arg_ok rfl rfl) (by simp)
        · rw [if_neg z, if_neg (by simpa using z)]
          exact tup_ok (xs := [sTorn]) (arg_ok rfl rfl) (by simp)
end K08
namespace K08
open PySem PySem.Spec PyProof.Rows EV
open L2 hiding eqV keyOf
theorem atS_four {a0 a1 a2 a3 : Sec} : atS [a0, a1, a2, a3] 0 = a0 ∧ atS [a0, a1, a2, a3] 1 = a1 ∧ atS [a0, a1, a2, a3] 2 = a2 ∧ atS [a0, a1, a2, a3] 3 = a3 := ⟨rfl, rfl, rfl, rfl⟩
theorem vals_one {p e : Int} {b : List Sec} {k : Nat} : valsP p [b] e k = if valT p e k (atS b k) = true then [secL b k] else [] := by
  unfold valsP
  by_cases z : valT p e k (atS b k) = true
  · simp [z, insD]
  · simp [z]
theorem val_of_fits {p e : Int} {k : Nat} {s : Sec} : valT p e k s = true ↔ fitsS p k s = true ∧ ed s = e := by
  unfold valT
  rw [Bool.and_eq_true, decide_eq_true_eq]
theorem mk_ed {p e : Int} {cells : List Int} {b : List Sec} (m : mk p e cells = b) (k : Nat) (hk : k < 4) : ed (atS b k) = e := by
  subst m
  match k, hk with
  | 0, _ | 1, _ | 2, _ | 3, _ => rfl
theorem mk_iff {p e : Int} {cells : List Int} {b : List Sec} (hb : b.length = 4) (f : fitAll p b = true) : mk p e cells = b ↔ madeS p e cells = [secL b 0, secL b 1, secL b 2, secL b 3] := by
  obtain ⟨s0, s1, s2, s3, rfl⟩ := four hb
  unfold fitAll at f
  simp only [Bool.and_eq_true] at f
  obtain ⟨f0, f1, f2, f3⟩ := f
  obtain ⟨b0, r0, e0, _, _⟩ := fits_shape f0
  obtain ⟨b1, r1, e1, _, _⟩ := fits_shape f1
  obtain ⟨b2, r2, e2, _, _⟩ := fits_shape f2
  obtain ⟨b3, r3, e3, _, _⟩ := fits_shape f3
  obtain ⟨q0, q1, q2, q3⟩ := atS_four (a0 := s0) (a1 := s1) (a2 := s2) (a3 := s3)
  unfold secL
  rw [e0, e1, e2, e3]
  rw [q0] at e0
  rw [q1] at e1
  rw [q2] at e2
  rw [q3] at e3
  unfold mk
  subst e0 e1 e2 e3
  constructor
  · intro h
    exact map_inj (f := some) (fun x y z => by injection z) h
  · intro h
    rw [h]; rfl
theorem join_one {p e : Int} {b : List Sec} {cells : List Int} (hb : b.length = 4) : joinP p [b] e = some cells ↔ isMadeP p b = some (e, cells) := by
  unfold isMadeP
  constructor
  · intro j
    obtain ⟨a0, a1, a2, a3, h0, h1, h2, h3, hm, hc⟩ := joinP_vals j
    rw [vals_one] at h0 h1 h2 h3
    split at h0
    case isFalse => cases h0
    split at h1
    case isFalse => cases h1
    split at h2
    case isFalse => cases h2
    split at h3
    case isFalse => cases h3
    rename_i v0 v1 v2 v3
    injection h0 with h0 _
    injection h1 with h1 _
    injection h2 with h2 _
    injection h3 with h3 _
    obtain ⟨f0, d0⟩ := val_of_fits.mp v0
    obtain ⟨f1, d1⟩ := val_of_fits.mp v1
    obtain ⟨f2, d2⟩ := val_of_fits.mp v2
    obtain ⟨f3, d3⟩ := val_of_fits.mp v3
    have f : fitAll p b = true := by unfold fitAll; rw [show fitsS p 0 (atS b 0) = true from f0, show fitsS p 1 (atS b 1) = true from f1, show fitsS p 2 (atS b 2) = true from f2, show fitsS p 3 (atS b 3) = true from f3]; rfl
    have c : cellsOf b = cells := by unfold cellsOf; rw [h0, h1, h2, h3, hc]
    rw [if_pos f, d0, c, if_pos ((mk_iff hb f).mpr (by rw [h0, h1, h2, h3, hm]))]
  · intro m
    split at m
    case isFalse => cases m
    rename_i f
    split at m
    case isFalse => cases m
    rename_i z
    injection m with m
    injection m with m1 m2
    subst m2
    have d0 := mk_ed z 0 (by omega)
    have d1 := mk_ed z 1 (by omega)
    have d2 := mk_ed z 2 (by omega)
    have d3 := mk_ed z 3 (by omega)
    rw [m1] at d1 d2 d3 z
    have g := f
    unfold fitAll at g
    simp only [Bool.and_eq_true] at g
    obtain ⟨f0, f1, f2, f3⟩ := g
    unfold joinP
    rw [vals_one, vals_one, vals_one, vals_one, if_pos (val_of_fits.mpr ⟨f0, m1⟩), if_pos (val_of_fits.mpr ⟨f1, d1⟩), if_pos (val_of_fits.mpr ⟨f2, d2⟩), if_pos (val_of_fits.mpr ⟨f3, d3⟩)]
    have z2 := (mk_iff hb f).mp z
    unfold cellsOf at z2 ⊢
    simp only [z2, if_true]
theorem told_one {p : Int} {b : List Sec} (hb : b.length = 4) : toldP p [b] = toldL p b := by
  unfold toldP toldW toldL
  cases hm : isMadeP p b with
  | some ec =>
    obtain ⟨e, cells⟩ := ec
    have j := (join_one (p := p) (e := e) (cells := cells) hb).mpr hm
    have w : wholeP p [b] = [e] := strict_ext wholeP_strict (by simp) fun e' => by
      rw [wholeP_mem, List.mem_singleton]
      constructor
      · intro h
        obtain ⟨c', j'⟩ := Option.isSome_iff_exists.mp h
        have := (join_one hb).mp j'
        rw [hm] at this
        injection this with this
        injection this with this _
        exact this.symm
      · rintro rfl
        rw [j]; rfl
    rw [w]
    simp only [List.getLast?_singleton, j]
    rfl
  | none =>
    have w : wholeP p [b] = [] := by
      rw [List.eq_nil_iff_forall_not_mem]
      intro e he
      obtain ⟨c', j'⟩ := Option.isSome_iff_exists.mp (wholeP_mem.mp he)
      have := (join_one hb).mp j'
      rw [hm] at this; cases this
    rw [w]
    obtain ⟨s0, s1, s2, s3, rfl⟩ := four hb
    have l : lostB [[s0, s1, s2, s3]] = [s0, s1, s2, s3].any fun s => s.isNone := by
      unfold lostB
      simp [atS]
    have bl : ([s0, s1, s2, s3].any fun s => s.isNone) = false → (blankB [[s0, s1, s2, s3]] = true ↔ [s0, s1, s2, s3] = [some [], some [], some [], some []]) := by
      intro h
      unfold blankB
      simp only [List.any_cons, List.any_nil, Bool.or_false, Bool.or_eq_false_iff] at h
      obtain ⟨n0, n1, n2, n3⟩ := h
      cases s0 <;> cases s1 <;> cases s2 <;> cases s3 <;> simp_all [atS]
    show (if _ then _ else _) = _
    simp only [l]
    cases hl : ([s0, s1, s2, s3].any fun s => s.isNone) with
    | true => rfl
    | false =>
      have := bl hl
      by_cases z : [s0, s1, s2, s3] = [some [], some [], some [], some []]
      · have y := this.mpr z
        rw [if_pos z]
        simp [y]
      · rw [if_neg z]
        have : ¬ blankB [[s0, s1, s2, s3]] = true := fun y => z (this.mp y)
        simp [this]
end K08
namespace K08
open PySem PySem.Spec PyProof.Rows EV
open L2 hiding eqV keyOf
def readS (cs : List (List Sec)) : List (List Int) := cs.flatMap fun c => c.filterMap id
theorem filt_some : ∀ (c : List Sec), (c.filter fun s => s.isSome).map secV = (c.filterMap id).map tupOf
  | [] => rfl
  | none :: c => by simpa using filt_some c
  | some s :: c => by
    have := filt_some c
    simp only [List.filter_cons, Option.isSome_some, if_true, List.map_cons, List.filterMap_cons, id]
    rw [this]; rfl
theorem ev_readable {cs : List (List Sec)} {h : IH} (hc : ∀ c ∈ cs, c.length = 4) (hl : cs.length ≤ 1000) : c__law_readable [copV cs] h = .ok (.ref h.length) (h ++ [.lst ((readS cs).map tupOf)]) := by
  have loop := for_inv (g := gNm 2) (f := seqS (exprS (mthE "list" extM (varE 1) (consA (lcI (anyIt (varE 2)) (gNm 3) (cmpT isnI (varE 3) (cstE .non)) (varE 3) [3]) nilA))) nextS) blkV
    (fun rest σ h' => ∃ D x, σ = [some (copV cs), some (.ref h.length), x, none] ∧ h' = h ++ [.lst (D.map tupOf)] ∧ D.length + 4 * rest.length ≤ 4000 ∧ (∀ c ∈ rest, c.length = 4) ∧ D ++ readS rest = readS cs)
    (fun c rest σ h' => by
      rintro ⟨D, x, e1, e2, e3, e4, e5⟩
      subst e1 e2
      have hc4 := e4 c List.mem_cons_self
      have fl := List.length_filterMap_le (id : Sec → Sec) c
      simp only [List.length_cons] at e3
      refine ⟨_, _, [some (copV cs), some (.ref h.length), some (blkV c), none], h ++ [.lst ((D ++ c.filterMap id).map tupOf)], rfl, ?_, D ++ c.filterMap id, _, rfl, rfl, by simp only [List.length_append]; omega, fun c' h' => e4 c' (List.mem_cons_of_mem _ h'), by rw [← e5]; simp [readS]⟩
      have ty : tyName (h ++ [IO.lst (D.map tupOf)]) (.ref h.length) = some "list" := by
        simp only [tyName, get_last]
      have inner := lc_typ (fi := anyIt (varE 2)) (g := gNm 3) (t := cmpT isnI (varE 3) (cstE .non)) (f := varE 3) (ws := [3]) (σ := [some (copV cs), some (.ref h.length), some (blkV c), none]) (h := h ++ [IO.lst (D.map tupOf)]) secV (fun s => s.isSome) secV c rfl (by omega) fun s _ => ⟨_, rfl, cmp_ok rfl rfl (by cases s <;> rfl), fun _ => rfl⟩
      rw [filt_some] at inner
      refine (seq_nx (expr_ok (v := .non) (h1 := h ++ [.lst ((D ++ c.filterMap id).map tupOf)]) ?_)).trans rfl
      refine mth_ok (o := .ref h.length) rfl ty (arg_ok inner rfl) ?_
      unfold extM
      simp only [get_last]
      rw [if_pos (by simp only [List.length_map]; omega), set_last, List.map_append])
    cs [some (copV cs), some (.ref h.length), none, none] (h ++ [.lst []]) ⟨[], none, rfl, rfl, by simp; omega, hc, rfl⟩
  obtain ⟨σ', h', e, D, x, e1, e2, e3, _, e5⟩ := loop
  subst e1 e2
  have e6 : D = readS cs := by simpa [readS] using e5
  subst e6
  exact def_rt ((seq_nx (asg_nm (ref_ok rfl (by simp)))).trans ((seq_nx (for_nx rfl e)).trans (seq_rt (ret_ok rfl))))
theorem pure_lists (L : List (List Int)) : pureVs (L.map tupOf) = true := pure_all fun x hx => by
  obtain ⟨s, _, rfl⟩ := List.mem_map.mp hx
  exact pure_tupOf s
theorem ev_readable_z {cs : List (List Sec)} {h : IH} (ph : pureH h = true) (hc : ∀ c ∈ cs, c.length = 4) (hl : cs.length ≤ 1000) : EV.settle true h.length (c__law_readable [copV cs] h) = .ok (.lst ((readS cs).map tupOf)) h := by
  rw [ev_readable hc hl]
  exact settle_ref (o := .lst ((readS cs).map tupOf)) ph get_last (Nat.le_refl _) (pure_lists _)
theorem readS_mem {cs : List (List Sec)} {s : List Int} : s ∈ readS cs ↔ ∃ c ∈ cs, some s ∈ c := by
  unfold readS
  simp
theorem readS_len {cs : List (List Sec)} (hc : ∀ c ∈ cs, c.length = 4) : (readS cs).length ≤ 4 * cs.length := by
  induction cs with
  | nil => simp [readS]
  | cons c cs ih =>
    have := ih fun c' h' => hc c' (List.mem_cons_of_mem _ h')
    have h4 := hc c List.mem_cons_self
    have fl := List.length_filterMap_le (id : Sec → Sec) c
    unfold readS at this ⊢
    simp only [List.flatMap_cons, List.length_append, List.length_cons]
    omega
theorem mapO_inO : ∀ (ns : List Int), mapO inO (ns.map IV.int) = some ns
  | [] => rfl
  | n :: ns => by simp [mapO, inO, mapO_inO ns]
theorem mapO_tup : ∀ (L : List (List Int)), mapO tupInts (L.map tupOf) = some L
  | [] => rfl
  | n :: ns => by
    have : tupInts (tupOf n) = some n := by unfold tupInts tupOf; exact mapO_inO n
    simp [mapO, this, mapO_tup ns]
theorem sset_int {ns : List Int} {h : IH} (hl : ns.length < 64) : ssetI [.lst (ns.map IV.int)] h = .ok (.lst ((sortNI ns).map .int)) h := by
  unfold ssetI
  simp only [lsR, lsO]
  rw [if_pos (by rw [List.length_map]; exact hl), mapO_inO]
theorem alike_ints : ∀ (a b : List Int), PySem.W.alikeAll (a.map PyData.int) (b.map PyData.int) = true
  | [], _ => by simp [PySem.W.alikeAll]
  | _ :: _, [] => by simp [PySem.W.alikeAll]
  | x :: a, y :: b => by simp [PySem.W.alikeAll, PySem.W.alike, alike_ints a b]
theorem dat_tupOf {h : IH} {n : Nat} (s : List Int) : dat h (n + 1) (tupOf s) = some (.tuple (s.map .int)) := by
  unfold tupOf
  simp only [dat, mapO_dat_int]
theorem mapO_dat_tup {h : IH} {n : Nat} : ∀ (L : List (List Int)), mapO (dat h (n + 1)) (L.map tupOf) = some (L.map fun s => PyData.tuple (s.map .int))
  | [] => rfl
  | s :: L => by simp [mapO, dat_tupOf, mapO_dat_tup L]
theorem sortOk_tup {h : IH} {L : List (List Int)} (ne : ∀ s ∈ L, s ≠ []) : sortOk h (L.map tupOf) = true := by
  unfold sortOk
  rw [mapO_dat_tup]
  simp only [Bool.and_eq_true, Bool.or_eq_true]
  refine ⟨?_, .inl ?_⟩
  · rw [List.all_eq_true]; intro d hd
    rw [List.all_eq_true]; intro e he
    obtain ⟨s, _, rfl⟩ := List.mem_map.mp hd
    obtain ⟨t, _, rfl⟩ := List.mem_map.mp he
    simp only [PySem.W.alike]
    exact alike_ints s t
  · rw [List.all_eq_true]; intro d hd
    obtain ⟨s, hs, rfl⟩ := List.mem_map.mp hd
    cases s with
    | nil => exact absurd rfl (ne _ hs)
    | cons => rfl
theorem sset_tup {L : List (List Int)} {h : IH} (hl : L.length < 64) (ne : ∀ s ∈ L, s ≠ []) : ssetI [.lst (L.map tupOf)] h = .ok (.lst ((sortTI L).map tupOf)) h := by
  cases L with
  | nil =>
    have q := sset_int (ns := []) (h := h) (by simp)
    simpa [sortNI, sortTI, ddL] using q
  | cons s L =>
    have n : mapO inO ((s :: L).map tupOf) = none := rfl
    unfold ssetI
    simp only [lsR, lsO]
    rw [if_pos (by rw [List.length_map]; exact hl), n, mapO_tup]
    simp only []
    rw [if_pos (sortOk_tup ne)]
theorem sortTI_mem {L : List (List Int)} {s : List Int} : s ∈ sortTI L ↔ s ∈ L := by
  unfold sortTI
  rw [List.mem_mergeSort, ddL_mem]
theorem sortTI_nodup {L : List (List Int)} : (sortTI L).Nodup := (List.mergeSort_perm _ _).nodup_iff.mpr (ddL_nodup L)
theorem single_iff {L M : List (List Int)} (nl : L.Nodup) (nm : M.Nodup) (e : ∀ s, s ∈ L ↔ s ∈ M) {a : List Int} : L = [a] → M = [a] := by
  intro h
  subst h
  cases M with
  | nil => exact absurd ((e a).mp (by simp)) (by simp)
  | cons x M =>
    have : x = a := by simpa using (e x).mpr List.mem_cons_self
    subst this
    cases M with
    | nil => rfl
    | cons y M =>
      have : y = x := by simpa using (e y).mpr (by simp)
      subst this
      simp at nm
def lawT (p e : Int) (k : Nat) (s : Sec) : Bool := decide ((s.getD []).take 3 = [p, e, (k : Int)])
def partL (p : Int) (cs : List (List Sec)) (e : Int) (k : Nat) : List (List Int) := sortTI ((cs.filter fun c => lawT p e k (atS c k)).map fun c => secL c k)
theorem lawT_shape {p e : Int} {k : Nat} {s : Sec} (h : lawT p e k s = true) : ∃ r, s = some (p :: e :: (k : Int) :: r) := by
  have h := of_decide_eq_true h
  rcases s with _ | (_ | ⟨a, _ | ⟨b, _ | ⟨c, r⟩⟩⟩)
  · simp at h
  · simp at h
  · simp at h
  · simp at h
  · simp at h
    obtain ⟨rfl, rfl, rfl⟩ := h
    exact ⟨r, rfl⟩
theorem lawT_val {p e : Int} {k : Nat} {s : Sec} (he : 0 < e) : lawT p e k s = valT p e k s := by
  rw [Bool.eq_iff_iff]
  constructor
  · intro h
    obtain ⟨r, rfl⟩ := lawT_shape h
    rw [val_of_fits]
    exact ⟨by simp [fitsS, he], rfl⟩
  · intro h
    obtain ⟨f, d⟩ := val_of_fits.mp h
    obtain ⟨b, r, rfl, _, eb⟩ := fits_shape f
    have : b = e := by rw [← eb, d]
    subst this
    simp [lawT]
theorem partL_mem {p e : Int} {cs : List (List Sec)} {k : Nat} {s : List Int} (he : 0 < e) : s ∈ partL p cs e k ↔ s ∈ valsP p cs e k := by
  unfold partL
  rw [sortTI_mem, valsP_mem]
  simp only [List.mem_map, List.mem_filter]
  constructor
  · rintro ⟨c, ⟨h1, h2⟩, h3⟩
    obtain ⟨r, es⟩ := lawT_shape h2
    rw [lawT_val he] at h2
    unfold secL at h3
    rw [es] at h3 h2
    simp at h3
    subst h3
    exact ⟨c, h1, es, h2⟩
  · rintro ⟨c, h1, h2, h3⟩
    exact ⟨c, ⟨h1, by rw [h2, lawT_val he]; exact h3⟩, by unfold secL; rw [h2]; rfl⟩
theorem partL_shape {p e : Int} {cs : List (List Sec)} {k : Nat} {s : List Int} (h : s ∈ partL p cs e k) : ∃ r, s = p :: e :: (k : Int) :: r ∧ ∃ c ∈ cs, some s ∈ c := by
  unfold partL at h
  rw [sortTI_mem] at h
  obtain ⟨c, hc, rfl⟩ := List.mem_map.mp h
  obtain ⟨h1, h2⟩ := List.mem_filter.mp hc
  obtain ⟨r, es⟩ := lawT_shape h2
  refine ⟨r, by unfold secL; rw [es]; rfl, c, h1, ?_⟩
  unfold secL
  rw [es]
  exact List.mem_of_getElem? (atS_mem es)
/-- the law's own joining -/
theorem law_join {p e : Int} {cs : List (List Sec)} {a0 a1 a2 a3 : List Int} (h0 : partL p cs e 0 = [a0]) (h1 : partL p cs e 1 = [a1]) (h2 : partL p cs e 2 = [a2]) (h3 : partL p cs e 3 = [a3]) : isMadeP p [some a0, some a1, some a2, some a3] = (joinP p cs e).map fun cells => (e, cells) := by
  obtain ⟨r0, s0, _⟩ := partL_shape (h0 ▸ List.mem_singleton_self a0)
  obtain ⟨r1, s1, _⟩ := partL_shape (h1 ▸ List.mem_singleton_self a1)
  obtain ⟨r2, s2, _⟩ := partL_shape (h2 ▸ List.mem_singleton_self a2)
  obtain ⟨r3, s3, _⟩ := partL_shape (h3 ▸ List.mem_singleton_self a3)
  by_cases he : 0 < e
  · have v0 := single_iff sortTI_nodup valsP_nodup (fun s => partL_mem (p := p) (cs := cs) (k := 0) he) h0
    have v1 := single_iff sortTI_nodup valsP_nodup (fun s => partL_mem (p := p) (cs := cs) (k := 1) he) h1
    have v2 := single_iff sortTI_nodup valsP_nodup (fun s => partL_mem (p := p) (cs := cs) (k := 2) he) h2
    have v3 := single_iff sortTI_nodup valsP_nodup (fun s => partL_mem (p := p) (cs := cs) (k := 3) he) h3
    have f : fitAll p [some a0, some a1, some a2, some a3] = true := by
      subst s0 s1 s2 s3
      simp [fitAll, atS, fitsS, he]
    have c : cellsOf [some a0, some a1, some a2, some a3] = a0.drop 3 ++ (a1.drop 3 ++ (a2.drop 3 ++ a3.drop 3)) := rfl
    have d : ed (atS [some a0, some a1, some a2, some a3] 0) = e := by subst s0; rfl
    unfold isMadeP joinP
    rw [if_pos f, d, c, v0, v1, v2, v3]
    by_cases z : madeS p e (a0.drop 3 ++ (a1.drop 3 ++ (a2.drop 3 ++ a3.drop 3))) = [a0, a1, a2, a3]
    · rw [if_pos ((mk_iff rfl f).mpr z)]
      simp only [if_pos z]
      rfl
    · rw [if_neg (fun y => z ((mk_iff rfl f).mp y))]
      simp only [if_neg z]
      rfl
  · have j : joinP p cs e = none := by
      cases hj : joinP p cs e with
      | none => rfl
      | some c => exact absurd (join_pos (by rw [hj]; rfl)).1 he
    have f : fitAll p [some a0, some a1, some a2, some a3] = false := by
      subst s0
      simp [fitAll, atS, fitsS, he]
    unfold isMadeP
    rw [j, if_neg (by rw [f]; simp)]
    rfl
theorem law_no {p e : Int} {cs : List (List Sec)} {k : Nat} (hk : k < 4) (h : (partL p cs e k).length ≠ 1) : joinP p cs e = none := by
  cases hj : joinP p cs e with
  | none => rfl
  | some c =>
    have he := (join_pos (by rw [hj]; rfl)).1
    obtain ⟨a0, a1, a2, a3, v0, v1, v2, v3, _⟩ := joinP_vals hj
    exfalso
    apply h
    have g : ∀ a, valsP p cs e k = [a] → (partL p cs e k).length = 1 := fun a v => by
      rw [single_iff (M := partL p cs e k) valsP_nodup sortTI_nodup (fun s => (partL_mem (p := p) (cs := cs) (k := k) he).symm) v]; rfl
    match k, hk with
    | 0, _ => exact g _ v0
    | 1, _ => exact g _ v1
    | 2, _ => exact g _ v2
    | 3, _ => exact g _ v3
end K08
namespace K08
open PySem PySem.Spec PyProof.Rows EV
open L2 hiding eqV keyOf
theorem compC_typ {α : Type} {chk : IH → Bool} {g : TM} {t : IE → M Bool} {f : IE → M IV} {σ0 : IE} {h : IH} (hc : chk h = true) (V : α → IV) (T : α → Bool) (F : α → IV) : ∀ (ys : List α), (∀ y ∈ ys, ∃ σ1, g (V y) σ0 h = some (σ1, h) ∧ t σ1 h = .ok (T y) h ∧ (T y = true → f σ1 h = .ok (F y) h)) → compMC chk g t f σ0 (ys.map V) h = .ok ((ys.filter T).map F) h
  | [], _ => by
    show (if chk h = true then _ else _) = _
    rw [if_pos hc]; rfl
  | y :: ys, H => by
    obtain ⟨σ1, e1, e2, e3⟩ := H y List.mem_cons_self
    have ih := compC_typ hc V T F ys fun z hz => H z (List.mem_cons_of_mem _ hz)
    rw [List.map_cons]
    unfold compMC
    rw [if_pos hc]
    simp only [e1, e2]
    cases hT : T y with
    | true =>
      simp only [e3 hT, ih]
      simp [Out.bind, hT]
    | false =>
      simp only [ih]
      simp [hT]
theorem lcC_typ {α : Type} {fi : IE → M (List IV × (IH → Bool))} {g : TM} {t : IE → M Bool} {f : IE → M IV} {ws : List Nat} {chk : IH → Bool} {σ : IE} {h : IH} (V : α → IV) (T : α → Bool) (F : α → IV) (ys : List α) (e : fi σ h = .ok (ys.map V, chk) h) (hc : chk h = true) (hl : ys.length ≤ 1000)
    (H : ∀ y ∈ ys, ∃ σ1, g (V y) (wipeI σ ws) h = some (σ1, h) ∧ t σ1 h = .ok (T y) h ∧ (T y = true → f σ1 h = .ok (F y) h)) : lcCI fi g t f ws σ h = .ok (.lst ((ys.filter T).map F)) h := by
  unfold lcCI
  rw [e]
  show (if (ys.map V).length ≤ 16777216 then (compMC chk g t f (wipeI σ ws) (ys.map V) h).bind _ else .no) = _
  rw [if_pos (by rw [List.length_map]; omega), compC_typ hc V T F ys H]
  rfl
theorem chk_ok {n : Nat} {xs : List IV} {h : IH} (e : h[n]? = some (.lst xs)) : chkL n xs h = true := by
  unfold chkL
  rw [e]
  exact eqVs_rf xs
theorem refIt_ok {fa : IE → M IV} {σ : IE} {h : IH} {n : Nat} {xs : List IV} (e : fa σ h = .ok (.ref n) h) (e2 : h[n]? = some (.lst xs)) : refIt fa σ h = .ok (xs, chkL n xs) h := by
  unfold refIt
  rw [e]
  show (match h[n]? with
    | some (.lst xs) => Out.ok (xs, chkL n xs) h
    | _ => .no) = _
  rw [e2]
abbrev bodyPart : SM := (seqS (asgS (tupE (consA (varE 0) (consA (varE 2) (consA (varE 6) nilA)))) (gNm 7))
    (seqS (exprS (mthE "list" appM (varE 5) (consA (bltE ssetI (consA (lcI (anyIt (varE 1)) (gNm 11) (cmpT eqDI (sliE (orE (binE subD (varE 11) (varE 6)) (tupE nilA)) noneO (someO (cstE (.int 3)))) (varE 7)) (binE subD (varE 11) (varE 6)) [11]) nilA)) nilA)))
    nextS))
theorem or_sec {fa : IE → M IV} {σ : IE} {h : IH} {s : Sec} (e : fa σ h = .ok (secV s) h) : orE fa (tupE nilA) σ h = .ok (tupOf (s.getD [])) h := by
  unfold orE
  rw [e]
  rcases s with _ | (_ | ⟨a, r⟩)
  · show tupE nilA σ h = _
    exact tup_ok (xs := []) rfl (by simp)
  · show tupE nilA σ h = _
    exact tup_ok (xs := []) rfl (by simp)
  · rfl
theorem sli_to {fa : IE → M IV} {σ : IE} {h : IH} {ns : List Int} {k : Nat} (e : fa σ h = .ok (tupOf ns) h) : sliE fa noneO (someO (cstE (.int (k : Int)))) σ h = .ok (tupOf (ns.take k)) h := by
  unfold sliE
  rw [e]
  show Out.ok (IV.tup (cutL (ns.map IV.int) none (some (k : Int)))) h = _
  rw [cut_to]; rfl
theorem part_step {p e : Int} {cs : List (List Sec)} {k : Nat} {rest : List IV} {m : Nat} {x2 x3 x4 x6 x7 x8 : Option IV} {H : IH} {xs : List IV} (hk : k < 4) (hc : ∀ c ∈ cs, c.length = 4) (hl : cs.length ≤ 60) (hx : xs.length ≤ 100) (hm : m = H.length) (h2 : x2 = some (.int e)) :
    forL (gNm 6) bodyPart (.int (k : Int) :: rest) [some (.int p), some (copV cs), x2, x3, x4, some (.ref m), x6, x7, x8, none, none, none] (H ++ [.lst xs]) = forL (gNm 6) bodyPart rest [some (.int p), some (copV cs), x2, x3, x4, some (.ref m), some (.int k), some (tupOf [p, e, k]), x8, none, none, none] (H ++ [.lst (xs ++ [.lst ((partL p cs e k).map tupOf)])]) := by
  subst hm h2
  have comp := lc_typ (fi := anyIt (varE 1)) (g := gNm 11) (t := cmpT eqDI (sliE (orE (binE subD (varE 11) (varE 6)) (tupE nilA)) noneO (someO (cstE (.int 3)))) (varE 7)) (f := binE subD (varE 11) (varE 6)) (ws := [11]) (σ := [some (.int p), some (copV cs), some (.int e), x3, x4, some (.ref H.length), some (.int k), some (tupOf [p, e, k]), x8, none, none, none]) (h := H ++ [.lst xs]) blkV (fun c => lawT p e k (atS c k)) (fun c => secV (atS c k)) cs rfl (by omega) fun c hc' => by
    have sb : subD (blkV c) (.int k) (H ++ [.lst xs]) = .ok (secV (atS c k)) (H ++ [.lst xs]) := sub_blk (by rw [hc c hc']; exact hk)
    exact ⟨_, rfl, cmp_ok (sli_to (k := 3) (or_sec (bin_ok rfl rfl sb))) rfl eq_tupOf, fun _ => bin_ok rfl rfl sb⟩
  have cv : ((cs.filter fun c => lawT p e k (atS c k)).map fun c => secV (atS c k)) = ((cs.filter fun c => lawT p e k (atS c k)).map fun c => secL c k).map tupOf := by
    rw [List.map_map]
    refine List.map_congr_left fun c hc' => ?_
    obtain ⟨r, es⟩ := lawT_shape (List.mem_filter.mp hc').2
    show _ = tupOf (secL c k)
    unfold secL
    rw [es]; rfl
  rw [cv] at comp
  have ss := sset_tup (L := (cs.filter fun c => lawT p e k (atS c k)).map fun c => secL c k) (h := H ++ [.lst xs]) (by
    have := List.length_filter_le (fun c => lawT p e k (atS c k)) cs
    rw [List.length_map]; omega) (fun s hs => by
    obtain ⟨c, hc', rfl⟩ := List.mem_map.mp hs
    obtain ⟨r, es⟩ := lawT_shape (List.mem_filter.mp hc').2
    unfold secL
    rw [es]; simp)
  have ty : tyName (H ++ [IO.lst xs]) (.ref H.length) = some "list" := by
    simp only [tyName, get_last]
  have body : bodyPart [some (.int p), some (copV cs), some (.int e), x3, x4, some (.ref H.length), some (.int k), x7, x8, none, none, none] (H ++ [.lst xs]) = .nx [some (.int p), some (copV cs), some (.int e), x3, x4, some (.ref H.length), some (.int k), some (tupOf [p, e, k]), x8, none, none, none] (H ++ [.lst (xs ++ [.lst ((partL p cs e k).map tupOf)])]) := by
    refine (seq_nx (asg_nm (v := tupOf [p, e, k]) (tup_ok rfl (by simp)))).trans ((seq_nx (expr_ok (v := .non) (h1 := H ++ [.lst (xs ++ [.lst ((partL p cs e k).map tupOf)])]) ?_)).trans rfl)
    refine mth_ok (o := .ref H.length) rfl ty (arg_ok (blt_ok (arg_ok comp rfl) ss) rfl) ?_
    unfold appM
    simp only [get_last]
    rw [if_pos (by omega), set_last]
    rfl
  rw [forL]
  show (match bodyPart [some (.int p), some (copV cs), some (.int e), x3, x4, some (.ref H.length), some (.int k), x7, x8, none, none, none] (H ++ [.lst xs]) with
      | .nx σ h => forL _ _ rest σ h
      | .ct σ h => forL _ _ rest σ h
      | .bk σ h => .nx σ h
      | o => o) = _
  rw [body]
abbrev bodyEd : SM := (seqS (asgS (refE (capA nilA)) (gNm 5))
    (seqS (forS (rngIt (consA (cstE (.int 4)) nilA)) (gNm 6) bodyPart)
    (seqS (ifS (cmpT eqDI (lcCI (refIt (varE 5)) (gNm 10) (cmpT neDI (bltE lenI (consA (varE 10) nilA)) (cstE (.int 1))) (cstE (.int 1)) [10]) (lstE (capA nilA))) (seqS (asgS (callE none 2 c__law_is_made (consA (varE 0) (consA (bltE tupleI (consA (lcCI (refIt (varE 5)) (gNm 10) yesT (binE subD (varE 10) (cstE (.int 0))) [10]) nilA)) nilA))) (gNm 8))
    (seqS (ifS (cmpT isnI (varE 8) (cstE .non)) (seqS (asgS (binE subD (varE 8) (cstE (.int 1))) (gSb putM (varE 4) (varE 2)))
    nextS) nextS)
    nextS)) nextS)
    nextS)))
/-- one round: what it puts into the dict -/
def cellV (p : Int) (cs : List (List Sec)) (e : Int) : IV := optV (joinP p cs e)
def dctD (p : Int) (cs : List (List Sec)) (D : List Int) : EV.IO := .dct (D.map .int) (D.map (cellV p cs))
theorem dput_new {p e : Int} {cs : List (List Sec)} {D : List Int} (hD : e ∉ D) : dput (.int e) (cellV p cs e) (D.map .int) (D.map (cellV p cs)) = ((D ++ [e]).map .int, (D ++ [e]).map (cellV p cs)) := by
  have k : EV.keyOf (.int e) = some (.num e) := rfl
  unfold dput
  simp only [k, dhas_typ keyV_int e k]
  rw [decide_eq_false hD]
  simp
theorem round {p e : Int} {cs : List (List Sec)} {D : List Int} {junk h : IH} {x5 x6 x7 x8 x3 : Option IV} (hc : ∀ c ∈ cs, okB c) (hl : cs.length ≤ 60) (hD : e ∉ D) (hDl : D.length ≤ 1000) : ∃ j2 y5 y6 y7 y8, bodyEd [some (.int p), some (copV cs), some (.int e), x3, some (.ref h.length), x5, x6, x7, x8, none, none, none] (h ++ dctD p cs D :: junk) = .nx [some (.int p), some (copV cs), some (.int e), x3, some (.ref h.length), y5, y6, y7, y8, none, none, none] (h ++ dctD p cs (if (joinP p cs e).isSome = true then D ++ [e] else D) :: j2) := by
  have hc4 : ∀ c ∈ cs, c.length = 4 := fun c hc' => (hc c hc').len
  generalize hH : h ++ dctD p cs D :: junk = H
  have e1 : refE (capA nilA) [some (.int p), some (copV cs), some (.int e), x3, some (.ref h.length), x5, x6, x7, x8, none, none, none] H = .ok (.ref H.length) (H ++ [.lst []]) := ref_ok rfl (by simp)
  have e2 : forS (rngIt (consA (cstE (.int 4)) nilA)) (gNm 6) bodyPart [some (.int p), some (copV cs), some (.int e), x3, some (.ref h.length), some (.ref H.length), x6, x7, x8, none, none, none] (H ++ [.lst []]) = .nx [some (.int p), some (copV cs), some (.int e), x3, some (.ref h.length), some (.ref H.length), some (.int (3 : Nat)), some (tupOf [p, e, (3 : Nat)]), x8, none, none, none] (H ++ [.lst ([0, 1, 2, 3].map fun k => IV.lst ((partL p cs e k).map tupOf))]) := by
    refine for_nx (xs := [.int (0 : Nat), .int (1 : Nat), .int (2 : Nat), .int (3 : Nat)]) rfl ?_
    rw [part_step (by omega) hc4 hl (by simp) rfl rfl, part_step (by omega) hc4 hl (by simp) rfl rfl, part_step (by omega) hc4 hl (by simp) rfl rfl, part_step (by omega) hc4 hl (by simp) rfl rfl]
    rfl
  generalize hH2 : H ++ [EV.IO.lst ([0, 1, 2, 3].map fun k => IV.lst ((partL p cs e k).map tupOf))] = H2 at e2
  have at2 : H2[H.length]? = some (.lst ([0, 1, 2, 3].map fun k => IV.lst ((partL p cs e k).map tupOf))) := by rw [← hH2]; exact get_last
  generalize hs2 : ([some (.int p), some (copV cs), some (.int e), x3, some (.ref h.length), some (.ref H.length), some (.int (3 : Nat)), some (tupOf [p, e, (3 : Nat)]), x8, none, none, none] : IE) = σ2 at e2
  have v5 : varE 5 σ2 H2 = .ok (.ref H.length) H2 := by rw [← hs2]; rfl
  have e3 := lcC_typ (fi := refIt (varE 5)) (g := gNm 10) (t := cmpT neDI (bltE lenI (consA (varE 10) nilA)) (cstE (.int 1))) (f := cstE (.int 1)) (ws := [10]) (σ := σ2) (h := H2) (fun k => IV.lst ((partL p cs e k).map tupOf)) (fun k => !decide ((partL p cs e k).length = 1)) (fun _ => IV.int 1) [0, 1, 2, 3] (refIt_ok v5 at2) (chk_ok at2) (by decide) fun k _ => ⟨_, rfl, by
    rw [← hs2]
    refine cmp_ok (v := .int ((partL p cs e k).map tupOf).length) (u := .int 1) rfl rfl (ne_int.trans ?_)
    congr 4
    simp
    omega, fun _ => rfl⟩
  have e4 : cmpT eqDI (lcCI (refIt (varE 5)) (gNm 10) (cmpT neDI (bltE lenI (consA (varE 10) nilA)) (cstE (.int 1))) (cstE (.int 1)) [10]) (lstE (capA nilA)) σ2 H2 = .ok ([0, 1, 2, 3].all fun k => decide ((partL p cs e k).length = 1)) H2 := by
    refine cmp_ok e3 (lst_ok rfl (by simp)) ?_
    rw [eqDI_cl (by
      show List.all _ (cl 11) = true
      rw [List.all_eq_true]; intro x hx
      obtain ⟨_, _, rfl⟩ := List.mem_map.mp hx
      rfl) rfl]
    congr 2
    show eqVs _ [] = _
    rw [eqVs_nil, Bool.eq_iff_iff]
    simp
  have hH3 : H2 = h ++ dctD p cs D :: (junk ++ [.lst ([0, 1, 2, 3].map fun k => IV.lst ((partL p cs e k).map tupOf))]) := by
    rw [← hH2, ← hH]; simp
  have go : ∀ σ' H', ifS (cmpT eqDI (lcCI (refIt (varE 5)) (gNm 10) (cmpT neDI (bltE lenI (consA (varE 10) nilA)) (cstE (.int 1))) (cstE (.int 1)) [10]) (lstE (capA nilA))) (seqS (asgS (callE none 2 c__law_is_made (consA (varE 0) (consA (bltE tupleI (consA (lcCI (refIt (varE 5)) (gNm 10) yesT (binE subD (varE 10) (cstE (.int 0))) [10]) nilA)) nilA))) (gNm 8))
    (seqS (ifS (cmpT isnI (varE 8) (cstE .non)) (seqS (asgS (binE subD (varE 8) (cstE (.int 1))) (gSb putM (varE 4) (varE 2)))
    nextS) nextS)
    nextS)) nextS σ2 H2 = .nx σ' H' → bodyEd [some (.int p), some (copV cs), some (.int e), x3, some (.ref h.length), x5, x6, x7, x8, none, none, none] H = .nx σ' H' := fun σ' H' q => (seq_nx (asg_nm (i := 5) e1)).trans ((seq_nx e2).trans ((seq_nx q).trans rfl))
  cases hb : ([0, 1, 2, 3].all fun k => decide ((partL p cs e k).length = 1)) with
  | false =>
    have jn : joinP p cs e = none := by
      obtain ⟨k, hk, hn⟩ := List.all_eq_false.mp hb
      refine law_no (k := k) (by simp at hk; omega) ?_
      simpa using hn
    rw [hb] at e4
    refine ⟨junk ++ [.lst ([0, 1, 2, 3].map fun k => IV.lst ((partL p cs e k).map tupOf))], some (.ref H.length), some (.int (3 : Nat)), some (tupOf [p, e, (3 : Nat)]), x8, (go _ _ (if_ok e4 rfl)).trans ?_⟩
    rw [jn, if_neg (by simp), ← hH3, ← hs2]
  | true =>
    rw [hb] at e4
    simp only [List.all_cons, List.all_nil, Bool.and_true, Bool.and_eq_true, decide_eq_true_eq] at hb
    obtain ⟨b0, b1, b2, b3⟩ := hb
    obtain ⟨a0, p0⟩ := List.length_eq_one_iff.mp b0
    obtain ⟨a1, p1⟩ := List.length_eq_one_iff.mp b1
    obtain ⟨a2, p2⟩ := List.length_eq_one_iff.mp b2
    obtain ⟨a3, p3⟩ := List.length_eq_one_iff.mp b3
    have lj := law_join p0 p1 p2 p3
    have ok4 : ∀ s ∈ [some a0, some a1, some a2, some a3], okS s := by
      have g : ∀ {k : Nat} {a : List Int}, partL p cs e k = [a] → okS (some a) := fun {k a} ha => by
        obtain ⟨_, _, c, h1, h2⟩ := partL_shape (ha ▸ List.mem_singleton_self a)
        exact (hc c h1).sec _ h2
      intro s hs
      simp only [List.mem_cons, List.not_mem_nil, or_false] at hs
      rcases hs with rfl | rfl | rfl | rfl
      · exact g p0
      · exact g p1
      · exact g p2
      · exact g p3
    simp only [List.map_cons, List.map_nil, p0, p1, p2, p3] at at2
    have e5 := lcC_typ (fi := refIt (varE 5)) (g := gNm 10) (t := yesT) (f := binE subD (varE 10) (cstE (.int 0))) (ws := [10]) (σ := σ2) (h := H2) (fun s : List Int => IV.lst [tupOf s]) (fun _ => true) (fun s => tupOf s) [a0, a1, a2, a3] (refIt_ok v5 at2) (chk_ok at2) (by simp) fun s _ => ⟨_, rfl, rfl, fun _ => by
      rw [← hs2]; rfl⟩
    rw [filter_yes] at e5
    have v0 : varE 0 σ2 H2 = .ok (.int p) H2 := by rw [← hs2]; rfl
    have e6 : callE none 2 c__law_is_made (consA (varE 0) (consA (bltE tupleI (consA (lcCI (refIt (varE 5)) (gNm 10) yesT (binE subD (varE 10) (cstE (.int 0))) [10]) nilA)) nilA)) σ2 H2 = .ok (pairV ((joinP p cs e).map fun cells => (e, cells))) H2 := by
      rw [← lj]
      exact call_ok (vs := [.int p, blkV [some a0, some a1, some a2, some a3]]) (arg_ok v0 (arg_ok (tuple_of e5) rfl)) rfl (ev_is_made rfl ok4)
    cases hj : joinP p cs e with
    | none =>
      rw [hj] at e6
      have s3 : ∀ σ3 : IE, σ3 = σ2.set 8 (some .non) → ifS (cmpT isnI (varE 8) (cstE .non)) (seqS (asgS (binE subD (varE 8) (cstE (.int 1))) (gSb putM (varE 4) (varE 2))) nextS) nextS σ3 H2 = .nx σ3 H2 := fun σ3 es => if_ok (b := false) (cmp_ok (v := .non) (by rw [es, ← hs2]; rfl) rfl rfl) rfl
      refine ⟨junk ++ [.lst ([0, 1, 2, 3].map fun k => IV.lst ((partL p cs e k).map tupOf))], some (.ref H.length), some (.int (3 : Nat)), some (tupOf [p, e, (3 : Nat)]), some .non, (go _ _ (if_ok e4 ((seq_nx (asg_nm e6)).trans ((seq_nx (s3 _ rfl)).trans rfl)))).trans ?_⟩
      rw [if_neg (by simp), ← hH3, ← hs2]
      rfl
    | some cells =>
      rw [hj] at e6
      have put : putM (.ref h.length) (.int e) (tupOf cells) H2 = some (h ++ dctD p cs (D ++ [e]) :: (junk ++ [.lst ([0, 1, 2, 3].map fun k => IV.lst ((partL p cs e k).map tupOf))])) := by
        have cv : tupOf cells = cellV p cs e := by unfold cellV; rw [hj]; rfl
        have at4 : H2[h.length]? = some (dctD p cs D) := by rw [hH3]; simp
        unfold putM
        simp only [at4]
        unfold dctD
        simp only []
        rw [if_pos (by rw [keyV_int.ok, Bool.true_and, decide_eq_true_eq, List.length_map]; omega), cv, dput_new hD, hH3]
        simp [dctD]
      have s3 : ∀ σ3 : IE, σ3 = σ2.set 8 (some (.tup [.int e, tupOf cells])) → ifS (cmpT isnI (varE 8) (cstE .non)) (seqS (asgS (binE subD (varE 8) (cstE (.int 1))) (gSb putM (varE 4) (varE 2))) nextS) nextS σ3 H2 = .nx σ3 (h ++ dctD p cs (D ++ [e]) :: (junk ++ [.lst ([0, 1, 2, 3].map fun k => IV.lst ((partL p cs e k).map tupOf))])) := fun σ3 es => by
        have v8 : varE 8 σ3 H2 = .ok (.tup [.int e, tupOf cells]) H2 := by subst es; rw [← hs2]; rfl
        refine if_ok (b := true) (cmp_ok (v := .tup [.int e, tupOf cells]) v8 rfl rfl) ?_
        rw [if_pos rfl]
        refine (seq_nx (σ' := σ3) (h' := h ++ dctD p cs (D ++ [e]) :: (junk ++ [.lst ([0, 1, 2, 3].map fun k => IV.lst ((partL p cs e k).map tupOf))])) ?_).trans rfl
        have eb : binE subD (varE 8) (cstE (.int 1)) σ3 H2 = .ok (tupOf cells) H2 := bin_ok (v := .tup [.int e, tupOf cells]) v8 rfl rfl
        unfold asgS
        rw [eb]
        show gthn (gSb putM (varE 4) (varE 2) (tupOf cells) σ3 H2) _ = _
        have g4 : varE 4 σ3 H2 = .ok (.ref h.length) H2 := by rw [es, ← hs2]; rfl
        have g2 : varE 2 σ3 H2 = .ok (.int e) H2 := by rw [es, ← hs2]; rfl
        unfold gSb
        simp only [g4, g2, put]
        rfl
      refine ⟨junk ++ [.lst ([0, 1, 2, 3].map fun k => IV.lst ((partL p cs e k).map tupOf))], some (.ref H.length), some (.int (3 : Nat)), some (tupOf [p, e, (3 : Nat)]), some (.tup [.int e, tupOf cells]), (go _ _ (if_ok e4 ((seq_nx (asg_nm e6)).trans ((seq_nx (s3 _ rfl)).trans rfl)))).trans ?_⟩
      rw [if_pos (by simp), ← hs2]
      rfl
theorem law_mem {p e : Int} {cs : List (List Sec)} (j : (joinP p cs e).isSome = true) : e ∈ ((readS cs).filter fun s => decide (2 < s.length)).map fun s => ed (some s) := by
  obtain ⟨c, hc, k, s, h1, h2, h3⟩ := edsP_mem.mp (join_pos j).2
  obtain ⟨b, r, es, _, eb⟩ := fits_shape h2
  subst es
  rw [List.mem_map]
  exact ⟨_, List.mem_filter.mpr ⟨readS_mem.mpr ⟨c, hc, List.mem_of_getElem? h1⟩, by simp⟩, h3⟩
def edsL (cs : List (List Sec)) : List Int := sortNI (((readS cs).filter fun s => decide (2 < s.length)).map fun s => ed (some s))
theorem edsL_strict {cs : List (List Sec)} : (edsL cs).Pairwise (· < ·) := sort_strict (ddL_nodup _)
theorem edsL_filter {p : Int} {cs : List (List Sec)} : ((edsL cs).filter fun e => (joinP p cs e).isSome) = wholeP p cs := strict_ext (edsL_strict.filter _) wholeP_strict fun e => by
  rw [List.mem_filter, wholeP_mem]
  refine ⟨fun h => h.2, fun h => ⟨?_, h⟩⟩
  unfold edsL sortNI
  rw [List.mem_mergeSort, ddL_mem]
  exact law_mem h
theorem pure_dctD {p : Int} {cs : List (List Sec)} {D : List Int} : pureO (dctD p cs D) = true := by
  unfold dctD
  simp only [pureO, pure_ints, Bool.true_and]
  exact pure_all fun x hx => by
    obtain ⟨e, _, rfl⟩ := List.mem_map.mp hx
    unfold cellV
    cases joinP p cs e with
    | none => rfl
    | some c => exact pure_tupOf c
theorem ev_law_whole {p : Int} {cs : List (List Sec)} {h : IH} (ph : pureH h = true) (o : okCs cs) : EV.settle true h.length (c__law_whole [.int p, copV cs] h) = .ok (.dct ((wholeP p cs).map .int) ((wholeP p cs).map (cellV p cs))) h := by
  have hc4 : ∀ c ∈ cs, c.length = 4 := fun c hc' => (o.blk c hc').len
  have l4 := o.len
  have rl := readS_len hc4
  have pa : parS 3 4 (consA (callE (some true) 1 c__law_readable (consA (varE 1) nilA)) (consA dct0R nilA)) (startI 12 [.int p, copV cs]) h = .nx [some (.int p), some (copV cs), none, some (.lst ((readS cs).map tupOf)), some (.ref h.length), none, none, none, none, none, none, none] (h ++ [dctD p cs []]) := by
    have a := arg_ok (σ := startI 12 [.int p, copV cs]) (callz_ok (np := 1) (c := c__law_readable) (z := true) (fs := consA (varE 1) nilA) (vs := [copV cs]) (h := h) rfl rfl (ev_readable_z ph hc4 (by omega))) (arg_ok (fa := dct0R) (fs := nilA) (v := .ref h.length) (h2 := h ++ [dctD p cs []]) rfl rfl)
    unfold parS
    rw [a]; rfl
  have comp := lc_typ (fi := anyIt (varE 3)) (g := gNm 9) (t := cmpT (ordE .Gt) (bltE lenI (consA (varE 9) nilA)) (cstE (.int 2))) (f := binE subD (varE 9) (cstE (.int 1))) (ws := [9]) (σ := [some (.int p), some (copV cs), none, some (.lst ((readS cs).map tupOf)), some (.ref h.length), none, none, none, none, none, none, none]) (h := h ++ [dctD p cs []]) tupOf (fun s => decide (2 < s.length)) (fun s => IV.int (ed (some s))) (readS cs) rfl (by omega) fun s _ => ⟨_, rfl, cmp_ok (v := .int (s.map IV.int).length) (u := .int 2) rfl rfl (by
    show Out.ok (IV.bl (decide (_ < _))) _ = _
    congr 2
    simp
    omega), fun hs => by
    have hs := of_decide_eq_true hs
    match s, hs with
    | a :: b :: c :: r, _ => exact bin_ok (v := tupOf (a :: b :: c :: r)) (u := .int 1) rfl rfl (sub_int (k := 1) rfl)⟩
  have cv : ((readS cs).filter fun s => decide (2 < s.length)).map (fun s => IV.int (ed (some s))) = (((readS cs).filter fun s => decide (2 < s.length)).map fun s => ed (some s)).map IV.int := by rw [List.map_map]; rfl
  rw [cv] at comp
  have fl := List.length_filter_le (fun s : List Int => decide (2 < s.length)) (readS cs)
  have ss := sset_int (ns := ((readS cs).filter fun s => decide (2 < s.length)).map fun s => ed (some s)) (h := h ++ [dctD p cs []]) (by rw [List.length_map]; omega)
  have el : (edsL cs).length ≤ 16 := by
    have d : ∀ l : List Int, (ddL l).length ≤ l.length := by
      intro l
      induction l with
      | nil => simp [ddL]
      | cons x l ih => unfold ddL; split <;> simp <;> omega
    unfold edsL sortNI
    rw [List.length_mergeSort]
    have := d (((readS cs).filter fun s => decide (2 < s.length)).map fun s => ed (some s))
    rw [List.length_map] at this
    omega
  have loop := for_inv (g := gNm 2) (f := bodyEd) IV.int
    (fun rest σ h' => ∃ done junk x2 y5 y6 y7 y8, edsL cs = done ++ rest ∧ σ = [some (.int p), some (copV cs), x2, some (.lst ((readS cs).map tupOf)), some (.ref h.length), y5, y6, y7, y8, none, none, none] ∧ h' = h ++ dctD p cs (done.filter fun e => (joinP p cs e).isSome) :: junk)
    (fun e rest σ h' => by
      rintro ⟨done, junk, x2, y5, y6, y7, y8, e0, e1, e2⟩
      subst e1 e2
      have nd : e ∉ done.filter fun e => (joinP p cs e).isSome := fun he => by
        have st := edsL_strict (cs := cs)
        rw [e0, List.pairwise_append] at st
        have := st.2.2 e (List.mem_filter.mp he).1 e (by simp)
        omega
      have dl : (done.filter fun e => (joinP p cs e).isSome).length ≤ 1000 := by
        have := List.length_filter_le (fun e => (joinP p cs e).isSome) done
        rw [e0, List.length_append] at el
        omega
      obtain ⟨j2, z5, z6, z7, z8, r⟩ := round (p := p) (e := e) (cs := cs) (junk := junk) (h := h) (x5 := y5) (x6 := y6) (x7 := y7) (x8 := y8) (x3 := some (.lst ((readS cs).map tupOf))) o.blk (by omega) nd dl
      refine ⟨_, _, _, _, rfl, r, done ++ [e], j2, some (.int e), z5, z6, z7, z8, by rw [e0]; simp, rfl, ?_⟩
      rw [List.filter_append]
      cases hj : (joinP p cs e).isSome <;> simp [hj])
    (edsL cs) [some (.int p), some (copV cs), none, some (.lst ((readS cs).map tupOf)), some (.ref h.length), none, none, none, none, none, none, none] (h ++ [dctD p cs []]) ⟨[], [], none, none, none, none, none, by simp, rfl, rfl⟩
  obtain ⟨σ', h', e, done, junk, x2, y5, y6, y7, y8, e0, e1, e2⟩ := loop
  subst e1 e2
  have dn : done = edsL cs := by simpa using e0.symm
  rw [dn, edsL_filter] at e
  have run : c__law_whole [.int p, copV cs] h = .ok (.ref h.length) (h ++ dctD p cs (wholeP p cs) :: junk) :=
    def_rt ((seq_nx pa).trans ((seq_nx (for_nx (any_ok (blt_ok (arg_ok comp rfl) ss)) e)).trans (seq_rt (ret_ok rfl))))
  rw [run]
  exact settle_ref (o := dctD p cs (wholeP p cs)) ph (by simp) (Nat.le_refl _) pure_dctD
theorem foldl_max : ∀ {xs : List Int} {x : Int}, (x :: xs).Pairwise (· < ·) → some (xs.foldl max x) = (x :: xs).getLast?
  | [], x, _ => rfl
  | y :: xs, x, p => by
    rw [List.pairwise_cons] at p
    have hxy := p.1 y List.mem_cons_self
    rw [List.foldl_cons, show max x y = y by omega, foldl_max p.2]
    simp
theorem max_last {xs : List Int} (p : xs.Pairwise (· < ·)) : maxOf xs = xs.getLast? := by
  cases xs with
  | nil => rfl
  | cons x xs => exact foldl_max p
theorem dfind_typ {q : Int} {F : Int → IV} : ∀ {D : List Int}, q ∈ D → dfind (.num q) (D.map .int) (D.map F) = some (F q)
  | x :: D, h => by
    have k : EV.keyOf (.int x) = some (.num x) := rfl
    simp only [List.map_cons, dfind, k]
    by_cases z : x = q
    · rw [if_pos (by rw [z]), z]
    · rw [if_neg (by simpa using z)]
      rcases List.mem_cons.mp h with h | h
      · exact absurd h.symm z
      · exact dfind_typ h
abbrev bodyLost : SM := (seqS (ifS (cmpT eqDI (lcI (anyIt (varE 1)) (gNm 6) (cmpT isnI (binE subD (varE 6) (varE 3)) (cstE .non)) (varE 6) [6]) (lstE (capA nilA))) (seqS (retS (tupE (consA (cstE (.str "lost")) nilA)))
    nextS) nextS)
    nextS)
theorem cl_lst_blk {n : Nat} {cs : List (List Sec)} : cl (n + 3) (.lst (cs.map blkV)) = true := by
  show List.all _ (cl (n + 2)) = true
  rw [List.all_eq_true]; intro x hx
  obtain ⟨c, _, rfl⟩ := List.mem_map.mp hx
  exact cl_blkV
theorem lost_body {p : Int} {cs : List (List Sec)} {k : Nat} {dv : Option IV} {h : IH} (hk : k < 4) (hc : ∀ c ∈ cs, c.length = 4) (hl : cs.length ≤ 60) : bodyLost [some (.int p), some (copV cs), dv, some (.int k), none, none, none] h = if (cs.all fun c => (atS c k).isNone) = true then .rt (.tup [sLost]) h else .nx [some (.int p), some (copV cs), dv, some (.int k), none, none, none] h := by
  have comp := lc_typ (fi := anyIt (varE 1)) (g := gNm 6) (t := cmpT isnI (binE subD (varE 6) (varE 3)) (cstE .non)) (f := varE 6) (ws := [6]) (σ := [some (.int p), some (copV cs), dv, some (.int k), none, none, none]) (h := h) blkV (fun c => (atS c k).isSome) blkV cs rfl (by omega) fun c hc' => ⟨_, rfl, cmp_ok (bin_ok rfl rfl (sub_blk (by rw [hc c hc']; exact hk))) rfl (by
      unfold isnI
      congr 2
      cases atS c k <;> rfl), fun _ => rfl⟩
  have t : cmpT eqDI (lcI (anyIt (varE 1)) (gNm 6) (cmpT isnI (binE subD (varE 6) (varE 3)) (cstE .non)) (varE 6) [6]) (lstE (capA nilA)) [some (.int p), some (copV cs), dv, some (.int k), none, none, none] h = .ok (cs.all fun c => (atS c k).isNone) h := by
    refine cmp_ok comp (lst_ok rfl (by simp)) ?_
    rw [eqDI_cl cl_lst_blk rfl]
    congr 2
    show eqVs _ [] = _
    rw [eqVs_nil, Bool.eq_iff_iff]
    simp [List.filter_eq_nil_iff]
  cases hb : (cs.all fun c => (atS c k).isNone) with
  | true =>
    rw [hb] at t
    rw [if_pos rfl]
    refine seq_rt (if_ok t ?_)
    rw [if_pos rfl]
    exact ret_ok' (tup_ok (xs := [sLost]) (arg_ok rfl rfl) (by simp))
  | false =>
    rw [hb] at t
    rw [if_neg (by simp)]
    exact (seq_nx (if_ok t rfl)).trans rfl
theorem forL_nx {g : TM} {f : SM} {x : IV} {rest : List IV} {σ σ1 σ2 : IE} {h h1 h2 : IH} (e1 : g x σ h = some (σ1, h1)) (e2 : f σ1 h1 = .nx σ2 h2) : forL g f (x :: rest) σ h = forL g f rest σ2 h2 := by
  rw [forL]
  simp only [e1, e2]
theorem forL_rt {g : TM} {f : SM} {x : IV} {rest : List IV} {σ σ1 : IE} {h h1 h2 : IH} {v : IV} (e1 : g x σ h = some (σ1, h1)) (e2 : f σ1 h1 = .rt v h2) : forL g f (x :: rest) σ h = .rt v h2 := by
  rw [forL]
  simp only [e1, e2]
theorem lost_loop {p : Int} {cs : List (List Sec)} {dv : Option IV} {h : IH} (hc : ∀ c ∈ cs, c.length = 4) (hl : cs.length ≤ 60) : ∀ (ks : List Nat) (x : Option IV), (∀ k ∈ ks, k < 4) → ∃ y, forL (gNm 3) bodyLost (ks.map fun k : Nat => IV.int (k : Int)) [some (.int p), some (copV cs), dv, x, none, none, none] h = if (ks.any fun k => cs.all fun c => (atS c k).isNone) = true then .rt (.tup [sLost]) h else .nx [some (.int p), some (copV cs), dv, y, none, none, none] h
  | [], x, _ => ⟨x, rfl⟩
  | k :: ks, x, H => by
    have b := lost_body (p := p) (dv := dv) (h := h) (H k List.mem_cons_self) hc hl
    rw [List.map_cons]
    cases hb : (cs.all fun c => (atS c k).isNone) with
    | true =>
      rw [hb, if_pos rfl] at b
      exact ⟨none, (forL_rt rfl b).trans (by simp [hb])⟩
    | false =>
      obtain ⟨y, ih⟩ := lost_loop hc hl ks (some (.int k)) fun k' h' => H k' (List.mem_cons_of_mem _ h')
      rw [hb, if_neg (by simp)] at b
      refine ⟨y, (forL_nx rfl b).trans (ih.trans ?_)⟩
      simp [hb]
theorem ev_due {p : Int} {cs : List (List Sec)} {h : IH} (ph : pureH h = true) (o : okCs cs) : c__law_due [.int p, copV cs] h = .ok (toldP p cs) h := by
  have hc4 : ∀ c ∈ cs, c.length = 4 := fun c hc' => (o.blk c hc').len
  have l4 := o.len
  have rl := readS_len hc4
  have wh := callz_ok (np := 2) (c := c__law_whole) (fs := consA (varE 0) (consA (varE 1) nilA)) (σ := [some (.int p), some (copV cs), none, none, none, none, none]) (z := true) (vs := [.int p, copV cs]) (h := h) rfl rfl (ev_law_whole (p := p) ph o)
  generalize hdv : IV.dct ((wholeP p cs).map .int) ((wholeP p cs).map (cellV p cs)) = dv at wh
  have t1 : cmpT neDI (varE 2) dct0E [some (.int p), some (copV cs), some dv, none, none, none, none] h = .ok (!(wholeP p cs).isEmpty) h := cmp_ok (v := dv) rfl rfl (by
    rw [← hdv]
    show (if allKA ((wholeP p cs).map .int) = true ∧ allKA [] = true ∧ (((wholeP p cs).map IV.int).isEmpty || ([] : List IV).isEmpty) = true then Out.ok (IV.bl (!(((wholeP p cs).map IV.int).isEmpty && ([] : List IV).isEmpty))) h else .no) = _
    rw [if_pos ⟨allKA_int _, rfl, by simp⟩]
    simp)
  unfold toldP toldW
  cases hw : (wholeP p cs).getLast? with
  | some e =>
    have hne : (wholeP p cs).isEmpty = false := by
      cases z : wholeP p cs with
      | nil => rw [z] at hw; cases hw
      | cons => rfl
    have em : e ∈ wholeP p cs := List.mem_of_getLast? hw
    rw [hne] at t1
    have mx : bltE maxDI (consA (varE 2) nilA) [some (.int p), some (copV cs), some dv, none, none, none, none] h = .ok (.int e) h := blt_ok (arg_ok rfl rfl) (by
      rw [← hdv]
      show (match (mapO inO ((wholeP p cs).map IV.int)).bind maxOf with | some m => Out.ok (IV.int m) h | none => .no) = _
      rw [mapO_inO]
      show (match maxOf (wholeP p cs) with | some m => Out.ok (IV.int m) h | none => .no) = _
      rw [max_last wholeP_strict, hw])
    have sb : binE subD (varE 2) (bltE maxDI (consA (varE 2) nilA)) [some (.int p), some (copV cs), some dv, none, none, none, none] h = .ok (cellV p cs e) h := bin_ok (v := dv) rfl mx (by
      rw [← hdv]
      show (match kindOk (.int e) ((wholeP p cs).map .int), EV.keyOf (.int e) with
        | true, some q => match dfind q ((wholeP p cs).map .int) ((wholeP p cs).map (cellV p cs)) with
          | some u => Out.ok u h
          | none => .no
        | _, _ => .no) = _
      rw [keyV_int.ok]
      show (match dfind (.num e) ((wholeP p cs).map .int) ((wholeP p cs).map (cellV p cs)) with
          | some u => Out.ok u h
          | none => .no) = _
      rw [dfind_typ em])
    refine def_rt ((seq_nx (asg_nm wh)).trans (seq_rt (if_ok t1 ?_)))
    exact ret_ok' (tup_ok (arg_ok rfl (arg_ok mx (arg_ok sb rfl))) (by simp))
  | none =>
    have hne : (wholeP p cs).isEmpty = true := by
      cases z : wholeP p cs with
      | nil => rfl
      | cons => rw [z] at hw; simp at hw
    rw [hne] at t1
    refine def_rt ((seq_nx (asg_nm wh)).trans ((seq_nx (if_ok (f := seqS (retS (tupE (consA (cstE (.str "whole")) (consA (bltE maxDI (consA (varE 2) nilA)) (consA (binE subD (varE 2) (bltE maxDI (consA (varE 2) nilA))) nilA))))) nextS) (g := nextS) (o := .nx [some (.int p), some (copV cs), some dv, none, none, none, none] h) t1 rfl)).trans ?_))
    obtain ⟨y, lp⟩ := lost_loop (p := p) (dv := some dv) (h := h) hc4 (by omega) [0, 1, 2, 3] none (by simp)
    show _ = SOut.rt (if lostB cs = true then .tup [sLost] else if blankB cs = true then .tup [sBlank] else .tup [sTorn]) h
    have lw : forS (rngIt (consA (cstE (.int 4)) nilA)) (gNm 3) bodyLost [some (.int p), some (copV cs), some dv, none, none, none, none] h = if lostB cs = true then .rt (.tup [sLost]) h else .nx [some (.int p), some (copV cs), some dv, y, none, none, none] h := lp
    cases hL : lostB cs with
    | true =>
      rw [hL, if_pos rfl] at lw
      rw [if_pos rfl]
      exact seq_rt lw
    | false =>
      rw [hL, if_neg (by simp)] at lw
      rw [if_neg (by simp)]
      refine (seq_nx lw).trans ?_
      have left := lc_typ (fi := anyIt (callE (some true) 1 c__law_readable (consA (varE 1) nilA))) (g := gNm 5) (t := cmpT neDI (varE 5) (tupE nilA)) (f := varE 5) (ws := [5]) (σ := [some (.int p), some (copV cs), some dv, y, none, none, none]) (h := h) tupOf (fun s => !decide (s = [])) tupOf (readS cs) (any_ok (callz_ok rfl rfl (ev_readable_z ph hc4 (by omega)))) (by omega) fun s _ => ⟨_, rfl, cmp_ok (v := tupOf s) rfl (tup_ok rfl (by simp)) (by
        rw [neDI_cl cl_tupOf rfl, eqV_dec (p := s = []) (by
          rw [show IV.tup [] = tupOf [] from rfl, tupOf_inj])]), fun _ => rfl⟩
      have be : decide (((readS cs).filter fun s => !decide (s = [])) = []) = blankB cs := by
        rw [Bool.eq_iff_iff, decide_eq_true_eq, List.filter_eq_nil_iff]
        unfold blankB
        simp only [List.all_eq_true, decide_eq_true_eq]
        constructor
        · intro H k hk c hc
          cases ha : atS c k with
          | none => rfl
          | some s =>
            have := H s (readS_mem.mpr ⟨c, hc, List.mem_of_getElem? (atS_mem ha)⟩)
            simpa using this
        · intro H s hs
          obtain ⟨c, hc, hs⟩ := readS_mem.mp hs
          obtain ⟨k, hk, e⟩ := List.getElem_of_mem hs
          have k4 : k ∈ [0, 1, 2, 3] := by
            have := hc4 c hc
            simp; omega
          have := H k k4 c hc
          unfold atS at this
          rw [List.getD_eq_getElem?_getD, List.getElem?_eq_getElem hk, e] at this
          simpa using this
      refine (seq_nx (asg_nm left)).trans (ret_ok' (ite_ok (h1 := h) (b := blankB cs) (cmp_ok rfl (lst_ok rfl (by simp)) ?_) ?_))
      · rw [eqDI_cl (by
          show List.all _ (cl 11) = true
          rw [List.all_eq_true]; intro x hx
          obtain ⟨c, _, rfl⟩ := List.mem_map.mp hx
          exact cl_tupOf) rfl, ← be]
        congr 2
        show eqVs _ [] = _
        rw [eqVs_nil, Bool.eq_iff_iff]
        simp
      · cases blankB cs with
        | true => exact tup_ok (xs := [sBlank]) (arg_ok rfl rfl) (by simp)
        | false => exact tup_ok (xs := [sTorn]) (arg_ok rfl rfl) (by simp)
end K08
namespace K08
open PySem PySem.Spec PyProof.Rows EV
open L2 hiding eqV keyOf
def Drw {α : Type} (m : Out α) (n : Nat) (tl : IH) (Q : α → Prop) : Prop := ∃ v h1, m = .ok v (h1 ++ tl) ∧ Hok h1 ∧ h1.length = n ∧ Q v
theorem Hok.pure {h : IH} (k : Hok h) : pureH h = true := by
  unfold pureH
  rw [List.all_eq_true]; intro o ho
  obtain ⟨a, b, c, rfl⟩ := k o ho
  exact pure_ints [a, b, c]
theorem dip_raw {H : IH} {r : Nat} {a b c : Int} (e : H[r]? = some (T3 a b c)) {t : Int} (ht : 0 < t) (ht2 : t < 2 ^ 64) : ∃ i a' b' c' : Int, c__law_dip [.ref r, .int t] H = .ok (.int i) (H.set r (T3 a' b' c')) ∧ 0 ≤ i ∧ i < t := by
  have hr : r < H.length := (List.getElem?_eq_some_iff.mp e).1
  have hd := div_big ht ht2
  by_cases ha : a > 0
  · refine ⟨a % t, a / t, b, c, ?_, Int.emod_nonneg _ (by omega), Int.emod_lt_of_pos _ ht⟩
    simp [c__law_dip, b__law_dip, N__law_dip, defM, startI, seqS, ifS, asgS, retS, cmpT, binE, varE, cstE, ordE, ordI, bltE, consA, nilA, intI, addI, subD, dctO, subE, lsR, lsO, atI, gNm, gSb, putM, setM, ixN, gthn, Out.bind, Out.thn, boolM, nextS, e, ha, mod_ok ht, div_ok hd]
  · have one := Int.emod_nonneg (b + 67867967 * (c + 1)) (b := 2305843009213693951) (by omega)
    have one2 := Int.emod_lt_of_pos (b + 67867967 * (c + 1)) (b := 2305843009213693951) (by omega)
    generalize eo : (b + 67867967 * (c + 1)) % 2305843009213693951 = o1 at one one2
    generalize et : (o1 * o1 + 89 * (c + 1)) % 2305843009213693907 * 32452867 + o1 = o2
    refine ⟨o2 / 65543 % t, a, b, c + 1, ?_, Int.emod_nonneg _ (by omega), Int.emod_lt_of_pos _ ht⟩
    have m1 : ∀ x : Int, mulOk 67867967 x := fun x => .inl (by omega)
    have m2 : mulOk o1 o1 := .inl (by omega)
    have m3 : ∀ x : Int, mulOk 89 x := fun x => .inl (by omega)
    have m4 : ∀ x : Int, mulOk x 32452867 := fun x => .inr (.inl (by omega))
    have hd2 : divOk 65543 := div_big (by omega) (by omega)
    have hset : (H.set r (T3 a b (c + 1)))[r]? = some (T3 a b (c + 1)) := by rw [List.getElem?_set_self hr]
    simp [c__law_dip, b__law_dip, N__law_dip, defM, startI, seqS, ifS, asgS, retS, cmpT, binE, varE, cstE, ordE, ordI, bltE, consA, nilA, intI, addI, subD, dctO, subE, lsR, lsO, atI, gNm, gSb, putM, setM, ixN, gthn, Out.bind, Out.thn, boolM, nextS, e, hset, ha, mod_ok, mod_ok ht, div_ok hd, div_ok hd2, mul_ok (m1 _), mul_ok m2, mul_ok (m3 _), mul_ok (m4 _), eo, et]
/-- a tub at r among n -/
theorem dip_t {h tl : IH} {n r : Nat} (k : Hok h) (hn : h.length = n) (hr : r < n) {t : Int} (ht : 0 < t) (ht2 : t < 2 ^ 64) : Drw (c__law_dip [.ref r, .int t] (h ++ tl)) n tl fun v => ∃ i : Int, v = .int i ∧ 0 ≤ i ∧ i < t := by
  subst hn
  obtain ⟨a, b, c, e⟩ := k.at hr
  obtain ⟨i, a', b', c', q, i0, i1⟩ := dip_raw (H := h ++ tl) (by rw [List.getElem?_append_left hr]; exact e) ht ht2
  refine ⟨.int i, h.set r (T3 a' b' c'), q.trans ?_, k.set r _ _ _, by simp, i, rfl, i0, i1⟩
  rw [List.set_append_left _ _ hr]
theorem choice_t {h tl : IH} {n r : Nat} (k : Hok h) (hn : h.length = n) (hr : r < n) {xs : List IV} (h1 : xs ≠ []) (h2 : xs.length < 2 ^ 64) : Drw (c__law_choice [.ref r, .lst xs] (h ++ tl)) n tl fun v => v ∈ xs := by
  have hl : 0 < xs.length := List.length_pos_iff.mpr h1
  obtain ⟨v, h3, e, k3, n3, i, rfl, i0, i1⟩ := dip_t (tl := tl) k hn hr (t := xs.length) (by omega) (by omega)
  have hi : i.toNat < xs.length := by omega
  refine ⟨xs[i.toNat], h3, ?_, k3, n3, List.getElem_mem hi⟩
  refine def_rt (seq_rt (ret_ok (bin_ok rfl (call_ok (arg_ok rfl (arg_ok (v := .int xs.length) rfl rfl)) rfl e) ?_)))
  have e : atI xs i = some xs[i.toNat] := by
    simp [atI, ixN, i0, i1]
  show (match atI xs i with | some v => Out.ok v _ | none => .no) = _
  rw [e]
theorem comp_drw {n : Nat} {tl : IH} {g : TM} {f : IE → M IV} {σ0 : IE} {A : IV → Prop} : ∀ {xs : List IV} {h : IH}, (∀ x ∈ xs, ∀ h, Hok h → h.length = n → ∃ σ1, g x σ0 (h ++ tl) = some (σ1, h ++ tl) ∧ Drw (f σ1 (h ++ tl)) n tl A) → Hok h → h.length = n →
    Drw (compM g yesT f σ0 xs (h ++ tl)) n tl fun vs => vs.length = xs.length ∧ ∀ v ∈ vs, A v
  | [], h, _, k, hn => ⟨[], h, rfl, k, hn, rfl, by simp⟩
  | x :: xs, h, st, k, hn => by
    obtain ⟨σ1, e1, v, h2, e2, k2, n2, a⟩ := st x List.mem_cons_self h k hn
    obtain ⟨vs, h3, e3, k3, n3, hl, ha⟩ := comp_drw (xs := xs) (h := h2) (fun y hy => st y (List.mem_cons_of_mem _ hy)) k2 n2
    refine ⟨v :: vs, h3, comp_one e1 e2 e3, k3, n3, by simp [hl], fun w hw => ?_⟩
    rcases List.mem_cons.mp hw with rfl | hw
    · exact a
    · exact ha w hw
theorem lc_drw {n : Nat} {tl : IH} {fi : IE → M (List IV)} {g : TM} {f : IE → M IV} {ws : List Nat} {σ : IE} {h h1 : IH} {A : IV → Prop} {xs : List IV} (e : fi σ h = .ok xs (h1 ++ tl)) (k : Hok h1) (hn : h1.length = n) (hl : xs.length ≤ 16777216) (st : ∀ x ∈ xs, ∀ h, Hok h → h.length = n → ∃ σ1, g x (wipeI σ ws) (h ++ tl) = some (σ1, h ++ tl) ∧ Drw (f σ1 (h ++ tl)) n tl A) :
    Drw (lcI fi g yesT f ws σ h) n tl fun v => ∃ vs, v = .lst vs ∧ vs.length = xs.length ∧ ∀ v ∈ vs, A v := by
  obtain ⟨vs, h2, e2, k2, n2, q⟩ := comp_drw st k hn
  exact ⟨.lst vs, h2, lc_ok e hl e2, k2, n2, vs, rfl, q⟩
theorem rng_lit {fs : IE → M (List IV)} {σ : IE} {h h1 : IH} {j : Nat} (e : fs σ h = .ok [.int (j : Int)] h1) (hj : j ∈ [0, 1, 2, 3, 12, 13, 14, 15, 16, 26, 27, 39, 51, 52]) : rngIt fs σ h = .ok (rngL 0 j) h1 := by
  unfold rngIt
  rw [e]
  simp only [List.mem_cons, List.not_mem_nil, or_false] at hj
  rcases hj with rfl | rfl | rfl | rfl | rfl | rfl | rfl | rfl | rfl | rfl | rfl | rfl | rfl | rfl <;> rfl
theorem rngL_len {j : Nat} : (rngL 0 j).length = j := by simp [rngL]
theorem ints_of {vs : List IV} (h : ∀ v ∈ vs, ∃ i : Int, v = .int i ∧ okC i) : ∃ ns : List Int, vs = ns.map IV.int ∧ ∀ i ∈ ns, okC i := by
  induction vs with
  | nil => exact ⟨[], rfl, by simp⟩
  | cons v vs ih =>
    obtain ⟨i, rfl, oi⟩ := h v List.mem_cons_self
    obtain ⟨ns, rfl, on⟩ := ih fun w hw => h w (List.mem_cons_of_mem _ hw)
    exact ⟨i :: ns, rfl, fun j hj => by
      rcases List.mem_cons.mp hj with rfl | hj
      · exact oi
      · exact on j hj⟩
theorem law_cells_t {h tl : IH} {n r : Nat} (k : Hok h) (hn : h.length = n) (hr : r < n) : Drw (c__law_cells [.ref r] (h ++ tl)) n tl fun v => ∃ ns : List Int, v = tupOf ns ∧ ns.length ≤ 52 ∧ ∀ i ∈ ns, okC i := by
  obtain ⟨m, h1, e1, k1, n1, hm⟩ := choice_t (tl := tl) k hn hr (xs := [.int 0, .int 1, .int 2, .int 12, .int 13, .int 14, .int 26, .int 27, .int 39, .int 51, .int 52]) (by simp) (by decide)
  have hm' : ∃ j : Nat, m = .int (j : Int) ∧ j ∈ [0, 1, 2, 3, 12, 13, 14, 15, 16, 26, 27, 39, 51, 52] ∧ j ≤ 52 := by
    simp only [List.mem_cons, List.not_mem_nil, or_false] at hm
    rcases hm with rfl | rfl | rfl | rfl | rfl | rfl | rfl | rfl | rfl | rfl | rfl
    · exact ⟨0, rfl, by simp, by omega⟩
    · exact ⟨1, rfl, by simp, by omega⟩
    · exact ⟨2, rfl, by simp, by omega⟩
    · exact ⟨12, rfl, by simp, by omega⟩
    · exact ⟨13, rfl, by simp, by omega⟩
    · exact ⟨14, rfl, by simp, by omega⟩
    · exact ⟨26, rfl, by simp, by omega⟩
    · exact ⟨27, rfl, by simp, by omega⟩
    · exact ⟨39, rfl, by simp, by omega⟩
    · exact ⟨51, rfl, by simp, by omega⟩
    · exact ⟨52, rfl, by simp, by omega⟩
  obtain ⟨j, rfl, hj, hj2⟩ := hm'
  obtain ⟨v, h2, e2, k2, n2, vs, rfl, hl, ha⟩ := lc_drw (n := n) (tl := tl) (fi := rngIt (consA (varE 1) nilA)) (g := gNm 2) (ws := [2]) (f := callE none 2 c__law_dip (consA (varE 0) (consA (callE none 2 c__law_choice (consA (varE 0) (consA (lstE (capA (consA (cstE (.int 2)) (consA (binE powI (cstE (.int 10)) (cstE (.int 18))) nilA)))) nilA))) nilA))) (σ := [some (.ref r), some (.int (j : Int)), none]) (h := h1 ++ tl) (A := fun v => ∃ i : Int, v = .int i ∧ okC i) (rng_lit (arg_ok rfl rfl) hj) k1 n1 (by rw [rngL_len]; omega) fun x hx h3 k3 n3 => ⟨_, rfl, by
    obtain ⟨u, h4, e4, k4, n4, hu⟩ := choice_t (tl := tl) k3 n3 hr (xs := [.int 2, .int (10 ^ 18)]) (by simp) (by decide)
    have hu' : ∃ t : Int, u = .int t ∧ (t = 2 ∨ t = 10 ^ 18) := by
      simp only [List.mem_cons, List.not_mem_nil, or_false] at hu
      rcases hu with rfl | rfl
      · exact ⟨2, rfl, .inl rfl⟩
      · exact ⟨_, rfl, .inr rfl⟩
    obtain ⟨t, rfl, ht⟩ := hu'
    obtain ⟨w, h5, e5, k5, n5, i, rfl, i0, i1⟩ := dip_t (tl := tl) k4 n4 hr (t := t) (by omega) (by omega)
    exact ⟨.int i, h5, call_ok (arg_ok rfl (arg_ok (call_ok (arg_ok rfl (arg_ok rfl rfl)) rfl e4) rfl)) rfl e5, k5, n5, i, rfl, i0, by omega⟩⟩
  obtain ⟨ns, rfl, on⟩ := ints_of ha
  refine ⟨tupOf ns, h2, def_rt ((seq_nx (asg_nm (call_ok (arg_ok rfl (arg_ok rfl rfl)) rfl e1))).trans (seq_rt (ret_ok (tuple_of e2)))), k2, n2, ns, rfl, ?_, on⟩
  rw [List.length_map, rngL_len] at hl
  omega
theorem law_sector_t {h tl : IH} {n r : Nat} (k : Hok h) (hn : h.length = n) (hr : r < n) : Drw (c__law_sector [.ref r] (h ++ tl)) n tl fun v => ∃ s : List Int, v = tupOf s ∧ okL s := by
  obtain ⟨w, h1, e1, k1, n1, i, rfl, i0, i1⟩ := dip_t (tl := tl) k hn hr (t := 8) (by omega) (by omega)
  have st := asg_nm (i := 1) (call_ok (np := 2) (c := c__law_dip) (fs := consA (varE 0) (consA (cstE (.int 8)) nilA)) (σ := startI 4 [.ref r]) (h := h ++ tl) (arg_ok rfl (arg_ok rfl rfl)) rfl e1)
  by_cases hi : i < 5
  · obtain ⟨v, h2, e2, k2, n2, hv⟩ := choice_t (tl := tl) k1 n1 hr (xs := [.tup [], .tup [.int 0], .tup [.int 1], .tup [.int 2, .int 0], .tup [.int 1, .int 1]]) (by simp) (by decide)
    have hv' : ∃ s : List Int, v = tupOf s ∧ okL s := by
      simp only [List.mem_cons, List.not_mem_nil, or_false] at hv
      rcases hv with rfl | rfl | rfl | rfl | rfl
      · exact ⟨[], rfl, by simp [okL]⟩
      · exact ⟨[0], rfl, by simp [okL, okC]⟩
      · exact ⟨[1], rfl, by simp [okL, okC]⟩
      · exact ⟨[2, 0], rfl, by simp [okL, okC]⟩
      · exact ⟨[1, 1], rfl, by simp [okL, okC]⟩
    refine ⟨v, h2, def_rt ((seq_nx st).trans (seq_rt (if_ok (h1 := h1 ++ tl) (b := true) (cmp_ok (v := .int i) (u := .int 5) rfl rfl ?_) ?_))), k2, n2, hv'⟩
    · show Out.ok (IV.bl (decide (i < 5))) _ = _
      rw [decide_eq_true hi]
    · rw [if_pos rfl]
      exact ret_ok' (call_ok (arg_ok rfl (arg_ok rfl rfl)) rfl e2)
  · obtain ⟨u, h2, e2, k2, n2, hu⟩ := choice_t (tl := tl) k1 n1 hr (xs := [.int 3, .int (10 ^ 9), .int (10 ^ 18)]) (by simp) (by decide)
    have hu' : ∃ t : Int, u = .int t ∧ 0 < t ∧ t ≤ 10 ^ 18 := by
      simp only [List.mem_cons, List.not_mem_nil, or_false] at hu
      rcases hu with rfl | rfl | rfl
      · exact ⟨_, rfl, by omega, by omega⟩
      · exact ⟨_, rfl, by omega, by omega⟩
      · exact ⟨_, rfl, by omega, by omega⟩
    obtain ⟨t, rfl, ht, ht2⟩ := hu'
    obtain ⟨m, h3, e3, k3, n3, hm⟩ := choice_t (tl := tl) k2 n2 hr (xs := [.int 1, .int 3, .int 15, .int 16]) (by simp) (by decide)
    have hm' : ∃ j : Nat, m = .int (j : Int) ∧ j ∈ [0, 1, 2, 3, 12, 13, 14, 15, 16, 26, 27, 39, 51, 52] ∧ j ≤ 16 := by
      simp only [List.mem_cons, List.not_mem_nil, or_false] at hm
      rcases hm with rfl | rfl | rfl | rfl
      · exact ⟨1, rfl, by simp, by omega⟩
      · exact ⟨3, rfl, by simp, by omega⟩
      · exact ⟨15, rfl, by simp, by omega⟩
      · exact ⟨16, rfl, by simp, by omega⟩
    obtain ⟨j, rfl, hj, hj2⟩ := hm'
    obtain ⟨v, h4, e4, k4, n4, vs, rfl, hl, ha⟩ := lc_drw (n := n) (tl := tl) (fi := rngIt (consA (callE none 2 c__law_choice (consA (varE 0) (consA (lstE (capA (consA (cstE (.int 1)) (consA (cstE (.int 3)) (consA (cstE (.int 15)) (consA (cstE (.int 16)) nilA)))))) nilA))) nilA)) (g := gNm 3) (ws := [3]) (f := callE none 2 c__law_dip (consA (varE 0) (consA (varE 2) nilA))) (σ := [some (.ref r), some (.int i), some (.int t), none]) (h := h2 ++ tl) (A := fun v => ∃ i : Int, v = .int i ∧ okC i) (rng_lit (arg_ok (call_ok (arg_ok rfl (arg_ok rfl rfl)) rfl e3) rfl) hj) k3 n3 (by rw [rngL_len]; omega) fun x hx h5 k5 n5 => ⟨_, rfl, by
      obtain ⟨w, h6, e6, k6, n6, z, rfl, z0, z1⟩ := dip_t (tl := tl) k5 n5 hr (t := t) (by omega) (by omega)
      exact ⟨.int z, h6, call_ok (arg_ok rfl (arg_ok rfl rfl)) rfl e6, k6, n6, z, rfl, z0, by omega⟩⟩
    obtain ⟨ns, rfl, on⟩ := ints_of ha
    refine ⟨tupOf ns, h4, def_rt ((seq_nx st).trans ((seq_nx (if_ok (b := false) (g := nextS) (o := .nx [some (.ref r), some (.int i), none, none] (h1 ++ tl)) (cmp_ok (v := .int i) (u := .int 5) rfl rfl ?_) rfl)).trans ((seq_nx (asg_nm (call_ok (arg_ok rfl (arg_ok rfl rfl)) rfl e2))).trans (seq_rt (ret_ok (tuple_of e4)))))), k4, n4, ns, rfl, ?_, on⟩
    · show Out.ok (IV.bl (decide (i < 5))) _ = _
      rw [decide_eq_false hi]
    · rw [List.length_map, rngL_len] at hl
      omega
theorem secs_of {vs : List IV} (h : ∀ v ∈ vs, ∃ s : List Int, v = tupOf s ∧ okL s) : ∃ b : List Sec, vs = b.map secV ∧ ∀ s ∈ b, okS s := by
  induction vs with
  | nil => exact ⟨[], rfl, by simp⟩
  | cons v vs ih =>
    obtain ⟨i, rfl, oi⟩ := h v List.mem_cons_self
    obtain ⟨ns, rfl, on⟩ := ih fun w hw => h w (List.mem_cons_of_mem _ hw)
    exact ⟨some i :: ns, rfl, fun j hj => by
      rcases List.mem_cons.mp hj with rfl | hj
      · exact oi
      · exact on j hj⟩
theorem law_block_t {h tl : IH} {n r : Nat} (k : Hok h) (hn : h.length = n) (hr : r < n) : Drw (c__law_block [.ref r] (h ++ tl)) n tl fun v => ∃ b, v = blkV b ∧ okB b := by
  obtain ⟨v, h4, e4, k4, n4, vs, rfl, hl, ha⟩ := lc_drw (n := n) (tl := tl) (fi := rngIt (consA (cstE (.int 4)) nilA)) (g := gNm 1) (ws := [1]) (f := callE none 1 c__law_sector (consA (varE 0) nilA)) (σ := [some (.ref r), none]) (h := h ++ tl) (A := fun v => ∃ s : List Int, v = tupOf s ∧ okL s) (xs := rngL 0 4) rfl k hn (by rw [rngL_len]; omega) fun x hx h5 k5 n5 => ⟨_, rfl, by
      obtain ⟨w, h6, e6, k6, n6, q⟩ := law_sector_t (tl := tl) k5 n5 hr
      exact ⟨w, h6, call_ok (arg_ok rfl rfl) rfl e6, k6, n6, q⟩⟩
  obtain ⟨b, rfl, ob⟩ := secs_of ha
  rw [List.length_map, rngL_len] at hl
  exact ⟨blkV b, h4, def_rt (seq_rt (ret_ok (tuple_of e4))), k4, n4, b, rfl, hl, ob⟩
end K08
namespace K08
open PySem PySem.Spec PyProof.Rows EV
open L2 hiding eqV keyOf
theorem cutG_from {α : Type} (xs : List α) (k : Nat) : cutL xs (some (k : Int)) none = xs.drop k := by
  unfold cutL
  rw [HT.sIx_nat, HT.sIx_none]
  by_cases hk : k ≤ xs.length
  · rw [Nat.min_eq_left hk, List.take_of_length_le (by simp)]
  · rw [Nat.min_eq_right (by omega)]
    rw [List.drop_eq_nil_of_le (by simp), List.drop_eq_nil_of_le (as := xs) (by omega)]; simp
theorem cutG_to {α : Type} (xs : List α) (k : Nat) : cutL xs none (some (k : Int)) = xs.take k := by
  unfold cutL
  rw [HT.sIx_nat, HT.sIx_none]
  simp only [List.drop_zero, Nat.sub_zero]
  rw [List.take_eq_take_iff]; omega
theorem sliG_to {fa fi : IE → M IV} {σ : IE} {h h1 h2 : IH} {xs : List IV} {k : Nat} (e : fa σ h = .ok (.tup xs) h1) (e2 : fi σ h1 = .ok (.int (k : Int)) h2) : sliE fa noneO (someO fi) σ h = .ok (.tup (xs.take k)) h2 := by
  unfold sliE someO
  rw [e]
  show ((fi σ h1).bind intM).bind _ = _
  rw [e2]
  show Out.ok (IV.tup (cutL xs none (some (k : Int)))) h2 = _
  rw [cutG_to]
theorem sliG_from {fa fi : IE → M IV} {σ : IE} {h h1 h2 : IH} {xs : List IV} {k : Nat} (e : fa σ h = .ok (.tup xs) h1) (e2 : fi σ h1 = .ok (.int (k : Int)) h2) : sliE fa (someO fi) noneO σ h = .ok (.tup (xs.drop k)) h2 := by
  unfold sliE someO
  rw [e]
  show ((fi σ h1).bind intM).bind _ = _
  rw [e2]
  show Out.ok (IV.tup (cutL xs (some (k : Int)) none)) h2 = _
  rw [cutG_from]
theorem sliT_to {fa fi : IE → M IV} {σ : IE} {h h1 h2 : IH} {ns : List Int} {k : Nat} (e : fa σ h = .ok (tupOf ns) h1) (e2 : fi σ h1 = .ok (.int (k : Int)) h2) : sliE fa noneO (someO fi) σ h = .ok (tupOf (ns.take k)) h2 := by
  rw [sliG_to e e2, ← List.map_take]; rfl
theorem sliT_from {fa fi : IE → M IV} {σ : IE} {h h1 h2 : IH} {ns : List Int} {k : Nat} (e : fa σ h = .ok (tupOf ns) h1) (e2 : fi σ h1 = .ok (.int (k : Int)) h2) : sliE fa (someO fi) noneO σ h = .ok (tupOf (ns.drop k)) h2 := by
  rw [sliG_from e e2, ← List.map_drop]; rfl
theorem sliB_to {fa fi : IE → M IV} {σ : IE} {h h1 h2 : IH} {b : List Sec} {k : Nat} (e : fa σ h = .ok (blkV b) h1) (e2 : fi σ h1 = .ok (.int (k : Int)) h2) : sliE fa noneO (someO fi) σ h = .ok (blkV (b.take k)) h2 := by
  rw [sliG_to e e2, ← List.map_take]; rfl
theorem sliB_from {fa fi : IE → M IV} {σ : IE} {h h1 h2 : IH} {b : List Sec} {k : Nat} (e : fa σ h = .ok (blkV b) h1) (e2 : fi σ h1 = .ok (.int (k : Int)) h2) : sliE fa (someO fi) noneO σ h = .ok (blkV (b.drop k)) h2 := by
  rw [sliG_from e e2, ← List.map_drop]; rfl
theorem add_tup {xs ys : List IV} {h : IH} (hl : xs.length + ys.length ≤ 1000) : addI (.tup xs) (.tup ys) h = .ok (.tup (xs ++ ys)) h := by
  show (if xs.length + ys.length ≤ sizeLine then Out.ok (IV.tup (xs ++ ys)) h else .no) = _
  rw [if_pos (by rw [sizeLine_eq]; omega)]
theorem add_blk {a b : List Sec} {h : IH} (hl : a.length + b.length ≤ 1000) : addI (blkV a) (blkV b) h = .ok (blkV (a ++ b)) h := by
  unfold blkV
  rw [add_tup (by simpa using hl), List.map_append]
theorem add_int {a b : Int} {h : IH} : addI (.int a) (.int b) h = .ok (.int (a + b)) h := rfl
def withS (b : List Sec) (k : Nat) (s : Sec) : List Sec := b.take k ++ [s] ++ b.drop (k + 1)
theorem ev_with {b : List Sec} {k : Nat} {s : Sec} {h : IH} (hb : b.length ≤ 100) : c__law_with [blkV b, .int (k : Int), secV s] h = .ok (blkV (withS b k s)) h := by
  refine def_rt (seq_rt (ret_ok (bin_ok (bin_ok (v := blkV (b.take k)) (u := blkV [s]) (sliB_to rfl rfl) (tup_ok (arg_ok rfl rfl) (by simp)) (add_blk (by simp; omega))) (sliB_from (k := k + 1) rfl (bin_ok rfl rfl rfl)) (add_blk (by simp; omega)))))
theorem okB_with {b : List Sec} {k : Nat} {s : Sec} (o : okB b) (hk : k < 4) (os : okS s) : okB (withS b k s) := by
  have l := o.len
  refine ⟨by simp [withS]; omega, fun t ht => ?_⟩
  unfold withS at ht
  simp only [List.mem_append, List.mem_singleton] at ht
  rcases ht with (ht | ht) | ht
  · exact o.sec t (List.mem_of_mem_take ht)
  · rw [ht]; exact os
  · exact o.sec t (List.mem_of_mem_drop ht)
abbrev okE (ns : List Int) : Prop := ∀ i ∈ ns, okC i
theorem okE_app {a b : List Int} (ha : okE a) (hb : okE b) : okE (a ++ b) := fun i hi => (List.mem_append.mp hi).elim (ha i) (hb i)
theorem okE_take {a : List Int} {k : Nat} (ha : okE a) : okE (a.take k) := fun i hi => ha i (List.mem_of_mem_take hi)
theorem okE_drop {a : List Int} {k : Nat} (ha : okE a) : okE (a.drop k) := fun i hi => ha i (List.mem_of_mem_drop hi)
theorem okE_cons {x : Int} {a : List Int} (hx : okC x) (ha : okE a) : okE (x :: a) := fun i hi => by
  rcases List.mem_cons.mp hi with rfl | hi
  · exact hx
  · exact ha i hi
theorem okE_nil : okE [] := fun i hi => by cases hi
theorem part_ok {p e : Int} {cells : List Int} {k : Nat} (hp : okC p) (he : okC e) (hk : k < 4) (hc : okE cells) : okL (partS p e cells k) ∧ 3 ≤ (partS p e cells k).length :=
  ⟨⟨made_len p e cells k, okE_cons hp (okE_cons he (okE_cons ⟨by omega, by omega⟩ (okE_take (okE_drop hc))))⟩, by unfold partS; simp⟩
theorem okB_mk {p e : Int} {cells : List Int} (hp : okC p) (he : okC e) (hc : okE cells) : okB (mk p e cells) := by
  refine ⟨rfl, fun s hs => ?_⟩
  unfold mk madeS at hs
  simp only [List.map_cons, List.map_nil, List.mem_cons, List.not_mem_nil, or_false] at hs
  rcases hs with rfl | rfl | rfl | rfl
  · exact (part_ok hp he (by omega) hc).1
  · exact (part_ok hp he (by omega) hc).1
  · exact (part_ok hp he (by omega) hc).1
  · exact (part_ok hp he (by omega) hc).1
theorem mk_at {p e : Int} {cells : List Int} {k : Nat} (hk : k < 4) : atS (mk p e cells) k = some (partS p e cells k) := by
  match k, hk with
  | 0, _ | 1, _ | 2, _ | 3, _ => rfl
theorem par_ok {i j : Nat} {fs : IE → M (List IV)} {σ : IE} {h h1 : IH} {v w : IV} (e : fs σ h = .ok [v, w] h1) : parS i j fs σ h = .nx ((σ.set i (some v)).set j (some w)) h1 := by
  unfold parS
  rw [e]; rfl
theorem app_ok {fa : IE → M IV} {σ : IE} {h h1 : IH} {n i : Nat} {xs : List IV} {v : IV} (ei : σ[i]? = some (some (.ref n))) (hn : h.length = n) (e : fa σ (h ++ [.lst xs]) = .ok v (h1 ++ [.lst xs])) (hn1 : h1.length = n) (hl : xs.length ≤ 1000) : exprS (mthE "list" appM (varE i) (consA fa nilA)) σ (h ++ [.lst xs]) = .nx σ (h1 ++ [.lst (xs ++ [v])]) := by
  subst hn
  have g1 : (h1 ++ [EV.IO.lst xs])[h.length]? = some (.lst xs) := by rw [← hn1]; exact get_last
  have s1 : (h1 ++ [EV.IO.lst xs]).set h.length (.lst (xs ++ [v])) = h1 ++ [.lst (xs ++ [v])] := by rw [← hn1]; exact set_last
  have vi : ∀ H, varE i σ H = .ok (.ref h.length) H := fun H => by unfold varE; rw [ei]
  refine expr_ok (v := .non) (mth_ok (o := .ref h.length) (vi _) (by simp only [tyName, get_last]) (arg_ok e rfl) ?_)
  unfold appM
  simp only [g1]
  rw [if_pos (by omega), s1]
theorem addR {h : IH} {n : Nat} {xs ys : List IV} (e : h[n]? = some (.lst xs)) (hl : xs.length + ys.length ≤ 1000) : addI (.ref n) (.lst ys) h = .ok (.lst (xs ++ ys)) h := by
  have l : EV.lsO h (.ref n) = some xs := by simp only [EV.lsO, e]
  show (match EV.lsO h (.ref n), EV.lsO h (.lst ys) with
    | some xs, some ys => if xs.length + ys.length ≤ sizeLine then Out.ok (IV.lst (xs ++ ys)) h else .no
    | _, _ => .no) = _
  rw [l]
  show (if xs.length + ys.length ≤ sizeLine then Out.ok (IV.lst (xs ++ ys)) h else .no) = _
  rw [if_pos (by rw [sizeLine_eq]; omega)]
theorem addLL {h : IH} {xs ys : List IV} (hl : xs.length + ys.length ≤ 1000) : addI (.lst xs) (.lst ys) h = .ok (.lst (xs ++ ys)) h := by
  show (if xs.length + ys.length ≤ sizeLine then Out.ok (IV.lst (xs ++ ys)) h else .no) = _
  rw [if_pos (by rw [sizeLine_eq]; omega)]
theorem law_near_t {h : IH} {n r : Nat} (k : Hok h) (hn : h.length = n) (hr : r < n) {p e : Int} {cells : List Int} (hp : 0 ≤ p ∧ p ≤ 239) (he : 1 ≤ e ∧ e ≤ 100000000000000000) (hc : okE cells) :
    ∃ bs h1 t, c__law_near [.ref r, .int p, .int e, tupOf cells] h = .ok (.lst (bs.map blkV)) (h1 ++ [t]) ∧ Hok h1 ∧ h1.length = n ∧ bs ≠ [] ∧ bs.length ≤ 100 ∧ ∀ b ∈ bs, okB b := by
  have okp : okC p := ⟨hp.1, by omega⟩
  have oke : okC e := ⟨by omega, by omega⟩
  obtain ⟨mv, h1, e1, k1, n1, hm⟩ := choice_t (tl := []) k hn hr (xs := [.int 1, .int 2, .int (10 ^ 9)]) (by simp) (by decide)
  have hm' : ∃ m : Int, mv = .int m ∧ 1 ≤ m ∧ m ≤ 1000000000 := by
    simp only [List.mem_cons, List.not_mem_nil, or_false] at hm
    rcases hm with rfl | rfl | rfl
    · exact ⟨_, rfl, by omega, by omega⟩
    · exact ⟨_, rfl, by omega, by omega⟩
    · exact ⟨_, rfl, by omega, by omega⟩
  obtain ⟨m, rfl, m1, m2⟩ := hm'
  simp only [List.append_nil] at e1
  obtain ⟨av, h2, e2, k2, n2, i, rfl, i0, i1⟩ := dip_t (tl := []) k1 n1 hr (t := 4) (by omega) (by omega)
  simp only [List.append_nil] at e2
  obtain ⟨a, rfl⟩ : ∃ a : Nat, i = (a : Int) := ⟨i.toNat, by omega⟩
  have ha : a < 4 := by omega
  have okem : okC (e + m) := ⟨by omega, by omega⟩
  have oB := okB_mk okp oke hc
  generalize hB : mk p e cells = B at oB
  have lB := oB.len
  obtain ⟨⟨here16, hereE⟩, here3⟩ := part_ok (k := a) okp oke ha hc
  have atB : atS B a = some (partS p e cells a) := by rw [← hB]; exact mk_at ha
  generalize hH : partS p e cells a = hre at here16 hereE here3 atB
  have made1 : ∀ H, c__law_made [.int p, .int e, tupOf cells] H = .ok (blkV B) H := fun H => by rw [law_made, ← hB, blk_mk]
  have stA : parS 8 9 (consA (callE none 3 c__law_made (consA (varE 1) (consA (varE 2) (consA (varE 3) nilA)))) (consA (callE none 2 c__law_choice (consA (varE 0) (consA (lstE (capA (consA (cstE (.int 1)) (consA (cstE (.int 2)) (consA (binE powI (cstE (.int 10)) (cstE (.int 9))) nilA))))) nilA))) nilA)) (startI 11 [.ref r, .int p, .int e, tupOf cells]) h = .nx [some (.ref r), some (.int p), some (.int e), some (tupOf cells), none, none, none, none, some (blkV B), some (.int m), none] h1 :=
    par_ok (arg_ok (call_ok (arg_ok rfl (arg_ok rfl (arg_ok rfl rfl))) rfl (made1 _)) (arg_ok (call_ok (arg_ok rfl (arg_ok rfl rfl)) rfl e1) rfl))
  have stB : asgS (callE none 2 c__law_dip (consA (varE 0) (consA (cstE (.int 4)) nilA))) (gNm 4) [some (.ref r), some (.int p), some (.int e), some (tupOf cells), none, none, none, none, some (blkV B), some (.int m), none] h1 = .nx [some (.ref r), some (.int p), some (.int e), some (tupOf cells), some (.int a), none, none, none, some (blkV B), some (.int m), none] h2 := asg_nm (call_ok (arg_ok rfl (arg_ok rfl rfl)) rfl e2)
  have stC : asgS (binE subD (varE 8) (varE 4)) (gNm 5) [some (.ref r), some (.int p), some (.int e), some (tupOf cells), some (.int a), none, none, none, some (blkV B), some (.int m), none] h2 = .nx [some (.ref r), some (.int p), some (.int e), some (tupOf cells), some (.int a), some (tupOf hre), none, none, some (blkV B), some (.int m), none] h2 := asg_nm (bin_ok rfl rfl ((sub_blk (by omega)).trans (by rw [atB]; rfl)))
  have b0 : binE mulDI (tupE (consA (tupE nilA) nilA)) (cstE (.int 4)) [some (.ref r), some (.int p), some (.int e), some (tupOf cells), some (.int a), some (tupOf hre), none, none, some (blkV B), some (.int m), none] h2 = .ok (blkV [some [], some [], some [], some []]) h2 := blank4 (arg_ok (tup_ok rfl (by simp)) rfl)
  have bn : binE mulDI (tupE (consA (cstE .non) nilA)) (cstE (.int 4)) [some (.ref r), some (.int p), some (.int e), some (tupOf cells), some (.int a), some (tupOf hre), none, none, some (blkV B), some (.int m), none] h2 = .ok (blkV [none, none, none, none]) h2 := blank4 (arg_ok rfl rfl)
  have rv : revE (varE 8) [some (.ref r), some (.int p), some (.int e), some (tupOf cells), some (.int a), some (tupOf hre), none, none, some (blkV B), some (.int m), none] h2 = .ok (blkV B.reverse) h2 := by
    show Out.ok (IV.tup (B.map secV).reverse) h2 = _
    rw [← List.map_reverse]; rfl
  have w1 : callE none 3 c__law_with (consA (varE 8) (consA (varE 4) (consA (tupE nilA) nilA))) [some (.ref r), some (.int p), some (.int e), some (tupOf cells), some (.int a), some (tupOf hre), none, none, some (blkV B), some (.int m), none] h2 = .ok (blkV (withS B a (some []))) h2 := call_ok (arg_ok rfl (arg_ok rfl (arg_ok (tup_ok rfl (by simp)) rfl))) rfl (ev_with (s := some []) (by omega))
  have w2 : callE none 3 c__law_with (consA (varE 8) (consA (varE 4) (consA (cstE .non) nilA))) [some (.ref r), some (.int p), some (.int e), some (tupOf cells), some (.int a), some (tupOf hre), none, none, some (blkV B), some (.int m), none] h2 = .ok (blkV (withS B a none)) h2 := call_ok (arg_ok rfl (arg_ok rfl (arg_ok rfl rfl))) rfl (ev_with (s := none) (by omega))
  have stD : asgS (refE (capA (consA (varE 8) (consA (revE (varE 8)) (consA (binE mulDI (tupE (consA (tupE nilA) nilA)) (cstE (.int 4))) (consA (binE mulDI (tupE (consA (cstE .non) nilA)) (cstE (.int 4))) (consA (callE none 3 c__law_with (consA (varE 8) (consA (varE 4) (consA (tupE nilA) nilA)))) (consA (callE none 3 c__law_with (consA (varE 8) (consA (varE 4) (consA (cstE .non) nilA)))) nilA)))))))) (gNm 6) [some (.ref r), some (.int p), some (.int e), some (tupOf cells), some (.int a), some (tupOf hre), none, none, some (blkV B), some (.int m), none] h2 = .nx [some (.ref r), some (.int p), some (.int e), some (tupOf cells), some (.int a), some (tupOf hre), some (.ref h2.length), none, some (blkV B), some (.int m), none] (h2 ++ [.lst ([B, B.reverse, [some [], some [], some [], some []], [none, none, none, none], withS B a (some []), withS B a none].map blkV)]) := by
    exact asg_nm (i := 6) (ref_ok (arg_ok rfl (arg_ok rv (arg_ok b0 (arg_ok bn (arg_ok w1 (arg_ok w2 rfl)))))) (by simp))
  rw [n2] at stD
  generalize hS : ([some (.ref r), some (.int p), some (.int e), some (tupOf cells), some (.int a), some (tupOf hre), some (.ref n), none, some (blkV B), some (.int m), none] : IE) = S at stD
  have v0 : ∀ H, varE 0 S H = .ok (.ref r) H := fun H => by rw [← hS]; rfl
  have v1 : ∀ H, varE 1 S H = .ok (.int p) H := fun H => by rw [← hS]; rfl
  have v2 : ∀ H, varE 2 S H = .ok (.int e) H := fun H => by rw [← hS]; rfl
  have v4 : ∀ H, varE 4 S H = .ok (.int a) H := fun H => by rw [← hS]; rfl
  have v5 : ∀ H, varE 5 S H = .ok (tupOf hre) H := fun H => by rw [← hS]; rfl
  have v8 : ∀ H, varE 8 S H = .ok (blkV B) H := fun H => by rw [← hS]; rfl
  have v9 : ∀ H, varE 9 S H = .ok (.int m) H := fun H => by rw [← hS]; rfl
  have s6 : S[6]? = some (some (.ref n)) := by rw [← hS]; rfl
  have app : ∀ (X : IE → M IV) (s : List Int) (L : List (List Sec)), (∀ H, X S H = .ok (tupOf s) H) → L.length ≤ 500 → exprS (mthE "list" appM (varE 6) (consA (callE none 3 c__law_with (consA (varE 8) (consA (varE 4) (consA X nilA)))) nilA)) S (h2 ++ [.lst (L.map blkV)]) = .nx S (h2 ++ [.lst ((L ++ [withS B a (some s)]).map blkV)]) := fun X s L eX hL => by
    have q := app_ok (fa := callE none 3 c__law_with (consA (varE 8) (consA (varE 4) (consA X nilA)))) s6 n2 (xs := L.map blkV) (call_ok (arg_ok (v8 _) (arg_ok (v4 _) (arg_ok (eX _) rfl))) rfl (ev_with (s := some s) (by omega))) n2 (by rw [List.length_map]; omega)
    rw [q]
    simp
  generalize hL0 : [B, B.reverse, [some [], some [], some [], some []], [none, none, none, none], withS B a (some []), withS B a none] = L0 at stD
  have l0 : L0.length = 6 := by rw [← hL0]; rfl
  have x1 : ∀ H, binE addI (tupE (consA (binE addI (varE 1) (cstE (.int 1))) nilA)) (sliE (varE 5) (someO (cstE (.int 1))) noneO) S H = .ok (tupOf ([p + 1] ++ hre.drop 1)) H := fun H => bin_ok (v := tupOf [p + 1]) (tup_ok (arg_ok (bin_ok (v1 _) rfl add_int) rfl) (by simp)) (sliT_from (k := 1) (v5 _) rfl) (add_ints (by simp; omega))
  have x2 : ∀ H, binE addI (tupE (consA (varE 1) (consA (binE addI (varE 2) (varE 9)) nilA))) (sliE (varE 5) (someO (cstE (.int 2))) noneO) S H = .ok (tupOf ([p, e + m] ++ hre.drop 2)) H := fun H => bin_ok (v := tupOf [p, e + m]) (tup_ok (arg_ok (v1 _) (arg_ok (bin_ok (v2 _) (v9 _) add_int) rfl)) (by simp)) (sliT_from (k := 2) (v5 _) rfl) (add_ints (by simp; omega))
  have x3 : ∀ H, sliE (varE 5) noneO (someO (cstE (.int 2))) S H = .ok (tupOf (hre.take 2)) H := fun H => sliT_to (k := 2) (v5 _) rfl
  have x4 : ∀ H, binE addI (binE addI (sliE (varE 5) noneO (someO (cstE (.int 3)))) (tupE (consA (cstE (.int 5)) nilA))) (sliE (varE 5) (someO (cstE (.int 4))) noneO) S H = .ok (tupOf (hre.take 3 ++ [5] ++ hre.drop 4)) H := fun H => bin_ok (bin_ok (u := tupOf [5]) (sliT_to (k := 3) (v5 _) rfl) (tup_ok (arg_ok rfl rfl) (by simp)) (add_ints (by simp; omega))) (sliT_from (k := 4) (v5 _) rfl) (add_ints (by simp; omega))
  have x5 : ∀ H, binE addI (binE addI (sliE (varE 5) noneO (someO (cstE (.int 2)))) (tupE (consA (binE modI (bltE intI (consA (binE addI (varE 4) (cstE (.int 1))) nilA)) (cstE (.int 4))) nilA))) (sliE (varE 5) (someO (cstE (.int 3))) noneO) S H = .ok (tupOf (hre.take 2 ++ [((a : Int) + 1) % 4] ++ hre.drop 3)) H := fun H => bin_ok (bin_ok (u := tupOf [((a : Int) + 1) % 4]) (sliT_to (k := 2) (v5 _) rfl) (tup_ok (arg_ok (bin_ok (v := .int ((a : Int) + 1)) (blt_ok (arg_ok (bin_ok (v4 _) rfl add_int) rfl) rfl) rfl (mod_ok (by omega))) rfl) (by simp)) (add_ints (by simp; omega))) (sliT_from (k := 3) (v5 _) rfl) (add_ints (by simp; omega))
  have x6 : ∀ H, sliE (binE addI (varE 5) (tupE (consA (cstE (.int 7)) nilA))) noneO (someO (cstE (.int 16))) S H = .ok (tupOf ((hre ++ [7]).take 16)) H := fun H => sliT_to (k := 16) (bin_ok (u := tupOf [7]) (v5 _) (tup_ok (arg_ok rfl rfl) (by simp)) (add_ints (by simp; omega))) rfl
  have stE1 := app _ _ L0 x1 (by omega)
  have stE2 := app _ _ (L0 ++ [withS B a (some ([p + 1] ++ hre.drop 1))]) x2 (by simp; omega)
  have stE3 := app _ _ (L0 ++ [withS B a (some ([p + 1] ++ hre.drop 1))] ++ [withS B a (some ([p, e + m] ++ hre.drop 2))]) x3 (by simp; omega)
  have stE4 := app _ _ (L0 ++ [withS B a (some ([p + 1] ++ hre.drop 1))] ++ [withS B a (some ([p, e + m] ++ hre.drop 2))] ++ [withS B a (some (hre.take 2))]) x4 (by simp; omega)
  have stE5 := app _ _ (L0 ++ [withS B a (some ([p + 1] ++ hre.drop 1))] ++ [withS B a (some ([p, e + m] ++ hre.drop 2))] ++ [withS B a (some (hre.take 2))] ++ [withS B a (some (hre.take 3 ++ [5] ++ hre.drop 4))]) x5 (by simp; omega)
  have stE6 := app _ _ (L0 ++ [withS B a (some ([p + 1] ++ hre.drop 1))] ++ [withS B a (some ([p, e + m] ++ hre.drop 2))] ++ [withS B a (some (hre.take 2))] ++ [withS B a (some (hre.take 3 ++ [5] ++ hre.drop 4))] ++ [withS B a (some (hre.take 2 ++ [((a : Int) + 1) % 4] ++ hre.drop 3))]) x6 (by simp; omega)
  generalize hL1 : L0 ++ [withS B a (some ([p + 1] ++ hre.drop 1))] ++ [withS B a (some ([p, e + m] ++ hre.drop 2))] ++ [withS B a (some (hre.take 2))] ++ [withS B a (some (hre.take 3 ++ [5] ++ hre.drop 4))] ++ [withS B a (some (hre.take 2 ++ [((a : Int) + 1) % 4] ++ hre.drop 3))] ++ [withS B a (some ((hre ++ [7]).take 16))] = L1 at stE6
  have l1 : L1.length = 12 := by rw [← hL1]; simp [l0]
  have k0 : okB [some [], some [], some [], some []] := ⟨rfl, by simp [okS, okL]⟩
  have kn : okB [none, none, none, none] := ⟨rfl, by simp [okS]⟩
  have kr : okB B.reverse := ⟨by simp [lB], fun s hs => oB.sec s (List.mem_reverse.mp hs)⟩
  have kw : ∀ s, okL s → okB (withS B a (some s)) := fun s os => okB_with oB ha os
  have oL1 : ∀ b ∈ L1, okB b := by
    intro b hb
    rw [← hL1, ← hL0] at hb
    simp only [List.mem_append, List.mem_cons, List.not_mem_nil, or_false] at hb
    rcases hb with (((((((rfl | rfl | rfl | rfl | rfl | rfl) | rfl) | rfl) | rfl) | rfl) | rfl) | rfl)
    · exact oB
    · exact kr
    · exact k0
    · exact kn
    · exact kw _ (by simp [okL])
    · exact okB_with oB ha trivial
    · exact kw _ ⟨by simp; omega, okE_app (okE_cons ⟨by omega, by omega⟩ okE_nil) (okE_drop hereE)⟩
    · exact kw _ ⟨by simp; omega, okE_app (okE_cons okp (okE_cons okem okE_nil)) (okE_drop hereE)⟩
    · exact kw _ ⟨by simp; omega, okE_take hereE⟩
    · exact kw _ ⟨by simp; omega, okE_app (okE_app (okE_take hereE) (okE_cons ⟨by omega, by omega⟩ okE_nil)) (okE_drop hereE)⟩
    · exact kw _ ⟨by simp; omega, okE_app (okE_app (okE_take hereE) (okE_cons ⟨by omega, by omega⟩ okE_nil)) (okE_drop hereE)⟩
    · exact kw _ ⟨by simp; omega, okE_take (okE_app hereE (okE_cons ⟨by omega, by omega⟩ okE_nil))⟩
  obtain ⟨cv, h3, e3, k3, n3, cells2, rfl, _, c2⟩ := law_cells_t (tl := [.lst (L1.map blkV)]) k2 n2 hr
  have oC := okB_mk okp okem c2
  have made2 : ∀ H, c__law_made [.int p, .int (e + m), tupOf cells2] H = .ok (blkV (mk p (e + m) cells2)) H := fun H => by rw [law_made, blk_mk]
  generalize hC : mk p (e + m) cells2 = C at oC made2
  have lC := oC.len
  have stF : asgS (callE none 3 c__law_made (consA (varE 1) (consA (binE addI (varE 2) (varE 9)) (consA (callE none 1 c__law_cells (consA (varE 0) nilA)) nilA)))) (gNm 7) S (h2 ++ [.lst (L1.map blkV)]) = .nx (S.set 7 (some (blkV C))) (h3 ++ [.lst (L1.map blkV)]) := asg_nm (call_ok (arg_ok (v1 _) (arg_ok (bin_ok (v2 _) (v9 _) add_int) (arg_ok (call_ok (arg_ok (v0 _) rfl) rfl e3) rfl))) rfl (made2 _))
  generalize hS2 : S.set 7 (some (blkV C)) = S2 at stF
  have u0 : ∀ H, varE 0 S2 H = .ok (.ref r) H := fun H => by rw [← hS2, ← hS]; rfl
  have u1 : ∀ H, varE 1 S2 H = .ok (.int p) H := fun H => by rw [← hS2, ← hS]; rfl
  have u4 : ∀ H, varE 4 S2 H = .ok (.int a) H := fun H => by rw [← hS2, ← hS]; rfl
  have u6 : ∀ H, varE 6 S2 H = .ok (.ref n) H := fun H => by rw [← hS2, ← hS]; rfl
  have u7 : ∀ H, varE 7 S2 H = .ok (blkV C) H := fun H => by rw [← hS2, ← hS]; rfl
  have u8 : ∀ H, varE 8 S2 H = .ok (blkV B) H := fun H => by rw [← hS2, ← hS]; rfl
  obtain ⟨bv, h4, e4, k4, n4, D, rfl, oD⟩ := law_block_t (tl := [.lst (L1.map blkV)]) k3 n3 hr
  have g4 : (h4 ++ [EV.IO.lst (L1.map blkV)])[n]? = some (.lst (L1.map blkV)) := by rw [← n4]; exact get_last
  have stG : asgS (binE addI (varE 6) (lstE (capA (consA (varE 7) (consA (binE addI (sliE (varE 8) noneO (someO (varE 4))) (sliE (varE 7) (someO (varE 4)) noneO)) (consA (callE none 1 c__law_block (consA (varE 0) nilA)) nilA)))))) (gNm 6) S2 (h3 ++ [.lst (L1.map blkV)]) = .nx (S2.set 6 (some (.lst (L1.map blkV ++ [blkV C, blkV (B.take a ++ C.drop a), blkV D])))) (h4 ++ [.lst (L1.map blkV)]) := asg_nm (bin_ok (u6 _) (lst_ok (arg_ok (u7 _) (arg_ok (bin_ok (sliB_to (u8 _) (u4 _)) (sliB_from (u7 _) (u4 _)) (add_blk (by simp; omega))) (arg_ok (call_ok (arg_ok (u0 _) rfl) rfl e4) rfl))) (by simp)) (addR g4 (by simp; omega)))
  generalize hS3 : S2.set 6 (some (.lst (L1.map blkV ++ [blkV C, blkV (B.take a ++ C.drop a), blkV D]))) = S3 at stG
  have t1 : ∀ H, varE 1 S3 H = .ok (.int p) H := fun H => by rw [← hS3, ← hS2, ← hS]; rfl
  have t6 : ∀ H, varE 6 S3 H = .ok (.lst (L1.map blkV ++ [blkV C, blkV (B.take a ++ C.drop a), blkV D])) H := fun H => by rw [← hS3, ← hS2, ← hS]; rfl
  have lst4 := lc_all (σ := S3) (h := h4 ++ [.lst (L1.map blkV)]) (fi := rngIt (consA (cstE (.int 4)) nilA)) (g := gNm 10) (f := tupE (consA (varE 1) (consA (cstE (.int 0)) (consA (varE 10) nilA)))) (ws := [10]) (fun (k : Nat) => IV.int (k : Int)) (fun k => tupOf [p, 0, (k : Int)]) [0, 1, 2, 3] rfl (by decide) fun k hk => ⟨_, rfl, by
    rw [← hS3, ← hS2, ← hS]
    exact tup_ok (arg_ok rfl (arg_ok rfl (arg_ok rfl rfl))) (by simp)⟩
  have fin : binE addI (varE 6) (lstE (capA (consA (bltE tupleI (consA (lcI (rngIt (consA (cstE (.int 4)) nilA)) (gNm 10) yesT (tupE (consA (varE 1) (consA (cstE (.int 0)) (consA (varE 10) nilA)))) [10]) nilA)) nilA))) S3 (h4 ++ [.lst (L1.map blkV)]) = .ok (.lst ((L1 ++ [C, B.take a ++ C.drop a, D, [some [p, 0, 0], some [p, 0, 1], some [p, 0, 2], some [p, 0, 3]]]).map blkV)) (h4 ++ [.lst (L1.map blkV)]) := by
    refine (bin_ok (t6 _) (lst_ok (arg_ok (tuple_of lst4) rfl) (by simp)) (addLL (by simp; omega))).trans ?_
    simp [blkV, secV]
  refine ⟨L1 ++ [C, B.take a ++ C.drop a, D, [some [p, 0, 0], some [p, 0, 1], some [p, 0, 2], some [p, 0, 3]]], h4, .lst (L1.map blkV), ?_, k4, n4, by simp, by simp; omega, ?_⟩
  · exact def_rt ((seq_nx stA).trans ((seq_nx stB).trans ((seq_nx stC).trans ((seq_nx stD).trans ((seq_nx stE1).trans ((seq_nx stE2).trans ((seq_nx stE3).trans ((seq_nx stE4).trans ((seq_nx stE5).trans ((seq_nx stE6).trans ((seq_nx stF).trans ((seq_nx stG).trans (seq_rt (ret_ok fin))))))))))))))
  · intro b hb
    simp only [List.mem_append, List.mem_cons, List.not_mem_nil, or_false] at hb
    rcases hb with hb | rfl | rfl | rfl | rfl
    · exact oL1 b hb
    · exact oC
    · refine ⟨by simp; omega, fun s hs => ?_⟩
      rcases List.mem_append.mp hs with hs | hs
      · exact oB.sec s (List.mem_of_mem_take hs)
      · exact oC.sec s (List.mem_of_mem_drop hs)
    · exact oD
    · refine ⟨rfl, fun s hs => ?_⟩
      have z : ∀ k : Int, 0 ≤ k → k ≤ 3 → okS (some [p, 0, k]) := fun k a b => ⟨by simp, okE_cons okp (okE_cons ⟨by omega, by omega⟩ (okE_cons ⟨by omega, by omega⟩ okE_nil))⟩
      simp only [List.mem_cons, List.not_mem_nil, or_false] at hs
      rcases hs with rfl | rfl | rfl | rfl
      · exact z 0 (by omega) (by omega)
      · exact z 1 (by omega) (by omega)
      · exact z 2 (by omega) (by omega)
      · exact z 3 (by omega) (by omega)
end K08
namespace K08
open PySem PySem.Spec PyProof.Rows EV
open L2 hiding eqV keyOf
theorem for_drw {α : Type} {n : Nat} {g : TM} {f : SM} (V : α → IV) (I : List α → IE → IH → Prop) (step : ∀ y ys σ h tl, Hok h → h.length = n → I (y :: ys) σ tl → ∃ σ1 σ2 h2 tl2, g (V y) σ (h ++ tl) = some (σ1, h ++ tl) ∧ f σ1 (h ++ tl) = .nx σ2 (h2 ++ tl2) ∧ Hok h2 ∧ h2.length = n ∧ I ys σ2 tl2) :
    ∀ (ys : List α) (σ : IE) (h tl : IH), Hok h → h.length = n → I ys σ tl → ∃ σ' h' tl', forL g f (ys.map V) σ (h ++ tl) = .nx σ' (h' ++ tl') ∧ Hok h' ∧ h'.length = n ∧ I [] σ' tl'
  | [], σ, h, tl, k, hn, i => ⟨σ, h, tl, rfl, k, hn, i⟩
  | y :: ys, σ, h, tl, k, hn, i => by
    obtain ⟨σ1, σ2, h2, tl2, e1, e2, k2, n2, i2⟩ := step y ys σ h tl k hn i
    obtain ⟨σ3, h3, tl3, e3, k3, n3, i3⟩ := for_drw V I step ys σ2 h2 tl2 k2 n2 i2
    exact ⟨σ3, h3, tl3, (forL_nx e1 e2).trans e3, k3, n3, i3⟩
/-- a copy of sectors out of some blocks -/
def From (bs : List (List Sec)) (c : List Sec) : Prop := c.length = 4 ∧ ∀ k < 4, atS c k = none ∨ ∃ b ∈ bs, atS c k = atS b k
theorem okB_from {bs : List (List Sec)} {c : List Sec} (o : ∀ b ∈ bs, okB b) (f : From bs c) : okB c := by
  refine ⟨f.1, fun s hs => ?_⟩
  obtain ⟨k, hk, e⟩ := List.getElem_of_mem hs
  have ha : atS c k = s := by
    unfold atS
    rw [List.getD_eq_getElem?_getD, List.getElem?_eq_getElem hk, e]; rfl
  rw [← ha]
  rcases f.2 k (by have := f.1; omega) with h | ⟨b, hb, h⟩
  · rw [h]; trivial
  · rw [h]
    cases hq : atS b k with
    | none => trivial
    | some x => exact (o b hb).sec _ (List.mem_of_getElem? (atS_mem hq))
theorem atS_app {c : List Sec} {s : Sec} {k : Nat} : atS (c ++ [s]) k = if k = c.length then s else atS c k := by
  unfold atS
  simp only [List.getD_eq_getElem?_getD]
  by_cases h : k < c.length
  · rw [List.getElem?_append_left h, if_neg (by omega)]
  · by_cases h2 : k = c.length
    · subst h2; simp
    · rw [if_neg h2, List.getElem?_eq_none (by simp; omega), List.getElem?_eq_none (by omega)]
abbrev bodyC1 : SM := (seqS (exprS (mthE "list" appM (varE 4) (consA (iteE (cmpT eqDI (callE none 2 c__law_dip (consA (varE 0) (consA (cstE (.int 9)) nilA))) (cstE (.int 0))) (cstE .non) (binE subD (callE none 2 c__law_choice (consA (varE 0) (consA (varE 1) nilA))) (varE 5))) nilA)))
    nextS)
abbrev bodyC2 : SM := (seqS (asgS (refE (capA nilA)) (gNm 4))
    (seqS (forS (rngIt (consA (cstE (.int 4)) nilA)) (gNm 5) bodyC1)
    (seqS (exprS (mthE "list" appM (varE 2) (consA (bltE tupleI (consA (varE 4) nilA)) nilA)))
    nextS)))
theorem copy_one {bs : List (List Sec)} {n r : Nat} (hr : r < n) (hb : bs ≠ []) (hbl : bs.length ≤ 1000) (o : ∀ b ∈ bs, okB b) {h tl : IH} (k : Hok h) (hn : h.length = n) {m : Nat} (hm : m = n + tl.length) {x2 x3 x5 : Option IV} :
    ∃ c h2 y5, From bs c ∧ forS (rngIt (consA (cstE (.int 4)) nilA)) (gNm 5) bodyC1 [some (.ref r), some (.lst (bs.map blkV)), x2, x3, some (.ref m), x5] (h ++ (tl ++ [.lst []])) = .nx [some (.ref r), some (.lst (bs.map blkV)), x2, x3, some (.ref m), y5] (h2 ++ (tl ++ [.lst (c.map secV)])) ∧ Hok h2 ∧ h2.length = n := by
  have loop := for_drw (n := n) (g := gNm 5) (f := bodyC1) (fun k : Nat => IV.int (k : Int)) (fun ks σ t => ∃ c y5, σ = [some (.ref r), some (.lst (bs.map blkV)), x2, x3, some (.ref m), y5] ∧ t = tl ++ [.lst (c.map secV)] ∧ c.length + ks.length = 4 ∧ (∀ j y, ks[j]? = some y → y = c.length + j) ∧ ∀ k < c.length, atS c k = none ∨ ∃ b ∈ bs, atS c k = atS b k)
    (fun y ks σ h t k hn => by
      rintro ⟨c, y5, e1, e2, e3, e4, e5⟩
      subst e1 e2
      have hy : y = c.length := by simpa using e4 0 y rfl
      subst hy
      simp only [List.length_cons] at e3
      have hc4 : c.length < 4 := by omega
      have key : ∃ (s : Sec) (h2 : IH), (s = none ∨ ∃ b ∈ bs, s = atS b c.length) ∧ Hok h2 ∧ h2.length = n ∧ iteE (cmpT eqDI (callE none 2 c__law_dip (consA (varE 0) (consA (cstE (.int 9)) nilA))) (cstE (.int 0))) (cstE .non) (binE subD (callE none 2 c__law_choice (consA (varE 0) (consA (varE 1) nilA))) (varE 5)) [some (.ref r), some (.lst (bs.map blkV)), x2, x3, some (.ref m), some (.int (c.length : Int))] (h ++ (tl ++ [.lst (c.map secV)])) = .ok (secV s) (h2 ++ (tl ++ [.lst (c.map secV)])) := by
        obtain ⟨iv, h1, e1, k1, n1, i, rfl, i0, i1⟩ := dip_t (tl := tl ++ [.lst (c.map secV)]) k hn hr (t := 9) (by omega) (by omega)
        have t : cmpT eqDI (callE none 2 c__law_dip (consA (varE 0) (consA (cstE (.int 9)) nilA))) (cstE (.int 0)) [some (.ref r), some (.lst (bs.map blkV)), x2, x3, some (.ref m), some (.int (c.length : Int))] (h ++ (tl ++ [.lst (c.map secV)])) = .ok (decide (i = 0)) (h1 ++ (tl ++ [.lst (c.map secV)])) := cmp_ok (call_ok (arg_ok rfl (arg_ok rfl rfl)) rfl e1) rfl eq_int
        by_cases hi : i = 0
        · rw [decide_eq_true hi] at t
          exact ⟨none, h1, .inl rfl, k1, n1, ite_ok t rfl⟩
        · rw [decide_eq_false hi] at t
          obtain ⟨v, h3, e3', k3, n3, hv⟩ := choice_t (tl := tl ++ [.lst (c.map secV)]) k1 n1 hr (xs := bs.map blkV) (by simpa using hb) (by rw [List.length_map]; omega)
          obtain ⟨b, hbm, rfl⟩ := List.mem_map.mp hv
          refine ⟨atS b c.length, h3, .inr ⟨b, hbm, rfl⟩, k3, n3, ite_ok t ?_⟩
          rw [if_neg (by simp)]
          exact bin_ok (call_ok (arg_ok rfl (arg_ok rfl rfl)) rfl e3') rfl (sub_blk (by have := (o b hbm).len; omega))
      obtain ⟨s, h2, hs, k2, n2, ev⟩ := key
      refine ⟨_, [some (.ref r), some (.lst (bs.map blkV)), x2, x3, some (.ref m), some (.int (c.length : Int))], h2, tl ++ [.lst ((c ++ [s]).map secV)], rfl, ?_, k2, n2, c ++ [s], _, rfl, rfl, by simp; omega, fun j y hj => ?_, fun k hk => ?_⟩
      · have g1 : (h ++ (tl ++ [EV.IO.lst (c.map secV)])) = (h ++ tl) ++ [EV.IO.lst (c.map secV)] := by simp
        have g2 : (h2 ++ (tl ++ [EV.IO.lst (c.map secV)])) = (h2 ++ tl) ++ [EV.IO.lst (c.map secV)] := by simp
        rw [g1, g2] at ev
        rw [g1, show h2 ++ (tl ++ [EV.IO.lst ((c ++ [s]).map secV)]) = (h2 ++ tl) ++ [EV.IO.lst (c.map secV ++ [secV s])] by simp]
        exact (seq_nx (app_ok (n := m) (i := 4) rfl (by simp; omega) ev (by simp; omega) (by simp; omega))).trans rfl
      · have := e4 (j + 1) y (by simpa using hj)
        simp; omega
      · rw [atS_app]
        by_cases z : k = c.length
        · rw [if_pos z, z]
          rcases hs with hs | hs
          · exact .inl hs
          · exact .inr hs
        · rw [if_neg z]
          exact e5 k (by simp at hk; omega))
    [0, 1, 2, 3] [some (.ref r), some (.lst (bs.map blkV)), x2, x3, some (.ref m), x5] h (tl ++ [.lst []]) k hn ⟨[], x5, rfl, rfl, rfl, fun j y hj => by
      match j, hj with
      | 0, hj | 1, hj | 2, hj | 3, hj => simp at hj; simp; omega
      | j + 4, hj => simp at hj, fun k hk => by simp at hk⟩
  obtain ⟨σ', h', tl', e, k', n', c, y5, e1, e2, e3, _, e5⟩ := loop
  subst e1 e2
  simp only [List.length_nil, Nat.add_zero] at e3
  exact ⟨c, h', y5, ⟨e3, fun k hk => e5 k (by omega)⟩, for_nx (xs := [0, 1, 2, 3].map fun k : Nat => IV.int (k : Int)) rfl e, k', n'⟩
theorem law_copies_t {bs : List (List Sec)} {h : IH} {n r : Nat} (k : Hok h) (hn : h.length = n) (hr : r < n) (hb : bs ≠ []) (hbl : bs.length ≤ 1000) (o : ∀ b ∈ bs, okB b) : ∃ cs h1 tl, c__law_copies [.ref r, .lst (bs.map blkV)] h = .ok (copV cs) (h1 ++ tl) ∧ Hok h1 ∧ h1.length = n ∧ 1 ≤ cs.length ∧ cs.length ≤ 3 ∧ ∀ c ∈ cs, From bs c := by
  obtain ⟨iv, h1, e1, k1, n1, i, rfl, i0, i1⟩ := dip_t (tl := [.lst []]) k hn hr (t := 3) (by omega) (by omega)
  obtain ⟨j, hj, hj1, hj2⟩ : ∃ j : Nat, 1 + i = (j : Int) ∧ 1 ≤ j ∧ j ≤ 3 := ⟨(1 + i).toNat, by omega, by omega, by omega⟩
  have hjm : j ∈ [0, 1, 2, 3, 12, 13, 14, 15, 16, 26, 27, 39, 51, 52] := by
    have : j = 1 ∨ j = 2 ∨ j = 3 := by omega
    rcases this with rfl | rfl | rfl <;> simp
  have loop := for_drw (n := n) (g := gNm 3) (f := bodyC2) (fun k : Nat => IV.int (0 + (k : Int))) (fun ks σ t => ∃ cs junk x3 x4 x5, σ = [some (.ref r), some (.lst (bs.map blkV)), some (.ref n), x3, x4, x5] ∧ t = .lst (cs.map blkV) :: junk ∧ cs.length + ks.length = j ∧ ∀ c ∈ cs, From bs c)
    (fun y ks σ h t k hn => by
      rintro ⟨cs, junk, x3, x4, x5, e1, e2, e3, e4⟩
      subst e1 e2
      simp only [List.length_cons] at e3
      obtain ⟨c, h2, y5, fc, ev, k2, n2⟩ := copy_one (bs := bs) (r := r) hr hb hbl o (tl := .lst (cs.map blkV) :: junk) k hn (m := n + (EV.IO.lst (cs.map blkV) :: junk).length) rfl (x2 := some (.ref n)) (x3 := some (.int (0 + (y : Int)))) (x5 := x5)
      refine ⟨_, [some (.ref r), some (.lst (bs.map blkV)), some (.ref n), some (.int (0 + (y : Int))), some (.ref (n + (EV.IO.lst (cs.map blkV) :: junk).length)), y5], h2, .lst ((cs ++ [c]).map blkV) :: (junk ++ [.lst (c.map secV)]), rfl, ?_, k2, n2, cs ++ [c], _, _, _, _, rfl, rfl, by simp; omega, fun c' hc' => ?_⟩
      · have st1 : asgS (refE (capA nilA)) (gNm 4) [some (.ref r), some (.lst (bs.map blkV)), some (.ref n), some (.int (0 + (y : Int))), x4, x5] (h ++ .lst (cs.map blkV) :: junk) = .nx [some (.ref r), some (.lst (bs.map blkV)), some (.ref n), some (.int (0 + (y : Int))), some (.ref (n + (EV.IO.lst (cs.map blkV) :: junk).length)), x5] (h ++ ((.lst (cs.map blkV) :: junk) ++ [.lst []])) := by
          have q := asg_nm (i := 4) (ref_ok (fs := nilA) (σ := [some (.ref r), some (.lst (bs.map blkV)), some (.ref n), some (.int (0 + (y : Int))), x4, x5]) (h := h ++ .lst (cs.map blkV) :: junk) rfl (by simp))
          rw [List.length_append, hn, List.append_assoc] at q
          exact q
        refine (seq_nx st1).trans ((seq_nx ev).trans ((seq_nx ?_).trans rfl))
        have gm : (h2 ++ ((EV.IO.lst (cs.map blkV) :: junk) ++ [.lst (c.map secV)]))[n + (EV.IO.lst (cs.map blkV) :: junk).length]? = some (.lst (c.map secV)) := by
          rw [List.getElem?_append_right (by omega), n2, Nat.add_sub_cancel_left]
          exact get_last
        have gn : (h2 ++ ((EV.IO.lst (cs.map blkV) :: junk) ++ [.lst (c.map secV)]))[n]? = some (.lst (cs.map blkV)) := by
          rw [List.getElem?_append_right (by omega), n2, Nat.sub_self]; rfl
        refine expr_ok (v := .non) (mth_ok (h2 := h2 ++ ((EV.IO.lst (cs.map blkV) :: junk) ++ [.lst (c.map secV)])) (o := .ref n) rfl (by simp only [tyName, gn]) (arg_ok (v := blkV c) (blt_ok (arg_ok (v := .ref (n + (EV.IO.lst (cs.map blkV) :: junk).length)) rfl rfl) ?_) rfl) ?_)
        · have sq : EV.sqI (h2 ++ ((EV.IO.lst (cs.map blkV) :: junk) ++ [.lst (c.map secV)])) (.ref (n + (EV.IO.lst (cs.map blkV) :: junk).length)) = some (c.map secV) := by
            simp only [EV.sqI, EV.lsR, EV.lsO, gm]
          unfold tupleI
          simp only [sq]
          rfl
        · unfold appM
          simp only [gn]
          rw [if_pos (by rw [List.length_map]; omega)]
          congr 1
          rw [List.set_append_right _ _ (by omega), n2, Nat.sub_self]
          simp
      · rcases List.mem_append.mp hc' with h | h
        · exact e4 c' h
        · rw [List.mem_singleton.mp h]; exact fc)
    (List.range j) [some (.ref r), some (.lst (bs.map blkV)), some (.ref n), none, none, none] h1 [.lst []] k1 n1 ⟨[], [], none, none, none, rfl, rfl, by simp, by simp⟩
  obtain ⟨σ', h', tl', e, k', n', cs, junk, x3, x4, x5, e1', e2, e3, e4⟩ := loop
  subst e1' e2
  simp only [List.length_nil, Nat.add_zero] at e3
  have gn : (h' ++ EV.IO.lst (cs.map blkV) :: junk)[n]? = some (.lst (cs.map blkV)) := by
    rw [List.getElem?_append_right (by omega), n', Nat.sub_self]; rfl
  refine ⟨cs, h', .lst (cs.map blkV) :: junk, ?_, k', n', by omega, by omega, e4⟩
  have st1 : asgS (refE (capA nilA)) (gNm 2) (startI 6 [.ref r, .lst (bs.map blkV)]) h = .nx [some (.ref r), some (.lst (bs.map blkV)), some (.ref n), none, none, none] (h ++ [.lst []]) := by
    have q := asg_nm (i := 2) (ref_ok (fs := nilA) (σ := startI 6 [.ref r, .lst (bs.map blkV)]) (h := h) rfl (by simp))
    rw [hn] at q
    exact q
  refine def_rt ((seq_nx st1).trans ((seq_nx (for_nx (xs := (List.range j).map fun k : Nat => IV.int (0 + (k : Int))) (rng_lit (arg_ok (v := .int (j : Int)) (bin_ok (v := .int 1) rfl (call_ok (arg_ok rfl (arg_ok rfl rfl)) rfl e1) (by rw [add_int, hj])) rfl) hjm) e)).trans (seq_rt (ret_ok (blt_ok (arg_ok (v := .ref n) rfl rfl) ?_)))))
  have sq : EV.sqI (h' ++ EV.IO.lst (cs.map blkV) :: junk) (.ref n) = some (cs.map blkV) := by
    simp only [EV.sqI, EV.lsR, EV.lsO, gn]
  unfold tupleI
  simp only [sq]
  rfl
end K08
namespace K08
open PySem PySem.Spec PyProof.Rows EV
open L2 hiding eqV keyOf
theorem parts_join {p x : Int} {cx : List Int} (hl : cx.length ≤ 52) : (partS p x cx 0).drop 3 ++ ((partS p x cx 1).drop 3 ++ ((partS p x cx 2).drop 3 ++ (partS p x cx 3).drop 3)) = cx := by
  unfold partS
  simp only [List.drop_succ_cons, List.drop_zero, Nat.mul_zero]
  have step : ∀ (l : List Int) (a : Nat), (l.drop a).take 13 ++ l.drop (a + 13) = l.drop a := fun l a => by
    rw [← List.drop_drop, List.take_append_drop]
  have h3 : (cx.drop (13 * 3)).take 13 = cx.drop 39 := List.take_of_length_le (by simp; omega)
  rw [h3]
  have s2 := step cx 26
  have s1 := step cx 13
  have s0 := step cx 0
  simp only [List.drop_zero] at s0
  show cx.take 13 ++ ((cx.drop 13).take 13 ++ ((cx.drop 26).take 13 ++ cx.drop 39)) = cx
  rw [s2, s1, s0]
structure Md (p : Int) (M : Int → Option (List Int)) (cs : List (List Sec)) : Prop where
  ok : ∀ x cx, M x = some cx → 0 < x ∧ cx.length ≤ 52
  at_ : ∀ c ∈ cs, ∀ k < 4, atS c k = none ∨ atS c k = some [] ∨ ∃ x cx, M x = some cx ∧ atS c k = some (partS p x cx k)
theorem val_part {p x y : Int} {cx : List Int} {k : Nat} (hx : 0 < x) : valT p y k (some (partS p x cx k)) = true ↔ x = y := by
  rw [val_of_fits]
  unfold partS
  simp [fitsS, ed, hx]
theorem join_md {p : Int} {M : Int → Option (List Int)} {cs : List (List Sec)} (md : Md p M cs) {x : Int} {cx : List Int} : joinP p cs x = some cx ↔ M x = some cx ∧ ∀ k < 4, ∃ c ∈ cs, atS c k = some (partS p x cx k) := by
  have mem : ∀ {k : Nat} {s : List Int}, k < 4 → (s ∈ valsP p cs x k ↔ ∃ cy, M x = some cy ∧ s = partS p x cy k ∧ ∃ c ∈ cs, atS c k = some s) := fun {k s} hk => by
    rw [valsP_mem]
    constructor
    · rintro ⟨c, h1, h2, h3⟩
      rcases md.at_ c h1 k hk with h | h | ⟨y, cy, hm, h⟩
      · rw [h] at h2; cases h2
      · rw [h] at h2; injection h2 with h2; subst h2
        cases h3
      · rw [h] at h2; injection h2 with h2
        subst h2
        have := (val_part (md.ok y cy hm).1).mp h3
        subst this
        exact ⟨cy, hm, rfl, c, h1, h⟩
    · rintro ⟨cy, hm, rfl, c, h1, h2⟩
      exact ⟨c, h1, h2, (val_part (md.ok x cy hm).1).mpr rfl⟩
  constructor
  · intro j
    obtain ⟨a0, a1, a2, a3, v0, v1, v2, v3, hmade, hcx⟩ := joinP_vals j
    obtain ⟨c0, m0, e0, w0⟩ := (mem (k := 0) (by omega)).mp (v0 ▸ List.mem_singleton_self a0)
    obtain ⟨c1, m1, e1, w1⟩ := (mem (k := 1) (by omega)).mp (v1 ▸ List.mem_singleton_self a1)
    obtain ⟨c2, m2, e2, w2⟩ := (mem (k := 2) (by omega)).mp (v2 ▸ List.mem_singleton_self a2)
    obtain ⟨c3, m3, e3, w3⟩ := (mem (k := 3) (by omega)).mp (v3 ▸ List.mem_singleton_self a3)
    rw [m0] at m1 m2 m3
    injection m1 with m1
    injection m2 with m2
    injection m3 with m3
    subst m1 m2 m3
    rw [e0, e1, e2, e3, parts_join (md.ok x c0 m0).2] at hcx
    subst hcx
    rw [e0] at w0
    rw [e1] at w1
    rw [e2] at w2
    rw [e3] at w3
    exact ⟨m0, fun k hk => match k, hk with
      | 0, _ => w0
      | 1, _ => w1
      | 2, _ => w2
      | 3, _ => w3⟩
  · rintro ⟨hm, H⟩
    have v : ∀ k < 4, valsP p cs x k = [partS p x cx k] := fun k hk => single_iff (L := [partS p x cx k]) (by simp) valsP_nodup (fun s => by
      rw [mem hk, List.mem_singleton]
      constructor
      · rintro rfl
        exact ⟨cx, hm, rfl, H k hk⟩
      · rintro ⟨cy, hm', rfl, _⟩
        rw [hm] at hm'
        injection hm' with hm'
        rw [hm']) rfl
    unfold joinP
    rw [v 0 (by omega), v 1 (by omega), v 2 (by omega), v 3 (by omega)]
    simp only [parts_join (md.ok x cx hm).2]
    exact if_pos rfl
/-- one sector lost -/
def lessOf (cs : List (List Sec)) (a k : Nat) : List (List Sec) := cs.take a ++ [withS (cs.getD a []) k none] ++ cs.drop (a + 1)
theorem atS_with {b : List Sec} {j k : Nat} {s : Sec} (hb : b.length = 4) (hk : k < 4) : atS (withS b k s) j = if j = k then s else atS b j := by
  obtain ⟨s0, s1, s2, s3, rfl⟩ := four hb
  unfold withS atS
  simp only [List.getD_eq_getElem?_getD]
  match k, hk with
  | 0, _ => rcases j with _ | _ | _ | _ | j <;> simp
  | 1, _ => rcases j with _ | _ | _ | _ | j <;> simp
  | 2, _ => rcases j with _ | _ | _ | _ | j <;> simp
  | 3, _ => rcases j with _ | _ | _ | _ | j <;> simp
theorem less_mem {cs : List (List Sec)} {a k : Nat} (ha : a < cs.length) {c : List Sec} : c ∈ lessOf cs a k ↔ c ∈ cs.take a ∨ c = withS (cs.getD a []) k none ∨ c ∈ cs.drop (a + 1) := by
  unfold lessOf
  simp only [List.mem_append, List.mem_singleton]
  exact or_assoc
theorem cs_mem {cs : List (List Sec)} {a : Nat} (ha : a < cs.length) {c : List Sec} : c ∈ cs ↔ c ∈ cs.take a ∨ c = cs.getD a [] ∨ c ∈ cs.drop (a + 1) := by
  have e : cs = cs.take a ++ (cs.getD a [] :: cs.drop (a + 1)) := by
    conv => lhs; rw [← List.take_append_drop a cs]
    congr 1
    rw [List.drop_eq_getElem_cons ha, List.getD_eq_getElem?_getD, List.getElem?_eq_getElem ha]
    rfl
  constructor
  · intro h
    rw [e] at h
    simpa using h
  · intro h
    rw [e]
    simpa using h
theorem less_at {cs : List (List Sec)} {a k : Nat} (ha : a < cs.length) (hk : k < 4) (h4 : ∀ c ∈ cs, c.length = 4) {j : Nat} {s : List Int} : (∃ c ∈ lessOf cs a k, atS c j = some s) → ∃ c ∈ cs, atS c j = some s := by
  rintro ⟨c, hc, e⟩
  have g4 := h4 _ ((cs_mem ha).mpr (.inr (.inl rfl)))
  rcases (less_mem ha).mp hc with h | h | h
  · exact ⟨c, (cs_mem ha).mpr (.inl h), e⟩
  · subst h
    rw [atS_with g4 hk] at e
    split at e
    · cases e
    · exact ⟨_, (cs_mem ha).mpr (.inr (.inl rfl)), e⟩
  · exact ⟨c, (cs_mem ha).mpr (.inr (.inr h)), e⟩
theorem at_less {cs : List (List Sec)} {a k : Nat} (ha : a < cs.length) (hk : k < 4) (h4 : ∀ c ∈ cs, c.length = 4) {j : Nat} (hj : j ≠ k) {s : List Int} : (∃ c ∈ cs, atS c j = some s) → ∃ c ∈ lessOf cs a k, atS c j = some s := by
  rintro ⟨c, hc, e⟩
  have g4 := h4 _ ((cs_mem ha).mpr (.inr (.inl rfl)))
  rcases (cs_mem ha).mp hc with h | h | h
  · exact ⟨c, (less_mem ha).mpr (.inl h), e⟩
  · subst h
    exact ⟨_, (less_mem ha).mpr (.inr (.inl rfl)), by rw [atS_with g4 hk, if_neg hj]; exact e⟩
  · exact ⟨c, (less_mem ha).mpr (.inr (.inr h)), e⟩
theorem md_less {p : Int} {M : Int → Option (List Int)} {cs : List (List Sec)} {a k : Nat} (md : Md p M cs) (ha : a < cs.length) (hk : k < 4) (h4 : ∀ c ∈ cs, c.length = 4) : Md p M (lessOf cs a k) := by
  refine ⟨md.ok, fun c hc j hj => ?_⟩
  have g4 := h4 _ ((cs_mem ha).mpr (.inr (.inl rfl)))
  rcases (less_mem ha).mp hc with h | h | h
  · exact md.at_ c ((cs_mem ha).mpr (.inl h)) j hj
  · subst h
    rw [atS_with g4 hk]
    split
    · exact .inl rfl
    · exact md.at_ _ ((cs_mem ha).mpr (.inr (.inl rfl))) j hj
  · exact md.at_ c ((cs_mem ha).mpr (.inr (.inr h))) j hj
/-- what is still there -/
def keptT (p : Int) (cs : List (List Sec)) (k : Nat) (x : Int) : Bool := cs.any fun c => decide ((secL c k).take 2 = [p, x])
theorem less_whole {p : Int} {M : Int → Option (List Int)} {cs : List (List Sec)} {a k : Nat} (md : Md p M cs) (ha : a < cs.length) (hk : k < 4) (h4 : ∀ c ∈ cs, c.length = 4) : wholeP p (lessOf cs a k) = (wholeP p cs).filter (keptT p (lessOf cs a k) k) := by
  have ml := md_less md ha hk h4
  refine strict_ext wholeP_strict (wholeP_strict.filter _) fun x => ?_
  rw [List.mem_filter, wholeP_mem, wholeP_mem, Option.isSome_iff_exists, Option.isSome_iff_exists]
  have kept : ∀ cx, M x = some cx → (keptT p (lessOf cs a k) k x = true ↔ ∃ c ∈ lessOf cs a k, atS c k = some (partS p x cx k)) := fun cx hm => by
    unfold keptT
    rw [List.any_eq_true]
    constructor
    · rintro ⟨c, hc, h⟩
      have h := of_decide_eq_true h
      refine ⟨c, hc, ?_⟩
      unfold secL at h
      rcases ml.at_ c hc k hk with e | e | ⟨y, cy, hy, e⟩
      · rw [e] at h; simp at h
      · rw [e] at h; simp at h
      · rw [e] at h
        have : y = x := by simpa [partS] using h
        subst this
        rw [hm] at hy
        injection hy with hy
        rw [e, hy]
    · rintro ⟨c, hc, e⟩
      refine ⟨c, hc, decide_eq_true ?_⟩
      unfold secL
      rw [e]; simp [partS]
  constructor
  · rintro ⟨cx, j⟩
    obtain ⟨hm, H⟩ := (join_md ml).mp j
    exact ⟨⟨cx, (join_md md).mpr ⟨hm, fun i hi => less_at ha hk h4 (H i hi)⟩⟩, (kept cx hm).mpr (H k hk)⟩
  · rintro ⟨⟨cx, j⟩, t⟩
    obtain ⟨hm, H⟩ := (join_md md).mp j
    refine ⟨cx, (join_md ml).mpr ⟨hm, fun i hi => ?_⟩⟩
    by_cases hik : i = k
    · subst hik; exact (kept cx hm).mp t
    · exact at_less ha hk h4 hik (H i hi)
theorem less_sub {p : Int} {M : Int → Option (List Int)} {cs : List (List Sec)} {a k : Nat} (md : Md p M cs) (ha : a < cs.length) (hk : k < 4) (h4 : ∀ c ∈ cs, c.length = 4) : ∀ x ∈ wholeP p (lessOf cs a k), x ∈ wholeP p cs := fun x hx => by
  rw [less_whole md ha hk h4] at hx
  exact (List.mem_filter.mp hx).1
def two (e f : Int) (ce cf : List Int) : Int → Option (List Int) := fun x => if x = e then some ce else if x = f then some cf else none
theorem md_two {p e f : Int} {ce cf : List Int} {cs : List (List Sec)} (he : 0 < e) (hf : 0 < f) (hef : e ≠ f) (lce : ce.length ≤ 52) (lcf : cf.length ≤ 52) (H : ∀ c ∈ cs, From [mk p e ce, mk p f cf, [some [], some [], some [], some []]] c) : Md p (two e f ce cf) cs := by
  refine ⟨fun x cx h => ?_, fun c hc k hk => ?_⟩
  · unfold two at h
    split at h
    · injection h with h; subst h; rename_i q; subst q; exact ⟨he, lce⟩
    · split at h
      · injection h with h; subst h; rename_i q; subst q; exact ⟨hf, lcf⟩
      · cases h
  · rcases (H c hc).2 k hk with h | ⟨b, hb, h⟩
    · exact .inl h
    · simp only [List.mem_cons, List.not_mem_nil, or_false] at hb
      rcases hb with rfl | rfl | rfl
      · rw [mk_at hk] at h
        exact .inr (.inr ⟨e, ce, by simp [two], h⟩)
      · rw [mk_at hk] at h
        exact .inr (.inr ⟨f, cf, by simp [two, Ne.symm hef], h⟩)
      · refine .inr (.inl ?_)
        rw [h]
        match k, hk with
        | 0, _ | 1, _ | 2, _ | 3, _ => rfl
end K08
namespace K08
open PySem PySem.Spec PyProof.Rows EV
open L2 hiding eqV keyOf
theorem pure_copV (cs : List (List Sec)) : pureV (copV cs) = true := by
  unfold copV; simp only [pureV]
  exact pure_all fun x hx => by
    obtain ⟨s, _, rfl⟩ := List.mem_map.mp hx
    exact pure_blkV s
theorem settle_at {fz : Bool} {v : IV} {h t : IH} {n : Nat} (hn : h.length = n) (ph : pureH h = true) (pv : pureV v = true) : EV.settle fz n (.ok v (h ++ t)) = .ok v h := by
  subst hn; exact settle_pure ph pv
theorem sort_id {W : List Int} (st : W.Pairwise (· < ·)) : (W.mergeSort fun a b => decide (a ≤ b)) = W := strict_ext (sort_strict (st.imp fun h => by omega)) st fun e => List.mem_mergeSort
theorem ev_sorted_whole {p : Int} {cs : List (List Sec)} {σ : IE} {h : IH} {fs : IE → M (List IV)} (ph : pureH h = true) (o : okCs cs) (e : fs σ h = .ok [.int p, copV cs] h) : bltE tupleI (consA (bltE sortedI (consA (callE (some true) 2 c__law_whole fs) nilA)) nilA) σ h = .ok (tupOf (wholeP p cs)) h := by
  have wh := callz_ok (np := 2) (z := true) e rfl (ev_law_whole (p := p) ph o)
  refine blt_ok (arg_ok (blt_ok (arg_ok wh rfl) (o := .ok (.lst ((wholeP p cs).map .int)) h) ?_) rfl) rfl
  show (if sortOk h ((wholeP p cs).map .int) = true ∧ ((wholeP p cs).map IV.int).length ≤ 16777216 then Out.ok (IV.lst (sortL h ((wholeP p cs).map .int))) h else .no) = _
  have l : (wholeP p cs).length ≤ 16777216 := by
    unfold wholeP
    have h1 := List.length_filter_le (fun e => (joinP p cs e).isSome) ((edsP p cs).mergeSort fun a b => decide (a ≤ b))
    have h2 := fold_eds_len (p := p) (D := []) (cs := cs) fun c hc => (o.blk c hc).len
    have h3 := o.len
    rw [List.length_mergeSort] at h1
    unfold edsP at h1 ⊢
    simp only [List.length_nil] at h2
    omega
  rw [if_pos ⟨sortOk_int _, by rw [List.length_map]; exact l⟩, sortL_int, sort_id wholeP_strict]
theorem okCs_of {cs : List (List Sec)} {bs : List (List Sec)} (h1 : 1 ≤ cs.length) (h3 : cs.length ≤ 3) (o : ∀ b ∈ bs, okB b) (f : ∀ c ∈ cs, From bs c) : okCs cs := ⟨h1, by omega, fun c hc => okB_from o (f c hc)⟩
theorem okCs_less {cs : List (List Sec)} {a k : Nat} (o : okCs cs) (ha : a < cs.length) (hk : k < 4) : okCs (lessOf cs a k) := by
  have l : (lessOf cs a k).length = cs.length := by unfold lessOf; simp; omega
  refine ⟨by rw [l]; exact o.one, by rw [l]; exact o.len, fun c hc => ?_⟩
  rcases (less_mem ha).mp hc with h | h | h
  · exact o.blk c ((cs_mem ha).mpr (.inl h))
  · subst h
    exact okB_with (o.blk _ ((cs_mem ha).mpr (.inr (.inl rfl)))) hk trivial
  · exact o.blk c ((cs_mem ha).mpr (.inr (.inr h)))
theorem ne_tupOf {a b : List Int} {h : IH} : neDI (tupOf a) (tupOf b) h = .ok (.bl (!decide (a = b))) h := by
  rw [neDI_cl cl_tupOf cl_tupOf, eqV_dec tupOf_inj]
theorem tupOf_ty {h : IH} {W : List Int} {x : Int} : ninDct (.int x) (tupOf W) h = .ok (.bl (!decide (x ∈ W))) h := by
  unfold tupOf
  rw [ninDct_tup cl_int (by rw [List.all_map, List.all_eq_true]; intro s _; exact cl_int)]
  congr 3
  rw [List.any_map, Bool.eq_iff_iff, List.any_eq_true, decide_eq_true_iff]
  constructor
  · rintro ⟨y, hy, e⟩
    have := eqV_iff.mp e
    injection this with this
    exact this ▸ hy
  · exact fun hx => ⟨x, hx, eqV_rf _⟩
theorem asg_gen {fa : IE → M IV} {g : TM} {σ σ' : IE} {h h1 h2 : IH} {v : IV} (e : fa σ h = .ok v h1) (eg : g v σ h1 = some (σ', h2)) : asgS fa g σ h = .nx σ' h2 := by
  unfold asgS
  rw [e]
  show gthn (g v σ h1) _ = _
  rw [eg]; rfl
theorem losses_t {h : IH} {n r : Nat} (k : Hok h) (hn : h.length = n) (hr : r < n) {p e f : Int} {ce cf : List Int} (hp : 0 ≤ p ∧ p ≤ 239) (he : 0 < e ∧ e ≤ 999999999999999999) (hf : 0 < f ∧ f ≤ 999999999999999999) (hef : e ≠ f) (lce : ce.length ≤ 52) (lcf : cf.length ≤ 52) (oce : okE ce) (ocf : okE cf) :
    ∃ h1, c__law_losses_right [.ref r, .int p, .lst ([mk p e ce, mk p f cf, [some [], some [], some [], some []]].map blkV)] h = .ok (.bl true) h1 ∧ Hok h1 ∧ h1.length = n := by
  have okp : okC p := ⟨hp.1, by omega⟩
  generalize hbs : [mk p e ce, mk p f cf, [some [], some [], some [], some []]] = bs
  have obs : ∀ b ∈ bs, okB b := by
    intro b hb
    rw [← hbs] at hb
    simp only [List.mem_cons, List.not_mem_nil, or_false] at hb
    rcases hb with rfl | rfl | rfl
    · exact okB_mk okp ⟨by omega, by omega⟩ oce
    · exact okB_mk okp ⟨by omega, by omega⟩ ocf
    · exact ⟨rfl, by simp [okS, okL]⟩
  obtain ⟨cs, h1, tl, e1, k1, n1, c1, c3, fr⟩ := law_copies_t (bs := bs) k hn hr (by rw [← hbs]; simp) (by rw [← hbs]; simp) obs
  have ocs := okCs_of c1 c3 obs fr
  have h4 : ∀ c ∈ cs, c.length = 4 := fun c hc => (fr c hc).1
  have md : Md p (two e f ce cf) cs := md_two he.1 hf.1 hef lce lcf (by rw [hbs]; exact fr)
  generalize hbv : IV.lst (bs.map blkV) = bv at e1
  have st1 : asgS (callE (some true) 2 c__law_copies (consA (varE 0) (consA (varE 2) nilA))) (gNm 3) (startI 14 [.ref r, .int p, bv]) h = .nx ((startI 14 [.ref r, .int p, bv]).set 3 (some (copV cs))) h1 := asg_nm (callz_ok (arg_ok rfl (arg_ok rfl rfl)) rfl ((congrArg (EV.settle true h.length) e1).trans (settle_at (n1.trans hn.symm) k1.pure (pure_copV cs))))
  have st2 : asgS (callE none 2 c_whole_editions (consA (varE 1) (consA (varE 3) nilA))) (gNm 4) ((startI 14 [.ref r, .int p, bv]).set 3 (some (copV cs))) h1 = .nx (((startI 14 [.ref r, .int p, bv]).set 3 (some (copV cs))).set 4 (some (tupOf (wholeP p cs)))) h1 := asg_nm (call_ok (arg_ok rfl (arg_ok rfl rfl)) rfl (ev_whole_editions k1.pure hp.1 hp.2 ocs))
  obtain ⟨av, h2, e2, k2, n2, i, rfl, i0, i1⟩ := dip_t (tl := []) k1 n1 hr (t := cs.length) (by omega) (by omega)
  simp only [List.append_nil] at e2
  obtain ⟨a, rfl⟩ : ∃ a : Nat, i = (a : Int) := ⟨i.toNat, by omega⟩
  obtain ⟨kv, h3, e3, k3, n3, j, rfl, j0, j1⟩ := dip_t (tl := []) k2 n2 hr (t := 4) (by omega) (by omega)
  simp only [List.append_nil] at e3
  obtain ⟨q, rfl⟩ : ∃ q : Nat, j = (q : Int) := ⟨j.toNat, by omega⟩
  have ha : a < cs.length := by omega
  have hq : q < 4 := by omega
  have st3 : asgS (tupE (consA (callE none 2 c__law_dip (consA (varE 0) (consA (bltE lenI (consA (varE 3) nilA)) nilA))) (consA (callE none 2 c__law_dip (consA (varE 0) (consA (cstE (.int 4)) nilA))) nilA))) (gTp 2 (gsCons (gNm 9) (gsCons (gNm 10) gsNil))) (((startI 14 [.ref r, .int p, bv]).set 3 (some (copV cs))).set 4 (some (tupOf (wholeP p cs)))) h1 = .nx [some (.ref r), some (.int p), some bv, some (copV cs), some (tupOf (wholeP p cs)), none, none, none, none, some (.int a), some (.int q), none, none, none] h3 := by
    have ln : bltE lenI (consA (varE 3) nilA) (((startI 14 [.ref r, .int p, bv]).set 3 (some (copV cs))).set 4 (some (tupOf (wholeP p cs)))) h1 = .ok (.int (cs.length : Int)) h1 := by
      show Out.ok (IV.int ((cs.map blkV).length : Int)) h1 = _
      rw [List.length_map]
    exact asg_gen (tup_ok (arg_ok (call_ok (arg_ok rfl (arg_ok ln rfl)) rfl e2) (arg_ok (call_ok (arg_ok rfl (arg_ok rfl rfl)) rfl e3) rfl)) (by simp)) rfl
  have oless := okCs_less ocs ha hq
  have gc : (cs.map blkV)[a]? = some (blkV (cs.getD a [])) := by
    rw [List.getElem?_map, List.getD_eq_getElem?_getD, List.getElem?_eq_getElem ha]; rfl
  have st4 : asgS (binE addI (binE addI (sliE (varE 3) noneO (someO (varE 9))) (tupE (consA (callE none 3 c__law_with (consA (binE subD (varE 3) (varE 9)) (consA (varE 10) (consA (cstE .non) nilA)))) nilA))) (sliE (varE 3) (someO (binE addI (varE 9) (cstE (.int 1)))) noneO)) (gNm 5) [some (.ref r), some (.int p), some bv, some (copV cs), some (tupOf (wholeP p cs)), none, none, none, none, some (.int a), some (.int q), none, none, none] h3 = .nx [some (.ref r), some (.int p), some bv, some (copV cs), some (tupOf (wholeP p cs)), some (copV (lessOf cs a q)), none, none, none, some (.int a), some (.int q), none, none, none] h3 := by
    have q4 := h4 _ ((cs_mem ha).mpr (.inr (.inl rfl)))
    refine (asg_nm (bin_ok (bin_ok (sliG_to (k := a) (xs := cs.map blkV) rfl rfl) (tup_ok (arg_ok (call_ok (arg_ok (bin_ok rfl rfl (sub_tup gc)) (arg_ok rfl (arg_ok rfl rfl))) rfl (ev_with (s := none) (k := q) (by omega))) rfl) (by simp)) (add_tup (by simp; omega))) (sliG_from (k := a + 1) (xs := cs.map blkV) rfl (bin_ok rfl rfl add_int)) (add_tup (by simp; omega)))).trans ?_
    have cv : IV.tup ((cs.map blkV).take a ++ [blkV (withS (cs.getD a []) q none)] ++ (cs.map blkV).drop (a + 1)) = copV (lessOf cs a q) := by
      unfold copV lessOf
      simp
    rw [cv]
    rfl
  generalize hL : lessOf cs a q = L at oless st4
  have sub : ∀ x ∈ wholeP p L, x ∈ wholeP p cs := by rw [← hL]; exact less_sub md ha hq h4
  have eqw : wholeP p L = (wholeP p cs).filter (keptT p L q) := by rw [← hL]; exact less_whole md ha hq h4
  have h4L : ∀ c ∈ L, c.length = 4 := fun c hc => (oless.blk c hc).len
  have lL := oless.len
  have st5 : asgS (callE none 2 c_whole_editions (consA (varE 1) (consA (varE 5) nilA))) (gNm 6) [some (.ref r), some (.int p), some bv, some (copV cs), some (tupOf (wholeP p cs)), some (copV L), none, none, none, some (.int a), some (.int q), none, none, none] h3 = .nx [some (.ref r), some (.int p), some bv, some (copV cs), some (tupOf (wholeP p cs)), some (copV L), some (tupOf (wholeP p L)), none, none, some (.int a), some (.int q), none, none, none] h3 := asg_nm (call_ok (arg_ok rfl (arg_ok rfl rfl)) rfl (ev_whole_editions k3.pure hp.1 hp.2 oless))
  have wl : ∀ cs' : List (List Sec), okCs cs' → (wholeP p cs').length ≤ 16777216 := fun cs' o => by
    unfold wholeP
    have h1 := List.length_filter_le (fun e => (joinP p cs' e).isSome) ((edsP p cs').mergeSort fun a b => decide (a ≤ b))
    have h2 := fold_eds_len (p := p) (D := []) (cs := cs') fun c hc => (o.blk c hc).len
    have h3 := o.len
    rw [List.length_mergeSort] at h1
    unfold edsP at h1 ⊢
    simp only [List.length_nil] at h2
    omega
  have no := lc_typ (fi := anyIt (varE 6)) (g := gNm 12) (t := cmpT ninDct (varE 12) (varE 4)) (f := varE 12) (ws := [12]) (σ := [some (.ref r), some (.int p), some bv, some (copV cs), some (tupOf (wholeP p cs)), some (copV L), some (tupOf (wholeP p L)), none, none, some (.int a), some (.int q), none, none, none]) (h := h3) IV.int (fun x => !decide (x ∈ wholeP p cs)) IV.int (wholeP p L) rfl (wl L oless) fun x _ => ⟨_, rfl, cmp_ok rfl rfl tupOf_ty, fun _ => rfl⟩
  have nil0 : ((wholeP p L).filter fun x => !decide (x ∈ wholeP p cs)) = [] := by
    rw [List.filter_eq_nil_iff]
    intro x hx
    simp [sub x hx]
  rw [nil0] at no
  have st6 : ifS (orT (cmpT neDI (lcI (anyIt (varE 6)) (gNm 12) (cmpT ninDct (varE 12) (varE 4)) (varE 12) [12]) (lstE (capA nilA))) (cmpT neDI (varE 6) (bltE tupleI (consA (bltE sortedI (consA (callE (some true) 2 c__law_whole (consA (varE 1) (consA (varE 5) nilA))) nilA)) nilA)))) (seqS (retS (cstE (.bl false))) nextS) nextS [some (.ref r), some (.int p), some bv, some (copV cs), some (tupOf (wholeP p cs)), some (copV L), some (tupOf (wholeP p L)), none, none, some (.int a), some (.int q), none, none, none] h3 = .nx [some (.ref r), some (.int p), some bv, some (copV cs), some (tupOf (wholeP p cs)), some (copV L), some (tupOf (wholeP p L)), none, none, some (.int a), some (.int q), none, none, none] h3 :=
    if_ok (h1 := h3) (b := false) (or_ok (a := false) (b := false) (cmp_ok no (lst_ok rfl (by simp)) (neDI_cl rfl rfl)) (fun _ => cmp_ok rfl (ev_sorted_whole k3.pure oless (arg_ok rfl (arg_ok rfl rfl))) (by rw [ne_tupOf]; simp)) fun z => by cases z) rfl
  have kept := lc_all (fi := anyIt (varE 5)) (g := gNm 11) (f := binE subD (varE 11) (varE 10)) (ws := [11]) (σ := [some (.ref r), some (.int p), some bv, some (copV cs), some (tupOf (wholeP p cs)), some (copV L), some (tupOf (wholeP p L)), none, none, some (.int a), some (.int q), none, none, none]) (h := h3) blkV (fun c => secV (atS c q)) L rfl (by omega) fun c hc => ⟨_, rfl, bin_ok rfl rfl (sub_blk (by rw [h4L c hc]; exact hq))⟩
  have stays := lc_typ (fi := anyIt (varE 4)) (g := gNm 12) (t := cmpT neDI (lcI (anyIt (varE 7)) (gNm 13) (cmpT eqDI (sliE (orE (varE 13) (tupE nilA)) noneO (someO (cstE (.int 2)))) (tupE (consA (varE 1) (consA (varE 12) nilA)))) (varE 13) [13]) (lstE (capA nilA))) (f := varE 12) (ws := [12]) (σ := [some (.ref r), some (.int p), some bv, some (copV cs), some (tupOf (wholeP p cs)), some (copV L), some (tupOf (wholeP p L)), some (.lst (L.map fun c => secV (atS c q))), none, some (.int a), some (.int q), none, none, none]) (h := h3) IV.int (keptT p L q) IV.int (wholeP p cs) rfl (wl cs ocs) fun x _ => ⟨_, rfl, by
    have inner := lc_typ (fi := anyIt (varE 7)) (g := gNm 13) (t := cmpT eqDI (sliE (orE (varE 13) (tupE nilA)) noneO (someO (cstE (.int 2)))) (tupE (consA (varE 1) (consA (varE 12) nilA)))) (f := varE 13) (ws := [13]) (σ := [some (.ref r), some (.int p), some bv, some (copV cs), some (tupOf (wholeP p cs)), some (copV L), some (tupOf (wholeP p L)), some (.lst (L.map fun c => secV (atS c q))), none, some (.int a), some (.int q), none, some (.int x), none]) (h := h3) (fun c => secV (atS c q)) (fun c => decide ((secL c q).take 2 = [p, x])) (fun c => secV (atS c q)) L rfl (by omega) fun c hc => ⟨_, rfl, cmp_ok (sli_to (k := 2) (or_sec rfl)) (tup_ok (xs := [.int p, .int x]) (arg_ok rfl (arg_ok rfl rfl)) (by simp)) (eq_tupOf (b := [p, x])), fun _ => rfl⟩
    refine cmp_ok inner (lst_ok rfl (by simp)) ?_
    rw [neDI_cl (by
      show List.all _ (cl 11) = true
      rw [List.all_eq_true]; intro y hy
      obtain ⟨c, _, rfl⟩ := List.mem_map.mp hy
      exact cl_secV) rfl]
    congr 2
    show (!eqVs _ []) = _
    rw [eqVs_nil]
    unfold keptT
    rw [Bool.eq_iff_iff]
    simp [List.filter_eq_nil_iff], fun _ => rfl⟩
  rw [← eqw] at stays
  refine ⟨h3, ?_, k3, n3⟩
  exact def_rt ((seq_nx st1).trans ((seq_nx st2).trans ((seq_nx st3).trans ((seq_nx st4).trans ((seq_nx st5).trans ((seq_nx st6).trans ((seq_nx (asg_nm kept)).trans ((seq_nx (asg_nm stays)).trans (seq_rt (ret_ok (bin_ok rfl (tuple_of rfl) ((eq_tupOf (a := wholeP p L) (b := wholeP p L)).trans (by simp)))))))))))))
end K08
namespace K08
open PySem PySem.Spec PyProof.Rows EV
open L2 hiding eqV keyOf
theorem isMade_mk {p e : Int} {cells : List Int} (he : 0 < e) (hl : cells.length ≤ 52) : isMadeP p (mk p e cells) = some (e, cells) := by
  have f : fitAll p (mk p e cells) = true := by
    unfold fitAll
    rw [mk_at (by omega), mk_at (by omega), mk_at (by omega), mk_at (by omega)]
    simp [partS, fitsS, he]
  have d : ed (atS (mk p e cells) 0) = e := rfl
  have c : cellsOf (mk p e cells) = cells := parts_join (p := p) (x := e) hl
  unfold isMadeP
  rw [if_pos f, d, c, if_pos rfl]
theorem told_mk {p e : Int} {cells : List Int} (he : 0 < e) (hl : cells.length ≤ 52) : toldP p [mk p e cells] = .tup [sWhole, .int e, tupOf cells] := by
  rw [told_one rfl]
  unfold toldL
  rw [isMade_mk he hl]
theorem cl_optV {n : Nat} {o : Option (List Int)} : cl (n + 1) (optV o) = true := by
  cases o with
  | none => rfl
  | some c => exact cl_tupOf
theorem cl_told {W : List Int} {J : Int → Option (List Int)} {cs : List (List Sec)} : cl DEEP (toldW W J cs) = true := by
  unfold toldW
  split
  · rename_i e _
    show List.all [sWhole, IV.int e, optV (J e)] (cl 11) = true
    simp only [List.all_cons, List.all_nil, cl_int, cl_optV, Bool.and_true, Bool.true_and]
    decide +kernel
  · split
    · decide +kernel
    · split <;> decide +kernel
theorem ne_same {x : IV} {h : IH} (c : cl DEEP x = true) : neDI x x h = .ok (.bl false) h := by
  rw [neDI_cl c c, eqV_rf]; rfl
theorem eq_same {x : IV} {h : IH} (c : cl DEEP x = true) : eqDI x x h = .ok (.bl true) h := by
  rw [eqDI_cl c c, eqV_rf]
/-- the made block's parts on two copies -/
theorem told_lots {p e : Int} {cells : List Int} (he : 0 < e) (hl : cells.length ≤ 52) : toldP p [[some (partS p e cells 0), none, none, some (partS p e cells 3)], [none, some (partS p e cells 1), some (partS p e cells 2), none]] = .tup [sWhole, .int e, tupOf cells] := by
  have md : Md p (fun x => if x = e then some cells else none) [[some (partS p e cells 0), none, none, some (partS p e cells 3)], [none, some (partS p e cells 1), some (partS p e cells 2), none]] := by
    refine ⟨fun x cx h => ?_, fun c hc k hk => ?_⟩
    · split at h
      · injection h with h; subst h; rename_i q; subst q; exact ⟨he, hl⟩
      · cases h
    · simp only [List.mem_cons, List.not_mem_nil, or_false] at hc
      rcases hc with rfl | rfl
      · match k, hk with
        | 0, _ => exact .inr (.inr ⟨e, cells, by simp, rfl⟩)
        | 1, _ => exact .inl rfl
        | 2, _ => exact .inl rfl
        | 3, _ => exact .inr (.inr ⟨e, cells, by simp, rfl⟩)
      · match k, hk with
        | 0, _ => exact .inl rfl
        | 1, _ => exact .inr (.inr ⟨e, cells, by simp, rfl⟩)
        | 2, _ => exact .inr (.inr ⟨e, cells, by simp, rfl⟩)
        | 3, _ => exact .inl rfl
  have j : joinP p [[some (partS p e cells 0), none, none, some (partS p e cells 3)], [none, some (partS p e cells 1), some (partS p e cells 2), none]] e = some cells := (join_md md).mpr ⟨by simp, fun k hk => match k, hk with
    | 0, _ => ⟨_, List.mem_cons_self, rfl⟩
    | 1, _ => ⟨_, List.mem_cons_of_mem _ List.mem_cons_self, rfl⟩
    | 2, _ => ⟨_, List.mem_cons_of_mem _ List.mem_cons_self, rfl⟩
    | 3, _ => ⟨_, List.mem_cons_self, rfl⟩⟩
  have w : wholeP p [[some (partS p e cells 0), none, none, some (partS p e cells 3)], [none, some (partS p e cells 1), some (partS p e cells 2), none]] = [e] := strict_ext wholeP_strict (by simp) fun x => by
    rw [wholeP_mem, List.mem_singleton, Option.isSome_iff_exists]
    constructor
    · rintro ⟨cx, hj⟩
      have := ((join_md md).mp hj).1
      split at this
      · assumption
      · cases this
    · rintro rfl
      exact ⟨cells, j⟩
  unfold toldP toldW
  rw [w]
  simp only [List.getLast?_singleton, j]
  rfl
abbrev bodyNear : SM := (seqS (ifS (orT (cmpT neDI (callE none 2 c_told_block (consA (varE 7) (consA (varE 4) nilA))) (callE none 2 c__law_told (consA (varE 7) (consA (varE 4) nilA)))) (cmpT neDI (callE none 2 c_told_copies (consA (varE 7) (consA (tupE (consA (varE 4) nilA)) nilA))) (callE none 2 c__law_told (consA (varE 7) (consA (varE 4) nilA))))) (seqS (retS (cstE (.bl false)))
    nextS) nextS)
    nextS)
abbrev bodyTurn : SM := (seqS (asgS (callE (some true) 2 c__law_copies (consA (varE 0) (consA (lstE (capA (consA (varE 2) (consA (callE none 2 c__law_choice (consA (varE 0) (consA (lstE (capA (consA (varE 9) (consA (varE 10) nilA)))) nilA))) (consA (callE none 2 c__law_choice (consA (varE 0) (consA (varE 3) nilA))) nilA))))) nilA))) (gNm 11))
    (seqS (ifS (cmpT neDI (callE none 2 c_told_copies (consA (varE 7) (consA (varE 11) nilA))) (callE none 2 c__law_due (consA (varE 7) (consA (varE 11) nilA)))) (seqS (retS (cstE (.bl false)))
    nextS) nextS)
    (seqS (ifS (cmpT neDI (callE none 2 c_whole_editions (consA (varE 7) (consA (varE 11) nilA))) (bltE tupleI (consA (bltE sortedI (consA (callE (some true) 2 c__law_whole (consA (varE 7) (consA (varE 11) nilA))) nilA)) nilA))) (seqS (retS (cstE (.bl false)))
    nextS) nextS)
    (seqS (ifS (notT (truT (callE none 3 c__law_losses_right (consA (varE 0) (consA (varE 7) (consA (lstE (capA (consA (varE 2) (consA (varE 9) (consA (varE 10) nilA))))) nilA)))))) (seqS (retS (cstE (.bl false)))
    nextS) nextS)
    nextS))))
theorem near_body {p : Int} {b : List Sec} {h : IH} {x0 x1 x2 x3 x8 : Option IV} (k : Hok h) (hp : 0 ≤ p ∧ p ≤ 239) (o : okB b) : bodyNear [x0, x1, x2, x3, some (blkV b), none, none, some (.int p), x8, none, none, none] h = .nx [x0, x1, x2, x3, some (blkV b), none, none, some (.int p), x8, none, none, none] h := by
  have oc : okCs [b] := ⟨by simp, by simp, fun c' hc' => by rw [List.mem_singleton.mp hc']; exact o⟩
  have lt := ev_law_told (p := p) (h := h) o.len o.sec
  rw [← told_one o.len] at lt
  exact (seq_nx (if_ok (h1 := h) (b := false) (g := nextS) (or_ok (a := false) (b := false) (cmp_ok (call_ok (arg_ok rfl (arg_ok rfl rfl)) rfl (ev_told_block k.pure hp.1 hp.2 o)) (call_ok (arg_ok rfl (arg_ok rfl rfl)) rfl lt) (ne_same cl_told)) (fun _ => cmp_ok (call_ok (vs := [.int p, copV [b]]) (arg_ok rfl (arg_ok (tup_ok (arg_ok rfl rfl) (by simp)) rfl)) rfl (ev_told_copies k.pure hp.1 hp.2 oc)) (call_ok (arg_ok rfl (arg_ok rfl rfl)) rfl lt) (ne_same cl_told)) fun z => by cases z) rfl)).trans rfl
theorem turn_body {p e : Int} {cells cells2 : List Int} {near : List (List Sec)} {h : IH} {n r : Nat} {x1 x4 x5 x8 x11 : Option IV} (k : Hok h) (hn : h.length = n) (hr : r < n) (hp : 0 ≤ p ∧ p ≤ 239) (he : 0 < e ∧ e ≤ 100000000000000000) (hl : cells.length ≤ 52) (oc : okE cells) (hl2 : cells2.length ≤ 52) (oc2 : okE cells2) (hne : near ≠ []) (hnl : near.length ≤ 100) (onr : ∀ b ∈ near, okB b) :
    ∃ y11 h1, bodyTurn [some (.ref r), x1, some (blkV (mk p e cells)), some (.lst (near.map blkV)), x4, x5, none, some (.int p), x8, some (blkV (mk p (e + 1) cells2)), some (blkV [some [], some [], some [], some []]), x11] h = .nx [some (.ref r), x1, some (blkV (mk p e cells)), some (.lst (near.map blkV)), x4, x5, none, some (.int p), x8, some (blkV (mk p (e + 1) cells2)), some (blkV [some [], some [], some [], some []]), y11] h1 ∧ Hok h1 ∧ h1.length = n := by
  have okp : okC p := ⟨hp.1, by omega⟩
  have oB : okB (mk p e cells) := okB_mk okp ⟨by omega, by omega⟩ oc
  have oC : okB (mk p (e + 1) cells2) := okB_mk okp ⟨by omega, by omega⟩ oc2
  have oZ : okB [some [], some [], some [], some []] := ⟨rfl, by simp [okS, okL]⟩
  have loss := fun {h : IH} (k : Hok h) (hn : h.length = n) => losses_t k hn hr (p := p) (e := e) (f := e + 1) (ce := cells) (cf := cells2) hp ⟨he.1, by omega⟩ ⟨by omega, by omega⟩ (by omega) hl hl2 oc oc2
  generalize hB : mk p e cells = B at oB loss
  generalize hC : mk p (e + 1) cells2 = C at oC loss
  obtain ⟨xv, h1, e1, k1, n1, hx⟩ := choice_t (tl := []) k hn hr (xs := [blkV C, blkV [some [], some [], some [], some []]]) (by simp) (by simp)
  simp only [List.append_nil] at e1
  obtain ⟨X, oX, rfl⟩ : ∃ X, okB X ∧ xv = blkV X := by
    simp only [List.mem_cons, List.not_mem_nil, or_false] at hx
    rcases hx with rfl | rfl
    · exact ⟨_, oC, rfl⟩
    · exact ⟨_, oZ, rfl⟩
  obtain ⟨yv, h2, e2, k2, n2, hy⟩ := choice_t (tl := []) k1 n1 hr (xs := near.map blkV) (by simpa using hne) (by rw [List.length_map]; omega)
  simp only [List.append_nil] at e2
  obtain ⟨Y, hY, rfl⟩ := List.mem_map.mp hy
  have oY := onr Y hY
  have obs : ∀ b ∈ [B, X, Y], okB b := by
    intro b hb
    simp only [List.mem_cons, List.not_mem_nil, or_false] at hb
    rcases hb with rfl | rfl | rfl
    · exact oB
    · exact oX
    · exact oY
  obtain ⟨cs, h3, tl, e3, k3, n3, c1, c3, fr⟩ := law_copies_t (bs := [B, X, Y]) k2 n2 hr (by simp) (by simp) obs
  have ocs := okCs_of c1 c3 obs fr
  have st1 : asgS (callE (some true) 2 c__law_copies (consA (varE 0) (consA (lstE (capA (consA (varE 2) (consA (callE none 2 c__law_choice (consA (varE 0) (consA (lstE (capA (consA (varE 9) (consA (varE 10) nilA)))) nilA))) (consA (callE none 2 c__law_choice (consA (varE 0) (consA (varE 3) nilA))) nilA))))) nilA))) (gNm 11) [some (.ref r), x1, some (blkV B), some (.lst (near.map blkV)), x4, x5, none, some (.int p), x8, some (blkV C), some (blkV [some [], some [], some [], some []]), x11] h = .nx [some (.ref r), x1, some (blkV B), some (.lst (near.map blkV)), x4, x5, none, some (.int p), x8, some (blkV C), some (blkV [some [], some [], some [], some []]), some (copV cs)] h3 :=
    asg_nm (callz_ok (vs := [.ref r, .lst ([B, X, Y].map blkV)]) (arg_ok rfl (arg_ok (lst_ok (arg_ok rfl (arg_ok (call_ok (arg_ok rfl (arg_ok (lst_ok rfl (by simp)) rfl)) rfl e1) (arg_ok (call_ok (arg_ok rfl (arg_ok rfl rfl)) rfl e2) rfl))) (by simp)) rfl)) rfl ((congrArg (EV.settle true h2.length) e3).trans (settle_at (n3.trans n2.symm) k3.pure (pure_copV cs))))
  have st2 : ifS (cmpT neDI (callE none 2 c_told_copies (consA (varE 7) (consA (varE 11) nilA))) (callE none 2 c__law_due (consA (varE 7) (consA (varE 11) nilA)))) (seqS (retS (cstE (.bl false))) nextS) nextS [some (.ref r), x1, some (blkV B), some (.lst (near.map blkV)), x4, x5, none, some (.int p), x8, some (blkV C), some (blkV [some [], some [], some [], some []]), some (copV cs)] h3 = .nx [some (.ref r), x1, some (blkV B), some (.lst (near.map blkV)), x4, x5, none, some (.int p), x8, some (blkV C), some (blkV [some [], some [], some [], some []]), some (copV cs)] h3 :=
    if_ok (h1 := h3) (b := false) (cmp_ok (call_ok (arg_ok rfl (arg_ok rfl rfl)) rfl (ev_told_copies k3.pure hp.1 hp.2 ocs)) (call_ok (arg_ok rfl (arg_ok rfl rfl)) rfl (ev_due k3.pure ocs)) (ne_same cl_told)) rfl
  have st3 : ifS (cmpT neDI (callE none 2 c_whole_editions (consA (varE 7) (consA (varE 11) nilA))) (bltE tupleI (consA (bltE sortedI (consA (callE (some true) 2 c__law_whole (consA (varE 7) (consA (varE 11) nilA))) nilA)) nilA))) (seqS (retS (cstE (.bl false))) nextS) nextS [some (.ref r), x1, some (blkV B), some (.lst (near.map blkV)), x4, x5, none, some (.int p), x8, some (blkV C), some (blkV [some [], some [], some [], some []]), some (copV cs)] h3 = .nx [some (.ref r), x1, some (blkV B), some (.lst (near.map blkV)), x4, x5, none, some (.int p), x8, some (blkV C), some (blkV [some [], some [], some [], some []]), some (copV cs)] h3 :=
    if_ok (h1 := h3) (b := false) (cmp_ok (call_ok (arg_ok rfl (arg_ok rfl rfl)) rfl (ev_whole_editions k3.pure hp.1 hp.2 ocs)) (ev_sorted_whole k3.pure ocs (arg_ok rfl (arg_ok rfl rfl))) (ne_same cl_tupOf)) rfl
  obtain ⟨h4, e4, k4, n4⟩ := loss k3 n3
  have st4 : ifS (notT (truT (callE none 3 c__law_losses_right (consA (varE 0) (consA (varE 7) (consA (lstE (capA (consA (varE 2) (consA (varE 9) (consA (varE 10) nilA))))) nilA)))))) (seqS (retS (cstE (.bl false))) nextS) nextS [some (.ref r), x1, some (blkV B), some (.lst (near.map blkV)), x4, x5, none, some (.int p), x8, some (blkV C), some (blkV [some [], some [], some [], some []]), some (copV cs)] h3 = .nx [some (.ref r), x1, some (blkV B), some (.lst (near.map blkV)), x4, x5, none, some (.int p), x8, some (blkV C), some (blkV [some [], some [], some [], some []]), some (copV cs)] h4 :=
    if_ok (h1 := h4) (b := false) (not_ok (a := true) (tru_bl (call_ok (arg_ok rfl (arg_ok rfl (arg_ok (lst_ok rfl (by simp)) rfl))) rfl e4))) rfl
  exact ⟨some (copV cs), h4, (seq_nx st1).trans ((seq_nx st2).trans ((seq_nx st3).trans ((seq_nx st4).trans rfl))), k4, n4⟩
theorem right_t {h : IH} {n r : Nat} (k : Hok h) (hn : h.length = n) (hr : r < n) : ∃ h1, c__law_right [.ref r] h = .ok (.bl true) h1 ∧ Hok h1 ∧ h1.length = n := by
  obtain ⟨pv, h1, e1, k1, n1, p, rfl, p0, p1⟩ := dip_t (tl := []) k hn hr (t := 240) (by omega) (by omega)
  obtain ⟨cv, h2, e2, k2, n2, cells, rfl, hl, oc⟩ := law_cells_t (tl := []) k1 n1 hr
  obtain ⟨mv, h3, e3, k3, n3, hm⟩ := choice_t (tl := []) k2 n2 hr (xs := [.int 3, .int (10 ^ 17)]) (by simp) (by decide)
  obtain ⟨m, rfl, hm0, hm1⟩ : ∃ m : Int, mv = .int m ∧ 0 < m ∧ m ≤ 100000000000000000 := by
    simp only [List.mem_cons, List.not_mem_nil, or_false] at hm
    rcases hm with rfl | rfl
    · exact ⟨_, rfl, by omega, by omega⟩
    · exact ⟨_, rfl, by omega, by omega⟩
  obtain ⟨ev, h4, e4, k4, n4, i, rfl, i0, i1⟩ := dip_t (tl := []) k3 n3 hr (t := m) hm0 (by omega)
  simp only [List.append_nil] at e1 e2 e3 e4
  have hp : 0 ≤ p ∧ p ≤ 239 := ⟨p0, by omega⟩
  have okp : okC p := ⟨hp.1, by omega⟩
  generalize he : 1 + i = e
  have e0 : 0 < e ∧ e ≤ 100000000000000000 := ⟨by omega, by omega⟩
  have oke : okC e := ⟨by omega, by omega⟩
  have oB := okB_mk (cells := cells) okp oke oc
  have st1 : parS 7 8 (consA (callE none 2 c__law_dip (consA (varE 0) (consA (cstE (.int 240)) nilA))) (consA (callE none 1 c__law_cells (consA (varE 0) nilA)) nilA)) (startI 12 [.ref r]) h = .nx [some (.ref r), none, none, none, none, none, none, some (.int p), some (tupOf cells), none, none, none] h2 := par_ok (arg_ok (call_ok (arg_ok rfl (arg_ok rfl rfl)) rfl e1) (arg_ok (call_ok (arg_ok rfl rfl) rfl e2) rfl))
  have st2 : asgS (binE addI (cstE (.int 1)) (callE none 2 c__law_dip (consA (varE 0) (consA (callE none 2 c__law_choice (consA (varE 0) (consA (lstE (capA (consA (cstE (.int 3)) (consA (binE powI (cstE (.int 10)) (cstE (.int 17))) nilA)))) nilA))) nilA)))) (gNm 1) [some (.ref r), none, none, none, none, none, none, some (.int p), some (tupOf cells), none, none, none] h2 = .nx [some (.ref r), some (.int e), none, none, none, none, none, some (.int p), some (tupOf cells), none, none, none] h4 := by
    rw [← he]
    exact asg_nm (bin_ok rfl (call_ok (arg_ok rfl (arg_ok (call_ok (arg_ok rfl (arg_ok rfl rfl)) rfl e3) rfl)) rfl e4) add_int)
  have mb : ∀ H, c_made_block [.int p, .int e, tupOf cells] H = .ok (blkV (mk p e cells)) H := fun H => by rw [ev_made_block hp.1 hp.2 (by omega) (by omega) hl oc, blk_mk]
  have lm : ∀ H, c__law_made [.int p, .int e, tupOf cells] H = .ok (blkV (mk p e cells)) H := fun H => by rw [law_made, blk_mk]
  have st3 : asgS (callE none 3 c_made_block (consA (varE 7) (consA (varE 1) (consA (varE 8) nilA)))) (gNm 2) [some (.ref r), some (.int e), none, none, none, none, none, some (.int p), some (tupOf cells), none, none, none] h4 = .nx [some (.ref r), some (.int e), some (blkV (mk p e cells)), none, none, none, none, some (.int p), some (tupOf cells), none, none, none] h4 := asg_nm (call_ok (arg_ok rfl (arg_ok rfl (arg_ok rfl rfl))) rfl (mb _))
  have tw : ∀ H, Hok H → c_told_block [.int p, blkV (mk p e cells)] H = .ok (.tup [sWhole, .int e, tupOf cells]) H := fun H k => by rw [ev_told_block k.pure hp.1 hp.2 oB, told_mk e0.1 hl]
  have clw : cl DEEP (.tup [sWhole, .int e, tupOf cells]) = true := by
    have := cl_told (W := [e]) (J := fun _ => some cells) (cs := [])
    exact this
  have st4 : ifS (orT (cmpT neDI (varE 2) (callE none 3 c__law_made (consA (varE 7) (consA (varE 1) (consA (varE 8) nilA))))) (cmpT neDI (callE none 2 c_told_block (consA (varE 7) (consA (varE 2) nilA))) (tupE (consA (cstE (.str "whole")) (consA (varE 1) (consA (varE 8) nilA)))))) (seqS (retS (cstE (.bl false))) nextS) nextS [some (.ref r), some (.int e), some (blkV (mk p e cells)), none, none, none, none, some (.int p), some (tupOf cells), none, none, none] h4 = .nx [some (.ref r), some (.int e), some (blkV (mk p e cells)), none, none, none, none, some (.int p), some (tupOf cells), none, none, none] h4 :=
    if_ok (h1 := h4) (b := false) (or_ok (a := false) (b := false) (cmp_ok rfl (call_ok (arg_ok rfl (arg_ok rfl (arg_ok rfl rfl))) rfl (lm _)) (ne_same cl_blkV)) (fun _ => cmp_ok (call_ok (arg_ok rfl (arg_ok rfl rfl)) rfl (tw _ k4)) (tup_ok (arg_ok rfl (arg_ok rfl (arg_ok rfl rfl))) (by simp)) (ne_same clw)) fun z => by cases z) rfl
  obtain ⟨near, h5, t, e5, k5, n5, hne, hnl, onr⟩ := law_near_t k4 n4 hr hp ⟨by omega, e0.2⟩ oc
  have pn : pureV (.lst (near.map blkV)) = true := by
    simp only [pureV]
    exact pure_all fun x hx => by
      obtain ⟨b, _, rfl⟩ := List.mem_map.mp hx
      exact pure_blkV b
  have st5 : asgS (callE (some true) 4 c__law_near (consA (varE 0) (consA (varE 7) (consA (varE 1) (consA (varE 8) nilA))))) (gNm 3) [some (.ref r), some (.int e), some (blkV (mk p e cells)), none, none, none, none, some (.int p), some (tupOf cells), none, none, none] h4 = .nx [some (.ref r), some (.int e), some (blkV (mk p e cells)), some (.lst (near.map blkV)), none, none, none, some (.int p), some (tupOf cells), none, none, none] h5 := asg_nm (callz_ok (arg_ok rfl (arg_ok rfl (arg_ok rfl (arg_ok rfl rfl)))) rfl ((congrArg (EV.settle true h4.length) e5).trans (settle_at (n5.trans n4.symm) k5.pure pn)))
  have loop := for_inv (g := gNm 4) (f := bodyNear) blkV (fun rest σ h' => ∃ x4, σ = [some (.ref r), some (.int e), some (blkV (mk p e cells)), some (.lst (near.map blkV)), x4, none, none, some (.int p), some (tupOf cells), none, none, none] ∧ h' = h5 ∧ ∀ b ∈ rest, okB b)
    (fun b rest σ h' => by
      rintro ⟨x4, r1, r2, r3⟩
      subst r1 r2
      exact ⟨_, _, _, _, rfl, near_body k5 hp (r3 b List.mem_cons_self), some (blkV b), rfl, rfl, fun b' hb' => r3 b' (List.mem_cons_of_mem _ hb')⟩)
    near [some (.ref r), some (.int e), some (blkV (mk p e cells)), some (.lst (near.map blkV)), none, none, none, some (.int p), some (tupOf cells), none, none, none] h5 ⟨none, rfl, rfl, onr⟩
  obtain ⟨σ', h', e6, x4, r1, r2, _⟩ := loop
  subst r1 r2
  obtain ⟨cv2, h6, e7, k6, n6, cells2, rfl, hl2, oc2⟩ := law_cells_t (tl := []) k5 n5 hr
  simp only [List.append_nil] at e7
  have lm2 : ∀ H, c__law_made [.int p, .int (e + 1), tupOf cells2] H = .ok (blkV (mk p (e + 1) cells2)) H := fun H => by rw [law_made, blk_mk]
  have st7 : parS 9 10 (consA (callE none 3 c__law_made (consA (varE 7) (consA (binE addI (varE 1) (cstE (.int 1))) (consA (callE none 1 c__law_cells (consA (varE 0) nilA)) nilA)))) (consA (binE mulDI (tupE (consA (tupE nilA) nilA)) (cstE (.int 4))) nilA)) [some (.ref r), some (.int e), some (blkV (mk p e cells)), some (.lst (near.map blkV)), x4, none, none, some (.int p), some (tupOf cells), none, none, none] h' = .nx [some (.ref r), some (.int e), some (blkV (mk p e cells)), some (.lst (near.map blkV)), x4, none, none, some (.int p), some (tupOf cells), some (blkV (mk p (e + 1) cells2)), some (blkV [some [], some [], some [], some []]), none] h6 :=
    par_ok (arg_ok (call_ok (arg_ok rfl (arg_ok (bin_ok rfl rfl add_int) (arg_ok (call_ok (arg_ok rfl rfl) rfl e7) rfl))) rfl (lm2 _)) (arg_ok (blank4 (arg_ok (tup_ok rfl (by simp)) rfl)) rfl))
  have loop2 := for_drw (n := n) (g := gNm 5) (f := bodyTurn) (fun k : Nat => IV.int (0 + (k : Int))) (fun ks σ t => t = [] ∧ ∃ x5 x11, σ = [some (.ref r), some (.int e), some (blkV (mk p e cells)), some (.lst (near.map blkV)), x4, x5, none, some (.int p), some (tupOf cells), some (blkV (mk p (e + 1) cells2)), some (blkV [some [], some [], some [], some []]), x11])
    (fun y ks σ h t k hn => by
      rintro ⟨r0, x5, x11, r1⟩
      subst r0 r1
      obtain ⟨y11, h1, q, k1, n1⟩ := turn_body (x1 := some (.int e)) (x4 := x4) (x5 := some (.int (0 + (y : Int)))) (x8 := some (tupOf cells)) (x11 := x11) k hn hr hp e0 hl oc hl2 oc2 hne hnl onr
      refine ⟨_, _, h1, [], rfl, ?_, k1, n1, rfl, some (.int (0 + (y : Int))), y11, rfl⟩
      rw [List.append_nil, List.append_nil]
      exact q)
    (List.range 5) [some (.ref r), some (.int e), some (blkV (mk p e cells)), some (.lst (near.map blkV)), x4, none, none, some (.int p), some (tupOf cells), some (blkV (mk p (e + 1) cells2)), some (blkV [some [], some [], some [], some []]), none] h6 [] k6 n6 ⟨rfl, none, none, rfl⟩
  obtain ⟨σ', h7, tl', e8, k7, n7, r0, x5, x11, r1⟩ := loop2
  subst r0 r1
  rw [List.append_nil, List.append_nil] at e8
  have st9 : asgS (tupE (consA (tupE (consA (binE subD (varE 2) (cstE (.int 0))) (consA (cstE .non) (consA (cstE .non) (consA (binE subD (varE 2) (cstE (.int 3))) nilA))))) (consA (tupE (consA (cstE .non) (consA (binE subD (varE 2) (cstE (.int 1))) (consA (binE subD (varE 2) (cstE (.int 2))) (consA (cstE .non) nilA))))) nilA))) (gNm 6) [some (.ref r), some (.int e), some (blkV (mk p e cells)), some (.lst (near.map blkV)), x4, x5, none, some (.int p), some (tupOf cells), some (blkV (mk p (e + 1) cells2)), some (blkV [some [], some [], some [], some []]), x11] h7 = .nx [some (.ref r), some (.int e), some (blkV (mk p e cells)), some (.lst (near.map blkV)), x4, x5, some (copV [[some (partS p e cells 0), none, none, some (partS p e cells 3)], [none, some (partS p e cells 1), some (partS p e cells 2), none]]), some (.int p), some (tupOf cells), some (blkV (mk p (e + 1) cells2)), some (blkV [some [], some [], some [], some []]), x11] h7 := by
    have sb : ∀ k : Nat, k < 4 → ∀ H, subD (blkV (mk p e cells)) (.int (k : Int)) H = .ok (secV (some (partS p e cells k))) H := fun k hk H => by rw [sub_blk hk, mk_at hk]
    exact asg_nm (tup_ok (arg_ok (tup_ok (arg_ok (bin_ok rfl rfl (sb 0 (by omega) _)) (arg_ok rfl (arg_ok rfl (arg_ok (bin_ok rfl rfl (sb 3 (by omega) _)) rfl)))) (by simp)) (arg_ok (tup_ok (arg_ok rfl (arg_ok (bin_ok rfl rfl (sb 1 (by omega) _)) (arg_ok (bin_ok rfl rfl (sb 2 (by omega) _)) (arg_ok rfl rfl)))) (by simp)) rfl)) (by simp))
  have olots : okCs [[some (partS p e cells 0), none, none, some (partS p e cells 3)], [none, some (partS p e cells 1), some (partS p e cells 2), none]] := by
    have g := fun k hk => (part_ok (k := k) okp oke hk oc).1
    refine ⟨by simp, by simp, fun c hc => ?_⟩
    simp only [List.mem_cons, List.not_mem_nil, or_false] at hc
    rcases hc with rfl | rfl
    · refine ⟨rfl, fun s hs => ?_⟩
      simp only [List.mem_cons, List.not_mem_nil, or_false] at hs
      rcases hs with rfl | rfl | rfl | rfl
      · exact g 0 (by omega)
      · trivial
      · trivial
      · exact g 3 (by omega)
    · refine ⟨rfl, fun s hs => ?_⟩
      simp only [List.mem_cons, List.not_mem_nil, or_false] at hs
      rcases hs with rfl | rfl | rfl | rfl
      · trivial
      · exact g 1 (by omega)
      · exact g 2 (by omega)
      · trivial
  have tl := ev_told_copies (p := p) (h := h7) k7.pure hp.1 hp.2 olots
  rw [told_lots e0.1 hl] at tl
  refine ⟨h7, ?_, k7, n7⟩
  exact def_rt ((seq_nx st1).trans ((seq_nx st2).trans ((seq_nx st3).trans ((seq_nx st4).trans ((seq_nx st5).trans ((seq_nx (for_nx (any_ok rfl) e6)).trans ((seq_nx st7).trans ((seq_nx (for_nx (xs := (List.range 5).map fun k : Nat => IV.int (0 + (k : Int))) rfl e8)).trans ((seq_nx st9).trans (seq_rt (ret_ok (bin_ok (call_ok (arg_ok rfl (arg_ok rfl rfl)) rfl tl) (tup_ok (arg_ok rfl (arg_ok rfl (arg_ok rfl rfl))) (by simp)) (eq_same clw)))))))))))))
end K08
namespace K08
open PySem PySem.Spec PyProof.Rows EV
open L2 hiding eqV keyOf
theorem pow_ok {a b : Int} {h : IH} (c : powOk a b) : powI (.int a) (.int b) h = .ok (.int (a ^ b.toNat)) h := by
  show (if powOk a b then _ else _) = _
  rw [if_pos c]
theorem law_tub_t {ns : List Int} {s : Nat} {h : IH} (hs : s ≤ 10) : ∃ a b c, c__law_tub [.scr (ns.map .int), .int (s : Int)] h = .ok (.ref h.length) (h ++ [T3 a b c]) := by
  have m1 : ∀ x : Int, mulOk 211 x := fun x => .inl (by omega)
  have m2 : ∀ x : Int, mulOk 1201 x := fun x => .inl (by omega)
  have m3 : ∀ x : Int, mulOk 47 x := fun x => .inl (by omega)
  have m4 : ∀ x : Int, mulOk x 83 := fun x => .inr (.inl (by omega))
  have ln : ∀ σ : IE, σ[0]? = some (some (.scr (ns.map .int))) → bltE lenI (consA (varE 0) nilA) σ h = .ok (.int (ns.length : Int)) h := fun σ e => by
    have v0 : varE 0 σ h = .ok (.scr (ns.map .int)) h := by unfold varE; rw [e]
    refine blt_ok (arg_ok v0 rfl) ?_
    show Out.ok (IV.int ((ns.map IV.int).length : Int)) h = _
    rw [List.length_map]
  have st1 : ∃ c : Int, asgS (iteE (cmpT (ordE .Lt) (varE 1) (bltE lenI (consA (varE 0) nilA))) (bltE intI (consA (binE subD (varE 0) (varE 1)) nilA)) (binE addI (binE mulDI (cstE (.int 211)) (varE 1)) (cstE (.int 97)))) (gNm 2) (startI 5 [.scr (ns.map .int), .int (s : Int)]) h = .nx [some (.scr (ns.map .int)), some (.int s), some (.int c), none, none] h := by
    by_cases hl : s < ns.length
    · refine ⟨ns[s], asg_nm (ite_ok (h1 := h) (b := true) (cmp_ok rfl (ln _ rfl) ?_) ?_)⟩
      · show Out.ok (IV.bl (decide ((s : Int) < ns.length))) h = _
        rw [decide_eq_true (by omega)]
      · rw [if_pos rfl]
        have a : atI (ns.map IV.int) (s : Int) = some (.int ns[s]) := by
          unfold atI ixN
          rw [if_pos (by omega), if_pos (by rw [List.length_map]; omega)]
          simp [hl]
        refine blt_ok (vs := [.int ns[s]]) (arg_ok (bin_ok rfl rfl ?_) rfl) rfl
        show (match atI (ns.map IV.int) (s : Int) with | some v => Out.ok v h | none => .no) = _
        rw [a]
    · refine ⟨211 * (s : Int) + 97, asg_nm (ite_ok (h1 := h) (b := false) (cmp_ok rfl (ln _ rfl) ?_) ?_)⟩
      · show Out.ok (IV.bl (decide ((s : Int) < ns.length))) h = _
        rw [decide_eq_false (by omega)]
      · rw [if_neg (by simp)]
        exact bin_ok (bin_ok rfl rfl (mul_ok (m1 _))) rfl add_int
  obtain ⟨c, st1⟩ := st1
  have big : mulOk (10 ^ (56 : Int).toNat) (10 ^ (57 : Int).toNat) := .inr (.inr (by decide +kernel))
  have p56 : binE powI (cstE (.int 10)) (cstE (.int 56)) [some (.scr (ns.map .int)), some (.int s), some (.int c), none, none] h = .ok (.int (10 ^ (56 : Int).toNat)) h := bin_ok rfl rfl (pow_ok (by decide +kernel))
  have p57 : binE powI (cstE (.int 10)) (cstE (.int 57)) [some (.scr (ns.map .int)), some (.int s), some (.int c), none, none] h = .ok (.int (10 ^ (57 : Int).toNat)) h := bin_ok rfl rfl (pow_ok (by decide +kernel))
  have st2 : asgS (binE modI (bltE intI (consA (bltE absI (consA (varE 2) nilA)) nilA)) (binE mulDI (binE powI (cstE (.int 10)) (cstE (.int 56))) (binE powI (cstE (.int 10)) (cstE (.int 57))))) (gNm 3) [some (.scr (ns.map .int)), some (.int s), some (.int c), none, none] h = .nx [some (.scr (ns.map .int)), some (.int s), some (.int c), some (.int ((if c < 0 then -c else c) % (10 ^ (56 : Int).toNat * 10 ^ (57 : Int).toNat))), none] h :=
    asg_nm (bin_ok (v := .int (if c < 0 then -c else c)) rfl (bin_ok p56 p57 (mul_ok big)) (mod_ok (by decide +kernel)))
  generalize (if c < 0 then -c else c) % (10 ^ (56 : Int).toNat * 10 ^ (57 : Int).toNat) = g at st2
  have st3 : ∃ z : Int, asgS (binE addI (binE addI (binE addI (binE mulDI (binE modI (varE 3) (cstE (.int 2305843009213693907))) (cstE (.int 83))) (binE mulDI (cstE (.int 1201)) (varE 1))) (binE mulDI (cstE (.int 47)) (bltE intI (consA (binE (ordE .Lt) (varE 2) (cstE (.int 0))) nilA)))) (cstE (.int 31))) (gNm 4) [some (.scr (ns.map .int)), some (.int s), some (.int c), some (.int g), none] h = .nx [some (.scr (ns.map .int)), some (.int s), some (.int c), some (.int g), some (.int z)] h :=
    ⟨_, asg_nm (bin_ok (bin_ok (bin_ok (bin_ok (bin_ok rfl rfl (mod_ok (by omega))) rfl (mul_ok (m4 _))) (bin_ok rfl rfl (mul_ok (m2 _))) add_int) (bin_ok (u := .int (if decide (c < 0) = true then 1 else 0)) rfl rfl (mul_ok (m3 _))) add_int) rfl add_int)⟩
  obtain ⟨z, st3⟩ := st3
  have p16 : binE powI (cstE (.int 10)) (cstE (.int 16)) [some (.scr (ns.map .int)), some (.int s), some (.int c), some (.int g), some (.int z)] h = .ok (.int (10 ^ (16 : Int).toNat)) h := bin_ok rfl rfl (pow_ok (by decide +kernel))
  have en : refE (capA (consA (bltE maxI (consA (cstE (.int 0)) (consA (binE subI (varE 3) (binE powI (cstE (.int 10)) (cstE (.int 16)))) nilA))) (consA (binE modI (bltE intI (consA (varE 4) nilA)) (cstE (.int 1152921504606846871))) (consA (cstE (.int 0)) nilA)))) [some (.scr (ns.map .int)), some (.int s), some (.int c), some (.int g), some (.int z)] h = .ok (.ref h.length) (h ++ [.lst [.int (if g - 10 ^ (16 : Int).toNat > 0 then g - 10 ^ (16 : Int).toNat else 0), .int (z % 1152921504606846871), .int 0]]) :=
    ref_ok (arg_ok (blt_ok (arg_ok rfl (arg_ok (bin_ok rfl p16 rfl) rfl)) rfl) (arg_ok (bin_ok (v := .int z) rfl rfl (mod_ok (by omega))) rfl)) (by simp)
  exact ⟨_, _, _, def_rt ((seq_nx st1).trans ((seq_nx st2).trans ((seq_nx st3).trans (seq_rt (ret_ok en)))))⟩
theorem Hok.app {h : IH} (k : Hok h) (a b c : Int) : Hok (h ++ [T3 a b c]) := fun o ho => by
  rcases List.mem_append.mp ho with ho | ho
  · exact k o ho
  · exact ⟨a, b, c, List.mem_singleton.mp ho⟩
theorem settle_new {h : IH} {o : EV.IO} (ph : pureH h = true) (po : pureO o = true) : EV.settle false h.length (.ok (.ref h.length) (h ++ [o])) = .ok (.ref h.length) (h ++ [o]) := by
  have g : (h ++ [o])[h.length]? = some o := by simp
  show (if pureH (List.take h.length (h ++ [o])) = true then (match (h ++ [o])[h.length]? with
    | some o' => if h.length ≤ h.length ∧ pureO o' = true then (if false = true then Out.ok o'.val (List.take h.length (h ++ [o])) else Out.ok (IV.ref h.length) (List.take h.length (h ++ [o]) ++ [o'])) else _
    | none => _) else _) = _
  rw [List.take_left, if_pos ph, g]
  show (if h.length ≤ h.length ∧ pureO o = true then _ else _) = _
  rw [if_pos ⟨Nat.le_refl _, po⟩, if_neg (by simp)]
abbrev bodySpot : SM := (seqS (asgS (callE (some false) 2 c__law_tub (consA (varE 0) (consA (varE 1) nilA))) (gNm 3))
    (seqS (ifS (orT (notT (truT (callE none 1 c__law_right (consA (varE 3) nilA)))) (notT (truT (callE none 1 c__law_right (consA (varE 3) nilA))))) (seqS (retS (cstE (.bl false)))
    nextS) nextS)
    nextS))
abbrev lotsA : List (List Sec) := [[some [9, 3, 0, 1], some [9, 3, 1], some [9, 4, 2], some [9, 4, 3]], [some [9, 4, 0], some [9, 4, 1], some [9, 3, 2], some [9, 3, 3]]]
abbrev lotsB : List (List Sec) := [[some [9, 3, 0, 1], some [9, 3, 1], some [9, 3, 2], some [9, 3, 3]], [some [9, 4, 0], some [9, 4, 1], some [9, 4, 2], none]]
theorem md_lots {cs : List (List Sec)} (h : cs = lotsA ∨ cs = lotsB) : Md 9 (two 3 4 [1] []) cs := by
  refine ⟨fun x cx h => ?_, fun c hc k hk => ?_⟩
  · unfold two at h
    split at h
    · injection h with h; subst h; rename_i q; subst q; exact ⟨by omega, by simp⟩
    · split at h
      · injection h with h; subst h; rename_i q; subst q; exact ⟨by omega, by simp⟩
      · cases h
  · have a : ∀ k : Nat, k < 4 → ∀ c : List Sec, atS c k = some (partS 9 3 [1] k) → atS c k = none ∨ atS c k = some [] ∨ ∃ x cx, two 3 4 [1] [] x = some cx ∧ atS c k = some (partS 9 x cx k) := fun k _ c h => .inr (.inr ⟨3, [1], rfl, h⟩)
    have b : ∀ k : Nat, k < 4 → ∀ c : List Sec, atS c k = some (partS 9 4 [] k) → atS c k = none ∨ atS c k = some [] ∨ ∃ x cx, two 3 4 [1] [] x = some cx ∧ atS c k = some (partS 9 x cx k) := fun k _ c h => .inr (.inr ⟨4, [], rfl, h⟩)
    rcases h with rfl | rfl
    · simp only [List.mem_cons, List.not_mem_nil, or_false] at hc
      rcases hc with rfl | rfl
      · match k, hk with
        | 0, hk => exact a 0 hk _ rfl
        | 1, hk => exact a 1 hk _ rfl
        | 2, hk => exact b 2 hk _ rfl
        | 3, hk => exact b 3 hk _ rfl
      · match k, hk with
        | 0, hk => exact b 0 hk _ rfl
        | 1, hk => exact b 1 hk _ rfl
        | 2, hk => exact a 2 hk _ rfl
        | 3, hk => exact a 3 hk _ rfl
    · simp only [List.mem_cons, List.not_mem_nil, or_false] at hc
      rcases hc with rfl | rfl
      · match k, hk with
        | 0, hk => exact a 0 hk _ rfl
        | 1, hk => exact a 1 hk _ rfl
        | 2, hk => exact a 2 hk _ rfl
        | 3, hk => exact a 3 hk _ rfl
      · match k, hk with
        | 0, hk => exact b 0 hk _ rfl
        | 1, hk => exact b 1 hk _ rfl
        | 2, hk => exact b 2 hk _ rfl
        | 3, hk => exact .inl rfl
theorem joinA : joinP 9 lotsA 3 = some [1] ∧ joinP 9 lotsA 4 = some [] := by
  refine ⟨(join_md (md_lots (.inl rfl))).mpr ⟨rfl, fun k hk => ?_⟩, (join_md (md_lots (.inl rfl))).mpr ⟨rfl, fun k hk => ?_⟩⟩
  · match k, hk with
    | 0, _ => exact ⟨_, List.mem_cons_self, rfl⟩
    | 1, _ => exact ⟨_, List.mem_cons_self, rfl⟩
    | 2, _ => exact ⟨_, List.mem_cons_of_mem _ List.mem_cons_self, rfl⟩
    | 3, _ => exact ⟨_, List.mem_cons_of_mem _ List.mem_cons_self, rfl⟩
  · match k, hk with
    | 0, _ => exact ⟨_, List.mem_cons_of_mem _ List.mem_cons_self, rfl⟩
    | 1, _ => exact ⟨_, List.mem_cons_of_mem _ List.mem_cons_self, rfl⟩
    | 2, _ => exact ⟨_, List.mem_cons_self, rfl⟩
    | 3, _ => exact ⟨_, List.mem_cons_self, rfl⟩
theorem two_cases {x : Int} {cx : List Int} (h : two 3 4 [1] [] x = some cx) : x = 3 ∨ x = 4 := by
  unfold two at h
  split at h
  · exact .inl ‹_›
  · split at h
    · exact .inr ‹_›
    · cases h
theorem wholeA : wholeP 9 lotsA = [3, 4] := strict_ext wholeP_strict (by simp) fun x => by
  rw [wholeP_mem, Option.isSome_iff_exists]
  constructor
  · rintro ⟨cx, hj⟩
    rcases two_cases ((join_md (md_lots (.inl rfl))).mp hj).1 with rfl | rfl <;> simp
  · intro h
    simp only [List.mem_cons, List.not_mem_nil, or_false] at h
    rcases h with rfl | rfl
    · exact ⟨_, joinA.1⟩
    · exact ⟨_, joinA.2⟩
theorem wholeB : wholeP 9 lotsB = [3] := strict_ext wholeP_strict (by simp) fun x => by
  rw [wholeP_mem, Option.isSome_iff_exists, List.mem_singleton]
  constructor
  · rintro ⟨cx, hj⟩
    obtain ⟨h1, h2⟩ := (join_md (md_lots (.inr rfl))).mp hj
    rcases two_cases h1 with rfl | rfl
    · rfl
    · obtain ⟨c, hc, h3⟩ := h2 3 (by omega)
      have : cx = [] := by injection h1.symm
      subst this
      simp only [List.mem_cons, List.not_mem_nil, or_false] at hc
      rcases hc with rfl | rfl
      · exact absurd h3 (by decide)
      · exact absurd h3 (by decide)
  · rintro rfl
    exact ⟨[1], (join_md (md_lots (.inr rfl))).mpr ⟨rfl, fun k hk => match k, hk with
      | 0, _ => ⟨_, List.mem_cons_self, rfl⟩
      | 1, _ => ⟨_, List.mem_cons_self, rfl⟩
      | 2, _ => ⟨_, List.mem_cons_self, rfl⟩
      | 3, _ => ⟨_, List.mem_cons_self, rfl⟩⟩⟩
theorem whole8 : wholeP 8 lotsA = [] := by
  unfold wholeP
  rw [show edsP 8 lotsA = [] by decide +kernel]
  simp
theorem okCs_lit {cs : List (List Sec)} (h1 : 1 ≤ cs.length) (h4 : cs.length ≤ 4) (hb : ∀ c ∈ cs, c.length = 4 ∧ ∀ s ∈ c, (s.getD []).length ≤ 16 ∧ ∀ i ∈ s.getD [], 0 ≤ i ∧ i ≤ 9) : okCs cs := ⟨h1, h4, fun c hc => ⟨(hb c hc).1, fun s hs => by
  have := (hb c hc).2 s hs
  cases s with
  | none => trivial
  | some ns => exact ⟨this.1, fun i hi => ⟨(this.2 i hi).1, by have := (this.2 i hi).2; omega⟩⟩⟩⟩
theorem law_true (ns : List Int) (hl : ns.length ≤ 63) : ∃ h, c_law [.scr (ns.map .int)] [] = .ok (.bl true) h := by
  have rng : ∃ j : Nat, j ≤ 3 ∧ rngIt (consA (bltE maxI (consA (cstE (.int 1)) (consA (bltE minI (consA (cstE (.int 3)) (consA (bltE lenI (consA (varE 0) nilA)) nilA))) nilA))) nilA) (startI 6 [.scr (ns.map .int)]) [] = .ok ((List.range j).map fun k : Nat => IV.int (0 + (k : Int))) [] := by
    have ln : bltE lenI (consA (varE 0) nilA) (startI 6 [.scr (ns.map .int)]) [] = .ok (.int (ns.length : Int)) [] := by
      show Out.ok (IV.int ((ns.map IV.int).length : Int)) [] = _
      rw [List.length_map]
    obtain ⟨j, hj, ej⟩ : ∃ j : Nat, (j = 1 ∨ j = 2 ∨ j = 3) ∧ bltE maxI (consA (cstE (.int 1)) (consA (bltE minI (consA (cstE (.int 3)) (consA (bltE lenI (consA (varE 0) nilA)) nilA))) nilA)) (startI 6 [.scr (ns.map .int)]) [] = .ok (.int (j : Int)) [] := by
      refine ⟨max 1 (min 3 ns.length), by omega, blt_ok (arg_ok rfl (arg_ok (blt_ok (arg_ok rfl (arg_ok ln rfl)) (o := .ok (.int (min 3 ns.length : Nat)) []) ?_) rfl)) ?_⟩
      · show Out.ok (IV.int (if (ns.length : Int) < 3 then (ns.length : Int) else 3)) [] = _
        congr 2
        split <;> omega
      · show Out.ok (IV.int (if ((min 3 ns.length : Nat) : Int) > 1 then ((min 3 ns.length : Nat) : Int) else 1)) [] = _
        congr 2
        split <;> omega
    refine ⟨j, by omega, rng_lit (arg_ok ej rfl) ?_⟩
    rcases hj with rfl | rfl | rfl <;> simp
  obtain ⟨j, hj, rng⟩ := rng
  have loop := for_inv (g := gNm 1) (f := bodySpot) (fun k : Nat => IV.int (0 + (k : Int))) (fun rest σ h' => Hok h' ∧ (∀ y ∈ rest, y ≤ 10) ∧ ∃ x1 x3, σ = [some (.scr (ns.map .int)), x1, none, x3, none, none])
    (fun y rest σ h' => by
      rintro ⟨k, hy, x1, x3, r1⟩
      subst r1
      obtain ⟨a, b, c, e1⟩ := law_tub_t (ns := ns) (s := y) (h := h') (hy y List.mem_cons_self)
      have k1 := k.app a b c
      obtain ⟨h2, e2, k2, n2⟩ := right_t k1 rfl (r := h'.length) (by simp)
      obtain ⟨h3, e3, k3, n3⟩ := right_t k2 n2 (r := h'.length) (by simp)
      have st1 : asgS (callE (some false) 2 c__law_tub (consA (varE 0) (consA (varE 1) nilA))) (gNm 3) [some (.scr (ns.map .int)), some (.int (0 + (y : Int))), none, x3, none, none] h' = .nx [some (.scr (ns.map .int)), some (.int (0 + (y : Int))), none, some (.ref h'.length), none, none] (h' ++ [T3 a b c]) := by
        rw [Int.zero_add]
        exact asg_nm (callz_ok (arg_ok rfl (arg_ok rfl rfl)) rfl ((congrArg (EV.settle false h'.length) e1).trans (settle_new k.pure (pure_ints [a, b, c]))))
      have st2 : ifS (orT (notT (truT (callE none 1 c__law_right (consA (varE 3) nilA)))) (notT (truT (callE none 1 c__law_right (consA (varE 3) nilA))))) (seqS (retS (cstE (.bl false))) nextS) nextS [some (.scr (ns.map .int)), some (.int (0 + (y : Int))), none, some (.ref h'.length), none, none] (h' ++ [T3 a b c]) = .nx [some (.scr (ns.map .int)), some (.int (0 + (y : Int))), none, some (.ref h'.length), none, none] h3 :=
        if_ok (h1 := h3) (b := false) (or_ok (a := false) (b := false) (not_ok (a := true) (tru_bl (call_ok (arg_ok rfl rfl) rfl e2))) (fun _ => not_ok (a := true) (tru_bl (call_ok (arg_ok rfl rfl) rfl e3))) fun z => by cases z) rfl
      exact ⟨_, _, _, _, rfl, (seq_nx st1).trans ((seq_nx st2).trans rfl), k3, fun y' h' => hy y' (List.mem_cons_of_mem _ h'), _, _, rfl⟩)
    (List.range j) (startI 6 [.scr (ns.map .int)]) [] ⟨fun o ho => (by cases ho), fun y hy => (by have := List.mem_range.mp hy; omega), none, none, rfl⟩
  obtain ⟨σ', h', e, k, _, x1, x3, r1⟩ := loop
  subst r1
  have one : ∀ H, c_made_block [.int 9, .int 3, .tup [.int 1]] H = .ok (blkV (mk 9 3 [1])) H := fun H => by
    rw [show IV.tup [.int 1] = tupOf [1] from rfl, ev_made_block (by omega) (by omega) (by omega) (by omega) (by simp) (by simp [okC]), blk_mk]
  have two' : ∀ H, c_made_block [.int 9, .int 4, .tup []] H = .ok (blkV (mk 9 4 [])) H := fun H => by
    rw [show IV.tup [] = tupOf [] from rfl, ev_made_block (by omega) (by omega) (by omega) (by omega) (by simp) (by simp), blk_mk]
  have st2 : parS 4 5 (consA (callE none 3 c_made_block (consA (cstE (.int 9)) (consA (cstE (.int 3)) (consA (tupE (consA (cstE (.int 1)) nilA)) nilA)))) (consA (callE none 3 c_made_block (consA (cstE (.int 9)) (consA (cstE (.int 4)) (consA (tupE nilA) nilA)))) nilA)) [some (.scr (ns.map .int)), x1, none, x3, none, none] h' = .nx [some (.scr (ns.map .int)), x1, none, x3, some (blkV (mk 9 3 [1])), some (blkV (mk 9 4 []))] h' :=
    par_ok (arg_ok (call_ok (arg_ok rfl (arg_ok rfl (arg_ok (tup_ok (arg_ok rfl rfl) (by simp)) rfl))) rfl (one _)) (arg_ok (call_ok (arg_ok rfl (arg_ok rfl (arg_ok (tup_ok rfl (by simp)) rfl))) rfl (two' _)) rfl))
  have st3 : asgS (tupE (consA (binE addI (sliE (varE 4) noneO (someO (cstE (.int 2)))) (sliE (varE 5) (someO (cstE (.int 2))) noneO)) (consA (binE addI (sliE (varE 5) noneO (someO (cstE (.int 2)))) (sliE (varE 4) (someO (cstE (.int 2))) noneO)) nilA))) (gNm 2) [some (.scr (ns.map .int)), x1, none, x3, some (blkV (mk 9 3 [1])), some (blkV (mk 9 4 []))] h' = .nx [some (.scr (ns.map .int)), x1, some (copV lotsA), x3, some (blkV (mk 9 3 [1])), some (blkV (mk 9 4 []))] h' :=
    asg_nm (v := copV lotsA) (tup_ok (arg_ok (bin_ok (sliB_to (k := 2) rfl rfl) (sliB_from (k := 2) rfl rfl) (add_blk (by decide))) (arg_ok (bin_ok (sliB_to (k := 2) rfl rfl) (sliB_from (k := 2) rfl rfl) (add_blk (by decide))) rfl)) (by simp))
  have oA : okCs lotsA := okCs_lit (by decide) (by decide) (by decide)
  have oBt : okCs lotsB := okCs_lit (by decide) (by decide) (by decide)
  have tA : toldP 9 lotsA = .tup [sWhole, .int 4, .tup []] := by
    unfold toldP toldW
    rw [wholeA]
    simp only [List.getLast?_cons_cons, List.getLast?_singleton, joinA.2]
    rfl
  have tB : ∃ x, toldP 9 lotsB = .tup [sWhole, .int 3, x] := by
    unfold toldP toldW
    rw [wholeB]
    exact ⟨_, rfl⟩
  obtain ⟨xB, tB⟩ := tB
  have clA : cl DEEP (.tup [sWhole, .int 4, .tup []]) = true := by decide +kernel
  have wE := fun (p : Int) (h1 : 0 ≤ p) (h2 : p ≤ 239) => ev_whole_editions (p := p) (h := h') k.pure h1 h2 oA
  have w9 := wE 9 (by omega) (by omega)
  have w8 := wE 8 (by omega) (by omega)
  rw [wholeA] at w9
  rw [whole8] at w8
  have t9 := ev_told_copies (p := 9) (h := h') k.pure (by omega) (by omega) oA
  rw [tA] at t9
  have tb := ev_told_copies (p := 9) (h := h') k.pure (by omega) (by omega) oBt
  rw [tB] at tb
  have st4 : ifS (orT (cmpT neDI (callE none 2 c_whole_editions (consA (cstE (.int 9)) (consA (varE 2) nilA))) (tupE (consA (cstE (.int 3)) (consA (cstE (.int 4)) nilA)))) (cmpT neDI (callE none 2 c_told_copies (consA (cstE (.int 9)) (consA (varE 2) nilA))) (tupE (consA (cstE (.str "whole")) (consA (cstE (.int 4)) (consA (tupE nilA) nilA)))))) (seqS (retS (cstE (.bl false))) nextS) nextS [some (.scr (ns.map .int)), x1, some (copV lotsA), x3, some (blkV (mk 9 3 [1])), some (blkV (mk 9 4 []))] h' = .nx [some (.scr (ns.map .int)), x1, some (copV lotsA), x3, some (blkV (mk 9 3 [1])), some (blkV (mk 9 4 []))] h' :=
    if_ok (h1 := h') (b := false) (or_ok (a := false) (b := false) (cmp_ok (call_ok (arg_ok rfl (arg_ok rfl rfl)) rfl w9) (tup_ok (arg_ok rfl (arg_ok rfl rfl)) (by simp)) (ne_same (x := tupOf [3, 4]) cl_tupOf)) (fun _ => cmp_ok (call_ok (arg_ok rfl (arg_ok rfl rfl)) rfl t9) (tup_ok (arg_ok rfl (arg_ok rfl (arg_ok (tup_ok rfl (by simp)) rfl))) (by simp)) (ne_same clA)) fun z => by cases z) rfl
  have st5 : ifS (orT (cmpT neDI (binE subD (callE none 2 c_told_copies (consA (cstE (.int 9)) (consA (tupE (consA (varE 4) (consA (binE addI (sliE (varE 5) noneO (someO (cstE (.int 3)))) (tupE (consA (cstE .non) nilA))) nilA))) nilA))) (cstE (.int 1))) (cstE (.int 3))) (cmpT neDI (callE none 2 c_whole_editions (consA (cstE (.int 8)) (consA (varE 2) nilA))) (tupE nilA))) (seqS (retS (cstE (.bl false))) nextS) nextS [some (.scr (ns.map .int)), x1, some (copV lotsA), x3, some (blkV (mk 9 3 [1])), some (blkV (mk 9 4 []))] h' = .nx [some (.scr (ns.map .int)), x1, some (copV lotsA), x3, some (blkV (mk 9 3 [1])), some (blkV (mk 9 4 []))] h' :=
    if_ok (h1 := h') (b := false) (or_ok (a := false) (b := false) (cmp_ok (v := .int 3) (u := .int 3) (bin_ok (call_ok (vs := [.int 9, copV lotsB]) (arg_ok rfl (arg_ok (tup_ok (arg_ok rfl (arg_ok (bin_ok (u := blkV [none]) (sliB_to (k := 3) rfl rfl) rfl (add_blk (by decide))) rfl)) (by simp)) rfl)) rfl tb) rfl rfl) rfl (ne_same cl_int)) (fun _ => cmp_ok (call_ok (arg_ok rfl (arg_ok rfl rfl)) rfl w8) (tup_ok rfl (by simp)) (ne_same (x := tupOf []) cl_tupOf)) fun z => by cases z) rfl
  have oB1 : okB (mk 9 3 [1]) := okB_mk ⟨by omega, by omega⟩ ⟨by omega, by omega⟩ (okE_cons ⟨by omega, by omega⟩ okE_nil)
  have b1 := ev_told_block (p := 8) (h := h') k.pure (by omega) (by omega) oB1
  rw [told_one rfl, show toldL 8 (mk 9 3 [1]) = .tup [sTorn] from rfl] at b1
  have oB2 : okB (none :: (mk 9 3 [1]).drop 1) := ⟨rfl, fun s hs => by
    rcases List.mem_cons.mp hs with rfl | hs
    · trivial
    · exact oB1.sec s (List.mem_of_mem_drop hs)⟩
  have b2 := ev_told_block (p := 9) (h := h') k.pure (by omega) (by omega) oB2
  rw [told_one rfl, show toldL 9 (none :: (mk 9 3 [1]).drop 1) = .tup [sLost] from rfl] at b2
  refine ⟨h', def_rt ((seq_nx (for_nx rng e)).trans ((seq_nx st2).trans ((seq_nx st3).trans ((seq_nx st4).trans ((seq_nx st5).trans (seq_rt (ret_ok (and_e (a := true) (b := true) (bin_ok (call_ok (arg_ok rfl (arg_ok rfl rfl)) rfl b1) (tup_ok (arg_ok rfl rfl) (by simp)) (eq_same (by decide +kernel))) fun _ => bin_ok (call_ok (vs := [.int 9, blkV (none :: (mk 9 3 [1]).drop 1)]) (arg_ok rfl (arg_ok (bin_ok (v := blkV [none]) rfl (sliB_from (k := 1) rfl rfl) (add_blk (by decide))) rfl)) rfl b2) (tup_ok (arg_ok rfl rfl) (by simp)) (eq_same (by decide +kernel))))))))))⟩
end K08
namespace K08
open PySem PySem.Spec PyProof.Rows L2 EV
section
variable {Pr : Program} {w : World} {K : PySem.W.Frag} {mg : Str → Option Value} {base : Heap} {G : Nat → Addr}
theorem start {H : Hp} {a : Addr} {ns : List Int} (hl : ns.length ≤ 63) (hO : Only H) (hS : SqL K H a (ns.map V.int)) : spI (PP K G w) 1 c_law [.ref a] H (fun v _ => v = .bl true) fun _ _ _ => False := by
  obtain ⟨h, e⟩ := law_true ns hl
  have allI2 : ∀ (ns : List Int) P φ H, VRs P φ H (ns.map .int) (ns.map V.int) := fun ns P φ H => vrs_ints ns
  refine ⟨rfl, [], [], [], [.scr (ns.map .int)], ⟨rfl, List.nodup_nil, fun a m => by simp [Par.at] at m, fun n o a e => by simp at e⟩, VRs.cons ?_ VRs.nil, ?_⟩
  · rw [VR]
    refine ⟨a, _, rfl, ?_, allI2 ns _ _ _⟩
    rcases hS with (h | ⟨o, h⟩) | h
    · rcases hO a with z | ⟨o, xs, z⟩
      · rw [z] at h; cases h
      · rw [z] at h; cases h
    · exact .inl ⟨o, h⟩
    · exact .inr h
  · rw [e]
    intro φ' H' x _ _ r
    rw [VR] at r; exact r
end
end K08
namespace K08
open PySem PySem.Spec PyProof.Rows L2 EV
def d_is_whole : He.DefD := ⟨("is_whole", none), "is_whole", "is_whole", defArgs (top 6), defBody (top 6), defScope (top 6), [], []⟩
def d_made_in : He.DefD := ⟨("made_in", none), "made_in", "made_in", defArgs (top 26), defBody (top 26), defScope (top 26), [], []⟩
def d_fits : He.DefD := ⟨("fits", none), "fits", "fits", defArgs (top 27), defBody (top 27), defScope (top 27), [], []⟩
def d__law_tub : He.DefD := ⟨("_law_tub", none), "_law_tub", "_law_tub", defArgs (top 40), defBody (top 40), defScope (top 40), [], []⟩
def d__law_dip : He.DefD := ⟨("_law_dip", none), "_law_dip", "_law_dip", defArgs (top 41), defBody (top 41), defScope (top 41), [], []⟩
def d__law_made : He.DefD := ⟨("_law_made", none), "_law_made", "_law_made", defArgs (top 45), defBody (top 45), defScope (top 45), [], []⟩
def d__law_with : He.DefD := ⟨("_law_with", none), "_law_with", "_law_with", defArgs (top 49), defBody (top 49), defScope (top 49), [], []⟩
def d__law_readable : He.DefD := ⟨("_law_readable", none), "_law_readable", "_law_readable", defArgs (top 51), defBody (top 51), defScope (top 51), [], []⟩
def d_is_within_bounds : He.DefD := ⟨("is_within_bounds", none), "is_within_bounds", "is_within_bounds", defArgs (top 7), defBody (top 7), defScope (top 7), [], []⟩
def d_editions_at : He.DefD := ⟨("editions_at", none), "editions_at", "editions_at", defArgs (top 28), defBody (top 28), defScope (top 28), [], []⟩
def d_values_of : He.DefD := ⟨("values_of", none), "values_of", "values_of", defArgs (top 29), defBody (top 29), defScope (top 29), [], []⟩
def d__law_choice : He.DefD := ⟨("_law_choice", none), "_law_choice", "_law_choice", defArgs (top 42), defBody (top 42), defScope (top 42), [], []⟩
def d__law_is_made : He.DefD := ⟨("_law_is_made", none), "_law_is_made", "_law_is_made", defArgs (top 47), defBody (top 47), defScope (top 47), [], []⟩
def d_require_within : He.DefD := ⟨("require_within", none), "require_within", "require_within", defArgs (top 8), defBody (top 8), defScope (top 8), [], []⟩
def d_is_cell : He.DefD := ⟨("is_cell", none), "is_cell", "is_cell", defArgs (top 9), defBody (top 9), defScope (top 9), [], []⟩
def d_joined_cells : He.DefD := ⟨("joined_cells", none), "joined_cells", "joined_cells", defArgs (top 30), defBody (top 30), defScope (top 30), [], []⟩
def d__law_sector : He.DefD := ⟨("_law_sector", none), "_law_sector", "_law_sector", defArgs (top 43), defBody (top 43), defScope (top 43), [], []⟩
def d__law_cells : He.DefD := ⟨("_law_cells", none), "_law_cells", "_law_cells", defArgs (top 46), defBody (top 46), defScope (top 46), [], []⟩
def d__law_told : He.DefD := ⟨("_law_told", none), "_law_told", "_law_told", defArgs (top 48), defBody (top 48), defScope (top 48), [], []⟩
def d__law_whole : He.DefD := ⟨("_law_whole", none), "_law_whole", "_law_whole", defArgs (top 52), defBody (top 52), defScope (top 52), [], []⟩
def d__law_copies : He.DefD := ⟨("_law_copies", none), "_law_copies", "_law_copies", defArgs (top 54), defBody (top 54), defScope (top 54), [], []⟩
def d_is_filled : He.DefD := ⟨("is_filled", none), "is_filled", "is_filled", defArgs (top 14), defBody (top 14), defScope (top 14), [], []⟩
def d_whole_in : He.DefD := ⟨("whole_in", none), "whole_in", "whole_in", defArgs (top 31), defBody (top 31), defScope (top 31), [], []⟩
def d_require_block_place : He.DefD := ⟨("require_block_place", none), "require_block_place", "require_block_place", defArgs (top 33), defBody (top 33), defScope (top 33), [], []⟩
def d__law_block : He.DefD := ⟨("_law_block", none), "_law_block", "_law_block", defArgs (top 44), defBody (top 44), defScope (top 44), [], []⟩
def d__law_due : He.DefD := ⟨("_law_due", none), "_law_due", "_law_due", defArgs (top 53), defBody (top 53), defScope (top 53), [], []⟩
def d_is_sector : He.DefD := ⟨("is_sector", none), "is_sector", "is_sector", defArgs (top 15), defBody (top 15), defScope (top 15), [], []⟩
def d_told_in : He.DefD := ⟨("told_in", none), "told_in", "told_in", defArgs (top 32), defBody (top 32), defScope (top 32), [], []⟩
def d_made_block : He.DefD := ⟨("made_block", none), "made_block", "made_block", defArgs (top 35), defBody (top 35), defScope (top 35), [], []⟩
def d__law_near : He.DefD := ⟨("_law_near", none), "_law_near", "_law_near", defArgs (top 50), defBody (top 50), defScope (top 50), [], []⟩
def d_is_block : He.DefD := ⟨("is_block", none), "is_block", "is_block", defArgs (top 16), defBody (top 16), defScope (top 16), [], []⟩
def d_require_copies : He.DefD := ⟨("require_copies", none), "require_copies", "require_copies", defArgs (top 34), defBody (top 34), defScope (top 34), [], []⟩
def d_told_block : He.DefD := ⟨("told_block", none), "told_block", "told_block", defArgs (top 36), defBody (top 36), defScope (top 36), [], []⟩
def d_told_copies : He.DefD := ⟨("told_copies", none), "told_copies", "told_copies", defArgs (top 37), defBody (top 37), defScope (top 37), [], []⟩
def d_whole_editions : He.DefD := ⟨("whole_editions", none), "whole_editions", "whole_editions", defArgs (top 38), defBody (top 38), defScope (top 38), [], []⟩
def d__law_losses_right : He.DefD := ⟨("_law_losses_right", none), "_law_losses_right", "_law_losses_right", defArgs (top 55), defBody (top 55), defScope (top 55), [], []⟩
def d__law_right : He.DefD := ⟨("_law_right", none), "_law_right", "_law_right", defArgs (top 56), defBody (top 56), defScope (top 56), [], []⟩
def d_law : He.DefD := ⟨("law", none), "law", "law", defArgs (top 57), defBody (top 57), defScope (top 57), [], []⟩
def fn0 : List He.DefD := [d_is_whole, d_made_in, d_fits, d__law_tub, d__law_dip, d__law_made, d__law_with, d__law_readable, d_is_within_bounds, d_editions_at, d_values_of, d__law_choice, d__law_is_made, d_require_within, d_is_cell, d_joined_cells, d__law_sector, d__law_cells, d__law_told, d__law_whole, d__law_copies, d_is_filled, d_whole_in, d_require_block_place, d__law_block, d__law_due, d_is_sector, d_told_in, d_made_block, d__law_near]
def fn1 : List He.DefD := [d_is_block, d_require_copies, d_told_block, d_told_copies, d_whole_editions, d__law_losses_right, d__law_right, d_law]
def fn : List He.DefD := fn0 ++ fn1
def fa0 : List He.Fa := [.glo "is_whole", .glo "made_in", .glo "fits", .glo "_law_tub", .glo "_law_dip", .glo "_law_made", .glo "_law_with", .glo "_law_readable", .glo "is_within_bounds", .glo "editions_at", .glo "values_of", .glo "_law_choice", .glo "_law_is_made", .glo "require_within", .glo "is_cell", .glo "joined_cells", .glo "_law_sector", .glo "_law_cells", .glo "_law_told", .glo "_law_whole", .glo "_law_copies", .glo "is_filled", .glo "whole_in", .glo "require_block_place", .glo "_law_block", .glo "_law_due", .glo "is_sector", .glo "told_in", .glo "made_block", .glo "_law_near"]
def fa1 : List He.Fa := [.glo "is_block", .glo "require_copies", .glo "told_block", .glo "told_copies", .glo "whole_editions", .glo "_law_losses_right", .glo "_law_right", .glo "law", .free "abs", .free "all", .free "bool", .free "enumerate", .free "int", .free "isinstance", .free "len", .free "list", .free "max", .free "min", .free "range", .free "set", .free "sorted", .free "tuple", .int "MARKS" 3, .int "MAX_CELL" 999999999999999999, .int "MOST_BLOCKS" 240, .int "MOST_CELLS_blocks" 52, .int "MOST_CELLS_disks" 16, .int "MOST_COPIES" 4, .int "PARTS" 4, .int "PART_CELLS" 13]
def fa2 : List He.Fa := [.str "BLANK" "blank", .str "LOST" "lost", .str "TORN" "torn", .str "WHOLE" "whole"]
def fa : List He.Fa := fa0 ++ fa1 ++ fa2
def loose0 : List Str := ["EveryError", "InvalidBlock", "InvalidNumber", "MAX_CELL", "is_whole", "is_within_bounds", "require_within", "is_cell", "MOST_BLOCKS", "MOST_CELLS_disks", "PARTS", "is_filled", "is_sector", "is_block", "MARKS", "PART_CELLS", "MOST_CELLS_blocks", "MOST_COPIES", "WHOLE", "LOST", "BLANK", "TORN", "made_in", "fits", "editions_at", "values_of", "joined_cells", "whole_in", "told_in", "require_block_place"]
def loose1 : List Str := ["require_copies", "made_block", "told_block", "told_copies", "whole_editions", "_law_tub", "_law_dip", "_law_choice", "_law_sector", "_law_block", "_law_made", "_law_cells", "_law_is_made", "_law_told", "_law_with", "_law_near", "_law_readable", "_law_whole", "_law_due", "_law_copies", "_law_losses_right", "_law_right"]
def loose : List Str := loose0 ++ loose1
abbrev R : PySem.W.OpenRow := PySem.W.OpenLaw.row PySem.Challenge.rw_everycut_k08_whole_made_blocks_told
abbrev hk : PySem.W.Hook := He.hookD 4 fa fn
def ob (s : PySem.W.SharedT) : He.AlD := He.obsDG 4 fa fn (HandSHeadRun.getT s)
theorem ob_eq (s : PySem.W.SharedT) : ob s = hk.obs s.abs := He.obsDG_eq (HandSHeadRun.getT_eq s)
theorem run (w : World) : HandSHeadRun.RunEq R (PySem.W.view R.prog [57]) hk ob 6000 loose w := by
  intro os
  kernel_rfl
theorem tab {K : PySem.W.Frag} {h : Heap} {mg : Str → Option Value} (X : K.In h) (G : h.Ns mainGlobals mg) (c : He.SaysD fa fn K) : Tab K mg where
  fn_is_whole := ⟨He.glo_ok X G (c.fact 0 (f := .glo "is_whole") rfl), c.def_ 0 (d := d_is_whole) rfl⟩
  fn_made_in := ⟨He.glo_ok X G (c.fact 1 (f := .glo "made_in") rfl), c.def_ 1 (d := d_made_in) rfl⟩
  fn_fits := ⟨He.glo_ok X G (c.fact 2 (f := .glo "fits") rfl), c.def_ 2 (d := d_fits) rfl⟩
  fn__law_tub := ⟨He.glo_ok X G (c.fact 3 (f := .glo "_law_tub") rfl), c.def_ 3 (d := d__law_tub) rfl⟩
  fn__law_dip := ⟨He.glo_ok X G (c.fact 4 (f := .glo "_law_dip") rfl), c.def_ 4 (d := d__law_dip) rfl⟩
  fn__law_made := ⟨He.glo_ok X G (c.fact 5 (f := .glo "_law_made") rfl), c.def_ 5 (d := d__law_made) rfl⟩
  fn__law_with := ⟨He.glo_ok X G (c.fact 6 (f := .glo "_law_with") rfl), c.def_ 6 (d := d__law_with) rfl⟩
  fn__law_readable := ⟨He.glo_ok X G (c.fact 7 (f := .glo "_law_readable") rfl), c.def_ 7 (d := d__law_readable) rfl⟩
  fn_is_within_bounds := ⟨He.glo_ok X G (c.fact 8 (f := .glo "is_within_bounds") rfl), c.def_ 8 (d := d_is_within_bounds) rfl⟩
  fn_editions_at := ⟨He.glo_ok X G (c.fact 9 (f := .glo "editions_at") rfl), c.def_ 9 (d := d_editions_at) rfl⟩
  fn_values_of := ⟨He.glo_ok X G (c.fact 10 (f := .glo "values_of") rfl), c.def_ 10 (d := d_values_of) rfl⟩
  fn__law_choice := ⟨He.glo_ok X G (c.fact 11 (f := .glo "_law_choice") rfl), c.def_ 11 (d := d__law_choice) rfl⟩
  fn__law_is_made := ⟨He.glo_ok X G (c.fact 12 (f := .glo "_law_is_made") rfl), c.def_ 12 (d := d__law_is_made) rfl⟩
  fn_require_within := ⟨He.glo_ok X G (c.fact 13 (f := .glo "require_within") rfl), c.def_ 13 (d := d_require_within) rfl⟩
  fn_is_cell := ⟨He.glo_ok X G (c.fact 14 (f := .glo "is_cell") rfl), c.def_ 14 (d := d_is_cell) rfl⟩
  fn_joined_cells := ⟨He.glo_ok X G (c.fact 15 (f := .glo "joined_cells") rfl), c.def_ 15 (d := d_joined_cells) rfl⟩
  fn__law_sector := ⟨He.glo_ok X G (c.fact 16 (f := .glo "_law_sector") rfl), c.def_ 16 (d := d__law_sector) rfl⟩
  fn__law_cells := ⟨He.glo_ok X G (c.fact 17 (f := .glo "_law_cells") rfl), c.def_ 17 (d := d__law_cells) rfl⟩
  fn__law_told := ⟨He.glo_ok X G (c.fact 18 (f := .glo "_law_told") rfl), c.def_ 18 (d := d__law_told) rfl⟩
  fn__law_whole := ⟨He.glo_ok X G (c.fact 19 (f := .glo "_law_whole") rfl), c.def_ 19 (d := d__law_whole) rfl⟩
  fn__law_copies := ⟨He.glo_ok X G (c.fact 20 (f := .glo "_law_copies") rfl), c.def_ 20 (d := d__law_copies) rfl⟩
  fn_is_filled := ⟨He.glo_ok X G (c.fact 21 (f := .glo "is_filled") rfl), c.def_ 21 (d := d_is_filled) rfl⟩
  fn_whole_in := ⟨He.glo_ok X G (c.fact 22 (f := .glo "whole_in") rfl), c.def_ 22 (d := d_whole_in) rfl⟩
  fn_require_block_place := ⟨He.glo_ok X G (c.fact 23 (f := .glo "require_block_place") rfl), c.def_ 23 (d := d_require_block_place) rfl⟩
  fn__law_block := ⟨He.glo_ok X G (c.fact 24 (f := .glo "_law_block") rfl), c.def_ 24 (d := d__law_block) rfl⟩
  fn__law_due := ⟨He.glo_ok X G (c.fact 25 (f := .glo "_law_due") rfl), c.def_ 25 (d := d__law_due) rfl⟩
  fn_is_sector := ⟨He.glo_ok X G (c.fact 26 (f := .glo "is_sector") rfl), c.def_ 26 (d := d_is_sector) rfl⟩
  fn_told_in := ⟨He.glo_ok X G (c.fact 27 (f := .glo "told_in") rfl), c.def_ 27 (d := d_told_in) rfl⟩
  fn_made_block := ⟨He.glo_ok X G (c.fact 28 (f := .glo "made_block") rfl), c.def_ 28 (d := d_made_block) rfl⟩
  fn__law_near := ⟨He.glo_ok X G (c.fact 29 (f := .glo "_law_near") rfl), c.def_ 29 (d := d__law_near) rfl⟩
  fn_is_block := ⟨He.glo_ok X G (c.fact 30 (f := .glo "is_block") rfl), c.def_ 30 (d := d_is_block) rfl⟩
  fn_require_copies := ⟨He.glo_ok X G (c.fact 31 (f := .glo "require_copies") rfl), c.def_ 31 (d := d_require_copies) rfl⟩
  fn_told_block := ⟨He.glo_ok X G (c.fact 32 (f := .glo "told_block") rfl), c.def_ 32 (d := d_told_block) rfl⟩
  fn_told_copies := ⟨He.glo_ok X G (c.fact 33 (f := .glo "told_copies") rfl), c.def_ 33 (d := d_told_copies) rfl⟩
  fn_whole_editions := ⟨He.glo_ok X G (c.fact 34 (f := .glo "whole_editions") rfl), c.def_ 34 (d := d_whole_editions) rfl⟩
  fn__law_losses_right := ⟨He.glo_ok X G (c.fact 35 (f := .glo "_law_losses_right") rfl), c.def_ 35 (d := d__law_losses_right) rfl⟩
  fn__law_right := ⟨He.glo_ok X G (c.fact 36 (f := .glo "_law_right") rfl), c.def_ 36 (d := d__law_right) rfl⟩
  fn_law := ⟨He.glo_ok X G (c.fact 37 (f := .glo "law") rfl), c.def_ 37 (d := d_law) rfl⟩
  fr_abs := He.free_ok X G (c.fact 38 (f := .free "abs") rfl)
  fr_all := He.free_ok X G (c.fact 39 (f := .free "all") rfl)
  fr_bool := He.free_ok X G (c.fact 40 (f := .free "bool") rfl)
  fr_enumerate := He.free_ok X G (c.fact 41 (f := .free "enumerate") rfl)
  fr_int := He.free_ok X G (c.fact 42 (f := .free "int") rfl)
  fr_isinstance := He.free_ok X G (c.fact 43 (f := .free "isinstance") rfl)
  fr_len := He.free_ok X G (c.fact 44 (f := .free "len") rfl)
  fr_list := He.free_ok X G (c.fact 45 (f := .free "list") rfl)
  fr_max := He.free_ok X G (c.fact 46 (f := .free "max") rfl)
  fr_min := He.free_ok X G (c.fact 47 (f := .free "min") rfl)
  fr_range := He.free_ok X G (c.fact 48 (f := .free "range") rfl)
  fr_set := He.free_ok X G (c.fact 49 (f := .free "set") rfl)
  fr_sorted := He.free_ok X G (c.fact 50 (f := .free "sorted") rfl)
  fr_tuple := He.free_ok X G (c.fact 51 (f := .free "tuple") rfl)
  in_MARKS := He.int_ok X G (c.fact 52 (f := .int "MARKS" 3) rfl)
  in_MAX_CELL := He.int_ok X G (c.fact 53 (f := .int "MAX_CELL" 999999999999999999) rfl)
  in_MOST_BLOCKS := He.int_ok X G (c.fact 54 (f := .int "MOST_BLOCKS" 240) rfl)
  in_MOST_CELLS_blocks := He.int_ok X G (c.fact 55 (f := .int "MOST_CELLS_blocks" 52) rfl)
  in_MOST_CELLS_disks := He.int_ok X G (c.fact 56 (f := .int "MOST_CELLS_disks" 16) rfl)
  in_MOST_COPIES := He.int_ok X G (c.fact 57 (f := .int "MOST_COPIES" 4) rfl)
  in_PARTS := He.int_ok X G (c.fact 58 (f := .int "PARTS" 4) rfl)
  in_PART_CELLS := He.int_ok X G (c.fact 59 (f := .int "PART_CELLS" 13) rfl)
  in_BLANK := He.str_ok X G (c.fact 60 (f := .str "BLANK" "blank") rfl)
  in_LOST := He.str_ok X G (c.fact 61 (f := .str "LOST" "lost") rfl)
  in_TORN := He.str_ok X G (c.fact 62 (f := .str "TORN" "torn") rfl)
  in_WHOLE := He.str_ok X G (c.fact 63 (f := .str "WHOLE" "whole") rfl)
theorem facts {P : Program} {w : World} {K : PySem.W.Frag} {h : Heap} {mg : Str → Option Value} {f : Addr} (X : K.In h) (G : h.Ns mainGlobals mg) (hfa : mg ("law" : Str) = some (.ref f)) (c : He.SaysD fa fn K) :
    ∃ fd : FuncData, (∀ (s : Shared) (v : Value), BindsTo s fd ⟨[v], []⟩ [("_law_script", v)]) ∧ ∀ base : Heap, K.In base → base.Ns mainGlobals mg → FnOk P w K mg base (L2.CX P w) 11 f fd ["_law_script"] (spI (PP K (fun _ => 0) w) 1 c_law) := by
  have T := tab X G c
  obtain ⟨hm, fd, F⟩ := T.fn_law
  have e := hfa.symm.trans hm
  cases e
  have b := FunD.bindsA (ps := ["_law_script"]) F fun _ _ _ _ _ _ us hl => match us, hl with | [_], _ => rfl
  exact ⟨fd, fun s v => b s [v] rfl, fun base _ _ => fok_law T F⟩
end K08
open PySem PySem.W PySem.Calls PyProof.Rows
theorem PySem.Challenge.cw_everycut_k08_whole_made_blocks_told_holds : PySem.Challenge.rw_everycut_k08_whole_made_blocks_told.Holds := by
  w_on; o_law
  refine HandSHeadRun.head_any (r := OpenLaw.row PySem.Challenge.rw_everycut_k08_whole_made_blocks_told) (q := view (OpenLaw.row PySem.Challenge.rw_everycut_k08_whole_made_blocks_told).prog [57]) (H := K08.hk) (ob := K08.ob) (M := 6000) (loose := K08.loose) (d := HandSHeadRun.topDef (OpenLaw.row PySem.Challenge.rw_everycut_k08_whole_made_blocks_told).prog 57) (kwd := []) K08.ob_eq
    (by kernel_rfl) (fun s => by kernel_rfl) K08.run (by kernel_rfl) (by kernel_rfl) (by kernel_rfl) (by rfl) (by first | assumption | decide +kernel) (by decide +kernel) ⟨rfl, rfl, rfl, rfl, rfl, by decide +kernel⟩ ?hw ?hc
  case hw => w_witness2
  case hc =>
    refine EV.walk_w (l := PySem.Challenge.rw_everycut_k08_whole_made_blocks_told) (n := 63) (k := 11) (x := "_law_script") rfl (by decide) (by kernel_rfl) ⟨rfl, by decide, by decide⟩ ?F
    intro w mg fa h Y G hmg0
    obtain ⟨K, KX, c⟩ := Y
    have hmg : mg ("law" : PySem.Str) = some (.ref fa) := by
      have e : (HandSHeadRun.topDef (OpenLaw.row PySem.Challenge.rw_everycut_k08_whole_made_blocks_told).prog 57).name = ("law" : PySem.Str) := by kernel_rfl
      rw [← e]
      exact hmg0
    obtain ⟨fd, hb, hF⟩ := K08.facts (P := (PySem.Challenge.rw_everycut_k08_whole_made_blocks_told).prog) (w := w) KX G hmg c
    exact ⟨K, fd, _, KX, hb, fun H a ns hl hO hS => K08.start hl hO hS, hF⟩
