import PyProof.Rows.All
import Wide.All
import OpenK.AllK
import Wide.FinOn
import HandS.ForMost
import HandS.Walk
import HandS.Wide
import KE.KeyNested
import HandS.Nested
import HandS.TupAny
import HandS.TupMul
import HandS.Deep
import HandS.IsInst
import HandS.Zip
import HandS.RaiseMore
import HandS.More
import HandS.SortOrd
import HandS.Sort
import PyProof.P3Eq
import PyProof.Rows.RowHeap
import HandS.Zip0
import HandS.Style
import HandS.Dict
import PyProof.Rows.TupDisplay
import KE.DataMinMax
import KE.KDictSum
import KE.KDictCopyH
import HandS.DictComp
import HandS.Flow
import HandS.TupSets
import HandS.SetBool
import HandS.ExcValue
import PyProof.TupleOfSeq
import HandS.TupLen
import HandS.Star
import KE.DataCmp
import KE.KDictPairs
import PyProof.DictMoreH
import HandS.DictTup
import KE.KEqNest
import PyProof.DictFindH
import KE.KDictKeyed
import PyProof.ReprRoads
import HandS.ExcOwn
import HandS.WordsExc
import HandS.TryMany
import HandS.EndTab
import KE.KNestM
import KE.KDictOf
import HandS.DictSubView
import HandS.ListEq
import HandS.TupLe
import HandS.Conv
import PySem.Challenge.RW_onorback_k19_orders_put_in_the_place_of
set_option Elab.async false
set_option linter.all false
set_option maxRecDepth 100000
set_option maxHeartbeats 4000000
namespace DL
open PySem PySem.Spec PyProof.Rows L2
/-- a decision that nothing computes -/
noncomputable def gd (p : Prop) : Decidable p := Classical.propDecidable p
/-- a value: data (never changed from now on), or the n-th object of the store -/
inductive W where
  | d (x : PyData)
  | loc (n : Nat)
  | fn
/-- an object that may change -/
inductive Ob where
  | lst (ws : List W)
  | dicK (kvs : List (Key × W))
  | dicT (kvs : List (List Key × W))
  | dicN (kvs : List (List (List Int) × PyData))
  | dead
abbrev Sto := List Ob
abbrev DEnv := List (Option W)
/-- a list of the written part -/
def WrL (K : PySem.W.Frag) (a : Addr) (xs : List V) : Prop := SqL K (fun _ => none) a xs ∧ ∀ x ∈ xs, ∃ i, x = V.int i
def FzL (K : PySem.W.Frag) (H : Hp) (a : Addr) (xs : List V) : Prop := (∃ o, H a = some (.frz o (.lst xs))) ∨ WrL K a xs
theorem FzL.sq {K : PySem.W.Frag} {H : Hp} {a : Addr} {xs : List V} (h : FzL K H a xs) : SqL K H a xs := by
  rcases h with ⟨o, h⟩ | ⟨h | h, _⟩
  · exact .inl (.inr ⟨o, h⟩)
  · rcases h with h | ⟨o, h⟩ <;> cases h
  · exact .inr h
/-- what never changes -/
def Imm : HO → Prop
  | .tup _ => True
  | .frz _ _ => True
  | _ => False
/-- what is neither an own object nor a table -/
def Fix : HO → Prop
  | .tup _ => True
  | .frz _ _ => True
  | .tbl _ => True
  | _ => False
theorem imm_fix {o : HO} (h : ¬ Fix o) : ¬ Imm o := fun z => h (by cases o <;> first | exact z.elim | trivial)
theorem imm_tbl {o : HO} (h : Imm o) (ps : Array Value) : o ≠ .tbl ps := fun z => by subst z; exact h.elim
def Kp (H H' : Hp) : Prop := ∀ a o, H a = some o → Imm o → H' a = some o
theorem Kp.refl (H : Hp) : Kp H H := fun _ _ h _ => h
theorem Kp.trans {H H1 H2 : Hp} (a : Kp H H1) (b : Kp H1 H2) : Kp H H2 := fun c o h i => b c o (a c o h i) i
theorem FzL.mono {K : PySem.W.Frag} {H H' : Hp} {a : Addr} {xs : List V} (h : FzL K H a xs) (k : Kp H H') : FzL K H' a xs := by
  rcases h with ⟨o, h⟩ | h
  · exact .inl ⟨o, k _ _ h trivial⟩
  · exact .inr h
theorem sqT_mono {K : PySem.W.Frag} {H H' : Hp} {a : Addr} {xs : List V} (h : SqT K H a xs) (k : Kp H H') : SqT K H' a xs := by
  rcases h with (h | ⟨o, h⟩) | h
  · exact .inl (.inl (k _ _ h trivial))
  · exact .inl (.inr ⟨o, k _ _ h trivial⟩)
  · exact .inr h
/-- a key of a dict, as data -/
def keyP : Key → PyData
  | .inl i => .int i
  | .inr x => .str x
/-- a row of a rule: a content, and the next one -/
def rowP : PyData → Bool
  | .tuple [.tuple (.int _ :: _), .tuple (.int _ :: _)] => true
  | _ => false
/-- rows, and nothing else: such tuples are known to the last field (dict(t) asks it) -/
def ruly (ds : List PyData) : Bool := ds.all rowP
mutual
inductive Rp (K : PySem.W.Frag) (H : Hp) : V → PyData → Prop
  | non : Rp K H .non .none
  | bl (b : Bool) : Rp K H (.bl b) (.bool b)
  | int (i : Int) : Rp K H (.int i) (.int i)
  | str (x : Str) : Rp K H (.str x) (.str x)
  | lst {a : Addr} {xs : List V} {ds : List PyData} : FzL K H a xs → RpAll K H xs ds → Rp K H (.ref a) (.list ds)
  | tup {a : Addr} {xs : List V} {ds : List PyData} : H a = some (.tup xs) → ruly ds = false → RpAll K H xs ds → Rp K H (.ref a) (.tuple ds)
  | tupZ {a : Addr} {o : Obj} {xs : List V} {ds : List PyData} : H a = some (.frz o (.tup xs)) → o.dict = none → ruly ds = true → RpAll K H xs ds → Rp K H (.ref a) (.tuple ds)
  | dicT {a : Addr} {o : Obj} {us : List (List Key × V)} {ds : List (PyData × PyData)} : H a = some (.frz o (.dT us)) → (ds.map fun q => q.1) = (us.map fun q => PyData.tuple (q.1.map keyP)) → (∀ u ∈ us, u.1 ≠ []) → RpAll K H (us.map fun q => q.2) (ds.map fun q => q.2) → Rp K H (.ref a) (.dict ds)
  | dicK {a : Addr} {o : Obj} {us : List (Key × V)} {ds : List (PyData × PyData)} : H a = some (.frz o (.dK us)) → us ≠ [] → (ds.map fun q => q.1) = (us.map fun q => keyP q.1) → RpAll K H (us.map fun q => q.2) (ds.map fun q => q.2) → Rp K H (.ref a) (.dict ds)
inductive RpAll (K : PySem.W.Frag) (H : Hp) : List V → List PyData → Prop
  | nil : RpAll K H [] []
  | cons {v : V} {vs : List V} {d : PyData} {ds : List PyData} : Rp K H v d → RpAll K H vs ds → RpAll K H (v :: vs) (d :: ds)
end
section
variable {K : PySem.W.Frag} {H H' : Hp}
mutual
theorem Rp.mono' (k : Kp H H') : ∀ {v : V} {d : PyData}, Rp K H v d → Rp K H' v d
  | _, _, .non => .non
  | _, _, .bl b => .bl b
  | _, _, .int i => .int i
  | _, _, .str x => .str x
  | _, _, .lst f r => .lst (f.mono k) (RpAll.mono' k r)
  | _, _, .tup f z r => .tup (k _ _ f trivial) z (RpAll.mono' k r)
  | _, _, .tupZ f d z r => .tupZ (k _ _ f trivial) d z (RpAll.mono' k r)
  | _, _, .dicT f e z r => .dicT (k _ _ f trivial) e z (RpAll.mono' k r)
  | _, _, .dicK f n e r => .dicK (k _ _ f trivial) n e (RpAll.mono' k r)
theorem RpAll.mono' (k : Kp H H') : ∀ {vs : List V} {ds : List PyData}, RpAll K H vs ds → RpAll K H' vs ds
  | _, _, .nil => .nil
  | _, _, .cons h t => .cons (Rp.mono' k h) (RpAll.mono' k t)
end
theorem Rp.mono (k : Kp H H') (d : PyData) (v : V) (h : Rp K H v d) : Rp K H' v d := Rp.mono' k h
theorem RpAll.mono (k : Kp H H') (ds : List PyData) (vs : List V) (h : RpAll K H vs ds) : RpAll K H' vs ds := RpAll.mono' k h
mutual
theorem Rp.dp : ∀ (d : PyData) (v : V), d.hasDict = false → Rp K H v d → Dp K H v d
  | .none, _, _, h => by cases h; exact .non
  | .bool _, _, _, h => by cases h; exact .bl _
  | .int _, _, _, h => by cases h; exact .int _
  | .str _, _, _, h => by cases h; exact .str _
  | .list ds, _, z, h => by
    cases h with
    | lst f r => exact .lst f.sq (RpAll.dp ds _ (by simpa [PyData.hasDict] using z) r)
  | .tuple ds, _, z, h => by
    cases h with
    | tup f _ r => exact .tup (.inl (.of f)) (RpAll.dp ds _ (by simpa [PyData.hasDict] using z) r)
    | tupZ f _ _ r => exact .tup (.inl (.inr ⟨_, f⟩)) (RpAll.dp ds _ (by simpa [PyData.hasDict] using z) r)
  | .dict _, _, z, _ => by simp [PyData.hasDict] at z
theorem RpAll.dp : ∀ (ds : List PyData) (vs : List V), PyData.hasDictAll ds = false → RpAll K H vs ds → DpAll K H vs ds
  | [], _, _, h => by cases h; exact .nil
  | d :: ds, _, z, h => by
    simp only [PyData.hasDictAll, Bool.or_eq_false_iff] at z
    cases h with
    | cons h t => exact .cons (Rp.dp d _ z.1 h) (RpAll.dp ds _ z.2 t)
end
theorem RpAll.length : ∀ {ds : List PyData} {vs : List V}, RpAll K H vs ds → vs.length = ds.length
  | _, _, .nil => rfl
  | _, _, .cons _ t => by simp [RpAll.length t]
theorem RpAll.get : ∀ {ds : List PyData} {vs : List V} {i : Nat} {d : PyData}, RpAll K H vs ds → ds[i]? = some d → ∃ v, vs[i]? = some v ∧ Rp K H v d
  | _, _, _, _, .nil, e => by simp at e
  | _, _, 0, _, .cons r _, e => by simp at e; subst e; exact ⟨_, rfl, r⟩
  | _, _, i + 1, d, .cons _ t, e => by
    obtain ⟨v, h1, h2⟩ := RpAll.get (i := i) (d := d) t (by simpa using e)
    exact ⟨v, by simpa using h1, h2⟩
theorem RpAll.append : ∀ {ds es : List PyData} {vs us : List V}, RpAll K H vs ds → RpAll K H us es → RpAll K H (vs ++ us) (ds ++ es)
  | _, _, _, _, .nil, s => s
  | _, _, _, _, .cons r t, s => .cons r (RpAll.append t s)
theorem RpAll.take : ∀ {ds : List PyData} {vs : List V} (n : Nat), RpAll K H vs ds → RpAll K H (vs.take n) (ds.take n)
  | _, _, 0, _ => .nil
  | _, _, _ + 1, .nil => .nil
  | _, _, n + 1, .cons r t => .cons r (RpAll.take n t)
theorem RpAll.drop : ∀ {ds : List PyData} {vs : List V} (n : Nat), RpAll K H vs ds → RpAll K H (vs.drop n) (ds.drop n)
  | _, _, 0, r => r
  | _, _, _ + 1, .nil => .nil
  | _, _, n + 1, .cons _ t => RpAll.drop n t
end
structure Tbs where
  tabs : List NdefX.NTab
  codes : List (Addr × Str)
  caps : List (V × PyData)
  fn : Option Addr
def Tbs.none : Tbs := ⟨[], [], [], Option.none⟩
def TabM (H : Hp) (P : Addr) (nm : Nat → Nat → Str) : Prop := ∃ ps : Array Value, H P = some (.tbl ps) ∧ TriplesOk ps.toList ∧ ∀ (pos : Pos) (cv : Value), codeAmong pos ps.toList = some cv → ∃ c o, cv = .ref c ∧ H c = some (.frz o (LamX.CodeO c (nm pos.line pos.col)))
structure TabsM (τ : Tbs) (K : PySem.W.Frag) (H : Hp) : Prop where
  tabs : ∀ p ∈ τ.tabs, TabM H p.1 p.2
  codes : ∀ p ∈ τ.codes, ∃ o, H p.1 = some (.frz o (LamX.CodeO p.1 p.2))
  caps : ∀ p ∈ τ.caps, Rp K H p.1 p.2
theorem TabM.kp {H H' : Hp} {P : Addr} {nm : Nat → Nat → Str} (t : TabM H P nm) (k : Kp H H') (e : ∀ ps, H P = some (.tbl ps) → H' P = some (.tbl ps)) : TabM H' P nm := by
  obtain ⟨ps, h1, h2, h3⟩ := t
  refine ⟨ps, e _ h1, h2, fun pos cv hc => ?_⟩
  obtain ⟨c, o, e1, e2⟩ := h3 pos cv hc
  exact ⟨c, o, e1, k _ _ e2 trivial⟩
theorem TabsM.kp {τ : Tbs} {K : PySem.W.Frag} {H H' : Hp} (t : TabsM τ K H) (k : Kp H H') (e : ∀ P ps, H P = some (.tbl ps) → H' P = some (.tbl ps)) : TabsM τ K H' :=
  ⟨fun p hp => (t.tabs p hp).kp k (e _), fun p hp => (t.codes p hp).elim fun o h => ⟨o, k _ _ h trivial⟩, fun p hp => Rp.mono k _ _ (t.caps p hp)⟩
theorem TabsM.ext {τ : Tbs} {K : PySem.W.Frag} {H H' : Hp} (t : TabsM τ K H) (e : ∀ b o, H b = some o → H' b = some o) : TabsM τ K H' := t.kp (fun a o h _ => e a o h) fun _ _ h => e _ _ h
theorem TabsM.put {τ : Tbs} {K : PySem.W.Frag} {H : Hp} {a : Addr} {o : HO} (t : TabsM τ K H) (k : ∀ u, H a = some u → ¬ Fix u) : TabsM τ K (upd H a o) := by
  refine t.kp (fun b u h i => ?_) fun P ps h => ?_
  · by_cases e : b = a
    · subst e; exact absurd i (imm_fix (k _ h))
    · rw [upd_ne e]; exact h
  · by_cases e : P = a
    · subst e; exact absurd trivial (k _ h)
    · rw [upd_ne e]; exact h
/-- an object of one's own that is no code object -/
def Ow (u : HO) : Prop := ¬ Fix u ∧ ∀ c q, u ≠ LamX.CodeO c q
theorem TabsM.nil {K : PySem.W.Frag} {H : Hp} : TabsM Tbs.none K H := ⟨fun p hp => (by cases hp), fun p hp => (by cases hp), fun p hp => (by cases hp)⟩
/-- W in the heap, m telling where the store's objects stand -/
def RW (τ : Tbs) (K : PySem.W.Frag) (m : List Addr) (H : Hp) (v : V) : W → Prop
  | .d x => Rp K H v x
  | .loc n => ∃ a, m[n]? = some a ∧ v = .ref a
  | .fn => ∃ f, τ.fn = some f ∧ v = .ref f
/-- a dict whose keys are tuples of tuples of whole numbers -/
def hashN (k : List (List Int)) : Int := reduceHash (Builtin.Tuple.tupleHashOf (k.map fun c => reduceHash (Builtin.Tuple.tupleHashOf (c.map hashInt))))
abbrev NRow := List (List Int) × Addr × V
def NestO (a : Addr) (rows : List NRow) : HO := .ext fun h => rows.length ≤ sizeLine ∧ (a == sysModules) = false ∧ ∃ xs : List (List (List Int) × Addr × Value), Paired (fun (p : NRow) (q : List (List Int) × Addr × Value) => p.1 = q.1 ∧ p.2.1 = q.2.1 ∧ RelV p.2.2 q.2.2) rows xs ∧
  ∃ o es ep, h.get? a = some o ∧ o.ExactDict ∧ o.data = .dict es ep ∧ es.toList = xs.map (fun x => (⟨hashN x.1, .ref x.2.1, x.2.2⟩ : DictEntry)) ∧ (xs.map (·.1)).Nodup
def NkAt (H : Hp) (k : List (List Int)) (b : Addr) : Prop := (k ≠ [] ∧ ∀ c ∈ k, c ≠ []) ∧ ∃ vs, H b = some (.tup vs) ∧ Paired (fun v c => ∃ t, v = V.ref t ∧ H t = some (.tup (c.map V.int))) vs k
theorem NkAt.mono {H H' : Hp} {k : List (List Int)} {b : Addr} (h : NkAt H k b) (kp : Kp H H') : NkAt H' k b := by
  obtain ⟨z, vs, e, p⟩ := h
  exact ⟨z, vs, kp _ _ e trivial, Paired.mapP p fun v c ⟨t, e1, e2⟩ => ⟨t, e1, kp _ _ e2 trivial⟩⟩
def RO (τ : Tbs) (K : PySem.W.Frag) (m : List Addr) (H : Hp) (a : Addr) : Ob → Prop
  | .lst ws => ∃ vs, H a = some (.lst vs) ∧ Paired (RW τ K m H) vs ws
  | .dicK kvs => ∃ us, H a = some (.dK us) ∧ Paired (fun (p : Key × V) (q : Key × W) => p.1 = q.1 ∧ RW τ K m H p.2 q.2) us kvs
  | .dicT kvs => ∃ us, H a = some (.dT us) ∧ Paired (fun (p : List Key × V) (q : List Key × W) => p.1 = q.1 ∧ RW τ K m H p.2 q.2) us kvs
  | .dicN kvs => ∃ rows, H a = some (NestO a rows) ∧ Paired (fun (p : NRow) (q : List (List Int) × PyData) => p.1 = q.1 ∧ NkAt H p.1 p.2.1 ∧ Rp K H p.2.2 q.2) rows kvs
  | .dead => ∃ o, H a = some o
structure Sim (τ : Tbs) (K : PySem.W.Frag) (m : List Addr) (S : Sto) (ρ : DEnv) (σ : L2.St) (H : Hp) : Prop where
  slot : ∀ (i : Nat) (w : W), ρ[i]? = some (some w) → ∃ v, σ[i]? = some (some v) ∧ RW τ K m H v w
  len : m.length = S.length
  nd : m.Nodup
  obs : ∀ (n : Nat) (ob : Ob), S[n]? = some ob → ∃ a, m[n]? = some a ∧ RO τ K m H a ob
  rl : ρ.length ≤ σ.length
  tb : TabsM τ K H
/-- what stood ahead stands, but for the objects at m -/
structure Fr (m : List Addr) (H H' : Hp) : Prop where
  st : ∀ a o, H a = some o → (a ∉ m ∨ Imm o) → (∀ ps, o ≠ .tbl ps) → H' a = some o
  no : ∀ a, H' a = none → H a = none
def Fresh (ext : List Addr) (H : Hp) : Prop := ∀ a ∈ ext, H a = none
section
variable {K : PySem.W.Frag} {H H1 H2 : Hp} {m ext : List Addr} {S : Sto} {ρ : DEnv} {σ : L2.St}
theorem Fr.kp (f : Fr m H H1) : Kp H H1 := fun a o h i => f.st a o h (.inr i) (imm_tbl i)
theorem Fr.refl : Fr m H H := ⟨fun _ _ h _ _ => h, fun _ h => h⟩
theorem Fr.of (k : ∀ a o, H a = some o → H1 a = some o) : Fr m H H1 := ⟨fun a o h _ _ => k a o h, fun a h => by
  cases e : H a with
  | none => rfl
  | some o => rw [k a o e] at h; cases h⟩
theorem none_old (k : ∀ a o, H a = some o → H1 a = some o) {a : Addr} (h : H1 a = none) : H a = none := by
  cases e : H a with
  | none => rfl
  | some o => rw [k a o e] at h; cases h
theorem Fr.updo {a : Addr} {o : HO} (f : Fr m H H1) (hD : H a = none) : Fr m H (upd H1 a o) := ⟨fun b x h c n => by
  have : b ≠ a := fun z => by subst z; rw [hD] at h; cases h
  rw [upd_ne this]; exact f.st b x h c n, fun b h => by
  by_cases z : b = a
  · subst z; exact hD
  · rw [upd_ne z] at h; exact f.no b h⟩
theorem Fr.postD {a : Addr} (f : Fr m H H1) (hD : H a = none) (k : ∀ b o, H1 b = some o → b ≠ a → H2 b = some o) : Fr m H H2 := ⟨fun b o h c n => k b o (f.st b o h c n) (fun z => by subst z; rw [hD] at h; cases h), fun b h => by
  by_cases z : b = a
  · subst z; exact hD
  · cases e : H1 b with
    | none => exact f.no b e
    | some o => rw [k b o e z] at h; cases h⟩
theorem Fr.pre (k : ∀ a o, H a = some o → H1 a = some o) (f : Fr m H1 H2) : Fr m H H2 := ⟨fun a o h c n => f.st a o (k a o h) c n, fun a h => by
  cases e : H a with
  | none => rfl
  | some o => have := k a o e; rw [f.no a h] at this; cases this⟩
theorem Fr.post (f : Fr m H H1) (k : ∀ a o, H1 a = some o → H2 a = some o) : Fr m H H2 := ⟨fun a o h c n => k a o (f.st a o h c n), fun a h => f.no a (by
  cases e : H1 a with
  | none => rfl
  | some o => rw [k a o e] at h; cases h)⟩
theorem Fr.chg {a : Addr} {u o : HO} (hm : a ∈ m) (h : H a = some u) (ni : ¬ Imm u) : Fr m H (upd H a o) := ⟨fun b x hb c _ => by
  have : b ≠ a := fun z => by
    subst z
    rw [h] at hb; cases hb
    exact c.elim (fun n => n hm) ni
  rw [upd_ne this]; exact hb, fun b hb => by
  by_cases z : b = a
  · subst z; rw [upd_same] at hb; cases hb
  · rw [upd_ne z] at hb; exact hb⟩
theorem Fr.trans (f : Fr m H H1) (fr : Fresh ext H) (g : Fr (m ++ ext) H1 H2) : Fr m H H2 := ⟨fun a o h c nt => by
  have h1 := f.st a o h c nt
  refine g.st a o h1 ?_ nt
  rcases c with c | c
  · refine .inl fun q => ?_
    rcases List.mem_append.mp q with q | q
    · exact c q
    · rw [fr a q] at h; cases h
  · exact .inr c, fun a h => f.no a (g.no a h)⟩
theorem Sim.mem (q : Sim τ K m S ρ σ H) {a : Addr} (h : a ∈ m) : ∃ o, H a = some o := by
  obtain ⟨n, hn, e⟩ := List.getElem_of_mem h
  have hs : n < S.length := by rw [← q.len]; exact hn
  obtain ⟨b, hb, r⟩ := q.obs n S[n] (List.getElem?_eq_getElem hs)
  have eb : a = b := by
    rw [List.getElem?_eq_getElem hn] at hb
    exact e.symm.trans (Option.some.inj hb)
  subst eb
  cases h2 : S[n] with
  | lst ws => rw [h2] at r; obtain ⟨vs, r, _⟩ := r; exact ⟨_, r⟩
  | dicK ws => rw [h2] at r; obtain ⟨vs, r, _⟩ := r; exact ⟨_, r⟩
  | dicT ws => rw [h2] at r; obtain ⟨vs, r, _⟩ := r; exact ⟨_, r⟩
  | dicN ws => rw [h2] at r; obtain ⟨vs, r, _⟩ := r; exact ⟨_, r⟩
  | dead => rw [h2] at r; exact r
theorem Sim.nomem (q : Sim τ K m S ρ σ H) {a : Addr} (h : H a = none) : a ∉ m := fun c => by
  obtain ⟨o, e⟩ := q.mem c
  rw [h] at e; cases e
theorem Fresh.append {e2 : List Addr} (a : Fresh ext H) (f : Fr m H H1) (q : Sim τ K (m ++ ext) S ρ σ H1) (hm : Fresh e2 H1) : Fresh (ext ++ e2) H := fun b hb => by
  rcases List.mem_append.mp hb with c | c
  · exact a b c
  · exact f.no b (hm b c)
theorem RW.mono {v : V} {w : W} (r : RW τ K m H v w) (k : Kp H H1) : RW τ K (m ++ ext) H1 v w := by
  cases w with
  | d x => exact Rp.mono k x v r
  | loc n =>
    obtain ⟨a, h, e⟩ := r
    exact ⟨a, by rw [List.getElem?_append_left (List.getElem?_eq_some_iff.mp h).1]; exact h, e⟩
  | fn => exact r
theorem RW.mono0 {v : V} {w : W} (r : RW τ K m H v w) (k : Kp H H1) : RW τ K m H1 v w := by
  have := RW.mono (ext := []) r k
  rwa [List.append_nil] at this
theorem pRW.mono {vs : List V} {ws : List W} (r : Paired (RW τ K m H) vs ws) (k : Kp H H1) : Paired (RW τ K (m ++ ext) H1) vs ws :=
  Paired.mapP r fun _ _ h => h.mono k
theorem RO.mono {a : Addr} {ob : Ob} (r : RO τ K m H a ob) (k : Kp H H1) (e : ∀ o, H a = some o → H1 a = some o) : RO τ K (m ++ ext) H1 a ob := by
  cases ob with
  | lst ws => obtain ⟨vs, h, p⟩ := r; exact ⟨vs, e _ h, pRW.mono p k⟩
  | dicK ws => obtain ⟨vs, h, p⟩ := r; exact ⟨vs, e _ h, Paired.mapP p fun _ _ q => ⟨q.1, q.2.mono k⟩⟩
  | dicT ws => obtain ⟨vs, h, p⟩ := r; exact ⟨vs, e _ h, Paired.mapP p fun _ _ q => ⟨q.1, q.2.mono k⟩⟩
  | dicN ws => obtain ⟨vs, h, p⟩ := r; exact ⟨vs, e _ h, Paired.mapP p fun _ _ q => ⟨q.1, q.2.1.mono k, q.2.2.mono' k⟩⟩
  | dead => obtain ⟨o, h⟩ := r; exact ⟨o, e o h⟩
/-- the same, but for the tables -/
theorem RO.monoT {a : Addr} {ob : Ob} (r : RO τ K m H a ob) (k : Kp H H1) (e : ∀ o, H a = some o → (∀ ps, o ≠ .tbl ps) → H1 a = some o) (n : H1 a = none → H a = none) : RO τ K (m ++ ext) H1 a ob := by
  cases ob with
  | lst ws => obtain ⟨vs, h, p⟩ := r; exact ⟨vs, e _ h (fun _ z => nomatch z), pRW.mono p k⟩
  | dicK ws => obtain ⟨vs, h, p⟩ := r; exact ⟨vs, e _ h (fun _ z => nomatch z), Paired.mapP p fun _ _ q => ⟨q.1, q.2.mono k⟩⟩
  | dicT ws => obtain ⟨vs, h, p⟩ := r; exact ⟨vs, e _ h (fun _ z => nomatch z), Paired.mapP p fun _ _ q => ⟨q.1, q.2.mono k⟩⟩
  | dicN ws => obtain ⟨vs, h, p⟩ := r; exact ⟨vs, e _ h (fun _ z => by unfold NestO at z; cases z), Paired.mapP p fun _ _ q => ⟨q.1, q.2.1.mono k, q.2.2.mono' k⟩⟩
  | dead =>
    obtain ⟨o, h⟩ := r
    cases h1 : H1 a with
    | none => rw [n h1] at h; cases h
    | some o' => exact ⟨o', h1⟩
/-- nothing tracked is lost: the simulation stands -/
theorem Sim.same (q : Sim τ K m S ρ σ H) (k : ∀ a o, H a = some o → H1 a = some o) : Sim τ K m S ρ σ H1 := by
  have kp : Kp H H1 := fun a o h _ => k a o h
  refine ⟨fun i w e => ?_, q.len, q.nd, fun n ob e => ?_, q.rl, q.tb.ext k⟩
  · obtain ⟨v, h, r⟩ := q.slot i w e
    exact ⟨v, h, r.mono0 kp⟩
  · obtain ⟨a, h, r⟩ := q.obs n ob e
    have := RO.mono (ext := []) r kp (k a)
    rw [List.append_nil] at this
    exact ⟨a, h, this⟩
/-- one object more -/
theorem Sim.push {a : Addr} {ob : Ob} (q : Sim τ K m S ρ σ H) (k : ∀ a o, H a = some o → H1 a = some o) (hn : H a = none) (r : RO τ K (m ++ [a]) H1 a ob) : Sim τ K (m ++ [a]) (S ++ [ob]) ρ σ H1 := by
  have kp : Kp H H1 := fun a o h _ => k a o h
  have nm := q.nomem hn
  refine ⟨fun i w e => ?_, by simp [q.len], ?_, fun n o e => ?_, q.rl, q.tb.ext k⟩
  · obtain ⟨v, h, r⟩ := q.slot i w e
    exact ⟨v, h, r.mono kp⟩
  · rw [List.nodup_append]
    refine ⟨q.nd, by simp, fun x hx y hy e => ?_⟩
    have ey : y = a := by simpa using hy
    exact nm (by rw [← ey, ← e]; exact hx)
  · by_cases hlt : n < S.length
    · rw [List.getElem?_append_left hlt] at e
      obtain ⟨b, h, r⟩ := q.obs n o e
      refine ⟨b, ?_, RO.mono r kp (k b)⟩
      rw [List.getElem?_append_left (by rw [q.len]; exact hlt)]; exact h
    · have h2 : n < (S ++ [ob]).length := (List.getElem?_eq_some_iff.mp e).1
      have en : n = S.length := by simp at h2; omega
      subst en
      have eo : ob = o := by simpa using e
      subst eo
      refine ⟨a, ?_, r⟩
      rw [List.getElem?_append_right (by rw [q.len]; exact Nat.le_refl _), q.len]; simp
/-- an object changed -/
theorem Sim.put {a : Addr} {n : Nat} {ob : Ob} {o : HO} (q : Sim τ K m S ρ σ H) (hm : m[n]? = some a) (k : ∀ u, H a = some u → ¬ Fix u) (hn : n < S.length) (r : RO τ K m (upd H a o) a ob) : Sim τ K m (S.set n ob) ρ σ (upd H a o) := by
  have kp : Kp H (upd H a o) := fun b u h i => by
    by_cases e : b = a
    · subst e; exact absurd i (imm_fix (k _ h))
    · rw [upd_ne e]; exact h
  refine ⟨fun i w e => ?_, by simp [q.len], q.nd, fun j ob' e => ?_, q.rl, q.tb.put k⟩
  · obtain ⟨v, h, r⟩ := q.slot i w e
    exact ⟨v, h, r.mono0 kp⟩
  · by_cases hj : j = n
    · subst hj
      rw [List.getElem?_set_self hn] at e
      cases e
      exact ⟨a, hm, r⟩
    · rw [List.getElem?_set_ne (Ne.symm hj)] at e
      obtain ⟨b, h, r'⟩ := q.obs j ob' e
      refine ⟨b, h, ?_⟩
      have hb : b ≠ a := fun z => by
        subst z
        obtain ⟨h1, e1⟩ := List.getElem?_eq_some_iff.mp h
        obtain ⟨h2, e2⟩ := List.getElem?_eq_some_iff.mp hm
        exact hj ((List.getElem_inj q.nd).mp (e1.trans e2.symm))
      have := RO.mono (ext := []) r' kp (fun u hu => by rw [upd_ne hb]; exact hu)
      rw [List.append_nil] at this
      exact this
theorem Sim.slotset {v : V} {w : W} {i : Nat} (q : Sim τ K m S ρ σ H) (r : RW τ K m H v w) : Sim τ K m S (ρ.set i (some w)) (σ.set i (some v)) H := by
  have hl := q.rl
  refine ⟨fun j w' e => ?_, q.len, q.nd, q.obs, by simpa using q.rl, q.tb⟩
  by_cases hj : i = j
  · subst hj
    have hi : i < ρ.length := by
      have := (List.getElem?_eq_some_iff.mp e).1
      simpa using this
    rw [List.getElem?_set_self hi] at e
    cases e
    exact ⟨v, by rw [List.getElem?_set_self (by omega)], r⟩
  · rw [List.getElem?_set_ne hj] at e
    obtain ⟨v', h, r'⟩ := q.slot j w' e
    exact ⟨v', by rw [List.getElem?_set_ne hj]; exact h, r'⟩
end
/-- what is to be shown behind an expression that gives w and the store S' -/
def Post (τ : Tbs) (K : PySem.W.Frag) (m : List Addr) (S' : Sto) (ρ : DEnv) (σ : L2.St) (H : Hp) (w : W) (Q : VK) : Prop :=
  ∀ ext H' v, Fresh ext H → Sim τ K (m ++ ext) S' ρ σ H' → Fr m H H' → RW τ K (m ++ ext) H' v w → Q v H'
abbrev ME := DEnv → Sto → Option (W × Sto)
def rdE (τ : Tbs) (K : PySem.W.Frag) (f : ME) : TE := fun σ H Q => ∃ m S ρ w S', Sim τ K m S ρ σ H ∧ f ρ S = some (w, S') ∧ Post τ K m S' ρ σ H w Q
def PostB (τ : Tbs) (K : PySem.W.Frag) (m : List Addr) (S' : Sto) (ρ : DEnv) (σ : L2.St) (H : Hp) (b : Bool) (Q : Bool → Hp → Prop) : Prop :=
  ∀ ext H', Fresh ext H → Sim τ K (m ++ ext) S' ρ σ H' → Fr m H H' → Q b H'
abbrev MT := DEnv → Sto → Option (Bool × Sto)
def rdT (τ : Tbs) (K : PySem.W.Frag) (f : MT) : TT := fun σ H Q => ∃ m S ρ b S', Sim τ K m S ρ σ H ∧ f ρ S = some (b, S') ∧ PostB τ K m S' ρ σ H b Q
def PostL (τ : Tbs) (K : PySem.W.Frag) (m : List Addr) (S' : Sto) (ρ : DEnv) (σ : L2.St) (H : Hp) (ws : List W) (Q : List V → Hp → Prop) : Prop :=
  ∀ ext H' vs, Fresh ext H → Sim τ K (m ++ ext) S' ρ σ H' → Fr m H H' → Paired (RW τ K (m ++ ext) H') vs ws → Q vs H'
abbrev MA := DEnv → Sto → Option (List W × Sto)
def rdA (τ : Tbs) (K : PySem.W.Frag) (f : MA) : TA := fun σ H Q => ∃ m S ρ ws S', Sim τ K m S ρ σ H ∧ f ρ S = some (ws, S') ∧ PostL τ K m S' ρ σ H ws Q
section
variable {K : PySem.W.Frag} {H H1 : Hp} {m ext : List Addr} {S S1 S' : Sto} {ρ : DEnv} {σ : L2.St} {w : W} {Q : VK}
theorem Post.at (p : Post τ K m S' ρ σ H w Q) (f : Fresh ext H) (q : Sim τ K (m ++ ext) S1 ρ σ H1) (fr : Fr m H H1) : Post τ K (m ++ ext) S' ρ σ H1 w Q := fun e2 H2 v f2 q2 fr2 r =>
  p (ext ++ e2) H2 v (f.append fr q f2) (by rwa [← List.append_assoc]) (fr.trans f fr2) (by rwa [← List.append_assoc])
theorem PostB.at {b : Bool} {Q : Bool → Hp → Prop} (p : PostB τ K m S' ρ σ H b Q) (f : Fresh ext H) (q : Sim τ K (m ++ ext) S1 ρ σ H1) (fr : Fr m H H1) : PostB τ K (m ++ ext) S' ρ σ H1 b Q := fun e2 H2 f2 q2 fr2 =>
  p (ext ++ e2) H2 (f.append fr q f2) (by rwa [← List.append_assoc]) (fr.trans f fr2)
theorem PostL.at {ws : List W} {Q : List V → Hp → Prop} (p : PostL τ K m S' ρ σ H ws Q) (f : Fresh ext H) (q : Sim τ K (m ++ ext) S1 ρ σ H1) (fr : Fr m H H1) : PostL τ K (m ++ ext) S' ρ σ H1 ws Q := fun e2 H2 vs f2 q2 fr2 r =>
  p (ext ++ e2) H2 vs (f.append fr q f2) (by rwa [← List.append_assoc]) (fr.trans f fr2) (by rwa [← List.append_assoc])
/-- the value at hand -/
theorem Post.now {v : V} (p : Post τ K m S' ρ σ H w Q) (q : Sim τ K m S' ρ σ H) (r : RW τ K m H v w) : Q v H :=
  p [] H v (fun _ h => absurd h (by simp)) (by rwa [List.append_nil]) Fr.refl (by rwa [List.append_nil])
theorem PostB.now {b : Bool} {Q : Bool → Hp → Prop} (p : PostB τ K m S' ρ σ H b Q) (q : Sim τ K m S' ρ σ H) : Q b H :=
  p [] H (fun _ h => absurd h (by simp)) (by rwa [List.append_nil]) Fr.refl
theorem PostL.now {vs : List V} {ws : List W} {Q : List V → Hp → Prop} (p : PostL τ K m S' ρ σ H ws Q) (q : Sim τ K m S' ρ σ H) (r : Paired (RW τ K m H) vs ws) : Q vs H :=
  p [] H vs (fun _ h => absurd h (by simp)) (by rwa [List.append_nil]) Fr.refl (by rwa [List.append_nil])
/-- the heap has grown by immutable things -/
theorem Post.grown {v : V} (p : Post τ K m S ρ σ H w Q) (q : Sim τ K m S ρ σ H) (k : ∀ a o, H a = some o → H1 a = some o) (r : RW τ K m H1 v w) : Q v H1 :=
  p [] H1 v (fun _ h => absurd h (by simp)) (by rw [List.append_nil]; exact q.same k) (Fr.of k) (by rwa [List.append_nil])
theorem upd_keeps {a : Addr} {o : HO} (h : H a = none) : ∀ b u, H b = some u → upd H a o b = some u := fun b u e => by
  rw [upd_ne (ne_of_none e h)]; exact e
theorem upd_kp {a : Addr} {o : HO} (h : H a = none) : Kp H (upd H a o) := fun b u e _ => upd_keeps h b u e
end
section
variable {X : Cx}
theorem wkE {e : Expr} {t t' : TE} (h : PE X e t) (w : ∀ σ H Q, t' σ H Q → t σ H Q) : PE X e t' := ⟨fun p s σ H Q I q => h.run p s σ H Q I (w σ H Q q)⟩
theorem wkT {e : Expr} {t t' : TT} (h : PT X e t) (w : ∀ σ H Q, t' σ H Q → t σ H Q) : PT X e t' := ⟨fun p s σ H Q I q => h.run p s σ H Q I (w σ H Q q)⟩
theorem wkW {e : Expr} {t t' : TT} (h : PW X e t) (w : ∀ σ H Q, t' σ H Q → t σ H Q) : PW X e t' := ⟨fun wh p s σ H Q I q => h.run wh p s σ H Q I (w σ H Q q)⟩
theorem wkA {es : List Expr} {t t' : TA} (h : PA X es t) (w : ∀ σ H Q, t' σ H Q → t σ H Q) : PA X es t' := ⟨fun ps p s σ H Q I q => h.run ps p s σ H Q I (w σ H Q q)⟩
theorem wkS {st : Stmt} {t t' : TS} (h : PS X st t) (w : ∀ D σ H, t' D σ H → t D σ H) : PS X st t' := ⟨fun p s σ H D I q => h.run p s σ H D I (w D σ H q)⟩
theorem wkSs {st : List Stmt} {t t' : TS} (h : PSs X st t) (w : ∀ D σ H, t' D σ H → t D σ H) : PSs X st t' := ⟨fun p s σ H D I q => h.run p s σ H D I (w D σ H q)⟩
/-- a value made: a new list is locked for ever -/
theorem peFrz {e : Expr} {t : TE} (h : PE X e t) : PE X e (fun σ H Q => t σ H fun v H1 => ∃ a xs, v = .ref a ∧ H1 a = some (.lst xs) ∧ ∀ o, Q v (upd H1 a (.frz o (.lst xs)))) := by
  refine ⟨fun pins s σ H Q I q => thn (h.run pins s σ H _ I q) fun u s1 ⟨v, H1, I1, r, a, xs, e, hl, q1⟩ => ?_⟩
  obtain ⟨o, I2⟩ := I1.lock hl trivial
  exact ⟨v, _, I2, r, q1 o⟩
end
end DL
noncomputable section
namespace DL
open PySem PySem.Spec PyProof.Rows L2
section
variable {K : PySem.W.Frag} {H H1 H2 : Hp} {m ext : List Addr} {S S1 S' : Sto} {ρ : DEnv} {σ : L2.St} {w : W} {Q : VK}
theorem bindE {A : ME} {k : W → Sto → Option (W × Sto)} (q : Sim τ K m S ρ σ H) (e : ((A ρ S).bind fun p => k p.1 p.2) = some (w, S')) (p : Post τ K m S' ρ σ H w Q) :
    rdE τ K A σ H fun x H1 => ∃ m1 S1 wx, Sim τ K m1 S1 ρ σ H1 ∧ RW τ K m1 H1 x wx ∧ k wx S1 = some (w, S') ∧ Post τ K m1 S' ρ σ H1 w Q ∧ Kp H H1 ∧ ∃ ext, m1 = m ++ ext := by
  obtain ⟨⟨wx, S1⟩, e1, e2⟩ := Option.bind_eq_some_iff.mp e
  exact ⟨m, S, ρ, wx, S1, q, e1, fun ext H1 x f q1 fr r => ⟨m ++ ext, S1, wx, q1, r, e2, p.at f q1 fr, fr.kp, ext, rfl⟩⟩
/-- the readings of an operator on values of the store -/
def rOp (τ : Tbs) (K : PySem.W.Frag) (f : W → W → Sto → Option (W × Sto)) : R2 := fun x y H Q =>
  ∃ m S ρ σ wx wy w S', Sim τ K m S ρ σ H ∧ RW τ K m H x wx ∧ RW τ K m H y wy ∧ f wx wy S = some (w, S') ∧ Post τ K m S' ρ σ H w Q
def mBin (f : W → W → Sto → Option (W × Sto)) (A B : ME) : ME := fun ρ S => (A ρ S).bind fun p => (B ρ p.2).bind fun q => f p.1 q.1 q.2
theorem binE {f : W → W → Sto → Option (W × Sto)} {A B : ME} (h : rdE τ K (mBin f A B) σ H Q) : rdE τ K A σ H fun x H1 => rdE τ K B σ H1 fun y H2 => rOp τ K f x y H2 Q := by
  obtain ⟨m, S, ρ, w, S', q, e, p⟩ := h
  obtain ⟨m', S0, ρ', w', S0', q', e', p'⟩ := bindE (K := K) (Q := Q) (k := fun wx S1 => (B ρ S1).bind fun q => f wx q.1 q.2) q e p
  refine ⟨m', S0, ρ', w', S0', q', e', fun ext H1 x fr q1 f1 r => ?_⟩
  obtain ⟨m1, S1, wx, q1, r1, e1, p1, k1, _⟩ := p' ext H1 x fr q1 f1 r
  obtain ⟨m2, S2, ρ2, w2, S2', q2, e2, p2⟩ := bindE (K := K) (Q := Q) (k := fun wy S1 => f wx wy S1) q1 e1 p1
  refine ⟨m2, S2, ρ2, w2, S2', q2, e2, fun ext H2 y fr q2 f2 r => ?_⟩
  obtain ⟨m3, S3, wy, q3, r3, e3, p3, k3, ext', rfl⟩ := p2 ext H2 y fr q2 f2 r
  exact ⟨_, S3, ρ, σ, wx, wy, w, S', q3, r1.mono k3, r3, e3, p3⟩
def allD : List W → Option (List PyData)
  | [] => some []
  | .d x :: ws => (allD ws).map (x :: ·)
  | .loc _ :: _ => none
  | .fn :: _ => none
theorem allD_of : ∀ {ws : List W} {ds : List PyData} {vs : List V}, allD ws = some ds → Paired (RW τ K m H) vs ws → RpAll K H vs ds
  | [], _, _, e, .nil => by cases e; exact .nil
  | .d x :: ws, ds, _, e, .cons r t => by
    simp only [allD, Option.map_eq_some_iff] at e
    obtain ⟨es, e1, rfl⟩ := e
    exact .cons r (allD_of e1 t)
  | .loc _ :: _, _, _, e, _ => by cases e
  | .fn :: _, _, _, e, _ => by cases e
theorem allD_map (ds : List PyData) : allD (ds.map W.d) = some ds := by
  induction ds with
  | nil => rfl
  | cons x ds ih => simp [allD, ih]
theorem rpAll_rw : ∀ {ds : List PyData} {vs : List V}, RpAll K H vs ds → Paired (RW τ K m H) vs (ds.map W.d)
  | _, _, .nil => .nil
  | _, _, .cons h t => .cons h (rpAll_rw t)
/-- a tuple made: tracked as it stands, or to the last field -/
def Mk (Q : VK) (H : Hp) (t : Addr) (xs : List V) : Prop := ∀ o : Obj, o.dict = none → ∃ u, (u = HO.tup xs ∨ u = .frz o (.tup xs)) ∧ Q (.ref t) (upd H t u)
theorem newT {vs : List V} {ds : List PyData} (p : Post τ K m S ρ σ H (.d (.tuple ds)) Q) (q : Sim τ K m S ρ σ H) (r : RpAll K H vs ds) (t : Addr) (ht : H t = none) : Mk Q H t vs := fun o ho => by
  cases z : ruly ds with
  | false => exact ⟨_, .inl rfl, p.grown q (upd_keeps ht) (Rp.tup upd_same z (RpAll.mono (upd_kp ht) ds vs r))⟩
  | true => exact ⟨_, .inr rfl, p.grown q (upd_keeps ht) (Rp.tupZ upd_same ho z (RpAll.mono (upd_kp ht) ds vs r))⟩
/-- known not to be rows -/
theorem newTn {vs : List V} {ds : List PyData} (p : Post τ K m S ρ σ H (.d (.tuple ds)) Q) (q : Sim τ K m S ρ σ H) (r : RpAll K H vs ds) (z : ruly ds = false) (t : Addr) (ht : H t = none) : Q (.ref t) (upd H t (.tup vs)) :=
  p.grown q (upd_keeps ht) (Rp.tup upd_same z (RpAll.mono (upd_kp ht) ds vs r))
/-- a new list, locked -/
def Lk (Q : VK) : VK := fun v H1 => ∃ a xs, v = .ref a ∧ H1 a = some (.lst xs) ∧ ∀ o, Q v (upd H1 a (.frz o (.lst xs)))
theorem newL {vs : List V} {ds : List PyData} (p : Post τ K m S ρ σ H (.d (.list ds)) Q) (q : Sim τ K m S ρ σ H) (r : RpAll K H vs ds) (t : Addr) (ht : H t = none) : Lk Q (.ref t) (upd H t (.lst vs)) := by
  refine ⟨t, vs, rfl, upd_same, fun o => ?_⟩
  rw [upd_upd]
  exact p.grown q (upd_keeps ht) (Rp.lst (.inl ⟨o, upd_same⟩) (RpAll.mono (upd_kp ht) ds vs r))
/-- a new object of the store -/
theorem newB {vs : List V} {ws : List W} (p : Post τ K m (S ++ [.lst ws]) ρ σ H (.loc S.length) Q) (q : Sim τ K m S ρ σ H) (r : Paired (RW τ K m H) vs ws) (t : Addr) (ht : H t = none) : Q (.ref t) (upd H t (.lst vs)) := by
  refine p [t] _ _ (fun a h => by simp at h; subst h; exact ht) (q.push (upd_keeps ht) ht ⟨vs, upd_same, pRW.mono r (upd_kp ht)⟩) (Fr.of (upd_keeps ht)) ⟨t, ?_, rfl⟩
  rw [← q.len, List.getElem?_append_right (Nat.le_refl _)]; simp
end
section
variable {X : Cx} {e a b : Expr} {es : List Expr} {pos : Pos}
/-- new lists of an operator, a call, a slice are locked -/
theorem opFrz {f : Value → Value → Sem Value} {r : R2} (h : OpR X f r) : OpR X f fun x y H Q => r x y H (Lk Q) := by
  intro pins s σ H x y v u Q I rx ry q
  refine thn (h pins s σ H x y v u _ I rx ry q) fun z s1 ⟨v, H1, I1, r, a, xs, e, hl, q1⟩ => ?_
  obtain ⟨o, I2⟩ := I1.lock hl trivial
  exact ⟨v, _, I2, r, q1 o⟩
theorem callFrz {f : Value} {r : List V → Hp → VK → Prop} (h : CallR X f r) : CallR X f fun xs H Q => r xs H (Lk Q) := by
  intro pins s σ H vs us Q I rx q
  refine thn (h pins s σ H vs us _ I rx q) fun z s1 ⟨v, H1, I1, r, a, xs, e, hl, q1⟩ => ?_
  obtain ⟨o, I2⟩ := I1.lock hl trivial
  exact ⟨v, _, I2, r, q1 o⟩
theorem slFrz {r : V → Option Int → Option Int → Hp → VK → Prop} (h : SlR X r) : SlR X fun x lo hi H Q => r x lo hi H (Lk Q) := by
  intro pins s σ H x v vl vu lo hi sl Q I rx h1 h2 h3 q
  obtain ⟨T, id, e1, e2, run⟩ := h pins s σ H x v vl vu lo hi sl _ I rx h1 h2 h3 q
  refine ⟨T, id, e1, e2, thn run fun z s1 ⟨v, H1, I1, r, a, xs, e, hl, q1⟩ => ?_⟩
  obtain ⟨o, I2⟩ := I1.lock hl trivial
  exact ⟨v, _, I2, r, q1 o⟩
end
def mVar (i : Nat) : ME := fun ρ S => match ρ[i]? with
  | some (some w) => some (w, S)
  | _ => none
def mC (x : PyData) : ME := fun _ S => some (.d x, S)
section
variable {X : Cx} {e a b : Expr} {es : List Expr} {pos : Pos} {A B : ME} {R : MA}
theorem rd_var {i : Nat} {σ : L2.St} {H : Hp} {Q : VK} (h : rdE τ X.K (mVar i) σ H Q) : tVar i σ H Q := by
  obtain ⟨m, S, ρ, w, S', q, e, p⟩ := h
  unfold mVar at e
  split at e
  · rename_i w' e1
    cases e
    obtain ⟨v, h1, r⟩ := q.slot i _ e1
    exact ⟨v, h1, p.now q r⟩
  · cases e
theorem de_var (h : PE X e (tVar i)) : PE X e (rdE τ X.K (mVar i)) := wkE h fun σ H Q q => rd_var q
theorem rd_c {x : PyData} {v : V} {K : PySem.W.Frag} {σ : L2.St} {H : Hp} {Q : VK} (r : ∀ H, Rp K H v x) (h : rdE τ K (mC x) σ H Q) : Q v H := by
  obtain ⟨m, S, ρ, w, S', q, e, p⟩ := h
  cases e
  exact p.now q (r H)
theorem de_int {i : Int} {j} : PE X (.Constant (.int i) j pos) (rdE τ X.K (mC (.int i))) := wkE pe_int fun _ _ _ q => rd_c (fun _ => .int i) q
theorem de_bl {i : Bool} {j} : PE X (.Constant (.bool i) j pos) (rdE τ X.K (mC (.bool i))) := wkE pe_bl fun _ _ _ q => rd_c (fun _ => .bl i) q
theorem de_non {j} : PE X (.Constant .none j pos) (rdE τ X.K (mC .none)) := wkE pe_non fun _ _ _ q => rd_c (fun _ => .non) q
def mNil : MA := fun _ S => some ([], S)
def mCons (A : ME) (R : MA) : MA := fun ρ S => (A ρ S).bind fun p => (R ρ p.2).bind fun q => some (p.1 :: q.1, q.2)
theorem da_nil : PA X [] (rdA τ X.K mNil) := wkA pa_nil fun σ H Q q => by
  obtain ⟨m, S, ρ, w, S', q, e, p⟩ := q
  cases e
  exact p.now q .nil
theorem da_cons (ha : PE X e (rdE τ X.K A)) (hr : PA X es (rdA τ X.K R)) (hs : starEach (e :: es) X.env = (false, eval e X.env) :: starEach es X.env := by rfl) : PA X (e :: es) (rdA τ X.K (mCons A R)) :=
  wkA (pa_cons ha hr hs) fun σ H Q q => by
    obtain ⟨m, S, ρ, w, S', q, e, p⟩ := q
    obtain ⟨⟨wx, S1⟩, e1, e2⟩ := Option.bind_eq_some_iff.mp e
    obtain ⟨⟨ws, S2⟩, e3, e4⟩ := Option.bind_eq_some_iff.mp e2
    cases e4
    refine ⟨m, S, ρ, wx, S1, q, e1, fun ext H1 x f q1 fr r => ⟨m ++ ext, S1, ρ, ws, _, q1, e3, fun ext2 H2 xs f2 q2 fr2 r2 => ?_⟩⟩
    refine (p.at f q1 fr) ext2 H2 (x :: xs) f2 q2 fr2 (.cons (r.mono fr2.kp) r2)
/-- what comes of a list of values -/
def rC (τ : Tbs) (K : PySem.W.Frag) (f : List W → Sto → Option (W × Sto)) : List V → Hp → VK → Prop := fun vs H Q =>
  ∃ m S ρ σ ws w S', Sim τ K m S ρ σ H ∧ Paired (RW τ K m H) vs ws ∧ f ws S = some (w, S') ∧ Post τ K m S' ρ σ H w Q
def mCall (f : List W → Sto → Option (W × Sto)) (R : MA) : ME := fun ρ S => (R ρ S).bind fun p => f p.1 p.2
theorem callE {K : PySem.W.Frag} {f : List W → Sto → Option (W × Sto)} {σ : L2.St} {H : Hp} {Q : VK} {Q' : List V → Hp → Prop} (h : rdE τ K (mCall f R) σ H Q) (hq : ∀ vs H1, rC τ K f vs H1 Q → Q' vs H1) : rdA τ K R σ H Q' := by
  obtain ⟨m, S, ρ, w, S', q, e, p⟩ := h
  obtain ⟨⟨ws, S1⟩, e1, e2⟩ := Option.bind_eq_some_iff.mp e
  exact ⟨m, S, ρ, ws, S1, q, e1, fun ext H1 vs f q1 fr r => hq _ _ ⟨m ++ ext, S1, ρ, σ, ws, w, S', q1, r, e2, p.at f q1 fr⟩⟩
def tupF : List W → Sto → Option (W × Sto) := fun ws S => (allD ws).bind fun ds => if ds.length ≤ sizeLine then some (.d (.tuple ds), S) else none
def lstF : List W → Sto → Option (W × Sto) := fun ws S => (allD ws).bind fun ds => if ds.length ≤ sizeLine then some (.d (.list ds), S) else none
def lstB : List W → Sto → Option (W × Sto) := fun ws S => if ws.length ≤ sizeLine then some (.loc S.length, S ++ [.lst ws]) else none
/-- what was laid at the heap's end, a tuple -/
theorem laidT {X : Cx} {pins : List (Addr × Obj)} {σ : L2.St} {H : Hp} {s : Shared} {Q : VK} {xs : List V} {its : List Value} {ob : Obj} (I : Inv X pins σ H s) (hc : ob.cls = .type "tuple") (hd : ob.dict = none) (hdat : ∃ n, ob.data = .seq its.toArray n) (hf : ob.isFreed = false) (r : Vals xs its) (z : xs.length ≤ sizeLine)
    (q : ∀ t, H t = none → Mk Q H t xs) : EP X pins σ Q (.ref s.heap.objs.size) { s with heap := s.heap.push ob } := by
  obtain ⟨u, hu, q1⟩ := q _ (I.hok.fresh (Nat.le_refl _)) ob hd
  refine ⟨.ref s.heap.objs.size, upd H s.heap.objs.size u, I.laid (t' := s.toks) (fun b u e => Heap.get?_push_of_some _ e) (Nat.le_refl _) ?_, rfl, q1⟩
  have hi : IsTup (s.heap.push ob) s.heap.objs.size its.toArray := ⟨ob, Heap.get?_push_size _ hf, hc, hdat⟩
  rcases hu with rfl | rfl
  · exact ⟨z, its, r, hi⟩
  · exact ⟨Heap.get?_push_size _ hf, z, its, r, hi⟩
def tTupU (t : TA) : TE := fun σ H Q => t σ H fun xs H1 => xs.length ≤ sizeLine ∧ ∀ p, H1 p = none → Mk Q H1 p xs
theorem pe_tupU {X : Cx} {es : List Expr} {t : TA} {pos : Pos} {x1} (h : PA X es t) : PE X (.Tuple es x1 pos) (tTupU t) := by
  refine ⟨fun pins s σ H Q I hq => ?_⟩
  refine wpAny_Tuple_spliced (thn (h.run pos pins s σ H _ I hq) fun us s1 ⟨xs, H1, I1, r, z, q⟩ => ⟨by rw [← r.length]; exact z, ?_⟩)
  exact laidT I1 rfl rfl ⟨_, rfl⟩ rfl r z q
theorem de_tup {x1} (h : PA X es (rdA τ X.K R)) : PE X (.Tuple es x1 pos) (rdE τ X.K (mCall tupF R)) := wkE (pe_tupU h) fun σ H Q q => callE q fun vs H1 q => by
  obtain ⟨m, S, ρ, σ, ws, w, S', q, r, e, p⟩ := q
  obtain ⟨ds, e1, e2⟩ := Option.bind_eq_some_iff.mp e
  split at e2
  · rename_i hl
    cases e2
    have r1 := allD_of e1 r
    exact ⟨by rw [r1.length]; exact hl, fun t ht => newT p q r1 t ht⟩
  · cases e2
theorem de_lst (h : PA X es (rdA τ X.K R)) : PE X (.List es pos) (rdE τ X.K (mCall lstF R)) := wkE (peFrz (pe_lst h)) fun σ H Q q => callE q fun vs H1 q => by
  obtain ⟨m, S, ρ, σ, ws, w, S', q, r, e, p⟩ := q
  obtain ⟨ds, e1, e2⟩ := Option.bind_eq_some_iff.mp e
  split at e2
  · rename_i hl
    cases e2
    have r1 := allD_of e1 r
    exact ⟨by rw [r1.length]; exact hl, fun t ht => newL p q r1 t ht⟩
  · cases e2
theorem de_lstB (h : PA X es (rdA τ X.K R)) : PE X (.List es pos) (rdE τ X.K (mCall lstB R)) := wkE (pe_lst h) fun σ H Q q => callE q fun vs H1 q => by
  obtain ⟨m, S, ρ, σ, ws, w, S', q, r, e, p⟩ := q
  unfold lstB at e
  split at e
  · rename_i hl
    cases e
    exact ⟨by rw [r.length]; exact hl, fun t ht => newB p q r t ht⟩
  · cases e
end
section
variable {X : Cx} {e a b : Expr} {es : List Expr} {pos : Pos} {A B : ME} {R : MA} {K : PySem.W.Frag} {H : Hp} {v : V}
theorem de_bin {op : Operator} {f : W → W → Sto → Option (W × Sto)} (ho : OpR X (binaryOp op) (rOp τ X.K f)) (ha : PE X a (rdE τ X.K A)) (hb : PE X b (rdE τ X.K B)) : PE X (.BinOp a op b pos) (rdE τ X.K (mBin f A B)) :=
  wkE (pe_op ho ha hb) fun σ H Q q => binE q
theorem de_cmp {op : CmpOp} {f : W → W → Sto → Option (W × Sto)} (ho : OpR X (compareOp op) (rOp τ X.K f)) (ha : PE X a (rdE τ X.K A)) (hb : PE X b (rdE τ X.K B)) (hm : behindInMarks op b = false := by first | exact nomark _ | rfl) : PE X (.Compare a [op] [b] pos) (rdE τ X.K (mBin f A B)) :=
  wkE (pe_cmpR ho ha hb hm) fun σ H Q q => binE q
theorem rp_int {x : V} {i : Int} (h : Rp K H x (.int i)) : x = .int i := by cases h; rfl
theorem rp_str {x : V} {i : Str} (h : Rp K H x (.str i)) : x = .str i := by cases h; rfl
theorem rp_bl {x : V} {i : Bool} (h : Rp K H x (.bool i)) : x = .bl i := by cases h; rfl
theorem rp_non {x : V} (h : Rp K H x .none) : x = .non := by cases h; rfl
theorem rp_tup {x : V} {ds : List PyData} (h : Rp K H x (.tuple ds)) : ∃ a xs, x = .ref a ∧ SqT K H a xs ∧ RpAll K H xs ds := by
  cases h with
  | tup h1 _ h2 => exact ⟨_, _, rfl, .inl (.inl h1), h2⟩
  | tupZ h1 _ _ h2 => exact ⟨_, _, rfl, .inl (.inr ⟨_, h1⟩), h2⟩
theorem rp_tupH {x : V} {ds : List PyData} (h : Rp K H x (.tuple ds)) (hr : ruly ds = false) : ∃ a xs, x = .ref a ∧ H a = some (.tup xs) ∧ RpAll K H xs ds := by
  cases h with
  | tup h1 _ h2 => exact ⟨_, _, rfl, h1, h2⟩
  | tupZ _ _ z _ => rw [hr] at z; cases z
theorem rp_lst {x : V} {ds : List PyData} (h : Rp K H x (.list ds)) : ∃ a xs, x = .ref a ∧ FzL K H a xs ∧ RpAll K H xs ds := by
  cases h with
  | lst h1 h2 => exact ⟨_, _, rfl, h1, h2⟩
theorem op_catU {X : Cx} : OpR X (binaryOp .Add) (fun x y H Q => ∃ a b xs ys, x = .ref a ∧ y = .ref b ∧ SqT X.K H a xs ∧ SqT X.K H b ys ∧ xs.length + ys.length ≤ sizeLine ∧
  (xs = [] → Q (.ref b) H) ∧ (xs ≠ [] → ys = [] → Q (.ref a) H) ∧ (xs ≠ [] → ys ≠ [] → ∀ p, H p = none → Mk Q H p (xs ++ ys))) := by
  intro pins s σ H x y v u Q I rx ry h
  obtain ⟨a, b, xs, ys, rfl, rfl, ha, hb, hz, q0, q1, q2⟩ := h
  cases rx
  cases ry
  obtain ⟨its, r1, p1, _⟩ := I.tuple ha
  obtain ⟨its2, r2, p2, _⟩ := I.tuple hb
  by_cases hx : xs = []
  · subst hx
    cases r1
    exact cat_tup0 p1 p2 ⟨.ref b, H, I, rfl, q0 rfl⟩
  · refine HT.cat_tup p1 p2 (fun z => hx (r1.nil_iff.mp z)) (fun z => ⟨.ref a, H, I, rfl, q1 hx (r2.nil_iff.mp z)⟩) (fun z => ?_) (by rw [← r1.length, ← r2.length]; exact hz)
    exact laidT (I := I) rfl rfl ⟨_, rfl⟩ rfl (r1.append r2) (by rw [List.length_append]; exact hz) (q2 hx fun w => z (r2.nil_iff.mpr w))
/-- + of ints, texts, tuples -/
def addD : W → W → Sto → Option (W × Sto)
  | .d (.int i), .d (.int j), S => some (.d (.int (i + j)), S)
  | .d (.str i), .d (.str j), S => if i.length + j.length ≤ sizeLine then some (.d (.str (i ++ j)), S) else none
  | .d (.tuple i), .d (.tuple j), S => if i.length + j.length ≤ sizeLine then some (.d (.tuple (i ++ j)), S) else none
  | _, _, _ => none
theorem op_addD : OpR X (binaryOp .Add) (rOp τ X.K addD) := by
  intro pins s σ H x y v u Q I rx ry h
  obtain ⟨m, S, ρ, σ', wx, wy, w, S', q, hx, hy, e, p⟩ := h
  unfold addD at e
  split at e
  · cases e
    obtain rfl := rp_int hx
    obtain rfl := rp_int hy
    exact op_add pins s σ H _ _ v u Q I rx ry ⟨_, _, rfl, rfl, p.now q (.int _)⟩
  · split at e
    · rename_i hl
      cases e
      obtain rfl := rp_str hx
      obtain rfl := rp_str hy
      exact op_add_str pins s σ H _ _ v u Q I rx ry ⟨_, _, rfl, rfl, hl, p.now q (.str _)⟩
    · cases e
  · split at e
    · rename_i ds es _ hl
      cases e
      obtain ⟨a, xs, rfl, h1, r1⟩ := rp_tup hx
      obtain ⟨b, ys, rfl, h2, r2⟩ := rp_tup hy
      refine op_catU pins s σ H _ _ v u Q I rx ry ⟨a, b, xs, ys, rfl, rfl, h1, h2, by rw [r1.length, r2.length]; exact hl, ?_⟩
      refine ⟨fun e => ?_, fun e1 e2 => ?_, fun _ _ t ht => newT p q (r1.append r2) t ht⟩
      · subst e
        cases r1
        exact p.now q (by simpa using hy)
      · subst e2
        cases r2
        exact p.now q (by simpa using hx)
    · cases e
  · cases e
/-- an operator on ints -/
def iiD (c : Int → Int → Bool) (g : Int → Int → PyData) : W → W → Sto → Option (W × Sto)
  | .d (.int i), .d (.int j), S => if c i j = true then some (.d (g i j), S) else none
  | _, _, _ => none
theorem iiD_of {f : Value → Value → Sem Value} {C : Int → Int → Prop} {c : Int → Int → Bool} {g : Int → Int → PyData} {gv : Int → Int → V} (h : OpR X f (rI C gv)) (hc : ∀ i j, c i j = true → C i j) (hg : ∀ i j H, Rp X.K H (gv i j) (g i j)) : OpR X f (rOp τ X.K (iiD c g)) := by
  intro pins s σ H x y v u Q I rx ry h2
  obtain ⟨m, S, ρ, σ', wx, wy, w, S', q, hx, hy, e, p⟩ := h2
  unfold iiD at e
  split at e
  · split at e
    · rename_i hl
      cases e
      obtain rfl := rp_int hx
      obtain rfl := rp_int hy
      exact h pins s σ H _ _ v u Q I rx ry ⟨_, _, rfl, rfl, hc _ _ hl, p.now q (hg _ _ _)⟩
    · cases e
  · cases e
theorem rI_of0 {f : Value → Value → Sem Value} {gv : Int → Int → V} (h : OpR X f (rI0 gv)) : OpR X f (rI (fun _ _ => True) gv) := by
  intro pins s σ H x y v u Q I rx ry ⟨i, j, e1, e2, _, q⟩
  exact h pins s σ H x y v u Q I rx ry ⟨i, j, e1, e2, q⟩
def yes2 : Int → Int → Bool := fun _ _ => true
def subD := iiD yes2 fun i j => .int (i - j)
theorem op_subD : OpR X (binaryOp .Sub) (rOp τ X.K subD) := iiD_of (rI_of0 op_sub) (fun _ _ _ => trivial) fun _ _ _ => .int _
def divOk : Int → Int → Bool := fun _ j => decide (0 < j) && decide (j.natAbs.log2 < 9000)
def fdivD := iiD divOk fun i j => .int (i / j)
theorem op_fdivD : OpR X (binaryOp .FloorDiv) (rOp τ X.K fdivD) := iiD_of op_fdivW (fun i j h => by
  simp only [divOk, Bool.and_eq_true, decide_eq_true_eq] at h
  exact h) fun _ _ _ => .int _
def modOk : Int → Int → Bool := fun _ j => decide (0 < j)
def modD := iiD modOk fun i j => .int (i % j)
theorem op_modD : OpR X (binaryOp .Mod) (rOp τ X.K modD) := iiD_of op_mod (fun i j h => by simpa [modOk] using h) fun _ _ _ => .int _
def powOk : Int → Int → Bool := fun i j => decide (0 ≤ j) && decide (j ≤ 1000000) && decide (i.natAbs < 2 ^ 64)
def powD := iiD powOk fun i j => .int (i ^ j.toNat)
theorem op_powD : OpR X (binaryOp .Pow) (rOp τ X.K powD) := iiD_of op_pow (fun i j h => by
  simp only [powOk, Bool.and_eq_true, decide_eq_true_eq] at h
  exact ⟨h.1.1, h.1.2, h.2⟩) fun _ _ _ => .int _
/-- * of ints, of a tuple and an int -/
def mulD : W → W → Sto → Option (W × Sto)
  | .d (.int i), .d (.int j), S => @ite _ (i.natAbs.log2 + j.natAbs.log2 < 1000000) (gd _) (some (.d (.int (i * j)), S)) none
  | .d (.tuple i), .d (.int k), S => @ite _ (i ≠ [] ∧ 2 ≤ k ∧ k ≤ 1000 ∧ i.length ≤ 1000 ∧ ruly (List.replicate k.toNat i).flatten = false) (gd _) (some (.d (.tuple (List.replicate k.toNat i).flatten), S)) none
  | _, _, _ => none
theorem rpAll_rep {K : PySem.W.Frag} {H : Hp} {xs : List V} {ds : List PyData} (h : RpAll K H xs ds) : ∀ n : Nat, RpAll K H (List.replicate n xs).flatten (List.replicate n ds).flatten
  | 0 => .nil
  | n + 1 => by
    rw [List.replicate_succ, List.replicate_succ, List.flatten_cons, List.flatten_cons]
    exact h.append (rpAll_rep h n)
theorem op_mulD : OpR X (binaryOp .Mult) (rOp τ X.K mulD) := by
  intro pins s σ H x y v u Q I rx ry h
  obtain ⟨m, S, ρ, σ', wx, wy, w, S', q, hx, hy, e, p⟩ := h
  unfold mulD at e
  split at e
  · split at e
    · rename_i hl
      cases e
      obtain rfl := rp_int hx
      obtain rfl := rp_int hy
      exact op_mulW pins s σ H _ _ v u Q I rx ry ⟨_, _, rfl, rfl, hl, p.now q (.int _)⟩
    · cases e
  · split at e
    · rename_i hl
      cases e
      obtain ⟨a, xs, rfl, h1, r1⟩ := rp_tup hx
      obtain rfl := rp_int hy
      refine op_repT pins s σ H _ _ v u Q I rx ry ⟨a, _, xs, rfl, rfl, h1, fun e => ?_, hl.2.1, hl.2.2.1, by rw [r1.length]; exact hl.2.2.2.1, fun t ht => newTn p q (rpAll_rep r1 _) hl.2.2.2.2 t ht⟩
      subst e
      cases r1
      exact hl.1 rfl
    · cases e
  · cases e
/-- comparisons of ints -/
def cmpI (g : Int → Int → Bool) := iiD yes2 fun i j => .bool (g i j)
theorem op_cmpI {op : CmpOp} {g : Int → Int → Bool} (h : OpR X (compareOp op) (rI0 fun i j => .bl (g i j))) : OpR X (compareOp op) (rOp τ X.K (cmpI g)) := iiD_of (rI_of0 h) (fun _ _ _ => trivial) fun _ _ _ => .bl _
def deref (S : Sto) : W → Option PyData
  | .d x => some x
  | .loc n => match S[n]? with
    | some (.lst ws) => (allD ws).map .list
    | _ => none
  | .fn => none
theorem RpAll.dpAll {K : PySem.W.Frag} {H : Hp} {ds : List PyData} {vs : List V} (z : PyData.hasDictAll ds = false) (h : RpAll K H vs ds) : DpAll K H vs ds := RpAll.dp ds vs z h
theorem hd_shaped {d : PyData} (h : SeqAt.shaped d = true) : d.hasDict = false := by
  simp only [SeqAt.shaped, Bool.and_eq_true] at h
  exact PyData.hasDict_of_canLay d h.1
theorem deref_dp {K : PySem.W.Frag} {m : List Addr} {S : Sto} {ρ : DEnv} {σ : L2.St} {H : Hp} {v : V} {w : W} {d : PyData} (q : Sim τ K m S ρ σ H) (r : RW τ K m H v w) (z : d.hasDict = false) (e : deref S w = some d) : Dp K H v d := by
  cases w with
  | d x => cases e; exact Rp.dp _ _ z r
  | loc n =>
    obtain ⟨a, h, rfl⟩ := r
    simp only [deref] at e
    split at e
    · rename_i ws hs
      obtain ⟨ds, e1, rfl⟩ := Option.map_eq_some_iff.mp e
      obtain ⟨b, hb, vs, hv, pr⟩ := q.obs n _ hs
      rw [h] at hb; cases hb
      exact .lst (.of hv) ((allD_of e1 pr).dpAll (by simpa [PyData.hasDict] using z))
    · cases e
  | fn => cases e
def eqD (neg : Bool) : W → W → Sto → Option (W × Sto) := fun x y S => (deref S x).bind fun d => (deref S y).bind fun e =>
  if SeqAt.shaped d && SeqAt.shaped e then some (.d (.bool (PyData.eqv d e ^^ neg)), S) else none
theorem op_eqDD (hu : X.A.units + 64 < cLine) : OpR X (compareOp .Eq) (rOp τ X.K (eqD false)) := by
  intro pins s σ H x y v u Q I rx ry h
  obtain ⟨m, S, ρ, σ', wx, wy, w, S', q, hx, hy, e, p⟩ := h
  obtain ⟨d, e1, e⟩ := Option.bind_eq_some_iff.mp e
  obtain ⟨d2, e2, e⟩ := Option.bind_eq_some_iff.mp e
  split at e
  · rename_i hs
    simp only [Bool.and_eq_true] at hs
    cases e
    refine op_eqD hu pins s σ H x y v u Q I rx ry ⟨d, d2, deref_dp q hx (hd_shaped hs.1) e1, deref_dp q hy (hd_shaped hs.2) e2, hs.1, hs.2, ?_⟩
    have := p.now q (v := .bl (PyData.eqv d d2)) (by rw [Bool.xor_false]; exact .bl _)
    exact this
  · cases e
theorem op_neDD (hu : X.A.units + 64 < cLine) : OpR X (compareOp .NotEq) (rOp τ X.K (eqD true)) := by
  intro pins s σ H x y v u Q I rx ry h
  obtain ⟨m, S, ρ, σ', wx, wy, w, S', q, hx, hy, e, p⟩ := h
  obtain ⟨d, e1, e⟩ := Option.bind_eq_some_iff.mp e
  obtain ⟨d2, e2, e⟩ := Option.bind_eq_some_iff.mp e
  split at e
  · rename_i hs
    simp only [Bool.and_eq_true] at hs
    cases e
    refine op_neD hu pins s σ H x y v u Q I rx ry ⟨d, d2, deref_dp q hx (hd_shaped hs.1) e1, deref_dp q hy (hd_shaped hs.2) e2, hs.1, hs.2, ?_⟩
    have := p.now q (v := .bl (!PyData.eqv d d2)) (by rw [Bool.xor_true]; exact .bl _)
    exact this
  · cases e
/-- is None, is not None -/
def isNon : PyData → Bool
  | .none => true
  | _ => false
def isND (neg : Bool) : W → W → Sto → Option (W × Sto)
  | .d x, .d .none, S => some (.d (.bool (isNon x ^^ neg)), S)
  | .loc _, .d .none, S => some (.d (.bool neg), S)
  | _, _, _ => none
theorem rp_isnon {K : PySem.W.Frag} {H : Hp} {x : V} {d : PyData} (h : Rp K H x d) : decide (x = .non) = isNon d := by
  cases h <;> rfl
theorem op_notND : OpR X (compareOp .IsNot) (rOp τ X.K (isND true)) := by
  intro pins s σ H x y v u Q I rx ry h
  obtain ⟨m, S, ρ, σ', wx, wy, w, S', q, hx, hy, e, p⟩ := h
  unfold isND at e
  split at e
  · cases e
    obtain rfl := rp_non hy
    refine op_notN pins s σ H x _ v u Q I rx ry ⟨rfl, ?_⟩
    rw [rp_isnon hx]
    exact p.now q (by rw [Bool.xor_true]; exact .bl _)
  · cases e
    obtain rfl := rp_non hy
    obtain ⟨a, _, rfl⟩ := hx
    exact op_notN pins s σ H _ _ v u Q I rx ry ⟨rfl, p.now q (.bl _)⟩
  · cases e
/-- -a -/
def mNeg (A : ME) : ME := fun ρ S => (A ρ S).bind fun p => match p.1 with
  | .d (.int i) => some (.d (.int (-i)), p.2)
  | _ => none
theorem de_neg (ha : PE X a (rdE τ X.K A)) : PE X (.UnaryOp .USub a pos) (rdE τ X.K (mNeg A)) := wkE (pe_un un_neg ha) fun σ H Q q => by
  obtain ⟨m, S, ρ, w, S', q, e, p⟩ := q
  obtain ⟨⟨wx, S1⟩, e1, e2⟩ := Option.bind_eq_some_iff.mp e
  refine ⟨m, S, ρ, wx, S1, q, e1, fun ext H1 x f q1 fr r => ?_⟩
  simp only at e2
  split at e2
  · cases e2
    obtain rfl := rp_int r
    exact ⟨_, rfl, (p.at f q1 fr).now q1 (.int _)⟩
  · cases e2
end
end DL
end
noncomputable section
namespace DL
open PySem PySem.Spec PyProof.Rows L2
def tOf (A : ME) : MT := fun ρ S => (A ρ S).bind fun p => match p.1 with
  | .d (.bool b) => some (b, p.2)
  | _ => none
def tNotD (A : MT) : MT := fun ρ S => (A ρ S).bind fun p => some (!p.1, p.2)
def tAndD (A B : MT) : MT := fun ρ S => (A ρ S).bind fun p => if p.1 = true then B ρ p.2 else some (false, p.2)
def tOrD (A B : MT) : MT := fun ρ S => (A ρ S).bind fun p => if p.1 = true then some (true, p.2) else B ρ p.2
section
variable {K : PySem.W.Frag} {H : Hp} {σ : L2.St} {Q : Bool → Hp → Prop} {A : ME} {T U : MT}
theorem rd_tof (h : rdT τ K (tOf A) σ H Q) : rdE τ K A σ H fun x H1 => ∃ k, x = .bl k ∧ Q k H1 := by
  obtain ⟨m, S, ρ, b, S', q, e, p⟩ := h
  obtain ⟨⟨wx, S1⟩, e1, e2⟩ := Option.bind_eq_some_iff.mp e
  refine ⟨m, S, ρ, wx, S1, q, e1, fun ext H1 x f q1 fr r => ?_⟩
  simp only at e2
  split at e2
  · cases e2
    obtain rfl := rp_bl r
    exact ⟨_, rfl, (p.at f q1 fr).now q1⟩
  · cases e2
theorem rd_not (h : rdT τ K (tNotD T) σ H Q) : rdT τ K T σ H fun c H1 => Q (!c) H1 := by
  obtain ⟨m, S, ρ, b, S', q, e, p⟩ := h
  obtain ⟨⟨c, S1⟩, e1, e2⟩ := Option.bind_eq_some_iff.mp e
  cases e2
  exact ⟨m, S, ρ, c, _, q, e1, p⟩
theorem rd_and (h : rdT τ K (tAndD T U) σ H Q) : rdT τ K T σ H fun c H1 => if c = true then rdT τ K U σ H1 Q else Q false H1 := by
  obtain ⟨m, S, ρ, b, S', q, e, p⟩ := h
  obtain ⟨⟨c, S1⟩, e1, e2⟩ := Option.bind_eq_some_iff.mp e
  refine ⟨m, S, ρ, c, S1, q, e1, fun ext H1 f q1 fr => ?_⟩
  cases c with
  | true => exact ⟨_, S1, ρ, b, S', q1, by simpa using e2, p.at f q1 fr⟩
  | false =>
    simp only [Bool.false_eq_true, if_false] at e2
    cases e2
    exact (p.at f q1 fr).now q1
theorem rd_or (h : rdT τ K (tOrD T U) σ H Q) : rdT τ K T σ H fun c H1 => if c = true then Q true H1 else rdT τ K U σ H1 Q := by
  obtain ⟨m, S, ρ, b, S', q, e, p⟩ := h
  obtain ⟨⟨c, S1⟩, e1, e2⟩ := Option.bind_eq_some_iff.mp e
  refine ⟨m, S, ρ, c, S1, q, e1, fun ext H1 f q1 fr => ?_⟩
  cases c with
  | false => exact ⟨_, S1, ρ, b, S', q1, by simpa using e2, p.at f q1 fr⟩
  | true =>
    simp only [if_true] at e2
    cases e2
    exact (p.at f q1 fr).now q1
end
section
variable {X : Cx} {e a b c : Expr} {rest es : List Expr} {pos : Pos} {A B C : ME} {T U : MT}
theorem dt_cmp {op : CmpOp} {f : W → W → Sto → Option (W × Sto)} (ho : OpR X (compareOp op) (rOp τ X.K f)) (ha : PE X a (rdE τ X.K A)) (hb : PE X b (rdE τ X.K B)) (hm : behindInMarks op b = false := by first | exact nomark _ | rfl) : PT X (.Compare a [op] [b] pos) (rdT τ X.K (tOf (mBin f A B))) :=
  wkT (pt_cmpR ho ha hb hm) fun σ H Q q => binE (rd_tof q)
theorem dt_not (h : PT X a (rdT τ X.K T)) : PT X (.UnaryOp .Not a pos) (rdT τ X.K (tNotD T)) := wkT (pt_not h) fun σ H Q q => rd_not q
theorem dw_and1 (h : PT X a (rdT τ X.K T)) : PW X (.BoolOp .And [a] pos) (rdT τ X.K T) := pw_and1 h
theorem dw_or1 (h : PT X a (rdT τ X.K T)) : PW X (.BoolOp .Or [a] pos) (rdT τ X.K T) := pw_or1 h
theorem dw_and (h : PT X a (rdT τ X.K T)) (h2 : PW X (.BoolOp .And (b :: rest) pos) (rdT τ X.K U)) : PW X (.BoolOp .And (a :: b :: rest) pos) (rdT τ X.K (tAndD T U)) := wkW (pw_and h h2) fun σ H Q q => rd_and q
theorem dw_or (h : PT X a (rdT τ X.K T)) (h2 : PW X (.BoolOp .Or (b :: rest) pos) (rdT τ X.K U)) : PW X (.BoolOp .Or (a :: b :: rest) pos) (rdT τ X.K (tOrD T U)) := wkW (pw_or h h2) fun σ H Q q => rd_or q
/-- truth of any value -/
def truD (S : Sto) : W → Option Bool
  | .d .none => some false
  | .d (.bool b) => some b
  | .d (.int i) => some (i != 0)
  | .d (.str y) => if y.length ≤ sizeLine then some ((y.length : Int) != 0) else none
  | .d (.list ds) => some (!ds.isEmpty)
  | .d (.tuple ds) => some (!ds.isEmpty)
  | .d (.dict _) => none
  | .loc n => match S[n]? with
    | some (.lst ws) => some (!ws.isEmpty)
    | some (.dicK kvs) => some (!kvs.isEmpty)
    | _ => none
  | .fn => none
def tTru (A : ME) : MT := fun ρ S => (A ρ S).bind fun p => (truD p.2 p.1).bind fun b => some (b, p.2)
theorem paired_empty {α β : Type} {F : α → β → Prop} {xs : List α} {ys : List β} (h : Paired F xs ys) : ys.isEmpty = xs.isEmpty := by cases h <;> rfl
theorem rpAll_empty {K : PySem.W.Frag} {H : Hp} {xs : List V} {ys : List PyData} (h : RpAll K H xs ys) : ys.isEmpty = xs.isEmpty := by cases h <;> rfl
theorem truD_of {K : PySem.W.Frag} {m : List Addr} {S : Sto} {ρ : DEnv} {σ : L2.St} {H : Hp} {v : V} {w : W} {b : Bool} (q : Sim τ K m S ρ σ H) (r : RW τ K m H v w) (e : truD S w = some b) : TruV K v H b := by
  cases w with
  | d x =>
    cases x with
    | none => obtain rfl := rp_non r; cases e; rfl
    | bool b => obtain rfl := rp_bl r; cases e; rfl
    | int i => obtain rfl := rp_int r; cases e; rfl
    | str y =>
      obtain rfl := rp_str r
      simp only [truD] at e
      split at e
      · cases e; exact ⟨by assumption, rfl⟩
      · cases e
    | list ds =>
      obtain ⟨a, xs, rfl, h, r1⟩ := rp_lst r
      cases e
      exact .inl ⟨xs, h.sq, by rw [rpAll_empty r1]⟩
    | tuple ds =>
      obtain ⟨a, xs, rfl, h, r1⟩ := rp_tup r
      cases e
      exact .inr (.inl ⟨xs, h, by rw [rpAll_empty r1]⟩)
    | dict kvs => cases e
  | loc n =>
    obtain ⟨a, h, rfl⟩ := r
    simp only [truD] at e
    split at e
    · rename_i ws hs
      cases e
      obtain ⟨b, hb, vs, hv, pr⟩ := q.obs n _ hs
      rw [h] at hb; cases hb
      exact .inl ⟨vs, .of hv, by rw [paired_empty pr]⟩
    · rename_i ws hs
      cases e
      obtain ⟨b, hb, vs, hv, pr⟩ := q.obs n _ hs
      rw [h] at hb; cases hb
      exact .inr (.inr ⟨vs, hv, by rw [paired_empty pr]⟩)
    · cases e
  | fn => cases e
theorem dt_tru (ha : PE X a (rdE τ X.K A)) (he : ∀ whole, isTrue a X.env whole = (do let v ← whole; standAt a.pos; holding [v] (truthy v)) := by intro _; rfl) : PT X a (rdT τ X.K (tTru A)) :=
  wkT (pt_truth ha he) fun σ H Q q => by
    obtain ⟨m, S, ρ, b, S', q, e, p⟩ := q
    obtain ⟨⟨wx, S1⟩, e1, e2⟩ := Option.bind_eq_some_iff.mp e
    obtain ⟨c, e3, e4⟩ := Option.bind_eq_some_iff.mp e2
    cases e4
    exact ⟨m, S, ρ, wx, _, q, e1, fun ext H1 x f q1 fr r => ⟨_, truD_of q1 r e3, (p.at f q1 fr).now q1⟩⟩
def vAnd (A B : ME) : ME := fun ρ S => (A ρ S).bind fun p => match p.1 with
  | .d (.bool c) => if c = true then B ρ p.2 else some (.d (.bool false), p.2)
  | _ => none
def vOr (A B : ME) : ME := fun ρ S => (A ρ S).bind fun p => match p.1 with
  | .d (.bool c) => if c = true then some (.d (.bool true), p.2) else B ρ p.2
  | _ => none
def vNot (A : ME) : ME := fun ρ S => (A ρ S).bind fun p => match p.1 with
  | .d (.bool c) => some (.d (.bool (!c)), p.2)
  | _ => none
def vIf (T : MT) (A B : ME) : ME := fun ρ S => (T ρ S).bind fun p => if p.1 = true then A ρ p.2 else B ρ p.2
theorem de_and (ha : PE X a (rdE τ X.K A)) (hb : PE X (.BoolOp .And (b :: rest) pos) (rdE τ X.K B)) : PE X (.BoolOp .And (a :: b :: rest) pos) (rdE τ X.K (vAnd A B)) := wkE (pe_and ha hb) fun σ H Q q => by
  obtain ⟨m, S, ρ, w, S', q, e, p⟩ := q
  obtain ⟨⟨wx, S1⟩, e1, e2⟩ := Option.bind_eq_some_iff.mp e
  refine ⟨m, S, ρ, wx, S1, q, e1, fun ext H1 x f q1 fr r => ?_⟩
  simp only at e2
  split at e2
  · rename_i c
    obtain rfl := rp_bl r
    refine ⟨_, rfl, ?_⟩
    cases c with
    | true => exact ⟨_, S1, ρ, w, S', q1, by simpa using e2, p.at f q1 fr⟩
    | false =>
      simp only [Bool.false_eq_true, if_false] at e2
      cases e2
      exact (p.at f q1 fr).now q1 (.bl _)
  · cases e2
theorem de_one {op} (ha : PE X a (rdE τ X.K A)) : PE X (.BoolOp op [a] pos) (rdE τ X.K A) := pe_one ha
theorem de_not (ha : PE X a (rdE τ X.K A)) : PE X (.UnaryOp .Not a pos) (rdE τ X.K (vNot A)) := wkE (pe_not ha) fun σ H Q q => by
  obtain ⟨m, S, ρ, w, S', q, e, p⟩ := q
  obtain ⟨⟨wx, S1⟩, e1, e2⟩ := Option.bind_eq_some_iff.mp e
  refine ⟨m, S, ρ, wx, S1, q, e1, fun ext H1 x f q1 fr r => ?_⟩
  simp only at e2
  split at e2
  · cases e2
    obtain rfl := rp_bl r
    exact ⟨_, rfl, (p.at f q1 fr).now q1 (.bl _)⟩
  · cases e2
theorem de_if (hc : PT X c (rdT τ X.K T)) (ha : PE X a (rdE τ X.K A)) (hb : PE X b (rdE τ X.K B)) : PE X (.IfExp c a b pos) (rdE τ X.K (vIf T A B)) := wkE (pe_ifExp hc ha hb) fun σ H Q q => by
  obtain ⟨m, S, ρ, w, S', q, e, p⟩ := q
  obtain ⟨⟨c, S1⟩, e1, e2⟩ := Option.bind_eq_some_iff.mp e
  refine ⟨m, S, ρ, c, S1, q, e1, fun ext H1 f q1 fr => ?_⟩
  cases c with
  | true => exact ⟨_, S1, ρ, w, S', q1, by simpa using e2, p.at f q1 fr⟩
  | false => exact ⟨_, S1, ρ, w, S', q1, by simpa using e2, p.at f q1 fr⟩
def vChain (f g : W → W → Sto → Option (W × Sto)) (A B C : ME) : ME := fun ρ S => (A ρ S).bind fun p => (B ρ p.2).bind fun q => (f p.1 q.1 q.2).bind fun z => match z.1 with
  | .d (.bool k) => if k = true then (C ρ z.2).bind fun r => g q.1 r.1 r.2 else some (.d (.bool false), z.2)
  | _ => none
theorem rd_chain {f g : W → W → Sto → Option (W × Sto)} {K : PySem.W.Frag} {σ : L2.St} {H : Hp} {Q : VK} (h : rdE τ K (vChain f g A B C) σ H Q) : tChain (rOp τ K f) (rOp τ K g) (rdE τ K A) (rdE τ K B) (rdE τ K C) σ H Q := by
  obtain ⟨m, S, ρ, w, S', q, e, p⟩ := h
  obtain ⟨⟨wx, S1⟩, e1, e⟩ := Option.bind_eq_some_iff.mp e
  obtain ⟨⟨wy, S2⟩, e2, e⟩ := Option.bind_eq_some_iff.mp e
  obtain ⟨⟨wz, S3⟩, e3, e⟩ := Option.bind_eq_some_iff.mp e
  refine ⟨m, S, ρ, wx, S1, q, e1, fun ext H1 x f1 q1 fr1 r1 => ⟨_, S1, ρ, wy, S2, q1, e2, fun ext2 H2 y f2 q2 fr2 r2 => ?_⟩⟩
  have p1 := p.at f1 q1 fr1
  have p2 := p1.at f2 q2 fr2
  refine ⟨_, S2, ρ, σ, wx, wy, wz, S3, q2, r1.mono fr2.kp, r2, e3, fun ext3 H3 z f3 q3 fr3 r3 => ?_⟩
  have p3 := p2.at f3 q3 fr3
  simp only at e
  split at e
  · rename_i k
    obtain rfl := rp_bl r3
    refine ⟨_, rfl, ?_⟩
    cases k with
    | false =>
      simp only [Bool.false_eq_true, if_false] at e
      cases e
      exact p3.now q3 (.bl _)
    | true =>
      simp only [if_true] at e
      obtain ⟨⟨wc, S4⟩, e4, e5⟩ := Option.bind_eq_some_iff.mp e
      exact ⟨_, S3, ρ, wc, S4, q3, e4, fun ext4 H4 z f4 q4 fr4 r4 => ⟨_, S4, ρ, σ, wy, wc, w, S', q4, (r2.mono fr3.kp).mono fr4.kp, r4, e5, p3.at f4 q4 fr4⟩⟩
  · cases e
theorem de_chain {op op' : CmpOp} {f g : W → W → Sto → Option (W × Sto)} (ho : OpR X (compareOp op) (rOp τ X.K f)) (ho' : OpR X (compareOp op') (rOp τ X.K g)) (ha : PE X a (rdE τ X.K A)) (hb : PE X b (rdE τ X.K B)) (hc : PE X c (rdE τ X.K C))
    (hm : lastMarks [op, op'] [b, c] = false := by with_unfolding_all rfl) : PE X (.Compare a [op, op'] [b, c] pos) (rdE τ X.K (vChain f g A B C)) := wkE (pe_chain ho ho' ha hb hc hm) fun σ H Q q => rd_chain q
theorem dt_chain {op op' : CmpOp} {f g : W → W → Sto → Option (W × Sto)} (ho : OpR X (compareOp op) (rOp τ X.K f)) (ho' : OpR X (compareOp op') (rOp τ X.K g)) (ha : PE X a (rdE τ X.K A)) (hb : PE X b (rdE τ X.K B)) (hc : PE X c (rdE τ X.K C))
    (hm : lastMarks [op, op'] [b, c] = false := by with_unfolding_all rfl) : PT X (.Compare a [op, op'] [b, c] pos) (rdT τ X.K (tOf (vChain f g A B C))) := wkT (pt_chain ho ho' ha hb hc hm) fun σ H Q q => rd_chain (rd_tof q)
end
end DL
end
noncomputable section
namespace DL
open PySem PySem.Spec PyProof.Rows L2
section
variable {X : Cx} {e a b c : Expr} {rest es : List Expr} {pos : Pos} {A B C : ME} {T U : MT} {R : MA}
def idxD : W → W → Sto → Option (W × Sto)
  | .d (.list ds), .d (.int i), S => (atI ds i).map fun x => (.d x, S)
  | .d (.tuple ds), .d (.int i), S => (atI ds i).map fun x => (.d x, S)
  | .loc n, .d (.int i), S => match S[n]? with
    | some (.lst ws) => (atI ws i).map fun w => (w, S)
    | _ => none
  | _, _, _ => none
theorem rpAll_at {K : PySem.W.Frag} {H : Hp} {vs : List V} {ds : List PyData} {i : Int} {x : PyData} (r : RpAll K H vs ds) (e : atI ds i = some x) : ∃ v, atI vs i = some v ∧ Rp K H v x := by
  unfold atI at *
  rw [r.length]
  obtain ⟨j, e1, e2⟩ := Option.bind_eq_some_iff.mp e
  obtain ⟨v, h1, h2⟩ := r.get e2
  exact ⟨v, by rw [e1]; exact h1, h2⟩
theorem paired_getR {α β : Type} {F : α → β → Prop} : ∀ {xs : List α} {ys : List β} {i : Nat} {y : β}, Paired F xs ys → ys[i]? = some y → ∃ x, xs[i]? = some x ∧ F x y
  | _, _, _, _, .nil, e => by simp at e
  | _, _, 0, _, .cons r _, e => by simp at e; subst e; exact ⟨_, rfl, r⟩
  | _, _, i + 1, y, .cons _ t, e => by
    obtain ⟨v, h1, h2⟩ := paired_getR (i := i) (y := y) t (by simpa using e)
    exact ⟨v, by simpa using h1, h2⟩
theorem paired_at {α β : Type} {F : α → β → Prop} {vs : List α} {ds : List β} {i : Int} {x : β} (r : Paired F vs ds) (e : atI ds i = some x) : ∃ v, atI vs i = some v ∧ F v x := by
  unfold atI at *
  rw [r.length]
  obtain ⟨j, e1, e2⟩ := Option.bind_eq_some_iff.mp e
  obtain ⟨v, h1, h2⟩ := paired_getR r e2
  exact ⟨v, by rw [e1]; exact h1, h2⟩
theorem ix_D : IxR X (rOp τ X.K idxD) := by
  intro value slice pins s σ H x y v u Q I rx ry h hs
  obtain ⟨m, S, ρ, σ', wx, wy, w, S', q, hx, hy, e, p⟩ := h
  unfold idxD at e
  split at e
  · obtain ⟨z, e1, e2⟩ := Option.map_eq_some_iff.mp e
    cases e2
    obtain ⟨t, xs, rfl, h1, r1⟩ := rp_lst hx
    obtain rfl := rp_int hy
    obtain ⟨v2, h2, r2⟩ := rpAll_at r1 e1
    exact ix_list value slice pins s σ H _ _ v u Q I rx ry ⟨t, xs, _, v2, rfl, rfl, h1.sq, h2, p.now q r2⟩ hs
  · obtain ⟨z, e1, e2⟩ := Option.map_eq_some_iff.mp e
    cases e2
    obtain ⟨t, xs, rfl, h1, r1⟩ := rp_tup hx
    obtain rfl := rp_int hy
    obtain ⟨v2, h2, r2⟩ := rpAll_at r1 e1
    exact ix_tup value slice pins s σ H _ _ v u Q I rx ry ⟨t, xs, _, v2, rfl, rfl, h1, h2, p.now q r2⟩ hs
  · split at e
    · rename_i ws hws
      obtain ⟨z, e1, e2⟩ := Option.map_eq_some_iff.mp e
      cases e2
      obtain ⟨t, ht, rfl⟩ := hx
      obtain rfl := rp_int hy
      obtain ⟨t2, ht2, vs, hv, pr⟩ := q.obs _ _ hws
      rw [ht] at ht2; cases ht2
      obtain ⟨v2, h2, r2⟩ := paired_at pr e1
      exact ix_list value slice pins s σ H _ _ v u Q I rx ry ⟨t, vs, _, v2, rfl, rfl, .of hv, h2, p.now q r2⟩ hs
    · cases e
  · cases e
theorem de_ix (ha : PE X a (rdE τ X.K A)) (hb : PE X b (rdE τ X.K B)) (hs : PlainIx b := by exact fun _ _ => rfl) : PE X (.Subscript a b pos) (rdE τ X.K (mBin idxD A B)) := wkE (pe_ix ix_D ha hb hs) fun σ H Q q => binE q
abbrev MO := DEnv → Sto → Option (Option Int × Sto)
def oNo : MO := fun _ S => some (none, S)
def oYes (A : ME) : MO := fun ρ S => (A ρ S).bind fun p => match p.1 with
  | .d (.int i) => some (some i, p.2)
  | _ => none
def PostO (τ : Tbs) (K : PySem.W.Frag) (m : List Addr) (S' : Sto) (ρ : DEnv) (σ : L2.St) (H : Hp) (o : Option Int) (Q : Option Int → Hp → Prop) : Prop :=
  ∀ ext H', Fresh ext H → Sim τ K (m ++ ext) S' ρ σ H' → Fr m H H' → Q o H'
def rdO (τ : Tbs) (K : PySem.W.Frag) (f : MO) : TO := fun σ H Q => ∃ m S ρ o S', Sim τ K m S ρ σ H ∧ f ρ S = some (o, S') ∧ PostO τ K m S' ρ σ H o Q
theorem do_no : PO X none (rdO τ X.K oNo) := ⟨fun pins s σ H Q I h => po_none.run pins s σ H Q I (by
  obtain ⟨m, S, ρ, o, S', q, e, p⟩ := h
  cases e
  exact p [] H (fun _ h => absurd h (by simp)) (by rwa [List.append_nil]) Fr.refl)⟩
theorem do_yes (ha : PE X a (rdE τ X.K A)) : PO X (some a) (rdO τ X.K (oYes A)) := ⟨fun pins s σ H Q I h => (po_some ha).run pins s σ H Q I (by
  obtain ⟨m, S, ρ, o, S', q, e, p⟩ := h
  obtain ⟨⟨wx, S1⟩, e1, e2⟩ := Option.bind_eq_some_iff.mp e
  refine ⟨m, S, ρ, wx, S1, q, e1, fun ext H1 x f q1 fr r => ?_⟩
  simp only at e2
  split at e2
  · cases e2
    obtain rfl := rp_int r
    exact ⟨_, rfl, p ext H1 f q1 fr⟩
  · cases e2)⟩
def cutD {α : Type} (xs : List α) (lo hi : Option Int) : List α := (xs.drop (HT.sIx xs.length 0 lo)).take (HT.sIx xs.length xs.length hi - HT.sIx xs.length 0 lo)
def sliceD : W → Option Int → Option Int → Sto → Option (W × Sto)
  | .d (.list ds), lo, hi, S => some (.d (.list (cutD ds lo hi)), S)
  | .d (.tuple ds), lo, hi, S => some (.d (.tuple (cutD ds lo hi)), S)
  | .loc n, lo, hi, S => match S[n]? with
    | some (.lst ws) => (allD ws).bind fun ds => some (.d (.list (cutD ds lo hi)), S)
    | _ => none
  | _, _, _, _ => none
def mSl (A : ME) (L U : MO) : ME := fun ρ S => (A ρ S).bind fun p => (L ρ p.2).bind fun l => (U ρ l.2).bind fun u => sliceD p.1 l.1 u.1 u.2
def rSl (τ : Tbs) (K : PySem.W.Frag) : V → Option Int → Option Int → Hp → VK → Prop := fun x lo hi H Q => ∃ m S ρ σ wx w S', Sim τ K m S ρ σ H ∧ RW τ K m H x wx ∧ sliceD wx lo hi S = some (w, S') ∧ Post τ K m S' ρ σ H w Q
theorem rpAll_cut {K : PySem.W.Frag} {H : Hp} {vs : List V} {ds : List PyData} (r : RpAll K H vs ds) (lo hi : Option Int) : RpAll K H (cutV vs lo hi) (cutD ds lo hi) := by
  unfold cutV cutD
  rw [r.length]
  exact (r.drop _).take _
theorem sl_tupU : SlR X (fun x lo hi H Q => ∃ a xs, x = .ref a ∧ SqT X.K H a xs ∧
  (HT.sIx xs.length 0 lo = 0 ∧ HT.sIx xs.length xs.length hi = xs.length → Q (.ref a) H) ∧ (¬ (HT.sIx xs.length 0 lo = 0 ∧ HT.sIx xs.length xs.length hi = xs.length) → ∀ p, H p = none → Mk Q H p (cutV xs lo hi))) := by
  intro pins s σ H x v vl vu lo hi sl Q I rx hs pl pu h
  obtain ⟨a, xs, rfl, hx, q1, q2⟩ := h
  cases rx
  obtain ⟨its, r, ht, hz⟩ := I.tuple hx
  have hlen : its.toArray.size = xs.length := by rw [List.size_toArray]; exact r.length.symm
  refine ⟨"tuple", _, PyProof.Rows.slot_tuple_getitem.lookup, ht.typeIs, ?_⟩
  by_cases hw : HT.sIx xs.length 0 lo = 0 ∧ HT.sIx xs.length xs.length hi = xs.length
  · exact getItem_tuple_whole ht hs pl pu (by rw [hlen]; exact hw) ⟨.ref a, H, I, rfl, q1 hw⟩
  · refine HT.getItem_tuple_cut ht hs pl pu (by rw [hlen]; exact hw) ?_ (by rw [hlen]; exact hz)
    rw [hlen]
    exact laidT (I := I) rfl rfl ⟨_, rfl⟩ rfl ((r.drop (HT.sIx xs.length 0 lo)).take (HT.sIx xs.length xs.length hi - HT.sIx xs.length 0 lo)) (Nat.le_trans (cutV_length xs lo hi) hz) (q2 hw)
theorem sl_D : SlR X (rSl τ X.K) := by
  intro pins s σ H x v vl vu lo hi sl Q I rx hs pl pu h
  obtain ⟨m, S, ρ, σ', wx, w, S', q, hx, e, p⟩ := h
  unfold sliceD at e
  split at e
  · cases e
    obtain ⟨t, xs, rfl, h1, r1⟩ := rp_lst hx
    exact slFrz sl_list pins s σ H _ v vl vu _ _ sl Q I rx hs pl pu ⟨t, xs, rfl, h1.sq, fun t ht => newL p q (rpAll_cut r1 _ _) t ht⟩
  · cases e
    obtain ⟨t, xs, rfl, h1, r1⟩ := rp_tup hx
    refine sl_tupU pins s σ H _ v vl vu _ _ sl Q I rx hs pl pu ⟨t, xs, rfl, h1, fun hw => ?_, fun _ t ht => newT p q (rpAll_cut r1 _ _) t ht⟩
    refine p.now q ?_
    have e : ∀ ds : List PyData, RpAll X.K H xs ds → cutD ds lo hi = ds := fun ds r => by
      unfold cutD
      rw [← r.length, hw.1, hw.2]
      simp [r.length]
    rw [e _ r1]
    exact hx
  · split at e
    · rename_i ws hws
      obtain ⟨ds, e1, e2⟩ := Option.bind_eq_some_iff.mp e
      cases e2
      obtain ⟨t, ht, rfl⟩ := hx
      obtain ⟨t2, ht2, vs, hv, pr⟩ := q.obs _ _ hws
      rw [ht] at ht2; cases ht2
      exact slFrz sl_list pins s σ H _ v vl vu _ _ sl Q I rx hs pl pu ⟨t, vs, rfl, .of hv, fun t ht => newL p q (rpAll_cut (allD_of e1 pr) _ _) t ht⟩
    · cases e
  · cases e
theorem de_sl {lo hi : Option Expr} {p2 : Pos} {L U : MO} (ha : PE X a (rdE τ X.K A)) (hl : PO X lo (rdO τ X.K L)) (hu : PO X hi (rdO τ X.K U)) : PE X (.Subscript a (.Slice lo hi none p2) pos) (rdE τ X.K (mSl A L U)) := wkE (pe_slice sl_D ha hl hu) fun σ H Q q => by
  obtain ⟨m, S, ρ, w, S', q, e, p⟩ := q
  obtain ⟨⟨wx, S1⟩, e1, e⟩ := Option.bind_eq_some_iff.mp e
  obtain ⟨⟨l, S2⟩, e2, e⟩ := Option.bind_eq_some_iff.mp e
  obtain ⟨⟨u, S3⟩, e3, e⟩ := Option.bind_eq_some_iff.mp e
  refine ⟨m, S, ρ, wx, S1, q, e1, fun ext H1 x f1 q1 fr1 r1 => ⟨_, S1, ρ, l, S2, q1, e2, fun ext2 H2 f2 q2 fr2 => ⟨_, S2, ρ, u, S3, q2, e3, fun ext3 H3 f3 q3 fr3 => ?_⟩⟩⟩
  exact ⟨_, S3, ρ, σ, wx, w, S', q3, (r1.mono fr2.kp).mono fr3.kp, e, ((p.at f1 q1 fr1).at f2 q2 fr2).at f3 q3 fr3⟩
theorem de_callB {f : List W → Sto → Option (W × Sto)} {x : Str} {id : String} {p : Pos} (hc : CallR X (.builtin id) (rC τ X.K f)) (hg : Gl X x) (hm : X.mg x = none) (hv : bootBuiltins x = some (.builtin id)) (ha : PA X (e :: es) (rdA τ X.K R)) (hn : x ≠ "__name__" := by decide) (hdb : (x == ("__debug__" : Str)) = false := by decide)
    (he : starEach (e :: es) X.env = (false, eval e X.env) :: starEach es X.env := by rfl) (hpl : (backTo pos (starEach es X.env)).any (·.1) = false := by rfl) : PE X (.Call (.Name x p) (e :: es) [] pos) (rdE τ X.K (mCall f R)) :=
  wkE (pe_callB hc hg hm hv ha hn hdb he hpl) fun σ H Q q => callE q fun _ _ h => h
theorem de_callTy {f : List W → Sto → Option (W × Sto)} {x : Str} {T : String} {p : Pos} (hc : CallR X (.type T) (rC τ X.K f)) (hg : Gl X x) (hm : X.mg x = none) (hv : bootBuiltins x = some (.type T)) (ha : PA X (e :: es) (rdA τ X.K R)) (hn : x ≠ "__name__" := by decide) (hdb : (x == ("__debug__" : Str)) = false := by decide)
    (he : starEach (e :: es) X.env = (false, eval e X.env) :: starEach es X.env := by rfl) (hpl : (backTo pos (starEach es X.env)).any (·.1) = false := by rfl) : PE X (.Call (.Name x p) (e :: es) [] pos) (rdE τ X.K (mCall f R)) :=
  wkE (pe_callTy hc hg hm hv ha hn hdb he hpl) fun σ H Q q => callE q fun _ _ h => h
theorem prd1 {K : PySem.W.Frag} {m : List Addr} {H : Hp} {vs : List V} {w : W} (r : Paired (RW τ K m H) vs [w]) : ∃ v, vs = [v] ∧ RW τ K m H v w := by
  cases r with
  | cons r t => cases t; exact ⟨_, rfl, r⟩
theorem prd2 {K : PySem.W.Frag} {m : List Addr} {H : Hp} {vs : List V} {w w' : W} (r : Paired (RW τ K m H) vs [w, w']) : ∃ v v', vs = [v, v'] ∧ RW τ K m H v w ∧ RW τ K m H v' w' := by
  cases r with
  | cons r t =>
    obtain ⟨v, rfl, r2⟩ := prd1 t
    exact ⟨_, _, rfl, r, r2⟩
/-- one argument -/
def on1 (f : W → Sto → Option (W × Sto)) : List W → Sto → Option (W × Sto)
  | [w], S => f w S
  | _, _ => none
theorem rC1 {K : PySem.W.Frag} {f : W → Sto → Option (W × Sto)} {vs : List V} {H : Hp} {Q : VK} (h : rC τ K (on1 f) vs H Q) : ∃ m S ρ σ w0 w S' v, vs = [v] ∧ Sim τ K m S ρ σ H ∧ RW τ K m H v w0 ∧ f w0 S = some (w, S') ∧ Post τ K m S' ρ σ H w Q := by
  obtain ⟨m, S, ρ, σ, ws, w, S', q, r, e, p⟩ := h
  unfold on1 at e
  split at e
  · obtain ⟨v, rfl, r1⟩ := prd1 r
    exact ⟨m, S, ρ, σ, _, w, S', v, rfl, q, r1, e, p⟩
  · cases e
def len0 (S : Sto) : W → Option Nat
  | .d (.str y) => if y.length ≤ sizeLine then some y.length else none
  | .d (.list ds) => some ds.length
  | .d (.tuple ds) => some ds.length
  | .loc n => match S[n]? with
    | some (.lst ws) => some ws.length
    | _ => none
  | _ => none
def lenD := on1 fun w S => (len0 S w).map fun n => (.d (.int (n : Nat)), S)
theorem call_lenDD : CallR X (.builtin "len") (rC τ X.K lenD) := by
  intro pins s σ H vs us Q I rx h
  obtain ⟨m, S, ρ, σ', w0, w, S', v, rfl, q, r, e, p⟩ := rC1 h
  obtain ⟨n, e1, e2⟩ := Option.map_eq_some_iff.mp e
  cases e2
  refine call_len pins s σ H _ us Q I rx ⟨v, n, rfl, ?_, p.now q (.int _)⟩
  cases w0 with
  | d x =>
    cases x with
    | str y =>
      obtain rfl := rp_str r
      simp only [len0] at e1
      split at e1
      · cases e1; exact ⟨by assumption, rfl⟩
      · cases e1
    | list ds =>
      obtain ⟨a, xs, rfl, h, r1⟩ := rp_lst r
      cases e1
      exact .inl ⟨xs, h.sq, r1.length.symm⟩
    | tuple ds =>
      obtain ⟨a, xs, rfl, h, r1⟩ := rp_tup r
      cases e1
      exact .inr ⟨xs, h, r1.length.symm⟩
    | none => cases e1
    | bool _ => cases e1
    | int _ => cases e1
    | dict _ => cases e1
  | loc n =>
    obtain ⟨a, hm, rfl⟩ := r
    simp only [len0] at e1
    split at e1
    · rename_i ws hs
      cases e1
      obtain ⟨b, hb, vs, hv, pr⟩ := q.obs _ _ hs
      rw [hm] at hb; cases hb
      exact .inl ⟨vs, .of hv, pr.length.symm⟩
    · cases e1
  | fn => cases e1
def intD := on1 fun w S => match w with
  | .d (.int i) => some (.d (.int i), S)
  | .d (.bool b) => some (.d (.int (if b then 1 else 0)), S)
  | _ => none
theorem call_intDD : CallR X (.type "int") (rC τ X.K intD) := by
  intro pins s σ H vs us Q I rx h
  obtain ⟨m, S, ρ, σ', w0, w, S', v, rfl, q, r, e, p⟩ := rC1 h
  split at e
  · cases e
    obtain rfl := rp_int r
    exact call_int1 pins s σ H _ us Q I rx (.inl ⟨_, rfl, p.now q (.int _)⟩)
  · cases e
    obtain rfl := rp_bl r
    exact call_int1 pins s σ H _ us Q I rx (.inr ⟨_, rfl, p.now q (.int _)⟩)
  · cases e
def absD := on1 fun w S => match w with
  | .d (.int i) => some (.d (.int (if i < 0 then -i else i)), S)
  | _ => none
theorem call_absDD : CallR X (.builtin "abs") (rC τ X.K absD) := by
  intro pins s σ H vs us Q I rx h
  obtain ⟨m, S, ρ, σ', w0, w, S', v, rfl, q, r, e, p⟩ := rC1 h
  split at e
  · cases e
    obtain rfl := rp_int r
    exact call_abs pins s σ H _ us Q I rx ⟨_, rfl, p.now q (.int _)⟩
  · cases e
def ii2 (g : Int → Int → Int) : List W → Sto → Option (W × Sto)
  | [.d (.int i), .d (.int j)], S => some (.d (.int (g i j)), S)
  | _, _ => none
theorem call_ii2 {f : Value} {g : Int → Int → Int} (h : CallR X f (fun xs H Q => ∃ i j, xs = [.int i, .int j] ∧ Q (.int (g i j)) H)) : CallR X f (rC τ X.K (ii2 g)) := by
  intro pins s σ H vs us Q I rx h2
  obtain ⟨m, S, ρ, σ', ws, w, S', q, r, e, p⟩ := h2
  unfold ii2 at e
  split at e
  · cases e
    obtain ⟨v, v', rfl, r1, r2⟩ := prd2 r
    obtain rfl := rp_int r1
    obtain rfl := rp_int r2
    exact h pins s σ H _ us Q I rx ⟨_, _, rfl, p.now q (.int _)⟩
  · cases e
/-- tuple(x) -/
def tupleD := on1 fun w S => match w with
  | .d (.tuple ds) => some (.d (.tuple ds), S)
  | w => (deref S w).bind fun d => match d with
    | .list ds => some (.d (.tuple ds), S)
    | _ => none
theorem deref_list {K : PySem.W.Frag} {m : List Addr} {S : Sto} {ρ : DEnv} {σ : L2.St} {H : Hp} {v : V} {w : W} {ds : List PyData} (q : Sim τ K m S ρ σ H) (r : RW τ K m H v w) (e : deref S w = some (.list ds)) : ∃ a xs, v = .ref a ∧ SqL K H a xs ∧ RpAll K H xs ds := by
  cases w with
  | d x =>
    cases e
    obtain ⟨a, xs, rfl, h, r1⟩ := rp_lst r
    exact ⟨a, xs, rfl, h.sq, r1⟩
  | loc n =>
    obtain ⟨a, h, rfl⟩ := r
    simp only [deref] at e
    split at e
    · rename_i ws hs
      obtain ⟨ds, e1, e2⟩ := Option.map_eq_some_iff.mp e
      cases e2
      obtain ⟨b, hb, vs, hv, pr⟩ := q.obs n _ hs
      rw [h] at hb; cases hb
      exact ⟨a, vs, rfl, .of hv, allD_of e1 pr⟩
    · cases e
  | fn => cases e
theorem call_tupleU : CallR X (.type "tuple") (fun xs H Q => ∃ p ys, xs = [.ref p] ∧ SqL X.K H p ys ∧ ∀ l, H l = none → Mk Q H l ys) := by
  intro pins s σ H xs us Q I r h
  obtain ⟨p, ys, rfl, hq, q⟩ := h
  obtain ⟨u, rfl, rx⟩ := vals1 r
  cases rx
  obtain ⟨its, r', pl, hz⟩ := I.list hq
  have hlen := r'.length
  refine call_tuple_list pl.isList (fun h' kp => ?_) (by simp only [List.size_toArray] <;> omega)
  exact laidT (I := I.kept (t' := s.toks) kp) rfl rfl ⟨_, rfl⟩ rfl r' hz q
theorem call_tupleDD : CallR X (.type "tuple") (rC τ X.K tupleD) := by
  intro pins s σ H vs us Q I rx h
  obtain ⟨m, S, ρ, σ', w0, w, S', v, rfl, q, r, e, p⟩ := rC1 h
  split at e
  · cases e
    obtain ⟨a, xs, rfl, h, r1⟩ := rp_tup r
    exact call_tuple_of pins s σ H _ us Q I rx ⟨a, xs, rfl, .inr ⟨h, p.now q r⟩⟩
  · obtain ⟨d, e1, e2⟩ := Option.bind_eq_some_iff.mp e
    split at e2
    · cases e2
      obtain ⟨a, xs, rfl, h, r1⟩ := deref_list q r e1
      exact call_tupleU pins s σ H _ us Q I rx ⟨a, xs, rfl, h, fun t ht => newT p q r1 t ht⟩
    · cases e2
/-- list(x): a new list, locked, or an object -/
def seqOf (S : Sto) : W → Option (List PyData)
  | .d (.tuple ds) => some ds
  | w => (deref S w).bind fun d => match d with
    | .list ds => some ds
    | _ => none
theorem seqOf_of {K : PySem.W.Frag} {m : List Addr} {S : Sto} {ρ : DEnv} {σ : L2.St} {H : Hp} {v : V} {w : W} {ds : List PyData} (q : Sim τ K m S ρ σ H) (r : RW τ K m H v w) (e : seqOf S w = some ds) : ∃ a xs, v = .ref a ∧ (SqL K H a xs ∨ SqT K H a xs) ∧ RpAll K H xs ds := by
  unfold seqOf at e
  split at e
  · cases e
    obtain ⟨a, xs, rfl, h, r1⟩ := rp_tup r
    exact ⟨a, xs, rfl, .inr h, r1⟩
  · obtain ⟨d, e1, e2⟩ := Option.bind_eq_some_iff.mp e
    split at e2
    · cases e2
      obtain ⟨a, xs, rfl, h, r1⟩ := deref_list q r e1
      exact ⟨a, xs, rfl, .inl h, r1⟩
    · cases e2
def listD := on1 fun w S => (seqOf S w).map fun ds => (.d (.list ds), S)
def listB := on1 fun w S => (seqOf S w).map fun ds => (.loc S.length, S ++ [.lst (ds.map W.d)])
theorem call_listDD : CallR X (.type "list") (rC τ X.K listD) := by
  intro pins s σ H vs us Q I rx h
  obtain ⟨m, S, ρ, σ', w0, w, S', v, rfl, q, r, e, p⟩ := rC1 h
  obtain ⟨ds, e1, e2⟩ := Option.map_eq_some_iff.mp e
  cases e2
  obtain ⟨a, xs, rfl, h, r1⟩ := seqOf_of q r e1
  exact callFrz call_list_of pins s σ H _ us Q I rx ⟨a, xs, rfl, h, fun t ht => newL p q r1 t ht⟩
def blsD : List PyData → Option (List Bool)
  | [] => some []
  | .bool i :: ds => (blsD ds).map (i :: ·)
  | _ :: _ => none
theorem blsD_of {K : PySem.W.Frag} {H : Hp} : ∀ {ds : List PyData} {ns : List Bool} {vs : List V}, blsD ds = some ns → RpAll K H vs ds → vs = ns.map V.bl
  | [], _, _, e, .nil => by cases e; rfl
  | .bool i :: ds, ns, _, e, .cons r t => by
    simp only [blsD, Option.map_eq_some_iff] at e
    obtain ⟨es, e1, rfl⟩ := e
    obtain rfl := rp_bl r
    rw [blsD_of e1 t]; rfl
  | .none :: _, _, _, e, _ => by cases e
  | .int _ :: _, _, _, e, _ => by cases e
  | .str _ :: _, _, _, e, _ => by cases e
  | .list _ :: _, _, _, e, _ => by cases e
  | .tuple _ :: _, _, _, e, _ => by cases e
  | .dict _ :: _, _, _, e, _ => by cases e
def allDD := on1 fun w S => (deref S w).bind fun d => match d with
  | .list ds => (blsD ds).map fun ns => (.d (.bool (ns.all id)), S)
  | _ => none
theorem call_allDD (hc : X.calm = true) : CallR X (.builtin "all") (rC τ X.K allDD) := by
  intro pins s σ H vs us Q I rx h
  obtain ⟨m, S, ρ, σ', w0, w, S', v, rfl, q, r, e, p⟩ := rC1 h
  obtain ⟨d, e1, e⟩ := Option.bind_eq_some_iff.mp e
  split at e
  · obtain ⟨ns, e2, e3⟩ := Option.map_eq_some_iff.mp e
    cases e3
    obtain ⟨a, xs, rfl, h, r1⟩ := deref_list q r e1
    obtain rfl := blsD_of e2 r1
    exact cr_all hc pins s σ H _ us Q I rx ⟨a, ns, rfl, h, p.now q (.bl _)⟩
  · cases e
end
end DL
end
noncomputable section
namespace DL
open PySem PySem.Spec PyProof.Rows L2
section
variable {K : PySem.W.Frag} {H : Hp} {m : List Addr} {S : Sto} {ρ : DEnv} {σ : L2.St} {w : W} {Q : VK} {a : Addr} {n : Nat} {ws ws' : List W} {vs vs' : List V}
theorem put_kp {o : HO} (hv : H a = some (.lst vs)) : Kp H (upd H a o) := fun b u h i => by
  by_cases e : b = a
  · subst e; rw [hv] at h; cases h; exact absurd i (fun z => z)
  · rw [upd_ne e]; exact h
theorem put_fr {o : HO} (hm : m[n]? = some a) (hv : H a = some (.lst vs)) : Fr m H (upd H a o) := Fr.chg (List.mem_of_getElem? hm) hv (fun z => z)
theorem put_sim (q : Sim τ K m S ρ σ H) (hm : m[n]? = some a) (hS : S[n]? = some (.lst ws)) (hv : H a = some (.lst vs)) (pr : Paired (RW τ K m H) vs' ws') : Sim τ K m (S.set n (.lst ws')) ρ σ (upd H a (.lst vs')) :=
  q.put hm (fun u h => by rw [hv] at h; cases h; exact fun z => z) (List.getElem?_eq_some_iff.mp hS).1 ⟨vs', upd_same, Paired.mapP pr fun _ _ r => r.mono0 (put_kp hv)⟩
theorem Post.put {v : V} (p : Post τ K m (S.set n (.lst ws')) ρ σ H w Q) (q : Sim τ K m S ρ σ H) (hm : m[n]? = some a) (hS : S[n]? = some (.lst ws)) (hv : H a = some (.lst vs)) (pr : Paired (RW τ K m H) vs' ws') (r : RW τ K m H v w) : Q v (upd H a (.lst vs')) :=
  p [] _ v (fun _ h => absurd h (by simp)) (by rw [List.append_nil]; exact put_sim q hm hS hv pr) (put_fr hm hv) (by rw [List.append_nil]; exact r.mono0 (put_kp hv))
theorem paired_app {α β : Type} {F : α → β → Prop} : ∀ {xs us : List α} {ys zs : List β}, Paired F xs ys → Paired F us zs → Paired F (xs ++ us) (ys ++ zs)
  | _, _, _, _, .nil, s => s
  | _, _, _, _, .cons r t, s => .cons r (paired_app t s)
theorem paired_take {α β : Type} {F : α → β → Prop} : ∀ {xs : List α} {ys : List β} (n : Nat), Paired F xs ys → Paired F (xs.take n) (ys.take n)
  | _, _, 0, _ => .nil
  | _, _, _ + 1, .nil => .nil
  | _, _, n + 1, .cons r t => .cons r (paired_take n t)
theorem paired_drop {α β : Type} {F : α → β → Prop} : ∀ {xs : List α} {ys : List β} (n : Nat), Paired F xs ys → Paired F (xs.drop n) (ys.drop n)
  | _, _, 0, r => r
  | _, _, _ + 1, .nil => .nil
  | _, _, n + 1, .cons _ t => paired_drop n t
theorem paired_set {α β : Type} {F : α → β → Prop} {x : α} {y : β} (r : F x y) : ∀ {xs : List α} {ys : List β} (i : Nat), Paired F xs ys → Paired F (xs.set i x) (ys.set i y)
  | _, _, _, .nil => .nil
  | _, _, 0, .cons _ t => .cons r t
  | _, _, i + 1, .cons q t => .cons q (paired_set r i t)
end
/-- the n-th object is a list -/
def onL (f : List W → List W → Sto → Option (W × List W × Sto)) : W → List W → Sto → Option (W × Sto)
  | .loc n, us, S => match S[n]? with
    | some (.lst ws) => (f ws us S).bind fun p => some (p.1, p.2.2.set n (.lst p.2.1))
    | _ => none
  | _, _, _ => none
def isLst (S : Sto) : W → Bool
  | .loc n => match S[n]? with
    | some (.lst _) => true
    | _ => false
  | _ => false
def mMt (f : W → List W → Sto → Option (W × Sto)) (A : ME) (R : MA) : ME := fun ρ S => (A ρ S).bind fun p => if isLst p.2 p.1 = true then (R ρ p.2).bind fun q => f p.1 q.1 q.2 else none
def rM (τ : Tbs) (K : PySem.W.Frag) (f : W → List W → Sto → Option (W × Sto)) : V → List V → Hp → VK → Prop := fun x vs H Q =>
  ∃ m S ρ σ wx ws w S', Sim τ K m S ρ σ H ∧ RW τ K m H x wx ∧ Paired (RW τ K m H) vs ws ∧ f wx ws S = some (w, S') ∧ Post τ K m S' ρ σ H w Q
section
variable {X : Cx} {e o a b c : Expr} {rest es : List Expr} {pos : Pos} {A B C : ME} {T U : MT} {R : MA} {f : W → List W → Sto → Option (W × Sto)}
theorem isLst_ty {K : PySem.W.Frag} {m : List Addr} {S : Sto} {ρ : DEnv} {σ : L2.St} {H : Hp} {v : V} {w : W} (q : Sim τ K m S ρ σ H) (r : RW τ K m H v w) (e : isLst S w = true) : tyV K "list" v H := by
  cases w with
  | d x => cases e
  | loc n =>
    obtain ⟨a, h, rfl⟩ := r
    simp only [isLst] at e
    split at e
    · rename_i ws hs
      obtain ⟨b, hb, vs, hv, pr⟩ := q.obs n _ hs
      rw [h] at hb; cases hb
      exact Or.inl ⟨rfl, _, .of hv⟩
    · cases e
  | fn => cases e
theorem rd_mt {K : PySem.W.Frag} {σ : L2.St} {H : Hp} {Q : VK} (h : rdE τ K (mMt f A R) σ H Q) : tBM K "list" (rM τ K f) (rdE τ K A) (rdA τ K R) σ H Q := by
  obtain ⟨m, S, ρ, w, S', q, e, p⟩ := h
  obtain ⟨⟨wx, S1⟩, e1, e⟩ := Option.bind_eq_some_iff.mp e
  split at e
  · rename_i hl
    obtain ⟨⟨ws, S2⟩, e2, e3⟩ := Option.bind_eq_some_iff.mp e
    refine ⟨m, S, ρ, wx, S1, q, e1, fun ext H1 x f1 q1 fr1 r1 => ⟨isLst_ty q1 r1 hl, _, S1, ρ, ws, S2, q1, e2, fun ext2 H2 vs f2 q2 fr2 r2 => ?_⟩⟩
    exact ⟨_, S2, ρ, σ, wx, ws, w, S', q2, r1.mono fr2.kp, r2, e3, (p.at f1 q1 fr1).at f2 q2 fr2⟩
  · cases e
variable {name : Str} {apos cpos : Pos} {id : String}
theorem de_bm (slot : Slot "list" name id) (hty : typeOf (.builtin id) = pure (.type "method_descriptor")) (hm : MtR X id (rM τ X.K f)) (ho : PE X o (rdE τ X.K A)) (ha : PA X (e :: es) (rdA τ X.K R))
    (hbase : attributeBase o name X.env (eval o X.env) = eval o X.env := by rfl)
    (hfew : ((backTo cpos (starEach (e :: es) X.env)).all (fun x => !x.1) && (backToKw cpos (keywordEach [] X.env)).all (fun x => x.1.isSome)
      && decide ((e :: es).length + ([] : List Keyword).length + (if ([] : List Keyword).isEmpty then 0 else 1) < 30)) = true := by rfl)
    (hline : (apos.endLine == cpos.line) = true := by rfl) (hs : starEach (e :: es) X.env = (false, eval e X.env) :: starEach es X.env := by rfl) (hplain : (backTo cpos (starEach es X.env)).any (·.1) = false := by rfl) :
    PE X (.Call (.Attribute o name apos) (e :: es) [] cpos) (rdE τ X.K (mMt f A R)) :=
  wkE (pe_bm PySem.F.plainAttrs_list slot hty hm ho ha hbase hfew hline hs hplain) fun σ H Q q => rd_mt q
/-- the list at hand -/
theorem rM_L {K : PySem.W.Frag} {f : List W → List W → Sto → Option (W × List W × Sto)} {x : V} {vs : List V} {H : Hp} {Q : VK} (h : rM τ K (onL f) x vs H Q) :
    ∃ m S ρ σ n a ws us w ws' S' zs, x = .ref a ∧ Sim τ K m S ρ σ H ∧ m[n]? = some a ∧ S[n]? = some (.lst ws) ∧ H a = some (.lst zs) ∧ Paired (RW τ K m H) zs ws ∧ Paired (RW τ K m H) vs us ∧ f ws us S = some (w, ws', S') ∧ Post τ K m (S'.set n (.lst ws')) ρ σ H w Q := by
  obtain ⟨m, S, ρ, σ, wx, us, w, S', q, r, ra, e, p⟩ := h
  unfold onL at e
  split at e
  · split at e
    · rename_i ws hs
      obtain ⟨⟨w0, ws', S0⟩, e1, e2⟩ := Option.bind_eq_some_iff.mp e
      cases e2
      obtain ⟨a, hm, rfl⟩ := r
      obtain ⟨b, hb, zs, hv, pr⟩ := q.obs _ _ hs
      rw [hm] at hb; cases hb
      exact ⟨m, S, ρ, σ, _, a, ws, _, _, ws', S0, zs, rfl, q, hm, hs, hv, pr, ra, e1, p⟩
    · cases e
  · cases e
def appendF := onL fun ws us S => match us with
  | [w] => if ws.length < sizeLine then some (.d .none, ws ++ [w], S) else none
  | _ => none
theorem mt_appendD : MtR X "list.append" (rM τ X.K appendF) := by
  intro pins s σ H x xs v us Q I rx rs h
  obtain ⟨m, S, ρ, σ', n, a, ws, us', w, ws', S', zs, rfl, q, hm, hs, hv, pr, ra, e, p⟩ := rM_L h
  split at e
  · split at e
    · rename_i hl
      cases e
      obtain ⟨y, rfl, ry⟩ := prd1 ra
      exact mt_append pins s σ H _ _ v us Q I rx rs ⟨a, zs, y, rfl, rfl, hv, by rw [pr.length]; exact hl, p.put q hm hs hv (paired_app pr (.cons ry .nil)) .non⟩
    · cases e
  · cases e
def popF := onL fun ws us S => match us with
  | [] => (ws[ws.length - 1]?).map fun w => (w, ws.dropLast, S)
  | _ => none
def reverseF := onL fun ws us S => match us with
  | [] => some (.d .none, ws.reverse, S)
  | _ => none
def insertF := onL fun ws us S => match us with
  | [.d (.int i), w] => @ite _ (ws.length < sizeLine ∧ 0 ≤ i ∧ i < 2 ^ 63) (gd _) (some (.d .none, ws.take i.toNat ++ [w] ++ ws.drop i.toNat, S)) none
  | _ => none
theorem mt_insertD : MtR X "list.insert" (rM τ X.K insertF) := by
  intro pins s σ H x xs v us Q I rx rs h
  obtain ⟨m, S, ρ, σ', n, a, ws, us', w, ws', S', zs, rfl, q, hm, hs, hv, pr, ra, e, p⟩ := rM_L h
  split at e
  · split at e
    · rename_i hl
      cases e
      obtain ⟨y, z, rfl, ry, rz⟩ := prd2 ra
      obtain rfl := rp_int ry
      exact mt_insert pins s σ H _ _ v us Q I rx rs ⟨a, zs, _, z, rfl, rfl, hv, by rw [pr.length]; exact hl.1, hl.2.1, hl.2.2,
        p.put q hm hs hv (paired_app (paired_app (paired_take _ pr) (.cons rz .nil)) (paired_drop _ pr)) .non⟩
    · cases e
  · cases e
open PySem.AutoSeq1 in
theorem ext_run (l : Addr) (items : Array Value) (n : Nat) (b : Addr) (items2 : Array Value) (n2 : Nat) (sl : Array (Option Value)) (hc0 : ¬(!items.isEmpty && Builtin.List.listTooLong (items.size + items2.size)) = true) (hc1 : items.size ≤ sizeLine) (hs2 : items.size + items2.size ≤ sizeLine + 1) :
    Meets (Builtin.«list.extend» ⟨[.ref l, .ref b], []⟩) (fun _ R s => s.heap.get? l = some { cls := .type "list", data := .seq items n } ∧ s.heap.get? b = some { cls := .type "list", data := .seq items2 n2, slots := sl } ∧ R (.ok (.ret Value.none)) { s with heap := s.heap.update l (Obj.mapSeq fun x => x ++ items2), toks := s.toks }) :=
  .of_wp fun prog w A R s h => by
    obtain ⟨hp, g, d, tk, os⟩ := s
    obtain ⟨h1, h2, h⟩ := h
    have f1 := AutoSeq1.idx_int
    have f2 := AutoSeq1.sub_tuple_tuple
    have f3 := AutoSeq1.sub_list_list
    have f4 := AutoSeq1.sub_tuple_list
    have f5 := AutoSeq1.sub_list_tuple
    have hz : (items ++ items2).size ≤ sizeLine + 1 := by rw [Array.size_append]; exact hs2
    wp_walk using (wpAny_updateSeq h1 rfl (hz := hc1) (_hz' := hz)), wpAny_loadPart' h1, wpAny_loadPart' h2
    exact ⟨_, rfl, h⟩
theorem mt_extS : MtR X "list.extend" (fun x vs H Q => ∃ l b xs zs, x = .ref l ∧ vs = [.ref b] ∧ H l = some (.lst xs) ∧ SqL X.K H b zs ∧ xs.length + zs.length ≤ sizeLine ∧ Q .non (upd H l (.lst (xs ++ zs)))) := by
  intro pins s σ H x vs v us Q I rx rv h
  obtain ⟨l, b, xs, zs, rfl, rfl, hH, hB, hz, q⟩ := h
  cases rx
  obtain ⟨u, rfl, ru⟩ := rv.one
  cases ru
  obtain ⟨_, its, n, r, hl, e⟩ := I.lstM hH
  obtain ⟨its2, r2, ⟨ob, n2, e2, hc, hd, hdat⟩, _⟩ := I.list hB
  have hl2 := r2.length
  obtain ⟨cls, dict, data, slots⟩ := ob
  simp only at hc hd hdat
  subst hc hd hdat
  have hsz : its.toArray.size + its2.toArray.size ≤ sizeLine := by rw [List.size_toArray, List.size_toArray]; omega
  have nl : ¬ (!its.toArray.isEmpty && Builtin.List.listTooLong (its.toArray.size + its2.toArray.size)) = true := by
    have z : Builtin.List.listTooLong (its.toArray.size + its2.toArray.size) = false := decide_eq_false (by omega)
    rw [z, Bool.and_false]
    exact Bool.false_ne_true
  refine call_meets F.slot_list_extend ⟨_, e, rfl⟩ F.entry_list_extend (F.args_list_extend_2 _ _) (ext_run l its.toArray n b its2.toArray n2 slots nl (by rw [List.size_toArray]; omega) (by omega)) ⟨e, e2, ?_⟩
  refine ⟨.non, _, I.lset (its' := its ++ its2) hH e (by simp) (r.append r2) ?_, rfl, q⟩
  rw [List.length_append]
  exact hz
def extendF := onL fun ws us S => match us with
  | [w] => (deref S w).bind fun d => match d with
    | .list ds => if ws.length + ds.length ≤ sizeLine then some (.d .none, ws ++ ds.map W.d, S) else none
    | _ => none
  | _ => none
theorem mt_extendD : MtR X "list.extend" (rM τ X.K extendF) := by
  intro pins s σ H x xs v us Q I rx rs h
  obtain ⟨m, S, ρ, σ', n, a, ws, us', w, ws', S', zs, rfl, q, hm, hs, hv, pr, ra, e, p⟩ := rM_L h
  split at e
  · obtain ⟨d, e1, e2⟩ := Option.bind_eq_some_iff.mp e
    split at e2
    · split at e2
      · rename_i hl
        cases e2
        obtain ⟨y, rfl, ry⟩ := prd1 ra
        obtain ⟨b, ys, rfl, hb, r1⟩ := deref_list q ry e1
        exact mt_extS pins s σ H _ _ v us Q I rx rs ⟨a, b, zs, ys, rfl, rfl, hv, hb, by rw [pr.length, r1.length]; exact hl, p.put q hm hs hv (paired_app pr (rpAll_rw r1)) .non⟩
      · cases e2
    · cases e2
  · cases e
/-- + of lists -/
theorem cat_run (l : Addr) (items : Array Value) (n : Nat) (sa : Array (Option Value)) (b : Addr) (items2 : Array Value) (n2 : Nat) (sb : Array (Option Value)) (hc0 : items.size + items2.size ≤ sizeLine) :
    Meets (Builtin.«list.__add__» ⟨[.ref l, .ref b], []⟩) (fun _ R s => s.heap.get? l = some { cls := .type "list", data := .seq items n, slots := sa } ∧ s.heap.get? b = some { cls := .type "list", data := .seq items2 n2, slots := sb } ∧ R (.ok (.ret (Value.ref s.heap.objs.size))) { s with heap := s.heap.push { cls := Value.type "list", data := Data.seq (items ++ items2) }, toks := s.toks }) :=
  .of_wp fun prog w A R s h => by
    obtain ⟨hp, g, d, tk, os⟩ := s
    obtain ⟨h1, h2, h⟩ := h
    have f1 := AutoSeq1.idx_int
    have f2 := AutoSeq1.sub_tuple_tuple
    have f3 := AutoSeq1.sub_list_list
    have f4 := AutoSeq1.sub_tuple_list
    have f5 := AutoSeq1.sub_list_tuple
    wp_walk using AutoSeq1.wpAny_loadPart' h1, AutoSeq1.wpAny_loadPart' h2
    exact ⟨_, rfl, h⟩
theorem op_catS : OpR X (binaryOp .Add) (fun x y H Q => ∃ l b xs zs, x = .ref l ∧ y = .ref b ∧ SqL X.K H l xs ∧ SqL X.K H b zs ∧ xs.length + zs.length ≤ sizeLine ∧ ∀ p, H p = none → Q (.ref p) (upd H p (.lst (xs ++ zs)))) := by
  intro pins s σ H x y v u Q I rx ry h
  obtain ⟨l, b, xs, zs, rfl, rfl, hA, hB, hz, q⟩ := h
  cases rx
  cases ry
  obtain ⟨its, r1, ⟨oa, n1, e1, hc1, hd1, hdat1⟩, _⟩ := I.list hA
  obtain ⟨its2, r2, ⟨ob, n2, e2, hc, hd, hdat⟩, _⟩ := I.list hB
  have l1 := r1.length
  have l2 := r2.length
  obtain ⟨c1, d1, da1, sl1⟩ := oa
  obtain ⟨c2, d2, da2, sl2⟩ := ob
  simp only at hc hd hdat hc1 hd1 hdat1
  subst hc hd hdat hc1 hd1 hdat1
  have hsz : its.toArray.size + its2.toArray.size ≤ sizeLine := by rw [List.size_toArray, List.size_toArray]; omega
  refine concat_meets ⟨_, e1, rfl⟩ ⟨_, e2, rfl⟩ noFill_list_add seq_list_add F.slot_list_add F.entry_list_add (F.args_list_add_2 _ _) (cat_run l its.toArray n1 sl1 b its2.toArray n2 sl2 hsz) ⟨e1, e2, ?_⟩
  have ea : its.toArray ++ its2.toArray = (its ++ its2).toArray := by simp
  rw [ea]
  exact ⟨.ref _, _, I.lnew (t' := s.toks) (r1.append r2) (by rw [List.length_append]; omega), rfl, q _ I.fresh⟩
def catL : W → W → Sto → Option (W × Sto) := fun x y S => (deref S x).bind fun d => (deref S y).bind fun e => match d, e with
  | .list i, .list j => if i.length + j.length ≤ sizeLine then some (.d (.list (i ++ j)), S) else none
  | _, _ => none
theorem op_catL : OpR X (binaryOp .Add) (rOp τ X.K catL) := by
  intro pins s σ H x y v u Q I rx ry h
  obtain ⟨m, S, ρ, σ', wx, wy, w, S', q, hx, hy, e, p⟩ := h
  obtain ⟨d, e1, e⟩ := Option.bind_eq_some_iff.mp e
  obtain ⟨d2, e2, e⟩ := Option.bind_eq_some_iff.mp e
  split at e
  · split at e
    · rename_i hl
      cases e
      obtain ⟨a, xs, rfl, ha, r1⟩ := deref_list q hx e1
      obtain ⟨b, ys, rfl, hb, r2⟩ := deref_list q hy e2
      exact opFrz op_catS pins s σ H _ _ v u Q I rx ry ⟨a, b, xs, ys, rfl, rfl, ha, hb, by rw [r1.length, r2.length]; exact hl, fun t ht => newL p q (r1.append r2) t ht⟩
    · cases e
  · cases e
def setF : W → W → W → Sto → Option Sto
  | .loc n, .d (.int k), w, S => match S[n]? with
    | some (.lst ws) => (ixN ws.length k).map fun j => S.set n (.lst (ws.set j w))
    | _ => none
  | _, _, _, _ => none
def PostH (τ : Tbs) (K : PySem.W.Frag) (m : List Addr) (S' : Sto) (ρ : DEnv) (σ : L2.St) (H : Hp) (Q : Hp → Prop) : Prop :=
  ∀ ext H', Fresh ext H → Sim τ K (m ++ ext) S' ρ σ H' → Fr m H H' → Q H'
def rSet (τ : Tbs) (K : PySem.W.Frag) (f : W → W → W → Sto → Option Sto) : TSet := fun o i v H Q => ∃ m S ρ σ wo wi wv S', Sim τ K m S ρ σ H ∧ RW τ K m H o wo ∧ RW τ K m H i wi ∧ RW τ K m H v wv ∧ f wo wi wv S = some S' ∧ PostH τ K m S' ρ σ H Q
theorem set_D : PSet X (rSet τ X.K setF) := by
  intro pins s σ H o i v ov iv u Q I ro ri rv h
  obtain ⟨m, S, ρ, σ', wo, wi, wv, S', q, h1, h2, h3, e, p⟩ := h
  unfold setF at e
  split at e
  · split at e
    · rename_i ws hs
      obtain ⟨j, e1, e2⟩ := Option.map_eq_some_iff.mp e
      cases e2
      obtain ⟨a, hm, rfl⟩ := h1
      obtain rfl := rp_int h2
      obtain ⟨b, hb, zs, hv, pr⟩ := q.obs _ _ hs
      rw [hm] at hb; cases hb
      refine set_list pins s σ H _ _ v ov iv u Q I ro ri rv ⟨a, zs, _, j, rfl, rfl, hv, by rw [pr.length]; exact e1, ?_⟩
      exact p [] _ (fun _ h => absurd h (by simp)) (by rw [List.append_nil]; exact put_sim q hm hs hv (paired_set h3 j pr)) (put_fr hm hv)
    · cases e
  · cases e
/-- the read of o[i] op= v -/
def getF : W → W → Sto → Option (W × Sto)
  | .loc n, .d (.int i), S => match S[n]? with
    | some (.lst ws) => if 0 ≤ i then (ws[i.toNat]?).map fun w => (w, S) else none
    | _ => none
  | _, _, _ => none
theorem get_D : PGet X (rOp τ X.K getF) := by
  intro pins s σ H o i ov iv Q I ro ri h
  obtain ⟨m, S, ρ, σ', wx, wy, w, S', q, hx, hy, e, p⟩ := h
  unfold getF at e
  split at e
  · split at e
    · rename_i k _ ws hs
      split at e
      · rename_i h0
        obtain ⟨z, e1, e2⟩ := Option.map_eq_some_iff.mp e
        cases e2
        obtain ⟨a, hm, rfl⟩ := hx
        obtain rfl := rp_int hy
        obtain ⟨b, hb, zs, hv, pr⟩ := q.obs _ _ hs
        rw [hm] at hb; cases hb
        obtain ⟨y, hy, ry⟩ := paired_getR pr e1
        cases ro
        obtain ⟨t, rfl⟩ := ri
        obtain ⟨its, r, pl, hz⟩ := I.list (.of hv)
        obtain ⟨u, hu, ru⟩ := r.get hy
        have hl := r.length
        have hn := line63
        have hb := (List.getElem?_eq_some_iff.mp hy).1
        exact wpAny_getItem_list pl.isList h0 (by omega) (by simpa using hu) ⟨y, H, I, ru, p.now q ry⟩
      · cases e
    · cases e
  · cases e
inductive Fl where
  | nx
  | rt (w : W)
  | bk
  | ct
abbrev MS := DEnv → Sto → Option (Fl × DEnv × Sto)
def EndsOk (τ : Tbs) (K : PySem.W.Frag) (D : Ends) (m : List Addr) (σ : L2.St) (H : Hp) : Fl → Prop
  | .nx => D.nx σ H
  | .rt w => ∀ v, RW τ K m H v w → D.rt v H
  | .bk => D.bk σ H
  | .ct => D.ct σ H
def PostS (τ : Tbs) (K : PySem.W.Frag) (m : List Addr) (S' : Sto) (ρ' : DEnv) (σ : L2.St) (H : Hp) (fl : Fl) (D : Ends) : Prop :=
  ∀ ext σ' H', Fresh ext H → Sim τ K (m ++ ext) S' ρ' σ' H' → Fr m H H' → EndsOk τ K D (m ++ ext) σ' H' fl
def rdS (τ : Tbs) (K : PySem.W.Frag) (f : MS) : L2.TS := fun D σ H => ∃ m S ρ fl ρ' S', Sim τ K m S ρ σ H ∧ f ρ S = some (fl, ρ', S') ∧ PostS τ K m S' ρ' σ H fl D
end
section
variable {K : PySem.W.Frag} {H H1 : Hp} {m ext : List Addr} {S S1 S' : Sto} {ρ ρ1 ρ' : DEnv} {σ σ1 : L2.St} {w : W} {D : Ends} {fl : Fl}
theorem PostS.at (p : PostS τ K m S' ρ' σ H fl D) (f : Fresh ext H) (q : Sim τ K (m ++ ext) S1 ρ1 σ1 H1) (fr : Fr m H H1) : PostS τ K (m ++ ext) S' ρ' σ1 H1 fl D := fun e2 σ2 H2 f2 q2 fr2 => by
  have := p (ext ++ e2) σ2 H2 (f.append fr q f2) (by rwa [← List.append_assoc]) (fr.trans f fr2)
  rwa [← List.append_assoc] at this
theorem PostS.now (p : PostS τ K m S' ρ' σ H fl D) (q : Sim τ K m S' ρ' σ1 H) : EndsOk τ K D m σ1 H fl := by
  have := p [] σ1 H (fun _ h => absurd h (by simp)) (by rwa [List.append_nil]) Fr.refl
  rwa [List.append_nil] at this
end
section
variable {X : Cx} {e o a b c : Expr} {st : Stmt} {rest body els : List Stmt} {pos : Pos} {A B C : ME} {T U : MT} {F G : MS}
def sNil : MS := fun ρ S => some (.nx, ρ, S)
def sSeq (F G : MS) : MS := fun ρ S => (F ρ S).bind fun p => match p.1 with
  | .nx => G p.2.1 p.2.2
  | _ => some p
theorem dss_nil : PSs X [] (rdS τ X.K sNil) := wkSs pss_nil fun D σ H q => by
  obtain ⟨m, S, ρ, fl, ρ', S', q, e, p⟩ := q
  cases e
  exact p.now q
theorem rd_seq {K : PySem.W.Frag} {D : Ends} {σ : L2.St} {H : Hp} (h : rdS τ K (sSeq F G) D σ H) : tSeq (rdS τ K F) (rdS τ K G) D σ H := by
  obtain ⟨m, S, ρ, fl, ρ', S', q, e, p⟩ := h
  obtain ⟨⟨f1, ρ1, S1⟩, e1, e2⟩ := Option.bind_eq_some_iff.mp e
  refine ⟨m, S, ρ, f1, ρ1, S1, q, e1, fun ext σ1 H1 f q1 fr => ?_⟩
  have p1 := p.at f q1 fr
  cases f1 with
  | nx => exact ⟨m ++ ext, S1, ρ1, fl, ρ', S', q1, e2, p1⟩
  | rt w => cases e2; exact p1.now q1
  | bk => cases e2; exact p1.now q1
  | ct => cases e2; exact p1.now q1
theorem dss_cons (h : PS X st (rdS τ X.K F)) (h2 : PSs X rest (rdS τ X.K G)) : PSs X (st :: rest) (rdS τ X.K (sSeq F G)) := wkSs (pss_cons h h2) fun D σ H q => rd_seq q
theorem dss_one (h : PS X st (rdS τ X.K F)) : PSs X [st] (rdS τ X.K F) := pss_one h
def sPass : MS := sNil
def sBreak : MS := fun ρ S => some (.bk, ρ, S)
def sCont : MS := fun ρ S => some (.ct, ρ, S)
def sExpr (A : ME) : MS := fun ρ S => (A ρ S).bind fun p => some (.nx, ρ, p.2)
theorem ds_expr (he : PE X e (rdE τ X.K A)) (hs : swapsWith e none pos.line X.env = pure false := by rfl) : PS X (.Expr e pos) (rdS τ X.K (sExpr A)) := wkS (ps_expr he hs) fun D σ H q => by
  obtain ⟨m, S, ρ, fl, ρ', S', q, e, p⟩ := q
  obtain ⟨⟨wx, S1⟩, e1, e2⟩ := Option.bind_eq_some_iff.mp e
  cases e2
  exact ⟨m, S, ρ, wx, _, q, e1, fun ext H1 x f q1 fr r => (p.at f q1 fr).now q1⟩
def sRet (A : ME) : MS := fun ρ S => (A ρ S).bind fun p => some (.rt p.1, ρ, p.2)
theorem ds_ret (he : PE X e (rdE τ X.K A)) : PS X (.Return (some e) pos) (rdS τ X.K (sRet A)) := wkS (ps_ret he) fun D σ H q => by
  obtain ⟨m, S, ρ, fl, ρ', S', q, e, p⟩ := q
  obtain ⟨⟨wx, S1⟩, e1, e2⟩ := Option.bind_eq_some_iff.mp e
  cases e2
  exact ⟨m, S, ρ, wx, _, q, e1, fun ext H1 x f q1 fr r => (p.at f q1 fr).now q1 x r⟩
def sRetN : MS := fun ρ S => some (.rt (.d .none), ρ, S)
def sIf (T : MT) (F G : MS) : MS := fun ρ S => (T ρ S).bind fun p => if p.1 = true then F ρ p.2 else G ρ p.2
theorem ds_if (hc : PT X c (rdT τ X.K T)) (ha : PSs X body (rdS τ X.K F)) (hb : PSs X els (rdS τ X.K G)) : PS X (.If c body els pos) (rdS τ X.K (sIf T F G)) := wkS (ps_if hc ha hb) fun D σ H q => by
  obtain ⟨m, S, ρ, fl, ρ', S', q, e, p⟩ := q
  obtain ⟨⟨b, S1⟩, e1, e2⟩ := Option.bind_eq_some_iff.mp e
  refine ⟨m, S, ρ, b, S1, q, e1, fun ext H1 f q1 fr => ?_⟩
  cases b with
  | true => exact ⟨_, S1, ρ, fl, ρ', S', q1, by simpa using e2, p.at f q1 fr⟩
  | false => exact ⟨_, S1, ρ, fl, ρ', S', q1, by simpa using e2, p.at f q1 fr⟩
abbrev MG := W → DEnv → Sto → Option (DEnv × Sto)
abbrev MGs := List W → DEnv → Sto → Option (DEnv × Sto)
/-- vis: the slots that may change -/
def PostG (τ : Tbs) (K : PySem.W.Frag) (vis : List Nat) (m : List Addr) (S' : Sto) (ρ' : DEnv) (σ : L2.St) (H : Hp) (Q : L2.St → Hp → Prop) : Prop :=
  ∀ ext σ' H', wipe σ' vis = wipe σ vis → Fresh ext H → Sim τ K (m ++ ext) S' ρ' σ' H' → Fr m H H' → Q σ' H'
def rdG (τ : Tbs) (K : PySem.W.Frag) (vis : List Nat) (g : MG) : TG := fun v σ H Q => ∃ m S ρ w ρ' S', Sim τ K m S ρ σ H ∧ RW τ K m H v w ∧ g w ρ S = some (ρ', S') ∧ PostG τ K vis m S' ρ' σ H Q
def rdGs (τ : Tbs) (K : PySem.W.Frag) (vis : List Nat) (g : MGs) : TGs := fun vs σ H Q => ∃ m S ρ ws ρ' S', Sim τ K m S ρ σ H ∧ Paired (RW τ K m H) vs ws ∧ g ws ρ S = some (ρ', S') ∧ PostG τ K vis m S' ρ' σ H Q
theorem wipe_set {α : Type} {σ : L2.St} {i : Nat} {v : Option V} : ∀ {vis : List Nat}, i ∈ vis → wipe (σ.set i v) vis = wipe σ vis
  | j :: vis, h => by
    show (wipe (σ.set i v) vis).set j none = (wipe σ vis).set j none
    by_cases hm : i ∈ vis
    · rw [wipe_set (α := α) hm]
    · have e : i = j := by
        rcases List.mem_cons.mp h with z | z
        · exact z
        · exact absurd z hm
      subst e
      have key : ∀ (l : List Nat), i ∉ l → wipe (σ.set i v) l = (wipe σ l).set i v := by
        intro l
        induction l with
        | nil => intro _; rfl
        | cons k l ih =>
          intro hk
          simp only [List.mem_cons, not_or] at hk
          show (wipe (σ.set i v) l).set k none = ((wipe σ l).set k none).set i v
          rw [ih hk.2, List.set_comm _ _ hk.1]
      rw [key vis hm, List.set_set]
end
section
variable {K : PySem.W.Frag} {H H1 : Hp} {m ext : List Addr} {S S1 S' : Sto} {ρ ρ1 ρ' : DEnv} {σ σ1 : L2.St} {Q : L2.St → Hp → Prop} {vis : List Nat}
theorem PostG.at (p : PostG τ K vis m S' ρ' σ H Q) (hw : wipe σ1 vis = wipe σ vis) (f : Fresh ext H) (q : Sim τ K (m ++ ext) S1 ρ1 σ1 H1) (fr : Fr m H H1) : PostG τ K vis (m ++ ext) S' ρ' σ1 H1 Q := fun e2 σ2 H2 hw2 f2 q2 fr2 =>
  p (ext ++ e2) σ2 H2 (hw2.trans hw) (f.append fr q f2) (by rwa [← List.append_assoc]) (fr.trans f fr2)
theorem PostG.now (p : PostG τ K vis m S' ρ' σ H Q) (hw : wipe σ1 vis = wipe σ vis) (q : Sim τ K m S' ρ' σ1 H) : Q σ1 H :=
  p [] σ1 H hw (fun _ h => absurd h (by simp)) (by rwa [List.append_nil]) Fr.refl
end
section
variable {X : Cx} {e o a b c : Expr} {es : List Expr} {st : Stmt} {rest body els : List Stmt} {pos : Pos} {A B C : ME} {T U : MT} {F G : MS} {g : MG} {gs : MGs} {vis : List Nat}
def gSet (i : Nat) : MG := fun w ρ S => if i < ρ.length then some (ρ.set i (some w), S) else none
theorem dg_name {i : Nat} {x : Str} (hN : X.N.Nodup) (hi : X.N[i]? = some x) (hx : Loc X.env.scope x) (hv : i ∈ vis := by decide) (hf : X.fn x = true ∨ X.env.scope.names.lookup x = some .local := by first | exact .inl rfl | exact .inr rfl | assumption) : PG X (.Name x pos) (rdG τ X.K vis (gSet i)) := by
  refine ⟨fun pins s σ H v u Q I r h => (pg_name (pos := pos) hN hi hx hf).run pins s σ H v u Q I r ?_⟩
  obtain ⟨m, S, ρ, w, ρ', S', q, r, e, p⟩ := h
  unfold gSet at e
  split at e
  · cases e
    exact p.now (wipe_set (α := Nat) hv) (q.slotset r)
  · cases e
def gsNil : MGs := fun ws ρ S => match ws with
  | [] => some (ρ, S)
  | _ => none
def gsCons (g : MG) (gs : MGs) : MGs := fun ws ρ S => match ws with
  | w :: ws => (g w ρ S).bind fun p => gs ws p.1 p.2
  | [] => none
theorem dgs_nil : PGs X [] (rdGs τ X.K vis gsNil) := by
  refine ⟨fun pins s σ H v u Q I r h => pgs_nil.run pins s σ H v u Q I r ?_⟩
  obtain ⟨m, S, ρ, ws, ρ', S', q, r, e, p⟩ := h
  unfold gsNil at e
  split at e
  · cases e
    cases r
    exact ⟨rfl, p.now rfl q⟩
  · cases e
theorem dgs_cons (h1 : PG X e (rdG τ X.K vis g)) (h2 : PGs X es (rdGs τ X.K vis gs)) (hs : (assignEach (e :: es) X.env).map (·.2) = assign e X.env :: (assignEach es X.env).map (·.2) := by rfl) : PGs X (e :: es) (rdGs τ X.K vis (gsCons g gs)) := by
  refine ⟨fun pins s σ H v u Q I r h => (pgs_cons h1 h2 hs).run pins s σ H v u Q I r ?_⟩
  obtain ⟨m, S, ρ, ws, ρ', S', q, r, e, p⟩ := h
  unfold gsCons at e
  split at e
  · obtain ⟨⟨ρ1, S1⟩, e1, e2⟩ := Option.bind_eq_some_iff.mp e
    cases r with
    | cons r t =>
      refine ⟨_, _, rfl, m, S, ρ, _, ρ1, S1, q, r, e1, fun ext σ1 H1 hw f q1 fr => ⟨m ++ ext, S1, ρ1, _, ρ', S', q1, pRW.mono t fr.kp, e2, p.at hw f q1 fr⟩⟩
  · cases e
def gTupD (n : Nat) (gs : MGs) : MG := fun w ρ S => match w with
  | .d (.tuple ds) => if ds.length = n then gs (ds.map W.d) ρ S else none
  | _ => none
theorem dg_tup {k n : Nat} (hc : X.calm = true) (h : PGs X es (rdGs τ X.K vis gs)) (hn : (assignEach es X.env).length = n := by rfl) (hst : (assignEach es X.env).findIdx? (·.1) = none := by rfl) : PG X (.Tuple es k pos) (rdG τ X.K vis (gTupD n gs)) := by
  refine ⟨fun pins s σ H v u Q I r h2 => (pg_tup (k := k) (pos := pos) hc h hn hst).run pins s σ H v u Q I r ?_⟩
  obtain ⟨m, S, ρ, w, ρ', S', q, r, e, p⟩ := h2
  unfold gTupD at e
  split at e
  · split at e
    · rename_i hl
      obtain ⟨a, xs, rfl, ha, r1⟩ := rp_tup r
      exact ⟨a, xs, rfl, ha, by rw [r1.length]; exact hl, m, S, ρ, _, ρ', S', q, rpAll_rw r1, e, p⟩
    · cases e
  · cases e
/-- target = value -/
def sAsg (A : ME) (g : MG) : MS := fun ρ S => (A ρ S).bind fun p => (g p.1 ρ p.2).bind fun q => some (.nx, q.1, q.2)
theorem rd_asg {K : PySem.W.Frag} {D : Ends} {σ : L2.St} {H : Hp} (h : rdS τ K (sAsg A g) D σ H) : tAsg (rdE τ K A) (rdG τ K vis g) D σ H := by
  obtain ⟨m, S, ρ, fl, ρ', S', q, e, p⟩ := h
  obtain ⟨⟨wx, S1⟩, e1, e2⟩ := Option.bind_eq_some_iff.mp e
  obtain ⟨⟨ρ2, S2⟩, e3, e4⟩ := Option.bind_eq_some_iff.mp e2
  cases e4
  refine ⟨m, S, ρ, wx, S1, q, e1, fun ext H1 x f q1 fr r => ⟨m ++ ext, S1, ρ, wx, ρ2, S2, q1, r, e3, fun ext2 σ2 H2 _ f2 q2 fr2 => ?_⟩⟩
  exact ((p.at f q1 fr).at f2 q2 fr2).now q2
theorem ds_asg {tg : Expr} (he : PE X e (rdE τ X.K A)) (hg : PG X tg (rdG τ X.K vis g)) (hs : swapsWithSole [tg] e pos.line X.env = pure false := by rfl) (hw : swappedStores [tg] e X.env = pure none := by rfl)
    (h1 : (assignEach [tg] X.env).map (·.2) = [assign tg X.env] := by rfl) : PS X (.Assign [tg] e pos) (rdS τ X.K (sAsg A g)) := wkS (ps_asg he hg hs hw h1) fun D σ H q => rd_asg q
theorem ds_set {i : Nat} {x : Str} {pos' : Pos} (hN : X.N.Nodup) (hi : X.N[i]? = some x) (hx : Loc X.env.scope x) (he : PE X e (rdE τ X.K A)) (hs : swapsWith e (some (.Name x pos')) pos.line X.env = pure false := by rfl) (hf : X.fn x = true ∨ X.env.scope.names.lookup x = some .local := by first | exact .inl rfl | exact .inr rfl | assumption) :
    PS X (.Assign [.Name x pos'] e pos) (rdS τ X.K (sAsg A (gSet i))) := wkS (ps_set hN hi hx he hs hf) fun D σ H q => by
  obtain ⟨m, S, ρ, fl, ρ', S', q, e, p⟩ := q
  obtain ⟨⟨wx, S1⟩, e1, e2⟩ := Option.bind_eq_some_iff.mp e
  obtain ⟨⟨ρ2, S2⟩, e3, e4⟩ := Option.bind_eq_some_iff.mp e2
  cases e4
  unfold gSet at e3
  split at e3
  · cases e3
    exact ⟨m, S, ρ, wx, _, q, e1, fun ext H1 x f q1 fr r => ((p.at f q1 fr).now (q1.slotset r))⟩
  · cases e3
/-- a, b = x, y -/
def sPar (i j : Nat) (R : MA) : MS := fun ρ S => (R ρ S).bind fun p => match p.1 with
  | [w, u] => if i < ρ.length ∧ j < ρ.length then some (.nx, (ρ.set i (some w)).set j (some u), p.2) else none
  | _ => none
theorem ds_par {i j : Nat} {x y : Str} {a b : Expr} {R : MA} {px py pt : Pos} {kt k2 pt2} (hc : X.calm = true) (hN : X.N.Nodup) (hi : X.N[i]? = some x) (hj : X.N[j]? = some y) (hij : i ≠ j)
    (hx : X.env.scope.names.lookup x = some .local) (hy : X.env.scope.names.lookup y = some .local) (ha : PA X [a, b] (rdA τ X.K R))
    (hw : swappedStores [.Tuple [.Name x px, .Name y py] kt pt] (.Tuple [a, b] k2 pt2) X.env = pure (some [x, y]))
    (hs : swapsWithSole [.Tuple [.Name x px, .Name y py] kt pt] (.Tuple [a, b] k2 pt2) pos.line X.env = pure false := by rfl) :
    PS X (.Assign [.Tuple [.Name x px, .Name y py] kt pt] (.Tuple [a, b] k2 pt2) pos) (rdS τ X.K (sPar i j R)) := wkS (ps_par hc hN hi hj hij hx hy ha hw hs) fun D σ H q => by
  obtain ⟨m, S, ρ, fl, ρ', S', q, e, p⟩ := q
  obtain ⟨⟨ws, S1⟩, e1, e2⟩ := Option.bind_eq_some_iff.mp e
  refine ⟨m, S, ρ, ws, S1, q, e1, fun ext H1 vs f q1 fr r => ?_⟩
  simp only at e2
  split at e2
  · split at e2
    · cases e2
      obtain ⟨v, v', rfl, r1, r2⟩ := prd2 r
      exact ⟨v, v', rfl, (p.at f q1 fr).now ((q1.slotset r1).slotset r2)⟩
    · cases e2
  · cases e2
/-- name op= e -/
def sAug (i : Nat) (f : W → W → Sto → Option (W × Sto)) (A : ME) : MS := fun ρ S => match ρ[i]? with
  | some (some w) => (A ρ S).bind fun p => (f w p.1 p.2).bind fun q => some (.nx, ρ.set i (some q.1), q.2)
  | _ => none
theorem ip_of {op : Operator} {f : W → W → Sto → Option (W × Sto)} (h : OpR X (inplaceOp op) (rOp τ X.K f)) : PIp X op (rOp τ X.K f) := fun pins s σ H x y v u Q I rx ry q => h pins s σ H x y v u Q I rx ry q
def iaddI := iiD yes2 fun i j => .int (i + j)
def isubI := iiD yes2 fun i j => .int (i - j)
theorem ip_addI : PIp X .Add (rOp τ X.K iaddI) := ip_of (iiD_of (rI_of0 iop_add) (fun _ _ _ => trivial) fun _ _ _ => .int _)
/-- o[i] = e, o[i] op= e -/
def gSubD (A B : ME) (f : W → W → W → Sto → Option Sto) : MG := fun w ρ S => (A ρ S).bind fun p => (B ρ p.2).bind fun q => (f p.1 q.1 w q.2).bind fun S' => some (ρ, S')
theorem dg_sub {f : W → W → W → Sto → Option Sto} (ho : PE X o (rdE τ X.K A)) (hi : PE X a (rdE τ X.K B)) (hs : PSet X (rSet τ X.K f))
    (ha : ∀ v, assign (.Subscript o a pos) X.env v = (do
      let ov ← holding [v] (eval o X.env)
      let iv ← holding [v, ov] (eval a X.env)
      standAt pos
      holding [v, ov, iv] (setItem ov iv v)
      release [v, ov, iv] []) := by intro _; rfl) : PG X (.Subscript o a pos) (rdG τ X.K vis (gSubD A B f)) := by
  refine ⟨fun pins s σ H v u Q I r h => (pg_sub ho hi hs ha).run pins s σ H v u Q I r ?_⟩
  obtain ⟨m, S, ρ, w, ρ', S', q, r, e, p⟩ := h
  obtain ⟨⟨wo, S1⟩, e1, e⟩ := Option.bind_eq_some_iff.mp e
  obtain ⟨⟨wi, S2⟩, e2, e⟩ := Option.bind_eq_some_iff.mp e
  obtain ⟨S3, e3, e⟩ := Option.bind_eq_some_iff.mp e
  cases e
  refine ⟨m, S, ρ, wo, S1, q, e1, fun ext H1 x f q1 fr r1 => ⟨_, S1, ρ, wi, S2, q1, e2, fun ext2 H2 y f2 q2 fr2 r2 => ?_⟩⟩
  refine ⟨_, S2, ρ, σ, wo, wi, w, _, q2, r1.mono fr2.kp, r2, (r.mono fr.kp).mono fr2.kp, e3, fun ext3 H3 f3 q3 fr3 => ?_⟩
  exact ((p.at rfl f q1 fr).at rfl f2 q2 fr2).at rfl f3 q3 fr3 |>.now rfl q3
def sAugS (A B C : ME) (g f : W → W → Sto → Option (W × Sto)) (t : W → W → W → Sto → Option Sto) : MS := fun ρ S => (A ρ S).bind fun p => (B ρ p.2).bind fun q => (g p.1 q.1 q.2).bind fun x => (C ρ x.2).bind fun y => (f x.1 y.1 y.2).bind fun z => (t p.1 q.1 z.1 z.2).bind fun S' => some (.nx, ρ, S')
theorem ds_augS {op : Operator} {tpos : Pos} {g f : W → W → Sto → Option (W × Sto)} {t : W → W → W → Sto → Option Sto} (ho : PE X o (rdE τ X.K A)) (hi : PE X a (rdE τ X.K B)) (hg : PGet X (rOp τ X.K g)) (he : PE X e (rdE τ X.K C)) (hp : PIp X op (rOp τ X.K f)) (hs : PSet X (rSet τ X.K t))
    (ha : ∀ ov iv new, augStore a ov iv new = (do holding [new, ov, iv] (setItem ov iv new); release [new, ov, iv] []; pure .next) := by intros; rfl) : PS X (.AugAssign (.Subscript o a tpos) op e pos) (rdS τ X.K (sAugS A B C g f t)) := wkS (ps_augS ho hi hg he hp hs ha) fun D σ H q => by
  obtain ⟨m, S, ρ, fl, ρ', S', q, e, p⟩ := q
  obtain ⟨⟨wo, S1⟩, e1, e⟩ := Option.bind_eq_some_iff.mp e
  obtain ⟨⟨wi, S2⟩, e2, e⟩ := Option.bind_eq_some_iff.mp e
  obtain ⟨⟨wg, S3⟩, e3, e⟩ := Option.bind_eq_some_iff.mp e
  obtain ⟨⟨wc, S4⟩, e4, e⟩ := Option.bind_eq_some_iff.mp e
  obtain ⟨⟨wz, S5⟩, e5, e⟩ := Option.bind_eq_some_iff.mp e
  obtain ⟨S6, e6, e⟩ := Option.bind_eq_some_iff.mp e
  cases e
  refine ⟨m, S, ρ, wo, S1, q, e1, fun ext H1 x f q1 fr r1 => ⟨_, S1, ρ, wi, S2, q1, e2, fun ext2 H2 y f2 q2 fr2 r2 => ?_⟩⟩
  refine ⟨_, S2, ρ, σ, wo, wi, wg, S3, q2, r1.mono fr2.kp, r2, e3, fun ext3 H3 z f3 q3 fr3 r3 => ⟨_, S3, ρ, wc, S4, q3, e4, fun ext4 H4 y4 f4 q4 fr4 r4 => ?_⟩⟩
  refine ⟨_, S4, ρ, σ, wg, wc, wz, S5, q4, r3.mono fr4.kp, r4, e5, fun ext5 H5 z5 f5 q5 fr5 r5 => ?_⟩
  refine ⟨_, S5, ρ, σ, wo, wi, wz, _, q5, (((r1.mono fr2.kp).mono fr3.kp).mono fr4.kp).mono fr5.kp, ((r2.mono fr3.kp).mono fr4.kp).mono fr5.kp, r5, e6, fun ext6 H6 f6 q6 fr6 => ?_⟩
  exact (((((p.at f q1 fr).at f2 q2 fr2).at f3 q3 fr3).at f4 q4 fr4).at f5 q5 fr5).at f6 q6 fr6 |>.now q6
end
end DL
end
noncomputable section
namespace DL
open PySem PySem.Spec PyProof.Rows L2
/-- J gives ws one by one, whatever has grown since -/
structure Yl (τ : Tbs) (K : PySem.W.Frag) (m : List Addr) (J : It) (ws : List W) (H1 : Hp) : Prop where
  go : ∀ i H', i < ws.length → Kp H1 H' → J.go i H'
  stop : ∀ H', Kp H1 H' → J.stop ws.length H'
  yld : ∀ i H' x H'' w, ws[i]? = some w → Kp H1 H' → J.yld i H' x H'' → (∀ a o, H' a = some o → H'' a = some o) ∧ RW τ K m H'' x w
abbrev MI := DEnv → Sto → Option (List W × Sto)
def PostI (τ : Tbs) (K : PySem.W.Frag) (m : List Addr) (S' : Sto) (ρ : DEnv) (σ : L2.St) (H : Hp) (ws : List W) (R : It → Hp → Prop) : Prop :=
  ∀ ext J H', Fresh ext H → Sim τ K (m ++ ext) S' ρ σ H' → Fr m H H' → Yl τ K (m ++ ext) J ws H' → R J H'
def rdI (τ : Tbs) (K : PySem.W.Frag) (f : MI) : TI := fun σ H R => ∃ m S ρ ws S', Sim τ K m S ρ σ H ∧ f ρ S = some (ws, S') ∧ PostI τ K m S' ρ σ H ws R
theorem yl_of {K : PySem.W.Frag} {m : List Addr} {J : It} {ws : List W} {H1 : Hp} {G : Hp → Prop} {Y : Nat → Hp → V → Hp → Prop} (w : Walk J ws.length G Y) (hG : ∀ H', Kp H1 H' → G H')
    (hy : ∀ i H' x H'' w, ws[i]? = some w → Kp H1 H' → Y i H' x H'' → (∀ a o, H' a = some o → H'' a = some o) ∧ RW τ K m H'' x w) : Yl τ K m J ws H1 :=
  ⟨fun i H' hi k => w.goes i H' hi (hG H' k), fun H' k => w.stops H' (hG H' k), fun i H' x H'' u e k y => hy i H' x H'' u e k (w.yields i H' x H'' (List.getElem?_eq_some_iff.mp e).1 (hG H' k) y)⟩
section
variable {X : Cx} {tg e a b c : Expr} {es : List Expr} {body : List Stmt} {pos : Pos} {A B C : ME} {T U : MT} {F : MS} {g : MG} {R : MA} {it : MI} {vis : List Nat}
theorem rpAll_getV {K : PySem.W.Frag} {H : Hp} {ds : List PyData} {vs : List V} {i : Nat} {x : V} {w : W} {m : List Addr} (r : RpAll K H vs ds) (e : vs[i]? = some x) (e2 : (ds.map W.d)[i]? = some w) : RW τ K m H x w := by
  rw [List.getElem?_map] at e2
  obtain ⟨d, h1, rfl⟩ := Option.map_eq_some_iff.mp e2
  obtain ⟨v, h2, r2⟩ := r.get h1
  rw [e] at h2; cases h2
  exact r2
def rngD (lo : Int) (n : Nat) : List W := (List.range n).map fun i => W.d (.int (lo + (i : Nat)))
def iRng1D (R : MA) : MI := fun ρ S => (R ρ S).bind fun p => match p.1 with
  | [.d (.int n)] => if n.toNat < 2 ^ 61 ∧ (-n).toNat < 2 ^ 61 then some (rngD 0 n.toNat, p.2) else none
  | _ => none
def iRng2D (R : MA) : MI := fun ρ S => (R ρ S).bind fun p => match p.1 with
  | [.d (.int lo), .d (.int hi)] => if (lo.toNat < 2 ^ 61 ∧ (-lo).toNat < 2 ^ 61) ∧ hi.toNat < 2 ^ 61 ∧ (-hi).toNat < 2 ^ 61 then some (rngD lo (hi - lo).toNat, p.2) else none
  | _ => none
theorem yl_rng {K : PySem.W.Frag} {m : List Addr} {H1 : Hp} {lo : Int} {n : Nat} : Yl τ K m (Itr lo n) (rngD lo n) H1 := by
  refine yl_of (G := fun _ => True) (Y := YFn fun i => .int (lo + i)) ?_ (fun _ _ => trivial) fun i H' x H'' w ew k y => ?_
  · have : (rngD lo n).length = n := by simp [rngD]
    rw [this]; exact walk_range
  · obtain ⟨rfl, rfl⟩ := y
    refine ⟨fun _ _ z => z, ?_⟩
    simp only [rngD, List.getElem?_map] at ew
    obtain ⟨j, h1, rfl⟩ := Option.map_eq_some_iff.mp ew
    obtain ⟨h2, h3⟩ := List.getElem?_eq_some_iff.mp h1
    rw [List.getElem_range] at h3
    subst h3
    exact .int _
theorem di_rng1 {p : Pos} (hg : Gl X "range") (hm : X.mg "range" = none) (ha : PA X [a] (rdA τ X.K R)) (hs : starEach [a] X.env = [(false, eval a X.env)] := by rfl) : PI X tg (.Call (.Name "range" p) [a] [] pos) (rdI τ X.K (iRng1D R)) := ⟨fun pins s σ H R' I q => (pi_range1 hg hm ha hs).run pins s σ H R' I (by
  obtain ⟨m, S, ρ, ws, S', q, e, p⟩ := q
  obtain ⟨⟨us, S1⟩, e1, e2⟩ := Option.bind_eq_some_iff.mp e
  refine ⟨m, S, ρ, us, S1, q, e1, fun ext H1 vs f q1 fr r => ?_⟩
  simp only at e2
  split at e2
  · split at e2
    · rename_i hb
      cases e2
      obtain ⟨v, rfl, r1⟩ := prd1 r
      obtain rfl := rp_int r1
      exact ⟨_, rfl, by omega, by omega, p ext _ H1 f q1 fr yl_rng⟩
    · cases e2
  · cases e2)⟩
def forL (g : MG) (F : MS) : List W → MS
  | [], ρ, S => some (.nx, ρ, S)
  | w :: ws, ρ, S => (g w ρ S).bind fun p => (F p.1 p.2).bind fun q => match q.1 with
    | .nx => forL g F ws q.2.1 q.2.2
    | .ct => forL g F ws q.2.1 q.2.2
    | .bk => some (.nx, q.2.1, q.2.2)
    | .rt w => some (.rt w, q.2.1, q.2.2)
def sFor (it : MI) (g : MG) (F : MS) : MS := fun ρ S => (it ρ S).bind fun p => forL g F p.1 ρ p.2
theorem rd_for {K : PySem.W.Frag} {D : Ends} {σ : L2.St} {H : Hp} (h : rdS τ K (sFor it g F) D σ H) : tFor (rdI τ K it) (rdG τ K vis g) (rdS τ K F) D σ H := by
  obtain ⟨m, S, ρ, fl, ρ', S', q, e, p⟩ := h
  obtain ⟨⟨ws, S1⟩, e1, e2⟩ := Option.bind_eq_some_iff.mp e
  refine ⟨m, S, ρ, ws, S1, q, e1, fun ext J H1 f q1 fr yl => ?_⟩
  have p1 := p.at f q1 fr
  clear p fr f q e e1
  generalize m ++ ext = m at *
  refine ⟨fun i n σ' H' => ∃ e2 S2 ρ2, n = ws.length - i ∧ i ≤ ws.length ∧ Fresh e2 H1 ∧ Sim τ K (m ++ e2) S2 ρ2 σ' H' ∧ Fr m H1 H' ∧ forL g F (ws.drop i) ρ2 S2 = some (fl, ρ', S'),
    ⟨_, [], S1, ρ, rfl, Nat.zero_le _, fun _ h => absurd h (by simp), by rwa [List.append_nil], Fr.refl, e2⟩, ?_⟩
  rintro i n σ' H' ⟨e2, S2, ρ2, rfl, hi, f2, q2, fr2, e⟩
  have p2 := p1.at f2 q2 fr2
  by_cases hlt : i < ws.length
  · rw [List.drop_eq_getElem_cons hlt] at e
    simp only [forL] at e
    obtain ⟨⟨ρ3, S3⟩, e3, e⟩ := Option.bind_eq_some_iff.mp e
    obtain ⟨⟨f1, ρ4, S4⟩, e4, e⟩ := Option.bind_eq_some_iff.mp e
    refine .inr ⟨yl.go i H' hlt fr2.kp, fun σ4 H4 => ∃ n', n' < ws.length - i ∧ ∃ e2 S2 ρ2, n' = ws.length - (i + 1) ∧ i + 1 ≤ ws.length ∧ Fresh e2 H1 ∧ Sim τ K (m ++ e2) S2 ρ2 σ4 H4 ∧ Fr m H1 H4 ∧ forL g F (ws.drop (i + 1)) ρ2 S2 = some (fl, ρ', S'), fun σ4 H4 z => z, fun x H2 y => ?_⟩
    obtain ⟨kp, rx⟩ := yl.yld i H' x H2 ws[i] (List.getElem?_eq_getElem hlt) fr2.kp y
    have q3 := q2.same kp
    have fr3 : Fr (m ++ e2) H' H2 := Fr.of kp
    refine ⟨m ++ e2, S2, ρ2, ws[i], ρ3, S3, q3, rx.mono (Kp.refl _), e3, fun ext3 σ3 H3 _ f3 q4 fr4 => ⟨_, S3, ρ3, f1, ρ4, S4, q4, e4, fun ext4 σ4 H4 f4 q5 fr5 => ?_⟩⟩
    have q3' : Sim τ K ((m ++ e2) ++ []) S2 ρ2 σ' H2 := by rwa [List.append_nil]
    have fr4' : Fr (m ++ e2) H' H3 := Fr.pre kp fr4
    have f3' : Fresh ext3 H' := fun a ha => by
      cases z : H' a with
      | none => rfl
      | some o => have := kp a o z; rw [f3 a ha] at this; cases this
    have p3 := (p2.at f3' q4 fr4').at f4 q5 fr5
    have ff : Fresh (e2 ++ ext3) H1 := f2.append fr2 q2 f3'
    have q4' : Sim τ K (m ++ (e2 ++ ext3)) S3 ρ3 σ3 H3 := by rwa [← List.append_assoc]
    have fr4'' : Fr m H1 H3 := fr2.trans f2 fr4'
    have q5' : Sim τ K (m ++ (e2 ++ ext3 ++ ext4)) S4 ρ4 σ4 H4 := by rw [← List.append_assoc, ← List.append_assoc]; exact q5
    have fr5' : Fr m H1 H4 := fr4''.trans ff (by rwa [← List.append_assoc])
    have next : forL g F (ws.drop (i + 1)) ρ4 S4 = some (fl, ρ', S') → ∃ n', n' < ws.length - i ∧ ∃ e2 S2 ρ2, n' = ws.length - (i + 1) ∧ i + 1 ≤ ws.length ∧ Fresh e2 H1 ∧ Sim τ K (m ++ e2) S2 ρ2 σ4 H4 ∧ Fr m H1 H4 ∧ forL g F (ws.drop (i + 1)) ρ2 S2 = some (fl, ρ', S') := fun e =>
      ⟨_, by omega, e2 ++ ext3 ++ ext4, S4, ρ4, rfl, hlt, ff.append fr4'' q4' f4, q5', fr5', e⟩
    cases f1 with
    | nx => exact next e
    | ct => exact next e
    | bk => cases e; exact p3.now q5
    | rt w => cases e; exact p3.now q5
  · have ei : i = ws.length := by omega
    subst ei
    rw [List.drop_length] at e
    cases e
    exact .inl ⟨yl.stop H' fr2.kp, p2.now q2⟩
theorem ds_for (hp : PassesOwn (model X.prog X.w) X.A X.env X.xe) (hc : X.calm = true) (hi : PI X tg e (rdI τ X.K it)) (hg : PG X tg (rdG τ X.K vis g)) (hb : PSs X body (rdS τ X.K F))
    (hs : ∀ x, foldedSetIterable e X.env x = pure x := by intro _; rfl) : PS X (.For tg e body [] pos) (rdS τ X.K (sFor it g F)) := wkS (ps_for hp hc hi hg hb hs) fun D σ H q => rd_for q
def whileL (T : MT) (F : MS) : Nat → MS
  | 0, _, _ => none
  | n + 1, ρ, S => (T ρ S).bind fun p => if p.1 = true then (F ρ p.2).bind fun q => (match q.1 with
    | .nx => whileL T F n q.2.1 q.2.2
    | .ct => whileL T F n q.2.1 q.2.2
    | .bk => some (.nx, q.2.1, q.2.2)
    | .rt w => some (.rt w, q.2.1, q.2.2)) else some (.nx, ρ, p.2)
/-- it ends, behind some number of turns -/
theorem rd_while {K : PySem.W.Frag} {D : Ends} {σ : L2.St} {H : Hp} {n : Nat} (h : rdS τ K (whileL T F n) D σ H) : tWhile (rdT τ K T) (rdS τ K F) D σ H := by
  obtain ⟨m, S, ρ, fl, ρ', S', q, e, p⟩ := h
  refine ⟨fun n σ' H' => ∃ e2 S2 ρ2, Fresh e2 H ∧ Sim τ K (m ++ e2) S2 ρ2 σ' H' ∧ Fr m H H' ∧ whileL T F n ρ2 S2 = some (fl, ρ', S'), ⟨n, [], S, ρ, fun _ h => absurd h (by simp), by rwa [List.append_nil], Fr.refl, e⟩, ?_⟩
  rintro n σ' H' ⟨e2, S2, ρ2, f2, q2, fr2, e⟩
  have p2 := p.at f2 q2 fr2
  cases n with
  | zero => cases e
  | succ n =>
    simp only [whileL] at e
    obtain ⟨⟨b, S3⟩, e3, e⟩ := Option.bind_eq_some_iff.mp e
    refine ⟨m ++ e2, S2, ρ2, b, S3, q2, e3, fun ext3 H3 f3 q3 fr3 => ?_⟩
    have p3 := p2.at f3 q3 fr3
    have ff : Fresh (e2 ++ ext3) H := f2.append fr2 q2 f3
    have q3' : Sim τ K (m ++ (e2 ++ ext3)) S3 ρ2 σ' H3 := by rwa [← List.append_assoc]
    have fr3' : Fr m H H3 := fr2.trans f2 fr3
    cases b with
    | false =>
      simp only [Bool.false_eq_true, if_false] at e ⊢
      cases e
      exact p3.now q3
    | true =>
      simp only [if_true] at e ⊢
      obtain ⟨⟨f1, ρ4, S4⟩, e4, e⟩ := Option.bind_eq_some_iff.mp e
      refine ⟨fun σ4 H4 => ∃ n', n' < n + 1 ∧ ∃ e2 S2 ρ2, Fresh e2 H ∧ Sim τ K (m ++ e2) S2 ρ2 σ4 H4 ∧ Fr m H H4 ∧ whileL T F n' ρ2 S2 = some (fl, ρ', S'), fun _ _ z => z, _, S3, ρ2, f1, ρ4, S4, q3, e4, fun ext4 σ4 H4 f4 q5 fr5 => ?_⟩
      have p4 := p3.at f4 q5 fr5
      have q5' : Sim τ K (m ++ (e2 ++ ext3 ++ ext4)) S4 ρ4 σ4 H4 := by rw [← List.append_assoc, ← List.append_assoc]; exact q5
      have fr5' : Fr m H H4 := fr3'.trans ff (by rwa [← List.append_assoc])
      have next : whileL T F n ρ4 S4 = some (fl, ρ', S') → ∃ n', n' < n + 1 ∧ ∃ e2 S2 ρ2, Fresh e2 H ∧ Sim τ K (m ++ e2) S2 ρ2 σ4 H4 ∧ Fr m H H4 ∧ whileL T F n' ρ2 S2 = some (fl, ρ', S') := fun e =>
        ⟨n, Nat.lt_succ_self _, e2 ++ ext3 ++ ext4, S4, ρ4, ff.append fr3' q3' f4, q5', fr5', e⟩
      cases f1 with
      | nx => exact next e
      | ct => exact next e
      | bk => cases e; exact p4.now q5
      | rt w => cases e; exact p4.now q5
theorem ds_while {c : Expr} {n : Nat} (hp : PassesOwn (model X.prog X.w) X.A X.env X.xe) (hc : PT X c (rdT τ X.K T)) (hb : PSs X body (rdS τ X.K F)) : PS X (.While c body [] pos) (rdS τ X.K (whileL T F n)) := wkS (ps_while hp hc hb) fun D σ H q => rd_while q
end
end DL
end
noncomputable section
namespace DL
open PySem PySem.Spec PyProof.Rows L2
def wipeD (ρ : DEnv) : List Nat → DEnv
  | [] => ρ
  | v :: vs => (wipeD ρ vs).set v none
theorem wipeD_len (ρ : DEnv) : ∀ vs : List Nat, (wipeD ρ vs).length = ρ.length
  | [] => rfl
  | v :: vs => by simp [wipeD, wipeD_len ρ vs]
theorem wipeD_some {ρ : DEnv} {i : Nat} {x : W} : ∀ {vs : List Nat}, (wipeD ρ vs)[i]? = some (some x) → ρ[i]? = some (some x) ∧ i ∉ vs
  | [], h => ⟨h, by simp⟩
  | v :: vs, h => by
    simp only [wipeD] at h
    by_cases hi : v = i
    · subst hi
      by_cases hv : v < (wipeD ρ vs).length
      · rw [List.getElem?_set_self hv] at h; cases h
      · rw [List.getElem?_eq_none (by simpa using hv)] at h; cases h
    · rw [List.getElem?_set_ne hi] at h
      obtain ⟨h1, h2⟩ := wipeD_some h
      exact ⟨h1, by simp only [List.mem_cons, not_or]; exact ⟨fun e => hi e.symm, h2⟩⟩
section
variable {K : PySem.W.Frag} {H H1 : Hp} {m ext : List Addr} {S S1 S' : Sto} {ρ : DEnv} {σ : L2.St}
theorem Sim.wipe (q : Sim τ K m S ρ σ H) (vs : List Nat) : Sim τ K m S (wipeD ρ vs) (wipe σ vs) H := by
  refine ⟨fun i w e => ?_, q.len, q.nd, q.obs, by rw [wipeD_len, wipe_length]; exact q.rl, q.tb⟩
  obtain ⟨h1, h2⟩ := wipeD_some e
  obtain ⟨v, h, r⟩ := q.slot i w h1
  exact ⟨v, by rw [wipe_out h2]; exact h, r⟩
/-- something else changed -/
theorem Sim.other {a : Addr} {o u : HO} (q : Sim τ K m S ρ σ H) (nm : a ∉ m) (ha : H a = some u) (hi : ¬ Fix u) : Sim τ K m S ρ σ (upd H a o) := by
  have kp : Kp H (upd H a o) := fun b x h i => by
    by_cases e : b = a
    · subst e; rw [ha] at h; cases h; exact absurd i (imm_fix hi)
    · rw [upd_ne e]; exact h
  refine ⟨fun i w e => ?_, q.len, q.nd, fun n ob e => ?_, q.rl, q.tb.put (fun x hx => by rw [ha] at hx; cases hx; exact hi)⟩
  · obtain ⟨v, h, r⟩ := q.slot i w e
    exact ⟨v, h, r.mono0 kp⟩
  · obtain ⟨b, h, r⟩ := q.obs n ob e
    have hb : b ≠ a := fun z => nm (by rw [← z]; exact List.mem_of_getElem? h)
    have := RO.mono (ext := []) r kp (fun x hx => by rw [upd_ne hb]; exact hx)
    rw [List.append_nil] at this
    exact ⟨b, h, this⟩
theorem Sim.adopt {a : Addr} {ob : Ob} (q : Sim τ K m S ρ σ H) (nm : a ∉ m) (r : RO τ K (m ++ [a]) H a ob) : Sim τ K (m ++ [a]) (S ++ [ob]) ρ σ H := by
  refine ⟨fun i w e => ?_, by simp [q.len], ?_, fun n o e => ?_, q.rl, q.tb⟩
  · obtain ⟨v, h, r⟩ := q.slot i w e
    exact ⟨v, h, r.mono (Kp.refl _)⟩
  · rw [List.nodup_append]
    refine ⟨q.nd, by simp, fun x hx y hy e => ?_⟩
    have ey : y = a := by simpa using hy
    exact nm (by rw [← ey, ← e]; exact hx)
  · by_cases hlt : n < S.length
    · rw [List.getElem?_append_left hlt] at e
      obtain ⟨b, h, r⟩ := q.obs n o e
      refine ⟨b, ?_, RO.mono r (Kp.refl _) (fun _ z => z)⟩
      rw [List.getElem?_append_left (by rw [q.len]; exact hlt)]; exact h
    · have h2 : n < (S ++ [ob]).length := (List.getElem?_eq_some_iff.mp e).1
      have en : n = S.length := by simp at h2; omega
      subst en
      have eo : ob = o := by simpa using e
      subst eo
      refine ⟨a, ?_, r⟩
      rw [List.getElem?_append_right (by rw [q.len]; exact Nat.le_refl _), q.len]; simp
theorem kp_other {a : Addr} {o u : HO} (ha : H a = some u) (hi : ¬ Imm u) : Kp H (upd H a o) := fun b x h i => by
  by_cases e : b = a
  · subst e; rw [ha] at h; cases h; exact absurd i hi
  · rw [upd_ne e]; exact h
theorem fresh_old (f : Fresh ext H1) (k : ∀ a o, H a = some o → H1 a = some o) : Fresh ext H := fun a h => by
  cases e : H a with
  | none => rfl
  | some o =>
    have := k a o e
    rw [f a h] at this; cases this
end
theorem wipe_at (σ : L2.St) : ∀ (vs : List Nat) (i : Nat), (wipe σ vs)[i]? = if i ∈ vs then (σ[i]?).map (fun _ => none) else σ[i]?
  | [], i => by simp [wipe]
  | v :: vs, i => by
    show ((wipe σ vs).set v none)[i]? = _
    by_cases hv : v = i
    · subst hv
      by_cases hl : v < σ.length
      · rw [List.getElem?_set_self (by rw [wipe_length]; exact hl)]
        simp [hl]
      · rw [List.getElem?_eq_none (by rw [List.length_set, wipe_length]; omega), List.getElem?_eq_none (by omega : σ.length ≤ v)]
        simp
    · rw [List.getElem?_set_ne hv, wipe_at σ vs i]
      have : i ≠ v := fun e => hv e.symm
      simp [this]
theorem wipe_twice (σ : L2.St) (vs : List Nat) : wipe (wipe σ vs) vs = wipe σ vs := by
  apply List.ext_getElem?
  intro i
  rw [wipe_at, wipe_at]
  by_cases h : i ∈ vs
  · simp only [h, if_true]
    cases σ[i]? <;> rfl
  · simp only [h, if_false]
def lcL (g : MG) (T : MT) (E : ME) (vs : List Nat) (ρ : DEnv) : List W → Sto → Option (List W × Sto)
  | [], S => some ([], S)
  | w :: ws, S => (g w (wipeD ρ vs) S).bind fun p => (T p.1 p.2).bind fun b => if b.1 = true then (E p.1 b.2).bind fun y => (lcL g T E vs ρ ws y.2).bind fun r => some (y.1 :: r.1, r.2) else lcL g T E vs ρ ws b.2
def mLc (it : MI) (g : MG) (T : MT) (E : ME) (vs : List Nat) (k : List W → Sto → Option (W × Sto)) : ME := fun ρ S => (it ρ S).bind fun p => (lcL g T E vs ρ p.1 p.2).bind fun r => k r.1 r.2
section
variable {K : PySem.W.Frag} {it : MI} {g : MG} {T : MT} {E : ME} {vs : List Nat} {k : List W → Sto → Option (W × Sto)} {σ : L2.St} {H : Hp} {Q : VK}
/-- the core: the list stands at D, outside of the store -/
theorem rd_lc (h : rdE τ K (mLc it g T E vs k) σ H Q) (hk : ∀ ws S w S', k ws S = some (w, S') → ws.length ≤ sizeLine) {Q' : VK}
    (fin : ∀ m S ρ H1 D acc zs w S', Sim τ K m S ρ σ H1 → D ∉ m → H1 D = some (.lst zs) → Paired (RW τ K m H1) zs acc → k acc S = some (w, S') →
      (∀ ext H2 v, D ∉ m → (∀ a ∈ ext, a = D) → Sim τ K (m ++ ext) S' ρ σ H2 → (∀ a o, H1 a = some o → a ≠ D → H2 a = some o) → RW τ K (m ++ ext) H2 v w → Q v H2) → Q' (.ref D) H1) :
    tLc (rdI τ K it) (rdG τ K vs g) (rdT τ K T) (rdE τ K E) vs σ H Q' := by
  obtain ⟨m, S, ρ, w, S', q, e, p⟩ := h
  obtain ⟨⟨ws, S1⟩, e1, e⟩ := Option.bind_eq_some_iff.mp e
  obtain ⟨⟨all, S9⟩, hh2, e3⟩ := Option.bind_eq_some_iff.mp e
  have hlen : all.length ≤ sizeLine := hk _ _ _ _ e3
  refine ⟨m, S, ρ, ws, S1, q, e1, fun ext J H1 f q1 fr yl D hD => ?_⟩
  have p1 := p.at f q1 fr
  clear p fr f q e e1
  generalize m ++ ext = m at *
  have keepD := upd_keeps (o := HO.lst []) hD
  have q2 := q1.same keepD
  have nD := q1.nomem hD
  have kpD : Kp H1 (upd H1 D (.lst [])) := upd_kp hD
  refine ⟨fun i n H' => ∃ e2 S2 acc r zs, n = ws.length - i ∧ i ≤ ws.length ∧ Fresh e2 (upd H1 D (.lst [])) ∧ Sim τ K (m ++ e2) S2 ρ σ H' ∧ Fr m H1 H' ∧ D ∉ m ++ e2 ∧ H' D = some (.lst zs) ∧ Paired (RW τ K (m ++ e2) H') zs acc ∧ lcL g T E vs ρ (ws.drop i) S2 = some (r, S9) ∧ all = acc ++ r,
    ⟨_, [], S1, [], all, [], rfl, Nat.zero_le _, fun _ h => absurd h (by simp), by rwa [List.append_nil], Fr.of keepD, by rwa [List.append_nil], upd_same, .nil, hh2, rfl⟩, ?_⟩
  rintro i n H' ⟨e2, S2, acc, r, zs, rfl, hi, f2, q3, fr2, n2, hzs, pz, e, hall⟩
  have fr2' : Fr m H1 H' := fr2
  have kp2 : Kp H1 H' := fr2'.kp
  have f2o : Fresh e2 H1 := fresh_old f2 keepD
  by_cases hlt : i < ws.length
  · rw [List.drop_eq_getElem_cons hlt] at e
    simp only [lcL] at e
    obtain ⟨⟨ρ3, S3⟩, e3', e⟩ := Option.bind_eq_some_iff.mp e
    obtain ⟨⟨b, S4⟩, e4, e⟩ := Option.bind_eq_some_iff.mp e
    refine .inr ⟨yl.go i H' hlt kp2, fun H4 => ∃ n', n' < ws.length - i ∧ ∃ e2 S2 acc r zs, n' = ws.length - (i + 1) ∧ i + 1 ≤ ws.length ∧ Fresh e2 (upd H1 D (.lst [])) ∧ Sim τ K (m ++ e2) S2 ρ σ H4 ∧ Fr m H1 H4 ∧ D ∉ m ++ e2 ∧ H4 D = some (.lst zs) ∧ Paired (RW τ K (m ++ e2) H4) zs acc ∧ lcL g T E vs ρ (ws.drop (i + 1)) S2 = some (r, S9) ∧ all = acc ++ r, fun H4 z => z, fun x H2 y => ?_⟩
    obtain ⟨kp, rx⟩ := yl.yld i H' x H2 ws[i] (List.getElem?_eq_getElem hlt) kp2 y
    have q4 := q3.same kp
    have base : Fresh e2 (upd H1 D (.lst [])) := f2
    have hD2 : H2 D = some (.lst zs) := kp _ _ hzs
    refine ⟨m ++ e2, S2, wipeD ρ vs, ws[i], ρ3, S3, q4.wipe vs, rx.mono (Kp.refl _), e3', fun ext3 σ3 H3 hw f3 q5 fr3 => ⟨by rw [hw, wipe_twice], ?_⟩⟩
    -- the frame's own slots are as they were
    have simAt : ∀ (ext : List Addr) (S5 : Sto) (ρ5 : DEnv) (σ5 : L2.St) (H5 : Hp), Fresh ext H2 → Sim τ K (m ++ e2 ++ ext) S5 ρ5 σ5 H5 → Fr (m ++ e2) H2 H5 →
        Sim τ K (m ++ (e2 ++ ext)) S5 ρ σ H5 ∧ Fresh (e2 ++ ext) (upd H1 D (.lst [])) ∧ Fr m H1 H5 ∧ D ∉ m ++ (e2 ++ ext) ∧ H5 D = some (.lst zs) ∧ Paired (RW τ K (m ++ (e2 ++ ext)) H5) zs acc := fun ext S5 ρ5 σ5 H5 f5 q6 fr5 => by
      have k5 : Kp H' H5 := (fun a o h i => fr5.st a o (kp a o h) (.inr i) (imm_tbl i))
      have nde : D ∉ ext := fun z => by rw [f5 D z] at hD2; cases hD2
      refine ⟨⟨fun j w' ej => ?_, by rw [← List.append_assoc]; exact q6.len, by rw [← List.append_assoc]; exact q6.nd, by rw [← List.append_assoc]; exact q6.obs, q3.rl, q6.tb⟩, ?_, (fr2.post kp).trans f2o fr5, ?_, ?_, ?_⟩
      · obtain ⟨v, hv, rv⟩ := q3.slot j w' ej
        refine ⟨v, hv, ?_⟩
        rw [← List.append_assoc]
        exact rv.mono k5
      · intro a ha
        rcases List.mem_append.mp ha with z | z
        · exact f2 a z
        · have h2 := f5 a z
          have nD' : a ≠ D := fun w => nde (w ▸ z)
          rw [upd_ne nD']
          exact fr2.no a (none_old kp h2)
      · intro z
        rcases List.mem_append.mp z with z | z
        · exact n2 (List.mem_append_left _ z)
        · rcases List.mem_append.mp z with z | z
          · exact n2 (List.mem_append_right _ z)
          · exact nde z
      · exact fr5.st D _ hD2 (.inl n2) (fun _ z => nomatch z)
      · rw [← List.append_assoc]
        exact pRW.mono pz k5
    refine ⟨_, S3, ρ3, b, S4, q5, e4, fun ext4 H4 f4 q6 fr4 => ?_⟩
    have ff : Fresh (ext3 ++ ext4) H2 := f3.append fr3 q5 f4
    have fr24 : Fr (m ++ e2) H2 H4 := fr3.trans f3 fr4
    cases b with
    | false =>
      simp only [Bool.false_eq_true, if_false] at e ⊢
      obtain ⟨s1, s2, s3, s4, s5, s6⟩ := simAt (ext3 ++ ext4) S4 _ _ H4 ff (by rwa [← List.append_assoc]) fr24
      exact ⟨_, by omega, _, S4, acc, r, zs, rfl, hlt, s2, s1, s3, s4, s5, s6, e, hall⟩
    | true =>
      simp only [if_true] at e ⊢
      obtain ⟨⟨y, S5⟩, e5, e⟩ := Option.bind_eq_some_iff.mp e
      obtain ⟨⟨r', S6⟩, e6, e7⟩ := Option.bind_eq_some_iff.mp e
      cases e7
      refine ⟨_, S4, ρ3, y, S5, q6, e5, fun ext5 H5 yv f5 q7 fr5 ry => ?_⟩
      have ff5 : Fresh (ext3 ++ ext4 ++ ext5) H2 := ff.append fr24 (by rwa [← List.append_assoc]) f5
      have fr25 : Fr (m ++ e2) H2 H5 := fr24.trans ff (by rwa [← List.append_assoc])
      obtain ⟨s1, s2, s3, s4, s5, s6⟩ := simAt (ext3 ++ ext4 ++ ext5) S5 _ _ H5 ff5 (by rw [← List.append_assoc, ← List.append_assoc]; exact q7) fr25
      have hacc : acc.length < sizeLine := by
        have : all.length = acc.length + (r'.length + 1) := by rw [hall, List.length_append, List.length_cons]
        omega
      refine ⟨zs, s5, by rw [s6.length]; exact hacc, _, by omega, _, S5, acc ++ [y], r', zs ++ [yv], rfl, hlt, s2, s1.other s4 s5 (fun z => z), s3.updo hD, s4, upd_same, ?_, e6, by rw [hall, List.append_assoc]; rfl⟩
      · have kk : Kp H5 (upd H5 D (.lst (zs ++ [yv]))) := kp_other s5 fun z => z
        refine paired_app (Paired.mapP s6 fun _ _ z => z.mono0 kk) (.cons ?_ .nil)
        have := ry.mono0 kk
        rwa [show m ++ e2 ++ ext3 ++ ext4 ++ ext5 = m ++ (e2 ++ (ext3 ++ ext4 ++ ext5)) by simp] at this
  · have ei : i = ws.length := by omega
    subst ei
    rw [List.drop_length] at e
    cases e
    rw [List.append_nil] at hall
    subst hall
    refine .inl ⟨yl.stop H' kp2, fin (m ++ e2) S9 ρ H' D all zs w S' q3 n2 hzs pz e3 fun ext H2 v _ hext q9 k9 r9 => ?_⟩
    have dext : Fresh (e2 ++ ext) H1 := fun a ha => by
      rcases List.mem_append.mp ha with z | z
      · exact f2o a z
      · rw [hext a z]; exact hD
    refine p1 (e2 ++ ext) H2 v dext (by rwa [← List.append_assoc]) (fr2.postD hD k9) (by rwa [← List.append_assoc])
/-- the list locked -/
def kFrz : List W → Sto → Option (W × Sto) := fun ws S => (allD ws).bind fun ds => if ds.length ≤ sizeLine then some (.d (.list ds), S) else none
def kBox : List W → Sto → Option (W × Sto) := fun ws S => if ws.length ≤ sizeLine then some (.loc S.length, S ++ [.lst ws]) else none
theorem allD_len : ∀ {ws : List W} {ds : List PyData}, allD ws = some ds → ds.length = ws.length
  | [], _, e => by cases e; rfl
  | .d x :: ws, ds, e => by
    simp only [allD, Option.map_eq_some_iff] at e
    obtain ⟨es, e1, rfl⟩ := e
    simp [allD_len e1]
  | .loc _ :: _, _, e => by cases e
theorem kFrz_len {ws : List W} {S S' : Sto} {w : W} (h : kFrz ws S = some (w, S')) : ws.length ≤ sizeLine := by
  obtain ⟨ds, e1, e2⟩ := Option.bind_eq_some_iff.mp h
  split at e2
  · rw [← allD_len e1]; assumption
  · cases e2
theorem rd_lcF (h : rdE τ K (mLc it g T E vs kFrz) σ H Q) : tLc (rdI τ K it) (rdG τ K vs g) (rdT τ K T) (rdE τ K E) vs σ H (Lk Q) :=
  rd_lc h (fun _ _ _ _ => kFrz_len) fun m S ρ H1 D acc zs w S' q nD hD pz e p => by
    obtain ⟨ds, e1, e2⟩ := Option.bind_eq_some_iff.mp e
    split at e2
    · cases e2
      refine ⟨D, zs, rfl, hD, fun o => ?_⟩
      have k : Kp H1 (upd H1 D (.frz o (.lst zs))) := kp_other hD fun z => z
      refine p [] _ _ nD (fun _ h => absurd h (by simp)) (by rw [List.append_nil]; exact q.other nD hD fun z => z) (fun a o h n => by rw [upd_ne n]; exact h) ?_
      exact Rp.lst (.inl ⟨o, upd_same⟩) (RpAll.mono k _ _ (allD_of e1 pz))
    · cases e2
end
section
variable {X : Cx} {elt tg iter : Expr} {ifs : List Expr} {scope : Scope} {own : List (Str × Nat)} {pos spos py : Pos} {it : MI} {g : MG} {T : MT} {E : ME}
def tTrue : MT := fun _ S => some (true, S)
theorem dts_nil : PTs X [] (rdT τ X.K tTrue) := ⟨fun p s σ H Q I q => pts_nil.run p s σ H Q I (by
  obtain ⟨m, S, ρ, b, S', q, e, p⟩ := q
  cases e
  exact p.now q)⟩
theorem dts_one {c : Expr} (h : PT X c (rdT τ X.K T)) : PTs X [c] (rdT τ X.K T) := pts_one h
theorem de_lc (hc : X.calm = true) (hN : X.N.Nodup) (hi : PI X tg iter (rdI τ X.K it)) (ok : BlkOk X.N X.env.scope scope own)
    (hg : ∀ (s : Shared) (H : Hp) (C : Addr) (cl : List (Str × Addr)) (fp : List Addr), PG (X.blk s H scope (compEnvC scope cl C X.env) fp) tg (rdG τ X.K (own.map (·.2)) g)) (ht : ∀ (s : Shared) (H : Hp) (C : Addr) (cl : List (Str × Addr)) (fp : List Addr), PTs (X.blk s H scope (compEnvC scope cl C X.env) fp) ifs (rdT τ X.K T))
    (he : ∀ (s : Shared) (H : Hp) (C : Addr) (cl : List (Str × Addr)) (fp : List Addr), PE (X.blk s H scope (compEnvC scope cl C X.env) fp) elt (rdE τ X.K E)) (hs : ∀ x, foldedSetIterable iter X.env x = pure x := by intro _; rfl) :
    PE X (.ListComp elt [⟨tg, iter, ifs, 0⟩] scope pos) (rdE τ X.K (mLc it g T E (own.map (·.2)) kFrz)) := wkE (peFrz (pe_lc hc hN hi ok hg ht he hs)) fun σ H Q q => rd_lcF q
end
end DL
end
noncomputable section
namespace DL
open PySem PySem.Spec PyProof.Rows L2
/-- a def as a function of data: the arguments, the objects that they point to -/
abbrev FS := List W → Sto → Option (W × Sto)
def spD (τ : Tbs) (K : PySem.W.Frag) (n : Nat) (f : FS) : Sp := fun vs H Q _ =>
  ∃ m S ws w S', Sim τ K m S [] [] H ∧ Paired (RW τ K m H) vs ws ∧ ws.length = n ∧ f ws S = some (w, S') ∧ Post τ K m S' [] [] H w Q
/-- a def's promise where no guard is up -/
structure FnG (P : Program) (w : World) (K : PySem.W.Frag) (mg : Str → Option Value) (base : Heap) (k : Nat) (f : Addr) (fd : FuncData) (ps : List Str) (sp : Sp) : Prop where
  len : ∀ vs H Q E, sp vs H Q E → vs.length = ps.length
  run : ∀ (A : Around) (outer : List Env) (s : Shared) (H : Hp) (args : Args) (us : List Value) (vs : List V) (Q : VK) (E : XK), Room k A → A.guards = some [] → Env0 P w K mg base A outer s H → BindsTo s fd args (ps.zip us) → Vals vs us → sp vs H Q E →
    codeAny (model P w) A (.call (.ref f) args) (CR CX0 outer P w H s Q E) s
def obD : Ob → Bool
  | .lst ws => (allD ws).isSome
  | .dicK kvs => (allD (kvs.map (·.2))).isSome
  | .dicT kvs => (allD (kvs.map (·.2))).isSome
  | .dicN _ => true
  | .dead => true
def wD : W → Bool
  | .d _ => true
  | .loc _ => false
  | .fn => false
theorem allD_wD : ∀ {ws : List W}, (allD ws).isSome = true → ∀ w ∈ ws, wD w = true
  | [], _, w, h => by simp at h
  | .d x :: ws, e, w, h => by
    simp only [allD, Option.isSome_map] at e
    rcases List.mem_cons.mp h with z | z
    · rw [z]; rfl
    · exact allD_wD e w z
  | .loc _ :: _, e, _, _ => by cases e
  | .fn :: _, e, _, _ => by cases e
theorem RW.anyM {K : PySem.W.Frag} {m m2 : List Addr} {H : Hp} {v : V} {w : W} (h : wD w = true) (r : RW τ K m H v w) : RW τ K m2 H v w := by
  cases w with
  | d x => exact r
  | loc n => cases h
  | fn => exact r
theorem paired_anyM {K : PySem.W.Frag} {m m2 : List Addr} {H : Hp} : ∀ {vs : List V} {ws : List W}, (∀ w ∈ ws, wD w = true) → Paired (RW τ K m H) vs ws → Paired (RW τ K m2 H) vs ws
  | _, _, _, .nil => .nil
  | _, _, h, .cons r t => .cons (r.anyM (h _ (by simp))) (paired_anyM (fun w hw => h w (by simp [hw])) t)
theorem pairedK_anyM {κ : Type} {K : PySem.W.Frag} {m m2 : List Addr} {H : Hp} : ∀ {vs : List (κ × V)} {ws : List (κ × W)}, (∀ w ∈ ws.map (·.2), wD w = true) → Paired (fun p q => p.1 = q.1 ∧ RW τ K m H p.2 q.2) vs ws → Paired (fun p q => p.1 = q.1 ∧ RW τ K m2 H p.2 q.2) vs ws
  | _, _, _, .nil => .nil
  | _, _, h, .cons r t => .cons ⟨r.1, r.2.anyM (h _ (by simp))⟩ (pairedK_anyM (fun w hw => h w (by simp at hw ⊢; exact .inr hw)) t)
theorem RO.anyM {K : PySem.W.Frag} {m m2 : List Addr} {H : Hp} {a : Addr} {ob : Ob} (h : obD ob = true) (r : RO τ K m H a ob) : RO τ K m2 H a ob := by
  cases ob with
  | lst ws => obtain ⟨vs, e, p⟩ := r; exact ⟨vs, e, paired_anyM (allD_wD h) p⟩
  | dicK kvs => obtain ⟨vs, e, p⟩ := r; exact ⟨vs, e, pairedK_anyM (allD_wD h) p⟩
  | dicT kvs => obtain ⟨vs, e, p⟩ := r; exact ⟨vs, e, pairedK_anyM (allD_wD h) p⟩
  | dicN kvs => exact r
  | dead => exact r
/-- what leaves a body: the value, the first n objects, and a new one if the value is it -/
def leave (n : Nat) (w : W) (S : Sto) : Option (W × Sto) :=
  if (S.take n).all obD = true then match w with
    | .d x => some (.d x, S.take n)
    | .loc j => match S[j]? with
      | some ob => if n ≤ j ∧ obD ob = true then some (.loc n, S.take n ++ [ob]) else none
      | none => none
    | .fn => none
  else none
def runF (N : Nat) (b : MS) : FS := fun ws S => (b (ws.map some ++ List.replicate (N - ws.length) none) S).bind fun p => match p.1 with
  | .nx => leave S.length (.d .none) p.2.2
  | .rt w => leave S.length w p.2.2
  | _ => none
section
variable {K : PySem.W.Frag} {H H' : Hp} {m ext : List Addr} {S S1 S' : Sto} {ρ : DEnv} {σ : L2.St} {w w' : W} {Q : VK}
theorem sim_take (q : Sim τ K (m ++ ext) S1 ρ σ H') (hl : m.length = S.length) (h : (S1.take S.length).all obD = true) : Sim τ K m (S1.take S.length) [] [] H' := by
  have l1 : m.length + ext.length = S1.length := by have := q.len; rwa [List.length_append] at this
  refine ⟨fun i w e => by simp at e, by rw [List.length_take]; omega, (List.nodup_append.mp q.nd).1, fun n ob e => ?_, Nat.le_refl _, q.tb⟩
  have hn : n < (S1.take S.length).length := (List.getElem?_eq_some_iff.mp e).1
  rw [List.length_take] at hn
  have e' : S1[n]? = some ob := by rw [List.getElem?_take_of_lt (by omega)] at e; exact e
  obtain ⟨a, ha, r⟩ := q.obs n ob e'
  rw [List.getElem?_append_left (by omega)] at ha
  exact ⟨a, ha, r.anyM (List.all_eq_true.mp h ob (List.mem_of_getElem? e))⟩
theorem leave_ok (q0 : Sim τ K m S [] [] H) (p : Post τ K m S' [] [] H w' Q) (hf : Fresh ext H) (q : Sim τ K (m ++ ext) S1 ρ σ H') (fr : Fr m H H') (e : leave S.length w S1 = some (w', S')) {v : V} (r : RW τ K (m ++ ext) H' v w) : Q v H' := by
  unfold leave at e
  split at e
  · rename_i hd
    have q1 := sim_take q q0.len hd
    split at e
    · cases e
      exact p [] H' v (fun _ h => absurd h (by simp)) (by rwa [List.append_nil]) fr (RW.anyM (m := m ++ ext) rfl r)
    · rename_i j
      split at e
      · rename_i ob hj
        split at e
        · rename_i hob
          cases e
          obtain ⟨a, ha, rfl⟩ := r
          obtain ⟨a2, ha2, ro⟩ := q.obs j ob hj
          rw [ha] at ha2; cases ha2
          have hlen := q0.len
          have hae : ext[j - m.length]? = some a := by
            rw [List.getElem?_append_right (by omega)] at ha
            exact ha
          have am : a ∈ ext := List.mem_of_getElem? hae
          have nm : a ∉ m := fun z => (List.nodup_append.mp q.nd).2.2 a z a am rfl
          refine p [a] H' _ (fun b hb => by simp at hb; subst hb; exact hf _ am) (q1.adopt nm (ro.anyM hob.2)) fr ⟨a, ?_, rfl⟩
          rw [← q0.len, List.getElem?_append_right (Nat.le_refl _)]; simp
        · cases e
      · cases e
    · cases e
  · cases e
end
section
variable {P : Program} {w : World} {K : PySem.W.Frag} {mg : Str → Option Value} {base : Heap}
/-- a def keeps the promise of its body's function, its code object named -/
theorem fnGcd {x qual : Str} {st : Stmt} {f : Addr} {N ps : List Str} {k : Nat} {b : MS} {kV doc pm ct oc cdv : Value} {an od : Option Addr} {osl : Array (Option Value)} (lk : K.lookup f = some ⟨oc, od, .func (PySem.W.fnOf x qual (defArgs st) (defBody st) (defScope st) .none kV doc pm an cdv ct), osl⟩) (hcd : PySem.W.codeIn K cdv qual = true) (sc : FnScope N ps (defScope st))
    (body : ∀ (A : Around) (outer : List Env) (s : Shared) (H : Hp) (E : XK), Room k (A.deeper (envOfC qual (defScope st) s.heap.objs.size f cdv)) → (A.deeper (envOfC qual (defScope st) s.heap.objs.size f cdv)).guards = some [] →
      PSs (cxOf CX0 P w K mg base N qual (defScope st) f cdv A outer s H E).nox (defBody st) (rdS τ K b)) : FnG P w K mg base (k + 1) f (PySem.W.fnOf x qual (defArgs st) (defBody st) (defScope st) .none kV doc pm an cdv ct) ps (spD τ K ps.length (runF N.length b)) := by
  have plen : ∀ vs H Q E, spD τ K ps.length (runF N.length b) vs H Q E → vs.length = ps.length := fun vs H Q E ⟨_, _, ws, _, _, _, r, hl, _⟩ => r.length.trans hl
  refine ⟨plen, ?_⟩
  intro A outer s H args us vs Q E room hgd e0 bind rel want
  have argl := plen _ _ _ _ want
  have inK : K.In s.heap := e0.mod.kin.keeps fun z o e => (e0.bs z o e).1
  have nolim : s.heap.NoLimit := e0.mod.nolimit.keeps fun z o e => (e0.bs z o e).1
  have kinds : ∀ y ∈ ps.zip us, (defScope st).names.lookup y.1 = some .local ∨ ((defScope st).names.lookup y.1 = some .cell ∧ ((cellsFrom (s.heap.objs.size + 1) (defScope st).names []).lookup y.1).isSome = true) := by
    rintro ⟨n, z⟩ hy
    rcases sc.par n (List.of_mem_zip hy).1 with c | c
    · exact Or.inl c
    · exact Or.inr ⟨c, PySem.W.cellsFrom_some _ _ _ (Or.inl c)⟩
  refine codeAny_call_function room.depth (inK _ _ lk) rfl sc.co sc.gen rfl (PySem.W.codeRec_of inK hcd) (bind _ _ _ _ (wpAny_newFunctionEnv_cells sc.kind kinds fun env ee s1 made => ?_))
  subst ee
  refine ⟨nolim.keeps made.toInCall.keep, codeAny_func ?_⟩
  have I0 : Inv (cxOf CX0 P w K mg base N qual (defScope st) f cdv A outer s H E) [] (start N vs) H s1 := inv_start sc room.hd e0 argl rel made
  have run := ((body A outer s H E (room.deeper _) hgd).nox).run [] s1 (start N vs) H { nx := fun _ H' => Q .non H', rt := Q } I0 (by
    obtain ⟨m, S, ws, w0, S', q0, pr, hl, e, p⟩ := want
    obtain ⟨⟨fl, ρ', S1⟩, e1, e2⟩ := Option.bind_eq_some_iff.mp e
    have npl : ps.length ≤ N.length := by
      have := congrArg List.length sc.pre
      rw [List.length_take] at this
      omega
    have vl := pr.length
    refine ⟨m, S, _, fl, ρ', S1, ⟨fun i w' ei => ?_, q0.len, q0.nd, q0.obs, ?_, q0.tb⟩, e1, fun ext σ' H' hf q fr => ?_⟩
    · by_cases hi : i < ws.length
      · rw [List.getElem?_append_left (by simpa using hi), List.getElem?_map] at ei
        obtain ⟨w2, h2, h3⟩ := Option.map_eq_some_iff.mp ei
        cases h3
        obtain ⟨v, hv, rv⟩ := paired_getR pr h2
        refine ⟨v, ?_, rv⟩
        unfold L2.start
        rw [List.getElem?_append_left (by rw [List.length_map]; omega), List.getElem?_map, hv]; rfl
      · rw [List.getElem?_append_right (by simpa using Nat.le_of_not_lt hi), List.getElem?_replicate] at ei
        split at ei <;> cases ei
    · unfold L2.start
      simp only [List.length_append, List.length_map, List.length_replicate]
      omega
    · cases fl with
      | nx => exact leave_ok q0 p hf q fr e2 (v := .non) .non
      | rt w2 => exact fun v r => leave_ok q0 p hf q fr e2 r
      | bk => cases e2
      | ct => cases e2)
  refine wpAny_mono run (fun fl s' hs => ?_) fun e s' hs => hs
  cases fl with
  | ret u =>
    obtain ⟨v, σ', H', J, rv, q⟩ := hs
    exact ⟨v, H', J.os, J.bare, J.base, J.hok, rv, q⟩
  | next =>
    obtain ⟨σ', H', J, q⟩ := hs
    exact ⟨.non, H', J.os, J.bare, J.base, J.hok, rfl, q⟩
  | brk => obtain ⟨_, _, _, q⟩ := hs; exact False.elim q
  | cont => obtain ⟨_, _, _, q⟩ := hs; exact False.elim q
/-- a def keeps the promise of its body's function -/
theorem fnG {x qual : Str} {st : Stmt} {f : Addr} {fd : FuncData} {N ps : List Str} {k : Nat} {b : MS} (F : Fun K x qual st f fd) (sc : FnScope N ps (defScope st))
    (body : ∀ (cdv : Value) (A : Around) (outer : List Env) (s : Shared) (H : Hp) (E : XK), Room k (A.deeper (envOfC qual (defScope st) s.heap.objs.size f cdv)) → (A.deeper (envOfC qual (defScope st) s.heap.objs.size f cdv)).guards = some [] →
      PSs (cxOf CX0 P w K mg base N qual (defScope st) f cdv A outer s H E).nox (defBody st) (rdS τ K b)) : FnG P w K mg base (k + 1) f fd ps (spD τ K ps.length (runF N.length b)) := by
  obtain ⟨oc, od, kV, doc, pm, an, cdv, ct, osl, rfl, lk, hcd⟩ := F.ex
  exact fnGcd lk hcd sc (body cdv)
end
def firstLoc : List W → Option Nat
  | [] => none
  | .loc n :: _ => some n
  | .d _ :: ws => firstLoc ws
  | .fn :: ws => firstLoc ws
def allLoc (n : Nat) : List W → Bool
  | [] => true
  | .loc j :: ws => j == n && allLoc n ws
  | .d _ :: ws => allLoc n ws
  | .fn :: ws => allLoc n ws
def toZero : W → W
  | .d x => .d x
  | .loc _ => .loc 0
  | .fn => .fn
def callF (f : FS) : List W → Sto → Option (W × Sto) := fun ws S => match firstLoc ws with
  | none => (f ws []).bind fun r => match r.1, r.2 with
    | .d x, [] => some (.d x, S)
    | .loc 0, [ob] => if obD ob = true then some (.loc S.length, S ++ [ob]) else none
    | _, _ => none
  | some n => if allLoc n ws = true then match S[n]? with
    | some ob => if obD ob = true then (f (ws.map toZero) [ob]).bind fun r => match r.1, r.2 with
      | .d x, [ob'] => if obD ob' = true then some (.d x, S.set n ob') else none
      | .loc 1, [ob', ob2] => if obD ob' = true ∧ obD ob2 = true then some (.loc S.length, S.set n ob' ++ [ob2]) else none
      | _, _ => none
      else none
    | none => none
    else none
section
variable {K : PySem.W.Frag} {H H1 H' : Hp} {m ext : List Addr} {S S1 S' : Sto} {ρ : DEnv} {σ : L2.St} {w w' : W} {Q : VK}
theorem noLoc_anyM : ∀ {ws : List W} {vs : List V} {m m2 : List Addr}, firstLoc ws = none → Paired (RW τ K m H) vs ws → Paired (RW τ K m2 H) vs ws
  | [], _, _, _, _, .nil => .nil
  | .d x :: ws, _, _, _, h, .cons r t => .cons r (noLoc_anyM h t)
  | .loc _ :: _, _, _, _, h, _ => by cases h
  | .fn :: ws, _, _, _, h, .cons r t => .cons r (noLoc_anyM h t)
theorem oneLoc {a : Addr} : ∀ {ws : List W} {vs : List V} {n : Nat}, m[n]? = some a → allLoc n ws = true → Paired (RW τ K m H) vs ws → Paired (RW τ K [a] H) vs (ws.map toZero)
  | [], _, _, _, _, .nil => .nil
  | .d x :: ws, _, _, ha, h, .cons r t => .cons r (oneLoc ha h t)
  | .fn :: ws, _, _, ha, h, .cons r t => .cons r (oneLoc ha h t)
  | .loc j :: ws, _, n, ha, h, .cons r t => by
    simp only [allLoc, Bool.and_eq_true, beq_iff_eq] at h
    refine .cons ?_ (oneLoc ha h.2 t)
    obtain ⟨b, hb, e⟩ := r
    rw [h.1, ha] at hb; cases hb
    exact ⟨a, rfl, e⟩
theorem RO.there {a : Addr} {ob : Ob} (r : RO τ K m H a ob) : ∃ o, H a = some o := by
  cases ob with
  | lst ws => obtain ⟨vs, h, _⟩ := r; exact ⟨_, h⟩
  | dicK ws => obtain ⟨vs, h, _⟩ := r; exact ⟨_, h⟩
  | dicT ws => obtain ⟨vs, h, _⟩ := r; exact ⟨_, h⟩
  | dicN ws => obtain ⟨vs, h, _⟩ := r; exact ⟨_, h⟩
  | dead => exact r
theorem Fr.comp {H0 : Hp} (f : Fr m H0 H) (g : Fr m H H') : Fr m H0 H' := ⟨fun a o h c nt => g.st a o (f.st a o h c nt) c nt, fun a h => f.no a (g.no a h)⟩
theorem Fr.wk (f : Fr [] H H') : Fr m H H' := ⟨fun a o h _ nt => f.st a o h (.inl (by simp)) nt, f.no⟩
/-- the store behind a call that has changed nothing -/
theorem Sim.call (q : Sim τ K m S ρ σ H) (f : Fr [] H H') (t : TabsM τ K H') : Sim τ K m S ρ σ H' := by
  have kp : Kp H H' := f.kp
  refine ⟨fun i w e => ?_, q.len, q.nd, fun j ob2 e => ?_, q.rl, t⟩
  · obtain ⟨v, h, r⟩ := q.slot i w e
    exact ⟨v, h, r.mono0 kp⟩
  · obtain ⟨b, h, r'⟩ := q.obs j ob2 e
    refine ⟨b, h, ?_⟩
    have := RO.monoT (ext := []) r' kp (fun u hu nt => f.st b u hu (.inl (by simp)) nt) (f.no b)
    rw [List.append_nil] at this
    exact this
/-- the store behind a call that may have changed the n-th object -/
theorem Sim.after {a : Addr} {n : Nat} {ob' : Ob} {m2 : List Addr} (q : Sim τ K m S ρ σ H) (ha : m[n]? = some a) (hn : n < S.length) (k : Fr [a] H H') (t : TabsM τ K H') (r : RO τ K m2 H' a ob') (hd : obD ob' = true) : Sim τ K m (S.set n ob') ρ σ H' := by
  have kp : Kp H H' := k.kp
  refine ⟨fun i w e => ?_, by simp [q.len], q.nd, fun j ob2 e => ?_, q.rl, t⟩
  · obtain ⟨v, h, r⟩ := q.slot i w e
    exact ⟨v, h, r.mono0 kp⟩
  · by_cases hj : j = n
    · subst hj
      rw [List.getElem?_set_self hn] at e
      cases e
      exact ⟨a, ha, r.anyM hd⟩
    · rw [List.getElem?_set_ne (Ne.symm hj)] at e
      obtain ⟨b, h, r'⟩ := q.obs j ob2 e
      refine ⟨b, h, ?_⟩
      have hb : b ≠ a := fun z => by
        subst z
        obtain ⟨h1, e1⟩ := List.getElem?_eq_some_iff.mp h
        obtain ⟨h2, e2⟩ := List.getElem?_eq_some_iff.mp ha
        exact hj ((List.getElem_inj q.nd).mp (e1.trans e2.symm))
      have := RO.monoT (ext := []) r' kp (fun u hu nt => k.st b u hu (.inl (by simpa using hb)) nt) (k.no b)
      rw [List.append_nil] at this
      exact this
theorem callF_sp {f : FS} {ws : List W} {vs : List V} {E : XK} (q : Sim τ K m S ρ σ H) (pr : Paired (RW τ K m H) vs ws) (e : callF f ws S = some (w, S')) (p : Post τ K m S' ρ σ H w Q) : spD τ K ws.length f vs H Q E := by
  unfold callF at e
  split at e
  · rename_i hnl
    obtain ⟨⟨w1, S1⟩, e1, e2⟩ := Option.bind_eq_some_iff.mp e
    refine ⟨[], [], ws, w1, S1, ⟨fun i w h => by simp at h, rfl, by simp, fun n ob h => by simp at h, Nat.le_refl _, q.tb⟩, noLoc_anyM hnl pr, rfl, e1, fun ext H' v hf q1 fr r => ?_⟩
    simp only at e2
    split at e2
    · cases e2
      exact p [] H' v (fun _ h => absurd h (by simp)) (by rw [List.append_nil]; exact q.call fr q1.tb) fr.wk (by rw [List.append_nil]; exact RW.anyM (m := [] ++ ext) rfl r)
    · rename_i _ _ ob
      split at e2
      · rename_i hob
        cases e2
        obtain ⟨a, ha, rfl⟩ := r
        obtain ⟨a2, ha2, ro⟩ := q1.obs 0 ob rfl
        rw [ha] at ha2; cases ha2
        have am : a ∈ ext := by
          rw [List.nil_append] at ha
          exact List.mem_of_getElem? ha
        have nm : a ∉ m := q.nomem (hf a am)
        refine p [a] H' _ (fun b hb => by simp at hb; subst hb; exact hf _ am) ((q.call fr q1.tb).adopt nm (ro.anyM hob)) fr.wk ⟨a, ?_, rfl⟩
        rw [← q.len, List.getElem?_append_right (Nat.le_refl _)]; simp
      · cases e2
    · cases e2
  · rename_i n hfl
    split at e
    · rename_i hal
      split at e
      · rename_i ob hob
        split at e
        · rename_i hod
          obtain ⟨⟨w1, S1⟩, e1, e2⟩ := Option.bind_eq_some_iff.mp e
          obtain ⟨a, ha, ro⟩ := q.obs n ob hob
          have hn : n < S.length := (List.getElem?_eq_some_iff.mp hob).1
          refine ⟨[a], [ob], ws.map toZero, w1, S1, ⟨fun i w h => by simp at h, rfl, by simp, fun j o h => ?_, Nat.le_refl _, q.tb⟩, oneLoc ha hal pr, by simp, e1, fun ext H' v hf q1 fr r => ?_⟩
          · cases j with
            | zero =>
              have : ob = o := by simpa using h
              subst this
              exact ⟨a, rfl, ro.anyM hod⟩
            | succ j => simp at h
          have hfm : Fr m H H' := ⟨fun b o h c nt => fr.st b o h (by
            rcases c with c | c
            · exact .inl fun z => c (by simp at z; rw [z]; exact List.mem_of_getElem? ha)
            · exact .inr c) nt, fr.no⟩
          simp only at e2
          split at e2
          · rename_i _ _ _ ob'
            split at e2
            · rename_i hd'
              cases e2
              obtain ⟨b, hb, ro'⟩ := q1.obs 0 ob' rfl
              simp only [List.cons_append, List.getElem?_cons_zero, Option.some.injEq] at hb
              subst hb
              have q2 := q.after ha hn fr q1.tb ro' hd'
              exact p [] H' v (fun _ h => absurd h (by simp)) (by rwa [List.append_nil]) hfm (RW.anyM (m := [a] ++ ext) rfl r)
            · cases e2
          · rename_i _ _ ob' ob2
            split at e2
            · rename_i hd'
              cases e2
              obtain ⟨b, hb, ro'⟩ := q1.obs 0 ob' rfl
              simp only [List.cons_append, List.getElem?_cons_zero, Option.some.injEq] at hb
              subst hb
              obtain ⟨c, hc, ro2⟩ := q1.obs 1 ob2 rfl
              obtain ⟨c2, hc2, rfl⟩ := r
              rw [hc] at hc2; cases hc2
              have cm : c ∈ ext := by
                simp only [List.cons_append, List.nil_append, List.getElem?_cons_succ] at hc
                exact List.mem_of_getElem? hc
              have q2 := q.after ha hn fr q1.tb ro' hd'.1
              have nm : c ∉ m := q.nomem (hf c cm)
              refine p [c] H' _ (fun b hb => by simp at hb; subst hb; exact hf _ cm) (q2.adopt nm (ro2.anyM hd'.2)) hfm ⟨c, ?_, rfl⟩
              have : (S.set n ob').length = m.length := by rw [List.length_set, q.len]
              rw [← q.len, List.getElem?_append_right (Nat.le_refl _)]; simp
            · cases e2
          · cases e2
        · cases e
      · cases e
    · cases e
end
section
variable {X : Cx} {k : Nat} {f : Addr} {fd : FuncData} {ps : List Str} {fs : FS} {x : Str} {p pos : Pos} {e : Expr} {es : List Expr} {R : MA} {A : ME}
theorem runG {sp : Sp} {pins : List (Addr × Obj)} {σ : L2.St} {H : Hp} {s : Shared} {Q : VK} {us : List Value} {vs : List V} {E : XK} (F : FnG X.prog X.w X.K X.mg X.base k f fd ps sp) (room : Room k X.A) (hgd : X.A.guards = some []) (hb : Binds X.K fd ps [])
    (I : Inv X pins σ H s) (r : Vals vs us) (h : sp vs H Q E) : wpAny (model X.prog X.w) X.A (call (.ref f) us) (EP X pins σ Q) X.xe s := by
  have ll : us.length = ps.length := by rw [← r.length]; exact F.len _ _ _ _ h
  have bb := hb s us I.kIn (by rw [List.append_nil]; exact ll)
  rw [List.append_nil] at bb
  refine wpAny_call (codeAny_mono (F.run X.A X.stack s H ⟨us, []⟩ us vs Q E room hgd I.env0 bb r h) fun r s' hq => ?_)
  cases r with
  | error e => exact False.elim hq
  | ok fl =>
    cases fl with
    | ret u => exact I.after hq
    | next => exact hq.elim
    | brk => exact hq.elim
    | cont => exact hq.elim
theorem de_call (F : FnG X.prog X.w X.K X.mg X.base k f fd ps (spD τ X.K ps.length fs)) (room : Room k X.A) (hgd : X.A.guards = some []) (hg : Gl X x) (hm : X.mg x = some (.ref f)) (hk : PySem.W.keepIn X.K (.ref f) = true) (hb : Binds X.K fd ps [])
    (ha : PA X (e :: es) (rdA τ X.K R)) (hps : ps.length = (e :: es).length) (hR : ∀ ρ S ws S', R ρ S = some (ws, S') → ws.length = (e :: es).length) (hdb : (x == ("__debug__" : Str)) = false := by decide) (he : starEach (e :: es) X.env = (false, eval e X.env) :: starEach es X.env := by rfl) (hpl : (backTo pos (starEach es X.env)).any (·.1) = false := by rfl) :
    PE X (.Call (.Name x p) (e :: es) [] pos) (rdE τ X.K (mCall (callF fs) R)) := by
  refine ⟨fun pins s σ H Q I h => ?_⟩
  refine wpAny_Call_Name_kw (ld_glob I hg hm ?_ hdb)
  have h2 : rdA τ X.K R σ H fun vs H1 => spD τ X.K ps.length fs vs H1 Q (fun _ _ _ => False) := by
    obtain ⟨m, S, ρ, w, S', q, e, p⟩ := h
    obtain ⟨⟨ws, S1⟩, e1, e2⟩ := Option.bind_eq_some_iff.mp e
    refine ⟨m, S, ρ, ws, S1, q, e1, fun ext H1 vs f q1 fr r => ?_⟩
    have := callF_sp (E := fun _ _ _ => False) q1 r e2 (p.at f q1 fr)
    rwa [hR _ _ _ _ e1, ← hps] at this
  exact PySem.W.callWith_K (h₀ := X.base) I.ok.mod.kin hk (thn (ha.run pos pins s σ H _ I h2) fun us s1 ⟨vs, H1, I1, r, q⟩ => ⟨I1.kIn, runG F room hgd hb I1 r q⟩) he hpl
/-- a list that nobody else will change: locked -/
def mFrz (A : ME) : ME := fun ρ S => (A ρ S).bind fun p => match p.1 with
  | .loc j => match p.2[j]? with
    | some (.lst ws) => (allD ws).map fun ds => (.d (.list ds), p.2.set j .dead)
    | _ => none
  | .d _ => none
  | .fn => none
theorem de_frz (h : PE X e (rdE τ X.K A)) : PE X e (rdE τ X.K (mFrz A)) := wkE (peFrz h) fun σ H Q q => by
  obtain ⟨m, S, ρ, w, S', q, e, p⟩ := q
  obtain ⟨⟨wx, S1⟩, e1, e2⟩ := Option.bind_eq_some_iff.mp e
  refine ⟨m, S, ρ, wx, S1, q, e1, fun ext H1 x f q1 fr r => ?_⟩
  have p1 := p.at f q1 fr
  simp only at e2
  split at e2
  · split at e2
    · rename_i j _ ws hj
      obtain ⟨ds, e3, e4⟩ := Option.map_eq_some_iff.mp e2
      cases e4
      obtain ⟨a, ha, rfl⟩ := r
      obtain ⟨a2, ha2, vs, hv, pr⟩ := q1.obs j _ hj
      rw [ha] at ha2; cases ha2
      refine ⟨a, vs, rfl, hv, fun o => ?_⟩
      have hn := (List.getElem?_eq_some_iff.mp hj).1
      have q2 := q1.put (ob := .dead) (o := .frz o (.lst vs)) ha (fun u h => by rw [hv] at h; cases h; exact fun z => z) hn ⟨_, upd_same⟩
      refine p1 [] _ _ (fun _ h => absurd h (by simp)) (by rw [List.append_nil]; exact q2) (put_fr ha hv) ?_
      exact Rp.lst (.inl ⟨o, upd_same⟩) (RpAll.mono (put_kp hv) _ _ (allD_of e3 pr))
    · cases e2
  · cases e2
  · cases e2
end
end DL
end
noncomputable section
namespace DL
open PySem PySem.Spec PyProof.Rows L2
/-- what can be put in order -/
inductive Cd where
  | int (i : Int)
  | tup (cs : List Cd)
mutual
def toP : Cd → PyData
  | .int i => .int i
  | .tup cs => .tuple (toPs cs)
def toPs : List Cd → List PyData
  | [] => []
  | c :: cs => toP c :: toPs cs
end
mutual
def ofP : PyData → Option Cd
  | .int i => some (.int i)
  | .tuple ds => (ofPs ds).map .tup
  | _ => none
def ofPs : List PyData → Option (List Cd)
  | [] => some []
  | d :: ds => (ofP d).bind fun c => (ofPs ds).map (c :: ·)
end
mutual
theorem ofP_eq : ∀ (d : PyData) (c : Cd), ofP d = some c → d = toP c
  | .int i, c, h => by simp only [ofP, Option.some.injEq] at h; subst h; rfl
  | .tuple ds, c, h => by
    simp only [ofP, Option.map_eq_some_iff] at h
    obtain ⟨cs, h1, rfl⟩ := h
    rw [ofPs_eq ds cs h1]; rfl
  | .none, _, h => by simp [ofP] at h
  | .bool _, _, h => by simp [ofP] at h
  | .str _, _, h => by simp [ofP] at h
  | .list _, _, h => by simp [ofP] at h
  | .dict _, _, h => by simp [ofP] at h
theorem ofPs_eq : ∀ (ds : List PyData) (cs : List Cd), ofPs ds = some cs → ds = toPs cs
  | [], cs, h => by simp only [ofPs, Option.some.injEq] at h; subst h; rfl
  | d :: ds, cs, h => by
    simp only [ofPs] at h
    obtain ⟨c, h1, h2⟩ := Option.bind_eq_some_iff.mp h
    obtain ⟨r, h3, rfl⟩ := Option.map_eq_some_iff.mp h2
    rw [ofP_eq d c h1, ofPs_eq ds r h3]; rfl
end
mutual
theorem hd_toP : ∀ c : Cd, (toP c).hasDict = false
  | .int i => rfl
  | .tup cs => by simp only [toP, PyData.hasDict, hd_toPs cs]
theorem hd_toPs : ∀ cs : List Cd, PyData.hasDictAll (toPs cs) = false
  | [] => rfl
  | c :: cs => by simp only [toPs, PyData.hasDictAll, hd_toP c, hd_toPs cs, Bool.or_self]
end
theorem hd_ofP {d : PyData} {c : Cd} (h : ofP d = some c) : d.hasDict = false := by rw [ofP_eq d c h]; exact hd_toP c
theorem toPs_map (cs : List Cd) : toPs cs = cs.map toP := by
  induction cs with
  | nil => rfl
  | cons c cs ih => simp [toPs, ih]
def cmpI2 (a b : Int) : Ordering := if a < b then .lt else if a = b then .eq else .gt
mutual
def cmpC : Cd → Cd → Ordering
  | .int a, .int b => cmpI2 a b
  | .int _, .tup _ => .lt
  | .tup _, .int _ => .gt
  | .tup xs, .tup ys => cmpCs xs ys
def cmpCs : List Cd → List Cd → Ordering
  | [], [] => .eq
  | [], _ :: _ => .lt
  | _ :: _, [] => .gt
  | x :: xs, y :: ys => match cmpC x y with
    | .eq => cmpCs xs ys
    | .lt => .lt
    | .gt => .gt
end
theorem cmpI2_eq {a b : Int} : cmpI2 a b = .eq ↔ a = b := by unfold cmpI2; split <;> simp <;> omega
theorem cmpI2_lt {a b : Int} : cmpI2 a b = .lt ↔ a < b := by
  unfold cmpI2
  by_cases h : a < b
  · simp [h]
  · by_cases h2 : a = b <;> simp [h, h2]
mutual
theorem cmpC_eq : ∀ x y : Cd, cmpC x y = .eq ↔ x = y
  | .int a, .int b => by simp only [cmpC, cmpI2_eq, Cd.int.injEq]
  | .int _, .tup _ => by simp [cmpC]
  | .tup _, .int _ => by simp [cmpC]
  | .tup xs, .tup ys => by simp only [cmpC, cmpCs_eq xs ys, Cd.tup.injEq]
theorem cmpCs_eq : ∀ xs ys : List Cd, cmpCs xs ys = .eq ↔ xs = ys
  | [], [] => by simp [cmpCs]
  | [], _ :: _ => by simp [cmpCs]
  | _ :: _, [] => by simp [cmpCs]
  | x :: xs, y :: ys => by
    have h1 := cmpC_eq x y
    have h2 := cmpCs_eq xs ys
    simp only [cmpCs, List.cons.injEq]
    cases e : cmpC x y with
    | eq => simp [h1.mp e, h2]
    | lt => rw [e] at h1; simp at h1; simp [h1]
    | gt => rw [e] at h1; simp at h1; simp [h1]
end
mutual
theorem cmpC_sw : ∀ x y : Cd, cmpC y x = (cmpC x y).swap
  | .int a, .int b => by
    simp only [cmpC, cmpI2]
    by_cases h : a < b
    · have h1 : ¬ b < a := by omega
      have h2 : ¬ b = a := by omega
      simp [h, h1, h2]
    · by_cases h2 : a = b
      · simp [h2]
      · have h3 : b < a := by omega
        simp [h, h2, h3]
  | .int _, .tup _ => by simp [cmpC]
  | .tup _, .int _ => by simp [cmpC]
  | .tup xs, .tup ys => by simp only [cmpC, cmpCs_sw xs ys]
theorem cmpCs_sw : ∀ xs ys : List Cd, cmpCs ys xs = (cmpCs xs ys).swap
  | [], [] => by simp [cmpCs]
  | [], _ :: _ => by simp [cmpCs]
  | _ :: _, [] => by simp [cmpCs]
  | x :: xs, y :: ys => by
    simp only [cmpCs, cmpC_sw x y, cmpCs_sw xs ys]
    cases cmpC x y <;> simp
end
theorem cmpC_swap (x y : Cd) : cmpC y x = .lt ↔ cmpC x y = .gt := by
  rw [cmpC_sw x y]
  cases cmpC x y <;> simp
mutual
theorem cmpC_trans : ∀ x y z : Cd, cmpC x y = .lt → cmpC y z = .lt → cmpC x z = .lt
  | .int a, .int b, .int c => by simp only [cmpC, cmpI2_lt]; omega
  | .int _, .int _, .tup _ => by simp [cmpC]
  | .int _, .tup _, .int _ => by simp [cmpC]
  | .int _, .tup _, .tup _ => by simp [cmpC]
  | .tup _, .int _, .int _ => by simp [cmpC]
  | .tup _, .int _, .tup _ => by simp [cmpC]
  | .tup _, .tup _, .int _ => by simp [cmpC]
  | .tup xs, .tup ys, .tup zs => by simp only [cmpC]; exact cmpCs_trans xs ys zs
theorem cmpCs_trans : ∀ xs ys zs : List Cd, cmpCs xs ys = .lt → cmpCs ys zs = .lt → cmpCs xs zs = .lt
  | [], [], [] => by simp [cmpCs]
  | [], [], _ :: _ => by simp [cmpCs]
  | [], _ :: _, [] => by simp [cmpCs]
  | [], _ :: _, _ :: _ => by simp [cmpCs]
  | _ :: _, [], [] => by simp [cmpCs]
  | _ :: _, [], _ :: _ => by simp [cmpCs]
  | _ :: _, _ :: _, [] => by simp [cmpCs]
  | x :: xs, y :: ys, z :: zs => by
    have t := cmpC_trans x y z
    have ts := cmpCs_trans xs ys zs
    have e1 := cmpC_eq x y
    have e2 := cmpC_eq y z
    simp only [cmpCs]
    intro h1 h2
    cases a : cmpC x y with
    | gt => rw [a] at h1; cases h1
    | eq =>
      rw [a] at h1
      have := e1.mp a
      subst this
      cases b : cmpC x z with
      | gt => rw [b] at h2; cases h2
      | lt => rfl
      | eq => rw [b] at h2; exact ts h1 h2
    | lt =>
      cases b : cmpC y z with
      | gt => rw [b] at h2; cases h2
      | lt => rw [t a b]
      | eq =>
        have := e2.mp b
        subst this
        rw [a]
end
def ltC (x y : Cd) : Bool := cmpC x y == .lt
theorem ltC_iff {x y : Cd} : ltC x y = true ↔ cmpC x y = .lt := by simp [ltC]
theorem ltC_tot {x y : Cd} (h : ltC x y = false) : x = y ∨ ltC y x = true := by
  cases e : cmpC x y with
  | lt => simp [ltC, e] at h
  | eq => exact .inl ((cmpC_eq x y).mp e)
  | gt => exact .inr (ltC_iff.mpr ((cmpC_swap x y).mpr e))
theorem ltC_irr (x : Cd) : ltC x x = false := by
  have := (cmpC_eq x x).mpr rfl
  simp [ltC, this]
theorem ltC_trans {x y z : Cd} (h1 : ltC x y = true) (h2 : ltC y z = true) : ltC x z = true := ltC_iff.mpr (cmpC_trans x y z (ltC_iff.mp h1) (ltC_iff.mp h2))
theorem ltC_asym {x y : Cd} (h : ltC x y = true) : ltC y x = false := by
  cases e : ltC y x with
  | false => rfl
  | true => have := ltC_trans h e; rw [ltC_irr] at this; cases this
theorem ltC_neg {x y z : Cd} (h1 : ltC x y = false) (h2 : ltC y z = false) : ltC x z = false := by
  cases e : ltC x z with
  | false => rfl
  | true =>
    rcases ltC_tot h1 with rfl | h1
    · rw [h2] at e; cases e
    · rcases ltC_tot h2 with rfl | h2
      · rw [ltC_asym h1] at e; cases e
      · have := ltC_trans h2 h1
        rw [ltC_asym this] at e; cases e
theorem swo_cd {α : Type} (κ : α → Cd) : SrtO.Swo fun u v => ltC (κ u) (κ v) := ⟨fun _ _ h => ltC_asym h, fun _ _ _ h1 h2 => ltC_neg h2 h1⟩
mutual
theorem eqv_toP : ∀ x y : Cd, PyData.eqv (toP x) (toP y) = (cmpC x y == .eq)
  | .int a, .int b => by
    have := @cmpI2_eq a b
    simp only [toP, PyData.eqv, cmpC]
    by_cases h : a = b
    · simp [h, (@cmpI2_eq b b).mpr rfl]
    · have h2 : cmpI2 a b ≠ .eq := fun e => h (this.mp e)
      cases e : cmpI2 a b <;> simp_all
  | .int _, .tup _ => by simp [toP, PyData.eqv, cmpC]
  | .tup _, .int _ => by simp [toP, PyData.eqv, cmpC]
  | .tup xs, .tup ys => by simp only [toP, PyData.eqv, cmpC, eqv_toPs xs ys]
theorem eqv_toPs : ∀ xs ys : List Cd, PyData.eqvAll (toPs xs) (toPs ys) = (cmpCs xs ys == .eq)
  | [], [] => by simp [toPs, PyData.eqvAll, cmpCs]
  | [], _ :: _ => by simp [toPs, PyData.eqvAll, cmpCs]
  | _ :: _, [] => by simp [toPs, PyData.eqvAll, cmpCs]
  | x :: xs, y :: ys => by
    simp only [toPs, PyData.eqvAll, cmpCs, eqv_toP x y, eqv_toPs xs ys]
    cases cmpC x y <;> simp
end
mutual
theorem lay_toP : ∀ x : Cd, (toP x).canLay0 = true
  | .int a => rfl
  | .tup xs => by simp only [toP, PyData.canLay0, lay_toPs xs]
theorem lay_toPs : ∀ xs : List Cd, PyData.canLayAll0 (toPs xs) = true
  | [] => rfl
  | x :: xs => by simp only [toPs, PyData.canLayAll0, lay_toP x, lay_toPs xs, Bool.and_self]
end
def LtAt (A : Around) (s : Shared) (u v : Value) (b : Bool) : Prop :=
  ∀ (prog : Program) (w : World) (E : Value → Shared → Prop) (Q : Value → Shared → Prop), Q (.bool b) s → wpAny (model prog w) A (richCompare .Lt u v) Q E s
inductive LexAt (A : Around) (s : Shared) : List Value → List Value → Bool → Prop
  | nn : LexAt A s [] [] false
  | nc (v : Value) (vs : List Value) : LexAt A s [] (v :: vs) true
  | cn (u : Value) (us : List Value) : LexAt A s (u :: us) [] false
  | same {u v : Value} {us vs : List Value} {b : Bool} : SeqAt.EqAt A s u v true → LexAt A s us vs b → LexAt A s (u :: us) (v :: vs) b
  | other {u v : Value} {us vs : List Value} {b : Bool} : SeqAt.EqAt A s u v false → LtAt A s u v b → LexAt A s (u :: us) (v :: vs) b
section
open PySem.MeetsSeq PySem.MeetsSeq2 PySem.MeetsSeq3
theorem tup_lt_run (l b : Addr) (xs ys : Array Value) (n k : Nat) (dx dy : Option Addr) (sx sy : Array (Option Value)) (r : Bool) :
    Meets (Builtin.«tuple.__lt__» ⟨[.ref l, .ref b], []⟩) (fun A R s => s.heap.get? l = some { cls := .type "tuple", dict := dx, data := .seq xs n, slots := sx } ∧
      s.heap.get? b = some { cls := .type "tuple", dict := dy, data := .seq ys k, slots := sy } ∧ LexAt A.in1 s xs.toList ys.toList r ∧ R (.ok (.ret (.bool r))) s) :=
  .of_wp fun prog w A R s h => by
    obtain ⟨hp, g, d, tk, os⟩ := s
    obtain ⟨h1, h2, hx, h⟩ := h
    have tt := AutoSeq1.sub_tuple_tuple
    wp_walk using AutoSeq1.wpAny_loadPart' h1, AutoSeq1.wpAny_loadPart' h2, wpAny_forIn_list _ (fun todo c s' => c.1 = none ∧ s' = ⟨hp, g, d, tk, os⟩ ∧ ∃ us vs : List Value, todo = us.zip vs ∧
      LexAt A.in1 ⟨hp, g, d, tk, os⟩ us vs r ∧ us.length + ys.size = vs.length + xs.size) _
    case h => exact ⟨rfl, rfl, xs.toList, ys.toList, rfl, hx, by simp; omega⟩
    case turn =>
      rintro ⟨p, q⟩ todo c s' ⟨hc, rfl, us, vs, ez, lx, el⟩
      cases lx with
      | nn => rw [List.zip_nil_left] at ez; cases ez
      | nc v vs => rw [List.zip_nil_left] at ez; cases ez
      | cn u us => rw [List.zip_nil_right] at ez; cases ez
      | same e lx =>
        rw [List.zip_cons_cons] at ez
        obtain ⟨e1, rfl⟩ := List.cons.inj ez
        obtain ⟨rfl, rfl⟩ := Prod.mk.inj e1
        simp only [List.length_cons] at el
        refine wpAny_bind (e prog w _ _ ?_)
        wp_walk
        exact ⟨rfl, rfl, _, _, rfl, lx, by omega⟩
      | other e lt =>
        rw [List.zip_cons_cons] at ez
        obtain ⟨e1, rfl⟩ := List.cons.inj ez
        obtain ⟨rfl, rfl⟩ := Prod.mk.inj e1
        refine wpAny_bind (e prog w _ _ ?_)
        have go := lt prog w
        wp_walk using go
        exact ⟨_, rfl, by simpa using h⟩
    case fin =>
      rintro ⟨c1, c2⟩ s' ⟨hc, rfl, us, vs, ez, lx, el⟩
      simp only at hc
      subst hc
      have hr : r = decide (xs.size < ys.size) := by
        cases lx with
        | nn => simp only [List.length_nil] at el; exact (decide_eq_false (by omega)).symm
        | nc v vs => simp only [List.length_nil, List.length_cons] at el; exact (decide_eq_true (by omega)).symm
        | cn u us => simp only [List.length_nil, List.length_cons] at el; exact (decide_eq_false (by omega)).symm
        | same e lx => rw [List.zip_cons_cons] at ez; cases ez
        | other e lt => rw [List.zip_cons_cons] at ez; cases ez
      rw [hr] at h
      wp_walk
      exact ⟨_, rfl, by simpa [Builtin.Tuple.tupleCompareSizes] using h⟩
end
theorem tup_ltAt {A : Around} {s : Shared} {l b : Addr} {xs ys : Array Value} {r : Bool} (h1 : IsTup s.heap l xs) (h2 : IsTup s.heap b ys) (lx : LexAt A.in1 s xs.toList ys.toList r) (hu : A.units < cLine) : LtAt A s (.ref l) (.ref b) r := by
  intro prog w E Q hq
  obtain ⟨⟨c1, d1, a1, s1⟩, o1, e1, n1, f1⟩ := h1
  obtain ⟨⟨c2, d2, a2, s2⟩, o2, e2, n2, f2⟩ := h2
  simp only at e1 f1 e2 f2
  subst e1 f1 e2 f2
  refine richCompare_meets_room (op := .Lt) ⟨_, o1, rfl⟩ ⟨_, o2, rfl⟩ PySem.F.slot_tuple_lt PySem.F.entry_tuple_lt (PySem.F.args_tuple_lt_2 _ _) (tup_lt_run l b xs ys n1 n2 d1 d2 s1 s2 r) ⟨o1, o2, lx, ?_⟩ hu
  exact (⟨(fun x => nomatch x), hq⟩ : Value.bool r ≠ Value.notImplemented ∧ Q (.bool r) s)
mutual
def kindC : Cd → Cd → Bool
  | .int _, .int _ => true
  | .tup xs, .tup ys => kindCs xs ys
  | _, _ => false
def kindCs : List Cd → List Cd → Bool
  | [], _ => true
  | _, [] => true
  | x :: xs, y :: ys => kindC x y && kindCs xs ys
end
theorem cmpI2_dec {a b : Int} : (cmpI2 a b == .lt) = decide (a < b) := by
  have := @cmpI2_lt a b
  by_cases h : a < b
  · simp [h, this.mpr h]
  · have h2 : cmpI2 a b ≠ .lt := fun e => h (this.mp e)
    cases e : cmpI2 a b <;> simp_all
theorem units_in1 (A : Around) : A.in1.units = A.units + 1 := rfl
mutual
theorem lt_reads : ∀ (c d : Cd) (A : Around) (s : Shared) (u v : Value) (as bs : List Addr), kindC c d = true → Reads s.heap u (toP c) as → Reads s.heap v (toP d) bs → A.units + (toP c).depth < cLine → LtAt A s u v (ltC c d)
  | .int a, .int b, A, s, u, v, _, _, _, r1, r2, _ => by
    cases r1
    cases r2
    intro prog w E Q h
    refine PyProof.Rows.lt_int (A := A) ?_
    rwa [show ltC (.int a) (.int b) = decide (a < b) from cmpI2_dec] at h
  | .int _, .tup _, _, _, _, _, _, _, hk, _, _, _ => by simp [kindC] at hk
  | .tup _, .int _, _, _, _, _, _, _, hk, _, _, _ => by simp [kindC] at hk
  | .tup xs, .tup ys, A, s, u, v, _, _, hk, r1, r2, hu => by
    cases r1 with
    | tuple h1 c1 d1 q1 =>
      cases r2 with
      | tuple h2 c2 d2 q2 =>
        simp only [toP, PyData.depth] at hu
        exact tup_ltAt ⟨_, h1, c1, _, d1⟩ ⟨_, h2, c2, _, d2⟩ (lex_reads xs ys A.in1 s _ _ _ _ (by simpa [kindC] using hk) q1 q2 (by rw [units_in1]; omega)) (by omega)
theorem lex_reads : ∀ (cs ds : List Cd) (A : Around) (s : Shared) (us vs : List Value) (as bs : List Addr), kindCs cs ds = true → ReadsAll s.heap us (toPs cs) as → ReadsAll s.heap vs (toPs ds) bs → A.units + PyData.depthAll (toPs cs) < cLine → LexAt A s us vs (cmpCs cs ds == .lt)
  | [], [], _, _, _, _, _, _, _, r1, r2, _ => by
    cases r1
    cases r2
    exact .nn
  | [], _ :: _, _, _, _, _, _, _, _, r1, r2, _ => by
    cases r1
    cases r2
    exact .nc _ _
  | _ :: _, [], _, _, _, _, _, _, _, r1, r2, _ => by
    cases r1
    cases r2
    exact .cn _ _
  | x :: xs, y :: ys, A, s, _, _, _, _, hk, r1, r2, hu => by
    simp only [kindCs, Bool.and_eq_true] at hk
    simp only [toPs, PyData.depthAll] at hu
    cases r1 with
    | cons p1 q1 =>
      cases r2 with
      | cons p2 q2 =>
        have eqA := SeqAt.eqAt_reads (toP x) (toP y) A s _ _ _ _ p1 p2 (lay_toP x) (lay_toP y) (by omega)
        rw [eqv_toP] at eqA
        have ltA := lt_reads x y A s _ _ _ _ hk.1 p1 p2 (by omega)
        have tl := lex_reads xs ys A s _ _ _ _ hk.2 q1 q2 (by omega)
        simp only [cmpCs]
        cases e : cmpC x y with
        | eq =>
          rw [e] at eqA
          exact .same eqA tl
        | lt =>
          rw [e] at eqA
          rw [show ltC x y = true by simp [ltC, e]] at ltA
          exact .other eqA ltA
        | gt =>
          rw [e] at eqA
          rw [show ltC x y = false by simp [ltC, e]] at ltA
          exact .other eqA ltA
end
def leC (x y : Cd) : Bool := !ltC y x
def sortC (cs : List Cd) : List Cd := cs.mergeSort leC
def isTupNE : Cd → Bool
  | .tup (_ :: _) => true
  | _ => false
def sortable (cs : List Cd) : Bool := (cs.all fun c => isTupNE c && decide ((toP c).depth ≤ 60)) && cs.all fun c => cs.all fun d => kindC c d
theorem sortC_srtd (cs : List Cd) : (sortC cs).Pairwise fun x y => ltC y x = false := by
  have h := List.pairwise_mergeSort (le := leC) (fun a b c h1 h2 => by
    simp only [leC, Bool.not_eq_true'] at *
    exact ltC_neg h2 h1) (fun a b => by
    simp only [leC]
    cases e : ltC b a with
    | false => rfl
    | true => simp [ltC_asym e]) cs
  exact h.imp fun h => by simpa [leC] using h
theorem sortC_perm (cs : List Cd) : (sortC cs).Perm cs := List.mergeSort_perm cs leC
theorem sortC_uniq {cs ds : List Cd} (hs : ds.Pairwise fun x y => ltC y x = false) (hp : ds.Perm cs) : ds = sortC cs :=
  List.Perm.eq_of_pairwise (le := fun x y => ltC y x = false) (fun a b _ _ h1 h2 => by
    rcases ltC_tot h1 with e | e
    · exact e.symm
    · rw [h2] at e; cases e) hs (sortC_srtd cs) (hp.trans (sortC_perm cs).symm)
section
variable {prog : Program} {w : World} {A : Around} {s : Shared}
theorem kat_of_lex {Q : Bool → Shared → Prop} {r b fin : Bool} : ∀ {us vs : List Value} {i : Nat} {n k : Nat}, LexAt A s us vs r → (b && i == 0) = false → fin = decide (n < k) → us.length + k = vs.length + n → Q r s → PySem.W.KatLex prog w A b fin Q (us.zip vs) i s
  | _, _, i, n, k, .nn, _, hf, hl, q => by
    simp only [List.length_nil] at hl
    have : fin = false := by rw [hf]; exact decide_eq_false (by omega)
    rw [List.zip_nil_left]
    exact PySem.W.kat_nil (by rw [this]; exact q)
  | _, _, i, n, k, .nc v vs, _, hf, hl, q => by
    simp only [List.length_nil, List.length_cons] at hl
    have : fin = true := by rw [hf]; exact decide_eq_true (by omega)
    rw [List.zip_nil_left]
    exact PySem.W.kat_nil (by rw [this]; exact q)
  | _, _, i, n, k, .cn u us, _, hf, hl, q => by
    simp only [List.length_nil, List.length_cons] at hl
    have : fin = false := by rw [hf]; exact decide_eq_false (by omega)
    rw [List.zip_nil_right]
    exact PySem.W.kat_nil (by rw [this]; exact q)
  | _, _, i, n, k, .same e lx, hb, hf, hl, q => by
    simp only [List.length_cons] at hl
    rw [List.zip_cons_cons]
    exact PySem.W.kat_cons (e prog w _ _ (PySem.W.kat_yes (kat_of_lex lx (by simp) hf (by omega) q)))
  | _, _, i, n, k, .other e lt, hb, hf, hl, q => by
    rw [List.zip_cons_cons]
    refine PySem.W.kat_cons (e prog w _ _ (PySem.W.kat_no ?_))
    rw [hb]
    exact PySem.W.kat_one _ _ (lt prog w _ _ q)
/-- by the first int, then by the rest -/
theorem kat_of_int {Q : Bool → Shared → Prop} {x y : Int} {t u : Tok} {cs ds : List Cd} {us vs : List Value} {n k : Nat} (lx : LexAt A s us vs (cmpCs cs ds == .lt)) (hl : us.length + k = vs.length + n) (q : Q (ltC (.tup (.int x :: cs)) (.tup (.int y :: ds))) s) :
    PySem.W.KatLex prog w A true (decide (n + 1 < k + 1)) Q ((Value.int x t :: us).zip (Value.int y u :: vs)) 0 s := by
  have hq : ltC (.tup (.int x :: cs)) (.tup (.int y :: ds)) = if x = y then (cmpCs cs ds == .lt) else decide (x < y) := by
    simp only [ltC, cmpC, cmpCs]
    by_cases h : x = y
    · subst h
      simp [(@cmpI2_eq x x).mpr rfl]
    · have h1 : cmpI2 x y ≠ .eq := fun e => h (cmpI2_eq.mp e)
      rw [if_neg h, ← cmpI2_dec]
      cases e : cmpI2 x y <;> simp_all
  rw [hq] at q
  rw [List.zip_cons_cons]
  refine PySem.W.kat_cons (SeqAt.EqAt.int_int x t y u prog w _ _ (PySem.W.kat_go (fun e => ?_) fun e => ?_))
  · have e' : x = y := by simpa using e
    rw [if_pos e'] at q
    exact PySem.W.kat_yes (kat_of_lex lx (by simp) (decide_eq_decide.mpr (by omega)) hl q)
  · have e' : ¬ x = y := by simpa using e
    rw [if_neg e'] at q
    exact PySem.W.kat_no (oneLt_int q)
end
/-- what a value reads as -/
noncomputable def keyAt (h : Heap) (u : Value) : Cd := by
  classical
  exact if e : ∃ c as, Reads h u (toP c) as then e.choose else .int 0
mutual
theorem toP_inj : ∀ c d : Cd, toP c = toP d → c = d
  | .int a, .int b, h => by simp only [toP, PyData.int.injEq] at h; rw [h]
  | .int _, .tup _, h => by simp [toP] at h
  | .tup _, .int _, h => by simp [toP] at h
  | .tup xs, .tup ys, h => by simp only [toP, PyData.tuple.injEq] at h; rw [toPs_inj xs ys h]
theorem toPs_inj : ∀ cs ds : List Cd, toPs cs = toPs ds → cs = ds
  | [], [], _ => rfl
  | [], _ :: _, h => by simp [toPs] at h
  | _ :: _, [], h => by simp [toPs] at h
  | x :: xs, y :: ys, h => by
    simp only [toPs, List.cons.injEq] at h
    rw [toP_inj x y h.1, toPs_inj xs ys h.2]
end
theorem keyAt_of {h : Heap} {u : Value} {c : Cd} {as : List Addr} (r : Reads h u (toP c) as) : keyAt h u = c := by
  unfold keyAt
  have e : ∃ c as, Reads h u (toP c) as := ⟨c, as, r⟩
  rw [dif_pos e]
  obtain ⟨as', r'⟩ := e.choose_spec
  exact toP_inj _ _ (SeqAt.Reads.unique _ _ u as' as (lay_toP _) r' r)
section
variable {X : Cx} {pins : List (Addr × Obj)} {σ : L2.St} {H : Hp} {s : Shared}
/-- the values of a list of such data -/
theorem reads_list (I : Inv X pins σ H s) : ∀ {cs : List Cd} {xs : List V} {us : List Value}, RpAll X.K H xs (toPs cs) → Vals xs us →
    us.map (keyAt s.heap) = cs ∧ ∀ u ∈ us, ∃ v as, RelV v u ∧ Rp X.K H v (toP (keyAt s.heap u)) ∧ Reads s.heap u (toP (keyAt s.heap u)) as
  | [], _, _, .nil, .nil => ⟨rfl, fun u h => by simp at h⟩
  | c :: cs, _, _, .cons r t, .cons rv tv => by
    obtain ⟨e, h⟩ := reads_list I t tv
    obtain ⟨as, rd⟩ := Dp.reads I (toP c) _ _ (Rp.dp _ _ (hd_toP c) r) rv
    have k := keyAt_of rd
    refine ⟨by rw [List.map_cons, k, e], fun u hu => ?_⟩
    rcases List.mem_cons.mp hu with z | z
    · subst z
      rw [k]
      exact ⟨_, as, rv, r, rd⟩
    · exact h u z
def backV (u : Value) : V := (absV u).getD .non
theorem backV_of {v : V} {u : Value} (r : RelV v u) : backV u = v := by unfold backV; rw [r.abs]; rfl
theorem rpAll_back {K : PySem.W.Frag} {k : Value → Cd} : ∀ {us : List Value}, (∀ u ∈ us, ∃ v, RelV v u ∧ Rp K H v (toP (k u))) → RpAll K H (us.map backV) (toPs (us.map k)) ∧ Vals (us.map backV) us
  | [], _ => ⟨.nil, .nil⟩
  | u :: us, h => by
    obtain ⟨v, r, rp⟩ := h u (by simp)
    obtain ⟨h1, h2⟩ := rpAll_back (us := us) fun w hw => h w (by simp [hw])
    have e := backV_of r
    exact ⟨.cons (by rw [e]; exact rp) h1, .cons (by rw [e]; exact r) h2⟩
theorem firsts_at {h : Heap} : ∀ {us : List Value}, (∀ u ∈ us, ∃ c cs as, Reads h u (toP (.tup (c :: cs))) as) → ∃ fs, PySem.W.KatTups h us fs ∧ fs.length = us.length ∧ ∀ f ∈ fs, ∃ u ∈ us, ∃ c cs as bs, Reads h u (toP (.tup (c :: cs))) as ∧ Reads h f (toP c) bs
  | [], _ => ⟨[], .nil, rfl, fun f h => by simp at h⟩
  | u :: us, h => by
    obtain ⟨fs, k, l, hi⟩ := firsts_at (us := us) fun w hw => h w (by simp [hw])
    obtain ⟨c, cs, as, r⟩ := h u (by simp)
    have r0 := r
    cases r with
    | tuple h1 c1 d1 q1 =>
      rename_i vs n
      cases e : vs.toList with
      | nil => rw [e] at q1; cases q1
      | cons f rest =>
        rw [e] at q1
        cases q1 with
        | cons p1 q1 =>
          refine ⟨f :: fs, .cons h1 c1 d1 ?_ k, by simp [l], fun g hg => ?_⟩
          · rw [← Array.getElem?_toList, e]; rfl
          · rcases List.mem_cons.mp hg with z | z
            · subst z
              exact ⟨_, by simp, c, cs, _, _, r0, p1⟩
            · obtain ⟨u', hu', rest'⟩ := hi g z
              exact ⟨u', by simp [hu'], rest'⟩
def tyC : Cd → String
  | .int _ => "int"
  | .tup _ => "tuple"
theorem looks_of {M : Model} {h : Heap} {u : Value} {c : Cd} {as : List Addr} (r : Reads h u (toP c) as) : PySem.W.Looks M h (typeOf u) (.type (tyC c)) := by
  cases c with
  | int i => cases r; exact PySem.W.Looks.now
  | tup cs =>
    cases r with
    | tuple h1 c1 d1 q1 =>
      have z : PySem.W.Looks M h (typeOf (.ref _)) _ := (PySem.W.Looks.ld h1).andThen .now
      rw [c1] at z
      exact z
theorem sort_cmp {prog : Program} {w : World} {A : Around} {h : Heap} {s : Shared} {b : Bool} {us : List Value} {k : Value → Cd} (hs : s.heap = h) (hr : ∀ u ∈ us, ∃ as, Reads h u (toP (k u)) as) (hd : ∀ u ∈ us, (toP (k u)).depth ≤ 60) (hk : ∀ u ∈ us, ∀ v ∈ us, kindC (k u) (k v) = true)
    (hne : ∀ u ∈ us, isTupNE (k u) = true) (hb : b = true → ∀ u ∈ us, ∃ i cs, k u = .tup (.int i :: cs)) (hu : A.units + 64 < cLine) : SrtO.Cmp prog w A s (tuples' b) (fun p => p.1 ∈ us) (SrtO.lt2 fun u v => ltC (k u) (k v)) := by
  subst hs
  intro p q hp hq
  show wpAny (model prog w) A (keyLt' (tuples' b) p.1 q.1) (fun r s' => s' = s ∧ r = ltC (k p.1) (k q.1)) (fun _ _ => False) s
  obtain ⟨as, r1⟩ := hr _ hp
  obtain ⟨bs, r2⟩ := hr _ hq
  have d1 := hd _ hp
  have kk := hk _ hp _ hq
  have n1 := hne _ hp
  have n2 := hne _ hq
  have b1 := fun e => hb e _ hp
  have b2 := fun e => hb e _ hq
  generalize k p.1 = c at *
  generalize k q.1 = d at *
  generalize p.1 = pu at *
  generalize q.1 = qu at *
  cases c with
  | int i => cases n1
  | tup cs =>
    cases d with
    | int i => cases n2
    | tup ds =>
      simp only [toP, PyData.depth] at d1
      cases r1 with
      | tuple h1 c1 e1 q1 =>
        cases r2 with
        | tuple h2 c2 e2 q2 =>
          rename_i _ _ xs n _ _ ys m
          refine PySem.W.kat_lt h1 e1 h2 e2 ?_
          have la : xs.toList.length = xs.size := Array.length_toList
          have lb : ys.toList.length = ys.size := Array.length_toList
          cases b with
          | false => exact kat_of_lex (lex_reads cs ds A s _ _ _ _ (by simpa [kindC] using kk) q1 q2 (by omega)) rfl rfl (by omega) ⟨rfl, rfl⟩
          | true =>
            obtain ⟨i, cs', e1'⟩ := b1 rfl
            obtain ⟨j, ds', e2'⟩ := b2 rfl
            injection e1' with e1'
            injection e2' with e2'
            subst e1' e2'
            cases ex : xs.toList with
            | nil => rw [ex] at q1; cases q1
            | cons f rest =>
              cases ey : ys.toList with
              | nil => rw [ey] at q2; cases q2
              | cons g rest2 =>
                rw [ex] at q1
                rw [ey] at q2
                cases q1 with
                | cons p1 q1 =>
                  cases q2 with
                  | cons p2 q2 =>
                    cases p1
                    cases p2
                    simp only [kindC, kindCs, Bool.and_eq_true] at kk
                    simp only [toPs, PyData.depthAll] at d1
                    rw [ex, List.length_cons] at la
                    rw [ey, List.length_cons] at lb
                    rw [← la, ← lb]
                    exact kat_of_int (lex_reads cs' ds' A s _ _ _ _ kk.2 q1 q2 (by omega)) (by omega) ⟨rfl, rfl⟩
theorem pw_mem {α : Type} {R : α → α → Bool} {l : List α} (h : (l.all fun c => l.all fun d => R c d) = true) : ∀ a ∈ l, ∀ b ∈ l, R a b = true := fun a ha b hb => List.all_eq_true.mp (List.all_eq_true.mp h a ha) b hb
/-- sorted of a list of tuples -/
theorem sorted_run {a : Addr} {xs : List V} {cs : List Cd} {Q : VK} (I : Inv X pins σ H s) (hs : SqL X.K H a xs) (r : RpAll X.K H xs (toPs cs)) (ok : sortable cs = true) (hu : X.A.units + 66 < cLine)
    (q : ∀ p ys, H p = none → RpAll X.K H ys (toPs (sortC cs)) → Q (.ref p) (upd H p (.lst ys))) : wpAny (model X.prog X.w) X.A (call (.builtin "sorted") [.ref a]) (EP X pins σ Q) X.xe s := by
  obtain ⟨its, rv, hl, hz⟩ := I.list hs
  obtain ⟨em, hr⟩ := reads_list I r rv
  have lx := rv.length
  unfold sortable at ok
  rw [Bool.and_eq_true] at ok
  have inCs : ∀ u ∈ its, keyAt s.heap u ∈ cs := fun u hu => by rw [← em]; exact List.mem_map_of_mem hu
  have okA : ∀ c ∈ cs, isTupNE c = true ∧ (toP c).depth ≤ 60 := fun c hc => by
    have := List.all_eq_true.mp ok.1 c hc
    simpa using this
  have okK := pw_mem ok.2
  refine SrtO.sorted_ord (ltv := fun u v => ltC (keyAt s.heap u) (keyAt s.heap v)) (swo_cd _) hl.isList (by omega) (fun h2 h₁ a' ha kk h' keep => ?_) fun out h1 h2 => ?_
  · have kp : ∀ b o, s.heap.get? b = some o → h'.get? b = some o := fun b o e => by
      obtain ⟨n1, e1⟩ := kk b o e
      exact keep b o n1 e1
    have hr' : ∀ u ∈ its, ∃ as, Reads h' u (toP (keyAt s.heap u)) as := fun u hu => by
      obtain ⟨_, as, _, _, rd⟩ := hr u hu
      exact ⟨as, Reads.keeps kp rd⟩
    have shape : ∀ u ∈ its, ∃ c ds, keyAt s.heap u = .tup (c :: ds) := fun u hu => by
      have := (okA _ (inCs u hu)).1
      cases e : keyAt s.heap u with
      | int i => rw [e] at this; cases this
      | tup ds =>
        cases ds with
        | nil => rw [e] at this; cases this
        | cons c ds => exact ⟨c, ds, rfl⟩
    obtain ⟨fs, kf, lf, hf⟩ := firsts_at (h := h') (us := its) fun u hu => by
      obtain ⟨c, ds, e⟩ := shape u hu
      obtain ⟨as, rd⟩ := hr' u hu
      rw [e] at rd
      exact ⟨c, ds, as, rd⟩
    -- the first items: all ints, or all tuples
    obtain ⟨u0, hu0⟩ : ∃ u0, u0 ∈ its := by
      match its, h2 with
      | u0 :: _, _ => exact ⟨u0, by simp⟩
    obtain ⟨c0, ds0, e0⟩ := shape u0 hu0
    have first : ∀ u ∈ its, ∀ c ds, keyAt s.heap u = .tup (c :: ds) → kindC c0 c = true := fun u hu c ds e => by
      have := okK _ (inCs u0 hu0) _ (inCs u hu)
      rw [e0, e] at this
      simp only [kindC, kindCs, Bool.and_eq_true] at this
      exact this.1
    have keyOf : ∀ u ∈ its, ∀ c ds as, Reads h' u (toP (.tup (c :: ds))) as → keyAt s.heap u = .tup (c :: ds) := fun u hu c ds as rd => by
      obtain ⟨bs, rd2⟩ := hr' u hu
      exact toP_inj _ _ (SeqAt.Reads.unique _ _ u bs as (lay_toP _) rd2 rd)
    refine ⟨tuples' (Value.type (tyC c0) != Value.type "tuple"), fun Q' E hq => ?_, ?_⟩
    · refine PySem.W.kat_kind (T := .type (tyC c0)) kf (by omega) (fun f hff => ?_) (by cases c0 <;> rfl) hq
      obtain ⟨u, hu, c, ds, as, bs, r1, r2⟩ := hf f hff
      have kc := first u hu c ds (keyOf u hu c ds as r1)
      have := looks_of (M := model X.prog X.w) r2
      cases c0 <;> cases c <;> first | exact this | (simp [kindC] at kc)
    · refine sort_cmp (A := X.A.in1.in1) (s := { s with heap := h' }) rfl hr' (fun u hu => (okA _ (inCs u hu)).2) (fun u hu v hv => okK _ (inCs u hu) _ (inCs v hv)) (fun u hu => (okA _ (inCs u hu)).1) (fun e u hu => ?_) (by rw [units_in1, units_in1]; omega)
      obtain ⟨c, ds, ek⟩ := shape u hu
      have kc := first u hu c ds ek
      cases c0 with
      | int i =>
        cases c with
        | int j => exact ⟨j, ds, ek⟩
        | tup _ => simp [kindC] at kc
      | tup cs => exact absurd e (by show ¬ (Value.type "tuple" != Value.type "tuple") = true; decide)
  · have memO : ∀ u ∈ out, u ∈ its := fun u hu => h2.perm.mem_iff.mp hu
    have hm : out.map (keyAt s.heap) = sortC cs := by
      refine sortC_uniq (List.pairwise_map.mpr h1) ?_
      rw [← em]
      exact h2.perm.map _
    obtain ⟨b1, b2⟩ := rpAll_back (K := X.K) (H := H) (k := keyAt s.heap) (us := out) fun u hu => by
      obtain ⟨v, as, r1, r2, _⟩ := hr u (memO u hu)
      exact ⟨v, r1, r2⟩
    rw [hm] at b1
    obtain ⟨ep, he⟩ := PyProof.Rows.sortedAll_at s.heap its out.toArray
    have lo : (out.map backV).length ≤ sizeLine := by rw [List.length_map, h2.perm.length_eq]; omega
    exact ⟨.ref _, upd H (s.heap.objs.size + 1) (.lst (out.map backV)), I.laid (t' := s.toks) (fun _ _ => PyProof.Rows.sortedAll_old) (Nat.le_succ _) ⟨lo, out, ep, b2, he⟩, rfl, q _ _ (I.hok.fresh (Nat.le_succ _)) b1⟩
def sortedD := on1 fun w S => (deref S w).bind fun d => match d with
  | .list ds => (ofPs ds).bind fun cs => if sortable cs = true then some (.d (.list (toPs (sortC cs))), S) else none
  | _ => none
theorem call_sortedDD {k : Nat} (hr : Room k X.A) : CallR X (.builtin "sorted") (rC τ X.K sortedD) := by
  have raw : CallR X (.builtin "sorted") (fun vs H Q => ∃ a xs cs, vs = [.ref a] ∧ SqL X.K H a xs ∧ RpAll X.K H xs (toPs cs) ∧ sortable cs = true ∧ ∀ p ys, H p = none → RpAll X.K H ys (toPs (sortC cs)) → Q (.ref p) (upd H p (.lst ys))) := by
    intro pins s σ H vs us Q I rx h
    obtain ⟨a, xs, cs, rfl, hs, r, ok, q⟩ := h
    cases rx with
    | cons r1 t =>
      cases t
      cases r1
      exact sorted_run I hs r ok (by have := hr.un; omega) q
  intro pins s σ H vs us Q I rx h
  obtain ⟨m, S, ρ, σ', w0, w, S', v, rfl, q, r, e, p⟩ := rC1 h
  obtain ⟨d, e1, e⟩ := Option.bind_eq_some_iff.mp e
  split at e
  · obtain ⟨cs, e2, e3⟩ := Option.bind_eq_some_iff.mp e
    split at e3
    · rename_i hok
      cases e3
      obtain ⟨a, xs, rfl, h, r1⟩ := deref_list q r e1
      rw [ofPs_eq _ _ e2] at r1
      exact callFrz raw pins s σ H _ us Q I rx ⟨a, xs, cs, rfl, h, r1, hok, fun t ys ht ry => newL p q ry t ht⟩
    · cases e3
  · cases e
/-- < of tuples, of ints -/
def ltD : W → W → Sto → Option (W × Sto) := fun x y S => match x, y with
  | .d d, .d e => (ofP d).bind fun c => (ofP e).bind fun c' => if kindC c c' = true ∧ (toP c).depth ≤ 60 then some (.d (.bool (ltC c c')), S) else none
  | _, _ => none
theorem op_ltDD {k : Nat} (hr : Room k X.A) : OpR X (compareOp .Lt) (rOp τ X.K ltD) := by
  intro pins s σ H x y v u Q I rx ry h
  obtain ⟨m, S, ρ, σ', wx, wy, w, S', q, hx, hy, e, p⟩ := h
  unfold ltD at e
  split at e
  · obtain ⟨c, e1, e⟩ := Option.bind_eq_some_iff.mp e
    obtain ⟨c', e2, e⟩ := Option.bind_eq_some_iff.mp e
    split at e
    · rename_i hk
      cases e
      obtain ⟨as, r1⟩ := Dp.reads I _ x v (Rp.dp _ _ (hd_ofP e1) hx) rx
      obtain ⟨bs, r2⟩ := Dp.reads I _ y u (Rp.dp _ _ (hd_ofP e2) hy) ry
      rw [ofP_eq _ _ e1] at r1
      rw [ofP_eq _ _ e2] at r2
      exact lt_reads c c' X.A s v u as bs hk.1 r1 r2 (by have := hr.un; omega) X.prog X.w X.xe _ ⟨.bl _, H, I, rfl, p.now q (.bl _)⟩
    · cases e
  · cases e
def reprOk (d : PyData) : Bool := d.showable && !d.hasDict && decide (d.depth ≤ 64) && decide (d.shown.length ≤ sizeLine)
def reprD := on1 fun w S => (deref S w).bind fun d => if reprOk d = true then some (.d (.str d.shown), S) else none
theorem call_reprDD {k : Nat} (hr : Room k X.A) (hg : X.A.guards = some []) : CallR X (.builtin "repr") (rC τ X.K reprD) := by
  intro pins s σ H vs us Q I rx h
  obtain ⟨m, S, ρ, σ', w0, w, S', v, rfl, q, r, e, p⟩ := rC1 h
  obtain ⟨d, e1, e⟩ := Option.bind_eq_some_iff.mp e
  split at e
  · rename_i hok
    cases e
    simp only [reprOk, Bool.and_eq_true, decide_eq_true_eq, Bool.not_eq_true'] at hok
    obtain ⟨⟨⟨h1, h2⟩, h3⟩, h4⟩ := hok
    have dp := deref_dp q r h2 e1
    have q2 := p.now q (v := .str d.shown) (.str _)
    have hun := hr.un
    cases rx with
    | cons rv t =>
      cases t
      obtain ⟨as, rd⟩ := Dp.reads I d v _ dp rv
      have big : ∀ a, (∃ u, RelV v u ∧ u = Value.ref a ∧ Reads s.heap u d as) → wpAny (model X.prog X.w) X.A (call (.builtin "repr") [.ref a]) (EP X pins σ Q) X.xe s := fun a ⟨u, _, e, rd⟩ => by
        subst e
        exact repr_of_reads' rd h1 (fun z => by rw [h2] at z; cases z) hg (by omega) (fun _ _ z => z) (fun h' u tk kp => ⟨.str _, H, I.kept (t' := tk) kp, ⟨_, rfl⟩, q2⟩) h4
      cases d with
      | none => cases dp; cases rv; exact P.repr_of_none ⟨.str _, H, I.tok _, ⟨_, rfl⟩, q2⟩
      | bool b =>
        cases dp; cases rv
        exact P.repr_of_bool ⟨.str _, H, I.tok _, ⟨_, rfl⟩, q2⟩
      | int i =>
        cases dp
        obtain ⟨t, rfl⟩ := rv
        exact P.repr_of_int (by simpa [PyData.showable] using h1) ⟨.str _, H, I.tok _, ⟨_, rfl⟩, q2⟩
      | str z =>
        cases dp
        obtain ⟨t, rfl⟩ := rv
        exact P.repr_of_str ⟨.str _, H, I.tok _, ⟨_, rfl⟩, q2⟩ h4
      | list ds =>
        cases dp
        cases rv
        exact big _ ⟨_, rfl, rfl, rd⟩
      | tuple ds =>
        cases dp
        cases rv
        exact big _ ⟨_, rfl, rfl, rd⟩
      | dict kvs => cases dp
  · cases e
end
end DL
end
noncomputable section
namespace DL
open PySem PySem.Spec PyProof.Rows L2
end DL
end
noncomputable section
namespace DL
open PySem PySem.Spec PyProof.Rows L2
/-- a def of the text, by its name -/
structure Cal (τ : Tbs) (P : Program) (w : World) (K : PySem.W.Frag) (mg : Str → Option Value) (base : Heap) (x : Str) (k : Nat) (ps : List Str) (fs : FS) : Prop where
  ex : ∃ (f : Addr) (fd : FuncData), FnG P w K mg base k f fd ps (spD τ K ps.length fs) ∧ mg x = some (.ref f) ∧ PySem.W.keepIn K (.ref f) = true ∧ Binds K fd ps []
theorem cal_mk {P : Program} {w : World} {K : PySem.W.Frag} {mg : Str → Option Value} {base : Heap} {x qual : Str} {k : Nat} {ps : List Str} {fs : FS} {st : Stmt} {f : Addr} {fd : FuncData} (F : Fun K x qual st f fd) (hm : mg x = some (.ref f))
    (h : ∀ (kV doc pm : Value) (an : Option Addr) (cdv ct : Value) (us : List Value), us.length = ps.length → bindArgs (PySem.W.fnOf x qual (defArgs st) (defBody st) (defScope st) .none kV doc pm an cdv ct) ⟨us, []⟩ = pure (ps.zip us))
    (G : FnG P w K mg base k f fd ps (spD τ K ps.length fs)) : Cal τ P w K mg base x k ps fs := ⟨f, fd, G, hm, F.kp, F.binds h⟩
section
variable {X : Cx} {k j : Nat} {ps : List Str} {fs : FS} {x : Str} {p pos : Pos} {e a : Expr} {es : List Expr} {R : MA} {A : ME}
theorem FnG.up {P : Program} {w : World} {K : PySem.W.Frag} {mg : Str → Option Value} {base : Heap} {f : Addr} {fd : FuncData} {sp : Sp} (F : FnG P w K mg base j f fd ps sp) (h : j ≤ k) : FnG P w K mg base k f fd ps sp :=
  ⟨F.len, fun A outer s H args us vs Q E hr => F.run A outer s H args us vs Q E (hr.mono h)⟩
theorem mNil_len {ρ : DEnv} {S S' : Sto} {ws : List W} (h : mNil ρ S = some (ws, S')) : ws.length = 0 := by cases h; rfl
theorem mCons_len {n : Nat} (hR : ∀ ρ S ws S', R ρ S = some (ws, S') → ws.length = n) {ρ : DEnv} {S S' : Sto} {ws : List W} (h : mCons A R ρ S = some (ws, S')) : ws.length = n + 1 := by
  obtain ⟨⟨wx, S1⟩, e1, e2⟩ := Option.bind_eq_some_iff.mp h
  obtain ⟨⟨r, S2⟩, e3, e4⟩ := Option.bind_eq_some_iff.mp e2
  cases e4
  rw [List.length_cons, hR _ _ _ _ e3]
/-- how many arguments -/
inductive ArgN : MA → Nat → Prop
  | nil : ArgN mNil 0
  | cons {A : ME} {R : MA} {n : Nat} : ArgN R n → ArgN (mCons A R) (n + 1)
theorem ArgN.len : ∀ {R : MA} {n : Nat}, ArgN R n → ∀ ρ S ws S', R ρ S = some (ws, S') → ws.length = n
  | _, _, .nil, _, _, _, _, h => mNil_len h
  | _, _, .cons h, _, _, _, _, e => mCons_len h.len e
theorem de_callC (c : Cal τ X.prog X.w X.K X.mg X.base x j ps fs) (hr : Room k X.A) (hgd : X.A.guards = some []) (hk : j ≤ k) (hg : Gl X x) (ha : PA X (e :: es) (rdA τ X.K R)) (hn : ArgN R (e :: es).length) (hps : ps.length = (e :: es).length)
    (hdb : (x == ("__debug__" : Str)) = false := by decide) (he : starEach (e :: es) X.env = (false, eval e X.env) :: starEach es X.env := by rfl) (hpl : (backTo pos (starEach es X.env)).any (·.1) = false := by rfl) :
    PE X (.Call (.Name x p) (e :: es) [] pos) (rdE τ X.K (mCall (callF fs) R)) := by
  obtain ⟨f, fd, G, hm, kp, hb⟩ := c.ex
  exact de_call (G.up hk) hr hgd hg hm kp hb ha hps hn.len hdb he hpl
/-- + of ints, texts, tuples, lists -/
def addA : W → W → Sto → Option (W × Sto) := fun x y S => match addD x y S with
  | some r => some r
  | none => catL x y S
theorem op_addA : OpR X (binaryOp .Add) (rOp τ X.K addA) := by
  intro pins s σ H x y v u Q I rx ry h
  obtain ⟨m, S, ρ, σ', wx, wy, w, S', q, hx, hy, e, p⟩ := h
  unfold addA at e
  split at e
  · rename_i r hr
    cases e
    exact op_addD pins s σ H x y v u Q I rx ry ⟨m, S, ρ, σ', wx, wy, w, S', q, hx, hy, hr, p⟩
  · exact op_catL pins s σ H x y v u Q I rx ry ⟨m, S, ρ, σ', wx, wy, w, S', q, hx, hy, e, p⟩
end
def pairsF : Nat → List PyData → List W
  | _, [] => []
  | i, d :: ds => .d (.tuple [.int (i : Nat), d]) :: pairsF (i + 1) ds
/-- enumerate(t), enumerate(l) -/
def iEnumD (R : MA) : MI := fun ρ S => (R ρ S).bind fun p => match p.1 with
  | [.d (.tuple ds)] => some (pairsF 0 ds, p.2)
  | _ => none
end DL
end
noncomputable section
namespace DL
open PySem PySem.Spec PyProof.Rows L2
def gtD := cmpI fun i j => decide (j < i)
def leD := cmpI fun i j => decide (i ≤ j)
def geD := cmpI fun i j => decide (j ≤ i)
def FUEL : Nat := 1000000000
section
variable {X : Cx} {tg e : Expr} {A : ME} {pos : Pos} {st : Stmt}
theorem op_gtD : OpR X (compareOp .Gt) (rOp τ X.K gtD) := op_cmpI op_gt
theorem op_leD : OpR X (compareOp .LtE) (rOp τ X.K leD) := op_cmpI op_le
theorem op_geD : OpR X (compareOp .GtE) (rOp τ X.K geD) := op_cmpI op_ge
/-- in, not in: a list, a tuple -/
def inA (neg : Bool) : W → W → Sto → Option (W × Sto) := fun x y S => (deref S x).bind fun d => (seqOf S y).bind fun ds =>
  if SeqAt.shaped d && SeqAt.shaped (.list ds) then some (.d (.bool ((ds.any fun z => PyData.eqv z d) ^^ neg)), S) else none
theorem seqOf_dp {K : PySem.W.Frag} {m : List Addr} {S : Sto} {ρ : DEnv} {σ : L2.St} {H : Hp} {v : V} {w : W} {ds : List PyData} (q : Sim τ K m S ρ σ H) (r : RW τ K m H v w) (z : PyData.hasDictAll ds = false) (e : seqOf S w = some ds) : Dp K H v (.list ds) ∨ Dp K H v (.tuple ds) := by
  obtain ⟨a, xs, rfl, h, r1⟩ := seqOf_of q r e
  rcases h with h | h
  · exact .inl (.lst h (r1.dpAll z))
  · exact .inr (.tup h (r1.dpAll z))
theorem op_inA (hu : X.A.units + 65 < cLine) : OpR X (compareOp .In) (rOp τ X.K (inA false)) := by
  intro pins s σ H x y v u Q I rx ry h
  obtain ⟨m, S, ρ, σ', wx, wy, w, S', q, hx, hy, e, p⟩ := h
  obtain ⟨d, e1, e⟩ := Option.bind_eq_some_iff.mp e
  obtain ⟨ds, e2, e⟩ := Option.bind_eq_some_iff.mp e
  split at e
  · rename_i hs
    simp only [Bool.and_eq_true] at hs
    cases e
    have fin := p.now q (v := .bl (ds.any fun z => PyData.eqv z d)) (by rw [Bool.xor_false]; exact .bl _)
    obtain ⟨as, r1⟩ := Dp.reads I d x v (deref_dp q hx (hd_shaped hs.1) e1) rx
    rcases seqOf_dp q hy (by simpa [PyData.hasDict] using hd_shaped hs.2) e2 with dp | dp
    · exact op_inD hu pins s σ H x y v u Q I rx ry ⟨d, ds, deref_dp q hx (hd_shaped hs.1) e1, dp, hs.1, hs.2, fin⟩
    · obtain ⟨bs, r2⟩ := Dp.reads I _ y u dp ry
      exact SeqAt.in_tuple_reads r2 r1 (SeqAt.canLay_of_shaped hs.2) (SeqAt.canLay_of_shaped hs.1) (room_in_shaped hs.1 hu) ⟨.bl _, H, I, rfl, fin⟩
  · cases e
theorem op_notInA (hu : X.A.units + 65 < cLine) : OpR X (compareOp .NotIn) (rOp τ X.K (inA true)) := by
  intro pins s σ H x y v u Q I rx ry h
  obtain ⟨m, S, ρ, σ', wx, wy, w, S', q, hx, hy, e, p⟩ := h
  obtain ⟨d, e1, e⟩ := Option.bind_eq_some_iff.mp e
  obtain ⟨ds, e2, e⟩ := Option.bind_eq_some_iff.mp e
  split at e
  · rename_i hs
    simp only [Bool.and_eq_true] at hs
    cases e
    have fin := p.now q (v := .bl (!ds.any fun z => PyData.eqv z d)) (by rw [Bool.xor_true]; exact .bl _)
    obtain ⟨as, r1⟩ := Dp.reads I d x v (deref_dp q hx (hd_shaped hs.1) e1) rx
    rcases seqOf_dp q hy (by simpa [PyData.hasDict] using hd_shaped hs.2) e2 with dp | dp
    · exact op_notInD hu pins s σ H x y v u Q I rx ry ⟨d, ds, deref_dp q hx (hd_shaped hs.1) e1, dp, hs.1, hs.2, fin⟩
    · obtain ⟨bs, r2⟩ := Dp.reads I _ y u dp ry
      exact SeqAt.notIn_tuple_reads r2 r1 (SeqAt.canLay_of_shaped hs.2) (SeqAt.canLay_of_shaped hs.1) (room_in_shaped hs.1 hu) ⟨.bl _, H, I, rfl, fin⟩
  · cases e
/-- a locked list or a tuple is walked -/
def iSeq (A : ME) : MI := fun ρ S => (A ρ S).bind fun p => match p.1 with
  | .d (.list ds) => some (ds.map W.d, p.2)
  | .d (.tuple ds) => some (ds.map W.d, p.2)
  | _ => none
theorem di_seq (h : PE X e (rdE τ X.K A)) : PI X tg e (rdI τ X.K (iSeq A)) := by
  refine ⟨fun pins s σ H R I q => ?_⟩
  obtain ⟨m, S, ρ, ws, S', q, e1, p⟩ := q
  obtain ⟨⟨wx, S1⟩, e2, e3⟩ := Option.bind_eq_some_iff.mp e1
  have h2 : rdE τ X.K A σ H fun x H1 => ∃ a xs ds, x = .ref a ∧ (FzL X.K H1 a xs ∨ SqT X.K H1 a xs) ∧ RpAll X.K H1 xs ds ∧ ∀ J, (∀ m, Yl τ X.K m J (ds.map W.d) H1) → R J H1 := by
    refine ⟨m, S, ρ, wx, S1, q, e2, fun ext H1 x f q1 fr r => ?_⟩
    simp only at e3
    split at e3
    · cases e3
      obtain ⟨a, xs, rfl, h, r1⟩ := rp_lst r
      exact ⟨a, xs, _, rfl, .inl h, r1, fun J y => p ext J H1 f q1 fr (y _)⟩
    · cases e3
      obtain ⟨a, xs, rfl, h, r1⟩ := rp_tup r
      exact ⟨a, xs, _, rfl, .inr h, r1, fun J y => p ext J H1 f q1 fr (y _)⟩
    · cases e3
  refine thn (h.run pins s σ H _ I h2) fun v s1 ⟨x, H1, I1, r1, a, xs, ds, ex, hq, rp, k⟩ => ?_
  subst ex
  cases r1
  have grow : ∀ (o : Obj) b u, s1.heap.get? b = some u → (s1.heap.push o).get? b = some u := fun o b u z => Heap.get?_push_of_some _ z
  have here : ∀ b, b ∈ [s1.heap.objs.size] → FpOk X pins H1 b := fun b hb => by
    have z : b = s1.heap.objs.size := by simpa using hb
    subst z
    exact I1.fpOk (Nat.le_refl _) (I1.hok.fresh (Nat.le_refl _))
  rcases hq with hq | hq
  · obtain ⟨its, rv, pl, hz⟩ := I1.list hq.sq
    refine wpAny_pyIter_list pl.isList ⟨s1.heap.objs.size, [s1.heap.objs.size], _, _, H1, rfl, I1.kept (t' := s1.toks) (grow _), turn_list a _, ⟨_, Heap.get?_push_size _ rfl, rfl, rfl⟩, here, k _ fun m => ?_⟩
    refine yl_of (by rw [List.length_map, ← rp.length]; exact walk_list) (fun H' kp => (hq.mono kp).sq) fun i H' x H'' w ew kp y => ?_
    obtain ⟨rfl, hx⟩ := y
    exact ⟨fun _ _ z => z, rpAll_getV (RpAll.mono kp _ _ rp) hx ew⟩
  · obtain ⟨its, rv, pl, hz⟩ := I1.tuple hq
    refine wpAny_pyIter_tuple (show s1.heap.IsTuple a its.toArray from pl) ⟨s1.heap.objs.size, [s1.heap.objs.size], _, _, H1, rfl, I1.kept (t' := s1.toks) (grow _), turn_tuple a _, ⟨_, Heap.get?_push_size _ rfl, rfl, rfl⟩, here, k _ fun m => ?_⟩
    refine yl_of (by rw [List.length_map, ← rp.length]; exact walk_tup) (fun H' kp => sqT_mono hq kp) fun i H' x H'' w ew kp y => ?_
    obtain ⟨rfl, hx⟩ := y
    exact ⟨fun _ _ z => z, rpAll_getV (RpAll.mono kp _ _ rp) hx ew⟩
def min2D := ii2 fun i j => if j < i then j else i
def max2D := ii2 fun i j => if j > i then j else i
theorem call_min2D (hc : X.calm = true) : CallR X (.builtin "min") (rC τ X.K min2D) := call_ii2 (call_min2 hc)
end
section
variable {X : Cx}
/-- ==, !=: two texts, or data as eqD has it -/
def eqA (neg : Bool) : W → W → Sto → Option (W × Sto) := fun x y S => match x, y with
  | .d (.str a), .d (.str b) => some (.d (.bool ((a == b) ^^ neg)), S)
  | _, _ => eqD neg x y S
theorem op_eqA (hu : X.A.units + 64 < cLine) : OpR X (compareOp .Eq) (rOp τ X.K (eqA false)) := by
  intro pins s σ H x y v u Q I rx ry h
  obtain ⟨m, S, ρ, σ', wx, wy, w, S', q, hx, hy, e, p⟩ := h
  unfold eqA at e
  split at e
  · cases e
    obtain rfl := rp_str hx
    obtain rfl := rp_str hy
    exact op_eq pins s σ H _ _ v u Q I rx ry ⟨rfl, by rw [dec_str]; exact p.now q (by rw [Bool.xor_false]; exact .bl _)⟩
  · exact op_eqDD hu pins s σ H x y v u Q I rx ry ⟨m, S, ρ, σ', _, _, w, S', q, hx, hy, e, p⟩
theorem op_neA (hu : X.A.units + 64 < cLine) : OpR X (compareOp .NotEq) (rOp τ X.K (eqA true)) := by
  intro pins s σ H x y v u Q I rx ry h
  obtain ⟨m, S, ρ, σ', wx, wy, w, S', q, hx, hy, e, p⟩ := h
  unfold eqA at e
  split at e
  · cases e
    obtain rfl := rp_str hx
    obtain rfl := rp_str hy
    exact op_ne pins s σ H _ _ v u Q I rx ry ⟨rfl, by rw [dec_str]; exact p.now q (by rw [Bool.xor_true]; exact .bl _)⟩
  · exact op_neDD hu pins s σ H x y v u Q I rx ry ⟨m, S, ρ, σ', _, _, w, S', q, hx, hy, e, p⟩
end
end DL
end
noncomputable section
namespace DL
open PySem PySem.Spec PyProof.Rows L2
section
variable {S : Sto} {i j : Int} {ρ ρ' : DEnv} {A B : ME}
theorem ev_add : addA (.d (.int i)) (.d (.int j)) S = some (.d (.int (i + j)), S) := rfl
theorem ev_addT {x y : List PyData} (h : x.length + y.length ≤ sizeLine) : addA (.d (.tuple x)) (.d (.tuple y)) S = some (.d (.tuple (x ++ y)), S) := by simp [addA, addD, h]
theorem ev_addL {x y : List PyData} (h : x.length + y.length ≤ sizeLine) : addA (.d (.list x)) (.d (.list y)) S = some (.d (.list (x ++ y)), S) := by simp [addA, addD, catL, deref, h]
theorem ev_sub : subD (.d (.int i)) (.d (.int j)) S = some (.d (.int (i - j)), S) := rfl
theorem ev_iadd : iaddI (.d (.int i)) (.d (.int j)) S = some (.d (.int (i + j)), S) := rfl
theorem ev_isub : isubI (.d (.int i)) (.d (.int j)) S = some (.d (.int (i - j)), S) := rfl
theorem ev_mul (h : i.natAbs.log2 + j.natAbs.log2 < 1000000) : mulD (.d (.int i)) (.d (.int j)) S = some (.d (.int (i * j)), S) := by simp only [mulD, if_pos h]
theorem ev_mod (h : 0 < j) : modD (.d (.int i)) (.d (.int j)) S = some (.d (.int (i % j)), S) := by simp [modD, iiD, modOk, h]
theorem ev_fdiv (h : 0 < j) (h2 : j.natAbs.log2 < 9000) : fdivD (.d (.int i)) (.d (.int j)) S = some (.d (.int (i / j)), S) := by simp [fdivD, iiD, divOk, h, h2]
theorem ev_pow (h : 0 ≤ j) (h2 : j ≤ 1000000) (h3 : i.natAbs < 2 ^ 64) : powD (.d (.int i)) (.d (.int j)) S = some (.d (.int (i ^ j.toNat)), S) := by simp [powD, iiD, powOk, h, h2, h3]
theorem ev_lt : ltD (.d (.int i)) (.d (.int j)) S = some (.d (.bool (decide (i < j))), S) := by
  by_cases h : i < j <;> by_cases h2 : i = j <;> simp [ltD, ofP, kindC, toP, PyData.depth, ltC, cmpC, cmpI2, h, h2]
theorem ev_gt : gtD (.d (.int i)) (.d (.int j)) S = some (.d (.bool (decide (j < i))), S) := by simp [gtD, cmpI, iiD, yes2]
theorem ev_le : leD (.d (.int i)) (.d (.int j)) S = some (.d (.bool (decide (i ≤ j))), S) := by simp [leD, cmpI, iiD, yes2]
theorem ev_ge : geD (.d (.int i)) (.d (.int j)) S = some (.d (.bool (decide (j ≤ i))), S) := by simp [geD, cmpI, iiD, yes2]
theorem ev_eq : eqA false (.d (.int i)) (.d (.int j)) S = some (.d (.bool (decide (i = j))), S) := by
  simp [eqA, eqD, deref, SeqAt.shaped, PyData.eqv, PyData.canLay0, PyData.depth]
  by_cases h : i = j <;> simp [h]
theorem ev_ne : eqA true (.d (.int i)) (.d (.int j)) S = some (.d (.bool (!decide (i = j))), S) := by
  simp [eqA, eqD, deref, SeqAt.shaped, PyData.eqv, PyData.canLay0, PyData.depth]
  by_cases h : i = j <;> simp [h]
theorem ev_min : min2D [.d (.int i), .d (.int j)] S = some (.d (.int (if j < i then j else i)), S) := rfl
theorem ev_max : max2D [.d (.int i), .d (.int j)] S = some (.d (.int (if j > i then j else i)), S) := rfl
theorem ev_int : intD [.d (.int i)] S = some (.d (.int i), S) := rfl
theorem ev_abs : absD [.d (.int i)] S = some (.d (.int i.natAbs), S) := by simp [absD, on1]; omega
end
theorem sz1 : 1 ≤ sizeLine := by decide
theorem sz2 : 2 ≤ sizeLine := by decide
theorem sz3 : 3 ≤ sizeLine := by decide
theorem sz4 : 4 ≤ sizeLine := by decide
theorem sz5 : 5 ≤ sizeLine := by decide
theorem sz6 : 6 ≤ sizeLine := by decide
theorem sz7 : 7 ≤ sizeLine := by decide
theorem sz8 : 8 ≤ sizeLine := by decide
theorem szp : 0 < sizeLine := by decide
theorem callF_pure {f : FS} {ws : List W} {x : PyData} {S : Sto} (h0 : firstLoc ws = none) (h : f ws [] = some (.d x, [])) : callF f ws S = some (.d x, S) := by simp [callF, h0, h]
theorem callF_loc {f : FS} {ws : List W} {x : PyData} {S : Sto} {n : Nat} {ob ob' : Ob} (h0 : firstLoc ws = some n) (h1 : allLoc n ws = true) (h2 : S[n]? = some ob) (h3 : obD ob = true) (h : f (ws.map toZero) [ob] = some (.d x, [ob'])) (h4 : obD ob' = true) : callF f ws S = some (.d x, S.set n ob') := by
  simp [callF, h0, h1, h2, h3, h, h4]
theorem runF_ret {N : Nat} {b : MS} {ws : List W} {x : PyData} {S S' : Sto} (h : ∃ ρ', b (ws.map some ++ List.replicate (N - ws.length) none) S = some (.rt (.d x), ρ', S')) (hS : (S'.take S.length).all obD = true) : runF N b ws S = some (.d x, S'.take S.length) := by
  obtain ⟨ρ', h⟩ := h
  simp only [runF, h, Option.bind_some, leave, hS, if_true]
theorem runF_ret0 {N : Nat} {b : MS} {ws : List W} {x : PyData} (h : ∃ ρ' S', b (ws.map some ++ List.replicate (N - ws.length) none) [] = some (.rt (.d x), ρ', S')) : runF N b ws [] = some (.d x, []) := by
  obtain ⟨ρ', S', h⟩ := h
  have := runF_ret (N := N) (ws := ws) ⟨_, h⟩ (by simp)
  simpa using this
theorem runF_ret1 {N : Nat} {b : MS} {ws : List W} {x : PyData} {ob ob' : Ob} (h : ∃ ρ' S', b (ws.map some ++ List.replicate (N - ws.length) none) [ob] = some (.rt (.d x), ρ', ob' :: S')) (hS : obD ob' = true) : runF N b ws [ob] = some (.d x, [ob']) := by
  obtain ⟨ρ', S', h⟩ := h
  have := runF_ret (N := N) (ws := ws) ⟨_, h⟩ (by simp [hS])
  simpa using this
theorem forL_J {g : MG} {F : MS} : ∀ {ws : List W} {J : Nat → DEnv → Sto → Prop} {k : Nat} {ρ : DEnv} {S : Sto}, (∀ i w ρ S, ws[i]? = some w → J (k + i) ρ S → ∃ ρ2 S2, ((g w ρ S).bind fun p => F p.1 p.2) = some (.nx, ρ2, S2) ∧ J (k + i + 1) ρ2 S2) → J k ρ S →
    ∃ ρ' S', forL g F ws ρ S = some (.nx, ρ', S') ∧ J (k + ws.length) ρ' S'
  | [], J, k, ρ, S, _, h => ⟨ρ, S, rfl, h⟩
  | w :: ws, J, k, ρ, S, st, h => by
    obtain ⟨ρ2, S2, e2, j⟩ := st 0 w ρ S rfl h
    obtain ⟨⟨ρ1, S1⟩, e1, e2⟩ := Option.bind_eq_some_iff.mp e2
    obtain ⟨ρ', S', e3, j2⟩ := forL_J (ws := ws) (J := J) (k := k + 1) (fun i w' ρ S e q => by
      have := st (i + 1) w' ρ S (by simpa using e) (by rw [show k + (i + 1) = k + 1 + i by omega]; exact q)
      rw [show k + (i + 1) + 1 = k + 1 + i + 1 by omega] at this
      exact this) (by rw [show k + 1 = k + 0 + 1 by omega]; exact j)
    refine ⟨ρ', S', ?_, by rw [show k + (w :: ws).length = k + 1 + ws.length by simp; omega]; exact j2⟩
    simp only [forL, e1, e2, Option.bind_some]
    exact e3
theorem rngD_get {lo : Int} {n i : Nat} {w : W} (h : (rngD lo n)[i]? = some w) : i < n ∧ w = .d (.int (lo + i)) := by
  simp only [rngD, List.getElem?_map, Option.map_eq_some_iff] at h
  obtain ⟨j, h1, rfl⟩ := h
  obtain ⟨h2, h3⟩ := List.getElem?_eq_some_iff.mp h1
  simp at h2 h3
  exact ⟨h2, by rw [← h3]⟩
theorem rngD_len {lo : Int} {n : Nat} : (rngD lo n).length = n := by simp [rngD]
theorem forL_rng {g : MG} {F : MS} {lo : Int} {n : Nat} {J : Nat → DEnv → Sto → Prop} {ρ : DEnv} {S : Sto} (st : ∀ i ρ S, i < n → J i ρ S → ∃ ρ2 S2, ((g (.d (.int (lo + i))) ρ S).bind fun p => F p.1 p.2) = some (.nx, ρ2, S2) ∧ J (i + 1) ρ2 S2) (h : J 0 ρ S) :
    ∃ ρ' S', forL g F (rngD lo n) ρ S = some (.nx, ρ', S') ∧ J n ρ' S' := by
  have := forL_J (g := g) (F := F) (ws := rngD lo n) (J := J) (k := 0) (ρ := ρ) (S := S) (fun i w ρ S e q => by
    obtain ⟨h1, rfl⟩ := rngD_get e
    simp only [Nat.zero_add] at q ⊢
    exact st i ρ S h1 q) h
  rw [rngD_len, Nat.zero_add] at this
  exact this
/-- a while: a ghost state, a measure -/
theorem whileL_J {T : MT} {F : MS} {α : Type} {J : α → DEnv → Sto → Prop} {μ : α → Nat} {P : DEnv → Sto → Prop}
    (st : ∀ a ρ S, J a ρ S → (T ρ S = some (false, S) ∧ P ρ S) ∨ (T ρ S = some (true, S) ∧ ∃ ρ2 S2, F ρ S = some (.nx, ρ2, S2) ∧ ∃ b, J b ρ2 S2 ∧ μ b < μ a)) :
    ∀ {n : Nat} {a : α} {ρ : DEnv} {S : Sto}, J a ρ S → μ a < n → ∃ ρ' S', whileL T F n ρ S = some (.nx, ρ', S') ∧ P ρ' S'
  | 0, a, ρ, S, _, h => by omega
  | n + 1, a, ρ, S, j, h => by
    rcases st a ρ S j with ⟨e, p⟩ | ⟨e, ρ2, S2, e2, b, j2, m⟩
    · exact ⟨ρ, S, by simp [whileL, e], p⟩
    · obtain ⟨ρ', S', e3, p⟩ := whileL_J st (n := n) j2 (by omega)
      exact ⟨ρ', S', by simp [whileL, e, e2, e3], p⟩
theorem seq_nx {F G : MS} {ρ ρ1 : DEnv} {S S1 : Sto} (h : F ρ S = some (.nx, ρ1, S1)) : sSeq F G ρ S = G ρ1 S1 := by simp [sSeq, h]
theorem seq_rt {F G : MS} {ρ ρ1 : DEnv} {S S1 : Sto} {w : W} (h : F ρ S = some (.rt w, ρ1, S1)) : sSeq F G ρ S = some (.rt w, ρ1, S1) := by simp [sSeq, h]
def rng1D (ws : List W) (S : Sto) : Option (List W × Sto) := match ws with
  | [.d (.int n)] => if n.toNat < 2 ^ 61 ∧ (-n).toNat < 2 ^ 61 then some (rngD 0 n.toNat, S) else none
  | _ => none
theorem iRng1D_eq {R : MA} {ρ : DEnv} {S : Sto} : iRng1D R ρ S = (R ρ S).bind fun p => rng1D p.1 p.2 := by
  unfold iRng1D rng1D
  cases R ρ S with
  | none => rfl
  | some p => rfl
theorem rng1_ok {n : Nat} {S : Sto} (h : n ≤ 1000000000) : rng1D [.d (.int n)] S = some (rngD 0 n, S) := by
  unfold rng1D
  simp only [Int.toNat_natCast]
  rw [if_pos (by omega)]
end DL
end
noncomputable section
namespace DL
open PySem PySem.Spec PyProof.Rows L2
theorem lg_le {i : Int} {k : Nat} (h : i.natAbs < 2 ^ k) : i.natAbs.log2 ≤ k := by
  by_cases h0 : i.natAbs = 0
  · rw [h0]; simp
  · exact Nat.le_of_lt ((Nat.log2_lt h0).mpr h)
def bBag : MS := sRet (mCall lstB (mCons (mC (.int 0)) (mCons (mC (.int 1234567891)) (mCons (mC (.int 0)) (mCons (mLc (iSeq (mSl (mVar 0) (oNo) (oYes (mC (.int 63))))) (gSet 1) (tTrue) (mCall absD (mCons (mVar 1) (mNil))) [1] kFrz) (mNil))))))
def fBag : FS := runF 2 bBag
def bTake : MS := sSeq (sIf (tOf (mBin (eqA false) (mBin idxD (mVar 0) (mC (.int 0))) (mC (.int 0)))) (sSeq (sAsg (mBin idxD (mBin addA (mSl (mBin idxD (mVar 0) (mC (.int 3))) (oYes (mBin idxD (mVar 0) (mC (.int 2)))) (oNo)) (mCall lstF (mCons (mC (.int 0)) (mNil)))) (mC (.int 0))) (gSet 4))
    (sSeq (sAugS (mVar 0) (mC (.int 2)) (mC (.int 1)) getF iaddI setF)
    (sSeq (sIf (tOf (mBin geD (mVar 4) (mBin powD (mC (.int 10)) (mC (.int 18))))) (sAsg (mVar 4) (gSubD (mVar 0) (mC (.int 0)) setF)) (sNil))
    (sSeq (sAsg (mBin addA (mBin addA (mBin mulD (mBin idxD (mVar 0) (mC (.int 1))) (mC (.int 48271))) (mBin modD (mCall intD (mCons (mVar 4) (mNil))) (mC (.int 2147483647)))) (mBin mulD (mC (.int 7919)) (mBin idxD (mVar 0) (mC (.int 2))))) (gSet 5))
    (sAsg (mBin modD (mCall intD (mCons (mVar 5) (mNil))) (mC (.int 2147483647))) (gSubD (mVar 0) (mC (.int 1)) setF)))))) (sNil))
    (sSeq (sIf (tOf (mBin gtD (mBin idxD (mVar 0) (mC (.int 0))) (mC (.int 0)))) (sSeq (sAsg (mBin modD (mCall intD (mCons (mBin idxD (mVar 0) (mC (.int 0))) (mNil))) (mVar 1)) (gSet 6))
    (sSeq (sAsg (mBin fdivD (mCall intD (mCons (mBin idxD (mVar 0) (mC (.int 0))) (mNil))) (mVar 1)) (gSubD (mVar 0) (mC (.int 0)) setF))
    (sRet (mVar 6)))) (sNil))
    (sSeq (sAsg (mBin modD (mCall intD (mCons (mBin mulD (mBin addA (mBin idxD (mVar 0) (mC (.int 1))) (mC (.int 1))) (mC (.int 39373))) (mNil))) (mC (.int 1000000007))) (gSet 2))
    (sSeq (sAsg (mBin modD (mCall intD (mCons (mBin mulD (mBin modD (mCall intD (mCons (mBin mulD (mVar 2) (mVar 2)) (mNil))) (mC (.int 998244353))) (mC (.int 30011))) (mNil))) (mC (.int 998244353))) (gSet 3))
    (sRet (mBin modD (mCall intD (mCons (mBin fdivD (mVar 3) (mC (.int 7))) (mNil))) (mVar 1))))))
def fTake : FS := runF 7 bTake
def bSome : MS := sRet (mBin idxD (mVar 1) (mCall (callF fTake) (mCons (mVar 0) (mCons (mCall lenD (mCons (mVar 1) (mNil))) (mNil)))))
def fSome : FS := runF 2 bSome
def bAlike : MS := sRet (vAnd (mBin (eqA false) (mVar 0) (mVar 1)) (mBin (eqA false) (mCall reprD (mCons (mVar 0) (mNil))) (mCall reprD (mCons (mVar 1) (mNil)))))
def fAlike : FS := runF 2 bAlike
def bFlat : MS := sSeq (sAsg (mCall lstB (mNil)) (gSet 1))
    (sSeq (sFor (iSeq (mVar 0)) (gSet 2) (sExpr (mMt extendF (mVar 1) (mCons (mVar 2) (mNil)))))
    (sRet (mFrz (mVar 1))))
def fFlat : FS := runF 3 bFlat
def bMixed : MS := sSeq (sAsg (mCall lstB (mNil)) (gSet 2))
    (sSeq (sFor (iSeq (mVar 1)) (gSet 3) (sExpr (mMt insertF (mVar 2) (mCons (mCall (callF fTake) (mCons (mVar 0) (mCons (mBin addA (mCall lenD (mCons (mVar 2) (mNil))) (mC (.int 1))) (mNil)))) (mCons (mVar 3) (mNil))))))
    (sRet (mFrz (mVar 2))))
def fMixed : FS := runF 4 bMixed
/-- a bag from which at most c times was taken -/
def bagOf (big seed ix : Nat) (cells : List Nat) : Ob := .lst [.d (.int big), .d (.int seed), .d (.int ix), .d (.list (cells.map fun c => .int (c : Nat)))]
structure BagOk (c : Nat) (ob : Ob) : Prop where
  ex : ∃ big seed ix cells, ob = bagOf big seed ix cells ∧ seed < 2147483647 ∧ ix ≤ c ∧ cells.length ≤ 63
theorem BagOk.up {c d : Nat} {ob : Ob} (h : BagOk c ob) (k : c ≤ d) : BagOk d ob := by
  obtain ⟨b, s, i, l, e, h1, h2, h3⟩ := h.ex
  exact ⟨b, s, i, l, e, h1, by omega, h3⟩
theorem BagOk.obD {c : Nat} {ob : Ob} (h : BagOk c ob) : obD ob = true := by
  obtain ⟨b, s, i, l, rfl, h1, h2, h3⟩ := h.ex
  simp [bagOf, DL.obD, allD]
/-- the cell that is read -/
theorem cell_ex (cells : List Nat) (ix : Nat) : ∃ c : Nat, atI (cutD (cells.map fun c => PyData.int (c : Nat)) (some (ix : Int)) none ++ [.int 0]) 0 = some (.int (c : Nat)) := by
  unfold cutD
  rw [← List.map_drop, ← List.map_take]
  cases ((cells.drop _).take _) with
  | nil => exact ⟨0, by simp [atI, ixN]⟩
  | cons c l => exact ⟨c, by
      have h : 0 < ((c :: l).map (fun c => PyData.int (c : Nat)) ++ [PyData.int 0]).length := by simp
      have e := atI_nat (xs := (c :: l).map (fun c => PyData.int (c : Nat)) ++ [PyData.int 0]) (j := 0) (v := .int c) (by simp)
      simpa using e⟩
theorem ix40 : ixN 4 0 = some 0 := by decide
theorem ix41 : ixN 4 1 = some 1 := by decide
theorem ix42 : ixN 4 2 = some 2 := by decide
section
variable {α : Type} {a b c d : α}
theorem at40 : atI [a, b, c, d] 0 = some a := rfl
theorem at41 : atI [a, b, c, d] 1 = some b := rfl
theorem at42 : atI [a, b, c, d] 2 = some c := rfl
theorem at43 : atI [a, b, c, d] 3 = some d := rfl
end
theorem pow1018 (S : Sto) : powD (.d (.int 10)) (.d (.int 18)) S = some (.d (.int 1000000000000000000), S) := by
  rw [ev_pow (by decide) (by decide) (by decide)]; rfl
theorem len_cut {α : Type} (l : List α) (a b : Option Int) : (cutD l a b).length ≤ l.length := by
  unfold cutD; rw [List.length_take, List.length_drop]; omega
def bTake1 : MS := (sIf (tOf (mBin (eqA false) (mBin idxD (mVar 0) (mC (.int 0))) (mC (.int 0)))) (sSeq (sAsg (mBin idxD (mBin addA (mSl (mBin idxD (mVar 0) (mC (.int 3))) (oYes (mBin idxD (mVar 0) (mC (.int 2)))) (oNo)) (mCall lstF (mCons (mC (.int 0)) (mNil)))) (mC (.int 0))) (gSet 4))
    (sSeq (sAugS (mVar 0) (mC (.int 2)) (mC (.int 1)) getF iaddI setF)
    (sSeq (sIf (tOf (mBin geD (mVar 4) (mBin powD (mC (.int 10)) (mC (.int 18))))) (sAsg (mVar 4) (gSubD (mVar 0) (mC (.int 0)) setF)) (sNil))
    (sSeq (sAsg (mBin addA (mBin addA (mBin mulD (mBin idxD (mVar 0) (mC (.int 1))) (mC (.int 48271))) (mBin modD (mCall intD (mCons (mVar 4) (mNil))) (mC (.int 2147483647)))) (mBin mulD (mC (.int 7919)) (mBin idxD (mVar 0) (mC (.int 2))))) (gSet 5))
    (sAsg (mBin modD (mCall intD (mCons (mVar 5) (mNil))) (mC (.int 2147483647))) (gSubD (mVar 0) (mC (.int 1)) setF)))))) (sNil))
def bTake2 : MS := (sSeq (sIf (tOf (mBin gtD (mBin idxD (mVar 0) (mC (.int 0))) (mC (.int 0)))) (sSeq (sAsg (mBin modD (mCall intD (mCons (mBin idxD (mVar 0) (mC (.int 0))) (mNil))) (mVar 1)) (gSet 6))
    (sSeq (sAsg (mBin fdivD (mCall intD (mCons (mBin idxD (mVar 0) (mC (.int 0))) (mNil))) (mVar 1)) (gSubD (mVar 0) (mC (.int 0)) setF))
    (sRet (mVar 6)))) (sNil))
    (sSeq (sAsg (mBin modD (mCall intD (mCons (mBin mulD (mBin addA (mBin idxD (mVar 0) (mC (.int 1))) (mC (.int 1))) (mC (.int 39373))) (mNil))) (mC (.int 1000000007))) (gSet 2))
    (sSeq (sAsg (mBin modD (mCall intD (mCons (mBin mulD (mBin modD (mCall intD (mCons (mBin mulD (mVar 2) (mVar 2)) (mNil))) (mC (.int 998244353))) (mC (.int 30011))) (mNil))) (mC (.int 998244353))) (gSet 3))
    (sRet (mBin modD (mCall intD (mCons (mBin fdivD (mVar 3) (mC (.int 7))) (mNil))) (mVar 1))))))
theorem bTake_eq : bTake = sSeq bTake1 bTake2 := rfl
theorem stir_ok {seed c ix : Nat} (h1 : seed < 2147483647) (h2 : ix < 2 ^ 1000) : (∀ S, mulD (.d (.int seed)) (.d (.int 48271)) S = some (.d (.int (seed * 48271)), S)) ∧ ∀ S, mulD (.d (.int 7919)) (.d (.int (ix : Nat))) S = some (.d (.int (7919 * ix)), S) := by
  refine ⟨fun S => ev_mul ?_, fun S => ev_mul ?_⟩
  · have : (seed : Int).natAbs.log2 ≤ 31 := lg_le (by omega)
    have : (48271 : Int).natAbs.log2 ≤ 16 := by decide
    omega
  · have : ((ix : Nat) : Int).natAbs.log2 ≤ 1000 := lg_le (by simpa using h2)
    have : (7919 : Int).natAbs.log2 ≤ 13 := by decide
    omega
theorem take1 {upto : Int} {big seed ix : Nat} {cells : List Nat} (h1 : seed < 2147483647) (h2 : ix + 1 < 2 ^ 1000) (h3 : cells.length ≤ 63) :
    ∃ x y big' seed' ix', bTake1 [some (.loc 0), some (.d (.int upto)), none, none, none, none, none] [bagOf big seed ix cells] = some (.nx, [some (.loc 0), some (.d (.int upto)), none, none, x, y, none], [bagOf big' seed' ix' cells]) ∧ seed' < 2147483647 ∧ ix' ≤ ix + 1 := by
  by_cases hb : big = 0
  · subst hb
    obtain ⟨c, hc⟩ := cell_ex cells ix
    have hl : (cutD (cells.map fun c => PyData.int (c : Nat)) (some (ix : Int)) none).length + [PyData.int 0].length ≤ sizeLine := by
      have := len_cut (cells.map fun c => PyData.int (c : Nat)) (some (ix : Int)) none
      rw [List.length_map] at this
      have : 64 ≤ sizeLine := by decide
      simp only [List.length_cons, List.length_nil]; omega
    have ha := fun S => ev_addL (S := S) hl
    obtain ⟨m1, m2⟩ := stir_ok (c := 0) h1 h2
    have hm := fun (z : Int) S => ev_mod (S := S) (i := z) (j := 2147483647) (by decide)
    have hs : ∀ z : Nat, ∃ s' : Nat, ((seed : Int) * 48271 + (z : Int) % 2147483647 + 7919 * ((ix : Int) + 1)) % 2147483647 = (s' : Nat) ∧ s' < 2147483647 := fun z => by
      refine ⟨(((seed : Int) * 48271 + (z : Int) % 2147483647 + 7919 * ((ix : Int) + 1)) % 2147483647).toNat, ?_, ?_⟩ <;> omega
    have m2' : ∀ S, mulD (.d (.int 7919)) (.d (.int ((ix : Int) + 1))) S = some (.d (.int (7919 * ((ix : Int) + 1))), S) := by
      intro S; have := m2 S; simpa using this
    obtain ⟨s', es, hs'⟩ := hs c
    by_cases hk : (1000000000000000000 : Int) ≤ c
    · refine ⟨some (.d (.int c)), some (.d (.int ((seed : Int) * 48271 + (c : Int) % 2147483647 + 7919 * ((ix : Int) + 1)))), c, s', ix + 1, ?_, hs', by omega⟩
      simp [bTake1, bagOf, DL.sSeq, DL.sNil, DL.sPass, DL.sBreak, DL.sCont, DL.sExpr, DL.sRet, DL.sRetN, DL.sIf, DL.sAsg, DL.sPar, DL.sAug, DL.sAugS, DL.gSet, DL.gTupD, DL.gsNil, DL.gsCons, DL.gSubD, DL.sFor, DL.iRng1D_eq, DL.mVar, DL.mC, DL.mNil, DL.mCons, DL.mCall, DL.mBin, DL.mNeg, DL.mMt, DL.mSl, DL.oNo, DL.oYes, DL.tOf, DL.tNotD, DL.tAndD, DL.tOrD, DL.tTru, DL.truD, DL.tTrue, DL.vAnd, DL.vOr, DL.vNot, DL.vIf, DL.vChain, DL.tupF, DL.lstF, DL.allD, DL.ev_add, DL.ev_sub, DL.ev_iadd, DL.ev_isub, DL.ev_lt, DL.ev_gt, DL.ev_le, DL.ev_ge, DL.ev_eq, DL.ev_ne, DL.ev_min, DL.ev_max, DL.ev_int, DL.ev_abs, DL.sz1, DL.sz2, DL.sz3, DL.sz4, DL.sz5, DL.sz6, DL.sz7, DL.sz8, DL.szp, idxD, at40, at41, at42, at43, sliceD, ha, hc, getF, setF, ix40, ix41, ix42, pow1018, hk, m1, m2', hm, es]
    · refine ⟨some (.d (.int c)), some (.d (.int ((seed : Int) * 48271 + (c : Int) % 2147483647 + 7919 * ((ix : Int) + 1)))), 0, s', ix + 1, ?_, hs', by omega⟩
      simp [bTake1, bagOf, DL.sSeq, DL.sNil, DL.sPass, DL.sBreak, DL.sCont, DL.sExpr, DL.sRet, DL.sRetN, DL.sIf, DL.sAsg, DL.sPar, DL.sAug, DL.sAugS, DL.gSet, DL.gTupD, DL.gsNil, DL.gsCons, DL.gSubD, DL.sFor, DL.iRng1D_eq, DL.mVar, DL.mC, DL.mNil, DL.mCons, DL.mCall, DL.mBin, DL.mNeg, DL.mMt, DL.mSl, DL.oNo, DL.oYes, DL.tOf, DL.tNotD, DL.tAndD, DL.tOrD, DL.tTru, DL.truD, DL.tTrue, DL.vAnd, DL.vOr, DL.vNot, DL.vIf, DL.vChain, DL.tupF, DL.lstF, DL.allD, DL.ev_add, DL.ev_sub, DL.ev_iadd, DL.ev_isub, DL.ev_lt, DL.ev_gt, DL.ev_le, DL.ev_ge, DL.ev_eq, DL.ev_ne, DL.ev_min, DL.ev_max, DL.ev_int, DL.ev_abs, DL.sz1, DL.sz2, DL.sz3, DL.sz4, DL.sz5, DL.sz6, DL.sz7, DL.sz8, DL.szp, idxD, at40, at41, at42, at43, sliceD, ha, hc, getF, setF, ix40, ix41, ix42, pow1018, hk, m1, m2', hm, es]
  · refine ⟨none, none, big, seed, ix, ?_, h1, by omega⟩
    simp [bTake1, bagOf, DL.sSeq, DL.sNil, DL.sPass, DL.sBreak, DL.sCont, DL.sExpr, DL.sRet, DL.sRetN, DL.sIf, DL.sAsg, DL.sPar, DL.sAug, DL.sAugS, DL.gSet, DL.gTupD, DL.gsNil, DL.gsCons, DL.gSubD, DL.sFor, DL.iRng1D_eq, DL.mVar, DL.mC, DL.mNil, DL.mCons, DL.mCall, DL.mBin, DL.mNeg, DL.mMt, DL.mSl, DL.oNo, DL.oYes, DL.tOf, DL.tNotD, DL.tAndD, DL.tOrD, DL.tTru, DL.truD, DL.tTrue, DL.vAnd, DL.vOr, DL.vNot, DL.vIf, DL.vChain, DL.tupF, DL.lstF, DL.allD, DL.ev_add, DL.ev_sub, DL.ev_iadd, DL.ev_isub, DL.ev_lt, DL.ev_gt, DL.ev_le, DL.ev_ge, DL.ev_eq, DL.ev_ne, DL.ev_min, DL.ev_max, DL.ev_int, DL.ev_abs, DL.sz1, DL.sz2, DL.sz3, DL.sz4, DL.sz5, DL.sz6, DL.sz7, DL.sz8, DL.szp, idxD, at40, hb]
theorem take2 {upto : Int} {big seed ix : Nat} {cells : List Nat} {x y : Option W} (hu : 0 < upto) (hl : upto.natAbs.log2 < 9000) (h1 : seed < 2147483647) :
    ∃ ρ' v big', bTake2 [some (.loc 0), some (.d (.int upto)), none, none, x, y, none] [bagOf big seed ix cells] = some (.rt (.d (.int v)), ρ', [bagOf big' seed ix cells]) ∧ 0 ≤ v ∧ v < upto := by
  have hm := fun (z : Int) S => ev_mod (S := S) (i := z) (j := upto) hu
  have hd := fun (z : Int) S => ev_fdiv (S := S) (i := z) (j := upto) hu hl
  by_cases hb : big = 0
  · subst hb
    have hp := fun (z : Int) S => ev_mod (S := S) (i := z) (j := 1000000007) (by decide)
    have hq := fun (z : Int) S => ev_mod (S := S) (i := z) (j := 998244353) (by decide)
    have h7 := fun (z : Int) S => ev_fdiv (S := S) (i := z) (j := 7) (by decide) (by decide)
    have m1 : ∀ S, mulD (.d (.int ((seed : Int) + 1))) (.d (.int 39373)) S = some (.d (.int (((seed : Int) + 1) * 39373)), S) := fun S => ev_mul (by
      have : ((seed : Int) + 1).natAbs.log2 ≤ 32 := lg_le (by omega)
      have : (39373 : Int).natAbs.log2 ≤ 16 := by decide
      omega)
    obtain ⟨bg, hbg⟩ : ∃ bg, ((seed : Int) + 1) * 39373 % 1000000007 = bg := ⟨_, rfl⟩
    have hb1 : 0 ≤ bg ∧ bg < 1000000007 := by omega
    have m2 : ∀ S, mulD (.d (.int bg)) (.d (.int bg)) S = some (.d (.int (bg * bg)), S) := fun S => ev_mul (by
      have : bg.natAbs.log2 ≤ 30 := lg_le (by omega)
      omega)
    obtain ⟨sc, hsc⟩ : ∃ sc, bg * bg % 998244353 = sc := ⟨_, rfl⟩
    have hs1 : 0 ≤ sc ∧ sc < 998244353 := by
      rw [← hsc]; exact ⟨Int.emod_nonneg _ (by decide), Int.emod_lt_of_pos _ (by decide)⟩
    have m3 : ∀ S, mulD (.d (.int sc)) (.d (.int 30011)) S = some (.d (.int (sc * 30011)), S) := fun S => ev_mul (by
      have : sc.natAbs.log2 ≤ 30 := lg_le (by omega)
      have : (30011 : Int).natAbs.log2 ≤ 16 := by decide
      omega)
    refine ⟨[some (.loc 0), some (.d (.int upto)), some (.d (.int bg)), some (.d (.int (sc * 30011 % 998244353))), x, y, none], sc * 30011 % 998244353 / 7 % upto, 0, ?_, Int.emod_nonneg _ (by omega), Int.emod_lt_of_pos _ hu⟩
    simp [bTake2, bagOf, DL.sSeq, DL.sNil, DL.sPass, DL.sBreak, DL.sCont, DL.sExpr, DL.sRet, DL.sRetN, DL.sIf, DL.sAsg, DL.sPar, DL.sAug, DL.sAugS, DL.gSet, DL.gTupD, DL.gsNil, DL.gsCons, DL.gSubD, DL.sFor, DL.iRng1D_eq, DL.mVar, DL.mC, DL.mNil, DL.mCons, DL.mCall, DL.mBin, DL.mNeg, DL.mMt, DL.mSl, DL.oNo, DL.oYes, DL.tOf, DL.tNotD, DL.tAndD, DL.tOrD, DL.tTru, DL.truD, DL.tTrue, DL.vAnd, DL.vOr, DL.vNot, DL.vIf, DL.vChain, DL.tupF, DL.lstF, DL.allD, DL.ev_add, DL.ev_sub, DL.ev_iadd, DL.ev_isub, DL.ev_lt, DL.ev_gt, DL.ev_le, DL.ev_ge, DL.ev_eq, DL.ev_ne, DL.ev_min, DL.ev_max, DL.ev_int, DL.ev_abs, DL.sz1, DL.sz2, DL.sz3, DL.sz4, DL.sz5, DL.sz6, DL.sz7, DL.sz8, DL.szp, idxD, at40, at41, hm, hp, hq, h7, m1, hbg, m2, hsc, m3]
  · have hg : 0 < (big : Int) := by omega
    have he : ∃ b' : Nat, (big : Int) / upto = b' := ⟨((big : Int) / upto).toNat, (Int.toNat_of_nonneg (Int.ediv_nonneg (by omega) (by omega))).symm⟩
    obtain ⟨b', hb'⟩ := he
    refine ⟨[some (.loc 0), some (.d (.int upto)), none, none, x, y, some (.d (.int ((big : Int) % upto)))], (big : Int) % upto, b', ?_, Int.emod_nonneg _ (by omega), Int.emod_lt_of_pos _ hu⟩
    have hg' : 0 < big := by omega
    simp [bTake2, bagOf, DL.sSeq, DL.sNil, DL.sPass, DL.sBreak, DL.sCont, DL.sExpr, DL.sRet, DL.sRetN, DL.sIf, DL.sAsg, DL.sPar, DL.sAug, DL.sAugS, DL.gSet, DL.gTupD, DL.gsNil, DL.gsCons, DL.gSubD, DL.sFor, DL.iRng1D_eq, DL.mVar, DL.mC, DL.mNil, DL.mCons, DL.mCall, DL.mBin, DL.mNeg, DL.mMt, DL.mSl, DL.oNo, DL.oYes, DL.tOf, DL.tNotD, DL.tAndD, DL.tOrD, DL.tTru, DL.truD, DL.tTrue, DL.vAnd, DL.vOr, DL.vNot, DL.vIf, DL.vChain, DL.tupF, DL.lstF, DL.allD, DL.ev_add, DL.ev_sub, DL.ev_iadd, DL.ev_isub, DL.ev_lt, DL.ev_gt, DL.ev_le, DL.ev_ge, DL.ev_eq, DL.ev_ne, DL.ev_min, DL.ev_max, DL.ev_int, DL.ev_abs, DL.sz1, DL.sz2, DL.sz3, DL.sz4, DL.sz5, DL.sz6, DL.sz7, DL.sz8, DL.szp, idxD, at40, at41, hm, hd, hg', setF, ix40, hb']
theorem take_ok {c n : Nat} {ob : Ob} {S : Sto} {upto : Int} (hS : S[n]? = some ob) (hb : BagOk c ob) (hc : c + 1 < 2 ^ 1000) (hu : 0 < upto) (hl : upto.natAbs.log2 < 9000) :
    ∃ v ob', callF fTake [.loc n, .d (.int upto)] S = some (.d (.int v), S.set n ob') ∧ 0 ≤ v ∧ v < upto ∧ BagOk (c + 1) ob' := by
  obtain ⟨big, seed, ix, cells, rfl, h1, h2, h3⟩ := hb.ex
  obtain ⟨x, y, big', seed', ix', e1, k1, k2⟩ := take1 (upto := upto) (big := big) (ix := ix) h1 (by omega) h3
  obtain ⟨ρ', v, big2, e2, v0, v1⟩ := take2 (big := big') (seed := seed') (ix := ix') (cells := cells) (x := x) (y := y) hu hl k1
  have hb2 : BagOk (c + 1) (bagOf big2 seed' ix' cells) := ⟨big2, seed', ix', cells, rfl, k1, by omega, h3⟩
  refine ⟨v, _, callF_loc (n := n) rfl (by simp [allLoc]) hS hb.obD (runF_ret1 ⟨ρ', [], ?_⟩ hb2.obD) hb2.obD, v0, v1, hb2⟩
  rw [bTake_eq]
  show sSeq bTake1 bTake2 [some (.loc 0), some (.d (.int upto)), none, none, none, none, none] _ = _
  rw [seq_nx e1, e2]
end DL
end
noncomputable section
namespace DL
open PySem PySem.Spec PyProof.Rows L2
structure Nice (B w dp : Nat) (d : PyData) : Prop where
  lay : d.canLay0 = true
  dep : d.depth ≤ dp
  sh : d.showable = true
  nd : d.hasDict = false
  ls : d.leavesShort B = true
  wt : d.weight ≤ w
  eq : PyData.eqv d d = true
structure NiceAll (B w dp : Nat) (xs : List PyData) : Prop where
  lay : PyData.canLayAll0 xs = true
  dep : PyData.depthAll xs ≤ dp
  sh : PyData.showableAll xs = true
  nd : PyData.hasDictAll xs = false
  ls : PyData.leavesShortAll B xs = true
  wt : PyData.weightAll xs ≤ w
  eq : PyData.eqvAll xs xs = true
section
variable {B w dp w' dp' : Nat} {d : PyData} {xs : List PyData}
theorem Nice.up (h : Nice B w dp d) (k1 : w ≤ w') (k2 : dp ≤ dp') : Nice B w' dp' d := ⟨h.lay, Nat.le_trans h.dep k2, h.sh, h.nd, h.ls, Nat.le_trans h.wt k1, h.eq⟩
theorem NiceAll.up (h : NiceAll B w dp xs) (k1 : w ≤ w') (k2 : dp ≤ dp') : NiceAll B w' dp' xs := ⟨h.lay, Nat.le_trans h.dep k2, h.sh, h.nd, h.ls, Nat.le_trans h.wt k1, h.eq⟩
theorem niceNil : NiceAll B 0 dp [] := ⟨rfl, Nat.zero_le _, rfl, rfl, rfl, Nat.le_refl _, rfl⟩
theorem niceCons (h : Nice B w dp d) (t : NiceAll B w' dp xs) : NiceAll B (w + 1 + w') dp (d :: xs) := by
  refine ⟨?_, ?_, ?_, ?_, ?_, ?_, ?_⟩
  · simp [PyData.canLayAll0, h.lay, t.lay]
  · simp only [PyData.depthAll]; exact Nat.max_le.mpr ⟨h.dep, t.dep⟩
  · simp [PyData.showableAll, h.sh, t.sh]
  · simp [PyData.hasDictAll, h.nd, t.nd]
  · simp [PyData.leavesShortAll, h.ls, t.ls]
  · simp only [PyData.weightAll]; have := h.wt; have := t.wt; omega
  · simp [PyData.eqvAll, h.eq, t.eq]
theorem niceAll_of : ∀ {xs : List PyData}, (∀ d ∈ xs, Nice B w dp d) → NiceAll B ((w + 1) * xs.length) dp xs
  | [], _ => niceNil
  | d :: xs, h => by
    have := niceCons (h d (by simp)) (niceAll_of (xs := xs) fun e hd => h e (by simp [hd]))
    rw [List.length_cons, Nat.mul_succ, Nat.add_comm]; exact this
theorem niceList (t : NiceAll B w dp xs) : Nice B w (dp + 1) (.list xs) := ⟨by simpa [PyData.canLay0] using t.lay, by simp only [PyData.depth]; exact Nat.succ_le_succ t.dep, by simpa [PyData.showable] using t.sh, by simpa [PyData.hasDict] using t.nd, by simpa [PyData.leavesShort] using t.ls, by simpa [PyData.weight] using t.wt, by simpa [PyData.eqv] using t.eq⟩
theorem niceTup (t : NiceAll B w dp xs) : Nice B w (dp + 1) (.tuple xs) := ⟨by simpa [PyData.canLay0] using t.lay, by simp only [PyData.depth]; exact Nat.succ_le_succ t.dep, by simpa [PyData.showable] using t.sh, by simpa [PyData.hasDict] using t.nd, by simpa [PyData.leavesShort] using t.ls, by simpa [PyData.weight] using t.wt, by simpa [PyData.eqv] using t.eq⟩
theorem ten_two (k : Nat) : 10 ^ k ≤ 2 ^ (4 * k) := by
  rw [Nat.pow_mul]; exact Nat.pow_le_pow_left (by decide) k
theorem niceInt {i : Int} {k : Nat} (h : i.natAbs < 10 ^ k) (hk : 0 < k) (hB : k + 1 ≤ B) (h4 : k < 480) : Nice B (4 * k + 1) dp (.int i) := by
  have hl : i.natAbs.log2 ≤ 4 * k := by
    by_cases h0 : i.natAbs = 0
    · rw [h0]; simp
    · exact Nat.le_of_lt ((Nat.log2_lt h0).mpr (Nat.lt_of_lt_of_le h (ten_two k)))
  refine ⟨rfl, Nat.zero_le _, by simp only [PyData.showable, decide_eq_true_eq]; omega, rfl, ?_, ?_, by simp [PyData.eqv]⟩
  · have e := int_text_length_le10 hk h
    simp only [PyData.leavesShort, decide_eq_true_eq]
    show (Str.ofString (toString i)).length ≤ B
    rw [PySem.ofString_length]; omega
  · simp only [PyData.weight]; split <;> omega
theorem Nice.shaped (h : Nice B w dp d) (k : dp ≤ 64) : SeqAt.shaped d = true := by
  simp only [SeqAt.shaped, h.lay, Bool.true_and, decide_eq_true_eq]; exact Nat.le_trans h.dep k
theorem Nice.reprOk (h : Nice B w dp d) (k : dp ≤ 64) (hB : 8 ≤ B) (hw : (B + 2) * w + B ≤ sizeLine) : reprOk d = true := by
  have h1 := PyData.shown_le B hB d h.ls
  have h2 := Nat.mul_le_mul_left (B + 2) h.wt
  simp only [DL.reprOk, h.sh, h.nd, Bool.not_false, Bool.and_true, Bool.true_and, Bool.and_eq_true, decide_eq_true_eq]
  exact ⟨Nat.le_trans h.dep k, by omega⟩
theorem eqA_self {S : Sto} (h : SeqAt.shaped d = true) (k : PyData.eqv d d = true) : eqA false (.d d) (.d d) S = some (.d (.bool true), S) := by
  unfold eqA
  split
  · rename_i a b e1 e2
    cases e1; cases e2
    simp
  · simp [eqD, deref, h, k]
theorem alike_ok (h : Nice B w dp d) (k : dp ≤ 64) (hB : 8 ≤ B) (hw : (B + 2) * w + B ≤ sizeLine) (S : Sto) : callF fAlike [.d d, .d d] S = some (.d (.bool true), S) := by
  refine callF_pure rfl (runF_ret0 ?_)
  have h1 := h.reprOk k hB hw
  have h2 := fun S => eqA_self (S := S) (h.shaped k) h.eq
  have h3 : ∀ S, eqA false (.d (.str d.shown)) (.d (.str d.shown)) S = some (.d (.bool true), S) := fun S => by simp [eqA]
  simp [bAlike, DL.sSeq, DL.sNil, DL.sPass, DL.sBreak, DL.sCont, DL.sExpr, DL.sRet, DL.sRetN, DL.sIf, DL.sAsg, DL.sPar, DL.sAug, DL.sAugS, DL.gSet, DL.gTupD, DL.gsNil, DL.gsCons, DL.gSubD, DL.sFor, DL.iRng1D_eq, DL.mVar, DL.mC, DL.mNil, DL.mCons, DL.mCall, DL.mBin, DL.mNeg, DL.mMt, DL.mSl, DL.oNo, DL.oYes, DL.tOf, DL.tNotD, DL.tAndD, DL.tOrD, DL.tTru, DL.truD, DL.tTrue, DL.vAnd, DL.vOr, DL.vNot, DL.vIf, DL.vChain, DL.tupF, DL.lstF, DL.allD, DL.ev_add, DL.ev_sub, DL.ev_iadd, DL.ev_isub, DL.ev_lt, DL.ev_gt, DL.ev_le, DL.ev_ge, DL.ev_eq, DL.ev_ne, DL.ev_min, DL.ev_max, DL.ev_int, DL.ev_abs, DL.sz1, DL.sz2, DL.sz3, DL.sz4, DL.sz5, DL.sz6, DL.sz7, DL.sz8, DL.szp, reprD, on1, deref, h1, h2, h3]
end
end DL
end
noncomputable section
namespace DL
open PySem PySem.Spec PyProof.Rows L2
theorem atI_nn {α : Type} {xs : List α} {v : Int} (h0 : 0 ≤ v) (h : v < xs.length) : ∃ x ∈ xs, atI xs v = some x ∧ xs[v.toNat]? = some x := by
  obtain ⟨n, rfl⟩ := Int.eq_ofNat_of_zero_le h0
  have hn : n < xs.length := by omega
  exact ⟨xs[n], List.getElem_mem hn, atI_nat (List.getElem?_eq_getElem hn), by simp [hn]⟩
theorem size_lg {n : Nat} (h : n ≤ sizeLine) : (n : Int).natAbs.log2 < 9000 := by
  have : (n : Int).natAbs.log2 ≤ 25 := lg_le (by
    have : sizeLine < 2 ^ 25 := by decide
    simp; omega)
  omega
/-- a choice from a list -/
theorem some_ok {c n : Nat} {ob : Ob} {S : Sto} {xs : List PyData} (hS : S[n]? = some ob) (hb : BagOk c ob) (hc : c + 1 < 2 ^ 1000) (h0 : xs ≠ []) (hx : xs.length ≤ sizeLine) :
    ∃ x ∈ xs, ∃ ob', callF fSome [.loc n, .d (.list xs)] S = some (.d x, S.set n ob') ∧ BagOk (c + 1) ob' := by
  have hp : 0 < xs.length := List.length_pos_iff.mpr h0
  obtain ⟨v, ob', e, v0, v1, hb'⟩ := take_ok (S := [ob]) (n := 0) (upto := xs.length) rfl hb hc (by omega) (size_lg hx)
  obtain ⟨x, hm, ex, _⟩ := atI_nn v0 v1
  refine ⟨x, hm, ob', callF_loc (n := n) rfl (by simp [allLoc]) hS hb.obD (runF_ret1 ?_ hb'.obD) hb'.obD, hb'⟩
  simp only [List.set_cons_zero] at e
  simp [bSome, DL.sSeq, DL.sNil, DL.sPass, DL.sBreak, DL.sCont, DL.sExpr, DL.sRet, DL.sRetN, DL.sIf, DL.sAsg, DL.sPar, DL.sAug, DL.sAugS, DL.gSet, DL.gTupD, DL.gsNil, DL.gsCons, DL.gSubD, DL.sFor, DL.iRng1D_eq, DL.mVar, DL.mC, DL.mNil, DL.mCons, DL.mCall, DL.mBin, DL.mNeg, DL.mMt, DL.mSl, DL.oNo, DL.oYes, DL.tOf, DL.tNotD, DL.tAndD, DL.tOrD, DL.tTru, DL.truD, DL.tTrue, DL.vAnd, DL.vOr, DL.vNot, DL.vIf, DL.vChain, DL.tupF, DL.lstF, DL.allD, DL.ev_add, DL.ev_sub, DL.ev_iadd, DL.ev_isub, DL.ev_lt, DL.ev_gt, DL.ev_le, DL.ev_ge, DL.ev_eq, DL.ev_ne, DL.ev_min, DL.ev_max, DL.ev_int, DL.ev_abs, DL.sz1, DL.sz2, DL.sz3, DL.sz4, DL.sz5, DL.sz6, DL.sz7, DL.sz8, DL.szp, toZero, lenD, on1, len0, e, idxD, ex]
theorem allD_flat (rows : List (List PyData)) : allD (rows.map (List.map W.d)).flatten = some rows.flatten := by
  rw [← List.map_flatten]; exact allD_map _
/-- rows in one -/
theorem flat_ok (rows : List (List PyData)) (h : rows.flatten.length ≤ sizeLine) (S : Sto) : callF fFlat [.d (.list (rows.map .list))] S = some (.d (.list rows.flatten), S) := by
  refine callF_pure rfl (runF_ret0 ?_)
  obtain ⟨ρ', S', e, x, rfl, rfl⟩ := forL_J (g := gSet 2) (F := sExpr (mMt extendF (mVar 1) (mCons (mVar 2) (mNil)))) (ws := (rows.map PyData.list).map W.d) (k := 0)
    (J := fun i ρ S => ∃ x, ρ = [some (.d (.list (rows.map .list))), some (.loc 0), x] ∧ S = [.lst ((rows.take i).flatten.map W.d)]) (ρ := [some (.d (.list (rows.map .list))), some (.loc 0), none]) (S := [.lst []]) (fun i w ρ S hw ⟨x, e1, e2⟩ => by
      subst e1 e2
      simp only [List.getElem?_map, Option.map_eq_some_iff, Nat.zero_add] at hw ⊢
      obtain ⟨_, ⟨r, hr, rfl⟩, rfl⟩ := hw
      have hi := (List.getElem?_eq_some_iff.mp hr).1
      have ht : rows.take (i + 1) = rows.take i ++ [r] := by rw [List.take_succ, hr]; rfl
      have hlen : ((rows.take i).flatten.map W.d).length + r.length ≤ sizeLine := by
        have h1 : (rows.take (i + 1)).flatten.length ≤ rows.flatten.length := by
          conv => rhs; rw [← List.take_append_drop (i + 1) rows, List.flatten_append, List.length_append]
          omega
        rw [ht, List.flatten_append, List.length_append] at h1
        have h2 : [r].flatten.length = r.length := by simp
        rw [List.length_map]; omega
      rw [ht]
      simp [DL.sSeq, DL.sNil, DL.sPass, DL.sBreak, DL.sCont, DL.sExpr, DL.sRet, DL.sRetN, DL.sIf, DL.sAsg, DL.sPar, DL.sAug, DL.sAugS, DL.gSet, DL.gTupD, DL.gsNil, DL.gsCons, DL.gSubD, DL.sFor, DL.iRng1D_eq, DL.mVar, DL.mC, DL.mNil, DL.mCons, DL.mCall, DL.mBin, DL.mNeg, DL.mMt, DL.mSl, DL.oNo, DL.oYes, DL.tOf, DL.tNotD, DL.tAndD, DL.tOrD, DL.tTru, DL.truD, DL.tTrue, DL.vAnd, DL.vOr, DL.vNot, DL.vIf, DL.vChain, DL.tupF, DL.lstF, DL.allD, DL.ev_add, DL.ev_sub, DL.ev_iadd, DL.ev_isub, DL.ev_lt, DL.ev_gt, DL.ev_le, DL.ev_ge, DL.ev_eq, DL.ev_ne, DL.ev_min, DL.ev_max, DL.ev_int, DL.ev_abs, DL.sz1, DL.sz2, DL.sz3, DL.sz4, DL.sz5, DL.sz6, DL.sz7, DL.sz8, DL.szp, isLst, extendF, onL, deref] at hlen ⊢
      simp [hlen]) ⟨none, by simp, by simp⟩
  simp only [Nat.zero_add, List.length_map] at e ⊢
  simp at e
  simp [bFlat, DL.sSeq, DL.sNil, DL.sPass, DL.sBreak, DL.sCont, DL.sExpr, DL.sRet, DL.sRetN, DL.sIf, DL.sAsg, DL.sPar, DL.sAug, DL.sAugS, DL.gSet, DL.gTupD, DL.gsNil, DL.gsCons, DL.gSubD, DL.sFor, DL.iRng1D_eq, DL.mVar, DL.mC, DL.mNil, DL.mCons, DL.mCall, DL.mBin, DL.mNeg, DL.mMt, DL.mSl, DL.oNo, DL.oYes, DL.tOf, DL.tNotD, DL.tAndD, DL.tOrD, DL.tTru, DL.truD, DL.tTrue, DL.vAnd, DL.vOr, DL.vNot, DL.vIf, DL.vChain, DL.tupF, DL.lstF, DL.allD, DL.ev_add, DL.ev_sub, DL.ev_iadd, DL.ev_isub, DL.ev_lt, DL.ev_gt, DL.ev_le, DL.ev_ge, DL.ev_eq, DL.ev_ne, DL.ev_min, DL.ev_max, DL.ev_int, DL.ev_abs, DL.sz1, DL.sz2, DL.sz3, DL.sz4, DL.sz5, DL.sz6, DL.sz7, DL.sz8, DL.szp, lstB, iSeq, mFrz, e, allD_flat]
/-- what the mixing makes of a list: the same things -/
theorem mix_step {c : Nat} {ob : Ob} {acc : List PyData} {x : PyData} {y : Option W} {xs : List PyData} (hb : BagOk c ob) (hc : c + 1 < 2 ^ 1000) (hl : acc.length < sizeLine) :
    ∃ ρ2 S2, ((gSet 3 (.d x) [some (.loc 0), some (.d (.list xs)), some (.loc 1), y] [ob, .lst (acc.map W.d)]).bind fun p => sExpr (mMt insertF (mVar 2) (mCons (mCall (callF fTake) (mCons (mVar 0) (mCons (mBin addA (mCall lenD (mCons (mVar 2) (mNil))) (mC (.int 1))) (mNil)))) (mCons (mVar 3) (mNil)))) p.1 p.2) = some (.nx, ρ2, S2) ∧
    ∃ y ob', ∃ acc' : List PyData, ρ2 = [some (.loc 0), some (.d (.list xs)), some (.loc 1), y] ∧ S2 = [ob', .lst (acc'.map W.d)] ∧ BagOk (c + 1) ob' ∧ acc'.Perm (x :: acc) := by
  obtain ⟨v, ob', e, v0, v1, hb'⟩ := take_ok (S := [ob, .lst (acc.map W.d)]) (n := 0) (upto := (acc.length : Int) + 1) rfl hb hc (by omega) (by have := size_lg (n := acc.length + 1) (by omega); simpa using this)
  refine ⟨[some (.loc 0), some (.d (.list xs)), some (.loc 1), some (.d x)], [ob', .lst ((acc.take v.toNat ++ [x] ++ acc.drop v.toNat).map W.d)], ?_, some (.d x), ob', _, rfl, rfl, hb', ?_⟩
  · have hv : (acc.map W.d).length < sizeLine ∧ 0 ≤ v ∧ v < 2 ^ 63 := by
      refine ⟨by rw [List.length_map]; exact hl, v0, ?_⟩
      have : sizeLine < 2 ^ 62 := by decide
      omega
    have hg : ∀ S, insertF (.loc 1) [.d (.int v), .d x] [ob', .lst (acc.map W.d)] = some (.d .none, S) ↔ S = [ob', .lst ((acc.take v.toNat ++ [x] ++ acc.drop v.toNat).map W.d)] := fun S => by
      simp only [insertF, onL]
      simp only [List.getElem?_cons_succ, List.getElem?_cons_zero, if_pos hv]
      simp [eq_comm]
    have hg' := (hg _).mpr rfl
    simp only [List.set_cons_zero] at e
    simp [DL.sSeq, DL.sNil, DL.sPass, DL.sBreak, DL.sCont, DL.sExpr, DL.sRet, DL.sRetN, DL.sIf, DL.sAsg, DL.sPar, DL.sAug, DL.sAugS, DL.gSet, DL.gTupD, DL.gsNil, DL.gsCons, DL.gSubD, DL.sFor, DL.iRng1D_eq, DL.mVar, DL.mC, DL.mNil, DL.mCons, DL.mCall, DL.mBin, DL.mNeg, DL.mMt, DL.mSl, DL.oNo, DL.oYes, DL.tOf, DL.tNotD, DL.tAndD, DL.tOrD, DL.tTru, DL.truD, DL.tTrue, DL.vAnd, DL.vOr, DL.vNot, DL.vIf, DL.vChain, DL.tupF, DL.lstF, DL.allD, DL.ev_add, DL.ev_sub, DL.ev_iadd, DL.ev_isub, DL.ev_lt, DL.ev_gt, DL.ev_le, DL.ev_ge, DL.ev_eq, DL.ev_ne, DL.ev_min, DL.ev_max, DL.ev_int, DL.ev_abs, DL.sz1, DL.sz2, DL.sz3, DL.sz4, DL.sz5, DL.sz6, DL.sz7, DL.sz8, DL.szp, isLst, lenD, on1, len0, e]
    simp at hg'
    rw [hg']
    rfl
  · have : (acc.take v.toNat ++ [x] ++ acc.drop v.toNat).Perm (x :: (acc.take v.toNat ++ acc.drop v.toNat)) := by
      rw [List.append_assoc]
      exact List.perm_middle
    rwa [List.take_append_drop] at this
theorem mixed_ok {c n : Nat} {ob : Ob} {S : Sto} {xs : List PyData} (hS : S[n]? = some ob) (hb : BagOk c ob) (hc : c + xs.length < 2 ^ 1000) (hx : xs.length ≤ sizeLine) :
    ∃ ys ob', callF fMixed [.loc n, .d (.list xs)] S = some (.d (.list ys), S.set n ob') ∧ ys.Perm xs ∧ BagOk (c + xs.length) ob' := by
  obtain ⟨ρ', S', e, y, ob', acc, rfl, rfl, hb', hp⟩ := forL_J (g := gSet 3) (F := sExpr (mMt insertF (mVar 2) (mCons (mCall (callF fTake) (mCons (mVar 0) (mCons (mBin addA (mCall lenD (mCons (mVar 2) (mNil))) (mC (.int 1))) (mNil)))) (mCons (mVar 3) (mNil))))) (ws := xs.map W.d) (k := 0)
    (J := fun i ρ S => ∃ y ob', ∃ acc : List PyData, ρ = [some (.loc 0), some (.d (.list xs)), some (.loc 1), y] ∧ S = [ob', .lst (acc.map W.d)] ∧ BagOk (c + i) ob' ∧ acc.Perm (xs.take i)) (ρ := [some (.loc 0), some (.d (.list xs)), some (.loc 1), none]) (S := [ob, .lst []]) (fun i w ρ S hw ⟨y, ob', acc, e1, e2, hb', hp⟩ => by
      subst e1 e2
      simp only [List.getElem?_map, Option.map_eq_some_iff, Nat.zero_add] at hw hb' hp ⊢
      obtain ⟨x, hx', rfl⟩ := hw
      have hi := (List.getElem?_eq_some_iff.mp hx').1
      have hl := hp.length_eq
      rw [List.length_take] at hl
      obtain ⟨ρ2, S2, e, y2, ob2, acc2, h1, h2, h3, h4⟩ := mix_step (x := x) (y := y) (xs := xs) hb' (by omega) (acc := acc) (by omega)
      refine ⟨ρ2, S2, e, y2, ob2, acc2, h1, h2, h3, h4.trans ?_⟩
      rw [List.take_succ, hx']
      exact (List.Perm.cons x hp).trans (List.perm_append_comm (l₁ := [x]))) ⟨none, ob, [], rfl, rfl, hb, by simp⟩
  simp only [Nat.zero_add, List.length_map] at e hb' hp
  rw [List.take_length] at hp
  refine ⟨acc, ob', callF_loc (n := n) rfl (by simp [allLoc]) hS hb.obD (runF_ret1 ?_ hb'.obD) hb'.obD, hp, hb'⟩
  simp [bMixed, DL.sSeq, DL.sNil, DL.sPass, DL.sBreak, DL.sCont, DL.sExpr, DL.sRet, DL.sRetN, DL.sIf, DL.sAsg, DL.sPar, DL.sAug, DL.sAugS, DL.gSet, DL.gTupD, DL.gsNil, DL.gsCons, DL.gSubD, DL.sFor, DL.iRng1D_eq, DL.mVar, DL.mC, DL.mNil, DL.mCons, DL.mCall, DL.mBin, DL.mNeg, DL.mMt, DL.mSl, DL.oNo, DL.oYes, DL.tOf, DL.tNotD, DL.tAndD, DL.tOrD, DL.tTru, DL.truD, DL.tTrue, DL.vAnd, DL.vOr, DL.vNot, DL.vIf, DL.vChain, DL.tupF, DL.lstF, DL.allD, DL.ev_add, DL.ev_sub, DL.ev_iadd, DL.ev_isub, DL.ev_lt, DL.ev_gt, DL.ev_le, DL.ev_ge, DL.ev_eq, DL.ev_ne, DL.ev_min, DL.ev_max, DL.ev_int, DL.ev_abs, DL.sz1, DL.sz2, DL.sz3, DL.sz4, DL.sz5, DL.sz6, DL.sz7, DL.sz8, DL.szp, lstB, iSeq, mFrz, toZero, e, allD_map]
theorem lcL_fm {g : MG} {T : MT} {E : ME} {vs : List Nat} {ρ : DEnv} {S : Sto} {P : W → Bool} {F : W → W} : ∀ {ws : List W}, (∀ w ∈ ws, ∃ ρ1, g w (wipeD ρ vs) S = some (ρ1, S) ∧ T ρ1 S = some (P w, S) ∧ (P w = true → E ρ1 S = some (F w, S))) → lcL g T E vs ρ ws S = some ((ws.filter P).map F, S)
  | [], _ => rfl
  | w :: ws, h => by
    obtain ⟨ρ1, e1, e2, e3⟩ := h w (by simp)
    have ih := lcL_fm (ws := ws) fun w hw => h w (by simp [hw])
    cases hP : P w with
    | true => simp [lcL, e1, e2, hP, e3 hP, ih]
    | false => simp [lcL, e1, e2, hP, ih]
/-- [F(x) for x in ds if P(x)] -/
theorem lc_d {it : MI} {g : MG} {T : MT} {E : ME} {vs : List Nat} {ρ : DEnv} {S : Sto} {ds : List PyData} (P : PyData → Bool) (F : PyData → PyData) (hi : it ρ S = some (ds.map W.d, S))
    (h : ∀ x ∈ ds, ∃ ρ1, g (.d x) (wipeD ρ vs) S = some (ρ1, S) ∧ T ρ1 S = some (P x, S) ∧ (P x = true → E ρ1 S = some (.d (F x), S))) (hl : ds.length ≤ sizeLine) : mLc it g T E vs kFrz ρ S = some (.d (.list ((ds.filter P).map F)), S) := by
  have e : lcL g T E vs ρ (ds.map W.d) S = some (((ds.filter P).map F).map W.d, S) := by
    rw [lcL_fm (P := fun w => match w with | .d x => P x | _ => false) (F := fun w => match w with | .d x => .d (F x) | w => w)]
    · rw [List.filter_map, List.map_map, List.map_map]; rfl
    · intro w hw
      obtain ⟨x, hx, rfl⟩ := List.mem_map.mp hw
      exact h x hx
  have hk : ((ds.filter P).map F).length ≤ sizeLine := by
    rw [List.length_map]; exact Nat.le_trans (List.length_filter_le _ _) hl
  simp only [mLc, hi, Option.bind_some, e, kFrz, allD_map, if_pos hk]
theorem lc_all {it : MI} {g : MG} {E : ME} {vs : List Nat} {ρ : DEnv} {S : Sto} {ds : List PyData} (F : PyData → PyData) (hi : it ρ S = some (ds.map W.d, S))
    (h : ∀ x ∈ ds, ∃ ρ1, g (.d x) (wipeD ρ vs) S = some (ρ1, S) ∧ E ρ1 S = some (.d (F x), S)) (hl : ds.length ≤ sizeLine) : mLc it g tTrue E vs kFrz ρ S = some (.d (.list (ds.map F)), S) := by
  have := lc_d (T := tTrue) (E := E) (fun _ => true) F hi (fun x hx => by
    obtain ⟨ρ1, e1, e2⟩ := h x hx
    exact ⟨ρ1, e1, rfl, fun _ => e2⟩) hl
  rwa [List.filter_eq_self.mpr (fun _ _ => rfl)] at this
/-- the bag -/
theorem bag_ok (ns : List Int) (S : Sto) : ∃ ob, callF fBag [.d (.list (ns.map .int))] S = some (.loc S.length, S ++ [ob]) ∧ BagOk 0 ob := by
  have hl : ((cutD (ns.map PyData.int) none (some 63)).length) ≤ 63 := by
    unfold cutD; rw [List.length_take]
    have : HT.sIx (ns.map PyData.int).length (ns.map PyData.int).length (some 63) ≤ 63 := by
      have e := HT.sIx_nat (ns.map PyData.int).length (ns.map PyData.int).length 63
      have e' : ((63 : Nat) : Int) = 63 := rfl
      rw [e'] at e; rw [e]; exact Nat.min_le_left _ _
    omega
  have hm : ∀ x ∈ cutD (ns.map PyData.int) none (some 63), ∃ n : Int, x = .int n := by
    intro x hx
    unfold cutD at hx
    have := List.mem_of_mem_drop (List.mem_of_mem_take hx)
    obtain ⟨n, _, rfl⟩ := List.mem_map.mp this
    exact ⟨n, rfl⟩
  generalize hc : cutD (ns.map PyData.int) none (some 63) = cs at hl hm
  have e := lc_all (it := iSeq (mSl (mVar 0) (oNo) (oYes (mC (.int 63))))) (g := gSet 1) (E := mCall absD (mCons (mVar 1) (mNil))) (vs := [1]) (ρ := [some (.d (.list (ns.map .int))), none]) (S := []) (ds := cs)
    (fun x => match x with | .int i => .int (i.natAbs : Int) | x => x) (by simp [DL.sSeq, DL.sNil, DL.sPass, DL.sBreak, DL.sCont, DL.sExpr, DL.sRet, DL.sRetN, DL.sIf, DL.sAsg, DL.sPar, DL.sAug, DL.sAugS, DL.gSet, DL.gTupD, DL.gsNil, DL.gsCons, DL.gSubD, DL.sFor, DL.iRng1D_eq, DL.mVar, DL.mC, DL.mNil, DL.mCons, DL.mCall, DL.mBin, DL.mNeg, DL.mMt, DL.mSl, DL.oNo, DL.oYes, DL.tOf, DL.tNotD, DL.tAndD, DL.tOrD, DL.tTru, DL.truD, DL.tTrue, DL.vAnd, DL.vOr, DL.vNot, DL.vIf, DL.vChain, DL.tupF, DL.lstF, DL.allD, DL.ev_add, DL.ev_sub, DL.ev_iadd, DL.ev_isub, DL.ev_lt, DL.ev_gt, DL.ev_le, DL.ev_ge, DL.ev_eq, DL.ev_ne, DL.ev_min, DL.ev_max, DL.ev_int, DL.ev_abs, DL.sz1, DL.sz2, DL.sz3, DL.sz4, DL.sz5, DL.sz6, DL.sz7, DL.sz8, DL.szp, iSeq, sliceD, hc]) (fun x hx => by
      obtain ⟨n, rfl⟩ := hm x hx
      exact ⟨[some (.d (.list (ns.map .int))), some (.d (.int n))], by simp [DL.sSeq, DL.sNil, DL.sPass, DL.sBreak, DL.sCont, DL.sExpr, DL.sRet, DL.sRetN, DL.sIf, DL.sAsg, DL.sPar, DL.sAug, DL.sAugS, DL.gSet, DL.gTupD, DL.gsNil, DL.gsCons, DL.gSubD, DL.sFor, DL.iRng1D_eq, DL.mVar, DL.mC, DL.mNil, DL.mCons, DL.mCall, DL.mBin, DL.mNeg, DL.mMt, DL.mSl, DL.oNo, DL.oYes, DL.tOf, DL.tNotD, DL.tAndD, DL.tOrD, DL.tTru, DL.truD, DL.tTrue, DL.vAnd, DL.vOr, DL.vNot, DL.vIf, DL.vChain, DL.tupF, DL.lstF, DL.allD, DL.ev_add, DL.ev_sub, DL.ev_iadd, DL.ev_isub, DL.ev_lt, DL.ev_gt, DL.ev_le, DL.ev_ge, DL.ev_eq, DL.ev_ne, DL.ev_min, DL.ev_max, DL.ev_int, DL.ev_abs, DL.sz1, DL.sz2, DL.sz3, DL.sz4, DL.sz5, DL.sz6, DL.sz7, DL.sz8, DL.szp, wipeD], by simp [DL.sSeq, DL.sNil, DL.sPass, DL.sBreak, DL.sCont, DL.sExpr, DL.sRet, DL.sRetN, DL.sIf, DL.sAsg, DL.sPar, DL.sAug, DL.sAugS, DL.gSet, DL.gTupD, DL.gsNil, DL.gsCons, DL.gSubD, DL.sFor, DL.iRng1D_eq, DL.mVar, DL.mC, DL.mNil, DL.mCons, DL.mCall, DL.mBin, DL.mNeg, DL.mMt, DL.mSl, DL.oNo, DL.oYes, DL.tOf, DL.tNotD, DL.tAndD, DL.tOrD, DL.tTru, DL.truD, DL.tTrue, DL.vAnd, DL.vOr, DL.vNot, DL.vIf, DL.vChain, DL.tupF, DL.lstF, DL.allD, DL.ev_add, DL.ev_sub, DL.ev_iadd, DL.ev_isub, DL.ev_lt, DL.ev_gt, DL.ev_le, DL.ev_ge, DL.ev_eq, DL.ev_ne, DL.ev_min, DL.ev_max, DL.ev_int, DL.ev_abs, DL.sz1, DL.sz2, DL.sz3, DL.sz4, DL.sz5, DL.sz6, DL.sz7, DL.sz8, DL.szp]⟩) (by
      have : 63 ≤ sizeLine := by decide
      omega)
  have hq : ∃ cells : List Nat, cs.map (fun x => match x with | .int i => PyData.int (i.natAbs : Int) | x => x) = cells.map (fun c => .int (c : Nat)) ∧ cells.length = cs.length := by
    clear e hl hc
    induction cs with
    | nil => exact ⟨[], rfl, rfl⟩
    | cons x cs ih =>
      obtain ⟨n, rfl⟩ := hm x (by simp)
      obtain ⟨cells, e1, e2⟩ := ih fun y hy => hm y (by simp [hy])
      exact ⟨n.natAbs :: cells, by rw [List.map_cons, e1]; rfl, by simp [e2]⟩
  obtain ⟨cells, e1, e2⟩ := hq
  rw [e1] at e
  have hb : BagOk 0 (bagOf 0 1234567891 0 cells) := ⟨0, 1234567891, 0, cells, rfl, by decide, by omega, by omega⟩
  refine ⟨_, ?_, hb⟩
  have hr : fBag [.d (.list (ns.map .int))] [] = some (.loc 0, [bagOf 0 1234567891 0 cells]) := by
    have ho := hb.obD
    simp [fBag, runF, bBag, DL.sSeq, DL.sNil, DL.sPass, DL.sBreak, DL.sCont, DL.sExpr, DL.sRet, DL.sRetN, DL.sIf, DL.sAsg, DL.sPar, DL.sAug, DL.sAugS, DL.gSet, DL.gTupD, DL.gsNil, DL.gsCons, DL.gSubD, DL.sFor, DL.iRng1D_eq, DL.mVar, DL.mC, DL.mNil, DL.mCons, DL.mCall, DL.mBin, DL.mNeg, DL.mMt, DL.mSl, DL.oNo, DL.oYes, DL.tOf, DL.tNotD, DL.tAndD, DL.tOrD, DL.tTru, DL.truD, DL.tTrue, DL.vAnd, DL.vOr, DL.vNot, DL.vIf, DL.vChain, DL.tupF, DL.lstF, DL.allD, DL.ev_add, DL.ev_sub, DL.ev_iadd, DL.ev_isub, DL.ev_lt, DL.ev_gt, DL.ev_le, DL.ev_ge, DL.ev_eq, DL.ev_ne, DL.ev_min, DL.ev_max, DL.ev_int, DL.ev_abs, DL.sz1, DL.sz2, DL.sz3, DL.sz4, DL.sz5, DL.sz6, DL.sz7, DL.sz8, DL.szp, e, lstB, leave]
    simp [bagOf] at ho ⊢
    exact ho
  simp [callF, firstLoc, hr, hb.obD]
end DL
end
noncomputable section
namespace DL
open PySem PySem.Spec PyProof.Rows L2 DL
theorem perm_map_ex {α β : Type} {f : α → β} : ∀ {l : List α} {m : List β}, m.Perm (l.map f) → ∃ r : List α, r.Perm l ∧ m = r.map f
  | [], m, h => ⟨[], .refl _, by simpa using h.eq_nil⟩
  | a :: l, m, h => by
    have : f a ∈ m := h.symm.subset (by simp)
    obtain ⟨m1, m2, rfl⟩ := List.append_of_mem this
    have h2 : (m1 ++ m2).Perm (l.map f) := (List.perm_middle.symm.trans h).cons_inv
    obtain ⟨r, hr, e⟩ := perm_map_ex h2
    obtain ⟨r1, r2, rfl, rfl, rfl⟩ := List.map_eq_append_iff.mp e.symm
    exact ⟨r1 ++ a :: r2, List.perm_middle.trans (hr.cons a), by simp⟩
theorem ofPs_map {α : Type} {enc : α → PyData} {encC : α → Cd} : ∀ {l : List α}, (∀ a ∈ l, ofP (enc a) = some (encC a)) → ofPs (l.map enc) = some (l.map encC)
  | [], _ => rfl
  | a :: l, h => by
    simp only [List.map_cons, ofPs, h a (by simp), Option.bind_some, ofPs_map (l := l) fun b hb => h b (by simp [hb]), Option.map_some]
/-- a tuple of whole numbers -/
def tI (l : List Int) : PyData := .tuple (l.map .int)
def cI (l : List Int) : Cd := .tup (l.map .int)
theorem ofP_tI (l : List Int) : ofP (tI l) = some (cI l) := by
  simp only [tI, cI, ofP]
  rw [ofPs_map (encC := Cd.int) (fun a _ => by simp [ofP])]; rfl
theorem kind_ints : ∀ (a b : List Int), kindCs (a.map .int) (b.map .int) = true
  | [], _ => by simp [kindCs]
  | _ :: _, [] => by simp [kindCs]
  | x :: a, y :: b => by simp [kindCs, kindC, kind_ints a b]
theorem kind_cI (a b : List Int) : kindC (cI a) (cI b) = true := by simp only [cI, kindC]; exact kind_ints a b
theorem dep_ints (l : List Int) : PyData.depthAll (l.map .int) = 0 := by
  induction l with
  | nil => rfl
  | cons a l ih => simp [PyData.depthAll, PyData.depth, ih]
theorem dep_tI (l : List Int) : (tI l).depth = 1 := by simp [tI, PyData.depth, dep_ints]
theorem lay_ints (l : List Int) : PyData.canLayAll0 (l.map .int) = true := by
  induction l with
  | nil => rfl
  | cons a l ih => simp [PyData.canLayAll0, PyData.canLay0, ih]
theorem shaped_tI (l : List Int) : SeqAt.shaped (tI l) = true := by
  simp [SeqAt.shaped, dep_tI]; simp [tI, PyData.canLay0, lay_ints]
theorem eqv_ints : ∀ (a b : List Int), PyData.eqvAll (a.map .int) (b.map .int) = decide (a = b)
  | [], [] => by simp [PyData.eqvAll]
  | [], _ :: _ => by simp [PyData.eqvAll]
  | _ :: _, [] => by simp [PyData.eqvAll]
  | x :: a, y :: b => by
    simp only [List.map_cons, PyData.eqvAll, PyData.eqv, eqv_ints a b]
    by_cases h : x = y <;> by_cases h2 : a = b <;> simp [h, h2]
theorem eqv_tI (a b : List Int) : PyData.eqv (tI a) (tI b) = decide (a = b) := by simp only [tI, PyData.eqv]; exact eqv_ints a b
theorem eq_tI (a b : List Int) (S : Sto) : eqA false (.d (tI a)) (.d (tI b)) S = some (.d (.bool (decide (a = b))), S) := by
  have h1 := shaped_tI a; have h2 := shaped_tI b; have h3 := eqv_tI a b
  simp only [tI] at *
  simp [eqA, eqD, deref, h1, h2, h3]
theorem ne_tI (a b : List Int) (S : Sto) : eqA true (.d (tI a)) (.d (tI b)) S = some (.d (.bool (!decide (a = b))), S) := by
  have h1 := shaped_tI a; have h2 := shaped_tI b; have h3 := eqv_tI a b
  simp only [tI] at *
  simp [eqA, eqD, deref, h1, h2, h3]
/-- a comprehension over things that are coded -/
theorem lcL_e {α : Type} {g : MG} {T : MT} {E : ME} {vs : List Nat} {ρ : DEnv} {S : Sto} (enc : α → PyData) (P : α → Bool) (F : α → PyData) : ∀ {l : List α}, (∀ a ∈ l, ∃ ρ1, g (.d (enc a)) (wipeD ρ vs) S = some (ρ1, S) ∧ T ρ1 S = some (P a, S) ∧ (P a = true → E ρ1 S = some (.d (F a), S))) →
    lcL g T E vs ρ ((l.map enc).map W.d) S = some ((((l.filter P).map F).map W.d), S)
  | [], _ => rfl
  | a :: l, h => by
    obtain ⟨ρ1, e1, e2, e3⟩ := h a (by simp)
    have ih := lcL_e enc P F (l := l) fun w hw => h w (by simp [hw])
    cases hP : P a with
    | true => simp only [List.map_cons, lcL, e1, e2, hP, e3 hP, ih, Option.bind_some, if_true, List.filter_cons]
    | false => simp only [List.map_cons, lcL, e1, e2, hP, ih, Option.bind_some, List.filter_cons, Bool.false_eq_true, if_false]
theorem lc_e {α : Type} {it : MI} {g : MG} {T : MT} {E : ME} {vs : List Nat} {ρ : DEnv} {S : Sto} {l : List α} (enc : α → PyData) (P : α → Bool) (F : α → PyData) (hi : it ρ S = some ((l.map enc).map W.d, S))
    (h : ∀ a ∈ l, ∃ ρ1, g (.d (enc a)) (wipeD ρ vs) S = some (ρ1, S) ∧ T ρ1 S = some (P a, S) ∧ (P a = true → E ρ1 S = some (.d (F a), S))) (hl : (l.filter P).length ≤ sizeLine) : mLc it g T E vs kFrz ρ S = some (.d (.list ((l.filter P).map F)), S) := by
  have hk : ((l.filter P).map F).length ≤ sizeLine := by rw [List.length_map]; exact hl
  simp only [mLc, hi, Option.bind_some, lcL_e enc P F h, kFrz, allD_map, if_pos hk]
end DL
end
noncomputable section
namespace DL
open PySem PySem.Spec PyProof.Rows L2
structure FrD (D : Addr) (m : List Addr) (H H' : Hp) : Prop where
  st : ∀ a o, H a = some o → a ≠ D → (a ∉ m ∨ Imm o) → (∀ ps, o ≠ .tbl ps) → H' a = some o
  no : ∀ a, H' a = none → H a = none
section
variable {K : PySem.W.Frag} {m e2 ext : List Addr} {S S2 S5 : Sto} {ρ ρ5 : DEnv} {σ σ5 : L2.St} {B H H' H2 H5 : Hp} {D : Addr}
theorem FrD.kp (f : FrD D m B H') (hD : ∀ o, B D = some o → ¬ Imm o) : Kp B H' := fun a o h i => by
  by_cases e : a = D
  · subst e; exact absurd i (hD o h)
  · exact f.st a o h e (.inr i) (imm_tbl i)
theorem FrD.trans (f : FrD D m B H') (fr : Fresh e2 B) (g : FrD D (m ++ e2) H' H5) : FrD D m B H5 := ⟨fun a o h n c nt => by
  refine g.st a o (f.st a o h n c nt) n ?_ nt
  rcases c with c | c
  · refine .inl fun z => ?_
    rcases List.mem_append.mp z with z | z
    · exact c z
    · rw [fr a z] at h; cases h
  · exact .inr c, fun a h => f.no a (g.no a h)⟩
theorem FrD.post (f : FrD D m B H') (k : ∀ a o, H' a = some o → H2 a = some o) : FrD D m B H2 := ⟨fun a o h n c nt => k a o (f.st a o h n c nt), fun a h => f.no a (none_old k h)⟩
theorem FrD.updo {u v : HO} (f : FrD D m B H') (h : B D = some v) : FrD D m B (upd H' D u) := ⟨fun a o h n c nt => by rw [upd_ne n]; exact f.st a o h n c nt, fun a h => by
  by_cases z : a = D
  · subst z; rw [upd_same] at h; cases h
  · rw [upd_ne z] at h; exact f.no a h⟩
end
end DL
end
noncomputable section
namespace DL
open PySem PySem.Spec PyProof.Rows L2
theorem rep_run (l : Addr) (items : Array Value) (n : Nat) (d : Option Addr) (sl : Array (Option Value)) (x : Int) (u : Tok) (hc0 : ¬(!Builtin.List.listFitsIndex x) = true) (hc1 : ¬items.size * x.toNat > (2 ^ 63 - 1) / 8) (hc2 : ¬Builtin.List.listTooLong (items.size * x.toNat) = true) :
    Meets (Builtin.«list.__mul__» ⟨[.ref l, .int x u], []⟩) (fun _ R s => s.heap.get? l = some { cls := .type "list", dict := d, data := .seq items n, slots := sl } ∧ R (.ok (.ret (Value.ref s.heap.objs.size))) { s with heap := s.heap.push { cls := Value.type "list", data := Data.seq (List.foldl (fun x1 x2 => x1 ++ x2) #[] (List.replicate (if items.isEmpty = true then 0 else x.toNat) items)) }, toks := s.toks }) :=
  .of_wp fun prog w A R s h => by
    obtain ⟨hp, g, d, tk, os⟩ := s; obtain ⟨hl, h⟩ := h
    have hsz := AutoListH.joined_fits hc2
    wp_walk; refine wpAny_ite_false (decide_eq_false (Nat.not_lt.mpr hsz)) ?_; wp_walk; exact ⟨_, rfl, h⟩
theorem rrep_run (a : Int) (t : Tok) (l : Addr) (items : Array Value) (n : Nat) (d : Option Addr) (sl : Array (Option Value)) :
    Meets (Builtin.«int.__rmul__» ⟨[.int a t, .ref l], []⟩) (fun _ R s => s.heap.get? l = some { cls := .type "list", dict := d, data := .seq items n, slots := sl } ∧ R (.ok (.ret Value.notImplemented)) s) :=
  .of_wp fun prog w A R s h => by obtain ⟨hp, g, d, tk, os⟩ := s; obtain ⟨hl, h⟩ := h; wp_walk; exact ⟨_, rfl, h⟩
section
variable {X : Cx}
theorem op_repS : OpR X (binaryOp .Mult) (fun x y H Q => ∃ l k xs, x = .ref l ∧ y = .int k ∧ SqL X.K H l xs ∧ -(2 ^ 63) ≤ k ∧ k < 2 ^ 63 ∧ xs.length * k.toNat ≤ sizeLine ∧ ∀ p, H p = none → Q (.ref p) (upd H p (.lst (List.replicate k.toNat xs).flatten))) := by
  intro pins s σ H x y v u Q I rx ry h
  obtain ⟨l, k, xs, rfl, rfl, hS, h1, h2, hz, q⟩ := h
  cases rx
  obtain ⟨t, rfl⟩ := ry
  obtain ⟨its, r, ⟨oa, n, e, hc, hdn, hdat⟩, _⟩ := I.list hS
  have hl := r.length
  obtain ⟨c1, d1, da1, sl1⟩ := oa
  simp only at hc hdn hdat
  subst hc hdat
  have hlen : its.toArray.size * k.toNat ≤ sizeLine := by rw [List.size_toArray, ← hl]; exact hz
  have hcap : ¬ its.toArray.size * k.toNat > (2 ^ 63 - 1) / 8 := by
    have : (sizeLine : Nat) ≤ (2 ^ 63 - 1) / 8 := by decide
    omega
  have hfit : ¬ (!Builtin.List.listFitsIndex k) = true := by rw [fitsIndex_both h1 h2]; simp
  have hlong : ¬ Builtin.List.listTooLong (its.toArray.size * k.toNat) = true := by rw [notLongL hlen]; simp
  have hnew : List.foldl (fun x1 x2 => x1 ++ x2) #[] (List.replicate (if its.toArray.isEmpty = true then 0 else k.toNat) its.toArray) = (List.replicate k.toNat its).flatten.toArray := by
    have f0 : ∀ m : Nat, List.foldl (fun x1 x2 => x1 ++ x2) #[] (List.replicate m its.toArray) = (List.replicate m its).flatten.toArray := fun m => by
      have f1 := foldl_rep its m []
      rwa [List.nil_append] at f1
    rw [f0]
    cases its with
    | nil => simp
    | cons a r' => rw [if_neg (by simp)]
  refine wpAny_binaryOp_repeat_ref (T := "list") (U := "int") (by decide) ⟨_, e, rfl⟩ (fun s' => typeIs_int s' k t) noFill_list_mul F.fills_int_mul F.slot_int_rmul repeat_list F.slot_int_index.lookup
    (call_meets F.slot_int_rmul (typeIs_int s k t) F.entry_int_rmul (F.args_int_rmul_2 _ _) (rrep_run k t l its.toArray n d1 sl1) ⟨e, rfl, ⟨_, e, rfl⟩, call_meets F.slot_list_mul ⟨_, e, rfl⟩ F.entry_list_mul (F.args_list_mul_2 _ _) (rep_run l its.toArray n d1 sl1 k t hfit hcap hlong) ⟨e, ?_⟩⟩)
  rw [hnew]
  exact ⟨.ref _, _, I.lnew (t' := s.toks) (r.rep k.toNat) (by rw [PyProof.Rows.lm_len_rep_flat, Nat.mul_comm]; exact hz), rfl, q _ I.fresh⟩
def repL : W → W → Sto → Option (W × Sto) := fun x y S => (deref S x).bind fun d => match d, y with
  | .list i, .d (.int k) => if k.toNat ≤ sizeLine ∧ (-k).toNat ≤ sizeLine ∧ i.length * k.toNat ≤ sizeLine then some (.d (.list (List.replicate k.toNat i).flatten), S) else none
  | _, _ => none
theorem op_repL : OpR X (binaryOp .Mult) (rOp τ X.K repL) := by
  intro pins s σ H x y v u Q I rx ry h
  obtain ⟨m, S, ρ, σ', wx, wy, w, S', q, hx, hy, e, p⟩ := h
  obtain ⟨d, e1, e⟩ := Option.bind_eq_some_iff.mp e
  split at e
  · split at e
    · rename_i hl
      cases e
      obtain ⟨a, xs, rfl, ha, r1⟩ := deref_list q hx e1
      obtain rfl := rp_int hy
      have hsl := sizeLine_eq
      exact opFrz op_repS pins s σ H _ _ v u Q I rx ry ⟨a, _, xs, rfl, rfl, ha, by omega, by omega, by rw [r1.length]; exact hl.2.2, fun t ht => newL p q (rpAll_rep r1 _) t ht⟩
    · cases e
  · cases e
end
end DL
end
noncomputable section
namespace DL
open PySem PySem.Spec PyProof.Rows L2
theorem rpAll_rev {K : PySem.W.Frag} {H : Hp} : ∀ {ds : List PyData} {vs : List V}, RpAll K H vs ds → RpAll K H vs.reverse ds.reverse
  | _, _, .nil => .nil
  | _, _, .cons r t => by
    rw [List.reverse_cons, List.reverse_cons]
    exact (rpAll_rev t).append (.cons r .nil)
end DL
end
noncomputable section
namespace DL
open PySem PySem.Spec PyProof.Rows L2
section
variable {prog : Program} {w : World} {A : Around} {E : Value → Shared → Prop}
/-- pairs put into a table, one after the other -/
def mergeH (acc : List (List Key × Addr × Value)) : List (List Key × Addr × Value) → List (List Key × Addr × Value)
  | [] => acc
  | q :: qs => mergeH (storedH acc q.1 q.2.1 q.2.2) qs
theorem storedH_len (xs : List (List Key × Addr × Value)) (k : List Key) (b : Addr) (u : Value) : (storedH xs k b u).length ≤ xs.length + 1 := by
  unfold storedH
  split
  · rw [List.length_map]; omega
  · rw [List.length_append, List.length_cons, List.length_nil]; omega
theorem key_mono {h h' : Heap} {k : List Key} {a : Addr} (x : (tupleKind (mixKind prog w)).is h k a) (e : ∀ o, h.get? a = some o → h'.get? a = some o) : (tupleKind (mixKind prog w)).is h' k a := by
  obtain ⟨o, its, n, h1, r⟩ := (show IsTupleKey (mixKind prog w) h k a from x)
  exact ⟨o, its, n, e _ h1, r⟩
theorem dictH_mono {h h' : Heap} {d : Addr} {xs : List (List Key × Addr × Value)} (x : h.DictOfH (tupleKind (mixKind prog w)) d xs) (e : ∀ o, h.get? d = some o → h'.get? d = some o) (ex : ∀ q ∈ xs, ∀ o, h.get? q.2.1 = some o → h'.get? q.2.1 = some o) :
    h'.DictOfH (tupleKind (mixKind prog w)) d xs := by
  obtain ⟨o, es, ep, h1, h2, h3, h4, h5, h6⟩ := x
  exact ⟨o, es, ep, e _ h1, h2, h3, h4, fun q hq => key_mono (h5 q hq) (ex q hq), h6⟩
theorem storedH_mem {xs : List (List Key × Addr × Value)} {k : List Key} {b : Addr} {u : Value} {P : Addr → Prop} (h : ∀ x ∈ xs, P x.2.1) (hb : P b) : ∀ x ∈ storedH xs k b u, P x.2.1 := by
  unfold storedH
  split
  · intro x hx
    obtain ⟨y, hy, e⟩ := List.mem_map.mp hx
    subst e
    unfold putAt
    split
    · exact h y hy
    · exact h y hy
  · intro x hx
    rcases List.mem_append.mp hx with z | z
    · exact h x z
    · have : x = (k, b, u) := by simpa using z
      subst this
      exact hb
theorem upd_loopT {R : Result → Shared → Prop} {S I l : Addr} {items : Array Value} {res : Value} (hh : A.handled = none) (hu : A.units + 1 < cLine) (hlS : l < S) (hSI : S < I) :
    ∀ (rest : List (List Key × Addr × Value)) (i : Nat) (acc : List (List Key × Addr × Value)) (ix : Int) (t : Tok) (s : Shared), items.size = i + rest.length → acc.length + rest.length ≤ sizeLine →
      (∀ (j : Nat) (q : List Key × Addr × Value), rest[j]? = some q → ∃ (b : Addr), items[i + j]? = some (.ref b) ∧ b < S ∧ q.2.1 < S ∧ IsTup s.heap b #[.ref q.2.1, q.2.2] ∧ (tupleKind (mixKind prog w)).is s.heap q.1 q.2.1) →
      s.heap.IsListIter I l i → s.heap.IsList l items → s.heap.DictOfH (tupleKind (mixKind prog w)) S acc → (∀ x ∈ acc, x.2.1 < S) →
      (∀ h' tk, h'.DictOfH (tupleKind (mixKind prog w)) S (mergeH acc rest) → (∀ b o, b < S → s.heap.get? b = some o → h'.get? b = some o) → R (.ok (.ret res)) { s with heap := h', toks := tk }) →
      codeAny (model prog w) A (.builtin "dict.update.loop" ⟨[.ref S, .ref I, .int ix t, res], []⟩) R s
  | [], i, acc, ix, t, s, hsz, hln, ht, hit, hl, hm, ha, hR => by
    refine codeAny_builtin ud_entry ?_
    rw [Around.under_plainId ud_plain _]
    show wpAny _ A.in1 (pyNext (.ref I) >>= _) _ _ s
    refine wpAny_bind (wpAny_pyNext_list_end (A := A.in1) hh hit hl (by first | exact Array.getElem?_eq_none (Nat.le_of_eq hsz) | (simp at hsz; simp; omega)) fun h' he => ?_)
    show wpAny _ A.in1 (Builtin.Dict.addKeywords S [] >>= _) _ _ _
    refine wpAny_bind (wpAny_pure (wpAny_pure ?_))
    have nI : ∀ {c : Addr}, c < S → c ≠ I := fun h => Nat.ne_of_lt (Nat.lt_trans h hSI)
    refine hR h' s.toks ?_ fun b o hb e => he b o (nI hb) e
    exact dictH_mono hm (fun o e => he S o (Nat.ne_of_lt hSI) e) fun q hq o e => he _ o (nI (ha q hq)) e
  | q :: rest, i, acc, ix, t, s, hsz, hln, ht, hit, hl, hm, ha, hR => by
    obtain ⟨b, hb, hbS, hqS, htup, hk⟩ := ht 0 q rfl
    rw [List.length_cons] at hsz hln
    refine codeAny_builtin ud_entry ?_
    rw [Around.under_plainId ud_plain _]
    show wpAny _ A.in1 (pyNext (.ref I) >>= _) _ _ s
    refine wpAny_bind (wpAny_pyNext_list_item (x := .ref b) hit hl (by simpa using hb) fun h1 hit1 hs1 => ?_)
    have nI : ∀ {c : Addr}, c < S → c ≠ I := fun h => Nat.ne_of_lt (Nat.lt_trans h hSI)
    have nS : ∀ {c : Addr}, c < S → c ≠ S := fun h => Nat.ne_of_lt h
    have SI : S ≠ I := Nat.ne_of_lt hSI
    have e1 : ∀ c o, c ≠ I → s.heap.get? c = some o → h1.get? c = some o := fun c o n z => hs1.extBut c o n z
    have ht1 : IsTup h1 b #[.ref q.2.1, q.2.2] := htup.extBut hs1.extBut (nI hbS)
    have hl1 : h1.IsList l items := hl.extBut hs1.extBut (nI hlS)
    have hm1 : h1.DictOfH (tupleKind (mixKind prog w)) S acc := dictH_mono hm (fun o e => e1 _ o SI e) fun q hq o e => e1 _ o (nI (ha q hq)) e
    have hk1 : (tupleKind (mixKind prog w)).is h1 q.1 q.2.1 := key_mono hk fun o e => e1 _ o (nI hqS) e
    obtain ⟨o, ho, hc, n, hd⟩ := id ht1
    show wpAny _ A.in1 (holding [Value.ref b] _ >>= _) _ _ _
    refine wpAny_bind (wpAny_holding ?_)
    refine wpAny_bind (wpAny_tryCatch ?_)
    unfold Builtin.Dict.pairItems
    refine wpAny_bind (wpAny_typeOf (T := "tuple") ⟨o, ho, hc⟩ ?_)
    rw [if_pos (by first | decide | rfl | simp)]
    refine wpAny_bind (wpAny_seqItems ho hd (wpAny_pure ?_))
    show wpAny _ A.in1 (holding [Value.ref q.2.1, q.2.2] (dictSet S (.ref q.2.1) q.2.2)) _ _ _
    refine wpAny_holding (wpAny_dictSet_heap (knd := tupleKind (mixKind prog w)) (k := q.1) (show A.in1.units < cLine from hu) hk1 hm1 (fun h2 hm2 hs2 => ?_) (by omega))
    have e2 : ∀ c o, c ≠ S → h1.get? c = some o → h2.get? c = some o := fun c o n z => hs2.extBut c o n z
    refine wpAny_pure ⟨plainId_quiet ud_plain _, upd_loopT (items := items) hh hu hlS hSI rest (i + 1) (storedH acc q.1 q.2.1 q.2.2) (ix + 1) 0 _ (show items.size = i + 1 + rest.length by omega) ?_ (fun j q' e => ?_) ?_ ?_ hm2 ?_ fun h' tk hd' k => ?_⟩
    · have z := storedH_len acc q.1 q.2.1 q.2.2
      omega
    · obtain ⟨b', hb', hbS', hqS', htup', hk'⟩ := ht (j + 1) q' (by simpa using e)
      refine ⟨b', ?_, hbS', hqS', (htup'.extBut hs1.extBut (nI hbS')).extBut hs2.extBut (nS hbS'), key_mono hk' fun o z => e2 _ o (nS hqS') (e1 _ o (nI hqS') z)⟩
      rw [show i + 1 + j = i + (j + 1) by omega]
      exact hb'
    · exact hit1.at fun o' e => e2 I o' (Ne.symm SI) e
    · exact hl1.extBut hs2.extBut (nS hlS)
    · exact storedH_mem (P := fun c => c < S) ha hqS
    · exact hR h' tk hd' fun c oc h3 e => k c oc h3 (e2 c oc (nS h3) (e1 c oc (nI h3) e))
/-- dict(l) of a list of pairs, the keys tuples -/
theorem call_dict_pairsT {s : Shared} {l : Addr} {ol : Obj} {items : Array Value} {n : Nat} {prs : List (List Key × Addr × Value)} {Q : Value → Shared → Prop} (hh : A.handled = none) (hu : A.units + 2 < cLine) (hl : s.heap.get? l = some ol) (hc : ol.cls = .type "list") (hd : ol.dict = none)
    (hdat : ol.data = .seq items n) (hsz : items.size = prs.length) (hln : prs.length ≤ sizeLine)
    (ht : ∀ (j : Nat) (q : List Key × Addr × Value), prs[j]? = some q → ∃ (b : Addr), items[j]? = some (.ref b) ∧ IsTup s.heap b #[.ref q.2.1, q.2.2] ∧ (tupleKind (mixKind prog w)).is s.heap q.1 q.2.1)
    (h : ∀ h' tk, h'.DictOfH (tupleKind (mixKind prog w)) s.heap.objs.size (mergeH [] prs) → (∀ b o, s.heap.get? b = some o → h'.get? b = some o) → Q (.ref s.heap.objs.size) { s with heap := h', toks := tk }) :
    wpAny (model prog w) A (call (.type "dict") [.ref l]) Q E s := by
  refine callType_codes (Q₁ := fun obj s₁ => obj = .ref s.heap.objs.size ∧ s₁ = { s with heap := s.heap.push { cls := .type "dict", data := .dict #[] } }) PySem.F.kt_called_dict (PySem.F.kt_typeCall_dict_1 _) PySem.F.entry_dict_init (kt_code_dict_new _ ⟨rfl, rfl⟩) ?_
  rintro obj s₁ ⟨rfl, rfl⟩
  have hnew : (s.heap.push { cls := .type "dict", data := .dict #[] }).DictOf (mixKind prog w) s.heap.objs.size [] := Heap.DictOf.new s.heap
  have hnewH : (s.heap.push { cls := .type "dict", data := .dict #[] }).DictOfH (tupleKind (mixKind prog w)) s.heap.objs.size [] := ⟨_, #[], 0, Heap.get?_push_size _ rfl, ⟨rfl, rfl, rfl⟩, rfl, rfl, fun x hx => (by cases hx), List.nodup_nil⟩
  have k0 : ∀ b o, s.heap.get? b = some o → (s.heap.push { cls := .type "dict", data := .dict #[] }).get? b = some o := fun b o e => Heap.get?_push_of_some _ e
  refine ⟨hnew.typeIs, PySem.F.args_dict_init_2 _ _, ?_⟩
  unfold Builtin.«dict.__init__»
  refine wpAny_bind ?_
  unfold Builtin.Dict.selfAndRest
  refine wpAny_bind (wpAny_notOrdered_dict hnew.typeIs ?_)
  show wpAny _ _ (pure (s.heap.objs.size, [Value.ref l])) _ _ _
  refine wpAny_pure ?_
  show wpAny _ _ (Builtin.Dict.updateFrom "dict.__init__" s.heap.objs.size (.ref l) [] .none) _ _ _
  unfold Builtin.Dict.updateFrom
  refine wpAny_bind (wpAny_typeOf (T := "list") ⟨ol, k0 _ _ hl, hc⟩ ?_)
  rw [if_pos (by first | decide | rfl | simp)]
  refine wpAny_bind (miss_list (k0 _ _ hl) hc hdat hd hh fun h1 tk1 hk1 => ?_)
  rw [if_pos (show (none : Option Value).isNone = true from rfl)]
  refine wpAny_bind (wpAny_rule ?_)
  have hl1 : h1.IsList l items := ⟨ol, hk1 _ _ (k0 _ _ hl), hc, n, hdat⟩
  have hS1 : s.heap.objs.size < h1.objs.size := by
    have e : (s.heap.push { cls := .type "dict", data := .dict #[] }).get? s.heap.objs.size = some { cls := .type "dict", data := .dict #[] } := Heap.get?_push_size _ rfl
    exact Heap.lt_size (hk1 _ _ e)
  refine wpAny_bind (wpAny_pyIter_list hl1 ?_)
  have k2 : ∀ b o, h1.get? b = some o → (h1.push { cls := .type "list_iterator", data := .fields #[.ref l, .int 0 0] }).get? b = some o := fun b o e => Heap.get?_push_of_some _ e
  have hlt : l < s.heap.objs.size := Heap.lt_size hl
  have key := upd_loopT (prog := prog) (w := w) (A := A.in1) (R := wants (fun r s₂ => r = .none ∧ Q (.ref s.heap.objs.size) s₂) E) (S := s.heap.objs.size) (I := h1.objs.size) (l := l) (items := items) (res := Value.none) hh (show A.units + 1 + 1 < cLine by omega)
    hlt hS1 prs 0 [] 0 0
    { s with heap := h1.push { cls := .type "list_iterator", data := .fields #[.ref l, .int 0 0] }, toks := tk1 } (by rw [hsz, Nat.zero_add]) (by rw [List.length_nil, Nat.zero_add]; exact hln)
    (fun j q e => by
      obtain ⟨b, e1, e2, e3⟩ := ht j q e
      have kk : ∀ c o, s.heap.get? c = some o → (h1.push { cls := .type "list_iterator", data := .fields #[.ref l, .int 0 0] }).get? c = some o := fun c o z => k2 _ _ (hk1 _ _ (k0 _ _ z))
      obtain ⟨o, its, n, g1, r⟩ := (show IsTupleKey (mixKind prog w) s.heap q.1 q.2.1 from e3)
      exact ⟨b, by rw [Nat.zero_add]; exact e1, e2.lt, Heap.lt_size g1, e2.keeps kk, key_mono e3 fun o z => kk _ _ z⟩)
    ⟨_, Heap.get?_push_size _ rfl, rfl, rfl⟩ (hl1.at fun o e => k2 _ _ e) (dictH_mono hnewH (fun o e => k2 _ _ (hk1 _ _ e)) fun q hq => by cases hq) (fun x hx => by cases hx)
    (fun h' tk hd' k => ⟨rfl, h h' tk hd' fun b o e => k b o (Heap.lt_size e) (k2 _ _ (hk1 _ _ (k0 _ _ e)))⟩)
  first
    | exact wpAny_pure ⟨plainId_quiet ud_plain _, key⟩
    | exact wpAny_bind (wpAny_pure (wpAny_pure ⟨plainId_quiet ud_plain _, key⟩))
end
theorem atKey_notin {xs : List (List Key × Addr × Value)} {k : List Key} (h : k ∉ xs.map (·.1)) : atKey xs k = none := by
  unfold atKey
  rw [Option.map_eq_none_iff, List.find?_eq_none]
  intro x hx e
  exact h (List.mem_map.mpr ⟨x, hx, by simpa using e⟩)
theorem mergeH_nd : ∀ (qs acc : List (List Key × Addr × Value)), ((acc ++ qs).map (·.1)).Nodup → mergeH acc qs = acc ++ qs
  | [], acc, _ => by simp [mergeH]
  | q :: qs, acc, h => by
    have hq : q.1 ∉ acc.map (·.1) := by
      rw [List.map_append, List.nodup_append] at h
      intro z
      exact h.2.2 _ z _ (by simp) rfl
    show mergeH (storedH acc q.1 q.2.1 q.2.2) qs = _
    rw [storedH_new (atKey_notin hq), mergeH_nd qs (acc ++ [(q.1, q.2.1, q.2.2)]) (by simpa using h)]
    simp
section
variable {X : Cx}
theorem call_dictPT (hcalm : X.calm = true) (hu : X.A.units + 2 < cLine) : CallR X (.type "dict") (fun xs H Q => ∃ (a : Addr) (ps : List Addr) (kvs : List (List Key × V)), xs = [.ref a] ∧ SqL X.K H a (ps.map V.ref) ∧ Paired (fun p kv => ∃ b, H p = some (.tup [.ref b, kv.2]) ∧ H b = some (.tup (kv.1.map kV))) ps kvs ∧
    (kvs.map (·.1)).Nodup ∧ ∀ p, H p = none → Q (.ref p) (upd H p (.dT kvs))) := by
  intro pins s σ H xs us Q I r q
  obtain ⟨a, ps, kvs, ex, hq, hp, hnd, q⟩ := q
  subst ex
  obtain ⟨u, eu, rx⟩ := vals1 r
  subst eu
  cases rx
  obtain ⟨its, rv, pl, hz⟩ := I.list hq
  have ei := refs_at rv
  subst ei
  rw [List.length_map] at hz
  have tab : ∀ {ps : List Addr} {kvs : List (List Key × V)}, Paired (fun p (kv : List Key × V) => ∃ b, H p = some (.tup [.ref b, kv.2]) ∧ H b = some (.tup (kv.1.map kV))) ps kvs →
      ∃ prs : List (List Key × Addr × Value), KT H kvs prs ∧ prs.length = ps.length ∧ ∀ (j : Nat) (q : List Key × Addr × Value), prs[j]? = some q → ∃ b, ps[j]? = some b ∧ IsTup s.heap b #[.ref q.2.1, q.2.2] ∧ (tupleKind (mixKind X.prog X.w)).is s.heap q.1 q.2.1 := by
    intro ps kvs h
    induction h with
    | nil => exact ⟨[], .nil, rfl, fun j q e => by simp at e⟩
    | @cons p kv ps kvs h t ih =>
      obtain ⟨prs, r, hl, hp⟩ := ih
      obtain ⟨b, h1, h2⟩ := h
      obtain ⟨its, rv, ht, _⟩ := I.tuple (.inl (.of h1))
      obtain ⟨u, y, ei, ru, ry⟩ := vals2 rv
      subst ei
      cases ru
      refine ⟨(kv.1, b, y) :: prs, .cons ⟨rfl, h2, ry⟩ r, by rw [List.length_cons, List.length_cons, hl], fun j q e => ?_⟩
      cases j with
      | zero =>
        have e' : (kv.1, b, y) = q := Option.some.inj e
        subst e'
        exact ⟨p, rfl, ht, key_of I.hok h2⟩
      | succ j =>
        obtain ⟨c, e1, e2, e3⟩ := hp j q (by simpa using e)
        exact ⟨c, by simpa using e1, e2, e3⟩
  obtain ⟨prs, rel, hl, hpr⟩ := tab hp
  obtain ⟨o, n, ho, hc, hd, hdat⟩ := pl
  have keys : ∀ {l : List (List Key × V)} {m : List (List Key × Addr × Value)}, KT H l m → m.map (·.1) = l.map (·.1) := by
    intro l m q
    induction q with
    | nil => rfl
    | cons h t ih => rw [List.map_cons, List.map_cons, ih, h.1]
  refine call_dict_pairsT (prs := prs) (I.ok.hd hcalm) hu ho hc hd hdat (by simp [hl]) (by rw [hl]; exact hz) (fun j q' e => ?_) fun h' tk hd' k => ?_
  · obtain ⟨b, e1, e2, e3⟩ := hpr j q' e
    exact ⟨b, by simp [e1], e2, e3⟩
  · rw [mergeH_nd prs [] (by rw [List.nil_append, keys rel]; exact hnd), List.nil_append] at hd'
    have hm : (s.heap.objs.size == sysModules) = false := beq_eq_false_iff_ne.mpr (Nat.ne_of_gt I.big)
    have hlen : kvs.length ≤ sizeLine := by rw [Paired.length rel, hl]; exact hz
    obtain ⟨o2, es, ep, g1, g2, g3, g4, g5, g6⟩ := hd'
    have hf := I.hok.fresh (Nat.le_refl s.heap.objs.size)
    refine ⟨.ref s.heap.objs.size, upd H s.heap.objs.size (.dT kvs), I.laid (t' := tk) k (Nat.le_refl _) ?_, rfl, q _ hf⟩
    exact ⟨hlen, hm, prs, rel.keeps fun b ys e => upd_keeps hf _ _ e, o2, es, ep, g1, g2, g3, g4, g6⟩
end
end DL
end
noncomputable section
namespace DL
open PySem PySem.Spec PyProof.Rows L2
def DGz (K : PySem.W.Frag) (H : Hp) (a : Addr) (y : V) (r : Option V) : Prop :=
  (∃ kvs k, Rd H a (.dK kvs) ∧ y = kV k ∧ r = valV kvs k) ∨ ∃ kvs k b, Rd H a (.dT kvs) ∧ y = .ref b ∧ SqT K H b (k.map kV) ∧ r = valV kvs k
theorem DGz.k {K : PySem.W.Frag} {H : Hp} {a : Addr} {kvs : List (Key × V)} {k : Key} (e : H a = some (.dK kvs)) : DGz K H a (kV k) (valV kvs k) := .inl ⟨kvs, k, .inl e, rfl, rfl⟩
theorem DGz.t {K : PySem.W.Frag} {H : Hp} {a b : Addr} {kvs : List (List Key × V)} {k : List Key} (e : H a = some (.dT kvs)) (eb : SqT K H b (k.map kV)) : DGz K H a (.ref b) (valV kvs k) := .inr ⟨kvs, k, b, .inl e, rfl, eb, rfl⟩
section
variable {X : Cx} {pins : List (Addr × Obj)} {σ : L2.St} {H : Hp} {s : Shared} {a : Addr} {y v d : V} {u r : Value} {o : Option V} {A : Around} {E : Value → Shared → Prop} {Q : Value → Shared → Prop}
theorem key_z {ks : List Key} {b : Addr} (I : Inv X pins σ H s) (e : SqT X.K H b (ks.map kV)) : (tupleKind (mixKind X.prog X.w)).is s.heap ks b := by
  obtain ⟨its, r, ⟨o, h1, h2, n, h3⟩, _⟩ := I.tuple e
  exact ⟨o, its.toArray, n, h1, h2, h3, by simpa using items_are r⟩
theorem dz_getItem (hu : A.units + 1 < cLine) (I : Inv X pins σ H s) (g : DGz X.K H a y (some v)) (ry : RelV y u) (h : ∀ w' s', Inv X pins σ H s' → RelV v w' → Q w' s') : wpAny (model X.prog X.w) A (getItem (.ref a) u) Q E s := by
  rcases g with g | ⟨kvs, k, b, e, rfl, eb, l⟩
  · exact d_getItem hu I (.inl g) ry h
  · cases (show u = Value.ref b from ry)
    obtain ⟨z, hd, xs, rel, dd⟩ := dt_rd I.hok e
    obtain ⟨w', hw, rw'⟩ := RelO.some_of (v := v) (o := (atKey xs k).map (·.2)) (by rw [l]; exact rel.val k)
    obtain ⟨p, hp, hp2⟩ := Option.map_eq_some_iff.mp hw
    refine wpAny_getItem_heap (tupleKind_room_in1 hu) (key_z I eb) dd hp ?_
    rw [hp2]; exact h w' _ (I.tok _) rw'
theorem dz_in (hu : A.units + 1 < cLine) (I : Inv X pins σ H s) (g : DGz X.K H a y o) (ry : RelV y u) (h : ∀ s', Inv X pins σ H s' → Q (.bool o.isSome) s') : wpAny (model X.prog X.w) A (compareOp .In u (.ref a)) Q E s := by
  rcases g with g | ⟨kvs, k, b, e, rfl, eb, l⟩
  · exact d_in hu I (.inl g) ry h
  · cases (show u = Value.ref b from ry)
    obtain ⟨z, hd, xs, rel, dd⟩ := dt_rd I.hok e
    refine wpAny_in_heap (tupleKind_room_in1 hu) (key_z I eb) hd dd ?_
    have q := (rel.val k).isSome_eq
    rw [Option.isSome_map] at q
    rw [← q, ← l]; exact h _ (I.tok _)
theorem dz_notIn (hu : A.units + 1 < cLine) (I : Inv X pins σ H s) (g : DGz X.K H a y o) (ry : RelV y u) (h : ∀ s', Inv X pins σ H s' → Q (.bool (!o.isSome)) s') : wpAny (model X.prog X.w) A (compareOp .NotIn u (.ref a)) Q E s := by
  rcases g with g | ⟨kvs, k, b, e, rfl, eb, l⟩
  · exact d_notIn hu I (.inl g) ry h
  · cases (show u = Value.ref b from ry)
    obtain ⟨z, hd, xs, rel, dd⟩ := dt_rd I.hok e
    refine wpAny_notIn_heap (tupleKind_room_in1 hu) (key_z I eb) hd dd ?_
    have q := (rel.val k).isSome_eq
    rw [Option.isSome_map] at q
    rw [← q, ← l]; exact h _ (I.tok _)
theorem dz_typeIs (I : Inv X pins σ H s) (g : DGz X.K H a y o) : s.TypeIs (.ref a) "dict" := by
  rcases g with g | ⟨kvs, k, b, e, _, _, _⟩
  · exact dict_typeIs I (.inl g)
  · obtain ⟨_, _, xs, _, dd⟩ := dt_rd I.hok e
    exact dd.typeIs
end
theorem _root_.L2.Room.units65 {k : Nat} {A : Around} (r : Room k A) : A.units + 65 < cLine := by have := r.un; omega
def keyD : PyData → Option Key
  | .int i => some (.inl i)
  | .str x => some (.inr x)
  | _ => none
def keysD : List PyData → Option (List Key)
  | [] => some []
  | d :: ds => (keyD d).bind fun k => (keysD ds).map (k :: ·)
theorem keyD_of {K : PySem.W.Frag} {H : Hp} {v : V} {d : PyData} {k : Key} (e : keyD d = some k) (r : Rp K H v d) : v = kV k := by
  cases d with
  | int i => cases e; cases r; rfl
  | str x => cases e; cases r; rfl
  | _ => cases e
/-- the keys that are put: none is empty -/
def keysE (ds : List PyData) : Option (List Key) := if ds.isEmpty = true then none else keysD ds
theorem keysE_of {ds : List PyData} {ks : List Key} (e : keysE ds = some ks) : keysD ds = some ks ∧ ruly ds = false := by
  unfold keysE at e
  cases ds with
  | nil => simp at e
  | cons d ds =>
    simp only [List.isEmpty_cons, Bool.false_eq_true, if_false] at e
    refine ⟨e, ?_⟩
    unfold keysD at e
    obtain ⟨k, e1, _⟩ := Option.bind_eq_some_iff.mp e
    have : rowP d = false := by
      cases d <;> first | rfl | (simp [keyD] at e1)
    simp [ruly, this]
theorem keysD_of {K : PySem.W.Frag} {H : Hp} : ∀ {ds : List PyData} {ks : List Key} {vs : List V}, keysD ds = some ks → RpAll K H vs ds → vs = ks.map kV
  | [], _, _, e, .nil => by cases e; rfl
  | d :: ds, ks, _, e, .cons r t => by
    obtain ⟨k, e1, e2⟩ := Option.bind_eq_some_iff.mp e
    obtain ⟨ks', e3, rfl⟩ := Option.map_eq_some_iff.mp e2
    rw [keyD_of e1 r, keysD_of e3 t]; rfl
def valW {κ : Type} [DecidableEq κ] (kvs : List (κ × W)) (k : κ) : Option W := (kvs.find? fun kv => decide (kv.1 = k)).map (·.2)
theorem valW_of {κ : Type} [DecidableEq κ] {K : PySem.W.Frag} {m : List Addr} {H : Hp} {us : List (κ × V)} {kvs : List (κ × W)} {k : κ} {w : W} (r : Paired (fun (p : κ × V) (q : κ × W) => p.1 = q.1 ∧ RW τ K m H p.2 q.2) us kvs) (e : valW kvs k = some w) :
    ∃ v, valV us k = some v ∧ RW τ K m H v w := by
  induction r with
  | nil => cases e
  | @cons p q ps qs h t ih =>
    by_cases c : q.1 = k
    · have e1 : valW (q :: qs) k = some q.2 := by simp [valW, List.find?_cons, c]
      rw [e1] at e; cases e
      exact ⟨p.2, valV_pos (h.1.trans c), h.2⟩
    · have e1 : valW (q :: qs) k = valW qs k := by simp [valW, List.find?_cons, c]
      rw [e1] at e
      obtain ⟨v, h1, h2⟩ := ih e
      exact ⟨v, by rw [valV_neg (fun z => c (h.1.symm.trans z))]; exact h1, h2⟩
/-- d[k] -/
def dgetF : W → W → Sto → Option (W × Sto)
  | .loc n, .d k, S => match S[n]? with
    | some (.dicK kvs) => (keyD k).bind fun k => (valW kvs k).map fun w => (w, S)
    | some (.dicT kvs) => match k with
      | .tuple ds => (keysD ds).bind fun k => (valW kvs k).map fun w => (w, S)
      | _ => none
    | _ => none
  | _, _, _ => none
end DL
end
noncomputable section
namespace DL
open PySem PySem.Spec PyProof.Rows L2
def putW {κ : Type} [DecidableEq κ] (kvs : List (κ × W)) (k : κ) (v : W) : List (κ × W) :=
  if (kvs.any fun kv => decide (kv.1 = k)) = true then kvs.map (fun kv => if kv.1 = k then (kv.1, v) else kv) else kvs ++ [(k, v)]
section
variable {κ : Type} [DecidableEq κ] {K : PySem.W.Frag} {m : List Addr} {H : Hp} {us : List (κ × V)} {kvs : List (κ × W)} {k : κ} {v : V} {w : W}
theorem tab_any (r : Paired (fun (p : κ × V) (q : κ × W) => p.1 = q.1 ∧ RW τ K m H p.2 q.2) us kvs) : (us.any fun kv => decide (kv.1 = k)) = kvs.any fun kv => decide (kv.1 = k) := by
  induction r with
  | nil => rfl
  | cons h t ih => rw [List.any_cons, List.any_cons, ih, h.1]
theorem tab_put (r : Paired (fun (p : κ × V) (q : κ × W) => p.1 = q.1 ∧ RW τ K m H p.2 q.2) us kvs) (rv : RW τ K m H v w) : Paired (fun (p : κ × V) (q : κ × W) => p.1 = q.1 ∧ RW τ K m H p.2 q.2) (putK us k v) (putW kvs k w) := by
  unfold putK putW
  rw [tab_any r]
  split
  · rename_i hh
    clear hh
    induction r with
    | nil => exact .nil
    | @cons p q ps qs h t ih =>
      rw [List.map_cons, List.map_cons]
      refine .cons ?_ ih
      by_cases e : q.1 = k
      · rw [if_pos (h.1.trans e), if_pos e]; exact ⟨h.1, rv⟩
      · rw [if_neg (fun z => e (h.1.symm.trans z)), if_neg e]; exact h
  · exact paired_app r (.cons ⟨rfl, rv⟩ .nil)
theorem valW_no (r : Paired (fun (p : κ × V) (q : κ × W) => p.1 = q.1 ∧ RW τ K m H p.2 q.2) us kvs) (e : valW kvs k = none) : valV us k = none := by
  induction r with
  | nil => rfl
  | @cons p q ps qs h t ih =>
    by_cases c : q.1 = k
    · simp [valW, List.find?_cons, c] at e
    · have e1 : valW (q :: qs) k = valW qs k := by simp [valW, List.find?_cons, c]
      rw [e1] at e
      rw [valV_neg (fun z => c (h.1.symm.trans z))]; exact ih e
end
/-- a find on both sides -/
def RelW (τ : Tbs) (K : PySem.W.Frag) (m : List Addr) (H : Hp) : Option W → Option V → Prop
  | some w, ov => ∃ v, ov = some v ∧ RW τ K m H v w
  | none, ov => ov = none
/-- what the dict holds at a key -/
def dlook (S : Sto) : W → W → Option (Option W)
  | .loc n, .d k => match S[n]? with
    | some (.dicK kvs) => (keyD k).map fun k => valW kvs k
    | some (.dicT kvs) => match k with
      | .tuple ds => (keysD ds).map fun k => valW kvs k
      | _ => none
    | _ => none
  | _, _ => none
theorem dlook_of {K : PySem.W.Frag} {m : List Addr} {S : Sto} {ρ : DEnv} {σ : L2.St} {H : Hp} {x y : V} {wx wy : W} {o : Option W} (q : Sim τ K m S ρ σ H) (hx : RW τ K m H x wx) (hy : RW τ K m H y wy) (e : dlook S wx wy = some o) :
    ∃ a ov, x = .ref a ∧ IsD H a ∧ DGz K H a y ov ∧ RelW τ K m H o ov := by
  unfold dlook at e
  split at e
  · obtain ⟨a, hm, rfl⟩ := hx
    split at e
    · rename_i kvs hs
      obtain ⟨k, e1, e2⟩ := Option.map_eq_some_iff.mp e
      obtain ⟨b, hb, us, hv, pr⟩ := q.obs _ _ hs
      rw [hm] at hb; cases hb
      obtain rfl := keyD_of e1 hy
      refine ⟨a, _, rfl, .inl ⟨us, .inl hv⟩, DGz.k hv, ?_⟩
      cases o with
      | none => exact valW_no pr e2
      | some w => exact valW_of pr e2
    · rename_i kvs hs
      split at e
      · obtain ⟨k, e1, e2⟩ := Option.map_eq_some_iff.mp e
        obtain ⟨b, hb, us, hv, pr⟩ := q.obs _ _ hs
        rw [hm] at hb; cases hb
        obtain ⟨c, xs, rfl, hc, rx⟩ := rp_tup hy
        obtain rfl := keysD_of e1 rx
        refine ⟨a, _, rfl, .inr ⟨us, .inl hv⟩, DGz.t hv hc, ?_⟩
        cases o with
        | none => exact valW_no pr e2
        | some w => exact valW_of pr e2
      · cases e
    · cases e
  · cases e
/-- k in d, k not in d -/
def dinF (neg : Bool) : W → W → Sto → Option (W × Sto) := fun x y S => (dlook S y x).map fun o => (.d (.bool (o.isSome ^^ neg)), S)
section
variable {X : Cx} {e a b c : Expr} {rest es : List Expr} {pos : Pos} {A B C : ME} {T U : MT} {R : MA}
theorem look_isSome {K : PySem.W.Frag} {m : List Addr} {H : Hp} {o : Option W} {ov : Option V} (h : RelW τ K m H o ov) : ov.isSome = o.isSome := by
  cases o with
  | none => rw [show ov = none from h]; rfl
  | some w => obtain ⟨v, rfl, _⟩ := h; rfl
/-- d[k] = v -/
def dputF : W → W → W → Sto → Option Sto
  | .loc n, .d k, w, S => match S[n]? with
    | some (.dicK kvs) => (keyD k).bind fun k => if kvs.length < sizeLine then some (S.set n (.dicK (putW kvs k w))) else none
    | some (.dicT kvs) => match k with
      | .tuple ds => (keysE ds).bind fun k => if kvs.length < sizeLine then some (S.set n (.dicT (putW kvs k w))) else none
      | _ => none
    | _ => none
  | _, _, _, _ => none
theorem putD_kp {H : Hp} {a : Addr} {o u : HO} (hv : H a = some u) (hu : ¬ Imm u) : Kp H (upd H a o) := kp_other hv hu
theorem putD_fr {H : Hp} {m : List Addr} {n : Nat} {a : Addr} {o u : HO} (hm : m[n]? = some a) (hv : H a = some u) (hu : ¬ Imm u) : Fr m H (upd H a o) := Fr.chg (List.mem_of_getElem? hm) hv hu
theorem set_dict {k : Nat} (hr : Room k X.A) : PSet X (rSet τ X.K dputF) := by
  intro pins s σ H o i v ov iv u Q I ro ri rv h
  obtain ⟨m, S, ρ, σ', wo, wi, wv, S', q, h1, h2, h3, e, p⟩ := h
  unfold dputF at e
  split at e
  · obtain ⟨a, hm, rfl⟩ := h1
    cases ro
    split at e
    · rename_i kvs hs
      obtain ⟨k, e1, e⟩ := Option.bind_eq_some_iff.mp e
      split at e
      · rename_i hz
        cases e
        obtain ⟨b, hb, us, hv, pr⟩ := q.obs _ _ hs
        rw [hm] at hb; cases hb
        obtain rfl := keyD_of e1 h2
        refine d_setItem (by have := hr.un; omega) I (DPut.k hv (by rw [pr.length]; exact hz)) ri rv fun s' I' => ⟨_, I', ?_⟩
        refine p [] _ (fun _ h => absurd h (by simp)) (by
          rw [List.append_nil]
          exact q.put hm (fun u h => by rw [hv] at h; cases h; exact fun z => z) (List.getElem?_eq_some_iff.mp hs).1 ⟨_, upd_same, Paired.mapP (tab_put pr h3) fun _ _ z => ⟨z.1, z.2.mono0 (putD_kp hv fun z => z)⟩⟩) (putD_fr hm hv fun z => z)
      · cases e
    · rename_i kvs hs
      split at e
      · obtain ⟨k, e1, e⟩ := Option.bind_eq_some_iff.mp e
        split at e
        · rename_i hz
          cases e
          obtain ⟨b, hb, us, hv, pr⟩ := q.obs _ _ hs
          rw [hm] at hb; cases hb
          obtain ⟨e1, e1n⟩ := keysE_of e1
          obtain ⟨c, xs, rfl, hc, rx⟩ := rp_tupH h2 e1n
          obtain rfl := keysD_of e1 rx
          refine d_setItem (by have := hr.un; omega) I (DPut.t hv hc (by rw [pr.length]; exact hz)) ri rv fun s' I' => ⟨_, I', ?_⟩
          refine p [] _ (fun _ h => absurd h (by simp)) (by
            rw [List.append_nil]
            exact q.put hm (fun u h => by rw [hv] at h; cases h; exact fun z => z) (List.getElem?_eq_some_iff.mp hs).1 ⟨_, upd_same, Paired.mapP (tab_put pr h3) fun _ _ z => ⟨z.1, z.2.mono0 (putD_kp hv fun z => z)⟩⟩) (putD_fr hm hv fun z => z)
        · cases e
      · cases e
    · cases e
  · cases e
def isDic (S : Sto) : W → Bool
  | .loc n => match S[n]? with
    | some (.dicK _) => true
    | some (.dicT _) => true
    | _ => false
  | _ => false
def mGet1' (A B : ME) : ME := fun ρ S => (A ρ S).bind fun p => if isDic p.2 p.1 = true then (B ρ p.2).bind fun q => (dlook q.2 p.1 q.1).map fun o => (o.getD (.d .none), q.2) else none
def mGet2' (A B C : ME) : ME := fun ρ S => (A ρ S).bind fun p => if isDic p.2 p.1 = true then (B ρ p.2).bind fun q => (C ρ q.2).bind fun r => (dlook r.2 p.1 q.1).map fun o => (o.getD r.1, r.2) else none
/-- dict(l) of a list of pairs of data, the keys tuples -/
def pairsT : List PyData → Option (List (List Key × W))
  | [] => some []
  | .tuple [.tuple ks, x] :: ds => (keysE ks).bind fun k => (pairsT ds).map fun r => (k, .d x) :: r
  | _ :: _ => none
def dictP := on1 fun w S => (deref S w).bind fun d => match d with
  | .list ds => (pairsT ds).bind fun kvs => @ite _ ((kvs.map (·.1)).Nodup) (gd _) (some (.loc S.length, S ++ [.dicT kvs])) none
  | _ => none
theorem keysD_row {ks : List PyData} {k : List Key} (e : keysD ks = some k) : rowP (.tuple ks) = false := by
  cases ks with
  | nil => rfl
  | cons d ds =>
    unfold keysD at e
    obtain ⟨_, e1, _⟩ := Option.bind_eq_some_iff.mp e
    cases d <;> first | rfl | (simp [keyD] at e1)
theorem pairsT_of {K : PySem.W.Frag} {m : List Addr} {H : Hp} : ∀ {ds : List PyData} {kvs : List (List Key × W)} {xs : List V}, pairsT ds = some kvs → RpAll K H xs ds →
    ∃ (ps : List Addr) (us : List (List Key × V)), xs = ps.map V.ref ∧ us.map (·.1) = kvs.map (·.1) ∧ Paired (fun p (kv : List Key × V) => ∃ b, H p = some (.tup [.ref b, kv.2]) ∧ H b = some (.tup (kv.1.map kV))) ps us ∧
      Paired (fun (p : List Key × V) (q : List Key × W) => p.1 = q.1 ∧ RW τ K m H p.2 q.2) us kvs
  | [], _, _, e, .nil => by cases e; exact ⟨[], [], rfl, rfl, .nil, .nil⟩
  | d :: ds, kvs, _, e, .cons r t => by
    unfold pairsT at e
    split at e
    · rename_i h1; cases h1
    · rename_i ks x ds' h1
      cases h1
      obtain ⟨k, e1, e⟩ := Option.bind_eq_some_iff.mp e
      obtain ⟨r', e2, rfl⟩ := Option.map_eq_some_iff.mp e
      obtain ⟨ps, us, rfl, i1, i2, i3⟩ := pairsT_of (m := m) e2 t
      obtain ⟨e1, e1n⟩ := keysE_of e1
      obtain ⟨p, vs, rfl, hp, rv⟩ := rp_tupH r (by simp [ruly, keysD_row e1])
      cases rv with
      | cons rk rr =>
        cases rr with
        | cons rx rr =>
          cases rr
          obtain ⟨b, ys, rfl, hb, ry⟩ := rp_tupH rk e1n
          obtain rfl := keysD_of e1 ry
          exact ⟨p :: ps, (k, _) :: us, rfl, by simp [i1], .cons ⟨b, hp, hb⟩ i2, .cons ⟨rfl, rx⟩ i3⟩
    · cases e
theorem call_dictDD {k : Nat} (hr : Room k X.A) (hc : X.calm = true) : CallR X (.type "dict") (rC τ X.K dictP) := by
  intro pins s σ H vs us Q I rx h
  obtain ⟨m, S, ρ, σ', w0, w, S', v, rfl, q, r, e, p⟩ := rC1 h
  obtain ⟨d, e1, e⟩ := Option.bind_eq_some_iff.mp e
  split at e
  · obtain ⟨kvs, e2, e⟩ := Option.bind_eq_some_iff.mp e
    split at e
    · rename_i hn
      cases e
      obtain ⟨a, xs, rfl, h, r1⟩ := deref_list q r e1
      obtain ⟨ps, us', rfl, i1, i2, i3⟩ := pairsT_of (m := m) e2 r1
      refine call_dictPT hc (by have := hr.un; omega) pins s σ H _ us Q I rx ⟨a, ps, us', rfl, h, i2, by rw [i1]; exact hn, fun t ht => ?_⟩
      have q2 := q.push (ob := .dicT kvs) (upd_keeps ht) ht ⟨us', upd_same, Paired.mapP i3 fun _ _ z => ⟨z.1, z.2.mono (upd_kp ht)⟩⟩
      refine p [t] _ _ (fun b hb => by rw [List.mem_singleton.mp hb]; exact ht) q2 (Fr.of (upd_keeps ht)) ⟨t, ?_, rfl⟩
      rw [← q.len, List.getElem?_append_right (Nat.le_refl _)]; simp
    · cases e
  · cases e
end
end DL
end
noncomputable section
namespace DL
open PySem PySem.Spec PyProof.Rows L2
def sortT (l : List (List Int)) : List PyData := toPs (sortC (l.map cI))
theorem cI_ok {l : List (List Int)} (h0 : ∀ a ∈ l, a ≠ []) : sortable (l.map cI) = true := by
  simp only [sortable, Bool.and_eq_true, List.all_eq_true, List.mem_map, decide_eq_true_eq]
  refine ⟨?_, ?_⟩
  · rintro _ ⟨a, ha, rfl⟩
    refine ⟨?_, ?_⟩
    · cases a with
      | nil => exact absurd rfl (h0 _ ha)
      | cons x a => rfl
    · have := ofP_eq _ _ (ofP_tI a)
      rw [← this, dep_tI]; decide
  · rintro _ ⟨a, ha, rfl⟩ _ ⟨b, hb, rfl⟩
    exact kind_cI a b
theorem sorted_ev {l : List (List Int)} {S : Sto} {w : W} (h0 : ∀ a ∈ l, a ≠ []) (hd : deref S w = some (.list (l.map tI))) : sortedD [w] S = some (.d (.list (sortT l)), S) := by
  simp only [sortedD, on1, hd, Option.bind_some, ofPs_map (fun a _ => ofP_tI a), cI_ok h0, if_true, sortT]
theorem sortT_ex (l : List (List Int)) : ∃ r : List (List Int), r.Perm l ∧ sortT l = r.map tI := by
  obtain ⟨r, hr, e⟩ := perm_map_ex (sortC_perm (l.map cI))
  refine ⟨r, hr, ?_⟩
  unfold sortT
  rw [e, toPs_map, List.map_map]
  exact List.map_congr_left fun a ha => (ofP_eq _ _ (ofP_tI a)).symm
theorem ev_inI {i : Int} {xs : List Int} {S : Sto} : inA false (.d (.int i)) (.d (.tuple (xs.map .int))) S = some (.d (.bool (decide (i ∈ xs))), S) := by
  have h1 : SeqAt.shaped (.list (xs.map PyData.int)) = true := by
    simp [SeqAt.shaped, PyData.canLay0, lay_ints, PyData.depth, dep_ints]
  have h2 : SeqAt.shaped (.int i) = true := by simp [SeqAt.shaped, PyData.canLay0, PyData.depth]
  have h3 : ((xs.map PyData.int).any fun z => PyData.eqv z (.int i)) = decide (i ∈ xs) := by
    clear h1
    induction xs with
    | nil => simp
    | cons x xs ih =>
      rw [List.map_cons, List.any_cons, ih]
      simp only [PyData.eqv, List.mem_cons]
      by_cases h : x = i
      · subst h; simp
      · have : i ≠ x := fun e => h e.symm
        by_cases h2 : i ∈ xs <;> simp [h, this, h2]
  have h4 : deref S (.d (.int i)) = some (.int i) := rfl
  simp only [inA, h4, seqOf, Option.bind_some, h1, h2, h3, Bool.and_self, if_true, Bool.xor_false]
end DL
end
noncomputable section
namespace DL
open PySem PySem.Spec PyProof.Rows L2
section
variable {X : Cx}
def iaddT : W → W → Sto → Option (W × Sto)
  | .d (.tuple i), .d (.tuple j), S => if i.isEmpty = false ∧ j.isEmpty = false ∧ i.length + j.length ≤ sizeLine then some (.d (.tuple (i ++ j)), S) else none
  | _, _, _ => none
def minLD := on1 fun w S => (deref S w).bind fun d => match d with
  | .list (d :: ds) => @ite _ (PySem.W.AlikeAll (d :: ds) ∧ PyData.depthAll (d :: ds) ≤ 100 ∧ PyData.canLayAll0 (d :: ds) = true) (gd _) (some (.d (PySem.W.minD d ds), S)) none
  | _ => none
end
end DL
end
noncomputable section
namespace DL
open PySem PySem.Spec PyProof.Rows L2
section
variable {X : Cx} {pins : List (Addr × Obj)} {σ : L2.St} {H : Hp} {s : Shared}
/-- such values can be sorted wherever they stand -/
theorem sortable_of {h0 : Heap} {its : List Value} {cs : List Cd} (hr : ∀ u ∈ its, ∃ as, Reads h0 u (toP (keyAt h0 u)) as) (inCs : ∀ u ∈ its, keyAt h0 u ∈ cs) (ok : sortable cs = true) (hz : its.length ≤ sizeLine) (hu : X.A.units + 66 < cLine)
    {h₁ : Heap} {a' : Addr} (kk : ∀ b o, h0.get? b = some o → b ≠ a' ∧ h₁.get? b = some o) (h2 : 2 ≤ its.length) (s : Shared) : SrtO.SortableO X.prog X.w X.A.in1.in1 { s with heap := h₁ } a' its (fun u v => ltC (keyAt h0 u) (keyAt h0 v)) := by
  intro h' keep
  unfold sortable at ok
  rw [Bool.and_eq_true] at ok
  have okA : ∀ c ∈ cs, isTupNE c = true ∧ (toP c).depth ≤ 60 := fun c hc => by
    have := List.all_eq_true.mp ok.1 c hc
    simpa using this
  have okK := pw_mem ok.2
  have kp : ∀ b o, h0.get? b = some o → h'.get? b = some o := fun b o e => by
    obtain ⟨n1, e1⟩ := kk b o e
    exact keep b o n1 e1
  have hr' : ∀ u ∈ its, ∃ as, Reads h' u (toP (keyAt h0 u)) as := fun u hu => by
    obtain ⟨as, rd⟩ := hr u hu
    exact ⟨as, Reads.keeps kp rd⟩
  have shape : ∀ u ∈ its, ∃ c ds, keyAt h0 u = .tup (c :: ds) := fun u hu => by
    have := (okA _ (inCs u hu)).1
    cases e : keyAt h0 u with
    | int i => rw [e] at this; cases this
    | tup ds =>
      cases ds with
      | nil => rw [e] at this; cases this
      | cons c ds => exact ⟨c, ds, rfl⟩
  obtain ⟨fs, kf, lf, hf⟩ := firsts_at (h := h') (us := its) fun u hu => by
    obtain ⟨c, ds, e⟩ := shape u hu
    obtain ⟨as, rd⟩ := hr' u hu
    rw [e] at rd
    exact ⟨c, ds, as, rd⟩
  -- the first items: all ints, or all tuples
  obtain ⟨u0, hu0⟩ : ∃ u0, u0 ∈ its := by
    match its, h2 with
    | u0 :: _, _ => exact ⟨u0, by simp⟩
  obtain ⟨c0, ds0, e0⟩ := shape u0 hu0
  have first : ∀ u ∈ its, ∀ c ds, keyAt h0 u = .tup (c :: ds) → kindC c0 c = true := fun u hu c ds e => by
    have := okK _ (inCs u0 hu0) _ (inCs u hu)
    rw [e0, e] at this
    simp only [kindC, kindCs, Bool.and_eq_true] at this
    exact this.1
  have keyOf : ∀ u ∈ its, ∀ c ds as, Reads h' u (toP (.tup (c :: ds))) as → keyAt h0 u = .tup (c :: ds) := fun u hu c ds as rd => by
    obtain ⟨bs, rd2⟩ := hr' u hu
    exact toP_inj _ _ (SeqAt.Reads.unique _ _ u bs as (lay_toP _) rd2 rd)
  refine ⟨tuples' (Value.type (tyC c0) != Value.type "tuple"), fun Q' E hq => ?_, ?_⟩
  · refine PySem.W.kat_kind (T := .type (tyC c0)) kf (by omega) (fun f hff => ?_) (by cases c0 <;> rfl) hq
    obtain ⟨u, hu, c, ds, as, bs, r1, r2⟩ := hf f hff
    have kc := first u hu c ds (keyOf u hu c ds as r1)
    have := looks_of (M := model X.prog X.w) r2
    cases c0 <;> cases c <;> first | exact this | (simp [kindC] at kc)
  · refine sort_cmp (A := X.A.in1.in1) (s := { s with heap := h' }) rfl hr' (fun u hu => (okA _ (inCs u hu)).2) (fun u hu v hv => okK _ (inCs u hu) _ (inCs v hv)) (fun u hu => (okA _ (inCs u hu)).1) (fun e u hu => ?_) (by rw [units_in1, units_in1]; omega)
    obtain ⟨c, ds, ek⟩ := shape u hu
    have kc := first u hu c ds ek
    cases c0 with
    | int i =>
      cases c with
      | int j => exact ⟨j, ds, ek⟩
      | tup _ => simp [kindC] at kc
    | tup cs => exact absurd e (by show ¬ (Value.type "tuple" != Value.type "tuple") = true; decide)
/-- a dict's keys gathered (kdu_collect of the kit, and the heap's growth) -/
theorem collect_up {prog : Program} {w : World} {A : Around} {E : Value → Shared → Prop} {s : Shared} {T : String} {r d : Addr} {n : Nat} {P : Nat → Value → Prop} {OK : Heap → Prop} {R : List Value → Shared → Prop} (K : PySem.W.KdlSrc prog w T r d n P OK) (hh : A.handled = none) (hok : OK s.heap) (hn : n ≤ sizeLine)
    (h : ∀ (h' : Heap) (tk : Nat) (acc : Array Value), (∀ b o, s.heap.get? b = some o → h'.get? b = some o) → s.heap.objs.size < h'.objs.size → ItemsOf P acc n → R acc.toList { s with heap := h', toks := tk }) :
    wpAny (model prog w) A (collect (.ref r)) R E s := by
  have hlt := K.there _ hok
  unfold collect
  refine wpAny_bind (wpAny_runValue (codeAny_builtin entry_proto_collect' ?_))
  rw [Around.under_plainId PySem.F.plain_proto_collect _]
  show wpAny _ A.in1 (newList [] >>= fun l => again (.builtin "list.__iadd__" ⟨[l, .ref r], []⟩)) _ _ s
  refine wpAny_bind (wpAny_newObj_type ?_)
  refine wpAny_pure ⟨plainId_quiet PySem.F.plain_list_iadd _, codeAny_builtin entry_list_iadd' ?_⟩
  rw [Around.under_plainId PySem.F.plain_list_iadd _]
  have hS₁ : (s.heap.push { cls := .type "list", data := .seq ([] : List Value).toArray }).get? s.heap.objs.size = some { cls := .type "list", data := .seq #[] } := Heap.get?_push_size _ rfl
  show wpAny _ A.in1 (Builtin.List.listExtendWith (.ref s.heap.objs.size) (.ref r) (.ref s.heap.objs.size)) _ _ _
  have key := PySem.W.kdl_extend (A := A) (s := { s with heap := s.heap.push { cls := .type "list", data := .seq ([] : List Value).toArray } })
    (R := fun (q : Result) (s' : Shared) => ∃ (h' : Heap) (tk : Nat) (acc' : Array Value) (c' : Nat), q = .ok (.ret (.ref s.heap.objs.size)) ∧ s' = { s with heap := h', toks := tk } ∧
      (∀ b o, s.heap.get? b = some o → h'.get? b = some o) ∧ h'.get? s.heap.objs.size = some { cls := .type "list", dict := none, data := .seq acc' c', slots := #[] } ∧ ItemsOf P acc' n)
    K hh (K.keep _ _ hok fun b _ o e => Heap.get?_push_of_some _ e) s.heap.objs.size (Nat.ne_of_gt hlt.1) (Nat.ne_of_gt hlt.2) (.ref s.heap.objs.size) 0 hS₁
    (fun h' tk acc' c' hk hS' hacc => ⟨h', tk, acc', c', rfl, rfl, fun b o e => hk b o (Nat.ne_of_lt (Heap.lt_size e)) (Heap.get?_push_of_some _ e), hS', hacc⟩) hn
  refine wpAny_mono key (fun fin s' x => ?_) fun e s' x => ?_
  · cases fin with
    | done f =>
      obtain ⟨h', tk, acc', c', e, rfl, hk, hS', hacc⟩ := x
      cases e
      show wpAny _ A (load s.heap.objs.size >>= _) _ _ _
      refine wpAny_bind (wpAny_load hS' ?_)
      exact wpAny_pure (h h' tk acc' hk (Heap.lt_size hS') hacc)
    | again c₁ =>
      refine ⟨x.1, codeAny_mono x.2 fun q s₂ y => ?_⟩
      obtain ⟨h', tk, acc', c', rfl, rfl, hk, hS', hacc⟩ := y
      show wpAny _ A (load s.heap.objs.size >>= _) _ _ _
      refine wpAny_bind (wpAny_load hS' ?_)
      exact wpAny_pure (h h' tk acc' hk (Heap.lt_size hS') hacc)
  · obtain ⟨_, _, _, _, e', _⟩ := x
    cases e'
/-- keys that are tuples of ints -/
def keyI : List Key → Option (List Int)
  | [] => some []
  | .inl i :: ks => (keyI ks).map (i :: ·)
  | .inr _ :: _ => none
def keysI : List (List Key) → Option (List (List Int))
  | [] => some []
  | k :: ks => if k.isEmpty = true then none else (keyI k).bind fun n => (keysI ks).map (n :: ·)
theorem toP_cI (ns : List Int) : toP (cI ns) = tI ns := (ofP_eq _ _ (ofP_tI ns)).symm
/-- sorted(d) -/
def sortedKD := on1 fun w S => match w with
  | .loc n => match S[n]? with
    | some (.dicT kvs) => (keysI (kvs.map (·.1))).bind fun ns => if sortable (ns.map cI) = true then some (.d (.list (sortT ns)), S) else none
    | _ => none
  | _ => none
theorem tab_keys {κ : Type} {K : PySem.W.Frag} {m : List Addr} {H : Hp} {us : List (κ × V)} {kvs : List (κ × W)} (r : Paired (fun (p : κ × V) (q : κ × W) => p.1 = q.1 ∧ RW τ K m H p.2 q.2) us kvs) : us.map (·.1) = kvs.map (·.1) := by
  induction r with
  | nil => rfl
  | cons h t ih => rw [List.map_cons, List.map_cons, ih, h.1]
end
end DL
end
noncomputable section
namespace DL
open PySem PySem.Spec PyProof.Rows L2
/-- d[k] = v where k stands as a tuple -/
theorem d_dictSetT {X : Cx} {pins : List (Addr × Obj)} {σ : L2.St} {H : Hp} {s : Shared} {E : Value → Shared → Prop} {D b : Addr} {kvs : List (List Key × V)} {k : List Key} {v : V} {r : Value} {Q : Unit → Shared → Prop} (hu : X.A.units < cLine) (I : Inv X pins σ H s) (hD : H D = some (.dT kvs)) (hz : kvs.length < sizeLine)
    (hb : H b = some (.tup (k.map kV))) (rv : RelV v r) (h : ∀ s', Inv X pins σ (upd H D (.dT (putK kvs k v))) s' → Q () s') : wpAny (model X.prog X.w) X.A (dictSet D (.ref b) r) Q E s := by
  obtain ⟨z, hd, xs, rel, dd⟩ := dt_of I.hok hD
  have hzx : xs.length ≤ sizeLine := by rw [← Paired.length rel]; exact z
  have hl : (putK kvs k v).length ≤ sizeLine := by have := length_putK kvs k v; omega
  refine wpAny_dictSet_heap (hsz := hzx) (knd := tupleKind (mixKind X.prog X.w)) (show X.A.units < cLine from hu) (key_of I.hok hb) dd fun h' dd' hs => h _ ?_
  obtain ⟨q, es, ep, hq, h2, h3, h4, _, h5⟩ := dd'
  refine d_write I (by rw [hD]; exact True.intro) hs ⟨q, hq⟩ ⟨hl, hd, _, (rel.put k hb rv).keeps fun c ys ec => ?_, q, es, ep, hq, h2, h3, h4, h5⟩
  rw [upd_ne (ne_of ec hD (fun z => nomatch z))]
  exact ec
def dcL (g : MG) (T : MT) (A B : ME) (vs : List Nat) (ρ : DEnv) : List W → List (List Key × W) → Sto → Option (List (List Key × W) × Sto)
  | [], acc, S => some (acc, S)
  | w :: ws, acc, S => (g w (wipeD ρ vs) S).bind fun p => (T p.1 p.2).bind fun b => if b.1 = true then (A p.1 b.2).bind fun y => match y.1 with
    | .d (.tuple ds) => (keysE ds).bind fun k => (B p.1 y.2).bind fun z => if acc.length < sizeLine then dcL g T A B vs ρ ws (putW acc k z.1) z.2 else none
    | _ => none
    else dcL g T A B vs ρ ws acc b.2
def mDc (it : MI) (g : MG) (T : MT) (A B : ME) (vs : List Nat) : ME := fun ρ S => (it ρ S).bind fun p => (dcL g T A B vs ρ p.1 [] p.2).bind fun r => some (.loc r.2.length, r.2 ++ [.dicT r.1])
section
variable {X : Cx} {kx vx tg iter : Expr} {ifs : List Expr} {scope : Scope} {own : List (Str × Nat)} {pos : Pos} {it : MI} {g : MG} {T : MT} {A B : ME}
def tDisp1T (tk tv : TE) : TE := fun σ H Q => ∀ p, H p = none → tk σ (upd H p (.dT [])) fun y H1 => tv σ H1 fun z H2 => ∃ b ks, y = .ref b ∧ H2 b = some (.tup (ks.map kV)) ∧ H2 p = some (.dT []) ∧ Q (.ref p) (upd H2 p (.dT [(ks, z)]))
theorem pe_disp1T {a b : Expr} {tk tv : TE} (hu : X.A.units < cLine) (hk : PE X a tk) (hv : PE X b tv) : PE X (.Dict [some a] [b] pos) (tDisp1T tk tv) := by
  refine ⟨fun pins s σ H Q I q => ?_⟩
  have hn := I.hok.fresh (Nat.le_refl s.heap.objs.size)
  have I1 := I.laid (a := s.heap.objs.size) (o := .dT []) (h' := s.heap.push { cls := .type "dict", data := .dict #[] }) (t' := s.toks) (fun _ _ q => Heap.get?_push_of_some _ q) (Nat.le_refl _) (dt_empty s.heap I.big)
  refine wpAny_Dict_any rfl rfl (by simp) (show 1 ≤ 15 by decide) ?_
  refine pairTrees_cons_walk (thn (hk.run pins _ σ _ _ I1 (q _ hn)) fun u s1 ⟨y, H1, I2, ry, q1⟩ => thn (hv.run pins s1 σ H1 _ I2 q1) fun r s2 ⟨z, H2, I3, rz, c, ks, ey, hc, hp, q2⟩ => pairTrees_nil_walk ?_)
  subst ey
  cases ry
  show wpAny _ _ (storeAll s.heap.objs.size [(.ref c, r)]) _ _ _
  unfold storeAll
  rw [List.forIn_cons]
  refine wpAny_bind (wpAny_bind (d_dictSetT hu I3 hp (Nat.lt_of_lt_of_le Nat.zero_lt_one (by decide)) hc rz fun s' I' => wpAny_pure ?_))
  dsimp only
  rw [List.forIn_nil]
  exact wpAny_pure ⟨.ref s.heap.objs.size, _, I', rfl, q2⟩
def mDisp1 (A B : ME) : ME := fun ρ S => (A ρ S).bind fun p => match p.1 with
  | .d (.tuple ds) => (keysE ds).bind fun k => (B ρ p.2).bind fun q => some (.loc q.2.length, q.2 ++ [.dicT [(k, q.1)]])
  | _ => none
theorem de_disp1 {a b : Expr} {k : Nat} (hr : Room k X.A) (ha : PE X a (rdE τ X.K A)) (hb : PE X b (rdE τ X.K B)) : PE X (.Dict [some a] [b] pos) (rdE τ X.K (mDisp1 A B)) :=
  wkE (pe_disp1T (by have := hr.un; omega) ha hb) fun σ H Q h => by
    obtain ⟨m, S, ρ, w, S', q, e, p⟩ := h
    obtain ⟨⟨wx, S1⟩, e1, e⟩ := Option.bind_eq_some_iff.mp e
    simp only at e
    split at e
    · rename_i ds
      obtain ⟨k, ek, e⟩ := Option.bind_eq_some_iff.mp e
      obtain ⟨⟨wy, S2⟩, e2, e3⟩ := Option.bind_eq_some_iff.mp e
      cases e3
      intro t ht
      have keepT := upd_keeps (o := HO.dT []) ht
      have nT := q.nomem ht
      refine ⟨m, S, ρ, .d (.tuple ds), S1, q.same keepT, e1, fun ext H1 x f q1 fr r => ⟨_, S1, ρ, wy, S2, q1, e2, fun ext2 H2 y f2 q2 fr2 r2 => ?_⟩⟩
      obtain ⟨ek, ekn⟩ := keysE_of ek
      obtain ⟨c, xs, rfl, hc, rk⟩ := rp_tupH r ekn
      obtain rfl := keysD_of ek rk
      have hT1 : H1 t = some (.dT []) := fr.st t _ upd_same (.inl nT) (fun _ z => nomatch z)
      have nT1 : t ∉ m ++ ext := fun z => by
        rcases List.mem_append.mp z with z | z
        · exact nT z
        · have := f t z; rw [upd_same] at this; cases this
      have hT2 : H2 t = some (.dT []) := fr2.st t _ hT1 (.inl nT1) (fun _ z => nomatch z)
      have nT2 : t ∉ m ++ ext ++ ext2 := fun z => by
        rcases List.mem_append.mp z with z | z
        · exact nT1 z
        · have := f2 t z; rw [hT1] at this; cases this
      refine ⟨c, k, rfl, fr2.kp _ _ hc trivial, hT2, ?_⟩
      have kk : Kp H2 (upd H2 t (.dT [(k, y)])) := kp_other hT2 fun z => z
      have q3 := (q2.other (o := .dT [(k, y)]) nT2 hT2 fun z => z).adopt (ob := .dicT [(k, wy)]) nT2 ⟨[(k, y)], upd_same, .cons ⟨rfl, (r2.mono0 kk).mono (Kp.refl _)⟩ .nil⟩
      refine p (ext ++ ext2 ++ [t]) _ _ (fun a ha => ?_) (by rw [← List.append_assoc, ← List.append_assoc]; exact q3) ((Fr.pre keepT (fr.trans f fr2)).updo ht) ⟨t, ?_, rfl⟩
      · rcases List.mem_append.mp ha with z | z
        · have f12 : Fresh (ext ++ ext2) (upd H t (.dT [])) := f.append fr q1 f2
          have := f12 a z
          cases e : H a with
          | none => rfl
          | some o => rw [keepT a o e] at this; cases this
        · rw [List.mem_singleton.mp z]; exact ht
      · rw [← List.append_assoc, ← List.append_assoc, ← q2.len, List.getElem?_append_right (Nat.le_refl _)]; simp
    · cases e
end
end DL
end
noncomputable section
namespace DL
open PySem PySem.Spec PyProof.Rows L2
section
variable {X : Cx} {a b : Expr} {rest : List Expr} {pos : Pos} {A B : ME}
def vOrT (A B : ME) : ME := fun ρ S => (A ρ S).bind fun p => (truD p.2 p.1).bind fun c => if c = true then some p else B ρ p.2
def vAndT (A B : ME) : ME := fun ρ S => (A ρ S).bind fun p => (truD p.2 p.1).bind fun c => if c = true then B ρ p.2 else some p
theorem de_andT (ha : PE X a (rdE τ X.K A)) (hb : PE X (.BoolOp .And (b :: rest) pos) (rdE τ X.K B)) : PE X (.BoolOp .And (a :: b :: rest) pos) (rdE τ X.K (vAndT A B)) := wkE (pe_andT ha hb) fun σ H Q q => by
  obtain ⟨m, S, ρ, w, S', q, e, p⟩ := q
  obtain ⟨⟨wx, S1⟩, e1, e2⟩ := Option.bind_eq_some_iff.mp e
  obtain ⟨c, e3, e4⟩ := Option.bind_eq_some_iff.mp e2
  refine ⟨m, S, ρ, wx, S1, q, e1, fun ext H1 x f q1 fr r => ⟨c, truD_of q1 r e3, ?_⟩⟩
  cases c with
  | true => exact ⟨_, S1, ρ, w, S', q1, by simpa using e4, p.at f q1 fr⟩
  | false =>
    simp only [Bool.false_eq_true, if_false] at e4
    cases e4
    exact (p.at f q1 fr).now q1 r
end
end DL
end
noncomputable section
namespace DL
open PySem PySem.Spec PyProof.Rows L2
def keyTP : PyData → Option (List Key)
  | .tuple ns => keysD ns
  | _ => none
def atomP : PyData → Bool
  | .tuple _ => false
  | _ => true
/-- what a dict, as data, holds at a key -/
def lookP (ds : List (PyData × PyData)) (x : PyData) : Option (Option PyData) := if atomP x = false then
    (if (ds.all fun q => !atomP q.1) = true then (keyTP x).map fun k => (ds.find? fun q => decide (keyTP q.1 = some k)).map (·.2) else none)
  else if ds.isEmpty = false ∧ (ds.all fun q => atomP q.1) = true then (keyD x).map fun k => (ds.find? fun q => decide (keyD q.1 = some k)).map (·.2) else none
theorem keyD_keyP (k : Key) : keyD (keyP k) = some k := by cases k <;> rfl
theorem keysD_keyP : ∀ ks : List Key, keysD (ks.map keyP) = some ks
  | [] => rfl
  | k :: ks => by rw [List.map_cons, keysD, keyD_keyP, keysD_keyP ks]; rfl
section
variable {K : PySem.W.Frag} {m : List Addr} {H : Hp}
theorem look_T {k : List Key} : ∀ {us : List (List Key × V)} {ds : List (PyData × PyData)}, (ds.map fun q => q.1) = (us.map fun q => PyData.tuple (q.1.map keyP)) → RpAll K H (us.map fun q => q.2) (ds.map fun q => q.2) →
    RelW τ K m H (((ds.find? fun q => decide (keyTP q.1 = some k)).map (·.2)).map W.d) (valV us k)
  | [], [], _, _ => rfl
  | [], q :: ds, e, _ => by simp at e
  | p :: us, [], e, _ => by simp at e
  | p :: us, q :: ds, e, r => by
    simp only [List.map_cons, List.cons.injEq] at e r
    cases r with
    | cons h t =>
      have ek : keyTP q.1 = some p.1 := by rw [e.1]; exact keysD_keyP _
      rw [List.find?_cons, ek]
      by_cases c : p.1 = k
      · rw [valV_pos c]
        simp only [c, decide_true, Option.map_some]
        exact ⟨_, rfl, h⟩
      · rw [valV_neg c]
        simp only [Option.some.injEq, c, decide_false]
        exact look_T e.2 t
theorem look_K {k : Key} : ∀ {us : List (Key × V)} {ds : List (PyData × PyData)}, (ds.map fun q => q.1) = (us.map fun q => keyP q.1) → RpAll K H (us.map fun q => q.2) (ds.map fun q => q.2) →
    RelW τ K m H (((ds.find? fun q => decide (keyD q.1 = some k)).map (·.2)).map W.d) (valV us k)
  | [], [], _, _ => rfl
  | [], q :: ds, e, _ => by simp at e
  | p :: us, [], e, _ => by simp at e
  | p :: us, q :: ds, e, r => by
    simp only [List.map_cons, List.cons.injEq] at e r
    cases r with
    | cons h t =>
      have ek : keyD q.1 = some p.1 := by rw [e.1]; exact keyD_keyP _
      rw [List.find?_cons, ek]
      by_cases c : p.1 = k
      · rw [valV_pos c]
        simp only [c, decide_true, Option.map_some]
        exact ⟨_, rfl, h⟩
      · rw [valV_neg c]
        simp only [Option.some.injEq, c, decide_false]
        exact look_K e.2 t
end
def dlookA (S : Sto) : W → W → Option (Option W)
  | .d (.dict ds), .d k => (lookP ds k).map (Option.map W.d)
  | x, k => dlook S x k
theorem keyTP_of {K : PySem.W.Frag} {H : Hp} {v : V} {d : PyData} {k : List Key} (e : keyTP d = some k) (r : Rp K H v d) : ∃ b, v = .ref b ∧ SqT K H b (k.map kV) := by
  cases d with
  | tuple ns =>
    obtain ⟨b, xs, rfl, hb, rx⟩ := rp_tup r
    obtain rfl := keysD_of e rx
    exact ⟨b, rfl, hb⟩
  | _ => cases e
theorem dlookA_of {K : PySem.W.Frag} {m : List Addr} {S : Sto} {ρ : DEnv} {σ : L2.St} {H : Hp} {x y : V} {wx wy : W} {o : Option W} (q : Sim τ K m S ρ σ H) (hx : RW τ K m H x wx) (hy : RW τ K m H y wy) (e : dlookA S wx wy = some o) :
    ∃ a ov, x = .ref a ∧ IsD H a ∧ DGz K H a y ov ∧ RelW τ K m H o ov := by
  unfold dlookA at e
  split at e
  · rename_i ds k
    obtain ⟨op, e1, rfl⟩ := Option.map_eq_some_iff.mp e
    unfold lookP at e1
    cases hx with
    | dicT f ek nz rk =>
      rename_i a ob us
      split at e1
      · split at e1
        · obtain ⟨kk, e2, rfl⟩ := Option.map_eq_some_iff.mp e1
          obtain ⟨b, rfl, hb⟩ := keyTP_of e2 hy
          exact ⟨a, _, rfl, .inr ⟨us, .inr ⟨ob, f⟩⟩, .inr ⟨us, kk, b, .inr ⟨ob, f⟩, rfl, hb, rfl⟩, look_T ek rk⟩
        · cases e1
      · split at e1
        · rename_i hc
          exfalso
          cases ds with
          | nil => cases hc.1
          | cons p ds =>
            cases us with
            | nil => simp at ek
            | cons u us =>
              simp only [List.map_cons, List.cons.injEq] at ek
              have := hc.2
              simp [ek.1, atomP] at this
        · cases e1
    | dicK f nn ek rk =>
      rename_i a ob us
      split at e1
      · split at e1
        · rename_i hc
          cases ds with
          | cons p ds =>
            exfalso
            cases us with
            | nil => simp at ek
            | cons u us =>
              simp only [List.map_cons, List.cons.injEq] at ek
              have : atomP p.1 = true := by rw [ek.1]; cases u.1 <;> rfl
              simp [this] at hc
          | nil =>
            exfalso
            cases us with
            | nil => exact nn rfl
            | cons u us => simp at ek
        · cases e1
      · split at e1
        · obtain ⟨kk, e2, rfl⟩ := Option.map_eq_some_iff.mp e1
          obtain rfl := keyD_of e2 hy
          exact ⟨a, _, rfl, .inl ⟨us, .inr ⟨ob, f⟩⟩, .inl ⟨us, kk, .inr ⟨ob, f⟩, rfl, rfl⟩, look_K ek rk⟩
        · cases e1
  · obtain ⟨a, ov, h1, h2, h3, h4⟩ := dlook_of q hx hy e
    exact ⟨a, ov, h1, h2, h3, h4⟩
def isDicA (S : Sto) : W → Bool
  | .d (.dict _) => true
  | x => isDic S x
def dgetA : W → W → Sto → Option (W × Sto) := fun x y S => (dlookA S x y).bind fun o => o.map fun w => (w, S)
/-- x[y], whatever x is -/
def ixX : W → W → Sto → Option (W × Sto) := fun x y S => if isDicA S x = true then dgetA x y S else idxD x y S
/-- x in y, whatever y is -/
def inX (neg : Bool) : W → W → Sto → Option (W × Sto) := fun x y S => if isDicA S y = true then (dlookA S y x).map fun o => (.d (.bool (o.isSome ^^ neg)), S) else inA neg x y S
section
variable {X : Cx} {e a b c : Expr} {rest es : List Expr} {pos : Pos} {A B C : ME} {T U : MT} {R : MA}
theorem ix_dict (hu : X.A.units + 1 < cLine) : IxR X (fun x y H Q => ∃ a v, x = .ref a ∧ DGz X.K H a y (some v) ∧ Q v H) := by
  intro value slice pins s σ H x y v u Q I rx ry h hs
  obtain ⟨a, z, rfl, g, q⟩ := h
  cases rx
  have hT := dz_typeIs I g
  unfold subscriptTail
  refine wpAny_bind ?_
  rw [getitemInPython_of_ne hT.not_modules]
  refine wpAny_bind (wpAny_specialOf hT PySem.F.slot_dict_getitem.lookup ?_)
  have fin : wpAny (model X.prog X.w) X.A (subscripted slice false (.ref a) u) (fun r s₃ => wpAny (model X.prog X.w) X.A (letTemporaryGo value (.ref a) r >>= fun _ => pure r) (EP X pins σ Q) X.xe s₃) X.xe s := by
    rw [hs]
    exact wpAny_operating (wpAny_mono (dz_getItem hu I g ry fun w' s' I' rw' => ⟨z, H, I', rw', q⟩) (fun r s₃ h₃ => wpAny_bind (wpAny_letTemporaryGo (wpAny_pure h₃))) fun _ _ x => x)
  first
    | exact wpAny_pure (wpAny_bind fin)
    | exact wpAny_bind (wpAny_pure (wpAny_bind fin))
    | exact wpAny_bind fin
theorem ix_X {k : Nat} (hr : Room k X.A) : IxR X (rOp τ X.K ixX) := by
  intro value slice pins s σ H x y v u Q I rx ry h hs
  obtain ⟨m, S, ρ, σ', wx, wy, w, S', q, hx, hy, e, p⟩ := h
  unfold ixX at e
  split at e
  · obtain ⟨o, e1, e2⟩ := Option.bind_eq_some_iff.mp e
    obtain ⟨w1, rfl, e3⟩ := Option.map_eq_some_iff.mp e2
    cases e3
    obtain ⟨a, ov, rfl, _, g, z, rfl, rz⟩ := dlookA_of q hx hy e1
    exact ix_dict (by have := hr.un; omega) value slice pins s σ H _ _ v u Q I rx ry ⟨a, z, rfl, g, p.now q rz⟩ hs
  · exact ix_D value slice pins s σ H x y v u Q I rx ry ⟨m, S, ρ, σ', wx, wy, w, S', q, hx, hy, e, p⟩ hs
theorem op_inX {k : Nat} (hr : Room k X.A) : OpR X (compareOp .In) (rOp τ X.K (inX false)) := by
  intro pins s σ H x y v u Q I rx ry h
  obtain ⟨m, S, ρ, σ', wx, wy, w, S', q, hx, hy, e, p⟩ := h
  unfold inX at e
  split at e
  · obtain ⟨o, e1, e2⟩ := Option.map_eq_some_iff.mp e
    cases e2
    obtain ⟨a, ov, rfl, _, g, hs⟩ := dlookA_of q hy hx e1
    cases ry
    refine dz_in (by have := hr.un; omega) I g rx fun s' I' => ⟨.bl ov.isSome, H, I', rfl, p.now q ?_⟩
    rw [look_isSome hs, Bool.xor_false]
    exact .bl _
  · exact op_inA hr.units65 pins s σ H x y v u Q I rx ry ⟨m, S, ρ, σ', wx, wy, w, S', q, hx, hy, e, p⟩
theorem op_notInX {k : Nat} (hr : Room k X.A) : OpR X (compareOp .NotIn) (rOp τ X.K (inX true)) := by
  intro pins s σ H x y v u Q I rx ry h
  obtain ⟨m, S, ρ, σ', wx, wy, w, S', q, hx, hy, e, p⟩ := h
  unfold inX at e
  split at e
  · obtain ⟨o, e1, e2⟩ := Option.map_eq_some_iff.mp e
    cases e2
    obtain ⟨a, ov, rfl, _, g, hs⟩ := dlookA_of q hy hx e1
    cases ry
    refine dz_notIn (by have := hr.un; omega) I g rx fun s' I' => ⟨.bl (!ov.isSome), H, I', rfl, p.now q ?_⟩
    rw [look_isSome hs, Bool.xor_true]
    exact .bl _
  · exact op_notInA hr.units65 pins s σ H x y v u Q I rx ry ⟨m, S, ρ, σ', wx, wy, w, S', q, hx, hy, e, p⟩
end
section
variable {X : Cx} {e : Expr} {t : TE} {A : ME}
/-- a value made: a new object is locked for ever -/
theorem peFrzA (h : PE X e t) : PE X e (fun σ H Q => t σ H fun v H1 => ∃ a o', v = .ref a ∧ H1 a = some o' ∧ Mut (some o') ∧ ∀ o, Q v (upd H1 a (.frz o o'))) := by
  refine ⟨fun pins s σ H Q I q => thn (h.run pins s σ H _ I q) fun u s1 ⟨v, H1, I1, r, a, o', e, hl, mu, q1⟩ => ?_⟩
  obtain ⟨o, I2⟩ := I1.lock hl mu
  exact ⟨v, _, I2, r, q1 o⟩
/-- an object that nobody else will change, as data -/
def frzO : Ob → Option PyData
  | .lst ws => (allD ws).map .list
  | .dicT kvs => if (kvs.any fun q => q.1.isEmpty) = true then none else (allD (kvs.map (·.2))).map fun ds => .dict ((kvs.map fun q => PyData.tuple (q.1.map keyP)).zip ds)
  | .dicK kvs => if kvs.isEmpty = true then none else (allD (kvs.map (·.2))).map fun ds => .dict ((kvs.map fun q => keyP q.1).zip ds)
  | .dicN _ => none
  | .dead => none
theorem frzO_T {kvs : List (List Key × W)} {d : PyData} (e : frzO (.dicT kvs) = some d) : (∀ q ∈ kvs, q.1 ≠ []) ∧ ((allD (kvs.map (·.2))).map fun ds => PyData.dict ((kvs.map fun q => PyData.tuple (q.1.map keyP)).zip ds)) = some d := by
  simp only [frzO] at e
  split at e
  · cases e
  · rename_i h
    refine ⟨fun q hq z => h (List.any_eq_true.mpr ⟨q, hq, by rw [z]; rfl⟩), e⟩
theorem keys_ne {us : List (List Key × V)} {kvs : List (List Key × W)} (e : us.map (·.1) = kvs.map (·.1)) (h : ∀ q ∈ kvs, q.1 ≠ []) : ∀ u ∈ us, u.1 ≠ [] := fun u hu => by
  have : u.1 ∈ kvs.map (·.1) := by rw [← e]; exact List.mem_map_of_mem hu
  obtain ⟨q, hq, e2⟩ := List.mem_map.mp this
  rw [← e2]; exact h q hq
def mFrzA (A : ME) : ME := fun ρ S => (A ρ S).bind fun p => match p.1 with
  | .loc j => (p.2[j]?).bind fun o => (frzO o).map fun d => (.d d, p.2.set j .dead)
  | .d _ => none
  | .fn => none
theorem paired_vals {κ : Type} {K : PySem.W.Frag} {m : List Addr} {H : Hp} {us : List (κ × V)} {kvs : List (κ × W)} (r : Paired (fun (p : κ × V) (q : κ × W) => p.1 = q.1 ∧ RW τ K m H p.2 q.2) us kvs) : Paired (RW τ K m H) (us.map fun q => q.2) (kvs.map (·.2)) := by
  induction r with
  | nil => exact .nil
  | cons h t ih => exact .cons h.2 ih
theorem zip_fst {α β : Type} : ∀ {l : List α} {r : List β}, l.length = r.length → ((l.zip r).map fun q => q.1) = l ∧ ((l.zip r).map fun q => q.2) = r
  | [], [], _ => ⟨rfl, rfl⟩
  | [], _ :: _, h => by simp at h
  | _ :: _, [], h => by simp at h
  | a :: l, b :: r, h => by
    obtain ⟨h1, h2⟩ := zip_fst (l := l) (r := r) (by simpa using h)
    exact ⟨by rw [List.zip_cons_cons, List.map_cons, h1], by rw [List.zip_cons_cons, List.map_cons, h2]⟩
theorem de_frzA (h : PE X e (rdE τ X.K A)) : PE X e (rdE τ X.K (mFrzA A)) := wkE (peFrzA h) fun σ H Q q => by
  obtain ⟨m, S, ρ, w, S', q, e, p⟩ := q
  obtain ⟨⟨wx, S1⟩, e1, e2⟩ := Option.bind_eq_some_iff.mp e
  refine ⟨m, S, ρ, wx, S1, q, e1, fun ext H1 x f q1 fr r => ?_⟩
  have p1 := p.at f q1 fr
  simp only at e2
  split at e2
  · rename_i j
    obtain ⟨ob, hj, e2⟩ := Option.bind_eq_some_iff.mp e2
    obtain ⟨d, e3, e4⟩ := Option.map_eq_some_iff.mp e2
    cases e4
    obtain ⟨a, ha, rfl⟩ := r
    obtain ⟨a2, ha2, ro⟩ := q1.obs j _ hj
    rw [ha] at ha2; cases ha2
    have hn := (List.getElem?_eq_some_iff.mp hj).1
    have fin : ∀ u : HO, H1 a = some u → ¬ Fix u → Mut (some u) → (∀ o, Rp X.K (upd H1 a (.frz o u)) (.ref a) d) → ∃ a' o', V.ref a = .ref a' ∧ H1 a' = some o' ∧ Mut (some o') ∧ ∀ o, Q (.ref a) (upd H1 a' (.frz o o')) := fun u hu ni mu rp => by
      refine ⟨a, u, rfl, hu, mu, fun o => ?_⟩
      have q2 := q1.put (ob := .dead) (o := .frz o u) ha (fun z h => by rw [hu] at h; cases h; exact ni) hn ⟨_, upd_same⟩
      exact p1 [] _ _ (fun _ h => absurd h (by simp)) (by rw [List.append_nil]; exact q2) (putD_fr ha hu (imm_fix ni)) (rp o)
    cases ob with
    | lst ws =>
      obtain ⟨ds, e5, rfl⟩ := Option.map_eq_some_iff.mp e3
      obtain ⟨vs, hv, pr⟩ := ro
      exact fin _ hv (fun z => z) trivial fun o => Rp.lst (.inl ⟨o, upd_same⟩) (RpAll.mono (put_kp hv) _ _ (allD_of e5 pr))
    | dicT kvs =>
      obtain ⟨e3n, e3⟩ := frzO_T e3
      obtain ⟨ds, e5, rfl⟩ := Option.map_eq_some_iff.mp e3
      obtain ⟨us, hv, pr⟩ := ro
      have hl := allD_len e5
      have hz := zip_fst (l := kvs.map fun q => PyData.tuple (q.1.map keyP)) (r := ds) (by rw [hl, List.length_map, List.length_map])
      refine fin _ hv (fun z => z) trivial fun o => Rp.dicT (o := o) upd_same (hz.1.trans ?_) (keys_ne (tab_keys pr) e3n) (by rw [hz.2]; exact RpAll.mono (putD_kp hv fun z => z) _ _ (allD_of e5 (paired_vals pr)))
      have := tab_keys pr
      rw [show (kvs.map fun q => PyData.tuple (q.1.map keyP)) = (kvs.map (·.1)).map fun k => PyData.tuple (k.map keyP) by rw [List.map_map]; rfl, ← this, List.map_map]; rfl
    | dicK kvs =>
      simp only [frzO] at e3
      split at e3
      · cases e3
      · rename_i hne
        obtain ⟨ds, e5, rfl⟩ := Option.map_eq_some_iff.mp e3
        obtain ⟨us, hv, pr⟩ := ro
        have hl := allD_len e5
        have hz := zip_fst (l := kvs.map fun q => keyP q.1) (r := ds) (by rw [hl, List.length_map, List.length_map])
        refine fin _ hv (fun z => z) trivial fun o => Rp.dicK (o := o) upd_same (fun z => ?_) (hz.1.trans ?_) (by rw [hz.2]; exact RpAll.mono (putD_kp hv fun z => z) _ _ (allD_of e5 (paired_vals pr)))
        · subst z
          cases pr
          exact hne rfl
        · have := tab_keys pr
          rw [show (kvs.map fun q => keyP q.1) = (kvs.map (·.1)).map keyP by rw [List.map_map]; rfl, ← this, List.map_map]; rfl
    | dicN kvs => cases e3
    | dead => cases e3
  · cases e2
  · cases e2
end
end DL
end
noncomputable section
namespace DL
open PySem PySem.Spec PyProof.Rows L2
def NK (k : List (List Int)) : NestedKey := .tup (k.map fun c => .tup (c.map .num))
theorem nums_inj : ∀ {a b : List Int}, a.map NestedKey.num = b.map NestedKey.num → a = b
  | [], [], _ => rfl
  | [], _ :: _, h => by simp at h
  | _ :: _, [], h => by simp at h
  | x :: a, y :: b, h => by
    simp only [List.map_cons, List.cons.injEq, NestedKey.num.injEq] at h
    rw [h.1, nums_inj h.2]
theorem NK_inj {a b : List (List Int)} (h : NK a = NK b) : a = b := by
  simp only [NK, NestedKey.tup.injEq] at h
  induction a generalizing b with
  | nil =>
    cases b with
    | nil => rfl
    | cons y b => simp at h
  | cons x a ih =>
    cases b with
    | nil => simp at h
    | cons y b =>
      simp only [List.map_cons, List.cons.injEq, NestedKey.tup.injEq] at h
      rw [nums_inj h.1, ih h.2]
theorem hashes_num (w : World) : ∀ c : List Int, NestedKey.hashes w (c.map .num) = c.map hashInt
  | [] => rfl
  | x :: c => by rw [List.map_cons, NestedKey.hashes, hashes_num w c]; rfl
theorem hashes_tup (w : World) : ∀ k : List (List Int), NestedKey.hashes w (k.map fun c => .tup (c.map .num)) = k.map fun c => reduceHash (Builtin.Tuple.tupleHashOf (c.map hashInt))
  | [] => rfl
  | c :: k => by rw [List.map_cons, NestedKey.hashes, hashes_tup w k, NestedKey.hash, hashes_num]; rfl
theorem hash_NK (w : World) (k : List (List Int)) : (NK k).hash w = hashN k := by
  rw [NK, NestedKey.hash, hashes_tup]; rfl
theorem dep_nums : ∀ c : List Int, NestedKey.depthAll (c.map .num) = 0
  | [] => rfl
  | x :: c => by rw [List.map_cons, NestedKey.depthAll, dep_nums c]; rfl
theorem dep_NK (k : List (List Int)) : (NK k).depth ≤ 8 := by
  have : NestedKey.depthAll (k.map fun c => NestedKey.tup (c.map .num)) ≤ 1 := by
    induction k with
    | nil => decide
    | cons c k ih =>
      rw [List.map_cons, NestedKey.depthAll]
      refine Nat.max_le.mpr ⟨?_, ih⟩
      rw [NestedKey.depth, dep_nums]; decide
  rw [NK, NestedKey.depth]; omega
section
variable {X : Cx} {pins : List (Addr × Obj)} {σ : L2.St} {H : Hp} {s : Shared}
theorem nest_nums {h : Heap} : ∀ {c : List Int} {us : List Value}, Vals (c.map V.int) us → NestedAll h (c.map .num) us
  | [], _, .nil => .nil
  | x :: c, _, .cons r t => by
    obtain ⟨tk, rfl⟩ := r
    exact .cons (.int x tk) (nest_nums t)
theorem nest_tup (I : Inv X pins σ H s) {c : List Int} {t : Addr} (h : H t = some (.tup (c.map V.int))) : NestedIs s.heap (.tup (c.map .num)) (.ref t) := by
  obtain ⟨its, r, ⟨o, ho, hc, n, hd⟩, _⟩ := I.tuple (.inl (.of h))
  exact .tup ho hc hd (by simpa using nest_nums r)
theorem nest_tups (I : Inv X pins σ H s) : ∀ {k : List (List Int)} {vs : List V} {us : List Value}, Paired (fun v c => ∃ t, v = V.ref t ∧ H t = some (.tup (c.map V.int))) vs k → Vals vs us → NestedAll s.heap (k.map fun c => .tup (c.map .num)) us
  | [], _, _, .nil, .nil => .nil
  | c :: k, _, _, .cons ⟨t, e, ht⟩ p, .cons r rs => by
    subst e
    cases r
    exact .cons (nest_tup I ht) (nest_tups I p rs)
theorem nk_is (I : Inv X pins σ H s) {k : List (List Int)} {b : Addr} (h : NkAt H k b) : (nestedKind X.prog X.w).is s.heap (NK k) b := by
  obtain ⟨_, vs, hb, p⟩ := h
  obtain ⟨its, r, ⟨o, ho, hc, n, hd⟩, _⟩ := I.tuple (.inl (.of hb))
  exact ⟨.tup ho hc hd (by simpa using nest_tups I p r), dep_NK k⟩
abbrev NR : List NRow → List (List (List Int) × Addr × Value) → Prop := Paired fun p q => p.1 = q.1 ∧ p.2.1 = q.2.1 ∧ RelV p.2.2 q.2.2
def fK (x : List (List Int) × Addr × Value) : NestedKey × Addr × Value := (NK x.1, x.2)
theorem atKey_fK {k : List (List Int)} : ∀ {xs : List (List (List Int) × Addr × Value)}, atKey (xs.map fK) (NK k) = atKey xs k
  | [] => rfl
  | x :: xs => by
    have ih := atKey_fK (k := k) (xs := xs)
    unfold atKey at ih ⊢
    rw [List.map_cons, List.find?_cons, List.find?_cons]
    by_cases h : x.1 = k
    · simp [fK, h]
    · have : ¬ (fK x).1 = NK k := fun e => h (NK_inj e)
      simp only [this, h, decide_false]
      exact ih
theorem stored_fK {k : List (List Int)} {b : Addr} {v : Value} {xs : List (List (List Int) × Addr × Value)} : storedH (xs.map fK) (NK k) b v = (storedH xs k b v).map fK := by
  unfold storedH
  rw [atKey_fK]
  split
  · rw [List.map_map, List.map_map]
    refine List.map_congr_left fun x _ => ?_
    simp only [Function.comp, putAt]
    by_cases h : x.1 = k
    · simp [fK, h]
    · have : ¬ (fK x).1 = NK k := fun e => h (NK_inj e)
      simp [this, h]
  · rw [List.map_append]; rfl
theorem rows_fK {w : World} {P : Program} (xs : List (List (List Int) × Addr × Value)) : (xs.map fK).map (entryOfKey (nestedKind P w)) = xs.map fun x => (⟨hashN x.1, .ref x.2.1, x.2.2⟩ : DictEntry) := by
  rw [List.map_map]
  refine List.map_congr_left fun x _ => ?_
  show (⟨(NK x.1).hash w, .ref x.2.1, x.2.2⟩ : DictEntry) = _
  rw [hash_NK]
theorem keys_fK (xs : List (List (List Int) × Addr × Value)) : (xs.map fK).map (·.1) = (xs.map (·.1)).map NK := by rw [List.map_map, List.map_map]; rfl
theorem nd_fK {xs : List (List (List Int) × Addr × Value)} : ((xs.map fK).map (·.1)).Nodup ↔ (xs.map (·.1)).Nodup := by
  rw [keys_fK]
  exact ⟨fun h => List.Pairwise.of_map NK (fun a b hne e => hne (congrArg NK e)) h, fun h => List.Pairwise.map _ (R := fun a b => a ≠ b) (fun a b hab e => hab (NK_inj e)) h⟩
def lookN {α : Type} (kvs : List (List (List Int) × α)) (k : List (List Int)) : Option α := (kvs.find? fun q => decide (q.1 = k)).map (·.2)
theorem NR.val {rows : List NRow} {xs : List (List (List Int) × Addr × Value)} (r : NR rows xs) (k : List (List Int)) : RelO ((lookN rows k).map (·.2)) ((atKey xs k).map (·.2)) := by
  induction r with
  | nil => exact True.intro
  | @cons p q ps qs h t ih =>
    obtain ⟨h1, _, h2⟩ := h
    by_cases e : p.1 = k
    · have e' : q.1 = k := h1.symm.trans e
      have b : atKey (q :: qs) k = some q.2 := by simp [atKey, List.find?_cons, e']
      have b2 : lookN (p :: ps) k = some p.2 := by simp [lookN, List.find?_cons, e]
      rw [b, b2]; exact h2
    · have e' : ¬ q.1 = k := fun z => e (h1.trans z)
      have b : atKey (q :: qs) k = atKey qs k := by simp [atKey, List.find?_cons, e']
      have b2 : lookN (p :: ps) k = lookN ps k := by simp [lookN, List.find?_cons, e]
      rw [b, b2]; exact ih
def putR (rows : List NRow) (k : List (List Int)) (b : Addr) (v : V) : List NRow := if (rows.any fun q => decide (q.1 = k)) = true then rows.map (fun q => if q.1 = k then (q.1, q.2.1, v) else q) else rows ++ [(k, b, v)]
theorem any_look {α : Type} (k : List (List Int)) : ∀ kvs : List (List (List Int) × α), (kvs.any fun q => decide (q.1 = k)) = (lookN kvs k).isSome
  | [] => rfl
  | p :: r => by
    rw [List.any_cons, any_look k r]
    by_cases e : p.1 = k
    · simp [lookN, List.find?_cons, e]
    · simp [lookN, List.find?_cons, e]
theorem NR.put {rows : List NRow} {xs : List (List (List Int) × Addr × Value)} (r : NR rows xs) (k : List (List Int)) {b : Addr} {v : V} {u : Value} (rv : RelV v u) : NR (putR rows k b v) (storedH xs k b u) := by
  have e : (rows.any fun q => decide (q.1 = k)) = (atKey xs k).isSome := by
    have := (r.val k).isSome_eq
    rw [Option.isSome_map, Option.isSome_map] at this
    rw [any_look, this]
  unfold putR storedH
  rw [e]
  by_cases q : (atKey xs k).isSome = true
  · rw [if_pos q, if_pos q]
    clear e q
    induction r with
    | nil => exact .nil
    | @cons p q ps qs h t ih =>
      rw [List.map_cons, List.map_cons]
      refine .cons ?_ ih
      by_cases c : p.1 = k
      · have c' : q.1 = k := h.1.symm.trans c
        rw [if_pos c]
        simp only [putAt, if_pos c']
        exact ⟨h.1, h.2.1, rv⟩
      · have c' : ¬ q.1 = k := fun z => c (h.1.trans z)
        rw [if_neg c]
        simp only [putAt, if_neg c']
        exact h
  · rw [if_neg q, if_neg q]; exact Paired.snoc r ⟨rfl, rfl, rv⟩
theorem putR_len (rows : List NRow) (k : List (List Int)) (b : Addr) (v : V) : (putR rows k b v).length ≤ rows.length + 1 := by
  unfold putR
  split
  · rw [List.length_map]; omega
  · simp
/-- the dict at hand -/
theorem nest_of (I : Inv X pins σ H s) {a : Addr} {rows : List NRow} (e : H a = some (NestO a rows)) (hk : ∀ r ∈ rows, NkAt H r.1 r.2.1) :
    rows.length ≤ sizeLine ∧ (a == sysModules) = false ∧ ∃ xs, NR rows xs ∧ s.heap.DictOfH (nestedKind X.prog X.w) a (xs.map fK) := by
  obtain ⟨⟨z, hd, xs, r, o, es, ep, h1, h2, h3, h4, h5⟩, _⟩ := (show ObjOk X.prog X.w H s.heap a (NestO a rows) from I.hok a _ e)
  refine ⟨z, hd, xs, r, o, es, ep, h1, h2, h3, by rw [rows_fK]; exact h4, fun x hx => ?_, nd_fK.mpr h5⟩
  obtain ⟨y, hy, rfl⟩ := List.mem_map.mp hx
  have : ∀ {rows : List NRow} {xs : List (List (List Int) × Addr × Value)}, NR rows xs → (∀ r ∈ rows, NkAt H r.1 r.2.1) → ∀ y ∈ xs, NkAt H y.1 y.2.1 := by
    intro rows xs r
    induction r with
    | nil => intro _ y hy; cases hy
    | @cons p q ps qs h t ih =>
      intro hk y hy
      rcases List.mem_cons.mp hy with c | c
      · subst c
        have := hk p (by simp)
        rwa [h.1, h.2.1] at this
      · exact ih (fun r hr => hk r (by simp [hr])) y c
  exact nk_is I (this r hk y hy)
theorem nest_ok {h' : Heap} {a : Addr} {H' : Hp} {rows : List NRow} {xs : List (List (List Int) × Addr × Value)} (hz : rows.length ≤ sizeLine) (hd : (a == sysModules) = false) (r : NR rows xs) (dd : h'.DictOfH (nestedKind X.prog X.w) a (xs.map fK)) : ObjOk X.prog X.w H' h' a (NestO a rows) := by
  obtain ⟨o, es, ep, h1, h2, h3, h4, _, h5⟩ := dd
  refine ⟨⟨hz, hd, xs, r, o, es, ep, h1, h2, h3, by rw [← rows_fK (P := X.prog) (w := X.w)]; exact h4, nd_fK.mp h5⟩, ⟨o, h1⟩, fun k1 k2 p kk => ?_⟩
  obtain ⟨z, hd, xs, r, o, es, ep, h1, q⟩ := p
  exact ⟨z, hd, xs, r, o, es, ep, kk o h1, q⟩
end
def putN (kvs : List (List (List Int) × PyData)) (k : List (List Int)) (d : PyData) : List (List (List Int) × PyData) := if (kvs.any fun q => decide (q.1 = k)) = true then kvs.map (fun q => if q.1 = k then (q.1, d) else q) else kvs ++ [(k, d)]
/-- a tuple of tuples of whole numbers -/
def intsP : List PyData → Option (List Int)
  | [] => some []
  | .int i :: ds => (intsP ds).map (i :: ·)
  | _ => none
def tupsP : List PyData → Option (List (List Int))
  | [] => some []
  | .tuple c :: ds => (intsP c).bind fun c => (tupsP ds).map (c :: ·)
  | _ => none
theorem intsP_tI : ∀ c : List Int, intsP (c.map PyData.int) = some c
  | [] => rfl
  | x :: c => by rw [List.map_cons, intsP, intsP_tI c]; rfl
theorem tupsP_tI : ∀ k : List (List Int), tupsP (k.map tI) = some k
  | [] => rfl
  | c :: k => by
    rw [List.map_cons, tI, tupsP, intsP_tI, tupsP_tI k]; rfl
theorem ints_at {K : PySem.W.Frag} {H : Hp} : ∀ {ds : List PyData} {c : List Int} {vs : List V}, intsP ds = some c → RpAll K H vs ds → vs = c.map V.int
  | [], _, _, e, .nil => by cases e; rfl
  | .int i :: ds, _, _, e, .cons r t => by
    simp only [intsP, Option.map_eq_some_iff] at e
    obtain ⟨c, e1, rfl⟩ := e
    cases r
    rw [ints_at e1 t]; rfl
  | .none :: _, _, _, e, _ => by cases e
  | .bool _ :: _, _, _, e, _ => by cases e
  | .str _ :: _, _, _, e, _ => by cases e
  | .list _ :: _, _, _, e, _ => by cases e
  | .tuple _ :: _, _, _, e, _ => by cases e
  | .dict _ :: _, _, _, e, _ => by cases e
theorem ints_rul {c : List PyData} {c' : List Int} (e : intsP c = some c') (h : c' ≠ []) : ruly c = false := by
  cases c with
  | nil => simp only [intsP, Option.some.injEq] at e; exact absurd e.symm h
  | cons d ds => cases d <;> first | rfl | (simp [intsP] at e)
theorem ints_row {c : List PyData} {c' : List Int} (e : intsP c = some c') : rowP (.tuple c) = false := by
  cases c with
  | nil => rfl
  | cons d ds => cases d <;> first | rfl | (simp [intsP] at e)
theorem tups_rul {ds : List PyData} {k : List (List Int)} (e : tupsP ds = some k) (h : k ≠ []) : ruly ds = false := by
  cases ds with
  | nil => simp only [tupsP, Option.some.injEq] at e; exact absurd e.symm h
  | cons d ds =>
    cases d with
    | tuple c =>
      simp only [tupsP] at e
      obtain ⟨c', e1, _⟩ := Option.bind_eq_some_iff.mp e
      simp [ruly, ints_row e1]
    | _ => simp [tupsP] at e
theorem tups_at {K : PySem.W.Frag} {H : Hp} : ∀ {ds : List PyData} {k : List (List Int)} {vs : List V}, tupsP ds = some k → (∀ c ∈ k, c ≠ []) → RpAll K H vs ds → Paired (fun v c => ∃ t, v = V.ref t ∧ H t = some (.tup (c.map V.int))) vs k
  | [], _, _, e, _, .nil => by cases e; exact .nil
  | .tuple c :: ds, _, _, e, hn, .cons r t => by
    simp only [tupsP] at e
    obtain ⟨c', e1, e2⟩ := Option.bind_eq_some_iff.mp e
    obtain ⟨k, e3, rfl⟩ := Option.map_eq_some_iff.mp e2
    obtain ⟨b, xs, rfl, hb, rx⟩ := rp_tupH r (ints_rul e1 (hn _ (by simp)))
    obtain rfl := ints_at e1 rx
    exact .cons ⟨b, rfl, hb⟩ (tups_at e3 (fun c hc => hn c (by simp [hc])) t)
  | .none :: _, _, _, e, _, _ => by cases e
  | .bool _ :: _, _, _, e, _, _ => by cases e
  | .str _ :: _, _, _, e, _, _ => by cases e
  | .list _ :: _, _, _, e, _, _ => by cases e
  | .int _ :: _, _, _, e, _, _ => by cases e
  | .dict _ :: _, _, _, e, _, _ => by cases e
def keyN : W → Option (List (List Int))
  | .d (.tuple ds) => (tupsP ds).bind fun k => if (k.isEmpty || k.any List.isEmpty) = true then none else some k
  | _ => none
theorem keyN_of {K : PySem.W.Frag} {m : List Addr} {H : Hp} {v : V} {w : W} {k : List (List Int)} (e : keyN w = some k) (r : RW τ K m H v w) : ∃ b, v = .ref b ∧ NkAt H k b := by
  unfold keyN at e
  split at e
  · obtain ⟨k', e0, e⟩ := Option.bind_eq_some_iff.mp e
    split at e
    · cases e
    rename_i hk
    cases e
    simp only [Bool.or_eq_true, List.isEmpty_iff, List.any_eq_true, not_or, not_exists, not_and] at hk
    obtain ⟨b, xs, rfl, hb, rx⟩ := rp_tupH r (tups_rul e0 hk.1)
    exact ⟨b, rfl, ⟨hk.1, fun c hc z => hk.2 c hc z⟩, xs, hb, tups_at e0 (fun c hc z => hk.2 c hc z) rx⟩
  · cases e
def isN (S : Sto) : W → Bool
  | .loc n => match S[n]? with
    | some (.dicN _) => true
    | _ => false
  | _ => false
def nlook (S : Sto) : W → W → Option (Option PyData)
  | .loc n, y => match S[n]? with
    | some (.dicN kvs) => (keyN y).map fun k => lookN kvs k
    | _ => none
  | _, _ => none
def nputF : W → W → W → Sto → Option Sto
  | .loc n, y, .d d, S => match S[n]? with
    | some (.dicN kvs) => (keyN y).bind fun k => if kvs.length < sizeLine then some (S.set n (.dicN (putN kvs k d))) else none
    | _ => none
  | _, _, _, _ => none
section
variable {K : PySem.W.Frag} {m : List Addr} {H : Hp}
abbrev NP (K : PySem.W.Frag) (H : Hp) : List NRow → List (List (List Int) × PyData) → Prop := Paired fun p q => p.1 = q.1 ∧ NkAt H p.1 p.2.1 ∧ Rp K H p.2.2 q.2
theorem NP.keys {rows : List NRow} {kvs : List (List (List Int) × PyData)} (r : NP K H rows kvs) : ∀ x ∈ rows, NkAt H x.1 x.2.1 := by
  induction r with
  | nil => intro x hx; cases hx
  | cons h t ih =>
    intro x hx
    rcases List.mem_cons.mp hx with c | c
    · subst c; exact h.2.1
    · exact ih x c
theorem NP.val {rows : List NRow} {kvs : List (List (List Int) × PyData)} (r : NP K H rows kvs) (k : List (List Int)) : match lookN kvs k with
    | some d => ∃ v, (lookN rows k).map (·.2) = some v ∧ Rp K H v d
    | none => (lookN rows k).map (·.2) = none := by
  induction r with
  | nil => rfl
  | @cons p q ps qs h t ih =>
    by_cases e : p.1 = k
    · have e' : q.1 = k := h.1.symm.trans e
      have b : lookN (q :: qs) k = some q.2 := by simp [lookN, List.find?_cons, e']
      have b2 : lookN (p :: ps) k = some p.2 := by simp [lookN, List.find?_cons, e]
      rw [b, b2]; exact ⟨_, rfl, h.2.2⟩
    · have e' : ¬ q.1 = k := fun z => e (h.1.trans z)
      have b : lookN (q :: qs) k = lookN qs k := by simp [lookN, List.find?_cons, e']
      have b2 : lookN (p :: ps) k = lookN ps k := by simp [lookN, List.find?_cons, e]
      rw [b, b2]; exact ih
theorem NP.put {rows : List NRow} {kvs : List (List (List Int) × PyData)} (r : NP K H rows kvs) {k : List (List Int)} {b : Addr} {v : V} {d : PyData} (hb : NkAt H k b) (rd : Rp K H v d) : NP K H (putR rows k b v) (putN kvs k d) := by
  have e : (rows.any fun q => decide (q.1 = k)) = (kvs.any fun q => decide (q.1 = k)) := by
    induction r with
    | nil => rfl
    | cons h t ih => rw [List.any_cons, List.any_cons, ih, h.1]
  unfold putR putN
  rw [e]
  split
  · clear e
    rename_i hh
    clear hh
    induction r with
    | nil => exact .nil
    | @cons p q ps qs h t ih =>
      rw [List.map_cons, List.map_cons]
      refine .cons ?_ ih
      by_cases c : p.1 = k
      · have c' : q.1 = k := h.1.symm.trans c
        rw [if_pos c, if_pos c']
        exact ⟨h.1, h.2.1, rd⟩
      · have c' : ¬ q.1 = k := fun z => c (h.1.trans z)
        rw [if_neg c, if_neg c']
        exact h
  · exact Paired.snoc r ⟨rfl, hb, rd⟩
end
section
variable {X : Cx} {e a b c : Expr} {pos : Pos} {A B C : ME}
theorem set_nest {k : Nat} (hr : Room k X.A) : PSet X (rSet τ X.K nputF) := by
  intro pins s σ H o i v ov iv u Q I ro ri rv h
  obtain ⟨m, S, ρ, σ', wo, wi, wv, S', q, h1, h2, h3, e, p⟩ := h
  unfold nputF at e
  split at e
  · obtain ⟨a, hm, rfl⟩ := h1
    cases ro
    split at e
    · rename_i d S0 kvs hs
      obtain ⟨k, e1, e⟩ := Option.bind_eq_some_iff.mp e
      split at e
      · rename_i hz
        cases e
        obtain ⟨b, hb, rows, hv, pr⟩ := q.obs _ _ hs
        rw [hm] at hb; cases hb
        have pr : NP X.K H rows kvs := pr
        obtain ⟨b, rfl, hk⟩ := keyN_of e1 h2
        cases ri
        obtain ⟨z, hd, xs, r, dd⟩ := nest_of I hv pr.keys
        have hzx : (xs.map fK).length ≤ sizeLine := by rw [List.length_map, ← Paired.length r]; exact z
        have hl : (putR rows k b v).length ≤ sizeLine := by
          have := putR_len rows k b v
          have := Paired.length pr
          omega
        have ni : ¬ Fix (NestO a rows) := fun z => z
        refine wpAny_setItem_heap (knd := nestedKind X.prog X.w) (hsz := hzx) (show X.A.in1.units + 8 < cLine by have := hr.un; show X.A.units + 1 + 8 < cLine; omega) (nk_is I hk) dd fun h' dd' hs' => ?_
        rw [stored_fK] at dd'
        have he : ∃ q, h'.get? a = some q := let ⟨q, _, _, hq, _⟩ := dd'; ⟨q, hq⟩
        refine ⟨_, d_write (ob := NestO a (putR rows k b v)) I (by rw [hv]; exact True.intro) hs' he (nest_ok hl hd (r.put k rv) dd'), ?_⟩
        have kp : Kp H (upd H a (NestO a (putR rows k b v))) := putD_kp hv (imm_fix ni)
        refine p [] _ (fun _ h => absurd h (by simp)) (by
          rw [List.append_nil]
          exact q.put hm (fun u h => by rw [hv] at h; cases h; exact ni) (List.getElem?_eq_some_iff.mp hs).1 ⟨_, upd_same, Paired.mapP (pr.put hk h3) fun _ _ z => ⟨z.1, z.2.1.mono kp, z.2.2.mono' kp⟩⟩) (putD_fr hm hv (imm_fix ni))
      · cases e
    · cases e
  · cases e
/-- {} whose keys will be tuples of tuples -/
def mNewN : ME := fun _ S => some (.loc S.length, S ++ [.dicN []])
theorem de_newN : PE X (.Dict [] [] pos) (rdE τ X.K mNewN) := ⟨fun pins s σ H Q I h => by
  obtain ⟨m, S, ρ, w, S', q, e, p⟩ := h
  cases e
  have ht : H s.heap.objs.size = none := I.hok.fresh (Nat.le_refl _)
  have hm : (s.heap.objs.size == sysModules) = false := beq_eq_false_iff_ne.mpr (Nat.ne_of_gt I.big)
  have dd : (s.heap.push { cls := .type "dict", data := .dict #[] }).DictOfH (nestedKind X.prog X.w) s.heap.objs.size (([] : List (List (List Int) × Addr × Value)).map fK) := ⟨_, #[], 0, Heap.get?_push_size _ rfl, ⟨rfl, rfl, rfl⟩, rfl, rfl, (fun x hx => by cases hx), List.nodup_nil⟩
  refine wpAny_Dict_empty ⟨.ref s.heap.objs.size, _, I.laid (a := s.heap.objs.size) (o := NestO s.heap.objs.size []) (t' := s.toks) (fun _ _ q => Heap.get?_push_of_some _ q) (Nat.le_refl _) (nest_ok (by simp) hm .nil dd), rfl, ?_⟩
  have q2 := q.push (ob := .dicN []) (upd_keeps ht) ht ⟨[], upd_same, .nil⟩
  refine p [s.heap.objs.size] _ _ (fun b hb => by rw [List.mem_singleton.mp hb]; exact ht) q2 (Fr.of (upd_keeps ht)) ⟨s.heap.objs.size, ?_, rfl⟩
  rw [← q.len, List.getElem?_append_right (Nat.le_refl _)]; simp⟩
/-- x[y], x in y: with these dicts, too -/
def ixY : W → W → Sto → Option (W × Sto) := fun x y S => if isN S x = true then (nlook S x y).bind fun o => o.map fun d => (.d d, S) else ixX x y S
theorem nlook_of {K : PySem.W.Frag} {m : List Addr} {S : Sto} {ρ : DEnv} {σ : L2.St} {H : Hp} {x y : V} {wx wy : W} {o : Option PyData} (q : Sim τ K m S ρ σ H) (hx : RW τ K m H x wx) (hy : RW τ K m H y wy) (e : nlook S wx wy = some o) :
    ∃ a b rows kvs k, x = .ref a ∧ y = .ref b ∧ H a = some (NestO a rows) ∧ NP K H rows kvs ∧ NkAt H k b ∧ o = lookN kvs k := by
  unfold nlook at e
  split at e
  · obtain ⟨a, hm, rfl⟩ := hx
    split at e
    · rename_i kvs hs
      obtain ⟨k, e1, rfl⟩ := Option.map_eq_some_iff.mp e
      obtain ⟨b, hb, rows, hv, pr⟩ := q.obs _ _ hs
      rw [hm] at hb; cases hb
      have pr : NP K H rows kvs := pr
      obtain ⟨b, rfl, hk⟩ := keyN_of e1 hy
      exact ⟨a, b, rows, kvs, k, rfl, rfl, hv, pr, hk, rfl⟩
    · cases e
  · cases e
theorem ix_N {k : Nat} (hr : Room k X.A) : IxR X (rOp τ X.K ixY) := by
  intro value slice pins s σ H x y v u Q I rx ry h hs
  obtain ⟨m, S, ρ, σ', wx, wy, w, S', q, hx, hy, e, p⟩ := h
  unfold ixY at e
  split at e
  · obtain ⟨o, e1, e2⟩ := Option.bind_eq_some_iff.mp e
    obtain ⟨d, rfl, e3⟩ := Option.map_eq_some_iff.mp e2
    cases e3
    obtain ⟨a, b, rows, kvs, k, rfl, rfl, hv, pr, hk, eo⟩ := nlook_of q hx hy e1
    cases rx
    cases ry
    obtain ⟨z, hd, xs, r, dd⟩ := nest_of I hv pr.keys
    have h1 := pr.val k
    rw [← eo] at h1
    obtain ⟨z, hz, rz⟩ := h1
    have h2 := r.val k
    rw [hz] at h2
    obtain ⟨w', hw, rw'⟩ := RelO.some_of (v := z) h2
    obtain ⟨pp, hp, rfl⟩ := Option.map_eq_some_iff.mp hw
    have hT := dd.typeIs
    have get : wpAny (model X.prog X.w) X.A (getItem (.ref a) (.ref b)) (EP X pins σ Q) X.xe s :=
      wpAny_getItem_heap (knd := nestedKind X.prog X.w) (show X.A.in1.units + 8 < cLine by have := hr.un; show X.A.units + 1 + 8 < cLine; omega) (nk_is I hk) dd (by rw [atKey_fK]; exact hp) ⟨z, H, I.tok _, rw', p.now q rz⟩
    unfold subscriptTail
    refine wpAny_bind ?_
    rw [getitemInPython_of_ne hT.not_modules]
    refine wpAny_bind (wpAny_specialOf hT PySem.F.slot_dict_getitem.lookup ?_)
    have fin : wpAny (model X.prog X.w) X.A (subscripted slice false (.ref a) (.ref b)) (fun r s₃ => wpAny (model X.prog X.w) X.A (letTemporaryGo value (.ref a) r >>= fun _ => pure r) (EP X pins σ Q) X.xe s₃) X.xe s := by
      rw [hs]
      exact wpAny_operating (wpAny_mono get (fun r s₃ h₃ => wpAny_bind (wpAny_letTemporaryGo (wpAny_pure h₃))) fun _ _ x => x)
    first
      | exact wpAny_pure (wpAny_bind fin)
      | exact wpAny_bind (wpAny_pure (wpAny_bind fin))
      | exact wpAny_bind fin
  · exact ix_X hr value slice pins s σ H x y v u Q I rx ry ⟨m, S, ρ, σ', wx, wy, w, S', q, hx, hy, e, p⟩ hs
theorem de_ixY {k : Nat} (hr : Room k X.A) (ha : PE X a (rdE τ X.K A)) (hb : PE X b (rdE τ X.K B)) (hs : PlainIx b := by exact fun _ _ => rfl) : PE X (.Subscript a b pos) (rdE τ X.K (mBin ixY A B)) := wkE (pe_ix (ix_N hr) ha hb hs) fun σ H Q q => binE q
end
end DL
end
noncomputable section
namespace DL
open PySem PySem.Spec PyProof.Rows L2
section
variable {X : Cx} {pins : List (Addr × Obj)} {σ : L2.St} {H : Hp} {s : Shared}
theorem sortedG_run {a : Addr} {o : Obj} {es : Array DictEntry} {ep : Nat} {cs : List Cd} {Q : VK} (I : Inv X pins σ H s) (hd : (a == sysModules) = false) (ho : s.heap.get? a = some o) (hex : o.ExactDict) (hdat : o.data = .dict es ep) (z : es.size ≤ sizeLine)
    (em : (es.toList.map fun e => e.key).map (keyAt s.heap) = cs) (hr : ∀ u ∈ es.toList.map fun e => e.key, ∃ v as, RelV v u ∧ Rp X.K H v (toP (keyAt s.heap u)) ∧ Reads s.heap u (toP (keyAt s.heap u)) as) (ok : sortable cs = true) (hh : X.A.handled = none) (hu : X.A.units + 66 < cLine)
    (q : ∀ p ys, H p = none → RpAll X.K H ys (toPs (sortC cs)) → Q (.ref p) (upd H p (.lst ys))) : wpAny (model X.prog X.w) X.A (call (.builtin "sorted") [.ref a]) (EP X pins σ Q) X.xe s := by
  refine Calls.call_function_entry kind_sorted plain_sorted entry_sorted (args_sorted1 _) ?_
  unfold Builtin.«sorted»
  refine wpAny_bind (m := checkCount "sorted" 1 1 _) (wpAny_pure ?_)
  refine wpAny_bind (collect_up (A := X.A.in1) (PySem.KdlSrc.rawDict (es := es) (ep := ep) hd) hh ⟨o, ho, hex, hdat⟩ z fun h' tk acc hk hlt hacc => ?_)
  have hits : acc.toList = es.toList.map fun e => e.key := by
    apply List.ext_getElem?
    intro j
    rw [List.getElem?_map]
    by_cases hj : j < es.size
    · have hja : j < acc.size := by rw [hacc.1]; exact hj
      have e1 : acc[j]? = some acc[j] := Array.getElem?_eq_getElem hja
      obtain ⟨hi, ek⟩ := hacc.2 j _ e1
      rw [Array.getElem?_toList, e1, ek, Array.getElem?_toList, Array.getElem?_eq_getElem hi]; rfl
    · rw [Array.getElem?_toList, Array.getElem?_eq_none (by rw [hacc.1]; omega), Array.getElem?_toList, Array.getElem?_eq_none (by omega)]; rfl
  rw [hits]
  generalize hI : (es.toList.map fun e => e.key) = its at em hr ⊢
  have hzi : its.length ≤ sizeLine := by rw [← hI, List.length_map, Array.length_toList]; exact z
  refine wpAny_bind (wpAny_newList ?_ hzi)
  have hoL : (h'.push { cls := .type "list", data := .seq its.toArray }).get? h'.objs.size = some (seqObj "list" its.toArray 0) := Heap.get?_push_size _ rfl
  have kk : ∀ b o, s.heap.get? b = some o → b ≠ h'.objs.size ∧ (h'.push { cls := .type "list", data := .seq its.toArray }).get? b = some o := fun b o e =>
    ⟨Nat.ne_of_lt (Heap.lt_size (hk _ _ e)), Heap.get?_push_of_some _ (hk _ _ e)⟩
  refine wpAny_bind (wpAny_holding (wpAny_call_entry slot_list_sort ⟨_, hoL, rfl⟩ entry_list_sort (SrtO.list_sort_ord (ltv := fun u v => ltC (keyAt s.heap u) (keyAt s.heap v)) (swo_cd _) hoL hzi
    (fun h2 => sortable_of (fun u hu => by obtain ⟨_, as, _, _, rd⟩ := hr u hu; exact ⟨as, rd⟩) (fun u hu => by rw [← em]; exact List.mem_map_of_mem hu) ok hzi hu kk h2 _) fun out h1 h2 => ⟨_, rfl, ?_⟩) (args_list_sort _)))
  refine wpAny_pure ⟨_, rfl, ?_⟩
  have memO : ∀ u ∈ out, u ∈ its := fun u hu => h2.perm.mem_iff.mp hu
  have hm : out.map (keyAt s.heap) = sortC cs := by
    refine sortC_uniq (List.pairwise_map.mpr h1) ?_
    rw [← em]
    exact h2.perm.map _
  obtain ⟨b1, b2⟩ := rpAll_back (K := X.K) (H := H) (k := keyAt s.heap) (us := out) fun u hu => by
    obtain ⟨v, as, r1, r2, _⟩ := hr u (memO u hu)
    exact ⟨v, r1, r2⟩
  rw [hm] at b1
  have lo : (out.map backV).length ≤ sizeLine := by rw [List.length_map, h2.perm.length_eq]; exact hzi
  obtain ⟨ep2, he2⟩ := sortedHeap_at (h := h'.push { cls := .type "list", data := .seq its.toArray }) (a := h'.objs.size) (n := 0) (vs := its) (out := out.toArray) hoL
  have hle : s.heap.objs.size ≤ h'.objs.size := Nat.le_of_lt hlt
  exact ⟨.ref _, upd H h'.objs.size (.lst (out.map backV)), I.laid (t' := tk) (fun b o e => by
    have hb := kk b o e
    rw [sortedHeap_old hb.1 (Heap.lt_size hb.2)]
    exact hb.2) hle ⟨lo, out, ep2, b2, he2⟩, rfl, q _ _ (I.hok.fresh hle) b1⟩
/-- keys read -/
theorem rp_keys {K : PySem.W.Frag} {H : Hp} : ∀ ks : List Key, RpAll K H (ks.map kV) (ks.map keyP)
  | [] => .nil
  | .inl i :: ks => .cons (.int i) (rp_keys ks)
  | .inr x :: ks => .cons (.str x) (rp_keys ks)
theorem keys_rul {ks : List Key} (h : ks ≠ []) : ruly (ks.map keyP) = false := by
  cases ks with
  | nil => exact absurd rfl h
  | cons k ks => cases k <;> rfl
theorem rp_ints {K : PySem.W.Frag} {H : Hp} : ∀ c : List Int, RpAll K H (c.map V.int) (c.map PyData.int)
  | [] => .nil
  | i :: c => .cons (.int i) (rp_ints c)
theorem rp_nk {K : PySem.W.Frag} {H : Hp} {k : List (List Int)} {b : Addr} (h : NkAt H k b) : Rp K H (.ref b) (.tuple (k.map tI)) := by
  obtain ⟨⟨z1, z2⟩, vs, hb, p⟩ := h
  refine .tup hb (tups_rul (tupsP_tI k) z1) ?_
  clear hb z1
  induction p with
  | nil => exact .nil
  | cons h t ih =>
    obtain ⟨t', rfl, ht⟩ := h
    exact .cons (.tup ht (ints_rul (intsP_tI _) (z2 _ (by simp))) (rp_ints _)) (ih fun c hc => z2 c (by simp [hc]))
theorem keys_of (I : Inv X pins σ H s) : ∀ {bs : List Addr} {ps : List PyData} {cs : List Cd}, Paired (fun b p => Rp X.K H (.ref b) p) bs ps → ofPs ps = some cs →
    (bs.map Value.ref).map (keyAt s.heap) = cs ∧ ∀ u ∈ bs.map Value.ref, ∃ v as, RelV v u ∧ Rp X.K H v (toP (keyAt s.heap u)) ∧ Reads s.heap u (toP (keyAt s.heap u)) as
  | _, _, _, .nil, e => by cases e; exact ⟨rfl, fun u h => by simp at h⟩
  | b :: bs, p :: ps, cs, .cons h t, e => by
    simp only [ofPs] at e
    obtain ⟨c, e1, e⟩ := Option.bind_eq_some_iff.mp e
    obtain ⟨cs', e2, rfl⟩ := Option.map_eq_some_iff.mp e
    obtain ⟨i1, i2⟩ := keys_of I t e2
    rw [ofP_eq _ _ e1] at h
    obtain ⟨as, rd⟩ := Dp.reads I _ _ _ (Rp.dp _ _ (hd_toP _) h) (show RelV (.ref b) (.ref b) from rfl)
    have k := keyAt_of rd
    refine ⟨by rw [List.map_cons, List.map_cons, k, i1], fun u hu => ?_⟩
    rw [List.map_cons] at hu
    rcases List.mem_cons.mp hu with z | z
    · subst z
      rw [k]
      exact ⟨.ref b, as, rfl, h, rd⟩
    · exact i2 u z
end
/-- the keys of any dict, as data, in their order -/
def keysP (S : Sto) : W → Option (List PyData)
  | .loc n => match S[n]? with
    | some (.dicT kvs) => if (kvs.any fun q => q.1.isEmpty) = true then none else some (kvs.map fun q => .tuple (q.1.map keyP))
    | some (.dicN kvs) => some (kvs.map fun q => .tuple (q.1.map tI))
    | _ => none
  | .d (.dict ds) => some (ds.map fun q => q.1)
  | _ => none
def sortedKX := on1 fun w S => (keysP S w).bind fun ps => (ofPs ps).bind fun cs => if sortable cs = true then some (.d (.list (toPs (sortC cs))), S) else none
/-- what a dict's table is, with its keys read -/
def DictKeys (X : Cx) (H : Hp) (s : Shared) (a : Addr) (ps : List PyData) : Prop := ∃ (o : Obj) (es : Array DictEntry) (ep : Nat) (bs : List Addr), (a == sysModules) = false ∧ s.heap.get? a = some o ∧ o.ExactDict ∧ o.data = .dict es ep ∧ es.size ≤ sizeLine ∧
  (es.toList.map fun e => e.key) = bs.map Value.ref ∧ Paired (fun b p => Rp X.K H (.ref b) p) bs ps
section
variable {X : Cx} {pins : List (Addr × Obj)} {σ : L2.St} {H : Hp} {s : Shared}
theorem dictKeys_T (I : Inv X pins σ H s) {a : Addr} {us : List (List Key × V)} (e : Rd H a (.dT us)) (nz : ∀ u ∈ us, u.1 ≠ []) : DictKeys X H s a (us.map fun q => .tuple (q.1.map keyP)) := by
  obtain ⟨z, hd, xs, rel, o, es, ep, ho, hex, hdat, he, his, hn⟩ := dt_rd I.hok e
  have hlx : xs.length = us.length := (Paired.length rel).symm
  refine ⟨o, es, ep, xs.map (·.2.1), hd, ho, hex, hdat, ?_, ?_, ?_⟩
  · rw [← Array.length_toList, he, List.length_map, hlx]; exact z
  · rw [he, List.map_map, List.map_map]; rfl
  · clear he his hn hlx z e
    induction rel with
    | nil => exact .nil
    | cons h t ih => exact .cons (.tup h.2.1 (keys_rul (nz _ (by simp))) (rp_keys _)) (ih fun u hu => nz u (by simp [hu]))
theorem dictKeys_N (I : Inv X pins σ H s) {a : Addr} {rows : List NRow} {kvs : List (List (List Int) × PyData)} (e : H a = some (NestO a rows)) (pr : NP X.K H rows kvs) : DictKeys X H s a (kvs.map fun q => .tuple (q.1.map tI)) := by
  obtain ⟨z, hd, xs, rel, o, es, ep, ho, hex, hdat, he, his, hn⟩ := nest_of I e pr.keys
  have hlx : xs.length = rows.length := (Paired.length rel).symm
  refine ⟨o, es, ep, xs.map (·.2.1), hd, ho, hex, hdat, ?_, ?_, ?_⟩
  · rw [← Array.length_toList, he, List.length_map, List.length_map, hlx]; exact z
  · rw [he, List.map_map, List.map_map, List.map_map]; rfl
  · clear he his hn hlx z e
    induction rel generalizing kvs with
    | nil => cases pr; exact .nil
    | cons h t ih =>
      cases pr with
      | cons g gs =>
        refine .cons ?_ (ih gs)
        have := rp_nk (K := X.K) g.2.1
        rw [g.1] at this
        rwa [h.2.1] at this
theorem keysP_of (I : Inv X pins σ H s) {m : List Addr} {S : Sto} {ρ : DEnv} {σ' : L2.St} {v : V} {w : W} {ps : List PyData} (q : Sim τ X.K m S ρ σ' H) (r : RW τ X.K m H v w) (e : keysP S w = some ps) (ht : ∀ p ∈ ps, atomP p = false) : ∃ a, v = .ref a ∧ DictKeys X H s a ps := by
  unfold keysP at e
  split at e
  · obtain ⟨a, hm, rfl⟩ := r
    split at e
    · rename_i kvs hs
      split at e
      · cases e
      rename_i hne
      cases e
      obtain ⟨b, hb, us, hv, pr⟩ := q.obs _ _ hs
      rw [hm] at hb; cases hb
      refine ⟨a, rfl, ?_⟩
      have := dictKeys_T I (.inl hv) (keys_ne (tab_keys pr) fun q hq z => hne (List.any_eq_true.mpr ⟨q, hq, by rw [z]; rfl⟩))
      rw [show (us.map fun q => PyData.tuple (q.1.map keyP)) = (us.map (·.1)).map fun k => PyData.tuple (k.map keyP) by rw [List.map_map]; rfl, tab_keys pr, List.map_map] at this
      exact this
    · rename_i kvs hs
      cases e
      obtain ⟨b, hb, rows, hv, pr⟩ := q.obs _ _ hs
      rw [hm] at hb; cases hb
      exact ⟨a, rfl, dictKeys_N I hv pr⟩
    · cases e
  · cases e
    cases r with
    | dicT f ek nz rk => exact ⟨_, rfl, by rw [ek]; exact dictKeys_T I (.inr ⟨_, f⟩) nz⟩
    | dicK f nn ek rk =>
      rename_i a o us
      exfalso
      cases us with
      | nil => exact nn rfl
      | cons u us =>
        have := ht (keyP u.1) (by rw [ek]; simp)
        have h2 : atomP (keyP u.1) = true := by cases u.1 <;> rfl
        rw [h2] at this; cases this
  · cases e
end
theorem tup_of {ps : List PyData} {cs : List Cd} (e : ofPs ps = some cs) (ok : sortable cs = true) : ∀ p ∈ ps, atomP p = false := by
  unfold sortable at ok
  rw [Bool.and_eq_true] at ok
  have h := List.all_eq_true.mp ok.1
  clear ok
  induction ps generalizing cs with
  | nil => intro p hp; cases hp
  | cons q ps ih =>
    simp only [ofPs] at e
    obtain ⟨c, e1, e⟩ := Option.bind_eq_some_iff.mp e
    obtain ⟨cs', e2, rfl⟩ := Option.map_eq_some_iff.mp e
    intro p hp
    rcases List.mem_cons.mp hp with z | z
    · subst z
      have := h c (by simp)
      rw [ofP_eq _ _ e1]
      cases c with
      | int i => simp [isTupNE] at this
      | tup cs => rfl
    · exact ih e2 (fun c hc => h c (by simp [hc])) p z
theorem call_sortedKX {X : Cx} {k : Nat} (hr : Room k X.A) : CallR X (.builtin "sorted") (rC τ X.K sortedKX) := by
  have raw : CallR X (.builtin "sorted") (fun vs H Q => ∃ a cs, vs = [.ref a] ∧ (∀ (pins : List (Addr × Obj)) (σ : L2.St) (s : Shared), Inv X pins σ H s → ∃ ps, DictKeys X H s a ps ∧ ofPs ps = some cs) ∧ sortable cs = true ∧ ∀ p ys, H p = none → RpAll X.K H ys (toPs (sortC cs)) → Q (.ref p) (upd H p (.lst ys))) := by
    intro pins s σ H vs us Q I rx h
    obtain ⟨a, cs, rfl, hk, ok, q⟩ := h
    cases rx with
    | cons r1 t =>
      cases t
      cases r1
      obtain ⟨ps, ⟨o, es, ep, bs, hd, ho, hex, hdat, hz, hkeys, pr⟩, hc⟩ := hk _ _ _ I
      obtain ⟨k1, k2⟩ := keys_of I pr hc
      exact sortedG_run I hd ho hex hdat hz (by rw [hkeys]; exact k1) (by rw [hkeys]; exact k2) ok hr.hd (by have := hr.un; omega) q
  intro pins s σ H vs us Q I rx h
  obtain ⟨m, S, ρ, σ', w0, w, S', v, rfl, q, r, e, p⟩ := rC1 h
  obtain ⟨ps, e1, e2⟩ := Option.bind_eq_some_iff.mp e
  obtain ⟨cs, e3, e4⟩ := Option.bind_eq_some_iff.mp e2
  split at e4
  · rename_i hok
    cases e4
    obtain ⟨a, rfl, _⟩ := keysP_of I q r e1 (tup_of e3 hok)
    refine callFrz raw pins s σ H _ us Q I rx ⟨a, cs, rfl, fun pins' σ2 s2 I2 => ?_, hok, fun t ys ht ry => newL p q ry t ht⟩
    obtain ⟨b, hb, dk⟩ := keysP_of I2 q r e1 (tup_of e3 hok)
    cases hb
    exact ⟨ps, dk, e3⟩
  · cases e4
end DL
end
noncomputable section
namespace DL
open PySem PySem.Spec PyProof.Rows L2
end DL
end
noncomputable section
namespace DL
open PySem PySem.Spec PyProof.Rows L2
open PpSet (newSet_ok eval_SetComp compTurn_set codeAny_compStart_set compLoopS_any)
def dd : List (List Int) → List (List Int)
  | [] => []
  | x :: l => if x ∈ l then dd l else x :: dd l
theorem mem_dd {x : List Int} : ∀ {l : List (List Int)}, x ∈ dd l ↔ x ∈ l
  | [] => Iff.rfl
  | y :: l => by
    unfold dd
    split
    · rename_i h
      rw [mem_dd (l := l), List.mem_cons]
      exact ⟨.inr, fun z => z.elim (fun e => e ▸ h) id⟩
    · rw [List.mem_cons, List.mem_cons, mem_dd (l := l)]
theorem dd_nodup : ∀ l : List (List Int), (dd l).Nodup
  | [] => List.nodup_nil
  | y :: l => by
    unfold dd
    split
    · exact dd_nodup l
    · rename_i h
      exact List.nodup_cons.mpr ⟨fun z => h (mem_dd.mp z), dd_nodup l⟩
def wsT : List W → Option (List (List Int))
  | [] => some []
  | .d (.tuple ds) :: ws => (intsP ds).bind fun c => (wsT ws).map (c :: ·)
  | _ => none
structure SetOk (H : Hp) (L : List (Addr × List Int)) (ks : List (List Int)) : Prop where
  tup : ∀ p ∈ L, H p.1 = some (.tup (p.2.map V.int))
  nd : (L.map (·.2)).Nodup
  iff : ∀ k, k ∈ L.map (·.2) ↔ k ∈ ks
  len : L.length ≤ ks.length
theorem SetOk.nil {H : Hp} : SetOk H [] [] := ⟨fun p h => (by cases h), List.nodup_nil, fun k => Iff.rfl, Nat.le_refl _⟩
theorem SetOk.mono {H H' : Hp} {L : List (Addr × List Int)} {ks : List (List Int)} (x : SetOk H L ks) (k : Kp H H') : SetOk H' L ks := ⟨fun p hp => k _ _ (x.tup p hp) trivial, x.nd, x.iff, x.len⟩
theorem SetOk.add {H : Hp} {L L' : List (Addr × List Int)} {ks : List (List Int)} {t : Addr} {c : List Int} (x : SetOk H L ks) (ht : H t = some (.tup (c.map V.int))) (h1 : c ∈ L.map (·.2) → L' = L) (h2 : c ∉ L.map (·.2) → L'.Perm ((t, c) :: L)) : SetOk H L' (ks ++ [c]) := by
  by_cases h : c ∈ L.map (·.2)
  · rw [h1 h]
    refine ⟨x.tup, x.nd, fun k => ?_, by rw [List.length_append]; have := x.len; omega⟩
    rw [x.iff, List.mem_append, List.mem_singleton]
    exact ⟨.inl, fun z => z.elim id fun e => e ▸ (x.iff c).mp h⟩
  · have pm := h2 h
    have pk := pm.map (·.2)
    refine ⟨fun p hp => ?_, pk.nodup_iff.mpr (by rw [List.map_cons]; exact List.nodup_cons.mpr ⟨h, x.nd⟩), fun k => ?_, by rw [pm.length_eq, List.length_append, List.length_cons]; have := x.len; simp; omega⟩
    · rcases List.mem_cons.mp (pm.subset hp) with z | z
      · subst z; exact ht
      · exact x.tup p z
    · rw [pk.mem_iff, List.map_cons, List.mem_cons, x.iff, List.mem_append, List.mem_singleton]
      exact ⟨fun z => z.elim .inr .inl, fun z => z.elim .inr .inl⟩
theorem SetOk.perm {H : Hp} {L : List (Addr × List Int)} {ks : List (List Int)} (x : SetOk H L ks) : (L.map (·.2)).Perm (dd ks) := (List.perm_ext_iff_of_nodup x.nd (dd_nodup ks)).mpr fun k => by rw [x.iff, mem_dd]
/-- sorted({E for .. in it if T}) -/
def mSortSetC (it : MI) (g : MG) (T : MT) (E : ME) (vs : List Nat) : ME := fun ρ S => (it ρ S).bind fun p => (lcL g T E vs ρ p.1 p.2).bind fun r => (wsT r.1).bind fun ks => if ks.length < 62 ∧ sortable (ks.map cI) = true then some (.d (.list (sortT (dd ks))), r.2) else none
end DL
end
noncomputable section
namespace DL
open PySem PySem.Spec PyProof.Rows L2
/-- sorted(set(x)) -/
def mSortSet (A : ME) : ME := fun ρ S => (A ρ S).bind fun p => (seqOf p.2 p.1).bind fun ds => (tupsP ds).bind fun ks => if ks.length < 62 ∧ sortable (ks.map cI) = true then some (.d (.list (sortT (dd ks))), p.2) else none
end DL
end
noncomputable section
namespace DL
open PySem PySem.Spec PyProof.Rows L2
/-- x[y] = z, whatever x is -/
def setX : W → W → W → Sto → Option Sto := fun x y z S => if isN S x = true then nputF x y z S else if isDic S x = true then dputF x y z S else setF x y z S
section
variable {X : Cx} {pins : List (Addr × Obj)} {σ : L2.St} {H : Hp} {s : Shared}
/-- sorted of a tuple of tuples -/
theorem sortedT_run {a : Addr} {xs : List V} {cs : List Cd} {Q : VK} (I : Inv X pins σ H s) (hs : SqT X.K H a xs) (r : RpAll X.K H xs (toPs cs)) (ok : sortable cs = true) (hu : X.A.units + 66 < cLine)
    (q : ∀ p ys, H p = none → RpAll X.K H ys (toPs (sortC cs)) → Q (.ref p) (upd H p (.lst ys))) : wpAny (model X.prog X.w) X.A (call (.builtin "sorted") [.ref a]) (EP X pins σ Q) X.xe s := by
  obtain ⟨its, rv, ⟨o, ho, hcl, n, hdat⟩, hz⟩ := I.tuple hs
  obtain ⟨em, hr⟩ := reads_list I r rv
  have lx := rv.length
  have hzi : its.length ≤ sizeLine := by omega
  refine Calls.call_function_entry kind_sorted plain_sorted entry_sorted (args_sorted1 _) ?_
  unfold Builtin.«sorted»
  refine wpAny_bind (m := checkCount "sorted" 1 1 _) (wpAny_pure ?_)
  refine wpAny_bind (wpAny_collect_seq (A := X.A.in1) a (.inr rfl) ho hcl hdat (fun h' hk => ?_) (by simpa using hzi))
  have hits : its.toArray.toList = its := by simp
  rw [hits]
  refine wpAny_bind (wpAny_newList ?_ hzi)
  have hoL : (h'.push { cls := .type "list", data := .seq its.toArray }).get? h'.objs.size = some (seqObj "list" its.toArray 0) := Heap.get?_push_size _ rfl
  have kk : ∀ b o, s.heap.get? b = some o → b ≠ h'.objs.size ∧ (h'.push { cls := .type "list", data := .seq its.toArray }).get? b = some o := fun b o e =>
    ⟨Nat.ne_of_lt (Heap.lt_size (hk _ _ e)), Heap.get?_push_of_some _ (hk _ _ e)⟩
  refine wpAny_bind (wpAny_holding (wpAny_call_entry slot_list_sort ⟨_, hoL, rfl⟩ entry_list_sort (SrtO.list_sort_ord (ltv := fun u v => ltC (keyAt s.heap u) (keyAt s.heap v)) (swo_cd _) hoL hzi
    (fun h2 => sortable_of (fun u hu => by obtain ⟨_, as, _, _, rd⟩ := hr u hu; exact ⟨as, rd⟩) (fun u hu => by rw [← em]; exact List.mem_map_of_mem hu) ok hzi hu kk h2 _) fun out h1 h2 => ⟨_, rfl, ?_⟩) (args_list_sort _)))
  refine wpAny_pure ⟨_, rfl, ?_⟩
  have memO : ∀ u ∈ out, u ∈ its := fun u hu => h2.perm.mem_iff.mp hu
  have hm : out.map (keyAt s.heap) = sortC cs := by
    refine sortC_uniq (List.pairwise_map.mpr h1) ?_
    rw [← em]
    exact h2.perm.map _
  obtain ⟨b1, b2⟩ := rpAll_back (K := X.K) (H := H) (k := keyAt s.heap) (us := out) fun u hu => by
    obtain ⟨v, as, r1, r2, _⟩ := hr u (memO u hu)
    exact ⟨v, r1, r2⟩
  rw [hm] at b1
  have lo : (out.map backV).length ≤ sizeLine := by rw [List.length_map, h2.perm.length_eq]; exact hzi
  obtain ⟨ep2, he2⟩ := sortedHeap_at (h := h'.push { cls := .type "list", data := .seq its.toArray }) (a := h'.objs.size) (n := 0) (vs := its) (out := out.toArray) hoL
  have hnone : s.heap.get? h'.objs.size = none := by
    cases e : s.heap.get? h'.objs.size with
    | none => rfl
    | some o => exact absurd (Heap.lt_size (hk _ _ e)) (Nat.lt_irrefl _)
  have hn : H h'.objs.size = none := HOk.gone I.hok hnone
  exact ⟨.ref _, upd H h'.objs.size (.lst (out.map backV)), I.laidN (t' := s.toks) (fun b o e => by
    have hb := kk b o e
    rw [sortedHeap_old hb.1 (Heap.lt_size hb.2)]
    exact hb.2) hnone hn ⟨lo, out, ep2, b2, he2⟩, rfl, q _ _ hn b1⟩
end
/-- sorted of a tuple, as data -/
def sortedTD := on1 fun w S => match w with
  | .d (.tuple ds) => (ofPs ds).bind fun cs => if sortable cs = true then some (.d (.list (toPs (sortC cs))), S) else none
  | _ => none
theorem call_sortedTD {X : Cx} {k : Nat} (hr : Room k X.A) : CallR X (.builtin "sorted") (rC τ X.K sortedTD) := by
  have raw : CallR X (.builtin "sorted") (fun vs H Q => ∃ a xs cs, vs = [.ref a] ∧ SqT X.K H a xs ∧ RpAll X.K H xs (toPs cs) ∧ sortable cs = true ∧ ∀ p ys, H p = none → RpAll X.K H ys (toPs (sortC cs)) → Q (.ref p) (upd H p (.lst ys))) := by
    intro pins s σ H vs us Q I rx h
    obtain ⟨a, xs, cs, rfl, hs, r, ok, q⟩ := h
    cases rx with
    | cons r1 t =>
      cases t
      cases r1
      exact sortedT_run I hs r ok (by have := hr.un; omega) q
  intro pins s σ H vs us Q I rx h
  obtain ⟨m, S, ρ, σ', w0, w, S', v, rfl, q, r, e, p⟩ := rC1 h
  split at e
  · obtain ⟨cs, e2, e3⟩ := Option.bind_eq_some_iff.mp e
    split at e3
    · rename_i hok
      cases e3
      obtain ⟨a, xs, rfl, h, r1⟩ := rp_tup r
      rw [ofPs_eq _ _ e2] at r1
      exact callFrz raw pins s σ H _ us Q I rx ⟨a, xs, cs, rfl, h, r1, hok, fun t ys ht ry => newL p q ry t ht⟩
    · cases e3
  · cases e
def isTupD : W → Bool
  | .d (.tuple _) => true
  | _ => false
/-- sorted(x), whatever x is -/
def isDicN (S : Sto) (x : W) : Bool := isN S x || isDicA S x
def sortedA : List W → Sto → Option (W × Sto) := fun ws S => match ws with
  | [w] => if isDicN S w = true then sortedKX [w] S else if isTupD w = true then sortedTD [w] S else sortedD [w] S
  | _ => none
section
variable {X : Cx} {e a b c : Expr} {pos : Pos} {A B C : ME}
theorem set_X {k : Nat} (hr : Room k X.A) : PSet X (rSet τ X.K setX) := by
  intro pins s σ H o i v ov iv u Q I ro ri rv h
  obtain ⟨m, S, ρ, σ', wo, wi, wv, S', q, h1, h2, h3, e, p⟩ := h
  unfold setX at e
  split at e
  · exact set_nest hr pins s σ H o i v ov iv u Q I ro ri rv ⟨m, S, ρ, σ', wo, wi, wv, S', q, h1, h2, h3, e, p⟩
  · split at e
    · exact set_dict hr pins s σ H o i v ov iv u Q I ro ri rv ⟨m, S, ρ, σ', wo, wi, wv, S', q, h1, h2, h3, e, p⟩
    · exact set_D pins s σ H o i v ov iv u Q I ro ri rv ⟨m, S, ρ, σ', wo, wi, wv, S', q, h1, h2, h3, e, p⟩
theorem call_sortedA {k : Nat} (hr : Room k X.A) : CallR X (.builtin "sorted") (rC τ X.K sortedA) := by
  intro pins s σ H vs us Q I rx h
  obtain ⟨m, S, ρ, σ', ws, w, S', q, r, e, p⟩ := h
  unfold sortedA at e
  split at e
  · split at e
    · exact call_sortedKX hr pins s σ H vs us Q I rx ⟨m, S, ρ, σ', _, w, S', q, r, e, p⟩
    · split at e
      · exact call_sortedTD hr pins s σ H vs us Q I rx ⟨m, S, ρ, σ', _, w, S', q, r, e, p⟩
      · exact call_sortedDD hr pins s σ H vs us Q I rx ⟨m, S, ρ, σ', _, w, S', q, r, e, p⟩
  · cases e
/-- {} whose keys will be tuples -/
def mNewT : ME := fun _ S => some (.loc S.length, S ++ [.dicT []])
end
/-- a, b, c = x, y, z with plain local names -/
def sPar3 (i j l : Nat) (R : MA) : MS := fun ρ S => (R ρ S).bind fun p => match p.1 with
  | [w, u, z] => if i < ρ.length ∧ j < ρ.length ∧ l < ρ.length then some (.nx, ((ρ.set i (some w)).set j (some u)).set l (some z), p.2) else none
  | _ => none
theorem ds_par3 {X : Cx} {i j l : Nat} {x y z : Str} {a b c : Expr} {R : MA} {px py pz pt pos : Pos} {kt k2 pt2} (hc : X.calm = true) (hN : X.N.Nodup) (hi : X.N[i]? = some x) (hj : X.N[j]? = some y) (hl : X.N[l]? = some z) (hij : i ≠ j) (hil : i ≠ l) (hjl : j ≠ l)
    (hx : X.env.scope.names.lookup x = some .local) (hy : X.env.scope.names.lookup y = some .local) (hz : X.env.scope.names.lookup z = some .local) (ha : PA X [a, b, c] (rdA τ X.K R))
    (hw : swappedStores [.Tuple [.Name x px, .Name y py, .Name z pz] kt pt] (.Tuple [a, b, c] k2 pt2) X.env = pure (some [x, y, z]))
    (hs : swapsWithSole [.Tuple [.Name x px, .Name y py, .Name z pz] kt pt] (.Tuple [a, b, c] k2 pt2) pos.line X.env = pure false := by rfl) :
    PS X (.Assign [.Tuple [.Name x px, .Name y py, .Name z pz] kt pt] (.Tuple [a, b, c] k2 pt2) pos) (rdS τ X.K (sPar3 i j l R)) := wkS (ps_par3 hc hN hi hj hl hij hil hjl hx hy hz ha hw hs) fun D σ H q => by
  obtain ⟨m, S, ρ, fl, ρ', S', q, e, p⟩ := q
  obtain ⟨⟨ws, S1⟩, e1, e2⟩ := Option.bind_eq_some_iff.mp e
  refine ⟨m, S, ρ, ws, S1, q, e1, fun ext H1 vs f q1 fr r => ?_⟩
  simp only at e2
  split at e2
  · split at e2
    · cases e2
      cases r with
      | cons r1 t =>
        cases t with
        | cons r2 t =>
          cases t with
          | cons r3 t =>
            cases t
            exact ⟨_, _, _, rfl, (p.at f q1 fr).now (((q1.slotset r1).slotset r2).slotset r3)⟩
    · cases e2
  · cases e2
/-- a, b, .. = x, y, .. by way of a tuple, whatever its members are -/
def sTupA (n : Nat) (gs : MGs) (R : MA) : MS := fun ρ S => (R ρ S).bind fun p => if p.1.length = n ∧ n ≤ sizeLine then (gs p.1 ρ p.2).bind fun q => some (.nx, q.1, q.2) else none
theorem ds_tupA {X : Cx} {n : Nat} {gs : MGs} {R : MA} {ts es : List Expr} {k1 k2} {p1 p2 pos : Pos} {vis : List Nat} (hc : X.calm = true) (ha : PA X es (rdA τ X.K R)) (hg : PGs X ts (rdGs τ X.K vis gs)) (hn : (assignEach ts X.env).length = n := by rfl) (hst : (assignEach ts X.env).findIdx? (·.1) = none := by rfl)
    (hs : swapsWithSole [.Tuple ts k1 p1] (.Tuple es k2 p2) pos.line X.env = pure false := by rfl) (hw : swappedStores [.Tuple ts k1 p1] (.Tuple es k2 p2) X.env = pure none := by rfl)
    (h1 : (assignEach [.Tuple ts k1 p1] X.env).map (·.2) = [assign (.Tuple ts k1 p1) X.env] := by rfl) : PS X (.Assign [.Tuple ts k1 p1] (.Tuple es k2 p2) pos) (rdS τ X.K (sTupA n gs R)) :=
  wkS (ps_asg (pe_tup ha) (pg_tup hc hg hn hst) hs hw h1) fun D σ H q => by
    obtain ⟨m, S, ρ, fl, ρ', S', q, e, p⟩ := q
    obtain ⟨⟨ws, S1⟩, e1, e2⟩ := Option.bind_eq_some_iff.mp e
    split at e2
    · rename_i hl
      obtain ⟨⟨ρ2, S2⟩, e3, e4⟩ := Option.bind_eq_some_iff.mp e2
      cases e4
      refine ⟨m, S, ρ, ws, S1, q, e1, fun ext H1 vs f q1 fr r => ⟨by rw [r.length, hl.1]; exact hl.2, fun t ht => ⟨t, vs, rfl, .inl (.of upd_same), by rw [r.length]; exact hl.1, ?_⟩⟩⟩
      have keep := upd_keeps (o := HO.tup vs) ht
      have p1 := (p.at f q1 fr)
      refine ⟨m ++ ext, S1, ρ, ws, ρ2, S2, q1.same keep, Paired.mapP r fun _ _ z => z.mono0 (upd_kp ht), e3, fun ext2 σ2 H2 hv f2 q2 fr2 => ?_⟩
      have f2' : Fresh ext2 H1 := fresh_old f2 keep
      have fr2' : Fr (m ++ ext) H1 H2 := Fr.pre keep fr2
      exact (p1.at f2' q2 fr2').now q2
    · cases e2
end DL
end
noncomputable section
namespace K17
open PySem PySem.Spec PyProof.Rows L2 DL
def L_steps_from_1 : MS := sSeq (sAsg (mLc (iSeq (mVar 6)) (gTupD 2 (gsCons (gSet 7) (gsCons (gSet 8) (gsNil)))) (tOf (mBin (eqA false) (mVar 7) (mBin idxD (mVar 1) (mVar 3)))) (mVar 8) [7, 8] kFrz) (gSet 4))
    (sExpr (mMt extendF (mVar 2) (mCons (mLc (iSeq (mVar 4)) (gSet 8) (tTrue) (mBin addA (mBin addA (mSl (mVar 1) (oNo) (oYes (mVar 3))) (mCall tupF (mCons (mVar 8) (mNil)))) (mSl (mVar 1) (oYes (mBin addA (mVar 3) (mC (.int 1)))) (oNo))) [8] kFrz) (mNil))))
def b_steps_from : MS := sSeq (sAsg (mCall lstB (mNil)) (gSet 2))
    (sSeq (sFor (iEnumD (mCons (mVar 0) (mNil))) (gTupD 2 (gsCons (gSet 3) (gsCons (gTupD 2 (gsCons (gSet 5) (gsCons (gSet 6) (gsNil)))) (gsNil)))) (L_steps_from_1))
    (sRet (mCall sortedD (mCons (mVar 2) (mNil)))))
def f_steps_from : FS := runF 9 b_steps_from
def L_steps_to_1 : MS := sSeq (sAsg (mLc (iSeq (mVar 6)) (gTupD 2 (gsCons (gSet 7) (gsCons (gSet 8) (gsNil)))) (tOf (mBin (eqA false) (mVar 8) (mBin idxD (mVar 1) (mVar 3)))) (mVar 7) [7, 8] kFrz) (gSet 4))
    (sExpr (mMt extendF (mVar 2) (mCons (mLc (iSeq (mVar 4)) (gSet 7) (tTrue) (mBin addA (mBin addA (mSl (mVar 1) (oNo) (oYes (mVar 3))) (mCall tupF (mCons (mVar 7) (mNil)))) (mSl (mVar 1) (oYes (mBin addA (mVar 3) (mC (.int 1)))) (oNo))) [7] kFrz) (mNil))))
def b_steps_to : MS := sSeq (sAsg (mCall lstB (mNil)) (gSet 2))
    (sSeq (sFor (iEnumD (mCons (mVar 0) (mNil))) (gTupD 2 (gsCons (gSet 3) (gsCons (gTupD 2 (gsCons (gSet 5) (gsCons (gSet 6) (gsNil)))) (gsNil)))) (L_steps_to_1))
    (sRet (mCall sortedD (mCons (mVar 2) (mNil)))))
def f_steps_to : FS := runF 9 b_steps_to
def b_l_bag : MS := sRet (mCall lstB (mCons (mC (.int 0)) (mCons (mC (.int 1234567891)) (mCons (mC (.int 0)) (mCons (mLc (iSeq (mSl (mVar 0) (oNo) (oYes (mC (.int 63))))) (gSet 1) (tTrue) (mCall absD (mCons (mVar 1) (mNil))) [1] kFrz) (mNil))))))
def f_l_bag : FS := runF 2 b_l_bag
def b_l_take : MS := sSeq (sIf (tOf (mBin (eqA false) (mBin idxD (mVar 0) (mC (.int 0))) (mC (.int 0)))) (sSeq (sAsg (mBin idxD (mBin addA (mSl (mBin idxD (mVar 0) (mC (.int 3))) (oYes (mBin idxD (mVar 0) (mC (.int 2)))) (oNo)) (mCall lstF (mCons (mC (.int 0)) (mNil)))) (mC (.int 0))) (gSet 4))
    (sSeq (sAugS (mVar 0) (mC (.int 2)) (mC (.int 1)) getF iaddI setF)
    (sSeq (sIf (tOf (mBin geD (mVar 4) (mBin powD (mC (.int 10)) (mC (.int 18))))) (sAsg (mVar 4) (gSubD (mVar 0) (mC (.int 0)) setF)) (sNil))
    (sSeq (sAsg (mBin addA (mBin addA (mBin mulD (mBin idxD (mVar 0) (mC (.int 1))) (mC (.int 48271))) (mBin modD (mCall intD (mCons (mVar 4) (mNil))) (mC (.int 2147483647)))) (mBin mulD (mC (.int 7919)) (mBin idxD (mVar 0) (mC (.int 2))))) (gSet 5))
    (sAsg (mBin modD (mCall intD (mCons (mVar 5) (mNil))) (mC (.int 2147483647))) (gSubD (mVar 0) (mC (.int 1)) setF)))))) (sNil))
    (sSeq (sIf (tOf (mBin gtD (mBin idxD (mVar 0) (mC (.int 0))) (mC (.int 0)))) (sSeq (sAsg (mBin modD (mCall intD (mCons (mBin idxD (mVar 0) (mC (.int 0))) (mNil))) (mVar 1)) (gSet 6))
    (sSeq (sAsg (mBin fdivD (mCall intD (mCons (mBin idxD (mVar 0) (mC (.int 0))) (mNil))) (mVar 1)) (gSubD (mVar 0) (mC (.int 0)) setF))
    (sRet (mVar 6)))) (sNil))
    (sSeq (sAsg (mBin modD (mCall intD (mCons (mBin mulD (mBin addA (mBin idxD (mVar 0) (mC (.int 1))) (mC (.int 1))) (mC (.int 39373))) (mNil))) (mC (.int 1000000007))) (gSet 2))
    (sSeq (sAsg (mBin modD (mCall intD (mCons (mBin mulD (mBin modD (mCall intD (mCons (mBin mulD (mVar 2) (mVar 2)) (mNil))) (mC (.int 998244353))) (mC (.int 30011))) (mNil))) (mC (.int 998244353))) (gSet 3))
    (sRet (mBin modD (mCall intD (mCons (mBin fdivD (mVar 3) (mC (.int 7))) (mNil))) (mVar 1))))))
def f_l_take : FS := runF 7 b_l_take
def b_l_alike : MS := sRet (vAnd (mBin (eqA false) (mVar 0) (mVar 1)) (mBin (eqA false) (mCall reprD (mCons (mVar 0) (mNil))) (mCall reprD (mCons (mVar 1) (mNil)))))
def f_l_alike : FS := runF 2 b_l_alike
def L_l_steps_1 : MS := sExpr (mMt extendF (mVar 2) (mCons (mBin repL (mCall lstF (mCons (mBin addA (mBin addA (mSl (mVar 1) (oNo) (oYes (mVar 3))) (mCall tupF (mCons (mVar 5) (mNil)))) (mSl (mVar 1) (oYes (mBin addA (mVar 3) (mC (.int 1)))) (oNo))) (mNil))) (mCall intD (mCons (mBin (eqA false) (mVar 4) (mBin idxD (mVar 1) (mVar 3))) (mNil)))) (mNil)))
def L_l_steps_2 : MS := sFor (iSeq (mBin idxD (mBin idxD (mVar 0) (mVar 3)) (mC (.int 1)))) (gTupD 2 (gsCons (gSet 4) (gsCons (gSet 5) (gsNil)))) (L_l_steps_1)
def b_l_steps : MS := sSeq (sAsg (mCall lstB (mNil)) (gSet 2))
    (sSeq (sFor (iRng1D (mCons (mCall lenD (mCons (mVar 0) (mNil))) (mNil))) (gSet 3) (L_l_steps_2))
    (sRet (mCall sortedD (mCons (mVar 2) (mNil)))))
def f_l_steps : FS := runF 6 b_l_steps
def L_l_least_way_1 : MS := sIf (tAndD (tOf (mBin (dinF true) (mVar 8) (mVar 4))) (tOrD (tOf (mBin (eqA false) (mVar 8) (mVar 2))) (tOf (mBin (inA true) (mVar 8) (mVar 3))))) (sSeq (sAsg (mBin addA (mBin dgetF (mVar 4) (mVar 7)) (mCall tupF (mCons (mVar 8) (mNil)))) (gSubD (mVar 4) (mVar 8) dputF))
    (sExpr (mMt appendF (mVar 6) (mCons (mVar 8) (mNil))))) (sNil)
def L_l_least_way_2 : MS := sIf (tOrD (tOf (mBin (eqA false) (mVar 7) (mVar 1))) (tOf (mBin (inA true) (mVar 7) (mVar 3)))) (sFor (iSeq (mBin dgetF (mVar 0) (mVar 7))) (gSet 8) (L_l_least_way_1)) (sNil)
def b_l_least_way : MS := sSeq (sPar 4 5 (mCons (mDisp1 (mVar 1) (mCall tupF (mCons (mVar 1) (mNil)))) (mCons (mCall lstF (mCons (mVar 1) (mNil))) mNil)))
    (sSeq (whileL (tAndD (tOf (mBin (eqA true) (mVar 5) (mCall lstF (mNil)))) (tOf (mBin (dinF true) (mVar 2) (mVar 4)))) (sSeq (sAsg (mCall lstB (mNil)) (gSet 6))
    (sSeq (sFor (iSeq (mVar 5)) (gSet 7) (L_l_least_way_2))
    (sAsg (mFrz (mVar 6)) (gSet 5)))) FUEL)
    (sRet (mGet2' (mVar 4) (mVar 2) (mC .none))))
def f_l_least_way : FS := runF 9 b_l_least_way
def L_l_flat_1 : MS := sExpr (mMt extendF (mVar 1) (mCons (mVar 2) (mNil)))
def b_l_flat : MS := sSeq (sAsg (mCall lstB (mNil)) (gSet 1))
    (sSeq (sFor (iSeq (mVar 0)) (gSet 2) (L_l_flat_1))
    (sRet (mFrz (mVar 1))))
def f_l_flat : FS := runF 3 b_l_flat
def L_steps_left_1 : MS := sIf (tOf (mBin (dinF true) (mVar 7) (mVar 4))) (sSeq (sAsg (mBin addA (mBin dgetF (mVar 4) (mVar 6)) (mC (.int 1))) (gSubD (mVar 4) (mVar 7) dputF))
    (sExpr (mMt appendF (mVar 5) (mCons (mVar 7) (mNil))))) (sNil)
def L_steps_left_2 : MS := sFor (iSeq (mCall (callF f_steps_to) (mCons (mVar 0) (mCons (mVar 6) (mNil))))) (gSet 7) (L_steps_left_1)
def b_steps_left : MS := sSeq (sPar 4 3 (mCons (mDisp1 (mVar 1) (mC (.int 0))) (mCons (mCall lstF (mCons (mVar 1) (mNil))) mNil)))
    (sSeq (whileL (tTru (mVar 3)) (sSeq (sAsg (mCall lstB (mNil)) (gSet 5))
    (sSeq (sFor (iSeq (mLc (iSeq (mVar 3)) (gSet 8) (tOrD (tOf (mBin (eqA false) (mVar 8) (mVar 1))) (tOf (mBin (dinF true) (mVar 8) (mVar 2)))) (mVar 8) [8] kFrz)) (gSet 6) (L_steps_left_2))
    (sAsg (mFrz (mVar 5)) (gSet 3)))) FUEL)
    (sRet (mVar 4)))
def f_steps_left : FS := runF 9 b_steps_left
def b_l_some : MS := sRet (mBin idxD (mVar 1) (mCall (callF f_l_take) (mCons (mVar 0) (mCons (mCall lenD (mCons (mVar 1) (mNil))) (mNil)))))
def f_l_some : FS := runF 2 b_l_some
def L_l_mixed_1 : MS := sExpr (mMt insertF (mVar 2) (mCons (mCall (callF f_l_take) (mCons (mVar 0) (mCons (mBin addA (mCall lenD (mCons (mVar 2) (mNil))) (mC (.int 1))) (mNil)))) (mCons (mVar 3) (mNil))))
def b_l_mixed : MS := sSeq (sAsg (mCall lstB (mNil)) (gSet 2))
    (sSeq (sFor (iSeq (mVar 1)) (gSet 3) (L_l_mixed_1))
    (sRet (mFrz (mVar 2))))
def f_l_mixed : FS := runF 4 b_l_mixed
def L_l_contents_1 : MS := sAsg (mCall (callF f_l_flat) (mCons (mLc (iSeq (mVar 1)) (gSet 3) (tTrue) (mLc (iRng1D (mCons (mBin idxD (mVar 2) (mC (.int 0))) (mNil))) (gSet 4) (tTrue) (mBin addA (mVar 3) (mCall tupF (mCons (mVar 4) (mNil)))) [4] kFrz) [3] kFrz) (mNil))) (gSet 1)
def b_l_contents : MS := sSeq (sAsg (mCall lstF (mCons (mCall tupF (mNil)) (mNil))) (gSet 1))
    (sSeq (sFor (iSeq (mVar 0)) (gSet 2) (L_l_contents_1))
    (sRet (mVar 1)))
def f_l_contents : FS := runF 5 b_l_contents
def b_shortest_way : MS := sSeq (sAsg (mCall (callF f_steps_left) (mCons (mVar 0) (mCons (mVar 2) (mCons (mDc (iSeq (mVar 3)) (gSet 8) (tTrue) (mVar 8) (mC (.bool true)) [8]) (mNil))))) (gSet 4))
    (sSeq (sIf (tOf (mBin (dinF true) (mVar 1) (mVar 4))) (sRet (mC .none)) (sNil))
    (sSeq (sAsg (mCall tupF (mCons (mVar 1) (mNil))) (gSet 5))
    (sSeq (whileL (tOf (mBin (eqA true) (mBin idxD (mVar 5) (mNeg (mC (.int 1)))) (mVar 2))) (sSeq (sAsg (mBin idxD (mVar 5) (mNeg (mC (.int 1)))) (gSet 6))
    (sSeq (sAsg (mLc (iSeq (mCall (callF f_steps_from) (mCons (mVar 0) (mCons (mVar 6) (mNil))))) (gSet 8) (tOf (mBin (eqA false) (mGet1' (mVar 4) (mVar 8)) (mBin subD (mBin dgetF (mVar 4) (mVar 6)) (mC (.int 1))))) (mVar 8) [8] kFrz) (gSet 7))
    (sAug 5 iaddT (mCall tupF (mCons (mCall minLD (mCons (mLc (iSeq (mVar 7)) (gSet 8) (tOrD (tOf (mBin (eqA false) (mVar 8) (mVar 2))) (tOf (mBin (inA true) (mVar 8) (mVar 3)))) (mVar 8) [8] kFrz) (mNil))) (mNil)))))) FUEL)
    (sRet (mVar 5)))))
def f_shortest_way : FS := runF 9 b_shortest_way
def b_distance : MS := sRet (mGet1' (mCall (callF f_steps_left) (mCons (mVar 0) (mCons (mVar 2) (mCons (mDc (iSeq (mVar 3)) (gSet 4) (tTrue) (mVar 4) (mC (.bool true)) [4]) (mNil))))) (mVar 1))
def f_distance : FS := runF 5 b_distance
def b_l_place : MS := sSeq (sAsg (mBin addA (mC (.int 2)) (mCall (callF f_l_take) (mCons (mVar 0) (mCons (mBin subD (mVar 1) (mC (.int 1))) (mNil))))) (gSet 2))
    (sSeq (sAsg (mCall (callF f_l_some) (mCons (mVar 0) (mCons (mCall lstF (mCons (mC (.int 0)) (mCons (mC (.int 0)) (mCons (mC (.int 0)) (mCons (mC (.int 2)) (mCons (mC (.int 2)) (mCons (mC (.int 4)) (mCons (mC (.int 4)) (mCons (mC (.int 2)) (mCons (mC (.int 5)) (mCons (mC (.int 6)) (mCons (mC (.int 7)) (mNil))))))))))))) (mNil)))) (gSet 3))
    (sSeq (sAsg (mCall (callF f_l_flat) (mCons (mLc (iRng1D (mCons (mVar 2) (mNil))) (gSet 5) (tTrue) (mLc (iRng1D (mCons (mVar 2) (mNil))) (gSet 6) (tOf (mBin (eqA true) (mVar 6) (mVar 5))) (mCall tupF (mCons (mVar 5) (mCons (mVar 6) (mNil)))) [6] kFrz) [5] kFrz) (mNil))) (gSet 4))
    (sSeq (sIf (tOf (mBin ltD (mVar 3) (mC (.int 2)))) (sRet (mCall tupF (mCons (mVar 2) (mCons (mCall tupleD (mCons (mVar 4) (mNil))) (mNil))))) (sNil))
    (sSeq (sIf (tOrD (tOf (mBin ltD (mVar 3) (mC (.int 4)))) (tAndD (tOf (mBin (eqA false) (mVar 3) (mC (.int 4)))) (tOf (mBin ltD (mVar 2) (mC (.int 3)))))) (sRet (mCall tupF (mCons (mVar 2) (mCons (mCall tupleD (mCons (mLc (iSeq (mVar 4)) (gTupD 2 (gsCons (gSet 5) (gsCons (gSet 6) (gsNil)))) (tOf (mBin (inA false) (mBin subD (mVar 5) (mVar 6)) (mCall tupF (mCons (mC (.int 1)) (mCons (mNeg (mC (.int 1))) (mNil)))))) (mCall tupF (mCons (mVar 5) (mCons (mVar 6) (mNil)))) [5, 6] kFrz) (mNil))) (mNil))))) (sNil))
    (sSeq (sIf (tOf (mBin (eqA false) (mVar 3) (mC (.int 4)))) (sRet (mCall tupF (mCons (mVar 2) (mCons (mCall tupleD (mCons (mLc (iSeq (mVar 4)) (gTupD 2 (gsCons (gSet 5) (gsCons (gSet 6) (gsNil)))) (tOf (mBin (inA false) (mBin modD (mCall intD (mCons (mBin subD (mVar 5) (mVar 6)) (mNil))) (mVar 2)) (mCall tupF (mCons (mC (.int 1)) (mCons (mBin subD (mVar 2) (mC (.int 1))) (mNil)))))) (mCall tupF (mCons (mVar 5) (mCons (mVar 6) (mNil)))) [5, 6] kFrz) (mNil))) (mNil))))) (sNil))
    (sSeq (sIf (tOf (mBin (inA false) (mVar 3) (mCall tupF (mCons (mC (.int 5)) (mCons (mC (.int 7)) (mNil)))))) (sRet (mCall tupF (mCons (mVar 2) (mCons (mCall tupleD (mCons (mLc (iSeq (mVar 4)) (gTupD 2 (gsCons (gSet 5) (gsCons (gSet 6) (gsNil)))) (tAndD (tOf (mBin ltD (mVar 5) (mVar 6))) (tOrD (tOf (mBin (eqA false) (mVar 3) (mC (.int 5)))) (tOf (mBin (eqA false) (mVar 6) (mBin addA (mVar 5) (mC (.int 1))))))) (mCall tupF (mCons (mVar 5) (mCons (mVar 6) (mNil)))) [5, 6] kFrz) (mNil))) (mNil))))) (sNil))
    (sRet (mCall tupF (mCons (mVar 2) (mCons (mCall tupleD (mCons (mCall sortedD (mCons (mSl (mCall (callF f_l_mixed) (mCons (mVar 0) (mCons (mVar 4) (mNil)))) (oNo) (oYes (mCall (callF f_l_take) (mCons (mVar 0) (mCons (mBin addA (mCall lenD (mCons (mVar 4) (mNil))) (mC (.int 1))) (mNil)))))) (mNil))) (mNil))) (mNil)))))))))))
def f_l_place : FS := runF 7 b_l_place
def b_l_graph : MS := sRet (mCall dictP (mCons (mLc (iSeq (mCall (callF f_l_contents) (mCons (mVar 0) (mNil)))) (gSet 1) (tTrue) (mCall tupF (mCons (mVar 1) (mCons (mCall (callF f_l_steps) (mCons (mVar 0) (mCons (mVar 1) (mNil)))) (mNil)))) [1] kFrz) (mNil)))
def f_l_graph : FS := runF 2 b_l_graph
def b_l_drawn_contents : MS := sSeq (sAsg (mCall (callF f_l_take) (mCons (mVar 0) (mCons (mC (.int 4)) (mNil)))) (gSet 2))
    (sSeq (sIf (tOf (mBin (eqA false) (mVar 2) (mC (.int 0)))) (sRet (mCall lstF (mNil))) (sNil))
    (sRet (mCall (callF f_l_mixed) (mCons (mVar 0) (mCons (mLc (iSeq (mVar 1)) (gSet 3) (tOf (mBin (eqA false) (mCall (callF f_l_take) (mCons (mVar 0) (mCons (mBin addA (mC (.int 1)) (mVar 2)) (mNil)))) (mC (.int 0)))) (mVar 3) [3] kFrz) (mNil))))))
def f_l_drawn_contents : FS := runF 4 b_l_drawn_contents
def L_l_bench_1 : MS := sIf (tOf (mBin leD (mBin mulD (mVar 4) (mC (.int 2))) (mVar 1))) (sSeq (sExpr (mMt appendF (mVar 3) (mCons (mCall (callF f_l_place) (mCons (mVar 0) (mCons (mCall min2D (mCons (mCall (callF f_l_some) (mCons (mVar 0) (mCons (mCall lstF (mCons (mC (.int 6)) (mCons (mC (.int 4)) (mCons (mC (.int 3)) (mCons (mC (.int 3)) (mCons (mC (.int 2)) (mNil))))))) (mNil)))) (mCons (mBin fdivD (mVar 1) (mVar 4)) (mNil)))) (mNil)))) (mNil))))
    (sAsg (mBin mulD (mVar 4) (mBin idxD (mBin idxD (mVar 3) (mNeg (mC (.int 1)))) (mC (.int 0)))) (gSet 4))) (sNil)
def b_l_bench : MS := sSeq (sPar 3 4 (mCons (mCall lstB (mNil)) (mCons (mC (.int 1)) mNil)))
    (sSeq (sFor (iRng1D (mCons (mCall (callF f_l_some) (mCons (mVar 0) (mCons (mCall lstF (mCons (mC (.int 1)) (mCons (mC (.int 2)) (mCons (mC (.int 2)) (mCons (mC (.int 3)) (mCons (mC (.int 3)) (mCons (mC (.int 4)) (mCons (mC (.int 5)) (mNil))))))))) (mNil)))) (mNil))) (gSet 2) (L_l_bench_1))
    (sRet (mCall tupleD (mCons (mVar 3) (mNil)))))
def f_l_bench : FS := runF 5 b_l_bench
def L_law_1 : MS := sSeq (sAsg (mBin addA (mVar 10) (mSl (mVar 10) (oNo) (oYes (mCall (callF f_l_take) (mCons (mVar 1) (mCons (mC (.int 2)) (mNil))))))) (gSet 12))
    (sSeq (sAsg (vIf (tOf (mBin (eqA false) (mCall (callF f_l_take) (mCons (mVar 1) (mCons (mC (.int 2)) (mNil)))) (mC (.int 0)))) (mCall tupleD (mCons (mVar 12) (mNil))) (mCall listD (mCons (mVar 12) (mNil)))) (gSet 13))
    (sSeq (sPar 15 16 (mCons (mCall (callF f_l_least_way) (mCons (mVar 4) (mCons (mVar 8) (mCons (mVar 9) (mCons (mVar 10) (mNil)))))) (mCons (mCall reprD (mCons (mVar 13) (mNil))) mNil)))
    (sSeq (sAsg (mCall lstF (mCons (mCall (callF f_shortest_way) (mCons (mVar 3) (mCons (mVar 8) (mCons (mVar 9) (mCons (mVar 13) (mNil)))))) (mCons (mCall (callF f_distance) (mCons (mVar 3) (mCons (mVar 8) (mCons (mVar 9) (mCons (mVar 13) (mNil)))))) (mNil)))) (gSet 14))
    (sSeq (sIf (tOrD (tNotD (tTru (mCall (callF f_l_alike) (mCons (mVar 14) (mCons (mCall lstF (mCons (mVar 15) (mCons (vIf (tOf (mBin (isND false) (mVar 15) (mC .none))) (mC .none) (mBin subD (mCall lenD (mCons (mVar 15) (mNil))) (mC (.int 1)))) (mNil)))) (mNil)))))) (tOf (mBin (eqA true) (mCall reprD (mCons (mVar 13) (mNil))) (mVar 16)))) (sRet (mC (.bool false))) (sNil))
    (sSeq (sIf (tAndD (tOf (mBin (isND true) (mVar 11) (mC .none))) (tOrD (tOf (mBin (isND false) (mVar 15) (mC .none))) (tOf (mBin gtD (mCall lenD (mCons (mVar 15) (mNil))) (mVar 11))))) (sRet (mC (.bool false))) (sNil))
    (sSeq (sIf (tOf (mBin (isND true) (mVar 15) (mC .none))) (sSeq (sPar 11 17 (mCons (mCall lenD (mCons (mVar 15) (mNil))) (mCons (mCall (callF f_l_take) (mCons (mVar 1) (mCons (mCall lenD (mCons (mVar 15) (mNil))) (mNil)))) mNil)))
    (sIf (tNotD (tTru (mCall (callF f_l_alike) (mCons (mCall (callF f_shortest_way) (mCons (mVar 3) (mCons (mBin idxD (mVar 15) (mVar 17)) (mCons (mVar 9) (mCons (mVar 13) (mNil)))))) (mCons (mSl (mVar 15) (oYes (mVar 17)) (oNo)) (mNil)))))) (sRet (mC (.bool false))) (sNil))) (sNil))
    (sAsg (mSl (mVar 10) (oYes (mC (.int 1))) (oNo)) (gSet 10))))))))
def L_law_2 : MS := sSeq (sPar 8 9 (mCons (mCall (callF f_l_some) (mCons (mVar 1) (mCons (mVar 5) (mNil)))) (mCons (mCall (callF f_l_some) (mCons (mVar 1) (mCons (mVar 5) (mNil)))) mNil)))
    (sSeq (sPar 10 11 (mCons (mCall (callF f_l_drawn_contents) (mCons (mVar 1) (mCons (mVar 5) (mNil)))) (mCons (mC .none) mNil)))
    (sSeq (sIf (tOf (mBin (eqA false) (mCall (callF f_l_take) (mCons (mVar 1) (mCons (mC (.int 3)) (mNil)))) (mC (.int 0)))) (sAsg (mSl (mCall listD (mCons (vOrT (mCall (callF f_l_least_way) (mCons (mVar 4) (mCons (mVar 8) (mCons (mVar 9) (mCons (mCall lstF (mNil)) (mNil)))))) (mCall lstF (mNil))) (mNil))) (oYes (mCall (callF f_l_take) (mCons (mVar 1) (mCons (mC (.int 3)) (mNil))))) (oNo)) (gSet 10)) (sNil))
    (sFor (iRng1D (mCons (mC (.int 4)) (mNil))) (gSet 7) (L_law_1))))
def L_law_3 : MS := sSeq (sAsg (mCall (callF f_l_bench) (mCons (mVar 1) (mCons (mC (.int 36)) (mNil)))) (gSet 3))
    (sSeq (sAsg (mCall (callF f_l_graph) (mCons (mVar 3) (mNil))) (gSet 4))
    (sSeq (sAsg (mCall sortedKD (mCons (mVar 4) (mNil))) (gSet 5))
    (sFor (iRng1D (mCons (mC (.int 5)) (mNil))) (gSet 6) (L_law_2))))
def b_law : MS := sSeq (sAsg (mCall (callF f_l_bag) (mCons (mVar 0) (mNil))) (gSet 1))
    (sSeq (sFor (iRng1D (mCons (mC (.int 3)) (mNil))) (gSet 2) (L_law_3))
    (sRet (mC (.bool true))))
def f_law : FS := runF 18 b_law
end K17
end
noncomputable section
namespace K17
open PySem PySem.Spec PyProof.Rows L2 DL
abbrev Mv := Int × Int
abbrev Pl := Nat × List Mv
def mv (m : Mv) : PyData := .tuple [.int m.1, .int m.2]
def pl (p : Pl) : PyData := .tuple [.int (p.1 : Nat), .tuple (p.2.map mv)]
def bn (b : List Pl) : PyData := .tuple (b.map pl)
structure GoodP (p : Pl) : Prop where
  lo : 2 ≤ p.1
  hi : p.1 ≤ 6
  len : p.2.length ≤ 36
  mv : ∀ m ∈ p.2, (0 ≤ m.1 ∧ m.1 < p.1) ∧ (0 ≤ m.2 ∧ m.2 < p.1)
  asc : p.2.Pairwise fun a b => ltC (cI [a.1, a.2]) (cI [b.1, b.2]) = true
  irr : ∀ m ∈ p.2, m.1 ≠ m.2
structure Good (b : List Pl) : Prop where
  ne : b ≠ []
  len : b.length ≤ 5
  pl : ∀ p ∈ b, GoodP p
def ext1 (acc : List (List Int)) (n : Nat) : List (List Int) := (acc.map fun c => (List.range n).map fun v : Nat => c ++ [(v : Int)]).flatten
def conts (b : List Pl) : List (List Int) := b.foldl (fun acc p => ext1 acc p.1) [[]]
theorem conts_snoc (b : List Pl) (p : Pl) : conts (b ++ [p]) = ext1 (conts b) p.1 := by simp [conts, List.foldl_append]
def Fits : List Int → List Pl → Prop
  | [], [] => True
  | x :: c, p :: b => (0 ≤ x ∧ x < p.1) ∧ Fits c b
  | _, _ => False
theorem fits_len : ∀ {c : List Int} {b : List Pl}, Fits c b → c.length = b.length
  | [], [], _ => rfl
  | x :: c, p :: b, h => by simp [fits_len h.2]
  | [], _ :: _, h => h.elim
  | _ :: _, [], h => h.elim
theorem fits_get : ∀ {c : List Int} {b : List Pl} {k : Nat} {p : Pl}, Fits c b → b[k]? = some p → ∃ x, c[k]? = some x ∧ 0 ≤ x ∧ x < p.1
  | x :: c, q :: b, 0, p, h, e => by
    simp at e; subst e
    exact ⟨x, rfl, h.1⟩
  | x :: c, q :: b, k + 1, p, h, e => by
    obtain ⟨y, h1, h2⟩ := fits_get (k := k) (p := p) h.2 (by simpa using e)
    exact ⟨y, by simpa using h1, h2⟩
  | [], [], _, _, _, e => by simp at e
  | [], _ :: _, _, _, h, _ => h.elim
  | _ :: _, [], _, _, h, _ => h.elim
theorem fits_set : ∀ {c : List Int} {b : List Pl} {k : Nat} {p : Pl} {w : Int}, Fits c b → b[k]? = some p → 0 ≤ w → w < p.1 → Fits (c.set k w) b
  | x :: c, q :: b, 0, p, w, h, e, h0, h1 => by
    simp at e; subst e
    exact ⟨⟨h0, h1⟩, h.2⟩
  | x :: c, q :: b, k + 1, p, w, h, e, h0, h1 => ⟨h.1, fits_set h.2 (by simpa using e) h0 h1⟩
  | [], [], _, _, _, _, e, _, _ => by simp at e
  | [], _ :: _, _, _, _, h, _, _, _ => h.elim
  | _ :: _, [], _, _, _, h, _, _, _ => h.elim
theorem fits_snoc : ∀ {c : List Int} {b : List Pl} {x : Int} {p : Pl}, c.length = b.length → (Fits (c ++ [x]) (b ++ [p]) ↔ Fits c b ∧ 0 ≤ x ∧ x < p.1)
  | [], [], x, p, _ => by simp [Fits]
  | y :: c, q :: b, x, p, h => by
    have := fits_snoc (c := c) (b := b) (x := x) (p := p) (by simpa using h)
    simp only [List.cons_append, Fits, this]
    constructor
    · rintro ⟨a, b, c⟩; exact ⟨⟨a, b⟩, c⟩
    · rintro ⟨⟨a, b⟩, c⟩; exact ⟨a, b, c⟩
  | [], _ :: _, _, _, h => by simp at h
  | _ :: _, [], _, _, h => by simp at h
theorem snoc_ex {α : Type} : ∀ {b : List α}, b ≠ [] → ∃ b' p, b = b' ++ [p] := fun {b} h => ⟨b.dropLast, b.getLast h, (List.dropLast_concat_getLast h).symm⟩
theorem mem_ext1 {acc : List (List Int)} {n : Nat} {d : List Int} : d ∈ ext1 acc n ↔ ∃ c ∈ acc, ∃ x : Int, d = c ++ [x] ∧ 0 ≤ x ∧ x < n := by
  unfold ext1
  rw [List.mem_flatten]
  constructor
  · rintro ⟨l, hl, hd⟩
    obtain ⟨c, hc, rfl⟩ := List.mem_map.mp hl
    obtain ⟨v, hv, rfl⟩ := List.mem_map.mp hd
    have := List.mem_range.mp hv
    exact ⟨c, hc, v, rfl, by omega, by omega⟩
  · rintro ⟨c, hc, x, rfl, h0, h1⟩
    refine ⟨_, List.mem_map.mpr ⟨c, hc, rfl⟩, List.mem_map.mpr ⟨x.toNat, List.mem_range.mpr (by omega), ?_⟩⟩
    rw [Int.toNat_of_nonneg h0]
theorem mem_conts (n : Nat) : ∀ {b : List Pl} {c : List Int}, b.length = n → (c ∈ conts b ↔ Fits c b) := by
  induction n with
  | zero =>
    intro b c h
    have : b = [] := List.eq_nil_of_length_eq_zero h
    subst this
    simp only [conts, List.foldl_nil, List.mem_singleton]
    constructor
    · rintro rfl; exact True.intro
    · intro h2; exact List.eq_nil_of_length_eq_zero (fits_len h2)
  | succ n ih =>
    intro b c h
    obtain ⟨b', p, rfl⟩ := snoc_ex (b := b) (by rintro rfl; simp at h)
    have hb : b'.length = n := by simpa using h
    rw [conts_snoc, mem_ext1]
    constructor
    · rintro ⟨c', hc, x, rfl, h0, h1⟩
      have hf := (ih hb).mp hc
      exact (fits_snoc (fits_len hf)).mpr ⟨hf, h0, h1⟩
    · intro hf
      have hl := fits_len hf
      obtain ⟨c', x, rfl⟩ := snoc_ex (b := c) (by rintro rfl; simp at hl)
      obtain ⟨h1, h2, h3⟩ := (fits_snoc (by simpa using hl)).mp hf
      exact ⟨c', (ih hb).mpr h1, x, rfl, h2, h3⟩
theorem conts_nodup (n : Nat) : ∀ {b : List Pl}, b.length = n → (conts b).Nodup := by
  induction n with
  | zero =>
    intro b h
    have : b = [] := List.eq_nil_of_length_eq_zero h
    subst this
    simp [conts]
  | succ n ih =>
    intro b h
    obtain ⟨b', p, rfl⟩ := snoc_ex (b := b) (by rintro rfl; simp at h)
    have hb : b'.length = n := by simpa using h
    rw [conts_snoc]
    unfold ext1
    unfold List.Nodup
    rw [List.pairwise_flatten]
    refine ⟨fun l hl => ?_, ?_⟩
    · obtain ⟨c, hc, rfl⟩ := List.mem_map.mp hl
      refine List.Pairwise.map _ (R := fun a b => a ≠ b) (fun a b hab e => hab ?_) List.nodup_range
      have := List.append_inj_right' e rfl
      simp at this; omega
    · refine List.Pairwise.map _ (R := fun a b => a ≠ b) (fun a b hab => ?_) (ih hb)
      intro x h1 y h2 e
      obtain ⟨v, _, rfl⟩ := List.mem_map.mp h1
      obtain ⟨u, _, rfl⟩ := List.mem_map.mp h2
      exact hab (List.append_inj_left' e rfl)
theorem ext1_len (acc : List (List Int)) (n : Nat) : (ext1 acc n).length = acc.length * n := by
  unfold ext1
  induction acc with
  | nil => simp
  | cons a l ih => simp only [List.map_cons, List.flatten_cons, List.length_append, List.length_map, List.length_range, ih, List.length_cons]; rw [Nat.succ_mul, Nat.add_comm]
theorem conts_len (n : Nat) : ∀ {b : List Pl}, b.length = n → (∀ p ∈ b, p.1 ≤ 6) → (conts b).length ≤ 6 ^ n := by
  induction n with
  | zero =>
    intro b h _
    have : b = [] := List.eq_nil_of_length_eq_zero h
    subst this
    simp [conts]
  | succ n ih =>
    intro b h hp
    obtain ⟨b', p, rfl⟩ := snoc_ex (b := b) (by rintro rfl; simp at h)
    have hb : b'.length = n := by simpa using h
    rw [conts_snoc, ext1_len, Nat.pow_succ]
    exact Nat.mul_le_mul (ih hb fun q hq => hp q (by simp [hq])) (hp p (by simp))
theorem Good.clen {b : List Pl} (g : Good b) : (conts b).length ≤ 7776 :=
  Nat.le_trans (conts_len b.length rfl fun p hp => (g.pl p hp).hi) (Nat.pow_le_pow_right (n := 6) (by decide) g.len)
theorem Good.take {b : List Pl} (g : Good b) (i : Nat) : (conts (b.take i)).length ≤ 7776 :=
  Nat.le_trans (conts_len (b.take i).length rfl fun p hp => (g.pl p (List.mem_of_mem_take hp)).hi) (Nat.pow_le_pow_right (n := 6) (by decide) (Nat.le_trans (by rw [List.length_take]; omega) g.len))
def part (c : List Int) (k : Nat) (p : Pl) : List (List Int) := (p.2.filter fun m => decide (m.1 = c.getD k 0)).map fun m => c.set k m.2
def stp (c : List Int) : Nat → List Pl → List (List Int)
  | _, [] => []
  | k, p :: b => part c k p ++ stp c (k + 1) b
theorem stp_snoc (c : List Int) (p : Pl) : ∀ (k : Nat) (b : List Pl), stp c k (b ++ [p]) = stp c k b ++ part c (k + b.length) p
  | k, [] => by simp [stp]
  | k, q :: b => by
    simp only [List.cons_append, stp, stp_snoc c p (k + 1) b, List.append_assoc, List.length_cons]
    rw [show k + 1 + b.length = k + (b.length + 1) by omega]
theorem part_len (c : List Int) (k : Nat) (p : Pl) : (part c k p).length ≤ p.2.length := by unfold part; rw [List.length_map]; exact List.length_filter_le _ _
theorem stp_len (c : List Int) : ∀ (k : Nat) (b : List Pl), (∀ p ∈ b, p.2.length ≤ 36) → (stp c k b).length ≤ 36 * b.length
  | _, [], _ => by simp [stp]
  | k, p :: b, h => by
    have h1 := part_len c k p; have h2 := h p (by simp); have h3 := stp_len c (k + 1) b fun q hq => h q (by simp [hq])
    simp only [stp, List.length_append, List.length_cons]; omega
theorem stp_mem {c d : List Int} : ∀ {k : Nat} {b : List Pl}, d ∈ stp c k b → ∃ i p m, b[i]? = some p ∧ m ∈ p.2 ∧ d = c.set (k + i) m.2
  | _, [], h => by simp [stp] at h
  | k, p :: b, h => by
    rcases List.mem_append.mp h with h | h
    · obtain ⟨m, hm, rfl⟩ := List.mem_map.mp h
      exact ⟨0, p, m, rfl, (List.mem_filter.mp hm).1, rfl⟩
    · obtain ⟨i, q, m, h1, h2, h3⟩ := stp_mem h
      exact ⟨i + 1, q, m, by simpa using h1, h2, by rw [h3, show k + 1 + i = k + (i + 1) by omega]⟩
theorem stp_fits {b : List Pl} {c d : List Int} (g : Good b) (hc : Fits c b) (h : d ∈ stp c 0 b) : Fits d b := by
  obtain ⟨i, p, m, h1, h2, rfl⟩ := stp_mem h
  have := ((g.pl p (List.mem_of_getElem? h1)).mv m h2).2
  rw [Nat.zero_add]
  exact fits_set hc h1 this.1 this.2
theorem ne_of_fits {b : List Pl} (g : Good b) {c : List Int} (h : Fits c b) : c ≠ [] := by
  rintro rfl
  have := fits_len h
  exact g.ne (List.eq_nil_of_length_eq_zero this.symm)
theorem stp_ne {b : List Pl} (g : Good b) {c : List Int} (h : Fits c b) : ∀ d ∈ stp c 0 b, d ≠ [] := fun d hd => ne_of_fits g (stp_fits g h hd)
end K17
end
noncomputable section
namespace K17
open PySem PySem.Spec PyProof.Rows L2 DL
theorem e_take : f_l_take = fTake := rfl
theorem e_some : f_l_some = fSome := rfl
theorem e_flat : f_l_flat = fFlat := rfl
theorem e_mixed : f_l_mixed = fMixed := rfl
theorem rng_e (n : Nat) : rngD 0 n = ((List.range n).map fun v : Nat => PyData.int v).map W.d := by
  unfold rngD
  rw [List.map_map]
  refine List.map_congr_left fun v _ => ?_
  simp
theorem sz_of {n : Nat} (h : n ≤ 1000000) : n ≤ sizeLine := Nat.le_trans h (by decide)
theorem add_tI {x : List Int} {v : Int} {S : Sto} (h : x.length ≤ 1000) : addA (.d (tI x)) (.d (.tuple [.int v])) S = some (.d (tI (x ++ [v])), S) := by
  have := ev_addT (S := S) (x := x.map PyData.int) (y := [.int v]) (by simp; exact sz_of (by omega))
  simpa [tI] using this
theorem add_tI2 {x y : List Int} {S : Sto} (h : x.length + y.length ≤ 1000) : addA (.d (tI x)) (.d (tI y)) S = some (.d (tI (x ++ y)), S) := by
  have := ev_addT (S := S) (x := x.map PyData.int) (y := y.map PyData.int) (by simp; exact sz_of (by omega))
  simpa [tI] using this
theorem row_e (acc : List (List Int)) (n : Nat) : (acc.map fun c => (List.range n).map fun v : Nat => tI (c ++ [(v : Int)])).flatten = (ext1 acc n).map tI := by
  unfold ext1
  rw [List.map_flatten, List.map_map]
  congr 1
  refine List.map_congr_left fun c _ => ?_
  simp
theorem contents_len {b : List Pl} {c : List Int} (h : c ∈ conts b) : c.length = b.length := fits_len ((mem_conts _ rfl).mp h)
theorem take_snoc {α : Type} {b : List α} {i : Nat} {p : α} (h : b[i]? = some p) : b.take (i + 1) = b.take i ++ [p] := by rw [List.take_succ, h]; rfl
theorem cont2_step {acc : List (List Int)} {p : Pl} {S : Sto} {b x y : Option W} (h1 : ∀ c ∈ acc, c.length ≤ 1000) (hn : p.1 ≤ 100) (ha : acc.length ≤ 1000000) (hl : acc.length * p.1 ≤ 1000000) :
    L_l_contents_1 [b, some (.d (.list (acc.map tI))), some (.d (pl p)), x, y] S = some (.nx, [b, some (.d (.list ((ext1 acc p.1).map tI))), some (.d (pl p)), x, y], S) := by
  have hr := fun S => rng1_ok (n := p.1) (S := S) (by omega)
  have := lc_e (it := iSeq (mVar 1)) (g := gSet 3) (T := tTrue) (E := mLc (iRng1D (mCons (mBin idxD (mVar 2) (mC (.int 0))) (mNil))) (gSet 4) (tTrue) (mBin addA (mVar 3) (mCall tupF (mCons (mVar 4) (mNil)))) [4] kFrz) (vs := [3]) (ρ := [b, some (.d (.list (acc.map tI))), some (.d (pl p)), x, y]) (S := S) tI (fun _ => true)
    (fun c => .list ((List.range p.1).map fun v : Nat => tI (c ++ [(v : Int)]))) (l := acc) (by simp [DL.sSeq, DL.sNil, DL.sPass, DL.sBreak, DL.sCont, DL.sExpr, DL.sRet, DL.sRetN, DL.sIf, DL.sAsg, DL.sPar, DL.sAug, DL.sAugS, DL.gSet, DL.gTupD, DL.gsNil, DL.gsCons, DL.gSubD, DL.sFor, DL.iRng1D_eq, DL.mVar, DL.mC, DL.mNil, DL.mCons, DL.mCall, DL.mBin, DL.mNeg, DL.mMt, DL.mSl, DL.oNo, DL.oYes, DL.tOf, DL.tNotD, DL.tAndD, DL.tOrD, DL.tTru, DL.truD, DL.tTrue, DL.vAnd, DL.vOr, DL.vNot, DL.vIf, DL.vChain, DL.tupF, DL.lstF, DL.allD, DL.ev_add, DL.ev_sub, DL.ev_iadd, DL.ev_isub, DL.ev_lt, DL.ev_gt, DL.ev_le, DL.ev_ge, DL.ev_eq, DL.ev_ne, DL.ev_min, DL.ev_max, DL.ev_int, DL.ev_abs, DL.sz1, DL.sz2, DL.sz3, DL.sz4, DL.sz5, DL.sz6, DL.sz7, DL.sz8, DL.szp, iSeq]) (fun c hc => by
      refine ⟨[b, some (.d (.list (acc.map tI))), some (.d (pl p)), some (.d (tI c)), y], by simp [DL.sSeq, DL.sNil, DL.sPass, DL.sBreak, DL.sCont, DL.sExpr, DL.sRet, DL.sRetN, DL.sIf, DL.sAsg, DL.sPar, DL.sAug, DL.sAugS, DL.gSet, DL.gTupD, DL.gsNil, DL.gsCons, DL.gSubD, DL.sFor, DL.iRng1D_eq, DL.mVar, DL.mC, DL.mNil, DL.mCons, DL.mCall, DL.mBin, DL.mNeg, DL.mMt, DL.mSl, DL.oNo, DL.oYes, DL.tOf, DL.tNotD, DL.tAndD, DL.tOrD, DL.tTru, DL.truD, DL.tTrue, DL.vAnd, DL.vOr, DL.vNot, DL.vIf, DL.vChain, DL.tupF, DL.lstF, DL.allD, DL.ev_add, DL.ev_sub, DL.ev_iadd, DL.ev_isub, DL.ev_lt, DL.ev_gt, DL.ev_le, DL.ev_ge, DL.ev_eq, DL.ev_ne, DL.ev_min, DL.ev_max, DL.ev_int, DL.ev_abs, DL.sz1, DL.sz2, DL.sz3, DL.sz4, DL.sz5, DL.sz6, DL.sz7, DL.sz8, DL.szp, wipeD], rfl, fun _ => ?_⟩
      have := lc_e (it := iRng1D (mCons (mBin idxD (mVar 2) (mC (.int 0))) (mNil))) (g := gSet 4) (T := tTrue) (E := mBin addA (mVar 3) (mCall tupF (mCons (mVar 4) (mNil)))) (vs := [4]) (ρ := [b, some (.d (.list (acc.map tI))), some (.d (pl p)), some (.d (tI c)), y]) (S := S) (fun v : Nat => PyData.int v) (fun _ => true) (fun v : Nat => tI (c ++ [(v : Int)])) (l := List.range p.1) (by
        rw [← rng_e]
        simp [DL.sSeq, DL.sNil, DL.sPass, DL.sBreak, DL.sCont, DL.sExpr, DL.sRet, DL.sRetN, DL.sIf, DL.sAsg, DL.sPar, DL.sAug, DL.sAugS, DL.gSet, DL.gTupD, DL.gsNil, DL.gsCons, DL.gSubD, DL.sFor, DL.iRng1D_eq, DL.mVar, DL.mC, DL.mNil, DL.mCons, DL.mCall, DL.mBin, DL.mNeg, DL.mMt, DL.mSl, DL.oNo, DL.oYes, DL.tOf, DL.tNotD, DL.tAndD, DL.tOrD, DL.tTru, DL.truD, DL.tTrue, DL.vAnd, DL.vOr, DL.vNot, DL.vIf, DL.vChain, DL.tupF, DL.lstF, DL.allD, DL.ev_add, DL.ev_sub, DL.ev_iadd, DL.ev_isub, DL.ev_lt, DL.ev_gt, DL.ev_le, DL.ev_ge, DL.ev_eq, DL.ev_ne, DL.ev_min, DL.ev_max, DL.ev_int, DL.ev_abs, DL.sz1, DL.sz2, DL.sz3, DL.sz4, DL.sz5, DL.sz6, DL.sz7, DL.sz8, DL.szp, pl, idxD, atI, ixN, hr]) (fun v _ => by
        refine ⟨[b, some (.d (.list (acc.map tI))), some (.d (pl p)), some (.d (tI c)), some (.d (.int v))], by simp [DL.sSeq, DL.sNil, DL.sPass, DL.sBreak, DL.sCont, DL.sExpr, DL.sRet, DL.sRetN, DL.sIf, DL.sAsg, DL.sPar, DL.sAug, DL.sAugS, DL.gSet, DL.gTupD, DL.gsNil, DL.gsCons, DL.gSubD, DL.sFor, DL.iRng1D_eq, DL.mVar, DL.mC, DL.mNil, DL.mCons, DL.mCall, DL.mBin, DL.mNeg, DL.mMt, DL.mSl, DL.oNo, DL.oYes, DL.tOf, DL.tNotD, DL.tAndD, DL.tOrD, DL.tTru, DL.truD, DL.tTrue, DL.vAnd, DL.vOr, DL.vNot, DL.vIf, DL.vChain, DL.tupF, DL.lstF, DL.allD, DL.ev_add, DL.ev_sub, DL.ev_iadd, DL.ev_isub, DL.ev_lt, DL.ev_gt, DL.ev_le, DL.ev_ge, DL.ev_eq, DL.ev_ne, DL.ev_min, DL.ev_max, DL.ev_int, DL.ev_abs, DL.sz1, DL.sz2, DL.sz3, DL.sz4, DL.sz5, DL.sz6, DL.sz7, DL.sz8, DL.szp, wipeD], rfl, fun _ => ?_⟩
        simp [DL.sSeq, DL.sNil, DL.sPass, DL.sBreak, DL.sCont, DL.sExpr, DL.sRet, DL.sRetN, DL.sIf, DL.sAsg, DL.sPar, DL.sAug, DL.sAugS, DL.gSet, DL.gTupD, DL.gsNil, DL.gsCons, DL.gSubD, DL.sFor, DL.iRng1D_eq, DL.mVar, DL.mC, DL.mNil, DL.mCons, DL.mCall, DL.mBin, DL.mNeg, DL.mMt, DL.mSl, DL.oNo, DL.oYes, DL.tOf, DL.tNotD, DL.tAndD, DL.tOrD, DL.tTru, DL.truD, DL.tTrue, DL.vAnd, DL.vOr, DL.vNot, DL.vIf, DL.vChain, DL.tupF, DL.lstF, DL.allD, DL.ev_add, DL.ev_sub, DL.ev_iadd, DL.ev_isub, DL.ev_lt, DL.ev_gt, DL.ev_le, DL.ev_ge, DL.ev_eq, DL.ev_ne, DL.ev_min, DL.ev_max, DL.ev_int, DL.ev_abs, DL.sz1, DL.sz2, DL.sz3, DL.sz4, DL.sz5, DL.sz6, DL.sz7, DL.sz8, DL.szp, add_tI (h1 c hc)]) (by
        rw [List.filter_eq_self.mpr fun _ _ => rfl, List.length_range]; exact sz_of (by omega))
      rwa [List.filter_eq_self.mpr fun _ _ => rfl] at this) (by
      rw [List.filter_eq_self.mpr fun _ _ => rfl]; exact sz_of ha)
  rw [List.filter_eq_self.mpr fun _ _ => rfl] at this
  have hf := flat_ok (acc.map fun c => (List.range p.1).map fun v : Nat => tI (c ++ [(v : Int)])) (by rw [row_e, List.length_map, ext1_len]; exact sz_of hl) S
  rw [row_e, List.map_map] at hf
  rw [L_l_contents_1]
  simp only [sAsg, mCall, mCons, mNil, this, Option.bind_some, e_flat]
  simp only [Function.comp_def] at hf
  rw [hf]
  simp [DL.sSeq, DL.sNil, DL.sPass, DL.sBreak, DL.sCont, DL.sExpr, DL.sRet, DL.sRetN, DL.sIf, DL.sAsg, DL.sPar, DL.sAug, DL.sAugS, DL.gSet, DL.gTupD, DL.gsNil, DL.gsCons, DL.gSubD, DL.sFor, DL.iRng1D_eq, DL.mVar, DL.mC, DL.mNil, DL.mCons, DL.mCall, DL.mBin, DL.mNeg, DL.mMt, DL.mSl, DL.oNo, DL.oYes, DL.tOf, DL.tNotD, DL.tAndD, DL.tOrD, DL.tTru, DL.truD, DL.tTrue, DL.vAnd, DL.vOr, DL.vNot, DL.vIf, DL.vChain, DL.tupF, DL.lstF, DL.allD, DL.ev_add, DL.ev_sub, DL.ev_iadd, DL.ev_isub, DL.ev_lt, DL.ev_gt, DL.ev_le, DL.ev_ge, DL.ev_eq, DL.ev_ne, DL.ev_min, DL.ev_max, DL.ev_int, DL.ev_abs, DL.sz1, DL.sz2, DL.sz3, DL.sz4, DL.sz5, DL.sz6, DL.sz7, DL.sz8, DL.szp]
theorem l_contents_ok {b : List Pl} (g : Good b) (S : Sto) : callF f_l_contents [.d (bn b)] S = some (.d (.list ((conts b).map tI)), S) := by
  refine callF_pure rfl (runF_ret0 ?_)
  obtain ⟨ρ', S', e, x, y, z, rfl⟩ := forL_J (g := gSet 2) (F := L_l_contents_1) (ws := (b.map pl).map W.d) (k := 0)
    (J := fun i ρ S => ∃ x y z, ρ = [some (.d (bn b)), some (.d (.list ((conts (b.take i)).map tI))), x, y, z]) (ρ := [some (.d (bn b)), some (.d (.list [tI []])), none, none, none]) (S := []) (fun i w ρ S hw ⟨x, y, z, e1⟩ => by
      subst e1
      simp only [List.getElem?_map, Option.map_eq_some_iff, Nat.zero_add] at hw ⊢
      obtain ⟨_, ⟨p, hp, rfl⟩, rfl⟩ := hw
      have gp := g.pl p (List.mem_of_getElem? hp)
      have hl := g.take i
      have e3 := cont2_step (p := p) (S := S) (b := some (.d (bn b))) (x := y) (y := z) (acc := conts (b.take i)) (fun c hc => by
        have := contents_len hc; have := g.len; rw [List.length_take] at *; omega) (by have := gp.hi; omega) (by omega) (by
        have := Nat.mul_le_mul hl gp.hi; omega)
      have e4 : ((gSet 2 (.d (pl p)) [some (.d (bn b)), some (.d (.list ((conts (b.take i)).map tI))), x, y, z] S).bind fun p => L_l_contents_1 p.1 p.2) = _ := Eq.trans (by simp [DL.sSeq, DL.sNil, DL.sPass, DL.sBreak, DL.sCont, DL.sExpr, DL.sRet, DL.sRetN, DL.sIf, DL.sAsg, DL.sPar, DL.sAug, DL.sAugS, DL.gSet, DL.gTupD, DL.gsNil, DL.gsCons, DL.gSubD, DL.sFor, DL.iRng1D_eq, DL.mVar, DL.mC, DL.mNil, DL.mCons, DL.mCall, DL.mBin, DL.mNeg, DL.mMt, DL.mSl, DL.oNo, DL.oYes, DL.tOf, DL.tNotD, DL.tAndD, DL.tOrD, DL.tTru, DL.truD, DL.tTrue, DL.vAnd, DL.vOr, DL.vNot, DL.vIf, DL.vChain, DL.tupF, DL.lstF, DL.allD, DL.ev_add, DL.ev_sub, DL.ev_iadd, DL.ev_isub, DL.ev_lt, DL.ev_gt, DL.ev_le, DL.ev_ge, DL.ev_eq, DL.ev_ne, DL.ev_min, DL.ev_max, DL.ev_int, DL.ev_abs, DL.sz1, DL.sz2, DL.sz3, DL.sz4, DL.sz5, DL.sz6, DL.sz7, DL.sz8, DL.szp]) e3
      exact ⟨_, _, e4, some (.d (pl p)), y, z, by rw [take_snoc hp, conts_snoc]⟩) ⟨none, none, none, by simp [conts]⟩
  simp only [Nat.zero_add, List.length_map, List.take_length] at e
  simp only [bn] at e ⊢
  simp [b_l_contents, DL.sSeq, DL.sNil, DL.sPass, DL.sBreak, DL.sCont, DL.sExpr, DL.sRet, DL.sRetN, DL.sIf, DL.sAsg, DL.sPar, DL.sAug, DL.sAugS, DL.gSet, DL.gTupD, DL.gsNil, DL.gsCons, DL.gSubD, DL.sFor, DL.iRng1D_eq, DL.mVar, DL.mC, DL.mNil, DL.mCons, DL.mCall, DL.mBin, DL.mNeg, DL.mMt, DL.mSl, DL.oNo, DL.oYes, DL.tOf, DL.tNotD, DL.tAndD, DL.tOrD, DL.tTru, DL.truD, DL.tTrue, DL.vAnd, DL.vOr, DL.vNot, DL.vIf, DL.vChain, DL.tupF, DL.lstF, DL.allD, DL.ev_add, DL.ev_sub, DL.ev_iadd, DL.ev_isub, DL.ev_lt, DL.ev_gt, DL.ev_le, DL.ev_ge, DL.ev_eq, DL.ev_ne, DL.ev_min, DL.ev_max, DL.ev_int, DL.ev_abs, DL.sz1, DL.sz2, DL.sz3, DL.sz4, DL.sz5, DL.sz6, DL.sz7, DL.sz8, DL.szp, iSeq]
  simp [tI] at e ⊢
  simp [e]
theorem cut_take {α : Type} (xs : List α) (k : Nat) : DL.cutD xs none (some (k : Int)) = xs.take k := by
  have h : HT.sIx xs.length 0 none = 0 := rfl
  unfold DL.cutD
  rw [h, HT.sIx_nat, List.drop_zero, Nat.sub_zero]
  by_cases hk : k ≤ xs.length
  · rw [Nat.min_eq_left hk]
  · rw [Nat.min_eq_right (by omega), List.take_length, List.take_of_length_le (by omega)]
theorem cut_drop {α : Type} (xs : List α) (k : Nat) : DL.cutD xs (some (k : Int)) none = xs.drop k := by
  have h : HT.sIx xs.length xs.length none = xs.length := rfl
  unfold DL.cutD
  rw [h, HT.sIx_nat]
  by_cases hk : k ≤ xs.length
  · rw [Nat.min_eq_left hk, List.take_of_length_le (by rw [List.length_drop]; omega)]
  · rw [Nat.min_eq_right (by omega), List.drop_eq_nil_of_le (by omega : xs.length ≤ k)]; simp
theorem sl_take {c : List Int} {k : Nat} {S : Sto} : sliceD (.d (tI c)) none (some (k : Int)) S = some (.d (tI (c.take k)), S) := by
  simp only [tI, sliceD, cut_take, List.map_take]
theorem sl_drop {c : List Int} {k : Nat} {S : Sto} : sliceD (.d (tI c)) (some ((k : Int) + 1)) none S = some (.d (tI (c.drop (k + 1))), S) := by
  have := cut_drop (c.map PyData.int) (k + 1)
  simp only [tI, sliceD]
  rw [show ((k : Int) + 1) = ((k + 1 : Nat) : Int) by omega, this, List.map_drop]
theorem idx_tI {c : List Int} {k : Nat} {S : Sto} (h : k < c.length) : idxD (.d (tI c)) (.d (.int (k : Nat))) S = some (.d (.int (c.getD k 0)), S) := by
  have := atI_nat (xs := c.map PyData.int) (j := k) (v := .int (c.getD k 0)) (by simp [h, List.getD])
  simp only [tI, idxD, this, Option.map_some]
theorem set_e {c : List Int} {k : Nat} {w : Int} (h : k < c.length) : c.take k ++ [w] ++ c.drop (k + 1) = c.set k w := by
  rw [List.set_eq_take_append_cons_drop, if_pos h]; simp
theorem set_ev {c : List Int} {k : Nat} {w : Int} {S : Sto} (h : k < c.length) (hl : c.length ≤ 500) : addA (.d (tI (c.take k ++ [w]))) (.d (tI (c.drop (k + 1)))) S = some (.d (tI (c.set k w)), S) := by
  rw [add_tI2 (by simp only [List.length_append, List.length_take, List.length_drop, List.length_cons, List.length_nil]; omega), set_e h]
theorem take_le {c : List Int} {k : Nat} (hl : c.length ≤ 500) : (c.take k).length ≤ 1000 := by rw [List.length_take]; omega
end K17
end
noncomputable section
namespace K17
open PySem PySem.Spec PyProof.Rows L2 DL
theorem stp_take {b : List Pl} {c : List Int} {i : Nat} {p : Pl} (h : b[i]? = some p) : stp c 0 (b.take (i + 1)) = stp c 0 (b.take i) ++ part c i p := by
  have hi := (List.getElem?_eq_some_iff.mp h).1
  rw [take_snoc h, stp_snoc, List.length_take, Nat.min_eq_left (by omega), Nat.zero_add]
theorem Good.stp_le {b : List Pl} (g : Good b) (c : List Int) (i : Nat) : (stp c 0 (b.take i)).length ≤ 180 := by
  have := stp_len c 0 (b.take i) fun p hp => (g.pl p (List.mem_of_mem_take hp)).len
  have := g.len; rw [List.length_take] at *; omega
theorem part_snoc (c : List Int) (k n : Nat) (ms : List Mv) (m : Mv) : part c k (n, ms ++ [m]) = part c k (n, ms) ++ (if m.1 = c.getD k 0 then [c.set k m.2] else []) := by
  unfold part
  generalize c.getD k 0 = v
  simp only [List.filter_append, List.map_append]
  by_cases h : m.1 = v <;> simp [h]
theorem rep_ev {x : PyData} {q : Prop} [Decidable q] {S : Sto} : repL (.d (.list [x])) (.d (.int (if q then 1 else 0))) S = some (.d (.list (if q then [x] else [])), S) := by
  by_cases h : q
  · simp only [repL, deref, Option.bind_some, if_pos h]
    rw [if_pos ⟨by decide, by decide, by show 1 * Int.toNat 1 ≤ sizeLine; decide⟩]; rfl
  · simp only [repL, deref, Option.bind_some, if_neg h]
    rw [if_pos ⟨by decide, by decide, by show 1 * Int.toNat 0 ≤ sizeLine; decide⟩]; rfl
theorem lstep1 {c : List Int} {k : Nat} {m : Mv} {acc : List (List Int)} {bb : Option W} (hk : k < c.length) (hl : c.length ≤ 500) (ha : acc.length ≤ 100000) :
    L_l_steps_1 [bb, some (.d (tI c)), some (.loc 0), some (.d (.int (k : Nat))), some (.d (.int m.1)), some (.d (.int m.2))] [.lst ((acc.map tI).map W.d)] = some (.nx, [bb, some (.d (tI c)), some (.loc 0), some (.d (.int (k : Nat))), some (.d (.int m.1)), some (.d (.int m.2))], [.lst (((acc ++ (if m.1 = c.getD k 0 then [c.set k m.2] else [])).map tI).map W.d)]) := by
  have hix := fun S => idx_tI (S := S) hk
  generalize c.getD k 0 = v at hix ⊢
  have hi : ∀ S, DL.intD [.d (.bool (decide (m.1 = v)))] S = some (.d (.int (if m.1 = v then 1 else 0)), S) := fun S => by simp [DL.intD, on1]
  have hlen : acc.length + 1 ≤ sizeLine := sz_of (by omega)
  have hlen0 : acc.length ≤ sizeLine := sz_of (by omega)
  have e := fun S => rep_ev (x := tI (c.set k m.2)) (q := m.1 = v) (S := S)
  unfold L_l_steps_1
  simp only [sExpr, mMt, mVar, List.getElem?_cons_succ, List.getElem?_cons_zero, Option.bind_some, isLst, if_true, mCons, mNil, mBin, mCall, mSl, oNo, oYes, mC, sl_take, sl_drop, tupF, lstF, allD, Option.map_some, List.length_cons, List.length_nil, ev_add, sz1, add_tI (take_le hl), set_ev hk hl, hix, ev_eq, hi, e, extendF, onL, deref, Nat.zero_add]
  by_cases h : m.1 = v
  · simp [h, hlen]
  · simp [h, hlen0]
theorem lstep2 {c : List Int} {b : List Pl} {k : Nat} {p : Pl} {acc : List (List Int)} {x y : Option W} (hb : b[k]? = some p) (hk : k < c.length) (hl : c.length ≤ 500) (ha : acc.length + p.2.length ≤ 100000) :
    ∃ x' y', L_l_steps_2 [some (.d (bn b)), some (.d (tI c)), some (.loc 0), some (.d (.int (k : Nat))), x, y] [.lst ((acc.map tI).map W.d)] = some (.nx, [some (.d (bn b)), some (.d (tI c)), some (.loc 0), some (.d (.int (k : Nat))), x', y'], [.lst (((acc ++ part c k p).map tI).map W.d)]) := by
  obtain ⟨ρ', S', e, x', y', rfl, rfl⟩ := forL_J (g := gTupD 2 (gsCons (gSet 4) (gsCons (gSet 5) (gsNil)))) (F := L_l_steps_1) (ws := (p.2.map mv).map W.d) (k := 0)
    (J := fun i ρ S => ∃ x y, ρ = [some (.d (bn b)), some (.d (tI c)), some (.loc 0), some (.d (.int (k : Nat))), x, y] ∧ S = [.lst (((acc ++ part c k (p.1, p.2.take i)).map tI).map W.d)]) (ρ := [some (.d (bn b)), some (.d (tI c)), some (.loc 0), some (.d (.int (k : Nat))), x, y]) (S := [.lst ((acc.map tI).map W.d)]) (fun i w ρ S hw ⟨x, y, e1, e2⟩ => by
      subst e1 e2
      simp only [List.getElem?_map, Option.map_eq_some_iff, Nat.zero_add] at hw ⊢
      obtain ⟨_, ⟨m, hm, rfl⟩, rfl⟩ := hw
      have hpl := part_len c k (p.1, p.2.take i)
      simp only [List.length_take] at hpl
      have e3 := lstep1 (c := c) (k := k) (m := m) (acc := acc ++ part c k (p.1, p.2.take i)) (bb := some (.d (bn b))) hk hl (by rw [List.length_append]; omega)
      refine ⟨_, _, Eq.trans (by simp [DL.sSeq, DL.sNil, DL.sPass, DL.sBreak, DL.sCont, DL.sExpr, DL.sRet, DL.sRetN, DL.sIf, DL.sAsg, DL.sPar, DL.sAug, DL.sAugS, DL.gSet, DL.gTupD, DL.gsNil, DL.gsCons, DL.gSubD, DL.sFor, DL.iRng1D_eq, DL.mVar, DL.mC, DL.mNil, DL.mCons, DL.mCall, DL.mBin, DL.mNeg, DL.mMt, DL.mSl, DL.oNo, DL.oYes, DL.tOf, DL.tNotD, DL.tAndD, DL.tOrD, DL.tTru, DL.truD, DL.tTrue, DL.vAnd, DL.vOr, DL.vNot, DL.vIf, DL.vChain, DL.tupF, DL.lstF, DL.allD, DL.ev_add, DL.ev_sub, DL.ev_iadd, DL.ev_isub, DL.ev_lt, DL.ev_gt, DL.ev_le, DL.ev_ge, DL.ev_eq, DL.ev_ne, DL.ev_min, DL.ev_max, DL.ev_int, DL.ev_abs, DL.sz1, DL.sz2, DL.sz3, DL.sz4, DL.sz5, DL.sz6, DL.sz7, DL.sz8, DL.szp, mv]) e3, _, _, rfl, ?_⟩
      rw [take_snoc hm, part_snoc, List.append_assoc]) ⟨x, y, rfl, by simp [part]⟩
  simp only [Nat.zero_add, List.length_map, List.take_length] at e
  have hat : atI (b.map pl) (k : Int) = some (pl p) := atI_nat (by simp [hb])
  refine ⟨x', y', ?_⟩
  unfold L_l_steps_2
  have hi : iSeq (mBin idxD (mBin idxD (mVar 0) (mVar 3)) (mC (.int 1))) [some (.d (bn b)), some (.d (tI c)), some (.loc 0), some (.d (.int (k : Nat))), x, y] [.lst ((acc.map tI).map W.d)] = some ((p.2.map mv).map W.d, [.lst ((acc.map tI).map W.d)]) := by
    have h1 : ∀ S, idxD (.d (bn b)) (.d (.int (k : Nat))) S = some (.d (pl p), S) := fun S => by simp [idxD, bn, hat]
    have h2 : ∀ S, idxD (.d (pl p)) (.d (.int 1)) S = some (.d (.tuple (p.2.map mv)), S) := fun S => rfl
    simp [iSeq, DL.sSeq, DL.sNil, DL.sPass, DL.sBreak, DL.sCont, DL.sExpr, DL.sRet, DL.sRetN, DL.sIf, DL.sAsg, DL.sPar, DL.sAug, DL.sAugS, DL.gSet, DL.gTupD, DL.gsNil, DL.gsCons, DL.gSubD, DL.sFor, DL.iRng1D_eq, DL.mVar, DL.mC, DL.mNil, DL.mCons, DL.mCall, DL.mBin, DL.mNeg, DL.mMt, DL.mSl, DL.oNo, DL.oYes, DL.tOf, DL.tNotD, DL.tAndD, DL.tOrD, DL.tTru, DL.truD, DL.tTrue, DL.vAnd, DL.vOr, DL.vNot, DL.vIf, DL.vChain, DL.tupF, DL.lstF, DL.allD, DL.ev_add, DL.ev_sub, DL.ev_iadd, DL.ev_isub, DL.ev_lt, DL.ev_gt, DL.ev_le, DL.ev_ge, DL.ev_eq, DL.ev_ne, DL.ev_min, DL.ev_max, DL.ev_int, DL.ev_abs, DL.sz1, DL.sz2, DL.sz3, DL.sz4, DL.sz5, DL.sz6, DL.sz7, DL.sz8, DL.szp, h1, h2]
  simp only [sFor, hi, Option.bind_some]
  exact e
theorem l_steps_ok {b : List Pl} {c : List Int} (g : Good b) (hc : Fits c b) (S : Sto) : callF f_l_steps [.d (bn b), .d (tI c)] S = some (.d (.list (sortT (stp c 0 b))), S) := by
  refine callF_pure rfl (runF_ret0 ?_)
  have cl := fits_len hc
  have bl := g.len
  obtain ⟨ρ', S', e, x, y, z, rfl, rfl⟩ := forL_rng (g := gSet 3) (F := L_l_steps_2) (lo := 0) (n := b.length)
    (J := fun i ρ S => ∃ x y z, ρ = [some (.d (bn b)), some (.d (tI c)), some (.loc 0), x, y, z] ∧ S = [.lst (((stp c 0 (b.take i)).map tI).map W.d)]) (ρ := [some (.d (bn b)), some (.d (tI c)), some (.loc 0), none, none, none]) (S := [.lst []]) (fun i ρ S hi ⟨x, y, z, e1, e2⟩ => by
      subst e1 e2
      have hp : b[i]? = some b[i] := List.getElem?_eq_getElem hi
      have gp := g.pl b[i] (List.getElem_mem hi)
      obtain ⟨x', y', e3⟩ := lstep2 (c := c) (b := b) (k := i) (acc := stp c 0 (b.take i)) (x := y) (y := z) hp (by omega) (by omega) (by have := gp.len; have := g.stp_le c i; omega)
      refine ⟨_, _, Eq.trans (by simp [DL.sSeq, DL.sNil, DL.sPass, DL.sBreak, DL.sCont, DL.sExpr, DL.sRet, DL.sRetN, DL.sIf, DL.sAsg, DL.sPar, DL.sAug, DL.sAugS, DL.gSet, DL.gTupD, DL.gsNil, DL.gsCons, DL.gSubD, DL.sFor, DL.iRng1D_eq, DL.mVar, DL.mC, DL.mNil, DL.mCons, DL.mCall, DL.mBin, DL.mNeg, DL.mMt, DL.mSl, DL.oNo, DL.oYes, DL.tOf, DL.tNotD, DL.tAndD, DL.tOrD, DL.tTru, DL.truD, DL.tTrue, DL.vAnd, DL.vOr, DL.vNot, DL.vIf, DL.vChain, DL.tupF, DL.lstF, DL.allD, DL.ev_add, DL.ev_sub, DL.ev_iadd, DL.ev_isub, DL.ev_lt, DL.ev_gt, DL.ev_le, DL.ev_ge, DL.ev_eq, DL.ev_ne, DL.ev_min, DL.ev_max, DL.ev_int, DL.ev_abs, DL.sz1, DL.sz2, DL.sz3, DL.sz4, DL.sz5, DL.sz6, DL.sz7, DL.sz8, DL.szp]) e3, _, _, _, rfl, ?_⟩
      rw [stp_take hp]) ⟨none, none, none, rfl, by simp [stp]⟩
  rw [List.take_length] at e
  have hs := sorted_ev (l := stp c 0 b) (S := [.lst (((stp c 0 b).map tI).map W.d)]) (w := .loc 0) (stp_ne g hc) (by simp only [deref, List.getElem?_cons_zero, allD_map, Option.map_some])
  have hr := fun S => rng1_ok (n := b.length) (S := S) (by omega)
  refine ⟨[some (.d (bn b)), some (.d (tI c)), some (.loc 0), x, y, z], [.lst (((stp c 0 b).map tI).map W.d)], ?_⟩
  simp only [bn] at e ⊢
  simp [b_l_steps, DL.sSeq, DL.sNil, DL.sPass, DL.sBreak, DL.sCont, DL.sExpr, DL.sRet, DL.sRetN, DL.sIf, DL.sAsg, DL.sPar, DL.sAug, DL.sAugS, DL.gSet, DL.gTupD, DL.gsNil, DL.gsCons, DL.gSubD, DL.sFor, DL.iRng1D_eq, DL.mVar, DL.mC, DL.mNil, DL.mCons, DL.mCall, DL.mBin, DL.mNeg, DL.mMt, DL.mSl, DL.oNo, DL.oYes, DL.tOf, DL.tNotD, DL.tAndD, DL.tOrD, DL.tTru, DL.truD, DL.tTrue, DL.vAnd, DL.vOr, DL.vNot, DL.vIf, DL.vChain, DL.tupF, DL.lstF, DL.allD, DL.ev_add, DL.ev_sub, DL.ev_iadd, DL.ev_isub, DL.ev_lt, DL.ev_gt, DL.ev_le, DL.ev_ge, DL.ev_eq, DL.ev_ne, DL.ev_min, DL.ev_max, DL.ev_int, DL.ev_abs, DL.sz1, DL.sz2, DL.sz3, DL.sz4, DL.sz5, DL.sz6, DL.sz7, DL.sz8, DL.szp, lstB, lenD, on1, len0, hr]
  simp at e hs
  rw [e]
  simp [hs]
end K17
end
noncomputable section
namespace K17
open PySem PySem.Spec PyProof.Rows L2 DL
theorem nice_c {b : List Pl} {c : List Int} (g : Good b) (h : Fits c b) (dp : Nat) : Nice 8 30 (dp + 1) (tI c) := by
  have hl := fits_len h
  have := g.len
  refine Nice.up (w := (5 + 1) * (c.map PyData.int).length) (niceTup (niceAll_of fun d hd => ?_)) (by rw [List.length_map]; omega) (Nat.le_refl _)
  obtain ⟨x, hx, rfl⟩ := List.mem_map.mp hd
  obtain ⟨k, hk, ek⟩ := List.getElem_of_mem hx
  have hb : b[k]? = some (b[k]'(by omega)) := List.getElem?_eq_getElem _
  obtain ⟨y, hy, h0, h1⟩ := fits_get h hb
  have : y = x := by rw [List.getElem?_eq_getElem hk, ek] at hy; exact (Option.some.inj hy).symm
  subst this
  have := (g.pl _ (List.mem_of_getElem? hb)).hi
  exact niceInt (k := 1) (by omega) (by decide) (by decide) (by decide)
theorem nice_pl {p : Pl} (g : GoodP p) : Nice 8 475 3 (pl p) := by
  have h1 : NiceAll 8 ((12 + 1) * (p.2.map mv).length) 1 (p.2.map mv) := niceAll_of fun d hd => by
    obtain ⟨m, hm, rfl⟩ := List.mem_map.mp hd
    have := g.mv m hm
    have := g.hi
    exact niceTup (niceCons (w := 5) (w' := 6) (niceInt (k := 1) (by omega) (by decide) (by decide) (by decide)) (niceCons (w := 5) (w' := 0) (niceInt (k := 1) (by omega) (by decide) (by decide) (by decide)) niceNil))
  rw [List.length_map] at h1
  have h2 := g.len; have h3 := g.hi
  have : Nice 8 (5 + 1 + ((12 + 1) * p.2.length + 1 + 0)) (2 + 1) (pl p) := niceTup (niceCons (niceInt (k := 1) (by omega) (by decide) (by decide) (by decide)) (niceCons (niceTup h1) niceNil))
  exact this.up (by omega) (Nat.le_refl _)
theorem nice_bn {b : List Pl} (g : Good b) : Nice 8 2380 4 (bn b) := by
  have h1 : NiceAll 8 ((475 + 1) * (b.map pl).length) 3 (b.map pl) := niceAll_of fun d hd => by
    obtain ⟨p, hp, rfl⟩ := List.mem_map.mp hd
    exact nice_pl (g.pl p hp)
  rw [List.length_map] at h1
  have := g.len
  exact (niceTup h1).up (by omega) (Nat.le_refl _)
def kc (c : List Int) : List Key := c.map Sum.inl
theorem keys_tI (c : List Int) : keysD (c.map PyData.int) = some (kc c) := by
  induction c with
  | nil => rfl
  | cons x c ih => simp [keysD, keyD, ih, kc]
theorem keysE_tI {c : List Int} (h : c ≠ []) : keysE (c.map PyData.int) = some (kc c) := by
  cases c with
  | nil => exact absurd rfl h
  | cons x c => exact keys_tI (x :: c)
theorem kc_inj {a b : List Int} (h : kc a = kc b) : a = b := by
  induction a generalizing b with
  | nil =>
    cases b with
    | nil => rfl
    | cons y b => simp [kc] at h
  | cons x a ih =>
    cases b with
    | nil => simp [kc] at h
    | cons y b =>
      simp only [kc, List.map_cons, List.cons.injEq] at h
      rw [ih h.2, Sum.inl.inj h.1]
def every (n : Nat) : List Mv := ((List.range n).map fun v : Nat => ((List.range n).filter fun w : Nat => !decide (w = v)).map fun w : Nat => ((v : Int), (w : Int))).flatten
abbrev SM (a b : Mv) : Prop := ltC (cI [a.1, a.2]) (cI [b.1, b.2]) = true
theorem lex_SM {a b : Mv} (h : a.1 < b.1 ∨ a.1 = b.1 ∧ a.2 < b.2) : SM a b := by
  have e : cmpC (cI [a.1, a.2]) (cI [b.1, b.2]) = .lt := by
    simp only [cI, List.map_cons, List.map_nil, cmpC, cmpCs]
    rcases h with h | ⟨h, k⟩
    · rw [cmpI2_lt.mpr h]
    · rw [cmpI2_eq.mpr h, cmpI2_lt.mpr k]
  exact ltC_iff.mpr e
theorem cI_inj0 {a b : List Int} (h : cI a = cI b) : a = b := by
  have : a.map Cd.int = b.map Cd.int := by injection h
  exact (List.map_inj_right (fun x y e => by injection e)).mp this
theorem sortT_asc {l r : List (List Int)} (hr : r.Perm l) (e : sortT l = r.map tI) (hn : l.Nodup) : r.Pairwise fun x y => ltC (cI x) (cI y) = true := by
  obtain ⟨r2, hr2, e2⟩ := perm_map_ex (sortC_perm (l.map cI))
  have h2 : sortT l = r2.map tI := by
    unfold sortT
    rw [e2, toPs_map, List.map_map]
    exact List.map_congr_left fun a ha => (ofP_eq _ _ (ofP_tI a)).symm
  have h3 : r = r2 := by
    have := e.symm.trans h2
    refine (List.map_inj_right (fun x y z => ?_)).mp this
    have : x.map PyData.int = y.map PyData.int := by
      have z : PyData.tuple (x.map .int) = .tuple (y.map .int) := z
      injection z
    exact (List.map_inj_right (fun x y e => by injection e)).mp this
  subst h3
  have hs := sortC_srtd (l.map cI)
  rw [e2, List.pairwise_map] at hs
  have hn2 : r.Nodup := hr.nodup_iff.mpr hn
  refine (List.Pairwise.and hn2 hs).imp fun {x y} ⟨h1, h2⟩ => ?_
  rcases ltC_tot h2 with c | c
  · exact absurd (cI_inj0 c).symm h1
  · exact c
theorem good_sub {n : Nat} {l : List Mv} (h1 : 2 ≤ n) (h2 : n ≤ 6) (hl : l.length ≤ 36) (h : ∀ m ∈ l, m ∈ every n) (ha : l.Pairwise SM) : GoodP (n, l) := by
  suffices k : ∀ m ∈ l, ((0 ≤ m.1 ∧ m.1 < (n : Int)) ∧ (0 ≤ m.2 ∧ m.2 < (n : Int))) ∧ m.1 ≠ m.2 from ⟨h1, h2, hl, fun m hm => (k m hm).1, ha, fun m hm => (k m hm).2⟩
  intro m hm
  have := h m hm
  unfold every at this
  obtain ⟨a, ha, hb⟩ := List.mem_flatten.mp this
  obtain ⟨v, hv, rfl⟩ := List.mem_map.mp ha
  obtain ⟨w, hw, rfl⟩ := List.mem_map.mp hb
  have := List.mem_range.mp hv
  have := List.mem_range.mp (List.mem_filter.mp hw).1
  have : ¬ w = v := by simpa using (List.mem_filter.mp hw).2
  simp only
  omega
theorem every_len {n : Nat} (h : n ≤ 6) : (every n).length ≤ 36 := by
  have : n = 0 ∨ n = 1 ∨ n = 2 ∨ n = 3 ∨ n = 4 ∨ n = 5 ∨ n = 6 := by omega
  rcases this with rfl | rfl | rfl | rfl | rfl | rfl | rfl <;> decide +kernel
theorem every_asc {n : Nat} (h : n ≤ 6) : (every n).Pairwise SM := by
  have k : (every n).Pairwise fun a b => a.1 < b.1 ∨ a.1 = b.1 ∧ a.2 < b.2 := by
    have : n = 0 ∨ n = 1 ∨ n = 2 ∨ n = 3 ∨ n = 4 ∨ n = 5 ∨ n = 6 := by omega
    rcases this with rfl | rfl | rfl | rfl | rfl | rfl | rfl <;> decide +kernel
  exact k.imp lex_SM
theorem every_nd {n : Nat} (h : n ≤ 6) : ((every n).map fun q => [q.1, q.2]).Nodup := by
  rw [List.nodup_iff_pairwise_ne, List.pairwise_map]
  exact (every_asc h).imp fun {a b} k e => by
    unfold SM at k
    rw [e, ltC_irr] at k; cases k
theorem mvs_tI (l : List Mv) : l.map mv = (l.map fun q => [q.1, q.2]).map tI := by rw [List.map_map]; rfl
theorem ev_in2 {i a b : Int} {S : Sto} : inA false (.d (.int i)) (.d (.tuple [.int a, .int b])) S = some (.d (.bool (decide (i ∈ [a, b]))), S) := ev_inI (xs := [a, b])
/-- [(v, w) for v, w in every if ..] -/
theorem pick_ok {l : List Mv} {T : MT} {P : Mv → Bool} {ρ : DEnv} {S : Sto} {z0 z1 z2 z3 z5 z6 : Option W} (hl : l.length ≤ 1000) (hρ : ρ = [z0, z1, z2, z3, some (.d (.list (l.map mv))), z5, z6])
    (hT : ∀ m ∈ l, T [z0, z1, z2, z3, some (.d (.list (l.map mv))), some (.d (.int m.1)), some (.d (.int m.2))] S = some (P m, S)) :
    mLc (iSeq (mVar 4)) (gTupD 2 (gsCons (gSet 5) (gsCons (gSet 6) (gsNil)))) T (mCall tupF (mCons (mVar 5) (mCons (mVar 6) (mNil)))) [5, 6] kFrz ρ S = some (.d (.list ((l.filter P).map mv)), S) := by
  subst hρ
  refine lc_e mv P mv (l := l) (by simp [iSeq, mVar]) (fun m hm => ⟨[z0, z1, z2, z3, some (.d (.list (l.map mv))), some (.d (.int m.1)), some (.d (.int m.2))], by simp [DL.sSeq, DL.sNil, DL.sPass, DL.sBreak, DL.sCont, DL.sExpr, DL.sRet, DL.sRetN, DL.sIf, DL.sAsg, DL.sPar, DL.sAug, DL.sAugS, DL.gSet, DL.gTupD, DL.gsNil, DL.gsCons, DL.gSubD, DL.sFor, DL.iRng1D_eq, DL.mVar, DL.mC, DL.mNil, DL.mCons, DL.mCall, DL.mBin, DL.mNeg, DL.mMt, DL.mSl, DL.oNo, DL.oYes, DL.tOf, DL.tNotD, DL.tAndD, DL.tOrD, DL.tTru, DL.truD, DL.tTrue, DL.vAnd, DL.vOr, DL.vNot, DL.vIf, DL.vChain, DL.tupF, DL.lstF, DL.allD, DL.ev_add, DL.ev_sub, DL.ev_iadd, DL.ev_isub, DL.ev_lt, DL.ev_gt, DL.ev_le, DL.ev_ge, DL.ev_eq, DL.ev_ne, DL.ev_min, DL.ev_max, DL.ev_int, DL.ev_abs, DL.sz1, DL.sz2, DL.sz3, DL.sz4, DL.sz5, DL.sz6, DL.sz7, DL.sz8, DL.szp, wipeD, mv], hT m hm, fun _ => by simp [DL.sSeq, DL.sNil, DL.sPass, DL.sBreak, DL.sCont, DL.sExpr, DL.sRet, DL.sRetN, DL.sIf, DL.sAsg, DL.sPar, DL.sAug, DL.sAugS, DL.gSet, DL.gTupD, DL.gsNil, DL.gsCons, DL.gSubD, DL.sFor, DL.iRng1D_eq, DL.mVar, DL.mC, DL.mNil, DL.mCons, DL.mCall, DL.mBin, DL.mNeg, DL.mMt, DL.mSl, DL.oNo, DL.oYes, DL.tOf, DL.tNotD, DL.tAndD, DL.tOrD, DL.tTru, DL.truD, DL.tTrue, DL.vAnd, DL.vOr, DL.vNot, DL.vIf, DL.vChain, DL.tupF, DL.lstF, DL.allD, DL.ev_add, DL.ev_sub, DL.ev_iadd, DL.ev_isub, DL.ev_lt, DL.ev_gt, DL.ev_le, DL.ev_ge, DL.ev_eq, DL.ev_ne, DL.ev_min, DL.ev_max, DL.ev_int, DL.ev_abs, DL.sz1, DL.sz2, DL.sz3, DL.sz4, DL.sz5, DL.sz6, DL.sz7, DL.sz8, DL.szp, mv]⟩) (Nat.le_trans (List.length_filter_le _ _) (sz_of (by omega)))
theorem every_ok {n : Nat} {z0 z1 z3 z4 z5 z6 : Option W} (hn : n ≤ 6) (S : Sto) :
    sAsg (mCall (callF f_l_flat) (mCons (mLc (iRng1D (mCons (mVar 2) (mNil))) (gSet 5) (tTrue) (mLc (iRng1D (mCons (mVar 2) (mNil))) (gSet 6) (tOf (mBin (eqA true) (mVar 6) (mVar 5))) (mCall tupF (mCons (mVar 5) (mCons (mVar 6) (mNil)))) [6] kFrz) [5] kFrz) (mNil))) (gSet 4) [z0, z1, some (.d (.int n)), z3, z4, z5, z6] S =
      some (.nx, [z0, z1, some (.d (.int n)), z3, some (.d (.list ((every n).map mv))), z5, z6], S) := by
  have hr := fun S => rng1_ok (n := n) (S := S) (by omega)
  have hi : ∀ (z5 z6 : Option W) S, iRng1D (mCons (mVar 2) (mNil)) [z0, z1, some (.d (.int n)), z3, z4, z5, z6] S = some (((List.range n).map fun v : Nat => PyData.int v).map W.d, S) := fun z5 z6 S => by
    rw [← rng_e, iRng1D_eq]
    simp [mCons, mVar, mNil, hr]
  have e := lc_e (it := iRng1D (mCons (mVar 2) (mNil))) (g := gSet 5) (T := tTrue) (E := mLc (iRng1D (mCons (mVar 2) (mNil))) (gSet 6) (tOf (mBin (eqA true) (mVar 6) (mVar 5))) (mCall tupF (mCons (mVar 5) (mCons (mVar 6) (mNil)))) [6] kFrz) (vs := [5]) (ρ := [z0, z1, some (.d (.int n)), z3, z4, z5, z6]) (S := S) (fun v : Nat => PyData.int v) (fun _ => true)
    (fun v => .list ((((List.range n).filter fun w : Nat => !decide (w = v)).map fun w : Nat => ((v : Int), (w : Int))).map mv)) (l := List.range n) (hi z5 z6 S) (fun v _ => by
      refine ⟨[z0, z1, some (.d (.int n)), z3, z4, some (.d (.int v)), z6], by simp [DL.sSeq, DL.sNil, DL.sPass, DL.sBreak, DL.sCont, DL.sExpr, DL.sRet, DL.sRetN, DL.sIf, DL.sAsg, DL.sPar, DL.sAug, DL.sAugS, DL.gSet, DL.gTupD, DL.gsNil, DL.gsCons, DL.gSubD, DL.sFor, DL.iRng1D_eq, DL.mVar, DL.mC, DL.mNil, DL.mCons, DL.mCall, DL.mBin, DL.mNeg, DL.mMt, DL.mSl, DL.oNo, DL.oYes, DL.tOf, DL.tNotD, DL.tAndD, DL.tOrD, DL.tTru, DL.truD, DL.tTrue, DL.vAnd, DL.vOr, DL.vNot, DL.vIf, DL.vChain, DL.tupF, DL.lstF, DL.allD, DL.ev_add, DL.ev_sub, DL.ev_iadd, DL.ev_isub, DL.ev_lt, DL.ev_gt, DL.ev_le, DL.ev_ge, DL.ev_eq, DL.ev_ne, DL.ev_min, DL.ev_max, DL.ev_int, DL.ev_abs, DL.sz1, DL.sz2, DL.sz3, DL.sz4, DL.sz5, DL.sz6, DL.sz7, DL.sz8, DL.szp, wipeD], rfl, fun _ => ?_⟩
      have := lc_e (it := iRng1D (mCons (mVar 2) (mNil))) (g := gSet 6) (T := tOf (mBin (eqA true) (mVar 6) (mVar 5))) (E := mCall tupF (mCons (mVar 5) (mCons (mVar 6) (mNil)))) (vs := [6]) (ρ := [z0, z1, some (.d (.int n)), z3, z4, some (.d (.int v)), z6]) (S := S) (fun w : Nat => PyData.int w) (fun w => !decide (w = v)) (fun w => mv ((v : Int), (w : Int))) (l := List.range n) (hi _ z6 S) (fun w _ => by
        refine ⟨[z0, z1, some (.d (.int n)), z3, z4, some (.d (.int v)), some (.d (.int w))], by simp [DL.sSeq, DL.sNil, DL.sPass, DL.sBreak, DL.sCont, DL.sExpr, DL.sRet, DL.sRetN, DL.sIf, DL.sAsg, DL.sPar, DL.sAug, DL.sAugS, DL.gSet, DL.gTupD, DL.gsNil, DL.gsCons, DL.gSubD, DL.sFor, DL.iRng1D_eq, DL.mVar, DL.mC, DL.mNil, DL.mCons, DL.mCall, DL.mBin, DL.mNeg, DL.mMt, DL.mSl, DL.oNo, DL.oYes, DL.tOf, DL.tNotD, DL.tAndD, DL.tOrD, DL.tTru, DL.truD, DL.tTrue, DL.vAnd, DL.vOr, DL.vNot, DL.vIf, DL.vChain, DL.tupF, DL.lstF, DL.allD, DL.ev_add, DL.ev_sub, DL.ev_iadd, DL.ev_isub, DL.ev_lt, DL.ev_gt, DL.ev_le, DL.ev_ge, DL.ev_eq, DL.ev_ne, DL.ev_min, DL.ev_max, DL.ev_int, DL.ev_abs, DL.sz1, DL.sz2, DL.sz3, DL.sz4, DL.sz5, DL.sz6, DL.sz7, DL.sz8, DL.szp, wipeD], ?_, fun _ => by simp [DL.sSeq, DL.sNil, DL.sPass, DL.sBreak, DL.sCont, DL.sExpr, DL.sRet, DL.sRetN, DL.sIf, DL.sAsg, DL.sPar, DL.sAug, DL.sAugS, DL.gSet, DL.gTupD, DL.gsNil, DL.gsCons, DL.gSubD, DL.sFor, DL.iRng1D_eq, DL.mVar, DL.mC, DL.mNil, DL.mCons, DL.mCall, DL.mBin, DL.mNeg, DL.mMt, DL.mSl, DL.oNo, DL.oYes, DL.tOf, DL.tNotD, DL.tAndD, DL.tOrD, DL.tTru, DL.truD, DL.tTrue, DL.vAnd, DL.vOr, DL.vNot, DL.vIf, DL.vChain, DL.tupF, DL.lstF, DL.allD, DL.ev_add, DL.ev_sub, DL.ev_iadd, DL.ev_isub, DL.ev_lt, DL.ev_gt, DL.ev_le, DL.ev_ge, DL.ev_eq, DL.ev_ne, DL.ev_min, DL.ev_max, DL.ev_int, DL.ev_abs, DL.sz1, DL.sz2, DL.sz3, DL.sz4, DL.sz5, DL.sz6, DL.sz7, DL.sz8, DL.szp, mv]⟩
        simp [DL.sSeq, DL.sNil, DL.sPass, DL.sBreak, DL.sCont, DL.sExpr, DL.sRet, DL.sRetN, DL.sIf, DL.sAsg, DL.sPar, DL.sAug, DL.sAugS, DL.gSet, DL.gTupD, DL.gsNil, DL.gsCons, DL.gSubD, DL.sFor, DL.iRng1D_eq, DL.mVar, DL.mC, DL.mNil, DL.mCons, DL.mCall, DL.mBin, DL.mNeg, DL.mMt, DL.mSl, DL.oNo, DL.oYes, DL.tOf, DL.tNotD, DL.tAndD, DL.tOrD, DL.tTru, DL.truD, DL.tTrue, DL.vAnd, DL.vOr, DL.vNot, DL.vIf, DL.vChain, DL.tupF, DL.lstF, DL.allD, DL.ev_add, DL.ev_sub, DL.ev_iadd, DL.ev_isub, DL.ev_lt, DL.ev_gt, DL.ev_le, DL.ev_ge, DL.ev_eq, DL.ev_ne, DL.ev_min, DL.ev_max, DL.ev_int, DL.ev_abs, DL.sz1, DL.sz2, DL.sz3, DL.sz4, DL.sz5, DL.sz6, DL.sz7, DL.sz8, DL.szp]; omega) (Nat.le_trans (List.length_filter_le _ _) (by rw [List.length_range]; exact sz_of (by omega)))
      rw [this, List.map_map]; rfl) (by
      rw [List.filter_eq_self.mpr fun _ _ => rfl, List.length_range]
      exact sz_of (by omega))
  rw [List.filter_eq_self.mpr fun _ _ => rfl] at e
  have hm : ((List.range n).map fun v : Nat => (((List.range n).filter fun w : Nat => !decide (w = v)).map fun w : Nat => ((v : Int), (w : Int))).map mv).flatten = (every n).map mv := by
    unfold every
    rw [List.map_flatten, List.map_map]; rfl
  have hf := flat_ok ((List.range n).map fun v : Nat => (((List.range n).filter fun w : Nat => !decide (w = v)).map fun w : Nat => ((v : Int), (w : Int))).map mv) (by
    rw [hm, List.length_map]; exact sz_of (by have := every_len hn; omega)) S
  rw [hm, List.map_map] at hf
  simp only [Function.comp_def] at hf
  simp only [sAsg, mCall, mCons, mNil, e, Option.bind_some, e_flat, hf]
  simp [gSet]
/-- the places' end -/
theorem tup_ok {n : Nat} {l : List Mv} {A : ME} {ρ : DEnv} {S S1 : Sto} (h2 : ρ[2]? = some (some (.d (.int n)))) (h : A ρ S = some (.d (.list (l.map mv)), S1)) :
    sRet (mCall tupF (mCons (mVar 2) (mCons (mCall tupleD (mCons A (mNil))) (mNil)))) ρ S = some (.rt (.d (pl (n, l))), ρ, S1) := by
  simp only [sRet, mCall, mCons, mNil, mVar, h2, Option.bind_some, h, tupleD, on1, deref, tupF, allD, Option.map_some, List.length_cons, List.length_nil]
  rw [if_pos (show 0 + 1 + 1 ≤ sizeLine from sz2)]
  rfl
theorem if_t {T : MT} {F G : MS} {ρ : DEnv} {S : Sto} (h : T ρ S = some (true, S)) : sIf T F G ρ S = F ρ S := by simp [sIf, h]
theorem if_f {T : MT} {F G : MS} {ρ : DEnv} {S : Sto} (h : T ρ S = some (false, S)) : sIf T F G ρ S = G ρ S := by simp [sIf, h]
def ways : List Int := [0, 0, 0, 2, 2, 4, 4, 2, 5, 6, 7]
theorem place_ok {c n : Nat} {most : Int} {ob : Ob} {S : Sto} (hS : S[n]? = some ob) (hb : BagOk c ob) (hc : c + 100 < 2 ^ 1000) (h2 : 2 ≤ most) (h6 : most ≤ 6) :
    ∃ p ob', callF f_l_place [.loc n, .d (.int most)] S = some (.d (pl p), S.set n ob') ∧ GoodP p ∧ BagOk (c + 50) ob' := by
  obtain ⟨v, ob1, e1, v0, v1, hb1⟩ := take_ok (S := [ob]) (n := 0) (upto := most - 1) rfl hb (by omega) (by omega) (by
    have : (most - 1).natAbs.log2 ≤ 3 := lg_le (by omega)
    omega)
  obtain ⟨x, hx, ob2, e2, hb2⟩ := some_ok (S := [ob1]) (n := 0) (xs := ways.map .int) rfl hb1 (by omega) (by decide) (by decide)
  obtain ⟨way, hway, rfl⟩ := List.mem_map.mp hx
  obtain ⟨m, hm⟩ : ∃ m : Nat, 2 + v = m := ⟨(2 + v).toNat, by omega⟩
  have hm2 : 2 ≤ m := by omega
  have hm6 : m ≤ 6 := by omega
  have el := every_len hm6
  have hlw : ([PyData.int 0, .int 0, .int 0, .int 2, .int 2, .int 4, .int 4, .int 2, .int 5, .int 6, .int 7] : List PyData) = ways.map .int := rfl
  have hend : ∀ (l : List Mv) (ob3 : Ob), BagOk (c + 50) ob3 → GoodP (m, l) → (∃ ρ' S', b_l_place [some (.loc 0), some (.d (.int most)), none, none, none, none, none] [ob] = some (.rt (.d (pl (m, l))), ρ', ob3 :: S')) →
      ∃ p ob', callF f_l_place [.loc n, .d (.int most)] S = some (.d (pl p), S.set n ob') ∧ GoodP p ∧ BagOk (c + 50) ob' := fun l ob3 h3 hg ⟨ρ', S', h⟩ =>
    ⟨(m, l), ob3, callF_loc (n := n) rfl (by simp [allLoc]) hS hb.obD (runF_ret1 ⟨ρ', S', h⟩ h3.obD) h3.obD, hg, h3⟩
  have st : ∀ R : MS, sSeq (sAsg (mBin addA (mC (.int 2)) (mCall (callF f_l_take) (mCons (mVar 0) (mCons (mBin subD (mVar 1) (mC (.int 1))) (mNil))))) (gSet 2))
      (sSeq (sAsg (mCall (callF f_l_some) (mCons (mVar 0) (mCons (mCall lstF (mCons (mC (.int 0)) (mCons (mC (.int 0)) (mCons (mC (.int 0)) (mCons (mC (.int 2)) (mCons (mC (.int 2)) (mCons (mC (.int 4)) (mCons (mC (.int 4)) (mCons (mC (.int 2)) (mCons (mC (.int 5)) (mCons (mC (.int 6)) (mCons (mC (.int 7)) (mNil))))))))))))) (mNil)))) (gSet 3))
      (sSeq (sAsg (mCall (callF f_l_flat) (mCons (mLc (iRng1D (mCons (mVar 2) (mNil))) (gSet 5) (tTrue) (mLc (iRng1D (mCons (mVar 2) (mNil))) (gSet 6) (tOf (mBin (eqA true) (mVar 6) (mVar 5))) (mCall tupF (mCons (mVar 5) (mCons (mVar 6) (mNil)))) [6] kFrz) [5] kFrz) (mNil))) (gSet 4)) R)) [some (.loc 0), some (.d (.int most)), none, none, none, none, none] [ob] =
      R [some (.loc 0), some (.d (.int most)), some (.d (.int m)), some (.d (.int way)), some (.d (.list ((every m).map mv))), none, none] [ob2] := fun R => by
    simp only [List.set_cons_zero] at e1 e2
    rw [seq_nx (ρ1 := [some (.loc 0), some (.d (.int most)), some (.d (.int m)), none, none, none, none]) (S1 := [ob1]) (by
      simp [DL.sSeq, DL.sNil, DL.sPass, DL.sBreak, DL.sCont, DL.sExpr, DL.sRet, DL.sRetN, DL.sIf, DL.sAsg, DL.sPar, DL.sAug, DL.sAugS, DL.gSet, DL.gTupD, DL.gsNil, DL.gsCons, DL.gSubD, DL.sFor, DL.iRng1D_eq, DL.mVar, DL.mC, DL.mNil, DL.mCons, DL.mCall, DL.mBin, DL.mNeg, DL.mMt, DL.mSl, DL.oNo, DL.oYes, DL.tOf, DL.tNotD, DL.tAndD, DL.tOrD, DL.tTru, DL.truD, DL.tTrue, DL.vAnd, DL.vOr, DL.vNot, DL.vIf, DL.vChain, DL.tupF, DL.lstF, DL.allD, DL.ev_add, DL.ev_sub, DL.ev_iadd, DL.ev_isub, DL.ev_lt, DL.ev_gt, DL.ev_le, DL.ev_ge, DL.ev_eq, DL.ev_ne, DL.ev_min, DL.ev_max, DL.ev_int, DL.ev_abs, DL.sz1, DL.sz2, DL.sz3, DL.sz4, DL.sz5, DL.sz6, DL.sz7, DL.sz8, DL.szp, e_take, e1, hm])]
    rw [seq_nx (ρ1 := [some (.loc 0), some (.d (.int most)), some (.d (.int m)), some (.d (.int way)), none, none, none]) (S1 := [ob2]) (by
      have h11 : (11 : Nat) ≤ sizeLine := by decide
      simp only [sAsg, mCall, mCons, mNil, mC, mVar, List.getElem?_cons_zero, Option.bind_some, lstF, allD, Option.map_some, hlw, e_some]
      rw [if_pos (show (ways.map PyData.int).length ≤ sizeLine by decide)]
      simp only [Option.bind_some, e2]
      simp [gSet])]
    rw [seq_nx (every_ok hm6 _)]
  have c1 := hb2.up (d := c + 50) (by omega)
  have hsub : ∀ P : Mv → Bool, GoodP (m, (every m).filter P) := fun P => good_sub hm2 hm6 (Nat.le_trans (List.length_filter_le _ _) el) (fun q hq => (List.mem_filter.mp hq).1) ((every_asc hm6).filter _)
  have hmod := fun (z : Int) S => ev_mod (S := S) (i := z) (j := (m : Int)) (by omega)
  have near := pick_ok (l := every m) (T := tOf (mBin (inA false) (mBin subD (mVar 5) (mVar 6)) (mCall tupF (mCons (mC (.int 1)) (mCons (mNeg (mC (.int 1))) (mNil)))))) (P := fun q => decide (q.1 - q.2 ∈ [(1 : Int), -1])) (z0 := some (.loc 0)) (z1 := some (.d (.int most))) (z2 := some (.d (.int m))) (z3 := some (.d (.int way))) (z5 := none) (z6 := none) (S := [ob2]) (by omega) rfl (fun q _ => by simp [DL.sSeq, DL.sNil, DL.sPass, DL.sBreak, DL.sCont, DL.sExpr, DL.sRet, DL.sRetN, DL.sIf, DL.sAsg, DL.sPar, DL.sAug, DL.sAugS, DL.gSet, DL.gTupD, DL.gsNil, DL.gsCons, DL.gSubD, DL.sFor, DL.iRng1D_eq, DL.mVar, DL.mC, DL.mNil, DL.mCons, DL.mCall, DL.mBin, DL.mNeg, DL.mMt, DL.mSl, DL.oNo, DL.oYes, DL.tOf, DL.tNotD, DL.tAndD, DL.tOrD, DL.tTru, DL.truD, DL.tTrue, DL.vAnd, DL.vOr, DL.vNot, DL.vIf, DL.vChain, DL.tupF, DL.lstF, DL.allD, DL.ev_add, DL.ev_sub, DL.ev_iadd, DL.ev_isub, DL.ev_lt, DL.ev_gt, DL.ev_le, DL.ev_ge, DL.ev_eq, DL.ev_ne, DL.ev_min, DL.ev_max, DL.ev_int, DL.ev_abs, DL.sz1, DL.sz2, DL.sz3, DL.sz4, DL.sz5, DL.sz6, DL.sz7, DL.sz8, DL.szp, ev_in2])
  have round := pick_ok (l := every m) (T := tOf (mBin (inA false) (mBin modD (mCall DL.intD (mCons (mBin subD (mVar 5) (mVar 6)) (mNil))) (mVar 2)) (mCall tupF (mCons (mC (.int 1)) (mCons (mBin subD (mVar 2) (mC (.int 1))) (mNil)))))) (P := fun q => decide ((q.1 - q.2) % (m : Int) ∈ [(1 : Int), (m : Int) - 1])) (z0 := some (.loc 0)) (z1 := some (.d (.int most))) (z2 := some (.d (.int m))) (z3 := some (.d (.int way))) (z5 := none) (z6 := none) (S := [ob2]) (by omega) rfl (fun q _ => by simp [DL.sSeq, DL.sNil, DL.sPass, DL.sBreak, DL.sCont, DL.sExpr, DL.sRet, DL.sRetN, DL.sIf, DL.sAsg, DL.sPar, DL.sAug, DL.sAugS, DL.gSet, DL.gTupD, DL.gsNil, DL.gsCons, DL.gSubD, DL.sFor, DL.iRng1D_eq, DL.mVar, DL.mC, DL.mNil, DL.mCons, DL.mCall, DL.mBin, DL.mNeg, DL.mMt, DL.mSl, DL.oNo, DL.oYes, DL.tOf, DL.tNotD, DL.tAndD, DL.tOrD, DL.tTru, DL.truD, DL.tTrue, DL.vAnd, DL.vOr, DL.vNot, DL.vIf, DL.vChain, DL.tupF, DL.lstF, DL.allD, DL.ev_add, DL.ev_sub, DL.ev_iadd, DL.ev_isub, DL.ev_lt, DL.ev_gt, DL.ev_le, DL.ev_ge, DL.ev_eq, DL.ev_ne, DL.ev_min, DL.ev_max, DL.ev_int, DL.ev_abs, DL.sz1, DL.sz2, DL.sz3, DL.sz4, DL.sz5, DL.sz6, DL.sz7, DL.sz8, DL.szp, ev_in2, hmod])
  have rise := pick_ok (l := every m) (T := tAndD (tOf (mBin ltD (mVar 5) (mVar 6))) (tOrD (tOf (mBin (eqA false) (mVar 3) (mC (.int 5)))) (tOf (mBin (eqA false) (mVar 6) (mBin addA (mVar 5) (mC (.int 1))))))) (P := fun q => decide (q.1 < q.2) && (decide (way = 5) || decide (q.2 = q.1 + 1))) (z0 := some (.loc 0)) (z1 := some (.d (.int most))) (z2 := some (.d (.int m))) (z3 := some (.d (.int way))) (z5 := none) (z6 := none) (S := [ob2]) (by omega) rfl (fun q _ => by
    by_cases h1 : q.1 < q.2 <;> by_cases h2 : way = 5 <;> simp [DL.sSeq, DL.sNil, DL.sPass, DL.sBreak, DL.sCont, DL.sExpr, DL.sRet, DL.sRetN, DL.sIf, DL.sAsg, DL.sPar, DL.sAug, DL.sAugS, DL.gSet, DL.gTupD, DL.gsNil, DL.gsCons, DL.gSubD, DL.sFor, DL.iRng1D_eq, DL.mVar, DL.mC, DL.mNil, DL.mCons, DL.mCall, DL.mBin, DL.mNeg, DL.mMt, DL.mSl, DL.oNo, DL.oYes, DL.tOf, DL.tNotD, DL.tAndD, DL.tOrD, DL.tTru, DL.truD, DL.tTrue, DL.vAnd, DL.vOr, DL.vNot, DL.vIf, DL.vChain, DL.tupF, DL.lstF, DL.allD, DL.ev_add, DL.ev_sub, DL.ev_iadd, DL.ev_isub, DL.ev_lt, DL.ev_gt, DL.ev_le, DL.ev_ge, DL.ev_eq, DL.ev_ne, DL.ev_min, DL.ev_max, DL.ev_int, DL.ev_abs, DL.sz1, DL.sz2, DL.sz3, DL.sz4, DL.sz5, DL.sz6, DL.sz7, DL.sz8, DL.szp, h1, h2])
  have ρ2 : ([some (.loc 0), some (.d (.int most)), some (.d (.int m)), some (.d (.int way)), some (.d (.list ((every m).map mv))), none, none] : DEnv)[2]? = some (some (.d (.int m))) := rfl
  obtain ⟨ρ, hρ⟩ : ∃ ρ : DEnv, [some (.loc 0), some (.d (.int most)), some (.d (.int m)), some (.d (.int way)), some (.d (.list ((every m).map mv))), none, none] = ρ := ⟨_, rfl⟩
  have t1 : tOf (mBin ltD (mVar 3) (mC (.int 2))) ρ [ob2] = some (decide (way < 2), [ob2]) := by subst hρ; simp [DL.sSeq, DL.sNil, DL.sPass, DL.sBreak, DL.sCont, DL.sExpr, DL.sRet, DL.sRetN, DL.sIf, DL.sAsg, DL.sPar, DL.sAug, DL.sAugS, DL.gSet, DL.gTupD, DL.gsNil, DL.gsCons, DL.gSubD, DL.sFor, DL.iRng1D_eq, DL.mVar, DL.mC, DL.mNil, DL.mCons, DL.mCall, DL.mBin, DL.mNeg, DL.mMt, DL.mSl, DL.oNo, DL.oYes, DL.tOf, DL.tNotD, DL.tAndD, DL.tOrD, DL.tTru, DL.truD, DL.tTrue, DL.vAnd, DL.vOr, DL.vNot, DL.vIf, DL.vChain, DL.tupF, DL.lstF, DL.allD, DL.ev_add, DL.ev_sub, DL.ev_iadd, DL.ev_isub, DL.ev_lt, DL.ev_gt, DL.ev_le, DL.ev_ge, DL.ev_eq, DL.ev_ne, DL.ev_min, DL.ev_max, DL.ev_int, DL.ev_abs, DL.sz1, DL.sz2, DL.sz3, DL.sz4, DL.sz5, DL.sz6, DL.sz7, DL.sz8, DL.szp]
  have t2 : tOrD (tOf (mBin ltD (mVar 3) (mC (.int 4)))) (tAndD (tOf (mBin (eqA false) (mVar 3) (mC (.int 4)))) (tOf (mBin ltD (mVar 2) (mC (.int 3))))) ρ [ob2] = some (decide (way < 4) || (decide (way = 4) && decide ((m : Int) < 3)), [ob2]) := by
    subst hρ
    by_cases h1 : way < 4 <;> by_cases h2 : way = 4 <;> simp [DL.sSeq, DL.sNil, DL.sPass, DL.sBreak, DL.sCont, DL.sExpr, DL.sRet, DL.sRetN, DL.sIf, DL.sAsg, DL.sPar, DL.sAug, DL.sAugS, DL.gSet, DL.gTupD, DL.gsNil, DL.gsCons, DL.gSubD, DL.sFor, DL.iRng1D_eq, DL.mVar, DL.mC, DL.mNil, DL.mCons, DL.mCall, DL.mBin, DL.mNeg, DL.mMt, DL.mSl, DL.oNo, DL.oYes, DL.tOf, DL.tNotD, DL.tAndD, DL.tOrD, DL.tTru, DL.truD, DL.tTrue, DL.vAnd, DL.vOr, DL.vNot, DL.vIf, DL.vChain, DL.tupF, DL.lstF, DL.allD, DL.ev_add, DL.ev_sub, DL.ev_iadd, DL.ev_isub, DL.ev_lt, DL.ev_gt, DL.ev_le, DL.ev_ge, DL.ev_eq, DL.ev_ne, DL.ev_min, DL.ev_max, DL.ev_int, DL.ev_abs, DL.sz1, DL.sz2, DL.sz3, DL.sz4, DL.sz5, DL.sz6, DL.sz7, DL.sz8, DL.szp, h1, h2]
  have t3 : tOf (mBin (eqA false) (mVar 3) (mC (.int 4))) ρ [ob2] = some (decide (way = 4), [ob2]) := by subst hρ; simp [DL.sSeq, DL.sNil, DL.sPass, DL.sBreak, DL.sCont, DL.sExpr, DL.sRet, DL.sRetN, DL.sIf, DL.sAsg, DL.sPar, DL.sAug, DL.sAugS, DL.gSet, DL.gTupD, DL.gsNil, DL.gsCons, DL.gSubD, DL.sFor, DL.iRng1D_eq, DL.mVar, DL.mC, DL.mNil, DL.mCons, DL.mCall, DL.mBin, DL.mNeg, DL.mMt, DL.mSl, DL.oNo, DL.oYes, DL.tOf, DL.tNotD, DL.tAndD, DL.tOrD, DL.tTru, DL.truD, DL.tTrue, DL.vAnd, DL.vOr, DL.vNot, DL.vIf, DL.vChain, DL.tupF, DL.lstF, DL.allD, DL.ev_add, DL.ev_sub, DL.ev_iadd, DL.ev_isub, DL.ev_lt, DL.ev_gt, DL.ev_le, DL.ev_ge, DL.ev_eq, DL.ev_ne, DL.ev_min, DL.ev_max, DL.ev_int, DL.ev_abs, DL.sz1, DL.sz2, DL.sz3, DL.sz4, DL.sz5, DL.sz6, DL.sz7, DL.sz8, DL.szp]
  have t4 : tOf (mBin (inA false) (mVar 3) (mCall tupF (mCons (mC (.int 5)) (mCons (mC (.int 7)) (mNil))))) ρ [ob2] = some (decide (way ∈ [5, 7]), [ob2]) := by subst hρ; simp [DL.sSeq, DL.sNil, DL.sPass, DL.sBreak, DL.sCont, DL.sExpr, DL.sRet, DL.sRetN, DL.sIf, DL.sAsg, DL.sPar, DL.sAug, DL.sAugS, DL.gSet, DL.gTupD, DL.gsNil, DL.gsCons, DL.gSubD, DL.sFor, DL.iRng1D_eq, DL.mVar, DL.mC, DL.mNil, DL.mCons, DL.mCall, DL.mBin, DL.mNeg, DL.mMt, DL.mSl, DL.oNo, DL.oYes, DL.tOf, DL.tNotD, DL.tAndD, DL.tOrD, DL.tTru, DL.truD, DL.tTrue, DL.vAnd, DL.vOr, DL.vNot, DL.vIf, DL.vChain, DL.tupF, DL.lstF, DL.allD, DL.ev_add, DL.ev_sub, DL.ev_iadd, DL.ev_isub, DL.ev_lt, DL.ev_gt, DL.ev_le, DL.ev_ge, DL.ev_eq, DL.ev_ne, DL.ev_min, DL.ev_max, DL.ev_int, DL.ev_abs, DL.sz1, DL.sz2, DL.sz3, DL.sz4, DL.sz5, DL.sz6, DL.sz7, DL.sz8, DL.szp, ev_in2]
  rw [hρ] at near round rise ρ2 st
  by_cases h1 : way < 2
  · refine hend (every m) ob2 c1 (good_sub hm2 hm6 el (fun q hq => hq) (every_asc hm6)) ⟨ρ, [], ?_⟩
    unfold b_l_place
    rw [st, seq_rt ((if_t (t1.trans (by rw [decide_eq_true h1]))).trans (tup_ok (A := mVar 4) (l := every m) ρ2 (by subst hρ; rfl)))]
  have t1' := t1.trans (by rw [decide_eq_false h1])
  by_cases h2 : (decide (way < 4) || (decide (way = 4) && decide ((m : Int) < 3))) = true
  · refine hend ((every m).filter (fun q => decide (q.1 - q.2 ∈ [(1 : Int), -1]))) ob2 c1 (hsub _) ⟨ρ, [], ?_⟩
    unfold b_l_place
    rw [st, seq_nx ((if_f (G := sNil) t1').trans rfl), seq_rt ((if_t (t2.trans (by rw [h2]))).trans (tup_ok ρ2 near))]
  have t2' := t2.trans (by rw [Bool.eq_false_iff.mpr h2])
  by_cases h3 : way = 4
  · refine hend ((every m).filter (fun q => decide ((q.1 - q.2) % (m : Int) ∈ [(1 : Int), (m : Int) - 1]))) ob2 c1 (hsub _) ⟨ρ, [], ?_⟩
    unfold b_l_place
    rw [st, seq_nx ((if_f (G := sNil) t1').trans rfl), seq_nx ((if_f (G := sNil) t2').trans rfl), seq_rt ((if_t (t3.trans (by rw [decide_eq_true h3]))).trans (tup_ok ρ2 round))]
  have t3' := t3.trans (by rw [decide_eq_false h3])
  by_cases h4 : way ∈ [(5 : Int), 7]
  · refine hend ((every m).filter (fun q => decide (q.1 < q.2) && (decide (way = 5) || decide (q.2 = q.1 + 1)))) ob2 c1 (hsub _) ⟨ρ, [], ?_⟩
    unfold b_l_place
    rw [st, seq_nx ((if_f (G := sNil) t1').trans rfl), seq_nx ((if_f (G := sNil) t2').trans rfl), seq_nx ((if_f (G := sNil) t3').trans rfl), seq_rt ((if_t (t4.trans (by rw [decide_eq_true h4]))).trans (tup_ok ρ2 rise))]
  have t4' := t4.trans (by rw [decide_eq_false h4])
  obtain ⟨ys, ob3, e3, hp, hb3⟩ := mixed_ok (S := [ob2]) (n := 0) (xs := (every m).map mv) rfl hb2 (by rw [List.length_map]; omega) (by rw [List.length_map]; exact sz_of (by omega))
  obtain ⟨r, hr, rfl⟩ := perm_map_ex hp
  obtain ⟨k, ob4, e4, k0, k1, hb4⟩ := take_ok (S := [ob3]) (n := 0) (upto := ((every m).length : Int) + 1) rfl hb3 (by rw [List.length_map]; omega) (by omega) (by
    have := size_lg (n := (every m).length + 1) (sz_of (by omega)); simpa using this)
  obtain ⟨j, rfl⟩ := Int.eq_ofNat_of_zero_le k0
  obtain ⟨r2, hr2, er2⟩ := sortT_ex ((r.take j).map fun q => [q.1, q.2])
  obtain ⟨r3, hr3, rfl⟩ := perm_map_ex hr2
  have hs := sorted_ev (l := (r.take j).map fun q => [q.1, q.2]) (S := [ob4]) (w := .d (.list ((r.take j).map mv))) (fun a ha => by
    obtain ⟨q, _, rfl⟩ := List.mem_map.mp ha
    simp) (by simp only [deref, mvs_tI])
  rw [er2, ← mvs_tI] at hs
  rw [List.length_map] at hb4
  have hgood : GoodP (m, r3) := good_sub hm2 hm6 (by
    rw [hr3.length_eq, List.length_take]; have := hr.length_eq; omega) (fun q hq => hr.subset (List.mem_of_mem_take (hr3.subset hq))) (by
    have := sortT_asc hr2 er2 ((((hr.map _).nodup_iff).mpr (every_nd hm6)).sublist ((List.take_sublist j r).map _))
    rw [List.pairwise_map] at this
    exact this)
  refine hend r3 ob4 (hb4.up (by omega)) hgood ⟨ρ, [], ?_⟩
  unfold b_l_place
  rw [st, seq_nx ((if_f (G := sNil) t1').trans rfl), seq_nx ((if_f (G := sNil) t2').trans rfl), seq_nx ((if_f (G := sNil) t3').trans rfl), seq_nx ((if_f (G := sNil) t4').trans rfl)]
  refine tup_ok ρ2 ?_
  subst hρ
  simp only [List.set_cons_zero] at e3 e4
  have hcut : DL.cutD (r.map mv) none (some (j : Int)) = (r.take j).map mv := by rw [cut_take, List.map_take]
  simp only [mCall, mCons, mNil, mVar, mSl, oNo, oYes, mBin, mC, List.getElem?_cons_succ, List.getElem?_cons_zero, Option.bind_some, e_mixed, e3, e_take, lenD, on1, len0, List.length_map, Option.map_some, ev_add, e4, sliceD, hcut, hs]
theorem append_ev {ws : List W} {w : W} {S : Sto} {j : Nat} (hS : S[j]? = some (.lst ws)) (h : ws.length < sizeLine) : appendF (.loc j) [w] S = some (.d .none, S.set j (.lst (ws ++ [w]))) := by
  simp only [appendF, onL, hS, h, if_true, Option.bind_some]
theorem at_last {α : Type} (xs : List α) (x : α) : atI (xs ++ [x]) (-1) = some x := by
  have h : ixN (xs ++ [x]).length (-1) = some xs.length := by
    unfold ixN
    rw [if_neg (by decide), if_pos (by rw [List.length_append]; simp; omega)]
    congr 1
    rw [List.length_append]; simp; omega
  unfold atI
  rw [h]; simp
def plsO (ps : List Pl) : Ob := .lst ((ps.map pl).map W.d)
theorem bench_step {c i s : Nat} {ob : Ob} {ps : List Pl} {x : Option W} (hb : BagOk c ob) (hc : c + 200 < 2 ^ 1000) (hp : ∀ p ∈ ps, GoodP p) (hl : ps.length ≤ 100) (s1 : 1 ≤ s) (s2 : s ≤ 108) :
    ∃ s' ob' ps', L_l_bench_1 [some (.loc 0), some (.d (.int 36)), x, some (.loc 1), some (.d (.int (s : Nat)))] [ob, plsO ps] = some (.nx, [some (.loc 0), some (.d (.int 36)), x, some (.loc 1), some (.d (.int (s' : Nat)))], [ob', plsO ps']) ∧
      BagOk (c + 60) ob' ∧ (∀ p ∈ ps', GoodP p) ∧ ps'.length ≤ ps.length + 1 ∧ 1 ≤ s' ∧ s' ≤ 108 ∧ (ps' = [] → ps = [] ∧ 36 < s * 2) := by
  have m2 : ∀ S, mulD (.d (.int (s : Nat))) (.d (.int 2)) S = some (.d (.int ((s : Int) * 2)), S) := fun S => ev_mul (by
    have : ((s : Nat) : Int).natAbs.log2 ≤ 7 := lg_le (by simp; omega)
    have : (2 : Int).natAbs.log2 ≤ 2 := by decide
    omega)
  have t : tOf (mBin leD (mBin mulD (mVar 4) (mC (.int 2))) (mVar 1)) [some (.loc 0), some (.d (.int 36)), x, some (.loc 1), some (.d (.int (s : Nat)))] [ob, plsO ps] = some (decide ((s : Int) * 2 ≤ 36), [ob, plsO ps]) := by simp [DL.sSeq, DL.sNil, DL.sPass, DL.sBreak, DL.sCont, DL.sExpr, DL.sRet, DL.sRetN, DL.sIf, DL.sAsg, DL.sPar, DL.sAug, DL.sAugS, DL.gSet, DL.gTupD, DL.gsNil, DL.gsCons, DL.gSubD, DL.sFor, DL.iRng1D_eq, DL.mVar, DL.mC, DL.mNil, DL.mCons, DL.mCall, DL.mBin, DL.mNeg, DL.mMt, DL.mSl, DL.oNo, DL.oYes, DL.tOf, DL.tNotD, DL.tAndD, DL.tOrD, DL.tTru, DL.truD, DL.tTrue, DL.vAnd, DL.vOr, DL.vNot, DL.vIf, DL.vChain, DL.tupF, DL.lstF, DL.allD, DL.ev_add, DL.ev_sub, DL.ev_iadd, DL.ev_isub, DL.ev_lt, DL.ev_gt, DL.ev_le, DL.ev_ge, DL.ev_eq, DL.ev_ne, DL.ev_min, DL.ev_max, DL.ev_int, DL.ev_abs, DL.sz1, DL.sz2, DL.sz3, DL.sz4, DL.sz5, DL.sz6, DL.sz7, DL.sz8, DL.szp, m2]
  by_cases h : (s : Int) * 2 ≤ 36
  · obtain ⟨y, hy, ob1, e1, hb1⟩ := some_ok (S := [ob, plsO ps]) (n := 0) (xs := [6, 4, 3, 3, 2].map PyData.int) rfl hb (by omega) (by simp) (by decide)
    obtain ⟨k, hk, rfl⟩ := List.mem_map.mp hy
    simp only [List.mem_cons, List.not_mem_nil, or_false] at hk
    obtain ⟨q, hq⟩ : ∃ q : Int, 36 / (s : Int) = q := ⟨_, rfl⟩
    have hq2 : 2 ≤ q := by
      rw [← hq]; exact (Int.le_ediv_iff_mul_le (by omega)).mpr (by omega)
    have hd := fun S => ev_fdiv (S := S) (i := 36) (j := (s : Int)) (by omega) (by
      have : ((s : Nat) : Int).natAbs.log2 ≤ 7 := lg_le (by simp; omega)
      omega)
    rw [hq] at hd
    obtain ⟨most, hmost⟩ : ∃ mo : Int, (if q < k then q else k) = mo := ⟨_, rfl⟩
    have hm2 : 2 ≤ most := by rw [← hmost]; split <;> omega
    have hm6 : most ≤ 6 := by rw [← hmost]; split <;> omega
    obtain ⟨p, ob2, e2, gp, hb2⟩ := place_ok (S := [ob1, plsO ps]) (n := 0) rfl hb1 (by omega) hm2 hm6
    have hS : ([ob2, plsO ps] : Sto)[1]? = some (.lst ((ps.map pl).map W.d)) := rfl
    have ha := append_ev (w := .d (pl p)) hS (by
      rw [List.length_map, List.length_map]
      have : 1000 < sizeLine := by decide
      omega)
    have hps : ([ob2, plsO ps] : Sto).set 1 (.lst ((ps.map pl).map W.d ++ [.d (pl p)])) = [ob2, plsO (ps ++ [p])] := by simp [plsO]
    rw [hps] at ha
    have hi : ∀ S : Sto, S[1]? = some (plsO (ps ++ [p])) → idxD (.loc 1) (.d (.int (-1))) S = some (.d (pl p), S) := fun S hS => by
      have := at_last ((ps.map pl).map W.d) (.d (pl p))
      simp only [plsO, List.map_append, List.map_cons, List.map_nil] at hS
      simp only [idxD, hS, this, Option.map_some]
    have h0 : ∀ S, idxD (.d (pl p)) (.d (.int 0)) S = some (.d (.int p.1), S) := fun S => rfl
    have mm : ∀ S, mulD (.d (.int (s : Nat))) (.d (.int (p.1 : Nat))) S = some (.d (.int ((s * p.1 : Nat) : Int)), S) := fun S => by
      rw [ev_mul]
      · simp
      · have : ((s : Nat) : Int).natAbs.log2 ≤ 7 := lg_le (by simp; omega)
        have : ((p.1 : Nat) : Int).natAbs.log2 ≤ 3 := lg_le (by have := gp.hi; simp; omega)
        omega
    have hs6 : s * p.1 ≤ 18 * 6 := Nat.mul_le_mul (by omega) gp.hi
    have hs1 : 1 * 1 ≤ s * p.1 := Nat.mul_le_mul s1 (by have := gp.lo; omega)
    refine ⟨s * p.1, ob2, ps ++ [p], ?_, hb2.up (by omega), fun r hr => ?_, by simp, by omega, by omega, fun e => by simp at e⟩
    · unfold L_l_bench_1
      simp only [List.set_cons_zero] at e1 e2
      rw [if_t (t.trans (by rw [decide_eq_true h]))]
      have hl : isLst [ob, plsO ps] (.loc 1) = true := rfl
      have hx : ([PyData.int 6, .int 4, .int 3, .int 3, .int 2] : List PyData) = [6, 4, 3, 3, 2].map PyData.int := rfl
      rw [seq_nx (ρ1 := [some (.loc 0), some (.d (.int 36)), x, some (.loc 1), some (.d (.int (s : Nat)))]) (S1 := [ob2, plsO (ps ++ [p])]) (by
        simp only [sExpr, mMt, mVar, List.getElem?_cons_succ, List.getElem?_cons_zero, Option.bind_some, hl, if_true, mCons, mCall, mNil, mC, lstF, allD, Option.map_some, hx]
        rw [if_pos (show ([6, 4, 3, 3, 2].map PyData.int).length ≤ sizeLine by decide)]
        simp only [Option.bind_some, e_some, e1, mBin, mVar, List.getElem?_cons_succ, List.getElem?_cons_zero, hd, ev_min, hmost, e2, ha])]
      have hi' := hi [ob2, plsO (ps ++ [p])] rfl
      simp only [sAsg, mBin, mVar, mNeg, mC, List.getElem?_cons_succ, List.getElem?_cons_zero, Option.bind_some, hi', h0, mm]
      simp [gSet]
    · rcases List.mem_append.mp hr with z | z
      · exact hp r z
      · rw [List.mem_singleton.mp z]; exact gp
  · refine ⟨s, ob, ps, ?_, hb.up (by omega), hp, by omega, s1, s2, fun e => ⟨e, by omega⟩⟩
    unfold L_l_bench_1
    rw [if_f (t.trans (by rw [decide_eq_false h]))]
    rfl
theorem bench_ok {c n : Nat} {ob : Ob} {S : Sto} (hS : S[n]? = some ob) (hb : BagOk c ob) (hc : c + 1000 < 2 ^ 1000) :
    ∃ b ob', callF f_l_bench [.loc n, .d (.int 36)] S = some (.d (bn b), S.set n ob') ∧ Good b ∧ BagOk (c + 400) ob' := by
  obtain ⟨y, hy, ob1, e1, hb1⟩ := some_ok (S := [ob, plsO []]) (n := 0) (xs := [1, 2, 2, 3, 3, 4, 5].map PyData.int) rfl hb (by omega) (by simp) (by decide)
  obtain ⟨k, hk, rfl⟩ := List.mem_map.mp hy
  simp only [List.mem_cons, List.not_mem_nil, or_false] at hk
  obtain ⟨t, ht⟩ : ∃ t : Nat, k = t := ⟨k.toNat, by omega⟩
  subst ht
  have ht : 1 ≤ t ∧ t ≤ 5 := by omega
  obtain ⟨ρ', S', e, x, ps, s, ob2, rfl, rfl, hb2, hp, hl, s1, s2, hz, hne⟩ := forL_rng (g := gSet 2) (F := L_l_bench_1) (lo := 0) (n := t)
    (J := fun i ρ S => ∃ x ps s ob', ρ = [some (.loc 0), some (.d (.int 36)), x, some (.loc 1), some (.d (.int ((s : Nat) : Int)))] ∧ S = [ob', plsO ps] ∧ BagOk (c + 1 + 60 * i) ob' ∧ (∀ p ∈ ps, GoodP p) ∧ ps.length ≤ i ∧ 1 ≤ s ∧ s ≤ 108 ∧ (i = 0 → s = 1) ∧ (0 < i → ps ≠ []))
    (ρ := [some (.loc 0), some (.d (.int 36)), none, some (.loc 1), some (.d (.int 1))]) (S := [ob1, plsO []]) (fun i ρ S hi ⟨x, ps, s, ob', e1, e2, hb', hp, hl, s1, s2, hz, hne⟩ => by
      subst e1 e2
      obtain ⟨s', ob3, ps', e3, hb3, hp3, hl3, s13, s23, hq⟩ := bench_step (i := i) (x := some (.d (.int (0 + (i : Int))))) hb' (by omega) hp (by omega) s1 s2
      refine ⟨_, _, Eq.trans (by simp [gSet]) e3, some (.d (.int (0 + (i : Int)))), ps', s', ob3, rfl, rfl, hb3.up (by omega), hp3, by omega, s13, s23, fun h => by omega, fun _ h => ?_⟩
      obtain ⟨h1, h2⟩ := hq h
      by_cases hi0 : i = 0
      · have := hz hi0; omega
      · exact hne (by omega) h1) ⟨none, [], 1, ob1, rfl, rfl, hb1, fun p hp => by simp at hp, by simp, by omega, by omega, fun _ => rfl, fun h => by omega⟩
  have hr := fun S => rng1_ok (n := t) (S := S) (by omega)
  have hx : ([PyData.int 1, .int 2, .int 2, .int 3, .int 3, .int 4, .int 5] : List PyData) = [1, 2, 2, 3, 3, 4, 5].map PyData.int := rfl
  refine ⟨ps, ob2, callF_loc (n := n) rfl (by simp [allLoc]) hS hb.obD (runF_ret1 ⟨[some (.loc 0), some (.d (.int 36)), x, some (.loc 1), some (.d (.int ((s : Nat) : Int)))], [plsO ps], ?_⟩ hb2.obD) hb2.obD, ⟨hne (by omega), by omega, hp⟩, hb2.up (by omega)⟩
  show b_l_bench [some (.loc 0), some (.d (.int 36)), none, none, none] [ob] = _
  unfold b_l_bench
  simp only [List.set_cons_zero] at e1
  rw [seq_nx (ρ1 := [some (.loc 0), some (.d (.int 36)), none, some (.loc 1), some (.d (.int 1))]) (S1 := [ob, plsO []]) (by
    simp [sPar, mCons, mCall, lstB, mNil, mC, plsO])]
  have hi : iRng1D (mCons (mCall (callF f_l_some) (mCons (mVar 0) (mCons (mCall lstF (mCons (mC (.int 1)) (mCons (mC (.int 2)) (mCons (mC (.int 2)) (mCons (mC (.int 3)) (mCons (mC (.int 3)) (mCons (mC (.int 4)) (mCons (mC (.int 5)) (mNil))))))))) (mNil)))) (mNil)) [some (.loc 0), some (.d (.int 36)), none, some (.loc 1), some (.d (.int 1))] [ob, plsO []] = some (rngD 0 t, [ob1, plsO []]) := by
    rw [iRng1D_eq]
    simp only [mCons, mCall, mNil, mC, mVar, List.getElem?_cons_zero, Option.bind_some, lstF, allD, Option.map_some, hx]
    rw [if_pos (show ([1, 2, 2, 3, 3, 4, 5].map PyData.int).length ≤ sizeLine by decide)]
    simp only [Option.bind_some, e_some, e1, hr]
  rw [seq_nx (by
    simp only [sFor, hi, Option.bind_some]
    exact e)]
  simp only [sRet, mCall, mCons, mNil, mVar, List.getElem?_cons_succ, List.getElem?_cons_zero, Option.bind_some, tupleD, on1, deref, plsO, allD_map, Option.map_some]
  rfl
end K17
end
noncomputable section
namespace K17
section
variable {α : Type} [DecidableEq α] (adj : α → List α) (t : α) (B : α → Bool)
def okN (y : α) : Bool := decide (y = t) || !B y
/-- t is come to from x by n steps -/
def Dn : Nat → α → Bool
  | 0, x => decide (x = t)
  | n + 1, x => (adj x).any fun y => okN t B y && Dn n y
structure IsD (n : Nat) (x : α) : Prop where
  is : Dn adj t B n x = true
  no : ∀ m, m < n → Dn adj t B m x = false
def nxt (n : Nat) (x : α) : Option α := ((adj x).filter fun y => okN t B y && Dn adj t B n y).head?
/-- the way by the first of the next ones -/
def gp : Nat → α → List α
  | 0, x => [x]
  | n + 1, x => match nxt adj t B n x with
    | some y => x :: gp n y
    | none => [x]
variable {adj t B}
theorem Dn_step {x y : α} {n : Nat} (h : y ∈ adj x) (ok : okN t B y = true) (d : Dn adj t B n y = true) : Dn adj t B (n + 1) x = true := by
  simp only [Dn, List.any_eq_true, Bool.and_eq_true]
  exact ⟨y, h, ok, d⟩
theorem least : ∀ (n : Nat) {x : α}, Dn adj t B n x = true → ∃ m, m ≤ n ∧ IsD adj t B m x := by
  intro n
  induction n using Nat.strongRecOn with
  | ind n ih =>
    intro x h
    by_cases c : ∃ m, m < n ∧ Dn adj t B m x = true
    · obtain ⟨m, hm, hd⟩ := c
      obtain ⟨k, hk, hi⟩ := ih m hm hd
      exact ⟨k, by omega, hi⟩
    · refine ⟨n, Nat.le_refl _, h, fun m hm => ?_⟩
      cases e : Dn adj t B m x with
      | false => rfl
      | true => exact absurd ⟨m, hm, e⟩ c
structure LInv (V : List α) (k : Nat) (found : List (α × Nat)) (line : List α) : Prop where
  nd : (found.map (·.1)).Nodup
  inV : ∀ q ∈ found, q.1 ∈ V
  val : ∀ q ∈ found, IsD adj t B q.2 q.1 ∧ q.2 ≤ k
  all : ∀ x d, x ∈ V → IsD adj t B d x → d ≤ k → (x, d) ∈ found
  ln : ∀ x, x ∈ line ↔ (x, k) ∈ found
  lnd : line.Nodup
/-- within a level: done tells which are seen to -/
structure MInv (V : List α) (k : Nat) (found : List (α × Nat)) (done : α → Prop) (found' : List (α × Nat)) (further : List α) : Prop where
  ex : ∃ ext, found' = found ++ ext ∧ further = ext.map (·.1) ∧ ∀ q ∈ ext, q.2 = k + 1 ∧ IsD adj t B (k + 1) q.1 ∧ q.1 ∈ V
  nd : (found'.map (·.1)).Nodup
  dn : ∀ x, done x → x ∈ found'.map (·.1)
variable {V : List α} {k : Nat} {found found' : List (α × Nat)} {line further : List α} {done : α → Prop}
theorem LInv.start (L : LInv (adj := adj) (t := t) (B := B) V k found line) : MInv (adj := adj) (t := t) (B := B) V k found (fun _ => False) found [] :=
  ⟨⟨[], by simp, rfl, fun q h => by simp at h⟩, L.nd, fun x h => h.elim⟩
/-- a new one -/
theorem MInv.add (L : LInv (adj := adj) (t := t) (B := B) V k found line) (M : MInv (adj := adj) (t := t) (B := B) V k found done found' further) {x y : α} (hx : x ∉ found'.map (·.1)) (hV : x ∈ V) (hy : y ∈ adj x) (oy : okN t B y = true) (dy : IsD adj t B k y) :
    MInv (adj := adj) (t := t) (B := B) V k found (fun z => done z ∨ z = x) (found' ++ [(x, k + 1)]) (further ++ [x]) := by
  obtain ⟨ext, rfl, rfl, he⟩ := M.ex
  have hd : IsD adj t B (k + 1) x := by
    refine ⟨Dn_step hy oy dy.is, fun m hm => ?_⟩
    cases e : Dn adj t B m x with
    | false => rfl
    | true =>
      obtain ⟨j, hj, ij⟩ := least m e
      have := L.all x j hV ij (by omega)
      exact absurd (List.mem_map.mpr ⟨(x, j), List.mem_append_left _ this, rfl⟩) hx
  refine ⟨⟨ext ++ [(x, k + 1)], by simp, by simp, fun q h => ?_⟩, ?_, fun z h => ?_⟩
  · rcases List.mem_append.mp h with h | h
    · exact he q h
    · rw [List.mem_singleton.mp h]; exact ⟨rfl, hd, hV⟩
  · rw [List.map_append, List.nodup_append]
    refine ⟨M.nd, by simp, fun a ha b hb => ?_⟩
    have : b = x := by simpa using hb
    rw [this]; rintro rfl; exact hx ha
  · rw [List.map_append]
    rcases h with h | h
    · exact List.mem_append_left _ (M.dn z h)
    · rw [h]; simp
variable {one : α} {fnd fnd' : List (α × List α)} {front later : List α}
def Fw (adj : α → List α) (t : α) (B : α → Bool) (one : α) (j : Nat) (v : α) : Prop := ∀ m, Dn adj t B m v = true → Dn adj t B (j + m) one = true
structure FInv (adj : α → List α) (t : α) (B : α → Bool) (V : List α) (one : α) (k : Nat) (fnd : List (α × List α)) (front : List α) : Prop where
  nd : (fnd.map (·.1)).Nodup
  inV : ∀ q ∈ fnd, q.1 ∈ V
  fw : ∀ q ∈ fnd, ∃ j, j ≤ k ∧ Fw adj t B one j q.1
  fr : ∀ v ∈ front, v ∈ fnd.map (·.1) ∧ Fw adj t B one k v ∧ (v = one ∨ okN t B v = true)
  good : ∀ n, IsD adj t B n one → k ≤ n ∧ ∃ g A C, (gp adj t B n one)[k]? = some g ∧ front = A ++ g :: C ∧ (g, (gp adj t B n one).take (k + 1)) ∈ fnd ∧ ∀ a ∈ A, Dn adj t B (n - k) a = false
/-- which of the new ones are good: none yet, or the way's next one ahead of all other good ones -/
def NG (adj : α → List α) (t : α) (B : α → Bool) (one : α) (k n : Nat) (ext : List (α × List α)) : Prop := ∀ q ∈ ext, Dn adj t B (n - (k + 1)) q.1 = false
def GG (adj : α → List α) (t : α) (B : α → Bool) (one : α) (k n : Nat) (ext : List (α × List α)) : Prop :=
  ∃ g A C, (gp adj t B n one)[k + 1]? = some g ∧ ext.map (·.1) = A ++ g :: C ∧ (g, (gp adj t B n one).take (k + 2)) ∈ ext ∧ ∀ a ∈ A, Dn adj t B (n - (k + 1)) a = false
structure NInv (adj : α → List α) (t : α) (B : α → Bool) (V : List α) (one : α) (k : Nat) (fnd : List (α × List α)) (P : Nat → Bool) (fnd' : List (α × List α)) (later : List α) : Prop where
  ex : ∃ ext, fnd' = fnd ++ ext ∧ later = ext.map (·.1) ∧ (∀ q ∈ ext, q.1 ∈ V ∧ Fw adj t B one (k + 1) q.1 ∧ okN t B q.1 = true) ∧
    ∀ n, IsD adj t B n one → if P n = true then GG adj t B one k n ext else NG adj t B one k n ext
  nd : (fnd'.map (·.1)).Nodup
variable {P P' : Nat → Bool}
theorem FInv.start (L : FInv adj t B V one k fnd front) : NInv adj t B V one k fnd (fun _ => false) fnd [] :=
  ⟨⟨[], by simp, rfl, fun q h => by simp at h, fun n hn => by simp [NG]⟩, L.nd⟩
theorem NInv.mono (M : NInv adj t B V one k fnd P fnd' later) (h : ∀ n, IsD adj t B n one → P' n = P n) : NInv adj t B V one k fnd P' fnd' later := by
  obtain ⟨ext, e1, e2, e3, e4⟩ := M.ex
  exact ⟨⟨ext, e1, e2, e3, fun n hn => by rw [h n hn]; exact e4 n hn⟩, M.nd⟩
/-- a new one, u its parent; where the parent is no good one, or is beyond the good one, or the new one is not good, nothing changes; the way's next one, after none, changes the phase -/
theorem NInv.add (M : NInv adj t B V one k fnd P fnd' later) {u v : α} {p : List α} (hx : v ∉ fnd'.map (·.1)) (hV : v ∈ V) (hv : v ∈ adj u) (ov : okN t B v = true) (fu : Fw adj t B one k u)
    (h : ∀ n, IsD adj t B n one → (P' n = P n ∧ (P n = true ∨ Dn adj t B (n - (k + 1)) v = false)) ∨ (P n = false ∧ P' n = true ∧ (gp adj t B n one)[k + 1]? = some v ∧ p = (gp adj t B n one).take (k + 2))) :
    NInv adj t B V one k fnd P' (fnd' ++ [(v, p)]) (later ++ [v]) := by
  obtain ⟨ext, rfl, rfl, he, hg⟩ := M.ex
  refine ⟨⟨ext ++ [(v, p)], by simp, by simp, fun q hq => ?_, fun n hn => ?_⟩, ?_⟩
  · rcases List.mem_append.mp hq with hq | hq
    · exact he q hq
    · rw [List.mem_singleton.mp hq]
      refine ⟨hV, fun m hm => ?_, ov⟩
      have := fu (m + 1) (Dn_step hv ov hm)
      rwa [show k + (m + 1) = k + 1 + m by omega] at this
  · have hgn := hg n hn
    rcases h n hn with ⟨h1, h2⟩ | ⟨h1, h2, h3, h4⟩
    · rw [h1]
      cases hP : P n with
      | true =>
        rw [hP] at hgn
        simp only [if_true] at hgn ⊢
        obtain ⟨g, A, C, a1, a2, a3, a4⟩ := hgn
        exact ⟨g, A, C ++ [v], a1, by simp [a2], List.mem_append_left _ a3, a4⟩
      | false =>
        rw [hP] at hgn h2
        simp only [Bool.false_eq_true, if_false] at hgn ⊢
        intro q hq
        rcases List.mem_append.mp hq with hq | hq
        · exact hgn q hq
        · rw [List.mem_singleton.mp hq]
          rcases h2 with h2 | h2
          · cases h2
          · exact h2
    · rw [h1] at hgn
      rw [h2]
      simp only [Bool.false_eq_true, if_false] at hgn
      simp only [if_true]
      refine ⟨v, ext.map (·.1), [], h3, by simp, ?_, fun a ha => ?_⟩
      · rw [← h4]; simp
      · obtain ⟨q, hq, rfl⟩ := List.mem_map.mp ha
        exact hgn q hq
  · rw [List.map_append, List.nodup_append]
    refine ⟨M.nd, by simp, fun a ha b hb => ?_⟩
    have : b = v := by simpa using hb
    rw [this]; rintro rfl; exact hx ha
end
end K17
end
noncomputable section
namespace K17
open PySem PySem.Spec PyProof.Rows L2 DL
section
variable {β : Type} {f : β → W} {found : List (List Int × β)} {x : List Int} {v : β} {n : Nat} {S : Sto}
def tabF (f : β → W) (found : List (List Int × β)) : List (List Key × W) := found.map fun q => (kc q.1, f q.2)
theorem val_tab : valW (tabF f found) (kc x) = (found.find? fun q => decide (q.1 = x)).map fun q => f q.2 := by
  unfold valW tabF
  induction found with
  | nil => rfl
  | cons q l ih =>
    rw [List.map_cons, List.find?_cons, List.find?_cons]
    by_cases h : q.1 = x
    · simp [h]
    · have : kc q.1 ≠ kc x := fun e => h (kc_inj e)
      simp only [this, h, decide_false]
      exact ih
theorem find_isSome : (found.find? fun q => decide (q.1 = x)).isSome = decide (x ∈ found.map (·.1)) := by
  induction found with
  | nil => simp
  | cons q l ih =>
    rw [List.find?_cons]
    by_cases h : q.1 = x
    · simp [h]
    · have h' : x ≠ q.1 := fun e => h e.symm
      simp only [h, decide_false, ih, List.map_cons, List.mem_cons, h', false_or]
theorem find_at (hn : (found.map (·.1)).Nodup) (h : (x, v) ∈ found) : (found.find? fun q => decide (q.1 = x)) = some (x, v) := by
  induction found with
  | nil => cases h
  | cons q l ih =>
    rw [List.map_cons, List.nodup_cons] at hn
    rw [List.find?_cons]
    rcases List.mem_cons.mp h with e | e
    · subst e; simp
    · have : q.1 ≠ x := fun z => hn.1 (List.mem_map.mpr ⟨_, e, z.symm⟩)
      simp only [this, decide_false]
      exact ih hn.2 e
theorem look_tab (hS : S[n]? = some (.dicT (tabF f found))) : dlook S (.loc n) (.d (tI x)) = some ((found.find? fun q => decide (q.1 = x)).map fun q => f q.2) := by
  simp only [tI, dlook, hS, keys_tI, Option.map_some, val_tab]
theorem put_new (h : x ∉ found.map (·.1)) : putW (tabF f found) (kc x) (f v) = tabF f (found ++ [(x, v)]) := by
  have : ((tabF f found).any fun kv => decide (kv.1 = kc x)) = false := by
    rw [List.any_eq_false]
    intro q hq
    obtain ⟨r, hr, rfl⟩ := List.mem_map.mp hq
    simp only [decide_eq_true_eq]
    exact fun e => h (List.mem_map.mpr ⟨r, hr, kc_inj e⟩)
  unfold putW
  rw [this]
  simp [tabF]
theorem put_tab (hx : x ≠ []) (hS : S[n]? = some (.dicT (tabF f found))) (h : x ∉ found.map (·.1)) (hl : found.length < sizeLine) : dputF (.loc n) (.d (tI x)) (f v) S = some (S.set n (.dicT (tabF f (found ++ [(x, v)])))) := by
  have : (tabF f found).length < sizeLine := by simp [tabF]; exact hl
  simp only [tI, dputF, hS, keysE_tI hx, Option.bind_some, this, if_true, put_new h]
end
theorem sortL_ex (l : List (List Int)) : ∃ r : List (List Int), r.Perm l ∧ sortC (l.map cI) = r.map cI := by
  obtain ⟨r, hr, e⟩ := perm_map_ex (sortC_perm (l.map cI))
  exact ⟨r, hr, e⟩
def sortL (l : List (List Int)) : List (List Int) := Classical.choose (sortL_ex l)
theorem sortL_perm (l : List (List Int)) : (sortL l).Perm l := (Classical.choose_spec (sortL_ex l)).1
theorem sortL_cI (l : List (List Int)) : sortC (l.map cI) = (sortL l).map cI := (Classical.choose_spec (sortL_ex l)).2
theorem sortL_tI (l : List (List Int)) : sortT l = (sortL l).map tI := by
  unfold sortT
  rw [sortL_cI, toPs_map, List.map_map]
  exact List.map_congr_left fun a _ => (ofP_eq _ _ (ofP_tI a)).symm
theorem sortL_srtd (l : List (List Int)) : (sortL l).Pairwise fun x y => ltC (cI y) (cI x) = false := by
  have := sortC_srtd (l.map cI)
  rw [sortL_cI, List.pairwise_map] at this
  exact this
def adjC (b : List Pl) (x : List Int) : List (List Int) := sortL (stp x 0 b)
theorem adj_fits {b : List Pl} {x y : List Int} (g : Good b) (hx : Fits x b) (h : y ∈ adjC b x) : Fits y b := stp_fits g hx ((sortL_perm _).subset h)
theorem inV {b : List Pl} {x : List Int} : x ∈ conts b ↔ Fits x b := mem_conts _ rfl
end K17
end
noncomputable section
namespace K17
open PySem PySem.Spec PyProof.Rows L2 DL
theorem placeM_ok {c n : Nat} {most : Int} {ob : Ob} {S : Sto} (hS : S[n]? = some ob) (hb : BagOk c ob) (hc : c + 100 < 2 ^ 1000) (h2 : 2 ≤ most) (h6 : most ≤ 6) :
    ∃ p ob', callF f_l_place [.loc n, .d (.int most)] S = some (.d (pl p), S.set n ob') ∧ GoodP p ∧ (p.1 : Int) ≤ most ∧ BagOk (c + 50) ob' := by
  obtain ⟨v, ob1, e1, v0, v1, hb1⟩ := take_ok (S := [ob]) (n := 0) (upto := most - 1) rfl hb (by omega) (by omega) (by
    have : (most - 1).natAbs.log2 ≤ 3 := lg_le (by omega)
    omega)
  obtain ⟨x, hx, ob2, e2, hb2⟩ := some_ok (S := [ob1]) (n := 0) (xs := ways.map .int) rfl hb1 (by omega) (by decide) (by decide)
  obtain ⟨way, hway, rfl⟩ := List.mem_map.mp hx
  obtain ⟨m, hm⟩ : ∃ m : Nat, 2 + v = m := ⟨(2 + v).toNat, by omega⟩
  have hm2 : 2 ≤ m := by omega
  have hm6 : m ≤ 6 := by omega
  have el := every_len hm6
  have hlw : ([PyData.int 0, .int 0, .int 0, .int 2, .int 2, .int 4, .int 4, .int 2, .int 5, .int 6, .int 7] : List PyData) = ways.map .int := rfl
  have hend : ∀ (l : List Mv) (ob3 : Ob), BagOk (c + 50) ob3 → GoodP (m, l) → (∃ ρ' S', b_l_place [some (.loc 0), some (.d (.int most)), none, none, none, none, none] [ob] = some (.rt (.d (pl (m, l))), ρ', ob3 :: S')) →
      ∃ p ob', callF f_l_place [.loc n, .d (.int most)] S = some (.d (pl p), S.set n ob') ∧ GoodP p ∧ (p.1 : Int) ≤ most ∧ BagOk (c + 50) ob' := fun l ob3 h3 hg ⟨ρ', S', h⟩ =>
    ⟨(m, l), ob3, callF_loc (n := n) rfl (by simp [allLoc]) hS hb.obD (runF_ret1 ⟨ρ', S', h⟩ h3.obD) h3.obD, hg, by show (m : Int) ≤ most; omega, h3⟩
  have st : ∀ R : MS, sSeq (sAsg (mBin addA (mC (.int 2)) (mCall (callF f_l_take) (mCons (mVar 0) (mCons (mBin subD (mVar 1) (mC (.int 1))) (mNil))))) (gSet 2))
      (sSeq (sAsg (mCall (callF f_l_some) (mCons (mVar 0) (mCons (mCall lstF (mCons (mC (.int 0)) (mCons (mC (.int 0)) (mCons (mC (.int 0)) (mCons (mC (.int 2)) (mCons (mC (.int 2)) (mCons (mC (.int 4)) (mCons (mC (.int 4)) (mCons (mC (.int 2)) (mCons (mC (.int 5)) (mCons (mC (.int 6)) (mCons (mC (.int 7)) (mNil))))))))))))) (mNil)))) (gSet 3))
      (sSeq (sAsg (mCall (callF f_l_flat) (mCons (mLc (iRng1D (mCons (mVar 2) (mNil))) (gSet 5) (tTrue) (mLc (iRng1D (mCons (mVar 2) (mNil))) (gSet 6) (tOf (mBin (eqA true) (mVar 6) (mVar 5))) (mCall tupF (mCons (mVar 5) (mCons (mVar 6) (mNil)))) [6] kFrz) [5] kFrz) (mNil))) (gSet 4)) R)) [some (.loc 0), some (.d (.int most)), none, none, none, none, none] [ob] =
      R [some (.loc 0), some (.d (.int most)), some (.d (.int m)), some (.d (.int way)), some (.d (.list ((every m).map mv))), none, none] [ob2] := fun R => by
    simp only [List.set_cons_zero] at e1 e2
    rw [seq_nx (ρ1 := [some (.loc 0), some (.d (.int most)), some (.d (.int m)), none, none, none, none]) (S1 := [ob1]) (by
      simp [DL.sSeq, DL.sNil, DL.sPass, DL.sBreak, DL.sCont, DL.sExpr, DL.sRet, DL.sRetN, DL.sIf, DL.sAsg, DL.sPar, DL.sAug, DL.sAugS, DL.gSet, DL.gTupD, DL.gsNil, DL.gsCons, DL.gSubD, DL.sFor, DL.iRng1D_eq, DL.mVar, DL.mC, DL.mNil, DL.mCons, DL.mCall, DL.mBin, DL.mNeg, DL.mMt, DL.mSl, DL.oNo, DL.oYes, DL.tOf, DL.tNotD, DL.tAndD, DL.tOrD, DL.tTru, DL.truD, DL.tTrue, DL.vAnd, DL.vOr, DL.vNot, DL.vIf, DL.vChain, DL.tupF, DL.lstF, DL.allD, DL.ev_add, DL.ev_sub, DL.ev_iadd, DL.ev_isub, DL.ev_lt, DL.ev_gt, DL.ev_le, DL.ev_ge, DL.ev_eq, DL.ev_ne, DL.ev_min, DL.ev_max, DL.ev_int, DL.ev_abs, DL.sz1, DL.sz2, DL.sz3, DL.sz4, DL.sz5, DL.sz6, DL.sz7, DL.sz8, DL.szp, e_take, e1, hm])]
    rw [seq_nx (ρ1 := [some (.loc 0), some (.d (.int most)), some (.d (.int m)), some (.d (.int way)), none, none, none]) (S1 := [ob2]) (by
      have h11 : (11 : Nat) ≤ sizeLine := by decide
      simp only [sAsg, mCall, mCons, mNil, mC, mVar, List.getElem?_cons_zero, Option.bind_some, lstF, allD, Option.map_some, hlw, e_some]
      rw [if_pos (show (ways.map PyData.int).length ≤ sizeLine by decide)]
      simp only [Option.bind_some, e2]
      simp [gSet])]
    rw [seq_nx (every_ok hm6 _)]
  have c1 := hb2.up (d := c + 50) (by omega)
  have hsub : ∀ P : Mv → Bool, GoodP (m, (every m).filter P) := fun P => good_sub hm2 hm6 (Nat.le_trans (List.length_filter_le _ _) el) (fun q hq => (List.mem_filter.mp hq).1) ((every_asc hm6).filter _)
  have hmod := fun (z : Int) S => ev_mod (S := S) (i := z) (j := (m : Int)) (by omega)
  have near := pick_ok (l := every m) (T := tOf (mBin (inA false) (mBin subD (mVar 5) (mVar 6)) (mCall tupF (mCons (mC (.int 1)) (mCons (mNeg (mC (.int 1))) (mNil)))))) (P := fun q => decide (q.1 - q.2 ∈ [(1 : Int), -1])) (z0 := some (.loc 0)) (z1 := some (.d (.int most))) (z2 := some (.d (.int m))) (z3 := some (.d (.int way))) (z5 := none) (z6 := none) (S := [ob2]) (by omega) rfl (fun q _ => by simp [DL.sSeq, DL.sNil, DL.sPass, DL.sBreak, DL.sCont, DL.sExpr, DL.sRet, DL.sRetN, DL.sIf, DL.sAsg, DL.sPar, DL.sAug, DL.sAugS, DL.gSet, DL.gTupD, DL.gsNil, DL.gsCons, DL.gSubD, DL.sFor, DL.iRng1D_eq, DL.mVar, DL.mC, DL.mNil, DL.mCons, DL.mCall, DL.mBin, DL.mNeg, DL.mMt, DL.mSl, DL.oNo, DL.oYes, DL.tOf, DL.tNotD, DL.tAndD, DL.tOrD, DL.tTru, DL.truD, DL.tTrue, DL.vAnd, DL.vOr, DL.vNot, DL.vIf, DL.vChain, DL.tupF, DL.lstF, DL.allD, DL.ev_add, DL.ev_sub, DL.ev_iadd, DL.ev_isub, DL.ev_lt, DL.ev_gt, DL.ev_le, DL.ev_ge, DL.ev_eq, DL.ev_ne, DL.ev_min, DL.ev_max, DL.ev_int, DL.ev_abs, DL.sz1, DL.sz2, DL.sz3, DL.sz4, DL.sz5, DL.sz6, DL.sz7, DL.sz8, DL.szp, ev_in2])
  have round := pick_ok (l := every m) (T := tOf (mBin (inA false) (mBin modD (mCall DL.intD (mCons (mBin subD (mVar 5) (mVar 6)) (mNil))) (mVar 2)) (mCall tupF (mCons (mC (.int 1)) (mCons (mBin subD (mVar 2) (mC (.int 1))) (mNil)))))) (P := fun q => decide ((q.1 - q.2) % (m : Int) ∈ [(1 : Int), (m : Int) - 1])) (z0 := some (.loc 0)) (z1 := some (.d (.int most))) (z2 := some (.d (.int m))) (z3 := some (.d (.int way))) (z5 := none) (z6 := none) (S := [ob2]) (by omega) rfl (fun q _ => by simp [DL.sSeq, DL.sNil, DL.sPass, DL.sBreak, DL.sCont, DL.sExpr, DL.sRet, DL.sRetN, DL.sIf, DL.sAsg, DL.sPar, DL.sAug, DL.sAugS, DL.gSet, DL.gTupD, DL.gsNil, DL.gsCons, DL.gSubD, DL.sFor, DL.iRng1D_eq, DL.mVar, DL.mC, DL.mNil, DL.mCons, DL.mCall, DL.mBin, DL.mNeg, DL.mMt, DL.mSl, DL.oNo, DL.oYes, DL.tOf, DL.tNotD, DL.tAndD, DL.tOrD, DL.tTru, DL.truD, DL.tTrue, DL.vAnd, DL.vOr, DL.vNot, DL.vIf, DL.vChain, DL.tupF, DL.lstF, DL.allD, DL.ev_add, DL.ev_sub, DL.ev_iadd, DL.ev_isub, DL.ev_lt, DL.ev_gt, DL.ev_le, DL.ev_ge, DL.ev_eq, DL.ev_ne, DL.ev_min, DL.ev_max, DL.ev_int, DL.ev_abs, DL.sz1, DL.sz2, DL.sz3, DL.sz4, DL.sz5, DL.sz6, DL.sz7, DL.sz8, DL.szp, ev_in2, hmod])
  have rise := pick_ok (l := every m) (T := tAndD (tOf (mBin ltD (mVar 5) (mVar 6))) (tOrD (tOf (mBin (eqA false) (mVar 3) (mC (.int 5)))) (tOf (mBin (eqA false) (mVar 6) (mBin addA (mVar 5) (mC (.int 1))))))) (P := fun q => decide (q.1 < q.2) && (decide (way = 5) || decide (q.2 = q.1 + 1))) (z0 := some (.loc 0)) (z1 := some (.d (.int most))) (z2 := some (.d (.int m))) (z3 := some (.d (.int way))) (z5 := none) (z6 := none) (S := [ob2]) (by omega) rfl (fun q _ => by
    by_cases h1 : q.1 < q.2 <;> by_cases h2 : way = 5 <;> simp [DL.sSeq, DL.sNil, DL.sPass, DL.sBreak, DL.sCont, DL.sExpr, DL.sRet, DL.sRetN, DL.sIf, DL.sAsg, DL.sPar, DL.sAug, DL.sAugS, DL.gSet, DL.gTupD, DL.gsNil, DL.gsCons, DL.gSubD, DL.sFor, DL.iRng1D_eq, DL.mVar, DL.mC, DL.mNil, DL.mCons, DL.mCall, DL.mBin, DL.mNeg, DL.mMt, DL.mSl, DL.oNo, DL.oYes, DL.tOf, DL.tNotD, DL.tAndD, DL.tOrD, DL.tTru, DL.truD, DL.tTrue, DL.vAnd, DL.vOr, DL.vNot, DL.vIf, DL.vChain, DL.tupF, DL.lstF, DL.allD, DL.ev_add, DL.ev_sub, DL.ev_iadd, DL.ev_isub, DL.ev_lt, DL.ev_gt, DL.ev_le, DL.ev_ge, DL.ev_eq, DL.ev_ne, DL.ev_min, DL.ev_max, DL.ev_int, DL.ev_abs, DL.sz1, DL.sz2, DL.sz3, DL.sz4, DL.sz5, DL.sz6, DL.sz7, DL.sz8, DL.szp, h1, h2])
  have ρ2 : ([some (.loc 0), some (.d (.int most)), some (.d (.int m)), some (.d (.int way)), some (.d (.list ((every m).map mv))), none, none] : DEnv)[2]? = some (some (.d (.int m))) := rfl
  obtain ⟨ρ, hρ⟩ : ∃ ρ : DEnv, [some (.loc 0), some (.d (.int most)), some (.d (.int m)), some (.d (.int way)), some (.d (.list ((every m).map mv))), none, none] = ρ := ⟨_, rfl⟩
  have t1 : tOf (mBin ltD (mVar 3) (mC (.int 2))) ρ [ob2] = some (decide (way < 2), [ob2]) := by subst hρ; simp [DL.sSeq, DL.sNil, DL.sPass, DL.sBreak, DL.sCont, DL.sExpr, DL.sRet, DL.sRetN, DL.sIf, DL.sAsg, DL.sPar, DL.sAug, DL.sAugS, DL.gSet, DL.gTupD, DL.gsNil, DL.gsCons, DL.gSubD, DL.sFor, DL.iRng1D_eq, DL.mVar, DL.mC, DL.mNil, DL.mCons, DL.mCall, DL.mBin, DL.mNeg, DL.mMt, DL.mSl, DL.oNo, DL.oYes, DL.tOf, DL.tNotD, DL.tAndD, DL.tOrD, DL.tTru, DL.truD, DL.tTrue, DL.vAnd, DL.vOr, DL.vNot, DL.vIf, DL.vChain, DL.tupF, DL.lstF, DL.allD, DL.ev_add, DL.ev_sub, DL.ev_iadd, DL.ev_isub, DL.ev_lt, DL.ev_gt, DL.ev_le, DL.ev_ge, DL.ev_eq, DL.ev_ne, DL.ev_min, DL.ev_max, DL.ev_int, DL.ev_abs, DL.sz1, DL.sz2, DL.sz3, DL.sz4, DL.sz5, DL.sz6, DL.sz7, DL.sz8, DL.szp]
  have t2 : tOrD (tOf (mBin ltD (mVar 3) (mC (.int 4)))) (tAndD (tOf (mBin (eqA false) (mVar 3) (mC (.int 4)))) (tOf (mBin ltD (mVar 2) (mC (.int 3))))) ρ [ob2] = some (decide (way < 4) || (decide (way = 4) && decide ((m : Int) < 3)), [ob2]) := by
    subst hρ
    by_cases h1 : way < 4 <;> by_cases h2 : way = 4 <;> simp [DL.sSeq, DL.sNil, DL.sPass, DL.sBreak, DL.sCont, DL.sExpr, DL.sRet, DL.sRetN, DL.sIf, DL.sAsg, DL.sPar, DL.sAug, DL.sAugS, DL.gSet, DL.gTupD, DL.gsNil, DL.gsCons, DL.gSubD, DL.sFor, DL.iRng1D_eq, DL.mVar, DL.mC, DL.mNil, DL.mCons, DL.mCall, DL.mBin, DL.mNeg, DL.mMt, DL.mSl, DL.oNo, DL.oYes, DL.tOf, DL.tNotD, DL.tAndD, DL.tOrD, DL.tTru, DL.truD, DL.tTrue, DL.vAnd, DL.vOr, DL.vNot, DL.vIf, DL.vChain, DL.tupF, DL.lstF, DL.allD, DL.ev_add, DL.ev_sub, DL.ev_iadd, DL.ev_isub, DL.ev_lt, DL.ev_gt, DL.ev_le, DL.ev_ge, DL.ev_eq, DL.ev_ne, DL.ev_min, DL.ev_max, DL.ev_int, DL.ev_abs, DL.sz1, DL.sz2, DL.sz3, DL.sz4, DL.sz5, DL.sz6, DL.sz7, DL.sz8, DL.szp, h1, h2]
  have t3 : tOf (mBin (eqA false) (mVar 3) (mC (.int 4))) ρ [ob2] = some (decide (way = 4), [ob2]) := by subst hρ; simp [DL.sSeq, DL.sNil, DL.sPass, DL.sBreak, DL.sCont, DL.sExpr, DL.sRet, DL.sRetN, DL.sIf, DL.sAsg, DL.sPar, DL.sAug, DL.sAugS, DL.gSet, DL.gTupD, DL.gsNil, DL.gsCons, DL.gSubD, DL.sFor, DL.iRng1D_eq, DL.mVar, DL.mC, DL.mNil, DL.mCons, DL.mCall, DL.mBin, DL.mNeg, DL.mMt, DL.mSl, DL.oNo, DL.oYes, DL.tOf, DL.tNotD, DL.tAndD, DL.tOrD, DL.tTru, DL.truD, DL.tTrue, DL.vAnd, DL.vOr, DL.vNot, DL.vIf, DL.vChain, DL.tupF, DL.lstF, DL.allD, DL.ev_add, DL.ev_sub, DL.ev_iadd, DL.ev_isub, DL.ev_lt, DL.ev_gt, DL.ev_le, DL.ev_ge, DL.ev_eq, DL.ev_ne, DL.ev_min, DL.ev_max, DL.ev_int, DL.ev_abs, DL.sz1, DL.sz2, DL.sz3, DL.sz4, DL.sz5, DL.sz6, DL.sz7, DL.sz8, DL.szp]
  have t4 : tOf (mBin (inA false) (mVar 3) (mCall tupF (mCons (mC (.int 5)) (mCons (mC (.int 7)) (mNil))))) ρ [ob2] = some (decide (way ∈ [5, 7]), [ob2]) := by subst hρ; simp [DL.sSeq, DL.sNil, DL.sPass, DL.sBreak, DL.sCont, DL.sExpr, DL.sRet, DL.sRetN, DL.sIf, DL.sAsg, DL.sPar, DL.sAug, DL.sAugS, DL.gSet, DL.gTupD, DL.gsNil, DL.gsCons, DL.gSubD, DL.sFor, DL.iRng1D_eq, DL.mVar, DL.mC, DL.mNil, DL.mCons, DL.mCall, DL.mBin, DL.mNeg, DL.mMt, DL.mSl, DL.oNo, DL.oYes, DL.tOf, DL.tNotD, DL.tAndD, DL.tOrD, DL.tTru, DL.truD, DL.tTrue, DL.vAnd, DL.vOr, DL.vNot, DL.vIf, DL.vChain, DL.tupF, DL.lstF, DL.allD, DL.ev_add, DL.ev_sub, DL.ev_iadd, DL.ev_isub, DL.ev_lt, DL.ev_gt, DL.ev_le, DL.ev_ge, DL.ev_eq, DL.ev_ne, DL.ev_min, DL.ev_max, DL.ev_int, DL.ev_abs, DL.sz1, DL.sz2, DL.sz3, DL.sz4, DL.sz5, DL.sz6, DL.sz7, DL.sz8, DL.szp, ev_in2]
  rw [hρ] at near round rise ρ2 st
  by_cases h1 : way < 2
  · refine hend (every m) ob2 c1 (good_sub hm2 hm6 el (fun q hq => hq) (every_asc hm6)) ⟨ρ, [], ?_⟩
    unfold b_l_place
    rw [st, seq_rt ((if_t (t1.trans (by rw [decide_eq_true h1]))).trans (tup_ok (A := mVar 4) (l := every m) ρ2 (by subst hρ; rfl)))]
  have t1' := t1.trans (by rw [decide_eq_false h1])
  by_cases h2 : (decide (way < 4) || (decide (way = 4) && decide ((m : Int) < 3))) = true
  · refine hend ((every m).filter (fun q => decide (q.1 - q.2 ∈ [(1 : Int), -1]))) ob2 c1 (hsub _) ⟨ρ, [], ?_⟩
    unfold b_l_place
    rw [st, seq_nx ((if_f (G := sNil) t1').trans rfl), seq_rt ((if_t (t2.trans (by rw [h2]))).trans (tup_ok ρ2 near))]
  have t2' := t2.trans (by rw [Bool.eq_false_iff.mpr h2])
  by_cases h3 : way = 4
  · refine hend ((every m).filter (fun q => decide ((q.1 - q.2) % (m : Int) ∈ [(1 : Int), (m : Int) - 1]))) ob2 c1 (hsub _) ⟨ρ, [], ?_⟩
    unfold b_l_place
    rw [st, seq_nx ((if_f (G := sNil) t1').trans rfl), seq_nx ((if_f (G := sNil) t2').trans rfl), seq_rt ((if_t (t3.trans (by rw [decide_eq_true h3]))).trans (tup_ok ρ2 round))]
  have t3' := t3.trans (by rw [decide_eq_false h3])
  by_cases h4 : way ∈ [(5 : Int), 7]
  · refine hend ((every m).filter (fun q => decide (q.1 < q.2) && (decide (way = 5) || decide (q.2 = q.1 + 1)))) ob2 c1 (hsub _) ⟨ρ, [], ?_⟩
    unfold b_l_place
    rw [st, seq_nx ((if_f (G := sNil) t1').trans rfl), seq_nx ((if_f (G := sNil) t2').trans rfl), seq_nx ((if_f (G := sNil) t3').trans rfl), seq_rt ((if_t (t4.trans (by rw [decide_eq_true h4]))).trans (tup_ok ρ2 rise))]
  have t4' := t4.trans (by rw [decide_eq_false h4])
  obtain ⟨ys, ob3, e3, hp, hb3⟩ := mixed_ok (S := [ob2]) (n := 0) (xs := (every m).map mv) rfl hb2 (by rw [List.length_map]; omega) (by rw [List.length_map]; exact sz_of (by omega))
  obtain ⟨r, hr, rfl⟩ := perm_map_ex hp
  obtain ⟨k, ob4, e4, k0, k1, hb4⟩ := take_ok (S := [ob3]) (n := 0) (upto := ((every m).length : Int) + 1) rfl hb3 (by rw [List.length_map]; omega) (by omega) (by
    have := size_lg (n := (every m).length + 1) (sz_of (by omega)); simpa using this)
  obtain ⟨j, rfl⟩ := Int.eq_ofNat_of_zero_le k0
  obtain ⟨r2, hr2, er2⟩ := sortT_ex ((r.take j).map fun q => [q.1, q.2])
  obtain ⟨r3, hr3, rfl⟩ := perm_map_ex hr2
  have hs := sorted_ev (l := (r.take j).map fun q => [q.1, q.2]) (S := [ob4]) (w := .d (.list ((r.take j).map mv))) (fun a ha => by
    obtain ⟨q, _, rfl⟩ := List.mem_map.mp ha
    simp) (by simp only [deref, mvs_tI])
  rw [er2, ← mvs_tI] at hs
  rw [List.length_map] at hb4
  have hgood : GoodP (m, r3) := good_sub hm2 hm6 (by
    rw [hr3.length_eq, List.length_take]; have := hr.length_eq; omega) (fun q hq => hr.subset (List.mem_of_mem_take (hr3.subset hq))) (by
    have := sortT_asc hr2 er2 ((((hr.map _).nodup_iff).mpr (every_nd hm6)).sublist ((List.take_sublist j r).map _))
    rw [List.pairwise_map] at this
    exact this)
  refine hend r3 ob4 (hb4.up (by omega)) hgood ⟨ρ, [], ?_⟩
  unfold b_l_place
  rw [st, seq_nx ((if_f (G := sNil) t1').trans rfl), seq_nx ((if_f (G := sNil) t2').trans rfl), seq_nx ((if_f (G := sNil) t3').trans rfl), seq_nx ((if_f (G := sNil) t4').trans rfl)]
  refine tup_ok ρ2 ?_
  subst hρ
  simp only [List.set_cons_zero] at e3 e4
  have hcut : DL.cutD (r.map mv) none (some (j : Int)) = (r.take j).map mv := by rw [cut_take, List.map_take]
  simp only [mCall, mCons, mNil, mVar, mSl, oNo, oYes, mBin, mC, List.getElem?_cons_succ, List.getElem?_cons_zero, Option.bind_some, e_mixed, e3, e_take, lenD, on1, len0, List.length_map, Option.map_some, ev_add, e4, sliceD, hcut, hs]
theorem benchM_step {M c i s : Nat} {ob : Ob} {ps : List Pl} {x : Option W} (hb : BagOk c ob) (hc : c + 200 < 2 ^ 1000) (hp : ∀ p ∈ ps, GoodP p) (hl : ps.length ≤ 100) (hM : 2 ≤ M) (hM2 : M ≤ 36) (s1 : 1 ≤ s) (s2 : s ≤ M) (hcl : (conts ps).length = s) :
    ∃ s' ob' ps', L_l_bench_1 [some (.loc 0), some (.d (.int (M : Nat))), x, some (.loc 1), some (.d (.int (s : Nat)))] [ob, plsO ps] = some (.nx, [some (.loc 0), some (.d (.int (M : Nat))), x, some (.loc 1), some (.d (.int (s' : Nat)))], [ob', plsO ps']) ∧
      BagOk (c + 60) ob' ∧ (∀ p ∈ ps', GoodP p) ∧ ps'.length ≤ ps.length + 1 ∧ 1 ≤ s' ∧ s' ≤ M ∧ (conts ps').length = s' ∧ (ps' = [] → ps = [] ∧ M < s * 2) := by
  have m2 : ∀ S, mulD (.d (.int (s : Nat))) (.d (.int 2)) S = some (.d (.int ((s : Int) * 2)), S) := fun S => ev_mul (by
    have : ((s : Nat) : Int).natAbs.log2 ≤ 7 := lg_le (by simp; omega)
    have : (2 : Int).natAbs.log2 ≤ 2 := by decide
    omega)
  have t : tOf (mBin leD (mBin mulD (mVar 4) (mC (.int 2))) (mVar 1)) [some (.loc 0), some (.d (.int (M : Nat))), x, some (.loc 1), some (.d (.int (s : Nat)))] [ob, plsO ps] = some (decide ((s : Int) * 2 ≤ M), [ob, plsO ps]) := by simp [DL.sSeq, DL.sNil, DL.sPass, DL.sBreak, DL.sCont, DL.sExpr, DL.sRet, DL.sRetN, DL.sIf, DL.sAsg, DL.sPar, DL.sAug, DL.sAugS, DL.gSet, DL.gTupD, DL.gsNil, DL.gsCons, DL.gSubD, DL.sFor, DL.iRng1D_eq, DL.mVar, DL.mC, DL.mNil, DL.mCons, DL.mCall, DL.mBin, DL.mNeg, DL.mMt, DL.mSl, DL.oNo, DL.oYes, DL.tOf, DL.tNotD, DL.tAndD, DL.tOrD, DL.tTru, DL.truD, DL.tTrue, DL.vAnd, DL.vOr, DL.vNot, DL.vIf, DL.vChain, DL.tupF, DL.lstF, DL.allD, DL.ev_add, DL.ev_sub, DL.ev_iadd, DL.ev_isub, DL.ev_lt, DL.ev_gt, DL.ev_le, DL.ev_ge, DL.ev_eq, DL.ev_ne, DL.ev_min, DL.ev_max, DL.ev_int, DL.ev_abs, DL.sz1, DL.sz2, DL.sz3, DL.sz4, DL.sz5, DL.sz6, DL.sz7, DL.sz8, DL.szp, m2]
  by_cases h : (s : Int) * 2 ≤ M
  · obtain ⟨y, hy, ob1, e1, hb1⟩ := some_ok (S := [ob, plsO ps]) (n := 0) (xs := [6, 4, 3, 3, 2].map PyData.int) rfl hb (by omega) (by simp) (by decide)
    obtain ⟨k, hk, rfl⟩ := List.mem_map.mp hy
    simp only [List.mem_cons, List.not_mem_nil, or_false] at hk
    obtain ⟨q, hq⟩ : ∃ q : Int, (M : Int) / (s : Int) = q := ⟨_, rfl⟩
    have hq2 : 2 ≤ q := by
      rw [← hq]; exact (Int.le_ediv_iff_mul_le (by omega)).mpr (by omega)
    have hd := fun S => ev_fdiv (S := S) (i := (M : Nat)) (j := (s : Int)) (by omega) (by
      have : ((s : Nat) : Int).natAbs.log2 ≤ 7 := lg_le (by simp; omega)
      omega)
    rw [hq] at hd
    obtain ⟨most, hmost⟩ : ∃ mo : Int, (if q < k then q else k) = mo := ⟨_, rfl⟩
    have hm2 : 2 ≤ most := by rw [← hmost]; split <;> omega
    have hm6 : most ≤ 6 := by rw [← hmost]; split <;> omega
    obtain ⟨p, ob2, e2, gp, hpm, hb2⟩ := placeM_ok (S := [ob1, plsO ps]) (n := 0) rfl hb1 (by omega) hm2 hm6
    have hS : ([ob2, plsO ps] : Sto)[1]? = some (.lst ((ps.map pl).map W.d)) := rfl
    have ha := append_ev (w := .d (pl p)) hS (by
      rw [List.length_map, List.length_map]
      have : 1000 < sizeLine := by decide
      omega)
    have hps : ([ob2, plsO ps] : Sto).set 1 (.lst ((ps.map pl).map W.d ++ [.d (pl p)])) = [ob2, plsO (ps ++ [p])] := by simp [plsO]
    rw [hps] at ha
    have hi : ∀ S : Sto, S[1]? = some (plsO (ps ++ [p])) → idxD (.loc 1) (.d (.int (-1))) S = some (.d (pl p), S) := fun S hS => by
      have := at_last ((ps.map pl).map W.d) (.d (pl p))
      simp only [plsO, List.map_append, List.map_cons, List.map_nil] at hS
      simp only [idxD, hS, this, Option.map_some]
    have h0 : ∀ S, idxD (.d (pl p)) (.d (.int 0)) S = some (.d (.int p.1), S) := fun S => rfl
    have mm : ∀ S, mulD (.d (.int (s : Nat))) (.d (.int (p.1 : Nat))) S = some (.d (.int ((s * p.1 : Nat) : Int)), S) := fun S => by
      rw [ev_mul]
      · simp
      · have : ((s : Nat) : Int).natAbs.log2 ≤ 7 := lg_le (by simp; omega)
        have : ((p.1 : Nat) : Int).natAbs.log2 ≤ 3 := lg_le (by have := gp.hi; simp; omega)
        omega
    have hs6 : s * p.1 ≤ M := by
      have h1 : (p.1 : Int) ≤ (M : Int) / (s : Int) := by rw [hq]; refine Int.le_trans hpm ?_; rw [← hmost]; split <;> omega
      have h2 := (Int.le_ediv_iff_mul_le (show (0 : Int) < s by omega)).mp h1
      have h3 : ((p.1 * s : Nat) : Int) ≤ M := by rw [Int.natCast_mul]; exact h2
      have h4 : p.1 * s ≤ M := by omega
      rwa [Nat.mul_comm] at h4
    have hs1 : 1 * 1 ≤ s * p.1 := Nat.mul_le_mul s1 (by have := gp.lo; omega)
    refine ⟨s * p.1, ob2, ps ++ [p], ?_, hb2.up (by omega), fun r hr => ?_, by simp, by omega, hs6, by rw [conts_snoc, ext1_len, hcl], fun e => by simp at e⟩
    · unfold L_l_bench_1
      simp only [List.set_cons_zero] at e1 e2
      rw [if_t (t.trans (by rw [decide_eq_true h]))]
      have hl : isLst [ob, plsO ps] (.loc 1) = true := rfl
      have hx : ([PyData.int 6, .int 4, .int 3, .int 3, .int 2] : List PyData) = [6, 4, 3, 3, 2].map PyData.int := rfl
      rw [seq_nx (ρ1 := [some (.loc 0), some (.d (.int (M : Nat))), x, some (.loc 1), some (.d (.int (s : Nat)))]) (S1 := [ob2, plsO (ps ++ [p])]) (by
        simp only [sExpr, mMt, mVar, List.getElem?_cons_succ, List.getElem?_cons_zero, Option.bind_some, hl, if_true, mCons, mCall, mNil, mC, lstF, allD, Option.map_some, hx]
        rw [if_pos (show ([6, 4, 3, 3, 2].map PyData.int).length ≤ sizeLine by decide)]
        simp only [Option.bind_some, e_some, e1, mBin, mVar, List.getElem?_cons_succ, List.getElem?_cons_zero, hd, ev_min, hmost, e2, ha])]
      have hi' := hi [ob2, plsO (ps ++ [p])] rfl
      simp only [sAsg, mBin, mVar, mNeg, mC, List.getElem?_cons_succ, List.getElem?_cons_zero, Option.bind_some, hi', h0, mm]
      simp [gSet]
    · rcases List.mem_append.mp hr with z | z
      · exact hp r z
      · rw [List.mem_singleton.mp z]; exact gp
  · refine ⟨s, ob, ps, ?_, hb.up (by omega), hp, by omega, s1, s2, hcl, fun e => ⟨e, by omega⟩⟩
    unfold L_l_bench_1
    rw [if_f (t.trans (by rw [decide_eq_false h]))]
    rfl
theorem benchM2_ok {M c n : Nat} {ob : Ob} {S : Sto} (hS : S[n]? = some ob) (hb : BagOk c ob) (hc : c + 1000 < 2 ^ 1000) (hM : 2 ≤ M) (hM2 : M ≤ 36) :
    ∃ b ob', callF f_l_bench [.loc n, .d (.int (M : Nat))] S = some (.d (bn b), S.set n ob') ∧ Good b ∧ (conts b).length ≤ 36 ∧ BagOk (c + 400) ob' := by
  obtain ⟨y, hy, ob1, e1, hb1⟩ := some_ok (S := [ob, plsO []]) (n := 0) (xs := [1, 2, 2, 3, 3, 4, 5].map PyData.int) rfl hb (by omega) (by simp) (by decide)
  obtain ⟨k, hk, rfl⟩ := List.mem_map.mp hy
  simp only [List.mem_cons, List.not_mem_nil, or_false] at hk
  obtain ⟨t, ht⟩ : ∃ t : Nat, k = t := ⟨k.toNat, by omega⟩
  subst ht
  have ht : 1 ≤ t ∧ t ≤ 5 := by omega
  obtain ⟨ρ', S', e, x, ps, s, ob2, rfl, rfl, hb2, hp, hl, s1, s2, hcl, hz, hne⟩ := forL_rng (g := gSet 2) (F := L_l_bench_1) (lo := 0) (n := t)
    (J := fun i ρ S => ∃ x ps s ob', ρ = [some (.loc 0), some (.d (.int (M : Nat))), x, some (.loc 1), some (.d (.int ((s : Nat) : Int)))] ∧ S = [ob', plsO ps] ∧ BagOk (c + 1 + 60 * i) ob' ∧ (∀ p ∈ ps, GoodP p) ∧ ps.length ≤ i ∧ 1 ≤ s ∧ s ≤ M ∧ (conts ps).length = s ∧ (i = 0 → s = 1) ∧ (0 < i → ps ≠ []))
    (ρ := [some (.loc 0), some (.d (.int (M : Nat))), none, some (.loc 1), some (.d (.int 1))]) (S := [ob1, plsO []]) (fun i ρ S hi ⟨x, ps, s, ob', e1, e2, hb', hp, hl, s1, s2, hcl, hz, hne⟩ => by
      subst e1 e2
      obtain ⟨s', ob3, ps', e3, hb3, hp3, hl3, s13, s23, hcl3, hq⟩ := benchM_step (i := i) (x := some (.d (.int (0 + (i : Int))))) hb' (by omega) hp (by omega) hM hM2 s1 s2 hcl
      refine ⟨_, _, Eq.trans (by simp [gSet]) e3, some (.d (.int (0 + (i : Int)))), ps', s', ob3, rfl, rfl, hb3.up (by omega), hp3, by omega, s13, s23, hcl3, fun h => by omega, fun _ h => ?_⟩
      obtain ⟨h1, h2⟩ := hq h
      by_cases hi0 : i = 0
      · have := hz hi0; omega
      · exact hne (by omega) h1) ⟨none, [], 1, ob1, rfl, rfl, hb1, fun p hp => by simp at hp, by simp, by omega, by omega, rfl, fun _ => rfl, fun h => by omega⟩
  have hr := fun S => rng1_ok (n := t) (S := S) (by omega)
  have hx : ([PyData.int 1, .int 2, .int 2, .int 3, .int 3, .int 4, .int 5] : List PyData) = [1, 2, 2, 3, 3, 4, 5].map PyData.int := rfl
  refine ⟨ps, ob2, callF_loc (n := n) rfl (by simp [allLoc]) hS hb.obD (runF_ret1 ⟨[some (.loc 0), some (.d (.int (M : Nat))), x, some (.loc 1), some (.d (.int ((s : Nat) : Int)))], [plsO ps], ?_⟩ hb2.obD) hb2.obD, ⟨hne (by omega), by omega, hp⟩, by omega, hb2.up (by omega)⟩
  show b_l_bench [some (.loc 0), some (.d (.int (M : Nat))), none, none, none] [ob] = _
  unfold b_l_bench
  simp only [List.set_cons_zero] at e1
  rw [seq_nx (ρ1 := [some (.loc 0), some (.d (.int (M : Nat))), none, some (.loc 1), some (.d (.int 1))]) (S1 := [ob, plsO []]) (by
    simp [sPar, mCons, mCall, lstB, mNil, mC, plsO])]
  have hi : iRng1D (mCons (mCall (callF f_l_some) (mCons (mVar 0) (mCons (mCall lstF (mCons (mC (.int 1)) (mCons (mC (.int 2)) (mCons (mC (.int 2)) (mCons (mC (.int 3)) (mCons (mC (.int 3)) (mCons (mC (.int 4)) (mCons (mC (.int 5)) (mNil))))))))) (mNil)))) (mNil)) [some (.loc 0), some (.d (.int (M : Nat))), none, some (.loc 1), some (.d (.int 1))] [ob, plsO []] = some (rngD 0 t, [ob1, plsO []]) := by
    rw [iRng1D_eq]
    simp only [mCons, mCall, mNil, mC, mVar, List.getElem?_cons_zero, Option.bind_some, lstF, allD, Option.map_some, hx]
    rw [if_pos (show ([1, 2, 2, 3, 3, 4, 5].map PyData.int).length ≤ sizeLine by decide)]
    simp only [Option.bind_some, e_some, e1, hr]
  rw [seq_nx (by
    simp only [sFor, hi, Option.bind_some]
    exact e)]
  simp only [sRet, mCall, mCons, mNil, mVar, List.getElem?_cons_succ, List.getElem?_cons_zero, Option.bind_some, tupleD, on1, deref, plsO, allD_map, Option.map_some]
  rfl
theorem benchM_ok {M c n : Nat} {ob : Ob} {S : Sto} (hS : S[n]? = some ob) (hb : BagOk c ob) (hc : c + 1000 < 2 ^ 1000) (hM : 6 ≤ M) (hM2 : M ≤ 36) :
    ∃ b ob', callF f_l_bench [.loc n, .d (.int (M : Nat))] S = some (.d (bn b), S.set n ob') ∧ Good b ∧ (conts b).length ≤ 36 ∧ BagOk (c + 400) ob' := benchM2_ok hS hb hc (by omega) hM2
end K17
end
noncomputable section
namespace K62
open PySem PySem.Spec PyProof.Rows L2 DL
def L_steps_from_1 : MS := sSeq (sAsg (mLc (iSeq (mVar 6)) (gTupD 2 (gsCons (gSet 7) (gsCons (gSet 8) (gsNil)))) (tOf (mBin (eqA false) (mVar 7) (mBin idxD (mVar 1) (mVar 3)))) (mVar 8) [7, 8] kFrz) (gSet 4))
    (sExpr (mMt extendF (mVar 2) (mCons (mLc (iSeq (mVar 4)) (gSet 8) (tTrue) (mBin addA (mBin addA (mSl (mVar 1) (oNo) (oYes (mVar 3))) (mCall tupF (mCons (mVar 8) (mNil)))) (mSl (mVar 1) (oYes (mBin addA (mVar 3) (mC (.int 1)))) (oNo))) [8] kFrz) (mNil))))
def b_steps_from : MS := sSeq (sAsg (mCall lstB (mNil)) (gSet 2))
    (sSeq (sFor (iEnumD (mCons (mVar 0) (mNil))) (gTupD 2 (gsCons (gSet 3) (gsCons (gTupD 2 (gsCons (gSet 5) (gsCons (gSet 6) (gsNil)))) (gsNil)))) (L_steps_from_1))
    (sRet (mCall sortedD (mCons (mVar 2) (mNil)))))
def f_steps_from : FS := runF 9 b_steps_from
def b_l_bag : MS := sRet (mCall lstB (mCons (mC (.int 0)) (mCons (mC (.int 1234567891)) (mCons (mC (.int 0)) (mCons (mLc (iSeq (mSl (mVar 0) (oNo) (oYes (mC (.int 63))))) (gSet 1) (tTrue) (mCall absD (mCons (mVar 1) (mNil))) [1] kFrz) (mNil))))))
def f_l_bag : FS := runF 2 b_l_bag
def b_l_take : MS := sSeq (sIf (tOf (mBin (eqA false) (mBin idxD (mVar 0) (mC (.int 0))) (mC (.int 0)))) (sSeq (sAsg (mBin idxD (mBin addA (mSl (mBin idxD (mVar 0) (mC (.int 3))) (oYes (mBin idxD (mVar 0) (mC (.int 2)))) (oNo)) (mCall lstF (mCons (mC (.int 0)) (mNil)))) (mC (.int 0))) (gSet 4))
    (sSeq (sAugS (mVar 0) (mC (.int 2)) (mC (.int 1)) getF iaddI setF)
    (sSeq (sIf (tOf (mBin geD (mVar 4) (mBin powD (mC (.int 10)) (mC (.int 18))))) (sAsg (mVar 4) (gSubD (mVar 0) (mC (.int 0)) setF)) (sNil))
    (sSeq (sAsg (mBin addA (mBin addA (mBin mulD (mBin idxD (mVar 0) (mC (.int 1))) (mC (.int 48271))) (mBin modD (mCall intD (mCons (mVar 4) (mNil))) (mC (.int 2147483647)))) (mBin mulD (mC (.int 7919)) (mBin idxD (mVar 0) (mC (.int 2))))) (gSet 5))
    (sAsg (mBin modD (mCall intD (mCons (mVar 5) (mNil))) (mC (.int 2147483647))) (gSubD (mVar 0) (mC (.int 1)) setF)))))) (sNil))
    (sSeq (sIf (tOf (mBin gtD (mBin idxD (mVar 0) (mC (.int 0))) (mC (.int 0)))) (sSeq (sAsg (mBin modD (mCall intD (mCons (mBin idxD (mVar 0) (mC (.int 0))) (mNil))) (mVar 1)) (gSet 6))
    (sSeq (sAsg (mBin fdivD (mCall intD (mCons (mBin idxD (mVar 0) (mC (.int 0))) (mNil))) (mVar 1)) (gSubD (mVar 0) (mC (.int 0)) setF))
    (sRet (mVar 6)))) (sNil))
    (sSeq (sAsg (mBin modD (mCall intD (mCons (mBin mulD (mBin addA (mBin idxD (mVar 0) (mC (.int 1))) (mC (.int 1))) (mC (.int 39373))) (mNil))) (mC (.int 1000000007))) (gSet 2))
    (sSeq (sAsg (mBin modD (mCall intD (mCons (mBin mulD (mBin modD (mCall intD (mCons (mBin mulD (mVar 2) (mVar 2)) (mNil))) (mC (.int 998244353))) (mC (.int 30011))) (mNil))) (mC (.int 998244353))) (gSet 3))
    (sRet (mBin modD (mCall intD (mCons (mBin fdivD (mVar 3) (mC (.int 7))) (mNil))) (mVar 1))))))
def f_l_take : FS := runF 7 b_l_take
def b_l_alike : MS := sRet (vAnd (mBin (eqA false) (mVar 0) (mVar 1)) (mBin (eqA false) (mCall reprD (mCons (mVar 0) (mNil))) (mCall reprD (mCons (mVar 1) (mNil)))))
def f_l_alike : FS := runF 2 b_l_alike
def L_l_flat_1 : MS := sExpr (mMt extendF (mVar 1) (mCons (mVar 2) (mNil)))
def b_l_flat : MS := sSeq (sAsg (mCall lstB (mNil)) (gSet 1))
    (sSeq (sFor (iSeq (mVar 0)) (gSet 2) (L_l_flat_1))
    (sRet (mFrz (mVar 1))))
def f_l_flat : FS := runF 3 b_l_flat
def L_l_steps_1 : MS := sExpr (mMt extendF (mVar 2) (mCons (mBin repL (mCall lstF (mCons (mBin addA (mBin addA (mSl (mVar 1) (oNo) (oYes (mVar 3))) (mCall tupF (mCons (mVar 5) (mNil)))) (mSl (mVar 1) (oYes (mBin addA (mVar 3) (mC (.int 1)))) (oNo))) (mNil))) (mCall intD (mCons (mBin (eqA false) (mVar 4) (mBin idxD (mVar 1) (mVar 3))) (mNil)))) (mNil)))
def L_l_steps_2 : MS := sFor (iSeq (mBin idxD (mBin idxD (mVar 0) (mVar 3)) (mC (.int 1)))) (gTupD 2 (gsCons (gSet 4) (gsCons (gSet 5) (gsNil)))) (L_l_steps_1)
def b_l_steps : MS := sSeq (sAsg (mCall lstB (mNil)) (gSet 2))
    (sSeq (sFor (iRng1D (mCons (mCall lenD (mCons (mVar 0) (mNil))) (mNil))) (gSet 3) (L_l_steps_2))
    (sRet (mCall sortedD (mCons (mVar 2) (mNil)))))
def f_l_steps : FS := runF 6 b_l_steps
def L_l_reached_1 : MS := sIf (tAndD (tOf (mBin (inX true) (mVar 7) (mVar 3))) (tOf (mBin (inX true) (mVar 7) (mVar 2)))) (sSeq (sAsg (mC (.bool true)) (gSubD (mVar 3) (mVar 7) setX))
    (sExpr (mMt appendF (mVar 5) (mCons (mVar 7) (mNil))))) (sNil)
def L_l_reached_2 : MS := sFor (iSeq (mBin ixY (mVar 0) (mVar 6))) (gSet 7) (L_l_reached_1)
def b_l_reached : MS := sSeq (sPar 3 4 (mCons (mCall dictP (mCons (mLc (iSeq (mVar 1)) (gSet 6) (tTrue) (mCall tupF (mCons (mVar 6) (mCons (mC (.bool true)) (mNil)))) [6] kFrz) (mNil))) (mCons (mCall listD (mCons (mVar 1) (mNil))) mNil)))
    (sSeq (whileL (tOf (mBin (eqA true) (mVar 4) (mCall lstF (mNil)))) (sSeq (sAsg (mCall lstB (mNil)) (gSet 5))
    (sSeq (sFor (iSeq (mVar 4)) (gSet 6) (L_l_reached_2))
    (sAsg (mFrzA (mVar 5)) (gSet 4)))) FUEL)
    (sRet (mCall sortedA (mCons (mVar 3) (mNil)))))
def f_l_reached : FS := runF 8 b_l_reached
def L_reached_from_1 : MS := sIf (tAndD (tOf (mBin (inX true) (mVar 5) (mVar 4))) (tOf (mBin (inX true) (mVar 5) (mVar 2)))) (sSeq (sAsg (mC (.bool true)) (gSubD (mVar 4) (mVar 5) setX))
    (sExpr (mMt appendF (mVar 3) (mCons (mVar 5) (mNil))))) (sNil)
def b_reached_from : MS := sSeq (sPar 4 3 (mCons (mDc (iSeq (mVar 1)) (gSet 5) (tTrue) (mVar 5) (mC (.bool true)) [5]) (mCons (mCall listB (mCons (mVar 1) (mNil))) mNil)))
    (sSeq (whileL (tTru (mVar 3)) (sFor (iSeq (mCall (callF f_steps_from) (mCons (mVar 0) (mCons (mMt popF (mVar 3) mNil) (mNil))))) (gSet 5) (L_reached_from_1)) FUEL)
    (sRet (mCall sortedA (mCons (mVar 4) (mNil)))))
def f_reached_from : FS := runF 6 b_reached_from
def b_l_some : MS := sRet (mBin idxD (mVar 1) (mCall (callF f_l_take) (mCons (mVar 0) (mCons (mCall lenD (mCons (mVar 1) (mNil))) (mNil)))))
def f_l_some : FS := runF 2 b_l_some
def L_l_mixed_1 : MS := sExpr (mMt insertF (mVar 2) (mCons (mCall (callF f_l_take) (mCons (mVar 0) (mCons (mBin addA (mCall lenD (mCons (mVar 2) (mNil))) (mC (.int 1))) (mNil)))) (mCons (mVar 3) (mNil))))
def b_l_mixed : MS := sSeq (sAsg (mCall lstB (mNil)) (gSet 2))
    (sSeq (sFor (iSeq (mVar 1)) (gSet 3) (L_l_mixed_1))
    (sRet (mFrz (mVar 2))))
def f_l_mixed : FS := runF 4 b_l_mixed
def L_l_contents_1 : MS := sAsg (mCall (callF f_l_flat) (mCons (mLc (iSeq (mVar 1)) (gSet 3) (tTrue) (mLc (iRng1D (mCons (mBin idxD (mVar 2) (mC (.int 0))) (mNil))) (gSet 4) (tTrue) (mBin addA (mVar 3) (mCall tupF (mCons (mVar 4) (mNil)))) [4] kFrz) [3] kFrz) (mNil))) (gSet 1)
def b_l_contents : MS := sSeq (sAsg (mCall lstF (mCons (mCall tupF (mNil)) (mNil))) (gSet 1))
    (sSeq (sFor (iSeq (mVar 0)) (gSet 2) (L_l_contents_1))
    (sRet (mVar 1)))
def f_l_contents : FS := runF 5 b_l_contents
def b_l_ends : MS := sSeq (sAsg (mCall (callF f_l_take) (mCons (mVar 0) (mCons (mC (.int 8)) (mNil)))) (gSet 4))
    (sSeq (sAsg (mCall lstF (mCons (mCall lstF (mCons (mVar 2) (mCons (mVar 3) (mNil)))) (mCons (mCall lstF (mCons (mVar 2) (mCons (mVar 3) (mNil)))) (mCons (mCall lstF (mCons (mVar 2) (mCons (mVar 3) (mNil)))) (mCons (mCall lstF (mCons (mVar 3) (mNil))) (mCons (mCall lstF (mCons (mVar 2) (mNil))) (mCons (mCall lstF (mNil)) (mCons (mCall listD (mCons (mVar 1) (mNil))) (mNil))))))))) (gSet 5))
    (sSeq (sIf (tOf (mBin ltD (mVar 4) (mC (.int 7)))) (sRet (mCall tupleD (mCons (mCall sortedA (mCons (mBin ixY (mVar 5) (mVar 4)) (mNil))) (mNil)))) (sNil))
    (sRet (mCall tupleD (mCons (mLc (iSeq (mVar 1)) (gSet 6) (tOf (mBin (eqA false) (mCall (callF f_l_take) (mCons (mVar 0) (mCons (mC (.int 2)) (mNil)))) (mC (.int 0)))) (mVar 6) [6] kFrz) (mNil))))))
def f_l_ends : FS := runF 7 b_l_ends
def L_crossing_orders_1 : MS := sAsg (vIf (tOf (mBin (inX false) (mVar 3) (mVar 1))) (mCall lstF (mNil)) (mCall (callF f_reached_from) (mCons (mBin ixY (mVar 0) (mC (.int 0))) (mCons (mCall lstF (mCons (mVar 3) (mNil))) (mCons (mVar 1) (mNil)))))) (gSubD (mVar 2) (mVar 3) setX)
def b_crossing_orders : MS := sSeq (sAsg (mNewT) (gSet 2))
    (sSeq (sFor (iSeq (mSortSetC (iSeq (mBin ixY (mVar 0) (mC (.int 2)))) (gSet 4) (tTrue) (mBin ixY (mVar 4) (mC (.int 0))) [4])) (gSet 3) (L_crossing_orders_1))
    (sRet (mLc (iEnumD (mCons (mBin ixY (mVar 0) (mC (.int 2))) (mNil))) (gTupD 2 (gsCons (gSet 5) (gsCons (gSet 4) (gsNil)))) (tOf (mBin (inX true) (mBin ixY (mVar 4) (mC (.int 1))) (mBin ixY (mVar 2) (mBin ixY (mVar 4) (mC (.int 0)))))) (mVar 5) [5, 4] kBox)))
def f_crossing_orders : FS := runF 6 b_crossing_orders
def b_l_place : MS := sSeq (sAsg (mBin addA (mC (.int 2)) (mCall (callF f_l_take) (mCons (mVar 0) (mCons (mBin subD (mVar 1) (mC (.int 1))) (mNil))))) (gSet 2))
    (sSeq (sAsg (mCall (callF f_l_some) (mCons (mVar 0) (mCons (mCall lstF (mCons (mC (.int 0)) (mCons (mC (.int 0)) (mCons (mC (.int 0)) (mCons (mC (.int 2)) (mCons (mC (.int 2)) (mCons (mC (.int 4)) (mCons (mC (.int 4)) (mCons (mC (.int 2)) (mCons (mC (.int 5)) (mCons (mC (.int 6)) (mCons (mC (.int 7)) (mNil))))))))))))) (mNil)))) (gSet 3))
    (sSeq (sAsg (mCall (callF f_l_flat) (mCons (mLc (iRng1D (mCons (mVar 2) (mNil))) (gSet 5) (tTrue) (mLc (iRng1D (mCons (mVar 2) (mNil))) (gSet 6) (tOf (mBin (eqA true) (mVar 6) (mVar 5))) (mCall tupF (mCons (mVar 5) (mCons (mVar 6) (mNil)))) [6] kFrz) [5] kFrz) (mNil))) (gSet 4))
    (sSeq (sIf (tOf (mBin ltD (mVar 3) (mC (.int 2)))) (sRet (mCall tupF (mCons (mVar 2) (mCons (mCall tupleD (mCons (mVar 4) (mNil))) (mNil))))) (sNil))
    (sSeq (sIf (tOrD (tOf (mBin ltD (mVar 3) (mC (.int 4)))) (tAndD (tOf (mBin (eqA false) (mVar 3) (mC (.int 4)))) (tOf (mBin ltD (mVar 2) (mC (.int 3)))))) (sRet (mCall tupF (mCons (mVar 2) (mCons (mCall tupleD (mCons (mLc (iSeq (mVar 4)) (gTupD 2 (gsCons (gSet 5) (gsCons (gSet 6) (gsNil)))) (tOf (mBin (inA false) (mBin subD (mVar 5) (mVar 6)) (mCall tupF (mCons (mC (.int 1)) (mCons (mNeg (mC (.int 1))) (mNil)))))) (mCall tupF (mCons (mVar 5) (mCons (mVar 6) (mNil)))) [5, 6] kFrz) (mNil))) (mNil))))) (sNil))
    (sSeq (sIf (tOf (mBin (eqA false) (mVar 3) (mC (.int 4)))) (sRet (mCall tupF (mCons (mVar 2) (mCons (mCall tupleD (mCons (mLc (iSeq (mVar 4)) (gTupD 2 (gsCons (gSet 5) (gsCons (gSet 6) (gsNil)))) (tOf (mBin (inA false) (mBin modD (mCall intD (mCons (mBin subD (mVar 5) (mVar 6)) (mNil))) (mVar 2)) (mCall tupF (mCons (mC (.int 1)) (mCons (mBin subD (mVar 2) (mC (.int 1))) (mNil)))))) (mCall tupF (mCons (mVar 5) (mCons (mVar 6) (mNil)))) [5, 6] kFrz) (mNil))) (mNil))))) (sNil))
    (sSeq (sIf (tOf (mBin (inA false) (mVar 3) (mCall tupF (mCons (mC (.int 5)) (mCons (mC (.int 7)) (mNil)))))) (sRet (mCall tupF (mCons (mVar 2) (mCons (mCall tupleD (mCons (mLc (iSeq (mVar 4)) (gTupD 2 (gsCons (gSet 5) (gsCons (gSet 6) (gsNil)))) (tAndD (tOf (mBin ltD (mVar 5) (mVar 6))) (tOrD (tOf (mBin (eqA false) (mVar 3) (mC (.int 5)))) (tOf (mBin (eqA false) (mVar 6) (mBin addA (mVar 5) (mC (.int 1))))))) (mCall tupF (mCons (mVar 5) (mCons (mVar 6) (mNil)))) [5, 6] kFrz) (mNil))) (mNil))))) (sNil))
    (sRet (mCall tupF (mCons (mVar 2) (mCons (mCall tupleD (mCons (mCall sortedD (mCons (mSl (mCall (callF f_l_mixed) (mCons (mVar 0) (mCons (mVar 4) (mNil)))) (oNo) (oYes (mCall (callF f_l_take) (mCons (mVar 0) (mCons (mBin addA (mCall lenD (mCons (mVar 4) (mNil))) (mC (.int 1))) (mNil)))))) (mNil))) (mNil))) (mNil)))))))))))
def f_l_place : FS := runF 7 b_l_place
def b_l_graph : MS := sRet (mFrzA (mCall dictP (mCons (mLc (iSeq (mCall (callF f_l_contents) (mCons (mVar 0) (mNil)))) (gSet 1) (tTrue) (mCall tupF (mCons (mVar 1) (mCons (mCall (callF f_l_steps) (mCons (mVar 0) (mCons (mVar 1) (mNil)))) (mNil)))) [1] kFrz) (mNil))))
def f_l_graph : FS := runF 2 b_l_graph
def L_l_way_by_1 : MS := sIf (tAndD (tOf (mBin (inX true) (mVar 10) (mVar 7))) (tOrD (tOf (mBin (eqA false) (mVar 10) (mVar 3))) (tOf (mBin (inX true) (mVar 10) (mVar 4))))) (sSeq (sAsg (mVar 9) (gSubD (mVar 7) (mVar 10) setX))
    (sExpr (mMt appendF (mVar 8) (mCons (mVar 10) (mNil))))) (sNil)
def L_l_way_by_2 : MS := sFor (iSeq (mCall (callF f_l_mixed) (mCons (mVar 0) (mCons (mBin ixY (mVar 1) (mVar 9)) (mNil))))) (gSet 10) (L_l_way_by_1)
def b_l_way_by : MS := sSeq (sPar 6 7 (mCons (mCall lstF (mCons (mVar 2) (mNil))) (mCons (mDisp1 (mVar 2) (mC .none)) mNil)))
    (sSeq (whileL (tAndD (tOf (mBin (eqA true) (mVar 6) (mCall lstF (mNil)))) (tOf (mBin (inX true) (mVar 3) (mVar 7)))) (sSeq (sAsg (mCall lstB (mNil)) (gSet 8))
    (sSeq (sFor (iSeq (mVar 6)) (gSet 9) (L_l_way_by_2))
    (sAsg (mFrzA (mVar 8)) (gSet 6)))) FUEL)
    (sSeq (sIf (tOrD (tOf (mBin (inX true) (mVar 3) (mVar 7))) (tOf (mBin (eqA false) (mVar 2) (mVar 3)))) (sRet (mC .none)) (sNil))
    (sSeq (sAsg (mCall lstB (mCons (mVar 3) (mNil))) (gSet 5))
    (sSeq (whileL (tOf (mBin (eqA true) (mBin ixY (mVar 5) (mC (.int 0))) (mVar 2))) (sExpr (mMt insertF (mVar 5) (mCons (mC (.int 0)) (mCons (mBin ixY (mVar 7) (mBin ixY (mVar 5) (mC (.int 0)))) (mNil))))) FUEL)
    (sRet (mCall tupleD (mCons (mVar 5) (mNil))))))))
def f_l_way_by : FS := runF 11 b_l_way_by
def b_l_rests : MS := sSeq (sAsg (mCall (callF f_l_some) (mCons (mVar 0) (mCons (mCall lstF (mCons (mC (.int 2)) (mCons (mC (.int 3)) (mCons (mC (.int 2)) (mCons (mC (.int 3)) (mCons (mVar 2) (mCons (mBin addA (mC (.int 1)) (mCall (callF f_l_take) (mCons (mVar 0) (mCons (mVar 2) (mNil))))) (mCons (mC (.int 2)) (mCons (mC (.int 4)) (mNil)))))))))) (mNil)))) (gSet 3))
    (sRet (mCall tupleD (mCons (mCall sortedA (mCons (mSl (mCall (callF f_l_mixed) (mCons (mVar 0) (mCons (mVar 1) (mNil)))) (oNo) (oYes (mCall min2D (mCons (mVar 3) (mCons (mVar 2) (mNil)))))) (mNil))) (mNil))))
def f_l_rests : FS := runF 4 b_l_rests
def L_l_couple_1 : MS := sAsg (vIf (tOf (mBin (inX false) (mBin ixY (mVar 3) (mC (.int 1))) (mBin ixY (mVar 1) (mBin ixY (mVar 3) (mC (.int 0)))))) (mSl (mCall (callF f_l_mixed) (mCons (mVar 0) (mCons (mVar 2) (mNil)))) (oNo) (oYes (mC (.int 2)))) (mVar 3)) (gSet 3)
def b_l_couple : MS := sSeq (sAsg (mSl (mCall (callF f_l_mixed) (mCons (mVar 0) (mCons (mVar 2) (mNil)))) (oNo) (oYes (mC (.int 2)))) (gSet 3))
    (sSeq (sFor (iRng1D (mCons (mC (.int 3)) (mNil))) (gSet 4) (L_l_couple_1))
    (sRet (mCall tupF (mCons (mBin ixY (mVar 3) (mC (.int 0))) (mCons (mBin ixY (mVar 3) (mC (.int 1))) (mNil))))))
def f_l_couple : FS := runF 5 b_l_couple
def L_l_crowded_1 : MS := sExpr (mMt extendF (mVar 6) (mCons (mLc (iSeq (mVar 3)) (gSet 9) (tOf (mBin (eqA true) (mVar 9) (mVar 4))) (mCall tupF (mCons (mVar 4) (mCons (mVar 9) (mNil)))) [9] kFrz) (mNil)))
def L_l_crowded_2 : MS := sSeq (sAsg (mBin ixY (mCall lstF (mCons (mCall tupF (mCons (mVar 4) (mCons (mVar 9) (mNil)))) (mCons (mCall tupF (mCons (mVar 9) (mNil))) (mCons (mCall tupF (mCons (mVar 4) (mNil))) (mCons (mCall tupF (mCons (mVar 4) (mCons (mVar 9) (mNil)))) (mCons (mCall (callF f_l_ends) (mCons (mVar 0) (mCons (mVar 3) (mCons (mVar 4) (mCons (mVar 9) (mNil)))))) (mNil))))))) (mVar 7)) (gSet 10))
    (sExpr (mMt appendF (mVar 5) (mCons (mCall tupF (mCons (mVar 4) (mCons (mVar 9) (mCons (mCall tupleD (mCons (mCall sortedA (mCons (mVar 10) (mNil))) (mNil))) (mNil))))) (mNil))))
def b_l_crowded : MS := sSeq (sAsg (mCall tupleD (mCons (mCall sortedA (mCons (mSl (mCall (callF f_l_mixed) (mCons (mVar 0) (mCons (mCall (callF f_l_contents) (mCons (mVar 1) (mNil))) (mNil)))) (oNo) (oYes (mBin addA (mC (.int 2)) (mCall (callF f_l_take) (mCons (mVar 0) (mCons (mBin subD (mVar 2) (mC (.int 1))) (mNil))))))) (mNil))) (mNil))) (gSet 3))
    (sSeq (sTupA 3 (gsCons (gSet 6) (gsCons (gSet 7) (gsCons (gSet 8) (gsNil)))) (mCons (mCall lstB (mNil)) (mCons (mCall (callF f_l_take) (mCons (mVar 0) (mCons (mC (.int 5)) (mNil)))) (mCons (mCall (callF f_l_some) (mCons (mVar 0) (mCons (mVar 3) (mNil)))) (mNil)))))
    (sSeq (sFor (iSeq (mVar 3)) (gSet 4) (L_l_crowded_1))
    (sSeq (sIf (tOf (mBin (eqA false) (mVar 7) (mC (.int 1)))) (sAsg (mLc (iSeq (mFrz (mVar 6))) (gSet 11) (tOf (mBin (eqA false) (mBin ixY (mVar 11) (mC (.int 0))) (mVar 8))) (mVar 11) [11] kBox) (gSet 6)) (sNil))
    (sSeq (sIf (tOf (mBin (eqA false) (mVar 7) (mC (.int 2)))) (sAsg (mLc (iSeq (mFrz (mVar 6))) (gSet 11) (tOf (mBin (eqA false) (mBin ixY (mVar 11) (mC (.int 1))) (mVar 8))) (mVar 11) [11] kBox) (gSet 6)) (sNil))
    (sSeq (sAsg (mCall lstB (mNil)) (gSet 5))
    (sSeq (sFor (iSeq (mFrz (mVar 6))) (gTupD 2 (gsCons (gSet 4) (gsCons (gSet 9) (gsNil)))) (L_l_crowded_2))
    (sSeq (sAsg (mSl (mCall (callF f_l_mixed) (mCons (mVar 0) (mCons (mFrzA (mVar 5)) (mNil)))) (oNo) (oYes (vIf (tOf (mBin gtD (mCall (callF f_l_take) (mCons (mVar 0) (mCons (mC (.int 3)) (mNil)))) (mC (.int 0)))) (mC (.int 20)) (mC (.int 5))))) (gSet 5))
    (sRet (mCall tupF (mCons (mVar 1) (mCons (mVar 3) (mCons (mCall tupleD (mCons (mCall sortedA (mCons (mVar 5) (mNil))) (mNil))) (mNil)))))))))))))
def f_l_crowded : FS := runF 12 b_l_crowded
def b_l_cut : MS := sRet (mCall tupleD (mCons (mCall sortedA (mCons (mSl (mCall (callF f_l_mixed) (mCons (mVar 0) (mCons (mCall (callF f_l_contents) (mCons (mVar 1) (mNil))) (mNil)))) (oNo) (oYes (mCall (callF f_l_take) (mCons (mVar 0) (mCons (mBin addA (mVar 2) (mC (.int 1))) (mNil)))))) (mNil))) (mNil)))
def f_l_cut : FS := runF 3 b_l_cut
def L_l_bench_1 : MS := sIf (tOf (mBin leD (mBin mulD (mVar 4) (mC (.int 2))) (mVar 1))) (sSeq (sExpr (mMt appendF (mVar 3) (mCons (mCall (callF f_l_place) (mCons (mVar 0) (mCons (mCall min2D (mCons (mCall (callF f_l_some) (mCons (mVar 0) (mCons (mCall lstF (mCons (mC (.int 6)) (mCons (mC (.int 4)) (mCons (mC (.int 3)) (mCons (mC (.int 3)) (mCons (mC (.int 2)) (mNil))))))) (mNil)))) (mCons (mBin fdivD (mVar 1) (mVar 4)) (mNil)))) (mNil)))) (mNil))))
    (sAsg (mBin mulD (mVar 4) (mBin idxD (mBin idxD (mVar 3) (mNeg (mC (.int 1)))) (mC (.int 0)))) (gSet 4))) (sNil)
def b_l_bench : MS := sSeq (sPar 3 4 (mCons (mCall lstB (mNil)) (mCons (mC (.int 1)) mNil)))
    (sSeq (sFor (iRng1D (mCons (mCall (callF f_l_some) (mCons (mVar 0) (mCons (mCall lstF (mCons (mC (.int 1)) (mCons (mC (.int 2)) (mCons (mC (.int 2)) (mCons (mC (.int 3)) (mCons (mC (.int 3)) (mCons (mC (.int 4)) (mCons (mC (.int 5)) (mNil))))))))) (mNil)))) (mNil))) (gSet 2) (L_l_bench_1))
    (sRet (mCall tupleD (mCons (mVar 3) (mNil)))))
def f_l_bench : FS := runF 5 b_l_bench
def L_l_any_task_1 : MS := sSeq (sAsg (mCall (callF f_l_couple) (mCons (mVar 0) (mCons (mVar 4) (mCons (mVar 6) (mNil))))) (gTupD 2 (gsCons (gSet 8) (gsCons (gSet 9) (gsNil)))))
    (sIf (tOf (mBin (isND true) (mCall (callF f_l_way_by) (mCons (mVar 0) (mCons (mVar 4) (mCons (mVar 8) (mCons (mVar 9) (mCons (mCall lstF (mNil)) (mNil))))))) (mC .none))) (sAsg (mCall (callF f_l_ends) (mCons (mVar 0) (mCons (mVar 6) (mCons (mVar 8) (mCons (mVar 9) (mNil)))))) (gSubD (mVar 7) (mCall tupF (mCons (mVar 8) (mCons (mVar 9) (mNil)))) setX)) (sNil))
def b_l_any_task : MS := sSeq (sAsg (mCall (callF f_l_graph) (mCons (mVar 1) (mNil))) (gSet 4))
    (sSeq (sTupA 2 (gsCons (gSet 6) (gsCons (gSet 7) (gsNil))) (mCons (mCall (callF f_l_rests) (mCons (mVar 0) (mCons (mCall sortedA (mCons (mVar 4) (mNil))) (mCons (mVar 2) (mNil))))) (mCons (mNewN) (mNil))))
    (sSeq (sFor (iRng1D (mCons (mBin mulD (mVar 3) (mCall intD (mCons (mBin gtD (mCall lenD (mCons (mVar 6) (mNil))) (mC (.int 1))) (mNil)))) (mNil))) (gSet 5) (L_l_any_task_1))
    (sRet (mCall tupF (mCons (mVar 1) (mCons (mVar 6) (mCons (mCall tupleD (mCons (mLc (iSeq (mCall sortedA (mCons (mVar 7) (mNil)))) (gSet 10) (tTrue) (mBin addA (mVar 10) (mCall tupF (mCons (mBin ixY (mVar 7) (mVar 10)) (mNil)))) [10] kFrz) (mNil))) (mNil))))))))
def f_l_any_task : FS := runF 11 b_l_any_task
def L_l_crossing_1 : MS := sSeq (sAsg (mSl (mVar 5) (oNo) (oYes (mC (.int 2)))) (gTupD 2 (gsCons (gSet 6) (gsCons (gSet 7) (gsNil)))))
    (sIf (tOrD (tOf (mBin (inX false) (mVar 6) (mVar 1))) (tOrD (tOf (mBin (inX false) (mVar 7) (mVar 1))) (tOf (mBin (inX true) (mVar 7) (mCall (callF f_l_reached) (mCons (mVar 3) (mCons (mCall lstF (mCons (mVar 6) (mNil))) (mCons (mVar 1) (mNil))))))))) (sExpr (mMt appendF (mVar 2) (mCons (mVar 4) (mNil)))) (sNil))
def b_l_crossing : MS := sSeq (sPar 3 2 (mCons (mCall (callF f_l_graph) (mCons (mBin ixY (mVar 0) (mC (.int 0))) (mNil))) (mCons (mCall lstB (mNil)) mNil)))
    (sSeq (sFor (iEnumD (mCons (mBin ixY (mVar 0) (mC (.int 2))) (mNil))) (gTupD 2 (gsCons (gSet 4) (gsCons (gSet 5) (gsNil)))) (L_l_crossing_1))
    (sRet (mFrzA (mVar 2))))
def f_l_crossing : FS := runF 8 b_l_crossing
def L_l_right_1 : MS := sSeq (sAsg (mCall (callF f_crossing_orders) (mCons (mVar 1) (mCons (mVar 4) (mNil)))) (gSet 8))
    (sSeq (sIf (tNotD (tTru (mCall (callF f_l_alike) (mCons (mVar 8) (mCons (mVar 5) (mNil)))))) (sRet (mC (.bool false))) (sNil))
    (sSeq (sExpr (mMt appendF (mVar 8) (mCons (mC .none) (mNil))))
    (sExpr (mMt reverseF (mVar 8) mNil))))
def L_l_right_2 : MS := sSeq (sAsg (mCall (callF f_l_crossing) (mCons (mVar 1) (mCons (mVar 4) (mNil)))) (gSet 5))
    (sSeq (sFor (iRng1D (mCons (mC (.int 2)) (mNil))) (gSet 6) (L_l_right_1))
    (sSeq (sAsg (mCall tupleD (mCons (mSortSet (mBin addA (mVar 4) (mCall tupF (mCons (mCall (callF f_l_some) (mCons (mVar 0) (mCons (mVar 2) (mNil)))) (mNil))))) (mNil))) (gSet 7))
    (sIf (tOf (mBin (eqA true) (mLc (iSeq (mVar 5)) (gSet 10) (tOf (mBin (inX true) (mVar 10) (mFrzA (mCall (callF f_crossing_orders) (mCons (mVar 1) (mCons (mVar 7) (mNil))))))) (mVar 10) [10] kFrz) (mCall lstF (mNil)))) (sRet (mC (.bool false))) (sNil))))
def b_l_right : MS := sSeq (sAsg (mCall tupleD (mCons (mCall (callF f_l_contents) (mCons (mBin ixY (mVar 1) (mC (.int 0))) (mNil))) (mNil))) (gSet 2))
    (sSeq (sAsg (mBin addA (mCall lstF (mCons (mCall tupF (mNil)) (mCons (mVar 2) (mCons (mBin ixY (mVar 1) (mC (.int 1))) (mNil))))) (mLc (iRng1D (mCons (mC (.int 5)) (mNil))) (gSet 9) (tTrue) (mCall (callF f_l_cut) (mCons (mVar 0) (mCons (mBin ixY (mVar 1) (mC (.int 0))) (mCons (mCall (callF f_l_some) (mCons (mVar 0) (mCons (mCall lstF (mCons (mC (.int 1)) (mCons (mC (.int 3)) (mCons (mC (.int 8)) (mNil))))) (mNil)))) (mNil))))) [9] kFrz)) (gSet 3))
    (sSeq (sFor (iSeq (mVar 3)) (gSet 4) (L_l_right_2))
    (sRet (mC (.bool true)))))
def f_l_right : FS := runF 11 b_l_right
def L_law_1 : MS := sSeq (sAsg (mCall (callF f_l_bench) (mCons (mVar 1) (mCons (mCall (callF f_l_some) (mCons (mVar 1) (mCons (mCall lstF (mCons (mC (.int 36)) (mCons (mC (.int 12)) (mCons (mC (.int 24)) (mCons (mC (.int 6)) (mNil)))))) (mNil)))) (mNil)))) (gSet 3))
    (sSeq (sAsg (vIf (tOf (mBin ltD (mVar 2) (mC (.int 2)))) (mCall (callF f_l_crowded) (mCons (mVar 1) (mCons (mVar 3) (mCons (mC (.int 8)) (mNil))))) (mCall (callF f_l_any_task) (mCons (mVar 1) (mCons (mVar 3) (mCons (mC (.int 8)) (mCons (mC (.int 12)) (mNil))))))) (gSet 4))
    (sSeq (sAsg (mCall reprD (mCons (mVar 4) (mNil))) (gSet 5))
    (sIf (tOrD (tNotD (tTru (mCall (callF f_l_right) (mCons (mVar 1) (mCons (mVar 4) (mNil)))))) (tOf (mBin (eqA true) (mCall reprD (mCons (mVar 4) (mNil))) (mVar 5)))) (sRet (mC (.bool false))) (sNil))))
def b_law : MS := sSeq (sAsg (mCall (callF f_l_bag) (mCons (mVar 0) (mNil))) (gSet 1))
    (sSeq (sFor (iRng1D (mCons (mC (.int 4)) (mNil))) (gSet 2) (L_law_1))
    (sRet (mC (.bool true))))
def f_law : FS := runF 6 b_law
end K62
end
noncomputable section
namespace K62
open PySem PySem.Spec PyProof.Rows L2 DL K17
theorem e_take : K62.f_l_take = fTake := rfl
theorem e_some : K62.f_l_some = fSome := rfl
theorem e_mixed : K62.f_l_mixed = fMixed := rfl
theorem e_contents : K62.f_l_contents = K17.f_l_contents := rfl
theorem e_steps : K62.f_l_steps = K17.f_l_steps := rfl
def Holds (w : PyData) (bs : List (List Int)) : Prop := w = .list (bs.map tI) ∨ w = .tuple (bs.map tI)
theorem eqv_any (c : List Int) (l : List (List Int)) : ((l.map tI).any fun z => PyData.eqv z (tI c)) = decide (c ∈ l) := by
  induction l with
  | nil => simp
  | cons x xs ih =>
    rw [List.map_cons, List.any_cons, ih, eqv_tI]
    simp only [List.mem_cons]
    by_cases h : x = c
    · subst h; simp
    · have : c ≠ x := fun e => h e.symm
      by_cases h2 : c ∈ xs <;> simp [h, this, h2]
theorem lay_l (l : List (List Int)) : PyData.canLayAll0 (l.map tI) = true ∧ PyData.depthAll (l.map tI) ≤ 1 := by
  induction l with
  | nil => exact ⟨rfl, by decide⟩
  | cons x l ih =>
    refine ⟨by simp only [List.map_cons, PyData.canLayAll0, ih.1, Bool.and_true]; simp [tI, PyData.canLay0, lay_ints], ?_⟩
    simp only [List.map_cons, PyData.depthAll, dep_tI]
    exact Nat.max_le.mpr ⟨Nat.le_refl _, ih.2⟩
theorem shaped_l (l : List (List Int)) : SeqAt.shaped (.list (l.map tI)) = true := by
  have h := lay_l l
  have d : (PyData.list (l.map tI)).depth ≤ 64 := by simp only [PyData.depth]; exact Nat.le_trans (Nat.succ_le_succ h.2) (by decide)
  simp only [SeqAt.shaped, PyData.canLay0, h.1, Bool.true_and, decide_eq_true_eq]
  exact d
theorem in_holds {w : PyData} {bs : List (List Int)} {c : List Int} {S : Sto} (neg : Bool) (h : Holds w bs) : inX neg (.d (tI c)) (.d w) S = some (.d (.bool (decide (c ∈ bs) ^^ neg)), S) := by
  have h1 := shaped_l bs
  have h2 := shaped_tI c
  have h3 := eqv_any c bs
  have h4 : deref S (.d (tI c)) = some (tI c) := rfl
  rcases h with rfl | rfl
  · have h5 : seqOf S (.d (.list (bs.map tI))) = some (bs.map tI) := rfl
    simp only [inX, isDicA, isDic, Bool.false_eq_true, if_false, inA, h4, h5, Option.bind_some, h1, h2, h3, Bool.and_self, if_true]
  · have h5 : seqOf S (.d (.tuple (bs.map tI))) = some (bs.map tI) := rfl
    simp only [inX, isDicA, isDic, Bool.false_eq_true, if_false, inA, h4, h5, Option.bind_some, h1, h2, h3, Bool.and_self, if_true]
section
variable {β : Type} {f : β → W} {found : List (List Int × β)} {x : List Int} {v : β} {n : Nat} {S : Sto}
theorem inX_tab (neg : Bool) (hS : S[n]? = some (.dicT (tabF f found))) : inX neg (.d (tI x)) (.loc n) S = some (.d (.bool (decide (x ∈ found.map (·.1)) ^^ neg)), S) := by
  have h : dlookA S (.loc n) (.d (tI x)) = dlook S (.loc n) (.d (tI x)) := rfl
  simp only [inX, isDicA, isDic, hS, if_true, h, look_tab hS, Option.map_some, Option.isSome_map, find_isSome]
theorem ix_tab (hS : S[n]? = some (.dicT (tabF f found))) (hn : (found.map (·.1)).Nodup) (h : (x, v) ∈ found) : ixY (.loc n) (.d (tI x)) S = some (f v, S) := by
  have h1 : dlookA S (.loc n) (.d (tI x)) = dlook S (.loc n) (.d (tI x)) := rfl
  simp only [ixY, isN, hS, Bool.false_eq_true, if_false, ixX, isDicA, isDic, if_true, dgetA, h1, look_tab hS, find_at hn h, Option.map_some, Option.bind_some]
theorem tab_ne {β : Type} {f : β → W} {l : List (List Int × β)} (h0 : ∀ q ∈ l, q.1 ≠ []) : ((tabF f l).any fun q => q.1.isEmpty) = false := by
  rw [Bool.eq_false_iff]
  intro z
  obtain ⟨q, hq, e⟩ := List.any_eq_true.mp z
  obtain ⟨p, hp, rfl⟩ := List.mem_map.mp hq
  have := h0 p hp
  cases hp1 : p.1 with
  | nil => exact this hp1
  | cons y c => simp [hp1, kc] at e
theorem set_tab (hx : x ≠ []) (hS : S[n]? = some (.dicT (tabF f found))) (h : x ∉ found.map (·.1)) (hl : found.length < sizeLine) : setX (.loc n) (.d (tI x)) (f v) S = some (S.set n (.dicT (tabF f (found ++ [(x, v)])))) := by
  simp only [setX, isN, hS, Bool.false_eq_true, if_false, isDic, if_true, put_tab hx hS h hl]
end
theorem sortable_cI {l : List (List Int)} (h0 : ∀ a ∈ l, a ≠ []) : sortable (l.map cI) = true := by
  simp only [sortable, Bool.and_eq_true, List.all_eq_true, List.mem_map, decide_eq_true_eq]
  refine ⟨?_, ?_⟩
  · rintro _ ⟨a, ha, rfl⟩
    refine ⟨?_, by rw [toP_cI, dep_tI]; decide⟩
    cases a with
    | nil => exact absurd rfl (h0 _ ha)
    | cons x a => rfl
  · rintro _ ⟨a, ha, rfl⟩ _ ⟨b, hb, rfl⟩
    exact kind_cI a b
theorem sort_l {l : List (List Int)} {S : Sto} (h0 : ∀ a ∈ l, a ≠ []) : sortedA [.d (.list (l.map tI))] S = some (.d (.list ((sortL l).map tI)), S) := by
  have := sorted_ev (l := l) (S := S) (w := .d (.list (l.map tI))) h0 rfl
  rw [sortL_tI] at this
  simp only [sortedA, isDicN, isN, isDicA, isDic, isTupD, Bool.or_self, Bool.false_eq_true, if_false, this]
def fA (b : List Pl) (x : List Int) : PyData := .list ((adjC b x).map tI)
def graD (b : List Pl) : PyData := .dict ((conts b).map fun c => (tI c, fA b c))
theorem pairs_gra (b : List Pl) (l : List (List Int)) (h0 : ∀ c ∈ l, c ≠ []) : pairsT (l.map fun c => .tuple [tI c, fA b c]) = some (tabF (fun x => .d (fA b x)) (l.map fun x => (x, x))) := by
  induction l with
  | nil => rfl
  | cons c l ih =>
    simp only [List.map_cons]
    have : pairsT (.tuple [tI c, fA b c] :: l.map fun c => .tuple [tI c, fA b c]) = (keysE (c.map .int)).bind fun k => (pairsT (l.map fun c => .tuple [tI c, fA b c])).map fun r => (k, .d (fA b c)) :: r := rfl
    rw [this, keysE_tI (h0 c (by simp)), ih fun c hc => h0 c (by simp [hc])]; rfl
theorem l_steps_ev {b : List Pl} {c : List Int} (g : Good b) (hc : Fits c b) (S : Sto) : callF K62.f_l_steps [.d (bn b), .d (tI c)] S = some (.d (fA b c), S) := by
  rw [e_steps, l_steps_ok g hc, sortL_tI]; rfl
theorem frz_gra {b : List Pl} (h0 : ∀ c ∈ conts b, c ≠ []) : frzO (.dicT (tabF (fun x => .d (fA b x)) ((conts b).map fun x => (x, x)))) = some (graD b) := by
  have h1 : (tabF (fun x => W.d (fA b x)) ((conts b).map fun x => (x, x))).map (·.2) = ((conts b).map fun x => fA b x).map W.d := by
    unfold tabF; rw [List.map_map, List.map_map, List.map_map]; rfl
  have h2 : ((tabF (fun x => W.d (fA b x)) ((conts b).map fun x => (x, x))).map fun q => PyData.tuple (q.1.map keyP)) = (conts b).map tI := by
    unfold tabF; rw [List.map_map, List.map_map]
    refine List.map_congr_left fun x _ => ?_
    simp only [Function.comp, tI, kc, List.map_map]
    rfl
  have h3 : ((tabF (fun x => W.d (fA b x)) ((conts b).map fun x => (x, x))).any fun q => q.1.isEmpty) = false := tab_ne fun q hq => by
    obtain ⟨c, hc, rfl⟩ := List.mem_map.mp hq
    exact h0 c hc
  simp only [frzO, h3, Bool.false_eq_true, if_false, h1, allD_map, Option.map_some, h2]
  rw [List.zip_map']; rfl
theorem graph_ok {b : List Pl} (g : Good b) (S : Sto) : callF K62.f_l_graph [.d (bn b)] S = some (.d (graD b), S) := by
  have e := lc_e (it := iSeq (mCall (callF K62.f_l_contents) (mCons (mVar 0) (mNil)))) (g := gSet 1) (T := tTrue) (E := mCall tupF (mCons (mVar 1) (mCons (mCall (callF K62.f_l_steps) (mCons (mVar 0) (mCons (mVar 1) (mNil)))) (mNil)))) (vs := [1]) (ρ := [some (.d (bn b)), none]) (S := []) tI (fun _ => true) (fun c => .tuple [tI c, fA b c]) (l := conts b) (by
    simp only [iSeq, mCall, mCons, mNil, mVar, List.getElem?_cons_zero, Option.bind_some, e_contents, l_contents_ok g]) (fun c hc => by
    refine ⟨[some (.d (bn b)), some (.d (tI c))], by simp [gSet, wipeD], rfl, fun _ => ?_⟩
    simp only [mCall, mCons, mNil, mVar, List.getElem?_cons_succ, List.getElem?_cons_zero, Option.bind_some, l_steps_ev g (inV.mp hc), tupF, allD, Option.map_some, List.length_cons, List.length_nil]
    rw [if_pos (show 0 + 1 + 1 ≤ sizeLine from sz2)]) (by
    rw [List.filter_eq_self.mpr fun _ _ => rfl]
    exact sz_of (by have := g.clen; omega))
  rw [List.filter_eq_self.mpr fun _ _ => rfl] at e
  have hn : ((tabF (fun x => W.d (fA b x)) ((conts b).map fun x => (x, x))).map (·.1)).Nodup := by
    have : (tabF (fun x => W.d (fA b x)) ((conts b).map fun x => (x, x))).map (·.1) = (conts b).map kc := by
      unfold tabF; rw [List.map_map, List.map_map]; rfl
    rw [this]
    exact List.Pairwise.map _ (R := fun a b => a ≠ b) (fun a b hab e => hab (kc_inj e)) (conts_nodup _ rfl)
  refine callF_pure rfl (runF_ret0 ⟨[some (.d (bn b)), none], [.dead], ?_⟩)
  show K62.b_l_graph [some (.d (bn b)), none] [] = _
  unfold K62.b_l_graph
  simp only [sRet, mFrzA, mCall, mCons, mNil] at e ⊢
  simp only [e, Option.bind_some, dictP, on1, deref, pairs_gra b (conts b) fun c hc => ne_of_fits g (inV.mp hc)]
  rw [if_pos hn]
  simp only [Option.bind_some, List.length_nil, List.nil_append, List.getElem?_cons_zero, frz_gra fun c hc => ne_of_fits g (inV.mp hc), Option.map_some]
  rfl
theorem keyTP_tI (c : List Int) : keyTP (tI c) = some (kc c) := keys_tI c
theorem find_gra {f : List Int → PyData} {x : List Int} : ∀ {l : List (List Int)}, x ∈ l → ((l.map fun c => (tI c, f c)).find? fun q => decide (keyTP q.1 = some (kc x))) = some (tI x, f x)
  | [], h => by cases h
  | c :: l, h => by
    rw [List.map_cons, List.find?_cons, keyTP_tI]
    by_cases e : c = x
    · subst e; simp
    · have : ¬ some (kc c) = some (kc x) := fun z => e (kc_inj (Option.some.inj z))
      simp only [this, decide_false]
      rcases List.mem_cons.mp h with z | z
      · exact absurd z.symm e
      · exact find_gra z
theorem gra_get {b : List Pl} {x : List Int} {S : Sto} (hx : x ∈ conts b) : ixY (.d (graD b)) (.d (tI x)) S = some (.d (fA b x), S) := by
  have h1 : (((conts b).map fun c => (tI c, fA b c)).all fun q => !atomP q.1) = true := by
    rw [List.all_eq_true]
    intro q hq
    obtain ⟨c, _, rfl⟩ := List.mem_map.mp hq
    rfl
  have h2 : lookP ((conts b).map fun c => (tI c, fA b c)) (tI x) = some (some (fA b x)) := by
    unfold lookP
    rw [if_pos (show atomP (tI x) = false from rfl), if_pos h1, keyTP_tI, Option.map_some, find_gra hx]; rfl
  have h3 : dlookA S (.d (graD b)) (.d (tI x)) = some (some (.d (fA b x))) := by
    show (lookP ((conts b).map fun c => (tI c, fA b c)) (tI x)).map (Option.map W.d) = _
    rw [h2]; rfl
  simp only [ixY, isN, Bool.false_eq_true, if_false, ixX, show isDicA S (.d (graD b)) = true from rfl, if_true, dgetA, h3, Option.bind_some, Option.map_some]
theorem gra_keys {b : List Pl} {S : Sto} (g : Good b) : sortedA [.d (graD b)] S = some (.d (.list ((sortL (conts b)).map tI)), S) := by
  have e1 : keysP S (.d (graD b)) = some ((conts b).map tI) := by
    simp only [keysP, graD, List.map_map]; rfl
  have e2 : ofPs ((conts b).map tI) = some ((conts b).map cI) := ofPs_map fun a _ => ofP_tI a
  have e3 := sortable_cI (l := conts b) fun a ha => ne_of_fits g (inV.mp ha)
  have e5 : toPs (sortC ((conts b).map cI)) = (sortL (conts b)).map tI := sortL_tI _
  simp only [sortedA, show isDicN S (.d (graD b)) = true from rfl, if_true, sortedKX, on1, e1, Option.bind_some, e2, e3, e5]
end K62
end
noncomputable section
namespace K62
open PySem PySem.Spec PyProof.Rows L2 DL K17
def fB (p : Option (List Int)) : W := match p with
  | some c => .d (tI c)
  | none => .d .none
structure WInv (b : List Pl) (s : List Int) (found : List (List Int × Option (List Int))) : Prop where
  nd : (found.map (·.1)).Nodup
  fits : ∀ q ∈ found, Fits q.1 b
  par : ∀ i x p, found[i]? = some (x, p) → (i = 0 ∧ x = s) ∨ ∃ j y q, j < i ∧ p = some y ∧ found[j]? = some (y, q)
theorem WInv.add {b : List Pl} {s x y : List Int} {found : List (List Int × Option (List Int))} (h : WInv b s found) (hx : x ∉ found.map (·.1)) (hf : Fits x b) (hy : y ∈ found.map (·.1)) : WInv b s (found ++ [(x, some y)]) := by
  refine ⟨?_, fun q hq => ?_, fun i z p hi => ?_⟩
  · rw [List.map_append, List.nodup_append]
    refine ⟨h.nd, by simp, fun a ha c hc => ?_⟩
    have : c = x := by simpa using hc
    rw [this]; rintro rfl; exact hx ha
  · rcases List.mem_append.mp hq with z | z
    · exact h.fits q z
    · rw [List.mem_singleton.mp z]; exact hf
  · by_cases hlt : i < found.length
    · rw [List.getElem?_append_left hlt] at hi
      rcases h.par i z p hi with c | ⟨j, y', q, h1, h2, h3⟩
      · exact .inl c
      · exact .inr ⟨j, y', q, h1, h2, by rw [List.getElem?_append_left (by omega)]; exact h3⟩
    · right
      have hi2 : i < (found ++ [(x, some y)]).length := (List.getElem?_eq_some_iff.mp hi).1
      have : i = found.length := by simp at hi2; omega
      subst this
      have e : (x, some y) = (z, p) := by simpa using hi
      cases e
      obtain ⟨q, hq, rfl⟩ := List.mem_map.mp hy
      obtain ⟨j, hj, ej⟩ := List.getElem_of_mem hq
      exact ⟨j, q.1, q.2, by omega, rfl, by rw [List.getElem?_append_left hj, List.getElem?_eq_getElem hj, ej]⟩
theorem WInv.len {b : List Pl} {s : List Int} {found : List (List Int × Option (List Int))} (h : WInv b s found) : found.length ≤ (conts b).length := by
  have h1 : (found.map (·.1)).length ≤ (conts b).length := List.Nodup.length_le_of_subset h.nd fun x hx => by
    obtain ⟨q, hq, rfl⟩ := List.mem_map.mp hx
    exact inV.mpr (h.fits q hq)
  rwa [List.length_map] at h1
def wbS (ob : Ob) (found : List (List Int × Option (List Int))) (junk : Sto) (later : List (List Int)) : Sto := ob :: .dicT (tabF fB found) :: (junk ++ [.lst ((later.map tI).map W.d)])
theorem wb_step {ob : Ob} {found : List (List Int × Option (List Int))} {junk : Sto} {later bs : List (List Int)} {y x t : List Int} {w : PyData} {z1 z2 z5 z6 : Option W} (hx0 : x ≠ []) (hw : Holds w bs) (hl : found.length ≤ 100000) (hf : later.length ≤ 100000) :
    ∃ found2 later2, L_l_way_by_1 [some (.loc 0), z1, z2, some (.d (tI t)), some (.d w), z5, z6, some (.loc 1), some (.loc (2 + junk.length)), some (.d (tI y)), some (.d (tI x))] (wbS ob found junk later) =
      some (.nx, [some (.loc 0), z1, z2, some (.d (tI t)), some (.d w), z5, z6, some (.loc 1), some (.loc (2 + junk.length)), some (.d (tI y)), some (.d (tI x))], wbS ob found2 junk later2) ∧
      ((found2 = found ∧ later2 = later) ∨ (x ∉ found.map (·.1) ∧ found2 = found ++ [(x, some y)] ∧ later2 = later ++ [x])) := by
  have hS : (wbS ob found junk later)[1]? = some (.dicT (tabF fB found)) := rfl
  have hd := inX_tab (x := x) true hS
  have hi := fun S => in_holds (c := x) (S := S) true hw
  obtain ⟨r, hr⟩ : ∃ r : Bool, (!decide (x ∈ found.map (·.1)) && (decide (x = t) || !decide (x ∈ bs))) = r := ⟨_, rfl⟩
  have ht : tAndD (tOf (mBin (inX true) (mVar 10) (mVar 7))) (tOrD (tOf (mBin (eqA false) (mVar 10) (mVar 3))) (tOf (mBin (inX true) (mVar 10) (mVar 4)))) [some (.loc 0), z1, z2, some (.d (tI t)), some (.d w), z5, z6, some (.loc 1), some (.loc (2 + junk.length)), some (.d (tI y)), some (.d (tI x))] (wbS ob found junk later) = some (r, wbS ob found junk later) := by
    rw [← hr]
    have hd' := hd
    obtain ⟨d, hdd⟩ : ∃ d, decide (x ∈ found.map (·.1)) = d := ⟨_, rfl⟩
    rw [hdd] at hd' ⊢
    simp only [tAndD, tOrD, tOf, mBin, mVar, List.getElem?_cons_succ, List.getElem?_cons_zero, Option.bind_some, hd', eq_tI, hi]
    cases d <;> by_cases h2 : x = t <;> simp [h2]
  unfold L_l_way_by_1
  cases r with
  | false =>
    rw [if_f ht]
    exact ⟨found, later, rfl, .inl ⟨rfl, rfl⟩⟩
  | true =>
    have hx : x ∉ found.map (·.1) := fun z => by
      rw [decide_eq_true z] at hr; cases hr
    rw [if_t ht]
    have hpp := set_tab (f := fB) (v := some y) hx0 hS hx (Nat.lt_of_le_of_lt hl (by decide))
    have hset : (wbS ob found junk later).set 1 (.dicT (tabF fB (found ++ [(x, some y)]))) = wbS ob (found ++ [(x, some y)]) junk later := rfl
    rw [hset] at hpp
    have hS2 : (wbS ob (found ++ [(x, some y)]) junk later)[2 + junk.length]? = some (.lst ((later.map tI).map W.d)) := by
      rw [show 2 + junk.length = junk.length + 1 + 1 by omega]
      simp [wbS]
    have ha := append_ev (w := .d (tI x)) hS2 (by
      rw [List.length_map, List.length_map]
      have : 100000 < sizeLine := by decide
      omega)
    have hset2 : (wbS ob (found ++ [(x, some y)]) junk later).set (2 + junk.length) (.lst ((later.map tI).map W.d ++ [.d (tI x)])) = wbS ob (found ++ [(x, some y)]) junk (later ++ [x]) := by
      rw [show 2 + junk.length = junk.length + 1 + 1 by omega]
      simp [wbS]
    rw [hset2] at ha
    have hil : isLst (wbS ob (found ++ [(x, some y)]) junk later) (.loc (2 + junk.length)) = true := by simp only [isLst, hS2]
    refine ⟨_, _, ?_, .inr ⟨hx, rfl, rfl⟩⟩
    have hpp' : setX (.loc 1) (.d (tI x)) (.d (tI y)) (wbS ob found junk later) = some (wbS ob (found ++ [(x, some y)]) junk later) := hpp
    rw [seq_nx (ρ1 := [some (.loc 0), z1, z2, some (.d (tI t)), some (.d w), z5, z6, some (.loc 1), some (.loc (2 + junk.length)), some (.d (tI y)), some (.d (tI x))]) (S1 := wbS ob (found ++ [(x, some y)]) junk later) (by
      simp only [sAsg, mVar, List.getElem?_cons_succ, List.getElem?_cons_zero, Option.bind_some, gSubD, hpp'])]
    simp only [sExpr, mMt, mVar, mCons, mNil, List.getElem?_cons_succ, List.getElem?_cons_zero, Option.bind_some, hil, if_true, ha]
section
variable {b : List Pl} {s t : List Int} {bs : List (List Int)} {w : PyData}
/-- within a level -/
def WM (b : List Pl) (s : List Int) (found found2 : List (List Int × Option (List Int))) (later2 : List (List Int)) : Prop := WInv b s found2 ∧ ∃ ext, found2 = found ++ ext ∧ later2 = ext.map (·.1)
theorem wb_row {c : Nat} {ob : Ob} {found found2 : List (List Int × Option (List Int))} {junk : Sto} {later2 : List (List Int)} {y : List Int} {z2 z5 z6 z10 : Option W} (g : Good b) (hw : Holds w bs) (M : WM b s found found2 later2) (hy : y ∈ found.map (·.1)) (hb : BagOk c ob) (hc : c + 200 < 2 ^ 1000) :
    ∃ ob' found3 later3 y10, L_l_way_by_2 [some (.loc 0), some (.d (graD b)), z2, some (.d (tI t)), some (.d w), z5, z6, some (.loc 1), some (.loc (2 + junk.length)), some (.d (tI y)), z10] (wbS ob found2 junk later2) =
      some (.nx, [some (.loc 0), some (.d (graD b)), z2, some (.d (tI t)), some (.d w), z5, z6, some (.loc 1), some (.loc (2 + junk.length)), some (.d (tI y)), y10], wbS ob' found3 junk later3) ∧ WM b s found found3 later3 ∧ BagOk (c + 200) ob' := by
  obtain ⟨q, hq, rfl⟩ := List.mem_map.mp hy
  have hyf : Fits q.1 b := by
    obtain ⟨hw2, ext, e1, e2⟩ := M
    exact hw2.fits q (by rw [e1]; exact List.mem_append_left _ hq)
  have hal : (adjC b q.1).length ≤ 180 := by
    have h1 := (sortL_perm (stp q.1 0 b)).length_eq
    have h2 := stp_len q.1 0 b fun p hp => (g.pl p hp).len
    have h3 := g.len
    show (sortL (stp q.1 0 b)).length ≤ 180
    omega
  obtain ⟨ys, ob1, e1, hp, hb1⟩ := mixed_ok (S := wbS ob found2 junk later2) (n := 0) (xs := (adjC b q.1).map tI) rfl hb (by rw [List.length_map]; omega) (by rw [List.length_map]; exact sz_of (by omega))
  obtain ⟨r, hr, rfl⟩ := perm_map_ex hp
  rw [List.length_map] at hb1
  have hset : (wbS ob found2 junk later2).set 0 ob1 = wbS ob1 found2 junk later2 := rfl
  rw [hset] at e1
  obtain ⟨ρ', S', e, found3, later3, y10, rfl, rfl, M3⟩ := forL_J (g := gSet 10) (F := L_l_way_by_1) (ws := (r.map tI).map W.d) (k := 0)
    (J := fun j ρ S => ∃ found3 later3 y10, ρ = [some (.loc 0), some (.d (graD b)), z2, some (.d (tI t)), some (.d w), z5, z6, some (.loc 1), some (.loc (2 + junk.length)), some (.d (tI q.1)), y10] ∧ S = wbS ob1 found3 junk later3 ∧ WM b s found found3 later3)
    (ρ := [some (.loc 0), some (.d (graD b)), z2, some (.d (tI t)), some (.d w), z5, z6, some (.loc 1), some (.loc (2 + junk.length)), some (.d (tI q.1)), z10]) (S := wbS ob1 found2 junk later2) (fun j v ρ S hv ⟨found3, later3, y10, q1, q2, M3⟩ => by
      subst q1 q2
      simp only [List.getElem?_map, Option.map_eq_some_iff, Nat.zero_add] at hv ⊢
      obtain ⟨_, ⟨x, hx, rfl⟩, rfl⟩ := hv
      have hxf : Fits x b := adj_fits g hyf (hr.subset (List.mem_of_getElem? hx))
      obtain ⟨hw3, ext, e3, e4⟩ := M3
      have hl3 := hw3.len
      have hc3 := g.clen
      have hll : later3.length ≤ found3.length := by rw [e3, e4, List.length_map, List.length_append]; omega
      obtain ⟨f4, l4, e5, h5⟩ := wb_step (ob := ob1) (found := found3) (junk := junk) (later := later3) (y := q.1) (x := x) (t := t) (z1 := some (.d (graD b))) (z2 := z2) (z5 := z5) (z6 := z6) (ne_of_fits g hxf) hw (by omega) (by omega)
      refine ⟨_, _, Eq.trans (by simp [gSet]) e5, f4, l4, _, rfl, rfl, ?_⟩
      rcases h5 with ⟨rfl, rfl⟩ | ⟨h6, rfl, rfl⟩
      · exact ⟨hw3, ext, e3, e4⟩
      · refine ⟨hw3.add h6 hxf ?_, ext ++ [(x, some q.1)], by rw [e3, List.append_assoc], by rw [e4]; simp⟩
        rw [e3, List.map_append]
        exact List.mem_append_left _ hy) ⟨found2, later2, z10, rfl, rfl, M⟩
  refine ⟨ob1, found3, later3, y10, ?_, M3, hb1.up (by omega)⟩
  have hgg := fun S => gra_get (b := b) (x := q.1) (S := S) (inV.mpr hyf)
  unfold L_l_way_by_2
  rw [sFor]
  rw [show iSeq (mCall (callF K62.f_l_mixed) (mCons (mVar 0) (mCons (mBin ixY (mVar 1) (mVar 9)) (mNil)))) [some (.loc 0), some (.d (graD b)), z2, some (.d (tI t)), some (.d w), z5, z6, some (.loc 1), some (.loc (2 + junk.length)), some (.d (tI q.1)), z10] (wbS ob found2 junk later2) = some ((r.map tI).map W.d, wbS ob1 found2 junk later2) by
    simp only [iSeq, mCall, mCons, mNil, mBin, mVar, List.getElem?_cons_succ, List.getElem?_cons_zero, Option.bind_some, hgg, fA, e_mixed, e1]]
  exact e
theorem wb_level {c : Nat} {ob : Ob} {found : List (List Int × Option (List Int))} {front : List (List Int)} {junk : Sto} {z2 z5 z6 z9 z10 : Option W} (g : Good b) (hw : Holds w bs) (hv : WInv b s found) (hf : ∀ x ∈ front, x ∈ found.map (·.1)) (hb : BagOk c ob) (hc : c + 200 * front.length + 200 < 2 ^ 1000) :
    ∃ ob' found3 later3 y9 y10, forL (gSet 9) L_l_way_by_2 ((front.map tI).map W.d) [some (.loc 0), some (.d (graD b)), z2, some (.d (tI t)), some (.d w), z5, z6, some (.loc 1), some (.loc (2 + junk.length)), z9, z10] (wbS ob found junk []) =
      some (.nx, [some (.loc 0), some (.d (graD b)), z2, some (.d (tI t)), some (.d w), z5, z6, some (.loc 1), some (.loc (2 + junk.length)), y9, y10], wbS ob' found3 junk later3) ∧ WM b s found found3 later3 ∧ BagOk (c + 200 * front.length) ob' := by
  obtain ⟨ρ', S', e, ob', found3, later3, y9, y10, rfl, rfl, M3, hb'⟩ := forL_J (g := gSet 9) (F := L_l_way_by_2) (ws := (front.map tI).map W.d) (k := 0)
    (J := fun i ρ S => ∃ ob' found3 later3 y9 y10, ρ = [some (.loc 0), some (.d (graD b)), z2, some (.d (tI t)), some (.d w), z5, z6, some (.loc 1), some (.loc (2 + junk.length)), y9, y10] ∧ S = wbS ob' found3 junk later3 ∧ WM b s found found3 later3 ∧ BagOk (c + 200 * i) ob')
    (ρ := [some (.loc 0), some (.d (graD b)), z2, some (.d (tI t)), some (.d w), z5, z6, some (.loc 1), some (.loc (2 + junk.length)), z9, z10]) (S := wbS ob found junk []) (fun i v ρ S hv' ⟨ob', found3, later3, y9, y10, q1, q2, M3, hb'⟩ => by
      subst q1 q2
      simp only [List.getElem?_map, Option.map_eq_some_iff, Nat.zero_add] at hv' hb' ⊢
      obtain ⟨_, ⟨u, hu, rfl⟩, rfl⟩ := hv'
      have hi : i < front.length := (List.getElem?_eq_some_iff.mp hu).1
      obtain ⟨ob2, f4, l4, y10', e4, M4, hb4⟩ := wb_row (t := t) (junk := junk) (z2 := z2) (z5 := z5) (z6 := z6) (z10 := y10) g hw M3 (hf u (List.mem_of_getElem? hu)) hb' (by omega)
      exact ⟨_, _, Eq.trans (by simp [gSet]) e4, ob2, f4, l4, _, _, rfl, rfl, M4, hb4.up (by omega)⟩) ⟨ob, found, [], z9, z10, rfl, rfl, ⟨hv, [], by simp, rfl⟩, by simpa using hb⟩
  simp only [Nat.zero_add, List.length_map] at e hb'
  exact ⟨_, _, _, _, _, e, M3, hb'⟩
theorem ne_nil (l : List (List Int)) (S : Sto) : eqA true (.d (.list (l.map tI))) (.d (.list [])) S = some (.d (.bool (!l.isEmpty)), S) := by
  have h1 := shaped_l l
  have h2 : SeqAt.shaped (.list []) = true := by decide
  have h3 : PyData.eqv (.list (l.map tI)) (.list []) = l.isEmpty := by cases l <;> simp [PyData.eqv, PyData.eqvAll]
  simp [eqA, eqD, deref, h1, h2, h3]
theorem insert_ev {ws : List W} {w : W} {S : Sto} {j : Nat} (hS : S[j]? = some (.lst ws)) (h : ws.length < sizeLine) : insertF (.loc j) [.d (.int 0), w] S = some (.d .none, S.set j (.lst (w :: ws))) := by
  have hv : ws.length < sizeLine ∧ (0 : Int) ≤ 0 ∧ (0 : Int) < 2 ^ 63 := ⟨h, by decide, by decide⟩
  simp only [insertF, onL, hS, if_pos hv, Option.bind_some]
  simp
theorem way_by_ok {c n : Nat} {ob : Ob} {S : Sto} (g : Good b) (hs : Fits s b) (hw : Holds w bs) (hS : S[n]? = some ob) (hb : BagOk c ob) (hc : c + 2000000 < 2 ^ 1000) :
    ∃ x ob', callF K62.f_l_way_by [.loc n, .d (graD b), .d (tI s), .d (tI t), .d w] S = some (.d x, S.set n ob') ∧ BagOk (c + 2000000) ob' := by
  have hcl := g.clen
  obtain ⟨ρ', S', e, ob1, found, front, junk, x5, x6, x8, x9, x10, rfl, rfl, hv, hb1⟩ := whileL_J (α := Ob × List (List Int × Option (List Int)) × List (List Int) × Sto) (T := tAndD (tOf (mBin (eqA true) (mVar 6) (mCall lstF (mNil)))) (tOf (mBin (inX true) (mVar 3) (mVar 7)))) (F := sSeq (sAsg (mCall lstB (mNil)) (gSet 8))
    (sSeq (sFor (iSeq (mVar 6)) (gSet 9) (L_l_way_by_2))
    (sAsg (mFrzA (mVar 8)) (gSet 6))))
    (J := fun a ρ S => ∃ x8 x9 x10, ρ = [some (.loc 0), some (.d (graD b)), some (.d (tI s)), some (.d (tI t)), some (.d w), none, some (.d (.list (a.2.2.1.map tI))), some (.loc 1), x8, x9, x10] ∧ S = a.1 :: .dicT (tabF fB a.2.1) :: a.2.2.2 ∧ WInv b s a.2.1 ∧ (∀ x ∈ a.2.2.1, x ∈ a.2.1.map (·.1)) ∧ a.2.2.1.length ≤ a.2.1.length ∧ BagOk (c + 200 * (a.2.1.length - a.2.2.1.length)) a.1)
    (μ := fun a => 2 * ((conts b).length - a.2.1.length) + if a.2.2.1 = [] then 0 else 1)
    (P := fun ρ S => ∃ ob1 found front junk x5 x6 x8 x9 x10, ρ = [some (.loc 0), some (.d (graD b)), some (.d (tI s)), some (.d (tI t)), some (.d w), x5, x6, some (.loc 1), x8, x9, x10] ∧ S = ob1 :: .dicT (tabF fB found) :: junk ∧ WInv b s found ∧ BagOk (c + 200 * (found.length - front)) ob1)
    (fun a ρ S ⟨x8, x9, x10, e1, e2, hv, hf, hfl, hb1⟩ => by
      obtain ⟨ob1, found, front, junk⟩ := a
      simp only at e1 e2 hv hf hfl hb1
      subst e1 e2
      have hd := inX_tab (x := t) true (S := ob1 :: .dicT (tabF fB found) :: junk) (n := 1) (f := fB) (found := found) rfl
      have hT : ∀ d, decide (t ∈ found.map (·.1)) = d → tAndD (tOf (mBin (eqA true) (mVar 6) (mCall lstF (mNil)))) (tOf (mBin (inX true) (mVar 3) (mVar 7))) [some (.loc 0), some (.d (graD b)), some (.d (tI s)), some (.d (tI t)), some (.d w), none, some (.d (.list (front.map tI))), some (.loc 1), x8, x9, x10] (ob1 :: .dicT (tabF fB found) :: junk) = some (!front.isEmpty && !d, ob1 :: .dicT (tabF fB found) :: junk) := fun d hdd => by
        rw [hdd] at hd
        simp only [tAndD, tOf, mBin, mVar, mCall, mNil, lstF, allD, Option.map_some, List.length_nil, List.getElem?_cons_succ, List.getElem?_cons_zero, Option.bind_some]
        rw [if_pos (show 0 ≤ sizeLine from Nat.zero_le _)]
        simp only [Option.bind_some, ne_nil, hd]
        cases front.isEmpty <;> cases d <;> rfl
      by_cases ht : t ∈ found.map (·.1)
      · refine .inl ⟨by rw [hT true (decide_eq_true ht)]; simp, ob1, found, front.length, junk, none, _, x8, x9, x10, rfl, rfl, hv, hb1⟩
      · by_cases hl : front = []
        · subst hl
          exact .inl ⟨by rw [hT false (decide_eq_false ht)]; simp, ob1, found, 0, junk, none, _, x8, x9, x10, rfl, rfl, hv, hb1⟩
        · right
          have hie : front.isEmpty = false := by cases front with
            | nil => exact absurd rfl hl
            | cons x l => rfl
          refine ⟨by rw [hT false (decide_eq_false ht), hie]; rfl, ?_⟩
          have hvl := hv.len
          obtain ⟨ob2, found2, later2, y9, y10, e4, ⟨hv2, ext, ex1, ex2⟩, hb2⟩ := wb_level (t := t) (junk := junk) (z2 := some (.d (tI s))) (z5 := none) (z6 := some (.d (.list (front.map tI)))) (z9 := x9) (z10 := x10) g hw hv hf hb1 (by omega)
          have hv2l := hv2.len
          have hfl2 : found2.length = found.length + later2.length := by rw [ex1, ex2, List.length_append, List.length_map]
          have hlen2 : (wbS ob2 found2 junk later2)[2 + junk.length]? = some (.lst ((later2.map tI).map W.d)) := by
            rw [show 2 + junk.length = junk.length + 1 + 1 by omega]; simp [wbS]
          refine ⟨[some (.loc 0), some (.d (graD b)), some (.d (tI s)), some (.d (tI t)), some (.d w), none, some (.d (.list (later2.map tI))), some (.loc 1), some (.loc (2 + junk.length)), y9, y10], ob2 :: .dicT (tabF fB found2) :: (junk ++ [.dead]), ?_, (ob2, found2, later2, junk ++ [.dead]), ⟨_, _, _, rfl, rfl, hv2, fun x hx => ?_, by simp only; omega, ?_⟩, ?_⟩
          · rw [seq_nx (ρ1 := [some (.loc 0), some (.d (graD b)), some (.d (tI s)), some (.d (tI t)), some (.d w), none, some (.d (.list (front.map tI))), some (.loc 1), some (.loc (2 + junk.length)), x9, x10]) (S1 := wbS ob1 found junk []) (by
              simp [sAsg, mCall, lstB, mNil, gSet, wbS]; omega)]
            rw [seq_nx (by
              simp only [sFor]
              rw [show iSeq (mVar 6) [some (.loc 0), some (.d (graD b)), some (.d (tI s)), some (.d (tI t)), some (.d w), none, some (.d (.list (front.map tI))), some (.loc 1), some (.loc (2 + junk.length)), x9, x10] (wbS ob1 found junk []) = some ((front.map tI).map W.d, wbS ob1 found junk []) by simp [iSeq, mVar]]
              exact e4)]
            have hset : (wbS ob2 found2 junk later2).set (2 + junk.length) .dead = ob2 :: .dicT (tabF fB found2) :: (junk ++ [.dead]) := by
              rw [show 2 + junk.length = junk.length + 1 + 1 by omega]; simp [wbS]
            simp only [sAsg, mFrzA, mVar, List.getElem?_cons_succ, List.getElem?_cons_zero, Option.bind_some, hlen2, frzO, allD_map, Option.map_some, hset]
            simp [gSet]
          · simp only at hx ⊢
            rw [ex2] at hx
            rw [ex1, List.map_append]
            exact List.mem_append_right _ hx
          · simp only
            exact hb2.up (by omega)
          · have hne : (if front = [] then 0 else 1) = 1 := if_neg hl
            simp only [hne]
            by_cases hf : later2 = []
            · subst hf
              simp only [List.length_nil] at hfl2
              simp only [if_true]
              omega
            · have : 0 < later2.length := List.length_pos_iff.mpr hf
              simp only [hf, if_false]
              omega) (n := FUEL) (a := (ob, [(s, none)], [s], [])) (ρ := [some (.loc 0), some (.d (graD b)), some (.d (tI s)), some (.d (tI t)), some (.d w), none, some (.d (.list [tI s])), some (.loc 1), none, none, none]) (S := [ob, .dicT (tabF fB [(s, none)])]) ⟨none, none, none, rfl, rfl, ⟨by simp, fun q hq => by rw [List.mem_singleton.mp hq]; exact hs, fun i x p hi => by
        cases i with
        | zero => have : (s, (none : Option (List Int))) = (x, p) := by simpa using hi
                  cases this; exact .inl ⟨rfl, rfl⟩
        | succ i => simp at hi⟩, by simp, by simp, by simpa using hb⟩ (by
      simp only [FUEL]
      split <;> omega)
  have hvl := hv.len
  have hbf : BagOk (c + 2000000) ob1 := hb1.up (by omega)
  have fin : ∀ {x : PyData}, (∃ ρ' S', K62.b_l_way_by [some (.loc 0), some (.d (graD b)), some (.d (tI s)), some (.d (tI t)), some (.d w), none, none, none, none, none, none] [ob] = some (.rt (.d x), ρ', ob1 :: S')) → ∃ x ob', callF K62.f_l_way_by [.loc n, .d (graD b), .d (tI s), .d (tI t), .d w] S = some (.d x, S.set n ob') ∧ BagOk (c + 2000000) ob' := fun {x} h =>
    ⟨x, ob1, callF_loc (n := n) rfl (by simp [allLoc]) hS hb.obD (runF_ret1 h hbf.obD) hbf.obD, hbf⟩
  have st : ∀ R : MS, sSeq (sPar 6 7 (mCons (mCall lstF (mCons (mVar 2) (mNil))) (mCons (mDisp1 (mVar 2) (mC .none)) mNil)))
    (sSeq (whileL (tAndD (tOf (mBin (eqA true) (mVar 6) (mCall lstF (mNil)))) (tOf (mBin (inX true) (mVar 3) (mVar 7)))) (sSeq (sAsg (mCall lstB (mNil)) (gSet 8))
    (sSeq (sFor (iSeq (mVar 6)) (gSet 9) (L_l_way_by_2))
    (sAsg (mFrzA (mVar 8)) (gSet 6)))) FUEL) R) [some (.loc 0), some (.d (graD b)), some (.d (tI s)), some (.d (tI t)), some (.d w), none, none, none, none, none, none] [ob] = R [some (.loc 0), some (.d (graD b)), some (.d (tI s)), some (.d (tI t)), some (.d w), x5, x6, some (.loc 1), x8, x9, x10] (ob1 :: .dicT (tabF fB found) :: junk) := fun R => by
    rw [seq_nx (ρ1 := [some (.loc 0), some (.d (graD b)), some (.d (tI s)), some (.d (tI t)), some (.d w), none, some (.d (.list [tI s])), some (.loc 1), none, none, none]) (S1 := [ob, .dicT (tabF fB [(s, none)])]) (by
      simp only [sPar, mCons, mDisp1, mVar, mC, List.getElem?_cons_succ, List.getElem?_cons_zero, Option.bind_some, mCall, lstF, allD, Option.map_some, mNil, List.length_cons, List.length_nil]
      simp [sz1, tI, keysE_tI (ne_of_fits g hs), tabF, fB])]
    rw [seq_nx e]
  have hd := inX_tab (x := t) true (S := ob1 :: .dicT (tabF fB found) :: junk) (n := 1) (f := fB) (found := found) rfl
  obtain ⟨r, hr⟩ : ∃ r : Bool, (!decide (t ∈ found.map (·.1)) || decide (s = t)) = r := ⟨_, rfl⟩
  have hT : tOrD (tOf (mBin (inX true) (mVar 3) (mVar 7))) (tOf (mBin (eqA false) (mVar 2) (mVar 3))) [some (.loc 0), some (.d (graD b)), some (.d (tI s)), some (.d (tI t)), some (.d w), x5, x6, some (.loc 1), x8, x9, x10] (ob1 :: .dicT (tabF fB found) :: junk) = some (r, ob1 :: .dicT (tabF fB found) :: junk) := by
    rw [← hr]
    obtain ⟨d, hdd⟩ : ∃ d, decide (t ∈ found.map (·.1)) = d := ⟨_, rfl⟩
    rw [hdd] at hd ⊢
    simp only [tOrD, tOf, mBin, mVar, List.getElem?_cons_succ, List.getElem?_cons_zero, Option.bind_some, hd, eq_tI]
    cases d <;> simp
  cases r with
  | true =>
    refine fin (x := .none) ⟨[some (.loc 0), some (.d (graD b)), some (.d (tI s)), some (.d (tI t)), some (.d w), x5, x6, some (.loc 1), x8, x9, x10], .dicT (tabF fB found) :: junk, ?_⟩
    unfold K62.b_l_way_by
    rw [st, seq_rt ((if_t hT).trans rfl)]
  | false =>
    have hti : t ∈ found.map (·.1) := by
      have : (!decide (t ∈ found.map (·.1))) = false := (Bool.or_eq_false_iff.mp hr).1
      simpa using this
    obtain ⟨q0, hq0, hq1⟩ := List.mem_map.mp hti
    obtain ⟨i0, hi0, ei0⟩ := List.getElem_of_mem hq0
    obtain ⟨base, hbase⟩ : ∃ B : Sto, ob1 :: .dicT (tabF fB found) :: junk = B := ⟨_, rfl⟩
    have hB1 : base[1]? = some (.dicT (tabF fB found)) := by rw [← hbase]; rfl
    have hBl : base.length = 2 + junk.length := by rw [← hbase]; simp; omega
    have hsd : ∀ way : List (List Int), (base ++ [Ob.lst ((way.map tI).map W.d)])[1]? = some (.dicT (tabF fB found)) := fun way => by
      rw [List.getElem?_append_left (by omega)]; exact hB1
    have hsl : ∀ way : List (List Int), (base ++ [Ob.lst ((way.map tI).map W.d)])[base.length]? = some (.lst ((way.map tI).map W.d)) := fun way => by
      rw [List.getElem?_append_right (Nat.le_refl _)]; simp
    obtain ⟨ρ2, S2, e2, way, rfl, rfl⟩ := whileL_J (α := Nat × List (List Int) × List (List Int)) (T := tOf (mBin (eqA true) (mBin ixY (mVar 5) (mC (.int 0))) (mVar 2))) (F := sExpr (mMt insertF (mVar 5) (mCons (mC (.int 0)) (mCons (mBin ixY (mVar 7) (mBin ixY (mVar 5) (mC (.int 0)))) (mNil)))))
      (J := fun a ρ S => ρ = [some (.loc 0), some (.d (graD b)), some (.d (tI s)), some (.d (tI t)), some (.d w), some (.loc base.length), x6, some (.loc 1), x8, x9, x10] ∧ S = base ++ [.lst ((a.2.1.map tI).map W.d)] ∧ ∃ y rest p, a.2.1 = y :: rest ∧ found[a.1]? = some (y, p) ∧ a.2.1.length + a.1 ≤ found.length)
      (μ := fun a => a.1) (P := fun ρ S => ∃ way : List (List Int), ρ = [some (.loc 0), some (.d (graD b)), some (.d (tI s)), some (.d (tI t)), some (.d w), some (.loc base.length), x6, some (.loc 1), x8, x9, x10] ∧ S = base ++ [.lst ((way.map tI).map W.d)])
      (fun a ρ S ⟨q1, q2, y, rest, p, h1, h2, h3⟩ => by
        obtain ⟨i, way, _⟩ := a
        simp only at q1 q2 h1 h2 h3
        subst q1 q2
        have hix : ixY (.loc base.length) (.d (.int 0)) (base ++ [.lst ((way.map tI).map W.d)]) = some (.d (tI y), base ++ [.lst ((way.map tI).map W.d)]) := by
          have h5 := hsl way
          have h6 : atI ((way.map tI).map W.d) 0 = some (.d (tI y)) := by
            show atI ((way.map tI).map W.d) ((0 : Nat) : Int) = _
            exact atI_nat (by rw [h1]; rfl)
          simp only [ixY, isN, h5, Bool.false_eq_true, if_false, ixX, isDicA, isDic, idxD, h6, Option.map_some]
        have hTT : tOf (mBin (eqA true) (mBin ixY (mVar 5) (mC (.int 0))) (mVar 2)) [some (.loc 0), some (.d (graD b)), some (.d (tI s)), some (.d (tI t)), some (.d w), some (.loc base.length), x6, some (.loc 1), x8, x9, x10] (base ++ [.lst ((way.map tI).map W.d)]) = some (!decide (y = s), base ++ [.lst ((way.map tI).map W.d)]) := by
          simp only [tOf, mBin, mVar, mC, List.getElem?_cons_succ, List.getElem?_cons_zero, Option.bind_some, hix, ne_tI]
        by_cases hys : y = s
        · exact .inl ⟨by rw [hTT, decide_eq_true hys]; rfl, way, rfl, rfl⟩
        · right
          rcases hv.par i y p h2 with ⟨_, c⟩ | ⟨j, y', q, hj, hp, hq⟩
          · exact absurd c hys
          · subst hp
            have hmem : (y, some y') ∈ found := List.mem_of_getElem? h2
            have hget := ix_tab (f := fB) (hsd way) hv.nd hmem
            have hins := insert_ev (w := .d (tI y')) (hsl way) (by
              rw [List.length_map, List.length_map]
              have : 100000 < sizeLine := by decide
              omega)
            have hset : (base ++ [Ob.lst ((way.map tI).map W.d)]).set base.length (.lst (.d (tI y') :: (way.map tI).map W.d)) = base ++ [.lst (((y' :: way).map tI).map W.d)] := by
              rw [List.set_append_right _ _ (Nat.le_refl _)]; simp
            rw [hset] at hins
            have hil : isLst (base ++ [Ob.lst ((way.map tI).map W.d)]) (.loc base.length) = true := by simp only [isLst, hsl way]
            have hget' : ixY (.loc 1) (.d (tI y)) (base ++ [.lst ((way.map tI).map W.d)]) = some (.d (tI y'), base ++ [.lst ((way.map tI).map W.d)]) := hget
            refine ⟨by rw [hTT, decide_eq_false hys]; rfl, _, _, ?_, (j, y' :: way, []), ⟨rfl, rfl, y', way, q, rfl, hq, ?_⟩, hj⟩
            · simp only [sExpr, mMt, mVar, mCons, mNil, mC, mBin, List.getElem?_cons_succ, List.getElem?_cons_zero, Option.bind_some, hil, if_true, hix, hget', hins]
            · simp only [List.length_cons]
              omega) (n := FUEL) (a := (i0, [t], [])) (ρ := [some (.loc 0), some (.d (graD b)), some (.d (tI s)), some (.d (tI t)), some (.d w), some (.loc base.length), x6, some (.loc 1), x8, x9, x10]) (S := base ++ [.lst (([t].map tI).map W.d)]) ⟨rfl, rfl, t, [], q0.2, rfl, by rw [List.getElem?_eq_getElem hi0, ei0, ← hq1], by simp; omega⟩ (by simp only [FUEL]; omega)
    refine fin (x := .tuple (way.map tI)) ⟨[some (.loc 0), some (.d (graD b)), some (.d (tI s)), some (.d (tI t)), some (.d w), some (.loc base.length), x6, some (.loc 1), x8, x9, x10], .dicT (tabF fB found) :: (junk ++ [.lst ((way.map tI).map W.d)]), ?_⟩
    unfold K62.b_l_way_by
    rw [st, seq_nx ((if_f (G := sNil) hT).trans rfl), hbase]
    rw [seq_nx (ρ1 := [some (.loc 0), some (.d (graD b)), some (.d (tI s)), some (.d (tI t)), some (.d w), some (.loc base.length), x6, some (.loc 1), x8, x9, x10]) (S1 := base ++ [.lst (([t].map tI).map W.d)]) (by
      simp [sAsg, mCall, mCons, mVar, mNil, lstB, sz1, gSet])]
    rw [seq_nx e2]
    have hsl' := hsl way
    simp only [sRet, mCall, mCons, mNil, mVar, List.getElem?_cons_succ, List.getElem?_cons_zero, Option.bind_some, tupleD, on1, deref, hsl', allD_map, Option.map_some]
    rw [← hbase]; simp
end
end K62
end
noncomputable section
namespace K62
open PySem PySem.Spec PyProof.Rows L2 DL K17
theorem mixT_step {c : Nat} {ob : Ob} {acc : List PyData} {x : PyData} {y : Option W} {xs : List PyData} (hb : BagOk c ob) (hc : c + 1 < 2 ^ 1000) (hl : acc.length < sizeLine) :
    ∃ ρ2 S2, ((gSet 3 (.d x) [some (.loc 0), some (.d (.tuple xs)), some (.loc 1), y] [ob, .lst (acc.map W.d)]).bind fun p => sExpr (mMt insertF (mVar 2) (mCons (mCall (callF fTake) (mCons (mVar 0) (mCons (mBin addA (mCall lenD (mCons (mVar 2) (mNil))) (mC (.int 1))) (mNil)))) (mCons (mVar 3) (mNil)))) p.1 p.2) = some (.nx, ρ2, S2) ∧
    ∃ y ob', ∃ acc' : List PyData, ρ2 = [some (.loc 0), some (.d (.tuple xs)), some (.loc 1), y] ∧ S2 = [ob', .lst (acc'.map W.d)] ∧ BagOk (c + 1) ob' ∧ acc'.Perm (x :: acc) := by
  obtain ⟨v, ob', e, v0, v1, hb'⟩ := take_ok (S := [ob, .lst (acc.map W.d)]) (n := 0) (upto := (acc.length : Int) + 1) rfl hb hc (by omega) (by have := size_lg (n := acc.length + 1) (by omega); simpa using this)
  refine ⟨[some (.loc 0), some (.d (.tuple xs)), some (.loc 1), some (.d x)], [ob', .lst ((acc.take v.toNat ++ [x] ++ acc.drop v.toNat).map W.d)], ?_, some (.d x), ob', _, rfl, rfl, hb', ?_⟩
  · have hv : (acc.map W.d).length < sizeLine ∧ 0 ≤ v ∧ v < 2 ^ 63 := by
      refine ⟨by rw [List.length_map]; exact hl, v0, ?_⟩
      have : sizeLine < 2 ^ 62 := by decide
      omega
    have hg : ∀ S, insertF (.loc 1) [.d (.int v), .d x] [ob', .lst (acc.map W.d)] = some (.d .none, S) ↔ S = [ob', .lst ((acc.take v.toNat ++ [x] ++ acc.drop v.toNat).map W.d)] := fun S => by
      simp only [insertF, onL]
      simp only [List.getElem?_cons_succ, List.getElem?_cons_zero, if_pos hv]
      simp [eq_comm]
    have hg' := (hg _).mpr rfl
    simp only [List.set_cons_zero] at e
    simp [DL.sSeq, DL.sNil, DL.sPass, DL.sBreak, DL.sCont, DL.sExpr, DL.sRet, DL.sRetN, DL.sIf, DL.sAsg, DL.sPar, DL.sAug, DL.sAugS, DL.gSet, DL.gTupD, DL.gsNil, DL.gsCons, DL.gSubD, DL.sFor, DL.iRng1D_eq, DL.mVar, DL.mC, DL.mNil, DL.mCons, DL.mCall, DL.mBin, DL.mNeg, DL.mMt, DL.mSl, DL.oNo, DL.oYes, DL.tOf, DL.tNotD, DL.tAndD, DL.tOrD, DL.tTru, DL.truD, DL.tTrue, DL.vAnd, DL.vOr, DL.vNot, DL.vIf, DL.vChain, DL.tupF, DL.lstF, DL.allD, DL.ev_add, DL.ev_sub, DL.ev_iadd, DL.ev_isub, DL.ev_lt, DL.ev_gt, DL.ev_le, DL.ev_ge, DL.ev_eq, DL.ev_ne, DL.ev_min, DL.ev_max, DL.ev_int, DL.ev_abs, DL.sz1, DL.sz2, DL.sz3, DL.sz4, DL.sz5, DL.sz6, DL.sz7, DL.sz8, DL.szp, isLst, lenD, on1, len0, e]
    simp at hg'
    rw [hg']
    rfl
  · have : (acc.take v.toNat ++ [x] ++ acc.drop v.toNat).Perm (x :: (acc.take v.toNat ++ acc.drop v.toNat)) := by
      rw [List.append_assoc]
      exact List.perm_middle
    rwa [List.take_append_drop] at this
theorem mixedT_ok {c n : Nat} {ob : Ob} {S : Sto} {xs : List PyData} (hS : S[n]? = some ob) (hb : BagOk c ob) (hc : c + xs.length < 2 ^ 1000) (hx : xs.length ≤ sizeLine) :
    ∃ ys ob', callF fMixed [.loc n, .d (.tuple xs)] S = some (.d (.list ys), S.set n ob') ∧ ys.Perm xs ∧ BagOk (c + xs.length) ob' := by
  obtain ⟨ρ', S', e, y, ob', acc, rfl, rfl, hb', hp⟩ := forL_J (g := gSet 3) (F := sExpr (mMt insertF (mVar 2) (mCons (mCall (callF fTake) (mCons (mVar 0) (mCons (mBin addA (mCall lenD (mCons (mVar 2) (mNil))) (mC (.int 1))) (mNil)))) (mCons (mVar 3) (mNil))))) (ws := xs.map W.d) (k := 0)
    (J := fun i ρ S => ∃ y ob', ∃ acc : List PyData, ρ = [some (.loc 0), some (.d (.tuple xs)), some (.loc 1), y] ∧ S = [ob', .lst (acc.map W.d)] ∧ BagOk (c + i) ob' ∧ acc.Perm (xs.take i)) (ρ := [some (.loc 0), some (.d (.tuple xs)), some (.loc 1), none]) (S := [ob, .lst []]) (fun i w ρ S hw ⟨y, ob', acc, e1, e2, hb', hp⟩ => by
      subst e1 e2
      simp only [List.getElem?_map, Option.map_eq_some_iff, Nat.zero_add] at hw hb' hp ⊢
      obtain ⟨x, hx', rfl⟩ := hw
      have hi := (List.getElem?_eq_some_iff.mp hx').1
      have hl := hp.length_eq
      rw [List.length_take] at hl
      obtain ⟨ρ2, S2, e, y2, ob2, acc2, h1, h2, h3, h4⟩ := mixT_step (x := x) (y := y) (xs := xs) hb' (by omega) (acc := acc) (by omega)
      refine ⟨ρ2, S2, e, y2, ob2, acc2, h1, h2, h3, h4.trans ?_⟩
      rw [List.take_succ, hx']
      exact (List.Perm.cons x hp).trans (List.perm_append_comm (l₁ := [x]))) ⟨none, ob, [], rfl, rfl, hb, by simp⟩
  simp only [Nat.zero_add, List.length_map] at e hb' hp
  rw [List.take_length] at hp
  refine ⟨acc, ob', callF_loc (n := n) rfl (by simp [allLoc]) hS hb.obD (runF_ret1 ?_ hb'.obD) hb'.obD, hp, hb'⟩
  simp [bMixed, DL.sSeq, DL.sNil, DL.sPass, DL.sBreak, DL.sCont, DL.sExpr, DL.sRet, DL.sRetN, DL.sIf, DL.sAsg, DL.sPar, DL.sAug, DL.sAugS, DL.gSet, DL.gTupD, DL.gsNil, DL.gsCons, DL.gSubD, DL.sFor, DL.iRng1D_eq, DL.mVar, DL.mC, DL.mNil, DL.mCons, DL.mCall, DL.mBin, DL.mNeg, DL.mMt, DL.mSl, DL.oNo, DL.oYes, DL.tOf, DL.tNotD, DL.tAndD, DL.tOrD, DL.tTru, DL.truD, DL.tTrue, DL.vAnd, DL.vOr, DL.vNot, DL.vIf, DL.vChain, DL.tupF, DL.lstF, DL.allD, DL.ev_add, DL.ev_sub, DL.ev_iadd, DL.ev_isub, DL.ev_lt, DL.ev_gt, DL.ev_le, DL.ev_ge, DL.ev_eq, DL.ev_ne, DL.ev_min, DL.ev_max, DL.ev_int, DL.ev_abs, DL.sz1, DL.sz2, DL.sz3, DL.sz4, DL.sz5, DL.sz6, DL.sz7, DL.sz8, DL.szp, lstB, iSeq, mFrz, toZero, e, allD_map]
/-- mixed, of contents in a list or a tuple -/
theorem mix_l {c n : Nat} {ob : Ob} {S : Sto} {w : PyData} {l : List (List Int)} (hw : Holds w l) (hS : S[n]? = some ob) (hb : BagOk c ob) (hc : c + l.length < 2 ^ 1000) (hl : l.length ≤ 100000) :
    ∃ (r : List (List Int)) (ob' : Ob), callF fMixed [.loc n, .d w] S = some (.d (.list (r.map tI)), S.set n ob') ∧ r.Perm l ∧ BagOk (c + l.length) ob' := by
  rcases hw with rfl | rfl
  · obtain ⟨ys, ob', e, hp, hb'⟩ := mixed_ok (S := S) (n := n) (xs := l.map tI) hS hb (by rw [List.length_map]; omega) (by rw [List.length_map]; exact sz_of (by omega))
    obtain ⟨r, hr, rfl⟩ := perm_map_ex hp
    rw [List.length_map] at hb'
    exact ⟨r, ob', e, hr, hb'⟩
  · obtain ⟨ys, ob', e, hp, hb'⟩ := mixedT_ok (S := S) (n := n) (xs := l.map tI) hS hb (by rw [List.length_map]; omega) (by rw [List.length_map]; exact sz_of (by omega))
    obtain ⟨r, hr, rfl⟩ := perm_map_ex hp
    rw [List.length_map] at hb'
    exact ⟨r, ob', e, hr, hb'⟩
theorem sl_l {l : List (List Int)} {k : Nat} {S : Sto} : sliceD (.d (.list (l.map tI))) none (some (k : Int)) S = some (.d (.list ((l.take k).map tI)), S) := by
  simp only [sliceD, cut_take, List.map_take]
theorem ends_ok {b : List Pl} {c n : Nat} {ob : Ob} {S : Sto} {R : List (List Int)} {s t : List Int} (g : Good b) (hS : S[n]? = some ob) (hb : BagOk c ob) (hc : c + R.length + 20 < 2 ^ 1000) (hR : ∀ x ∈ R, Fits x b) (hs : Fits s b) (ht : Fits t b) (hl : R.length ≤ 1000) :
    ∃ (E : List (List Int)) (ob' : Ob), callF K62.f_l_ends [.loc n, .d (.tuple (R.map tI)), .d (tI s), .d (tI t)] S = some (.d (.tuple (E.map tI)), S.set n ob') ∧ (∀ x ∈ E, Fits x b) ∧ E.length ≤ R.length + 2 ∧ BagOk (c + R.length + 1) ob' := by
  obtain ⟨v, ob1, e1, v0, v1, hb1⟩ := take_ok (S := [ob]) (n := 0) (upto := 8) rfl hb (by omega) (by decide) (by decide)
  obtain ⟨k, rfl⟩ := Int.eq_ofNat_of_zero_le v0
  simp only [List.set_cons_zero] at e1
  obtain ⟨Ls, hLs⟩ : ∃ Ls : List (List (List Int)), [[s, t], [s, t], [s, t], [t], [s], [], R] = Ls := ⟨_, rfl⟩
  have hdat : ([.list [tI s, tI t], .list [tI s, tI t], .list [tI s, tI t], .list [tI t], .list [tI s], .list [], .list (R.map tI)] : List PyData) = Ls.map fun l => .list (l.map tI) := by rw [← hLs]; rfl
  have st : ∀ F : MS, sSeq (sAsg (mCall (callF K62.f_l_take) (mCons (mVar 0) (mCons (mC (.int 8)) (mNil)))) (gSet 4))
    (sSeq (sAsg (mCall lstF (mCons (mCall lstF (mCons (mVar 2) (mCons (mVar 3) (mNil)))) (mCons (mCall lstF (mCons (mVar 2) (mCons (mVar 3) (mNil)))) (mCons (mCall lstF (mCons (mVar 2) (mCons (mVar 3) (mNil)))) (mCons (mCall lstF (mCons (mVar 3) (mNil))) (mCons (mCall lstF (mCons (mVar 2) (mNil))) (mCons (mCall lstF (mNil)) (mCons (mCall listD (mCons (mVar 1) (mNil))) (mNil))))))))) (gSet 5)) F)
      [some (.loc 0), some (.d (.tuple (R.map tI))), some (.d (tI s)), some (.d (tI t)), none, none, none] [ob] = F [some (.loc 0), some (.d (.tuple (R.map tI))), some (.d (tI s)), some (.d (tI t)), some (.d (.int (k : Nat))), some (.d (.list (Ls.map fun l => .list (l.map tI)))), none] [ob1] := fun F => by
    rw [seq_nx (ρ1 := [some (.loc 0), some (.d (.tuple (R.map tI))), some (.d (tI s)), some (.d (tI t)), some (.d (.int (k : Nat))), none, none]) (S1 := [ob1]) (by
      simp only [sAsg, mCall, mCons, mNil, mC, mVar, List.getElem?_cons_succ, List.getElem?_cons_zero, Option.bind_some, e_take, e1]
      simp [gSet])]
    rw [seq_nx (by
      have l2 : ∀ a b : PyData, ∀ S, lstF [.d a, .d b] S = some (.d (.list [a, b]), S) := fun a b S => by
        simp only [lstF, allD, Option.map_some, Option.bind_some, List.length_cons, List.length_nil]
        rw [if_pos (show 0 + 1 + 1 ≤ sizeLine from sz2)]
      have l1 : ∀ a : PyData, ∀ S, lstF [.d a] S = some (.d (.list [a]), S) := fun a S => by
        simp only [lstF, allD, Option.map_some, Option.bind_some, List.length_cons, List.length_nil]
        rw [if_pos (show 0 + 1 ≤ sizeLine from sz1)]
      have l0 : ∀ S, lstF [] S = some (.d (.list []), S) := fun S => by
        simp only [lstF, allD, Option.bind_some, List.length_nil]
        rw [if_pos (Nat.zero_le _)]
      have l7 : ∀ a b c d e f h : PyData, ∀ S, lstF [.d a, .d b, .d c, .d d, .d e, .d f, .d h] S = some (.d (.list [a, b, c, d, e, f, h]), S) := fun a b c d e f h S => by
        simp only [lstF, allD, Option.map_some, Option.bind_some, List.length_cons, List.length_nil]
        rw [if_pos (show 0 + 1 + 1 + 1 + 1 + 1 + 1 + 1 ≤ sizeLine by decide)]
      have ll : ∀ S, listD [.d (.tuple (R.map tI))] S = some (.d (.list (R.map tI)), S) := fun S => rfl
      simp only [sAsg, mCall, mCons, mNil, mVar, List.getElem?_cons_succ, List.getElem?_cons_zero, Option.bind_some, l2, l1, l0, l7, ll, hdat]
      rw [show gSet 5 (.d (.list (Ls.map fun l => PyData.list (l.map tI)))) [some (.loc 0), some (.d (.tuple (R.map tI))), some (.d (tI s)), some (.d (tI t)), some (.d (.int (k : Nat))), none, none] [ob1] = some ([some (.loc 0), some (.d (.tuple (R.map tI))), some (.d (tI s)), some (.d (tI t)), some (.d (.int (k : Nat))), some (.d (.list (Ls.map fun l => .list (l.map tI)))), none], [ob1]) by simp [gSet]]
      rfl)]
  have hlt : ∀ S, ltD (.d (.int (k : Nat))) (.d (.int 7)) S = some (.d (.bool (decide ((k : Int) < 7))), S) := fun S => ev_lt
  have hT : tOf (mBin ltD (mVar 4) (mC (.int 7))) [some (.loc 0), some (.d (.tuple (R.map tI))), some (.d (tI s)), some (.d (tI t)), some (.d (.int (k : Nat))), some (.d (.list (Ls.map fun l => .list (l.map tI)))), none] [ob1] = some (decide ((k : Int) < 7), [ob1]) := by
    simp only [tOf, mBin, mVar, mC, List.getElem?_cons_succ, List.getElem?_cons_zero, Option.bind_some, hlt]
  by_cases h7 : k < 7
  · have hll : Ls.length = 7 := by rw [← hLs]; rfl
    obtain ⟨l, hl'⟩ : ∃ l, Ls[k]? = some l := ⟨_, List.getElem?_eq_getElem (by omega)⟩
    have hlm : l ∈ [[s, t], [s, t], [s, t], [t], [s], [], R] := by rw [hLs]; exact List.mem_of_getElem? hl'
    have hfl : (∀ x ∈ l, Fits x b) ∧ l.length ≤ R.length + 2 := by
      simp only [List.mem_cons, List.not_mem_nil, or_false] at hlm
      have two : ∀ x ∈ [s, t], Fits x b := fun x hx => by
        simp only [List.mem_cons, List.not_mem_nil, or_false] at hx
        rcases hx with rfl | rfl
        · exact hs
        · exact ht
      rcases hlm with rfl | rfl | rfl | rfl | rfl | rfl | rfl
      · exact ⟨two, by simp⟩
      · exact ⟨two, by simp⟩
      · exact ⟨two, by simp⟩
      · exact ⟨fun x hx => by rw [List.mem_singleton.mp hx]; exact ht, by simp⟩
      · exact ⟨fun x hx => by rw [List.mem_singleton.mp hx]; exact hs, by simp⟩
      · exact ⟨fun x hx => by simp at hx, by simp⟩
      · exact ⟨hR, by omega⟩
    have hix : ∀ S, ixY (.d (.list (Ls.map fun l => .list (l.map tI)))) (.d (.int (k : Nat))) S = some (.d (.list (l.map tI)), S) := fun S => by
      have h1 : atI (Ls.map fun l => PyData.list (l.map tI)) (k : Int) = some (.list (l.map tI)) := atI_nat (by rw [List.getElem?_map, hl']; rfl)
      simp only [ixY, isN, Bool.false_eq_true, if_false, ixX, isDicA, isDic, idxD, h1, Option.map_some]
    have hso := fun S => sort_l (l := l) (S := S) fun a ha => ne_of_fits g (hfl.1 a ha)
    refine ⟨sortL l, ob1, callF_loc (n := n) rfl (by simp [allLoc]) hS hb.obD (runF_ret1 ⟨[some (.loc 0), some (.d (.tuple (R.map tI))), some (.d (tI s)), some (.d (tI t)), some (.d (.int (k : Nat))), some (.d (.list (Ls.map fun l => .list (l.map tI)))), none], [], ?_⟩ hb1.obD) hb1.obD, fun x hx => hfl.1 x ((sortL_perm _).subset hx), by rw [(sortL_perm _).length_eq]; exact hfl.2, hb1.up (by omega)⟩
    show K62.b_l_ends [some (.loc 0), some (.d (.tuple (R.map tI))), some (.d (tI s)), some (.d (tI t)), none, none, none] [ob] = _
    unfold K62.b_l_ends
    rw [st, seq_rt ((if_t (hT.trans (by rw [decide_eq_true (by omega)]))).trans (by
      simp only [sRet, mCall, mCons, mNil, mBin, mVar, List.getElem?_cons_succ, List.getElem?_cons_zero, Option.bind_some, hix, hso, tupleD, on1, seqOf, deref, Option.map_some]
      rfl))]
  · have key : ∀ {l : List (List Int)} {d : Nat} {o : Ob}, BagOk d o → d + l.length + 10 < 2 ^ 1000 → ∃ (r : List (List Int)) (o' : Ob), lcL (gSet 6) (tOf (mBin (eqA false) (mCall (callF K62.f_l_take) (mCons (mVar 0) (mCons (mC (.int 2)) (mNil)))) (mC (.int 0)))) (mVar 6) [6] [some (.loc 0), some (.d (.tuple (R.map tI))), some (.d (tI s)), some (.d (tI t)), some (.d (.int (k : Nat))), some (.d (.list (Ls.map fun l => .list (l.map tI)))), none] ((l.map tI).map W.d) [o] = some ((r.map tI).map W.d, [o']) ∧ r.Sublist l ∧ BagOk (d + l.length) o' := by
      intro l
      induction l with
      | nil => exact fun {d o} hd _ => ⟨[], o, rfl, List.Sublist.refl _, hd⟩
      | cons x l ih =>
        intro d o hd hdl
        simp only [List.length_cons] at hdl
        obtain ⟨u, o1, e2, u0, u1, hd1⟩ := take_ok (S := [o]) (n := 0) (upto := 2) rfl hd (by omega) (by omega) (by decide)
        simp only [List.set_cons_zero] at e2
        obtain ⟨r, o2, e3, hr, hd2⟩ := ih hd1 (by omega)
        have hu : ∀ S, eqA false (.d (.int u)) (.d (.int 0)) S = some (.d (.bool (decide (u = 0))), S) := fun S => ev_eq
        have e4 : gSet 6 (.d (tI x)) (wipeD [some (.loc 0), some (.d (.tuple (R.map tI))), some (.d (tI s)), some (.d (tI t)), some (.d (.int (k : Nat))), some (.d (.list (Ls.map fun l => .list (l.map tI)))), none] [6]) [o] = some ([some (.loc 0), some (.d (.tuple (R.map tI))), some (.d (tI s)), some (.d (tI t)), some (.d (.int (k : Nat))), some (.d (.list (Ls.map fun l => .list (l.map tI)))), some (.d (tI x))], [o]) := by simp [gSet, wipeD]
        have e5 : tOf (mBin (eqA false) (mCall (callF K62.f_l_take) (mCons (mVar 0) (mCons (mC (.int 2)) (mNil)))) (mC (.int 0))) [some (.loc 0), some (.d (.tuple (R.map tI))), some (.d (tI s)), some (.d (tI t)), some (.d (.int (k : Nat))), some (.d (.list (Ls.map fun l => .list (l.map tI)))), some (.d (tI x))] [o] = some (decide (u = 0), [o1]) := by
          simp only [tOf, mBin, mCall, mCons, mNil, mC, mVar, List.getElem?_cons_succ, List.getElem?_cons_zero, Option.bind_some, e_take, e2, hu]
        by_cases hu0 : u = 0
        · refine ⟨x :: r, o2, ?_, hr.cons_cons x, hd2.up (by simp; omega)⟩
          simp only [List.map_cons, lcL, e4, e5, Option.bind_some, hu0, decide_true, if_true, mVar, List.getElem?_cons_succ, List.getElem?_cons_zero, e3]
        · refine ⟨r, o2, ?_, hr.cons x, hd2.up (by simp; omega)⟩
          simp only [List.map_cons, lcL, e4, e5, Option.bind_some, hu0, decide_false, Bool.false_eq_true, if_false, e3]
    obtain ⟨r, ob2, e2, hr, hb2⟩ := key (l := R) hb1 (by omega)
    have hrl := hr.length_le
    refine ⟨r, ob2, callF_loc (n := n) rfl (by simp [allLoc]) hS hb.obD (runF_ret1 ⟨[some (.loc 0), some (.d (.tuple (R.map tI))), some (.d (tI s)), some (.d (tI t)), some (.d (.int (k : Nat))), some (.d (.list (Ls.map fun l => .list (l.map tI)))), none], [], ?_⟩ hb2.obD) hb2.obD, fun x hx => hR x (hr.subset hx), by omega, hb2.up (by omega)⟩
    show K62.b_l_ends [some (.loc 0), some (.d (.tuple (R.map tI))), some (.d (tI s)), some (.d (tI t)), none, none, none] [ob] = _
    unfold K62.b_l_ends
    rw [st, seq_nx ((if_f (G := sNil) (hT.trans (by rw [decide_eq_false (by omega)]))).trans rfl)]
    have hk : kFrz ((r.map tI).map W.d) [ob2] = some (.d (.list (r.map tI)), [ob2]) := by
      have : (r.map tI).length ≤ sizeLine := by rw [List.length_map]; exact sz_of (by omega)
      simp only [kFrz, allD_map, Option.bind_some, this, if_true]
    have hm : mLc (iSeq (mVar 1)) (gSet 6) (tOf (mBin (eqA false) (mCall (callF K62.f_l_take) (mCons (mVar 0) (mCons (mC (.int 2)) (mNil)))) (mC (.int 0)))) (mVar 6) [6] kFrz [some (.loc 0), some (.d (.tuple (R.map tI))), some (.d (tI s)), some (.d (tI t)), some (.d (.int (k : Nat))), some (.d (.list (Ls.map fun l => .list (l.map tI)))), none] [ob1] = some (.d (.list (r.map tI)), [ob2]) := by
      rw [mLc, show iSeq (mVar 1) [some (.loc 0), some (.d (.tuple (R.map tI))), some (.d (tI s)), some (.d (tI t)), some (.d (.int (k : Nat))), some (.d (.list (Ls.map fun l => .list (l.map tI)))), none] [ob1] = some ((R.map tI).map W.d, [ob1]) by simp [iSeq, mVar]]
      simp only [Option.bind_some, e2, hk]
    simp only [sRet, mCall, mCons, mNil, hm, Option.bind_some, tupleD, on1, seqOf, deref, Option.map_some]
end K62
end
noncomputable section
namespace K62
open PySem PySem.Spec PyProof.Rows L2 DL K17
abbrev Od := List Int × List Int × List (List Int)
def od (o : Od) : PyData := .tuple [tI o.1, tI o.2.1, .tuple (o.2.2.map tI)]
def tk (b : List Pl) (R : List (List Int)) (os : List Od) : PyData := .tuple [bn b, .tuple (R.map tI), .tuple (os.map od)]
structure GoodO (b : List Pl) (o : Od) : Prop where
  s : Fits o.1 b
  t : Fits o.2.1 b
  e : ∀ x ∈ o.2.2, Fits x b
  l : o.2.2.length ≤ 12
structure GoodT (b : List Pl) (R : List (List Int)) (os : List Od) : Prop where
  rf : ∀ x ∈ R, Fits x b
  rl : R.length ≤ 10
  of : ∀ o ∈ os, GoodO b o
  ol : os.length ≤ 40
def kv (fo : List Od) : List (List (List Int) × PyData) := fo.map fun o => ([o.1, o.2.1], .tuple (o.2.2.map tI))
/-- keys of keys, sorted -/
def cK (k : List (List Int)) : Cd := .tup (k.map cI)
def tK (k : List (List Int)) : PyData := .tuple (k.map tI)
theorem ofP_tK (k : List (List Int)) : ofP (tK k) = some (cK k) := by
  have : ofPs (k.map tI) = some (k.map cI) := ofPs_map fun a _ => ofP_tI a
  simp only [tK, ofP, this, Option.map_some, cK]
theorem toP_cK (k : List (List Int)) : toP (cK k) = tK k := (ofP_eq _ _ (ofP_tK k)).symm
theorem kinds_cI : ∀ a b : List (List Int), kindCs (a.map cI) (b.map cI) = true
  | [], [] => rfl
  | [], _ :: _ => rfl
  | _ :: _, [] => rfl
  | x :: a, y :: b => by
    rw [List.map_cons, List.map_cons, kindCs, kind_cI, kinds_cI a b]; rfl
theorem dep_tK (k : List (List Int)) : (tK k).depth ≤ 60 := by
  have := (lay_l k).2
  simp only [tK, PyData.depth]
  omega
theorem sort_keys {l : List (List (List Int))} (h0 : ∀ k ∈ l, k ≠ []) : sortable (l.map cK) = true ∧ ∃ r : List (List (List Int)), r.Perm l ∧ toPs (sortC (l.map cK)) = r.map tK := by
  refine ⟨?_, ?_⟩
  · simp only [sortable, Bool.and_eq_true, List.all_eq_true, List.mem_map, decide_eq_true_eq]
    refine ⟨?_, ?_⟩
    · rintro _ ⟨a, ha, rfl⟩
      refine ⟨?_, by rw [toP_cK]; exact dep_tK a⟩
      cases a with
      | nil => exact absurd rfl (h0 _ ha)
      | cons x a => rfl
    · rintro _ ⟨a, _, rfl⟩ _ ⟨b, _, rfl⟩
      simp only [cK, kindC]
      exact kinds_cI a b
  · obtain ⟨r, hr, e⟩ := perm_map_ex (sortC_perm (l.map cK))
    refine ⟨r, hr, ?_⟩
    rw [e, toPs_map, List.map_map]
    exact List.map_congr_left fun k _ => toP_cK k
end K62
end
noncomputable section
namespace DL
open PySem PySem.Spec PyProof.Rows L2
/-- the object of slot i locked ahead of F: from now on it is data -/
def sFz (i : Nat) (F : MS) : MS := fun ρ S => match ρ[i]? with
  | some (some (.loc j)) => (S[j]?).bind fun o => (frzO o).bind fun d => F (ρ.set i (some (.d d))) (S.set j .dead)
  | _ => none
/-- an object of the store, locked in the heap -/
theorem lock_ob {K : PySem.W.Frag} {m : List Addr} {S : Sto} {ρ : DEnv} {σ : L2.St} {H : Hp} {j : Nat} {a : Addr} {ob : Ob} {d : PyData} (q : Sim τ K m S ρ σ H) (ha : m[j]? = some a) (hj : S[j]? = some ob) (e3 : frzO ob = some d) :
    ∃ u : HO, H a = some u ∧ Ow u ∧ Mut (some u) ∧ ∀ o, Rp K (upd H a (.frz o u)) (.ref a) d := by
  obtain ⟨a2, ha2, ro⟩ := q.obs j _ hj
  rw [ha] at ha2; cases ha2
  cases ob with
  | lst ws =>
    obtain ⟨ds, e5, rfl⟩ := Option.map_eq_some_iff.mp e3
    obtain ⟨vs, hv, pr⟩ := ro
    exact ⟨_, hv, ⟨fun z => z, fun _ _ z => nomatch z⟩, trivial, fun o => Rp.lst (.inl ⟨o, upd_same⟩) (RpAll.mono (put_kp hv) _ _ (allD_of e5 pr))⟩
  | dicT kvs =>
    obtain ⟨e3n, e3⟩ := frzO_T e3
    obtain ⟨ds, e5, rfl⟩ := Option.map_eq_some_iff.mp e3
    obtain ⟨us, hv, pr⟩ := ro
    have hl := allD_len e5
    have hz := zip_fst (l := kvs.map fun q => PyData.tuple (q.1.map keyP)) (r := ds) (by rw [hl, List.length_map, List.length_map])
    refine ⟨_, hv, ⟨fun z => z, fun _ _ z => nomatch z⟩, trivial, fun o => Rp.dicT (o := o) upd_same (hz.1.trans ?_) (keys_ne (tab_keys pr) e3n) (by rw [hz.2]; exact RpAll.mono (putD_kp hv fun z => z) _ _ (allD_of e5 (paired_vals pr)))⟩
    have := tab_keys pr
    rw [show (kvs.map fun q => PyData.tuple (q.1.map keyP)) = (kvs.map (·.1)).map fun k => PyData.tuple (k.map keyP) by rw [List.map_map]; rfl, ← this, List.map_map]; rfl
  | dicK kvs =>
    simp only [frzO] at e3
    split at e3
    · cases e3
    · rename_i hne
      obtain ⟨ds, e5, rfl⟩ := Option.map_eq_some_iff.mp e3
      obtain ⟨us, hv, pr⟩ := ro
      have hl := allD_len e5
      have hz := zip_fst (l := kvs.map fun q => keyP q.1) (r := ds) (by rw [hl, List.length_map, List.length_map])
      refine ⟨_, hv, ⟨fun z => z, fun _ _ z => nomatch z⟩, trivial, fun o => Rp.dicK (o := o) upd_same (fun z => ?_) (hz.1.trans ?_) (by rw [hz.2]; exact RpAll.mono (putD_kp hv fun z => z) _ _ (allD_of e5 (paired_vals pr)))⟩
      · subst z
        cases pr
        exact hne rfl
      · have := tab_keys pr
        rw [show (kvs.map fun q => keyP q.1) = (kvs.map (·.1)).map keyP by rw [List.map_map]; rfl, ← this, List.map_map]; rfl
  | dicN _ => cases e3
  | dead => cases e3
theorem ds_fz {X : Cx} {st : Stmt} {i : Nat} {F : MS} (h : PS X st (rdS τ X.K F)) : PS X st (rdS τ X.K (sFz i F)) := by
  refine ⟨fun p s σ H D I q => ?_⟩
  obtain ⟨m, S, ρ, fl, ρ', S', q, e, ps⟩ := q
  unfold sFz at e
  split at e
  · rename_i j hi
    obtain ⟨ob, hj, e⟩ := Option.bind_eq_some_iff.mp e
    obtain ⟨d, e3, e4⟩ := Option.bind_eq_some_iff.mp e
    obtain ⟨v, hv, a, ha, rfl⟩ := q.slot i _ hi
    obtain ⟨u, hu, ni, mu, rp⟩ := lock_ob q ha hj e3
    obtain ⟨o, I2⟩ := I.lock hu mu
    have hn := (List.getElem?_eq_some_iff.mp hj).1
    have q2 := q.put (ob := .dead) (o := .frz o u) ha (fun z h => by rw [hu] at h; cases h; exact ni.1) hn ⟨_, upd_same⟩
    have q3 := q2.slotset (i := i) (w := .d d) (v := .ref a) (rp o)
    have hs : σ.set i (some (V.ref a)) = σ := by
      apply List.ext_getElem?
      intro k
      by_cases hk : i = k
      · subst hk
        rw [List.getElem?_set_self (List.getElem?_eq_some_iff.mp hv).1, hv]
      · rw [List.getElem?_set_ne hk]
    rw [hs] at q3
    have q4 := ps.at (ext := []) (fun _ h => absurd h (by simp)) (by rw [List.append_nil]; exact q3) (putD_fr ha hu (imm_fix ni.1))
    rw [List.append_nil] at q4
    exact h.run p s σ _ D I2 ⟨m, _, _, fl, ρ', S', q3, e4, q4⟩
  · cases e
def iSeqK (A : ME) : MI := fun ρ S => (A ρ S).bind fun p => match p.1 with
  | .d (.list ds) => some (ds.map W.d, p.2)
  | .d (.tuple ds) => some (ds.map W.d, p.2)
  | .d (.dict ds) => some ((ds.map fun q => q.1).map W.d, p.2)
  | _ => none
section
variable {X : Cx} {tg e a b c : Expr} {A B C : ME}
theorem rp_keyJ {K : PySem.W.Frag} {H : Hp} (k : Key) : Rp K H (kV k) (keyP k) := by
  cases k with
  | inl i => exact .int i
  | inr x => exact .str x
theorem rp_keysJ {K : PySem.W.Frag} {H : Hp} : ∀ ks : List Key, RpAll K H (ks.map kV) (ks.map keyP)
  | [] => .nil
  | k :: ks => .cons (rp_keyJ k) (rp_keysJ ks)
theorem di_seqK (h : PE X e (rdE τ X.K A)) : PI X tg e (rdI τ X.K (iSeqK A)) := by
  refine ⟨fun pins s σ H R I q => ?_⟩
  obtain ⟨m, S, ρ, ws, S', q, e1, p⟩ := q
  obtain ⟨⟨wx, S1⟩, e2, e3⟩ := Option.bind_eq_some_iff.mp e1
  have h2 : rdE τ X.K A σ H fun x H1 => ∃ a, x = .ref a ∧ ((∃ xs ds, (FzL X.K H1 a xs ∨ SqT X.K H1 a xs) ∧ RpAll X.K H1 xs ds ∧ ∀ J, (∀ m, Yl τ X.K m J (ds.map W.d) H1) → R J H1) ∨
      (∃ o us ds, H1 a = some (.frz o (.dT us)) ∧ ds = (us.map fun q => PyData.tuple (q.1.map keyP)) ∧ (∀ u ∈ us, u.1 ≠ []) ∧ ∀ J, (∀ m, Yl τ X.K m J (ds.map W.d) H1) → R J H1) ∨
      ∃ o us ds, H1 a = some (.frz o (.dK us)) ∧ ds = (us.map fun q => keyP q.1) ∧ ∀ J, (∀ m, Yl τ X.K m J (ds.map W.d) H1) → R J H1) := by
    refine ⟨m, S, ρ, wx, S1, q, e2, fun ext H1 x f q1 fr r => ?_⟩
    simp only at e3
    split at e3
    · cases e3
      obtain ⟨a, xs, rfl, h, r1⟩ := rp_lst r
      exact ⟨a, rfl, .inl ⟨xs, _, .inl h, r1, fun J y => p ext J H1 f q1 fr (y _)⟩⟩
    · cases e3
      obtain ⟨a, xs, rfl, h, r1⟩ := rp_tup r
      exact ⟨a, rfl, .inl ⟨xs, _, .inr h, r1, fun J y => p ext J H1 f q1 fr (y _)⟩⟩
    · cases e3
      cases r with
      | dicT f0 ek nz rk => exact ⟨_, rfl, .inr (.inl ⟨_, _, _, f0, ek, nz, fun J y => p ext J H1 f q1 fr (y _)⟩)⟩
      | dicK f0 hne ek rk => exact ⟨_, rfl, .inr (.inr ⟨_, _, _, f0, ek, fun J y => p ext J H1 f q1 fr (y _)⟩)⟩
    · cases e3
  refine thn (h.run pins s σ H _ I h2) fun v s1 ⟨x, H1, I1, r1, a, ex, hq⟩ => ?_
  subst ex
  cases r1
  have grow : ∀ (o : Obj) b u, s1.heap.get? b = some u → (s1.heap.push o).get? b = some u := fun o b u z => Heap.get?_push_of_some _ z
  have here : ∀ b, b ∈ [s1.heap.objs.size] → FpOk X pins H1 b := fun b hb => by
    have z : b = s1.heap.objs.size := by simpa using hb
    subst z
    exact I1.fpOk (Nat.le_refl _) (I1.hok.fresh (Nat.le_refl _))
  rcases hq with ⟨xs, ds, hq, rp, k⟩ | ⟨o, us, ds, hq, rfl, nz, k⟩ | ⟨o, us, ds, hq, rfl, k⟩
  · rcases hq with hq | hq
    · obtain ⟨its, rv, pl, hz⟩ := I1.list hq.sq
      refine wpAny_pyIter_list pl.isList ⟨s1.heap.objs.size, [s1.heap.objs.size], _, _, H1, rfl, I1.kept (t' := s1.toks) (grow _), turn_list a _, ⟨_, Heap.get?_push_size _ rfl, rfl, rfl⟩, here, k _ fun m => ?_⟩
      refine yl_of (by rw [List.length_map, ← rp.length]; exact walk_list) (fun H' kp => (hq.mono kp).sq) fun i H' x H'' w ew kp y => ?_
      obtain ⟨rfl, hx⟩ := y
      exact ⟨fun _ _ z => z, rpAll_getV (RpAll.mono kp _ _ rp) hx ew⟩
    · obtain ⟨its, rv, pl, hz⟩ := I1.tuple hq
      refine wpAny_pyIter_tuple (show s1.heap.IsTuple a its.toArray from pl) ⟨s1.heap.objs.size, [s1.heap.objs.size], _, _, H1, rfl, I1.kept (t' := s1.toks) (grow _), turn_tuple a _, ⟨_, Heap.get?_push_size _ rfl, rfl, rfl⟩, here, k _ fun m => ?_⟩
      refine yl_of (by rw [List.length_map, ← rp.length]; exact walk_tup) (fun H' kp => sqT_mono hq kp) fun i H' x H'' w ew kp y => ?_
      obtain ⟨rfl, hx⟩ := y
      exact ⟨fun _ _ z => z, rpAll_getV (RpAll.mono kp _ _ rp) hx ew⟩
  · obtain ⟨hs, hgd, hx, es, ep, hdt, hsz, ent⟩ := I1.frzT hq
    refine iter_keys hs hgd hx hdt (pi_one (tk := s1.toks) I1 _ (turn_keysT (d := a) (kvs := us) _ hdt) ⟨_, Heap.get?_push_size _ rfl, rfl, ?_⟩ (k _ fun m => ?_))
    · rw [hsz] <;> rfl
    · refine yl_of (by rw [List.length_map, List.length_map]; exact walk_keysT) (fun H' kp => kp _ _ hq trivial) fun i H' x H'' w ew kp y => ?_
      obtain ⟨rfl, kk, v, qa, e5, rfl, e6⟩ := y
      refine ⟨fun _ _ z => z, ?_⟩
      simp only [List.getElem?_map, Option.map_eq_some_iff] at ew
      obtain ⟨_, ⟨u, hu, rfl⟩, rfl⟩ := ew
      rw [hu] at e5; cases e5
      exact Rp.tup e6 (keys_rul (nz _ (List.mem_of_getElem? hu))) (rp_keysJ _)
  · obtain ⟨hs, hgd, hx, es, ep, vs, hdt, hsz, kv, hm⟩ := I1.frzK hq
    refine iter_keys hs hgd hx hdt (pi_one (tk := s1.toks) I1 _ (turn_keys (d := a) (kvs := us) _ hdt) ⟨_, Heap.get?_push_size _ rfl, rfl, ?_⟩ (k _ fun m => ?_))
    · rw [hsz] <;> rfl
    · refine yl_of (by rw [List.length_map, List.length_map]; exact walk_keys) (fun H' kp => kp _ _ hq trivial) fun i H' x H'' w ew kp y => ?_
      obtain ⟨rfl, kk, v, e5, rfl⟩ := y
      refine ⟨fun _ _ z => z, ?_⟩
      simp only [List.getElem?_map, Option.map_eq_some_iff] at ew
      obtain ⟨_, ⟨u, hu, rfl⟩, rfl⟩ := ew
      rw [hu] at e5; cases e5
      exact rp_keyJ kk
def len0X (S : Sto) : W → Option Nat
  | .d (.dict ds) => some ds.length
  | .loc n => match S[n]? with
    | some (.lst ws) => some ws.length
    | some (.dicT kvs) => some kvs.length
    | some (.dicK kvs) => some kvs.length
    | _ => none
  | w => len0 S w
def lenX := on1 fun w S => (len0X S w).map fun n => (.d (.int (n : Nat)), S)
theorem len_T {pins : List (Addr × Obj)} {σ : L2.St} {H : Hp} {s : Shared} {a : Addr} {kvs : List (List Key × V)} {Q : VK} (I : Inv X pins σ H s) (h : Rd H a (.dT kvs)) (q : Q (.int ((kvs.length : Nat) : Int)) H) :
    wpAny (model X.prog X.w) X.A (call (.builtin "len") [.ref a]) (EP X pins σ Q) X.xe s := by
  obtain ⟨z, hd, ys, rel, dd⟩ := dt_rd I.hok h
  have hl : kvs.length = ys.length := Paired.length rel
  refine call_len_dictH hd dd (by rw [← hl]; rw [sizeLine_eq] at z; omega) ?_
  rw [← hl]
  exact ⟨.int ((kvs.length : Nat) : Int), H, I.tok _, ⟨_, rfl⟩, q⟩
theorem len_K {pins : List (Addr × Obj)} {σ : L2.St} {H : Hp} {s : Shared} {a : Addr} {kvs : List (Key × V)} {Q : VK} (I : Inv X pins σ H s) (h : Rd H a (.dK kvs)) (q : Q (.int ((kvs.length : Nat) : Int)) H) :
    wpAny (model X.prog X.w) X.A (call (.builtin "len") [.ref a]) (EP X pins σ Q) X.xe s :=
  d_len I h fun t s' I' => ⟨.int ((kvs.length : Nat) : Int), H, I', ⟨_, rfl⟩, q⟩
theorem call_lenX : CallR X (.builtin "len") (rC τ X.K lenX) := by
  intro pins s σ H vs us Q I rx h
  obtain ⟨m, S, ρ, σ', w0, w, S', v, rfl, q, r, e, p⟩ := rC1 h
  obtain ⟨n, e1, e2⟩ := Option.map_eq_some_iff.mp e
  cases e2
  have old : len0 S w0 = some n → wpAny (model X.prog X.w) X.A (call (.builtin "len") us) (EP X pins σ Q) X.xe s := fun e0 =>
    call_lenDD pins s σ H _ us Q I rx ⟨m, S, ρ, σ', _, _, _, q, .cons r .nil, by show (len0 S w0).map _ = _; rw [e0]; rfl, p⟩
  have fin := p.now q (.int _)
  unfold len0X at e1
  split at e1
  · cases e1
    cases rx with
    | cons r1 t =>
      cases t
      cases r with
      | dicT f ek nz rk =>
        cases r1
        have hl := congrArg List.length ek
        rw [List.length_map, List.length_map] at hl
        exact len_T I (.inr ⟨_, f⟩) (by rw [← hl]; exact fin)
      | dicK f hne ek rk =>
        cases r1
        have hl := congrArg List.length ek
        rw [List.length_map, List.length_map] at hl
        exact len_K I (.inr ⟨_, f⟩) (by rw [← hl]; exact fin)
  · obtain ⟨a, hm, rfl⟩ := r
    cases rx with
    | cons r1 t =>
      cases t
      cases r1
      split at e1
      · rename_i ws hs
        refine old ?_
        simp only [len0, hs]; exact e1
      · rename_i kvs hs
        cases e1
        obtain ⟨b, hb, us, hv, pr⟩ := q.obs _ _ hs
        rw [hm] at hb; cases hb
        exact len_T I (.of hv) (by rw [Paired.length pr]; exact fin)
      · rename_i kvs hs
        cases e1
        obtain ⟨b, hb, us, hv, pr⟩ := q.obs _ _ hs
        rw [hm] at hb; cases hb
        exact len_K I (.of hv) (by rw [Paired.length pr]; exact fin)
      · cases e1
  · exact old e1
def mGetX1 (A B : ME) : ME := fun ρ S => (A ρ S).bind fun p => if isDicA p.2 p.1 = true then (B ρ p.2).bind fun q => (dlookA q.2 p.1 q.1).map fun o => (o.getD (.d .none), q.2) else none
def mGetX2 (A B C : ME) : ME := fun ρ S => (A ρ S).bind fun p => if isDicA p.2 p.1 = true then (B ρ p.2).bind fun q => (C ρ q.2).bind fun r => (dlookA r.2 p.1 q.1).map fun o => (o.getD r.1, r.2) else none
def inZ (neg : Bool) : W → W → Sto → Option (W × Sto) := fun x y S => if isN S y = true then (nlook S y x).map fun o => (.d (.bool (o.isSome ^^ neg)), S) else inX neg x y S
theorem op_inZ {k : Nat} (hr : Room k X.A) : OpR X (compareOp .In) (rOp τ X.K (inZ false)) := by
  intro pins s σ H x y v u Q I rx ry h
  obtain ⟨m, S, ρ, σ', wx, wy, w, S', q, hx, hy, e, p⟩ := h
  unfold inZ at e
  split at e
  · obtain ⟨o, e1, e2⟩ := Option.map_eq_some_iff.mp e
    cases e2
    obtain ⟨a, b, rows, kvs, k, rfl, rfl, hv, pr, hk, eo⟩ := nlook_of q hy hx e1
    cases rx
    cases ry
    obtain ⟨z, hd, xs, r, dd⟩ := nest_of I hv pr.keys
    have h1 := (r.val k).isSome_eq
    rw [Option.isSome_map, Option.isSome_map] at h1
    have h2 : (lookN rows k).isSome = o.isSome := by
      have := pr.val k
      rw [← eo] at this
      cases o with
      | none =>
        simp only [Option.map_eq_none_iff] at this
        rw [this]; rfl
      | some d =>
        obtain ⟨v, hv, _⟩ := this
        obtain ⟨q, hq, _⟩ := Option.map_eq_some_iff.mp hv
        rw [hq]; rfl
    refine wpAny_in_heap (knd := nestedKind X.prog X.w) (show X.A.in1.units + 8 < cLine by have := hr.un; show X.A.units + 1 + 8 < cLine; omega) (nk_is I hk) hd dd ?_
    rw [atKey_fK, ← h1, h2]
    exact ⟨.bl o.isSome, H, I.tok _, rfl, p.now q (by rw [Bool.xor_false]; exact .bl _)⟩
  · exact op_inX hr pins s σ H x y v u Q I rx ry ⟨m, S, ρ, σ', wx, wy, w, S', q, hx, hy, e, p⟩
def rngN (lo : Int) (n : Nat) : List W := (List.range n).map fun i => W.d (.int (lo - (i : Nat)))
def rng3D (ws : List W) (S : Sto) : Option (List W × Sto) := match ws with
  | [.d (.int i), .d (.int j), .d (.int (-1))] => if (i.toNat < 2 ^ 61 ∧ (-i).toNat < 2 ^ 61) ∧ j.toNat < 2 ^ 61 ∧ (-j).toNat < 2 ^ 61 then some (rngN i (i - j).toNat, S) else none
  | _ => none
def iRng3D (R : MA) : MI := fun ρ S => (R ρ S).bind fun p => rng3D p.1 p.2
end
end DL
end
noncomputable section
namespace DL
open PySem PySem.Spec PyProof.Rows L2 StX
section
variable {X : Cx} {e : Expr} {es : List Expr} {A : ME} {R : MA} {p : Pos}
/-- *e, .. -/
def mStar (A : ME) (R : MA) : MA := fun ρ S => (A ρ S).bind fun p => (seqOf p.2 p.1).bind fun ds => (R ρ p.2).bind fun q => some (ds.map W.d ++ q.1, q.2)
end
section
variable {X : Cx}
def cmpX (g : PyData → PyData → Bool) : W → W → Sto → Option (W × Sto) := fun x y S => match x, y with
  | .d d, .d e => if (PySem.W.alike d e && !d.hasDict && !e.hasDict && !isNon d && decide (d.depth ≤ 60)) = true then some (.d (.bool (g d e)), S) else none
  | _, _ => none
def ltX := cmpX fun d e => PySem.W.dataLt d e
def gtX := cmpX fun d e => PySem.W.dataLt e d
def leX := cmpX fun d e => !PySem.W.dataLt e d
def geX := cmpX fun d e => !PySem.W.dataLt d e
theorem cmpX_of {g : PyData → PyData → Bool} {op : CmpOp} {k : Nat} (hr : Room k X.A)
    (ax : ∀ {s : Shared} {a b : Value} {da db : PyData} {as bs : List Addr} {Q : Value → Shared → Prop} {E : Value → Shared → Prop}, Reads s.heap a da as → Reads s.heap b db bs → PySem.W.alike da db = true → da ≠ .none → X.A.units + min da.depth db.depth < cLine → Q (.bool (g da db)) s → wpAny (model X.prog X.w) X.A (compareOp op a b) Q E s) :
    OpR X (compareOp op) (rOp τ X.K (cmpX g)) := by
  intro pins s σ H x y v u Q I rx ry h
  obtain ⟨m, S, ρ, σ', wx, wy, w, S', q, hx, hy, e, p⟩ := h
  unfold cmpX at e
  split at e
  · rename_i d d2
    split at e
    · rename_i hk
      simp only [Bool.and_eq_true, Bool.not_eq_true', decide_eq_true_eq] at hk
      obtain ⟨⟨⟨⟨h1, h2⟩, h3⟩, h4⟩, h5⟩ := hk
      cases e
      obtain ⟨as, r1⟩ := Dp.reads I _ x v (Rp.dp _ _ h2 hx) rx
      obtain ⟨bs, r2⟩ := Dp.reads I _ y u (Rp.dp _ _ h3 hy) ry
      refine ax r1 r2 h1 (fun z => by subst z; cases h4) (by have := hr.un; have := Nat.min_le_left d.depth d2.depth; omega) ⟨.bl _, H, I, rfl, p.now q (.bl _)⟩
    · cases e
  · cases e
theorem op_ltX {k : Nat} (hr : Room k X.A) : OpR X (compareOp .Lt) (rOp τ X.K ltX) := cmpX_of hr fun h1 h2 h3 h4 h5 h6 => PySem.W.lt_data h1 h2 h3 h4 h5 h6
theorem ev_ltX {i j : Int} {S : Sto} : ltX (.d (.int i)) (.d (.int j)) S = some (.d (.bool (decide (i < j))), S) := by simp [ltX, cmpX, PySem.W.alike, PyData.hasDict, isNon, PyData.depth, PySem.W.dataLt_int]
theorem ev_gtX {i j : Int} {S : Sto} : gtX (.d (.int i)) (.d (.int j)) S = some (.d (.bool (decide (j < i))), S) := by simp [gtX, cmpX, PySem.W.alike, PyData.hasDict, isNon, PyData.depth, PySem.W.dataLt_int]
theorem ev_leX {i j : Int} {S : Sto} : leX (.d (.int i)) (.d (.int j)) S = some (.d (.bool (decide (i ≤ j))), S) := by
  have : (!decide (j < i)) = decide (i ≤ j) := by by_cases h : j < i <;> simp [h] <;> omega
  simp [leX, cmpX, PySem.W.alike, PyData.hasDict, isNon, PyData.depth, PySem.W.dataLt_int, this]
theorem ev_geX {i j : Int} {S : Sto} : geX (.d (.int i)) (.d (.int j)) S = some (.d (.bool (decide (j ≤ i))), S) := by
  have : (!decide (i < j)) = decide (j ≤ i) := by by_cases h : i < j <;> simp [h] <;> omega
  simp [geX, cmpX, PySem.W.alike, PyData.hasDict, isNon, PyData.depth, PySem.W.dataLt_int, this]
end
end DL
end
noncomputable section
namespace DL
open PySem PySem.Spec PyProof.Rows L2 DL
def Wp {α : Type} (x : Option α) (Φ : α → Prop) : Prop := ∃ a, x = some a ∧ Φ a
section
variable {α β : Type} {x y : Option α} {Φ Ψ : α → Prop}
theorem Wp_some {a : α} : Wp (some a) Φ = Φ a := by simp [Wp]
theorem Wp_bind {z : Option β} {f : β → Option α} : Wp (z.bind f) Φ = Wp z fun b => Wp (f b) Φ := by
  cases z with
  | none => simp [Wp]
  | some b => simp [Wp]
theorem Wp_map {z : Option β} {f : β → α} : Wp (z.map f) Φ = Wp z fun b => Φ (f b) := by
  cases z with
  | none => simp [Wp]
  | some b => simp [Wp]
theorem Wp.mono (h : Wp x Ψ) (k : ∀ a, Ψ a → Φ a) : Wp x Φ := by
  obtain ⟨a, e, p⟩ := h; exact ⟨a, e, k a p⟩
theorem Wp.of_eq {a : α} (h : x = some a) (p : Φ a) : Wp x Φ := ⟨a, h, p⟩
theorem Wp.eq (h : Wp x Φ) : ∃ a, x = some a ∧ Φ a := h
theorem Wp_if {c : Prop} [Decidable c] : Wp (if c then x else y) Φ = if c then Wp x Φ else Wp y Φ := by split <;> rfl
theorem Wp_pos {c : Prop} [Decidable c] (h : c) : Wp (if c then x else y) Φ = Wp x Φ := by rw [if_pos h]
end
section
variable {S : Sto} {ρ : DEnv} {A B C : ME} {R : MA} {F G : MS} {T U : MT} {g : MG} {gs : MGs} {it : MI} {i j k n : Nat} {w : W} {ws : List W} {x : PyData} {a : Option W}
  {Φ : W × Sto → Prop} {ΦA : List W × Sto → Prop} {ΦS : Fl × DEnv × Sto → Prop} {ΦT : Bool × Sto → Prop} {ΦG : DEnv × Sto → Prop} {ΦO : Option Int × Sto → Prop}
def seqK (G : MS) (Φ : Fl × DEnv × Sto → Prop) : Fl × DEnv × Sto → Prop
  | (.nx, ρ, S) => Wp (G ρ S) Φ
  | r => Φ r
theorem seqK_nx : seqK G ΦS (.nx, ρ, S) = Wp (G ρ S) ΦS := rfl
theorem seqK_rt : seqK G ΦS (.rt w, ρ, S) = ΦS (.rt w, ρ, S) := rfl
theorem seqK_bk : seqK G ΦS (.bk, ρ, S) = ΦS (.bk, ρ, S) := rfl
theorem seqK_ct : seqK G ΦS (.ct, ρ, S) = ΦS (.ct, ρ, S) := rfl
theorem Wp_seq : Wp (sSeq F G ρ S) ΦS = Wp (F ρ S) (seqK G ΦS) := by
  unfold sSeq
  rw [Wp_bind]
  congr 1; funext p
  obtain ⟨f, ρ', S'⟩ := p
  cases f <;> simp [seqK, Wp_some]
theorem Wp_nil : Wp (sNil ρ S) ΦS = ΦS (.nx, ρ, S) := Wp_some
theorem Wp_pass : Wp (sPass ρ S) ΦS = ΦS (.nx, ρ, S) := Wp_some
theorem Wp_break : Wp (sBreak ρ S) ΦS = ΦS (.bk, ρ, S) := Wp_some
theorem Wp_cont : Wp (sCont ρ S) ΦS = ΦS (.ct, ρ, S) := Wp_some
theorem Wp_retN : Wp (sRetN ρ S) ΦS = ΦS (.rt (.d .none), ρ, S) := Wp_some
theorem Wp_expr : Wp (sExpr A ρ S) ΦS = Wp (A ρ S) fun p => ΦS (.nx, ρ, p.2) := by unfold sExpr; rw [Wp_bind]; congr 1; funext p; rw [Wp_some]
theorem Wp_ret : Wp (sRet A ρ S) ΦS = Wp (A ρ S) fun p => ΦS (.rt p.1, ρ, p.2) := by unfold sRet; rw [Wp_bind]; congr 1; funext p; rw [Wp_some]
def ifK (F G : MS) (ρ : DEnv) (Φ : Fl × DEnv × Sto → Prop) : Bool × Sto → Prop := fun p => if p.1 = true then Wp (F ρ p.2) Φ else Wp (G ρ p.2) Φ
theorem ifK_t : ifK F G ρ ΦS (true, S) = Wp (F ρ S) ΦS := rfl
theorem ifK_f : ifK F G ρ ΦS (false, S) = Wp (G ρ S) ΦS := rfl
theorem ifK_nt {c : Bool} : ifK F G ρ ΦS (!c, S) = ifK G F ρ ΦS (c, S) := by cases c <;> rfl
theorem Wp_sif : Wp (sIf T F G ρ S) ΦS = Wp (T ρ S) (ifK F G ρ ΦS) := by
  unfold sIf; rw [Wp_bind]; congr 1; funext p; unfold ifK; rw [Wp_if]
theorem ifK_dec {p : Prop} [Decidable p] (h1 : p → Wp (F ρ S) ΦS) (h2 : ¬ p → Wp (G ρ S) ΦS) : ifK F G ρ ΦS (decide p, S) := by
  by_cases h : p
  · rw [decide_eq_true h]; exact h1 h
  · rw [decide_eq_false h]; exact h2 h
theorem ifK_b {c : Bool} (h1 : c = true → Wp (F ρ S) ΦS) (h2 : c = false → Wp (G ρ S) ΦS) : ifK F G ρ ΦS (c, S) := by
  cases c
  · exact h2 rfl
  · exact h1 rfl
theorem Wp_asg : Wp (sAsg A g ρ S) ΦS = Wp (A ρ S) fun p => Wp (g p.1 ρ p.2) fun q => ΦS (.nx, q.1, q.2) := by
  unfold sAsg; rw [Wp_bind]; congr 1; funext p; rw [Wp_bind]; congr 1; funext q; rw [Wp_some]
def parX (i j : Nat) (ρ : DEnv) (p : List W × Sto) : Option (Fl × DEnv × Sto) := match p.1 with
  | [w, u] => if i < ρ.length ∧ j < ρ.length then some (.nx, (ρ.set i (some w)).set j (some u), p.2) else none
  | _ => none
theorem Wp_par : Wp (sPar i j R ρ S) ΦS = Wp (R ρ S) fun p => Wp (parX i j ρ p) ΦS := by unfold sPar; rw [Wp_bind]; rfl
theorem parX_ok {u : W} (h : i < ρ.length ∧ j < ρ.length) : parX i j ρ ([w, u], S) = some (.nx, (ρ.set i (some w)).set j (some u), S) := by unfold parX; simp only; rw [if_pos h]
def parY (i j l : Nat) (ρ : DEnv) (p : List W × Sto) : Option (Fl × DEnv × Sto) := match p.1 with
  | [w, u, z] => if i < ρ.length ∧ j < ρ.length ∧ l < ρ.length then some (.nx, ((ρ.set i (some w)).set j (some u)).set l (some z), p.2) else none
  | _ => none
theorem Wp_par3 : Wp (sPar3 i j k R ρ S) ΦS = Wp (R ρ S) fun p => Wp (parY i j k ρ p) ΦS := by unfold sPar3; rw [Wp_bind]; rfl
theorem parY_ok {u z : W} (h : i < ρ.length ∧ j < ρ.length ∧ k < ρ.length) : parY i j k ρ ([w, u, z], S) = some (.nx, ((ρ.set i (some w)).set j (some u)).set k (some z), S) := by unfold parY; simp only; rw [if_pos h]
theorem Wp_tupA : Wp (sTupA n gs R ρ S) ΦS = Wp (R ρ S) fun p => Wp (if p.1.length = n ∧ n ≤ sizeLine then gs p.1 ρ p.2 else none) fun q => ΦS (.nx, q.1, q.2) := by
  unfold sTupA; rw [Wp_bind]; congr 1; funext p; rw [Wp_if, Wp_if]
  split
  · rw [Wp_bind]; congr 1; funext q; rw [Wp_some]
  · simp [Wp]
def augK (i : Nat) (f : W → W → Sto → Option (W × Sto)) (A : ME) (ρ : DEnv) (S : Sto) (Φ : Fl × DEnv × Sto → Prop) : Option (Option W) → Prop
  | some (some w) => Wp (A ρ S) fun p => Wp (f w p.1 p.2) fun q => Φ (.nx, ρ.set i (some q.1), q.2)
  | _ => False
theorem augK_ok {f : W → W → Sto → Option (W × Sto)} : augK i f A ρ S ΦS (some (some w)) = Wp (A ρ S) fun p => Wp (f w p.1 p.2) fun q => ΦS (.nx, ρ.set i (some q.1), q.2) := rfl
theorem Wp_aug {f : W → W → Sto → Option (W × Sto)} : Wp (sAug i f A ρ S) ΦS = augK i f A ρ S ΦS ρ[i]? := by
  unfold sAug
  rcases ρ[i]? with _ | _ | w
  · simp [Wp, augK]
  · simp [Wp, augK]
  · simp only [augK, Wp_bind, Wp_some]
theorem Wp_augS {f g : W → W → Sto → Option (W × Sto)} {t : W → W → W → Sto → Option Sto} : Wp (sAugS A B C g f t ρ S) ΦS = Wp (A ρ S) fun p => Wp (B ρ p.2) fun q => Wp (g p.1 q.1 q.2) fun x => Wp (C ρ x.2) fun y => Wp (f x.1 y.1 y.2) fun z => Wp (t p.1 q.1 z.1 z.2) fun S' => ΦS (.nx, ρ, S') := by
  unfold sAugS; simp only [Wp_bind, Wp_some]
theorem Wp_for : Wp (sFor it g F ρ S) ΦS = Wp (it ρ S) fun p => Wp (forL g F p.1 ρ p.2) ΦS := by unfold sFor; rw [Wp_bind]
theorem Wp_set (h : i < ρ.length) : Wp (gSet i w ρ S) ΦG = ΦG (ρ.set i (some w), S) := by unfold gSet; rw [Wp_pos h, Wp_some]
theorem Wp_gtup {ds : List PyData} : Wp (gTupD n gs (.d (.tuple ds)) ρ S) ΦG = Wp (if ds.length = n then gs (ds.map W.d) ρ S else none) ΦG := rfl
theorem Wp_gnil : Wp (gsNil [] ρ S) ΦG = ΦG (ρ, S) := Wp_some
theorem Wp_gcons : Wp (gsCons g gs (w :: ws) ρ S) ΦG = Wp (g w ρ S) fun p => Wp (gs ws p.1 p.2) ΦG := Wp_bind
theorem Wp_gsub {f : W → W → W → Sto → Option Sto} : Wp (gSubD A B f w ρ S) ΦG = Wp (A ρ S) fun p => Wp (B ρ p.2) fun q => Wp (f p.1 q.1 w q.2) fun S' => ΦG (ρ, S') := by
  unfold gSubD; simp only [Wp_bind, Wp_some]
def varK (Φ : W × Sto → Prop) (S : Sto) : Option (Option W) → Prop
  | some (some w) => Φ (w, S)
  | _ => False
theorem varK_ok : varK Φ S (some (some w)) = Φ (w, S) := rfl
theorem Wp_var : Wp (mVar i ρ S) Φ = varK Φ S ρ[i]? := by
  unfold mVar
  rcases ρ[i]? with _ | _ | w
  · simp [Wp, varK]
  · simp [Wp, varK]
  · simp only [varK, Wp_some]
theorem Wp_c : Wp (mC x ρ S) Φ = Φ (.d x, S) := Wp_some
theorem Wp_mnil : Wp (mNil ρ S) ΦA = ΦA ([], S) := Wp_some
theorem Wp_mcons : Wp (mCons A R ρ S) ΦA = Wp (A ρ S) fun p => Wp (R ρ p.2) fun q => ΦA (p.1 :: q.1, q.2) := by unfold mCons; simp only [Wp_bind, Wp_some]
theorem Wp_call {f : List W → Sto → Option (W × Sto)} : Wp (mCall f R ρ S) Φ = Wp (R ρ S) fun p => Wp (f p.1 p.2) Φ := Wp_bind
theorem Wp_bin {f : W → W → Sto → Option (W × Sto)} : Wp (mBin f A B ρ S) Φ = Wp (A ρ S) fun p => Wp (B ρ p.2) fun q => Wp (f p.1 q.1 q.2) Φ := by unfold mBin; simp only [Wp_bind]
theorem Wp_mt {f : W → List W → Sto → Option (W × Sto)} : Wp (mMt f A R ρ S) Φ = Wp (A ρ S) fun p => isLst p.2 p.1 = true ∧ Wp (R ρ p.2) fun q => Wp (f p.1 q.1 q.2) Φ := by
  unfold mMt; simp only [Wp_bind]
  congr 1; funext p
  cases isLst p.2 p.1
  · simp [Wp]
  · simp only [if_true, true_and, Wp_bind]
def toB : W × Sto → Option (Bool × Sto)
  | (.d (.bool b), S) => some (b, S)
  | _ => none
theorem toB_ok {b : Bool} : toB (.d (.bool b), S) = some (b, S) := rfl
theorem Wp_tof : Wp (tOf A ρ S) ΦT = Wp (A ρ S) fun p => Wp (toB p) ΦT := by
  unfold tOf; rw [Wp_bind]; congr 1; funext p
  obtain ⟨w, S'⟩ := p
  rcases w with (_ | _ | _ | _ | _ | _ | _) | _ <;> rfl
theorem Wp_ttru : Wp (tTru A ρ S) ΦT = Wp (A ρ S) fun p => Wp (truD p.2 p.1) fun b => ΦT (b, p.2) := by unfold tTru; simp only [Wp_bind, Wp_some]
theorem Wp_tnot : Wp (tNotD T ρ S) ΦT = Wp (T ρ S) fun p => ΦT (!p.1, p.2) := by unfold tNotD; simp only [Wp_bind, Wp_some]
def andK (T : MT) (ρ : DEnv) (Φ : Bool × Sto → Prop) : Bool × Sto → Prop := fun p => if p.1 = true then Wp (T ρ p.2) Φ else Φ (false, p.2)
def orK (T : MT) (ρ : DEnv) (Φ : Bool × Sto → Prop) : Bool × Sto → Prop := fun p => if p.1 = true then Φ (true, p.2) else Wp (T ρ p.2) Φ
theorem andK_t : andK T ρ ΦT (true, S) = Wp (T ρ S) ΦT := rfl
theorem andK_f : andK T ρ ΦT (false, S) = ΦT (false, S) := rfl
theorem orK_t : orK T ρ ΦT (true, S) = ΦT (true, S) := rfl
theorem orK_f : orK T ρ ΦT (false, S) = Wp (T ρ S) ΦT := rfl
theorem Wp_tand : Wp (tAndD T U ρ S) ΦT = Wp (T ρ S) (andK U ρ ΦT) := by
  unfold tAndD; rw [Wp_bind]; congr 1; funext p; unfold andK; rw [Wp_if]; simp only [Wp_some]
theorem Wp_tor : Wp (tOrD T U ρ S) ΦT = Wp (T ρ S) (orK U ρ ΦT) := by
  unfold tOrD; rw [Wp_bind]; congr 1; funext p; unfold orK; rw [Wp_if]; simp only [Wp_some]
theorem Wp_tTrue : Wp (tTrue ρ S) ΦT = ΦT (true, S) := Wp_some
def vifK (A B : ME) (ρ : DEnv) (Φ : W × Sto → Prop) : Bool × Sto → Prop := fun p => if p.1 = true then Wp (A ρ p.2) Φ else Wp (B ρ p.2) Φ
theorem vifK_t : vifK A B ρ Φ (true, S) = Wp (A ρ S) Φ := rfl
theorem vifK_f : vifK A B ρ Φ (false, S) = Wp (B ρ S) Φ := rfl
theorem vifK_dec {p : Prop} [Decidable p] (h1 : p → Wp (A ρ S) Φ) (h2 : ¬ p → Wp (B ρ S) Φ) : vifK A B ρ Φ (decide p, S) := by
  by_cases h : p
  · rw [decide_eq_true h]; exact h1 h
  · rw [decide_eq_false h]; exact h2 h
theorem Wp_vif : Wp (vIf T A B ρ S) Φ = Wp (T ρ S) (vifK A B ρ Φ) := by
  unfold vIf; rw [Wp_bind]; congr 1; funext p; unfold vifK; rw [Wp_if]
def vandK (B : ME) (ρ : DEnv) (Φ : W × Sto → Prop) : Bool × Sto → Prop := fun p => if p.1 = true then Wp (B ρ p.2) Φ else Φ (.d (.bool false), p.2)
def vorK (B : ME) (ρ : DEnv) (Φ : W × Sto → Prop) : Bool × Sto → Prop := fun p => if p.1 = true then Φ (.d (.bool true), p.2) else Wp (B ρ p.2) Φ
theorem vandK_t : vandK B ρ Φ (true, S) = Wp (B ρ S) Φ := rfl
theorem vandK_f : vandK B ρ Φ (false, S) = Φ (.d (.bool false), S) := rfl
theorem vorK_t : vorK B ρ Φ (true, S) = Φ (.d (.bool true), S) := rfl
theorem vorK_f : vorK B ρ Φ (false, S) = Wp (B ρ S) Φ := rfl
theorem Wp_vand : Wp (vAnd A B ρ S) Φ = Wp (A ρ S) fun p => Wp (toB p) (vandK B ρ Φ) := by
  unfold vAnd; rw [Wp_bind]; congr 1; funext p
  obtain ⟨w, S'⟩ := p
  rcases w with (_ | b | _ | _ | _ | _ | _) | _ <;> first
    | (simp [toB, Wp]; done)
    | (cases b <;> simp [toB, Wp_some, vandK])
theorem Wp_vor : Wp (vOr A B ρ S) Φ = Wp (A ρ S) fun p => Wp (toB p) (vorK B ρ Φ) := by
  unfold vOr; rw [Wp_bind]; congr 1; funext p
  obtain ⟨w, S'⟩ := p
  rcases w with (_ | b | _ | _ | _ | _ | _) | _ <;> first
    | (simp [toB, Wp]; done)
    | (cases b <;> simp [toB, Wp_some, vorK])
theorem Wp_vnot : Wp (vNot A ρ S) Φ = Wp (A ρ S) fun p => Wp (toB p) fun q => Φ (.d (.bool (!q.1)), q.2) := by
  unfold vNot; rw [Wp_bind]; congr 1; funext p
  obtain ⟨w, S'⟩ := p
  rcases w with (_ | b | _ | _ | _ | _ | _) | _ <;> first
    | (simp [toB, Wp]; done)
    | (simp [toB, Wp_some])
theorem Wp_sl {L U : MO} : Wp (mSl A L U ρ S) Φ = Wp (A ρ S) fun p => Wp (L ρ p.2) fun l => Wp (U ρ l.2) fun u => Wp (sliceD p.1 l.1 u.1 u.2) Φ := by unfold mSl; simp only [Wp_bind]
theorem Wp_ono : Wp (oNo ρ S) ΦO = ΦO (none, S) := Wp_some
def toO : W × Sto → Option (Option Int × Sto)
  | (.d (.int i), S) => some (some i, S)
  | _ => none
theorem toO_ok {i : Int} : toO (.d (.int i), S) = some (some i, S) := rfl
theorem Wp_oyes : Wp (oYes A ρ S) ΦO = Wp (A ρ S) fun p => Wp (toO p) ΦO := by
  unfold oYes; rw [Wp_bind]; congr 1; funext p
  obtain ⟨w, S'⟩ := p
  rcases w with (_ | _ | _ | _ | _ | _ | _) | _ <;> rfl
def frzX (p : W × Sto) : Option (W × Sto) := match p.1 with
  | .loc j => match p.2[j]? with
    | some (.lst ws) => (allD ws).map fun ds => (.d (.list ds), p.2.set j .dead)
    | _ => none
  | .d _ => none
  | .fn => none
theorem Wp_frz : Wp (mFrz A ρ S) Φ = Wp (A ρ S) fun p => Wp (frzX p) Φ := by unfold mFrz; rw [Wp_bind]; rfl
def frzY (p : W × Sto) : Option (W × Sto) := match p.1 with
  | .loc j => (p.2[j]?).bind fun o => (frzO o).map fun d => (.d d, p.2.set j .dead)
  | .d _ => none
  | .fn => none
theorem Wp_frzA : Wp (mFrzA A ρ S) Φ = Wp (A ρ S) fun p => Wp (frzY p) Φ := by unfold mFrzA; rw [Wp_bind]; rfl
def toI (p : W × Sto) : Option (List W × Sto) := match p.1 with
  | .d (.list ds) => some (ds.map W.d, p.2)
  | .d (.tuple ds) => some (ds.map W.d, p.2)
  | _ => none
theorem toI_l {ds : List PyData} : toI (.d (.list ds), S) = some (ds.map W.d, S) := rfl
theorem toI_t {ds : List PyData} : toI (.d (.tuple ds), S) = some (ds.map W.d, S) := rfl
theorem Wp_iseq {ΦI : List W × Sto → Prop} : Wp (iSeq A ρ S) ΦI = Wp (A ρ S) fun p => Wp (toI p) ΦI := by
  unfold iSeq; rw [Wp_bind]; rfl
theorem Wp_rng1 {ΦI : List W × Sto → Prop} : Wp (iRng1D R ρ S) ΦI = Wp (R ρ S) fun p => Wp (rng1D p.1 p.2) ΦI := by rw [iRng1D_eq, Wp_bind]
def rng2D (ws : List W) (S : Sto) : Option (List W × Sto) := match ws with
  | [.d (.int lo), .d (.int hi)] => if (lo.toNat < 2 ^ 61 ∧ (-lo).toNat < 2 ^ 61) ∧ hi.toNat < 2 ^ 61 ∧ (-hi).toNat < 2 ^ 61 then some (rngD lo (hi - lo).toNat, S) else none
  | _ => none
theorem Wp_rng2 {ΦI : List W × Sto → Prop} : Wp (iRng2D R ρ S) ΦI = Wp (R ρ S) fun p => Wp (rng2D p.1 p.2) ΦI := by unfold iRng2D; rw [Wp_bind]; rfl
def isLstO : Option Ob → Bool
  | some (.lst _) => true
  | _ => false
theorem isLst_loc : isLst S (.loc n) = isLstO S[n]? := rfl
theorem isLstO_ok {us : List W} : isLstO (some (.lst us)) = true := rfl
theorem get_end {ob : Ob} : (S ++ [ob])[S.length]? = some ob := by rw [List.getElem?_append_right (Nat.le_refl _)]; simp
theorem set_end {ob o2 : Ob} : (S ++ [ob]).set S.length o2 = S ++ [o2] := by rw [List.set_append_right _ _ (Nat.le_refl _)]; simp
def frzXo (j : Nat) (S : Sto) : Option Ob → Option (W × Sto)
  | some (.lst ws) => (allD ws).map fun ds => (.d (.list ds), S.set j .dead)
  | _ => none
theorem frzX_loc : frzX (.loc n, S) = frzXo n S S[n]? := by
  rfl
theorem frzXo_ok {ds : List PyData} : frzXo n S (some (.lst (ds.map W.d))) = some (.d (.list ds), S.set n .dead) := by simp only [frzXo, allD_map, Option.map_some]
theorem frzXo_nil : frzXo n S (some (.lst [])) = some (.d (.list []), S.set n .dead) := rfl
theorem frzXo_one : frzXo n S (some (.lst [.d x])) = some (.d (.list [x]), S.set n .dead) := rfl
def frzYo (j : Nat) (S : Sto) : Option Ob → Option (W × Sto)
  | some ob => (frzO ob).map fun d => (.d d, S.set j .dead)
  | none => none
theorem frzY_loc : frzY (.loc n, S) = frzYo n S S[n]? := by
  unfold frzY frzYo
  simp only
  cases S[n]? <;> rfl
theorem frzYo_ok {ds : List PyData} : frzYo n S (some (.lst (ds.map W.d))) = some (.d (.list ds), S.set n .dead) := by simp only [frzYo, frzO, allD_map, Option.map_some]
theorem frzYo_nil : frzYo n S (some (.lst [])) = some (.d (.list []), S.set n .dead) := rfl
theorem frzYo_one : frzYo n S (some (.lst [.d x])) = some (.d (.list [x]), S.set n .dead) := rfl
/-- a for: J i holds ahead of the i-th turn -/
theorem wp_forG {ws : List W} (J : Nat → DEnv → Sto → Prop) (h0 : J 0 ρ S)
    (st : ∀ i w ρ S, ws[i]? = some w → J i ρ S → Wp (g w ρ S) fun p => Wp (F p.1 p.2) fun q => ((q.1 = .nx ∨ q.1 = .ct) ∧ J (i + 1) q.2.1 q.2.2) ∨ (q.1 = .bk ∧ ΦS (.nx, q.2.1, q.2.2)) ∨ (∃ w, q.1 = .rt w ∧ ΦS q))
    (fin : ∀ ρ S, J ws.length ρ S → ΦS (.nx, ρ, S)) : Wp (forL g F ws ρ S) ΦS := by
  suffices h : ∀ (us : List W) (k : Nat) (ρ : DEnv) (S : Sto), ws.drop k = us → k ≤ ws.length → J k ρ S → Wp (forL g F us ρ S) ΦS from h ws 0 ρ S rfl (Nat.zero_le _) h0
  intro us
  induction us with
  | nil =>
    intro k ρ S e hk j
    have : k = ws.length := by
      have := congrArg List.length e
      rw [List.length_drop] at this
      simp at this; omega
    subst this
    exact ⟨_, rfl, fin _ _ j⟩
  | cons w us ih =>
    intro k ρ S e hk j
    have hw : ws[k]? = some w := by
      have := congrArg (fun l => l[0]?) e
      simpa [List.getElem?_drop] using this
    have hk1 : k + 1 ≤ ws.length := (List.getElem?_eq_some_iff.mp hw).1
    have hd : ws.drop (k + 1) = us := by
      rw [← List.drop_drop, e]; rfl
    obtain ⟨⟨ρ1, S1⟩, e1, ⟨⟨f, ρ2, S2⟩, e2, c⟩⟩ := st k w ρ S hw j
    simp only at e2 c
    rcases c with ⟨c, j2⟩ | ⟨c, p⟩ | ⟨v, c, p⟩
    · have := ih (k + 1) ρ2 S2 hd hk1 j2
      rcases c with rfl | rfl <;> simpa only [forL, e1, e2, Option.bind_some] using this
    · subst c
      exact ⟨(.nx, ρ2, S2), by simp only [forL, e1, e2, Option.bind_some], p⟩
    · subst c
      exact ⟨(.rt v, ρ2, S2), by simp only [forL, e1, e2, Option.bind_some], p⟩
/-- a for that is walked to its end; J is told of the entry -/
theorem wp_for {ws : List W} (J : DEnv → Sto → Nat → DEnv → Sto → Prop) (h0 : J ρ S 0 ρ S)
    (st : ∀ i w ρ1 S1, ws[i]? = some w → J ρ S i ρ1 S1 → Wp (g w ρ1 S1) fun p => Wp (F p.1 p.2) fun q => q.1 = .nx ∧ J ρ S (i + 1) q.2.1 q.2.2)
    (fin : ∀ ρ1 S1, J ρ S ws.length ρ1 S1 → ΦS (.nx, ρ1, S1)) : Wp (forL g F ws ρ S) ΦS :=
  wp_forG (J ρ S) h0 (fun i w ρ S hw j => (st i w ρ S hw j).mono fun p h => h.mono fun q c => .inl ⟨.inl c.1, c.2⟩) fin
/-- over things that are coded -/
theorem wp_forE {α : Type} {l : List α} {enc : α → PyData} (J : DEnv → Sto → Nat → DEnv → Sto → Prop) (h0 : J ρ S 0 ρ S)
    (st : ∀ i a ρ1 S1, l[i]? = some a → J ρ S i ρ1 S1 → Wp (g (.d (enc a)) ρ1 S1) fun p => Wp (F p.1 p.2) fun q => q.1 = .nx ∧ J ρ S (i + 1) q.2.1 q.2.2)
    (fin : ∀ ρ1 S1, J ρ S l.length ρ1 S1 → ΦS (.nx, ρ1, S1)) : Wp (forL g F ((l.map enc).map W.d) ρ S) ΦS :=
  wp_for J h0 (fun i w ρ1 S1 hw j => by
    simp only [List.getElem?_map, Option.map_eq_some_iff] at hw
    obtain ⟨_, ⟨a, ha, rfl⟩, rfl⟩ := hw
    exact st i a ρ1 S1 ha j) (by rw [List.length_map, List.length_map]; exact fin)
theorem wp_rng {lo : Int} {n : Nat} (J : DEnv → Sto → Nat → DEnv → Sto → Prop) (h0 : J ρ S 0 ρ S)
    (st : ∀ i ρ1 S1, i < n → J ρ S i ρ1 S1 → Wp (g (.d (.int (lo + i))) ρ1 S1) fun p => Wp (F p.1 p.2) fun q => q.1 = .nx ∧ J ρ S (i + 1) q.2.1 q.2.2)
    (fin : ∀ ρ1 S1, J ρ S n ρ1 S1 → ΦS (.nx, ρ1, S1)) : Wp (forL g F (rngD lo n) ρ S) ΦS :=
  wp_for J h0 (fun i w ρ1 S1 hw j => by
    obtain ⟨h1, rfl⟩ := rngD_get hw
    exact st i ρ1 S1 h1 j) (by rw [rngD_len]; exact fin)
theorem wp_append {us : List W} (hS : S[n]? = some (.lst us)) (hl : us.length < sizeLine) (k : Φ (.d .none, S.set n (.lst (us ++ [w])))) : Wp (appendF (.loc n) [w] S) Φ := by
  refine ⟨_, ?_, k⟩
  simp only [appendF, onL, hS, if_pos hl, Option.bind_some]
theorem wp_extend {us : List W} {ds : List PyData} (hS : S[n]? = some (.lst us)) (hl : us.length + ds.length ≤ sizeLine) (k : Φ (.d .none, S.set n (.lst (us ++ ds.map W.d)))) : Wp (extendF (.loc n) [.d (.list ds)] S) Φ := by
  refine ⟨_, ?_, k⟩
  simp only [extendF, onL, hS, deref, if_pos hl, Option.bind_some]
/-- [F(x) for x in l if P(x)], nothing changed -/
theorem wp_lcL {α : Type} {l : List α} {vs : List Nat} {enc : α → PyData} {P : α → Bool} {H : α → PyData} (h : ∀ a ∈ l, Wp (g (.d (enc a)) (wipeD ρ vs) S) fun p => Wp (T p.1 p.2) fun q => q = (P a, S) ∧ p.2 = S ∧ (P a = true → Wp (A p.1 S) fun r => r = (.d (H a), S))) :
    lcL g T A vs ρ ((l.map enc).map W.d) S = some ((((l.filter P).map H).map W.d), S) := lcL_e enc P H fun a ha => by
  obtain ⟨⟨ρ1, S1⟩, e1, ⟨q, e2, rfl, h2, k⟩⟩ := h a ha
  simp only at h2 e2; subst h2
  refine ⟨ρ1, e1, e2, fun hp => ?_⟩
  obtain ⟨_, e3, rfl⟩ := k hp
  exact e3
theorem wp_lc {α : Type} {l : List α} {vs : List Nat} {enc : α → PyData} {P : α → Bool} {H : α → PyData} {S1 : Sto} (hi : Wp (it ρ S) fun p => p = ((l.map enc).map W.d, S1))
    (h : ∀ a ∈ l, Wp (g (.d (enc a)) (wipeD ρ vs) S1) fun p => Wp (T p.1 p.2) fun q => q = (P a, S1) ∧ p.2 = S1 ∧ (P a = true → Wp (A p.1 S1) fun r => r = (.d (H a), S1))) (hl : (l.filter P).length ≤ sizeLine)
    (fin : Φ (.d (.list ((l.filter P).map H)), S1)) : Wp (mLc it g T A vs kFrz ρ S) Φ := by
  obtain ⟨_, e, rfl⟩ := hi
  have hk : ((l.filter P).map H).length ≤ sizeLine := by rw [List.length_map]; exact hl
  exact ⟨_, by simp only [mLc, e, Option.bind_some, wp_lcL h, kFrz, allD_map, if_pos hk], fin⟩
/-- without a test -/
theorem wp_lcA {α : Type} {l : List α} {vs : List Nat} {enc : α → PyData} {H : α → PyData} {S1 : Sto} (hi : Wp (it ρ S) fun p => p = ((l.map enc).map W.d, S1))
    (h : ∀ a ∈ l, Wp (g (.d (enc a)) (wipeD ρ vs) S1) fun p => p.2 = S1 ∧ Wp (A p.1 S1) fun r => r = (.d (H a), S1)) (hl : l.length ≤ sizeLine)
    (fin : Φ (.d (.list (l.map H)), S1)) : Wp (mLc it g tTrue A vs kFrz ρ S) Φ := by
  have e : l.filter (fun _ => true) = l := List.filter_eq_self.mpr fun _ _ => rfl
  refine wp_lc (P := fun _ => true) (H := H) hi (fun a ha => (h a ha).mono fun p hp => ?_) (by rw [e]; exact hl) (by rw [e]; exact fin)
  exact ⟨_, rfl, by rw [hp.1], hp.1, fun _ => hp.2⟩
theorem wp_call0 {f : MS} {N : Nat} {vs : List W} {ΨF : PyData → Prop} (h0 : firstLoc vs = none) (h : Wp (f (vs.map some ++ List.replicate (N - vs.length) none) []) fun r => ∃ x, r.1 = .rt (.d x) ∧ ΨF x) :
    Wp (callF (runF N f) vs S) fun r => ∃ x, r = (.d x, S) ∧ ΨF x := by
  obtain ⟨⟨_, ρ', S'⟩, e, x, rfl, p⟩ := h
  exact ⟨_, callF_pure h0 (runF_ret0 ⟨ρ', S', e⟩), x, rfl, p⟩
theorem wp_call1 {f : MS} {N : Nat} {vs : List W} {ob : Ob} {ΨF : PyData → Ob → Prop} (h0 : firstLoc vs = some n) (h1 : allLoc n vs = true) (h2 : S[n]? = some ob) (h3 : obD ob = true)
    (h : Wp (f ((vs.map toZero).map some ++ List.replicate (N - vs.length) none) [ob]) fun r => ∃ x ob' S', r.1 = .rt (.d x) ∧ r.2.2 = ob' :: S' ∧ obD ob' = true ∧ ΨF x ob') :
    Wp (callF (runF N f) vs S) fun r => ∃ x ob', r = (.d x, S.set n ob') ∧ ΨF x ob' := by
  obtain ⟨⟨_, ρ', _⟩, e, x, ob', S', rfl, rfl, h4, p⟩ := h
  refine ⟨_, callF_loc h0 h1 h2 h3 (runF_ret1 ⟨ρ', S', ?_⟩ h4) h4, x, ob', rfl, p⟩
  rw [List.length_map]; exact e
section
variable {x0 x1 x2 x3 x4 x5 x6 x7 x8 x9 x10 : PyData} {w0 w1 w2 w3 w4 : W}
theorem tupF_0 : tupF [] S = some (.d (.tuple []), S) := by unfold tupF; simp only [allD, Option.map_some, Option.bind_some, List.length_cons, List.length_nil]; rw [if_pos (by decide)]
theorem lstF_0 : lstF [] S = some (.d (.list []), S) := by unfold lstF; simp only [allD, Option.map_some, Option.bind_some, List.length_cons, List.length_nil]; rw [if_pos (by decide)]
theorem lstB_0 : lstB [] S = some (.loc S.length, S ++ [.lst []]) := by unfold lstB; simp only [List.length_cons, List.length_nil]; rw [if_pos (by decide)]
theorem tupF_1 : tupF [.d x0] S = some (.d (.tuple [x0]), S) := by unfold tupF; simp only [allD, Option.map_some, Option.bind_some, List.length_cons, List.length_nil]; rw [if_pos (by decide)]
theorem lstF_1 : lstF [.d x0] S = some (.d (.list [x0]), S) := by unfold lstF; simp only [allD, Option.map_some, Option.bind_some, List.length_cons, List.length_nil]; rw [if_pos (by decide)]
theorem lstB_1 : lstB [w0] S = some (.loc S.length, S ++ [.lst [w0]]) := by unfold lstB; simp only [List.length_cons, List.length_nil]; rw [if_pos (by decide)]
theorem tupF_2 : tupF [.d x0, .d x1] S = some (.d (.tuple [x0, x1]), S) := by unfold tupF; simp only [allD, Option.map_some, Option.bind_some, List.length_cons, List.length_nil]; rw [if_pos (by decide)]
theorem lstF_2 : lstF [.d x0, .d x1] S = some (.d (.list [x0, x1]), S) := by unfold lstF; simp only [allD, Option.map_some, Option.bind_some, List.length_cons, List.length_nil]; rw [if_pos (by decide)]
theorem lstB_2 : lstB [w0, w1] S = some (.loc S.length, S ++ [.lst [w0, w1]]) := by unfold lstB; simp only [List.length_cons, List.length_nil]; rw [if_pos (by decide)]
theorem tupF_3 : tupF [.d x0, .d x1, .d x2] S = some (.d (.tuple [x0, x1, x2]), S) := by unfold tupF; simp only [allD, Option.map_some, Option.bind_some, List.length_cons, List.length_nil]; rw [if_pos (by decide)]
theorem lstF_3 : lstF [.d x0, .d x1, .d x2] S = some (.d (.list [x0, x1, x2]), S) := by unfold lstF; simp only [allD, Option.map_some, Option.bind_some, List.length_cons, List.length_nil]; rw [if_pos (by decide)]
theorem lstB_3 : lstB [w0, w1, w2] S = some (.loc S.length, S ++ [.lst [w0, w1, w2]]) := by unfold lstB; simp only [List.length_cons, List.length_nil]; rw [if_pos (by decide)]
theorem tupF_4 : tupF [.d x0, .d x1, .d x2, .d x3] S = some (.d (.tuple [x0, x1, x2, x3]), S) := by unfold tupF; simp only [allD, Option.map_some, Option.bind_some, List.length_cons, List.length_nil]; rw [if_pos (by decide)]
theorem lstF_4 : lstF [.d x0, .d x1, .d x2, .d x3] S = some (.d (.list [x0, x1, x2, x3]), S) := by unfold lstF; simp only [allD, Option.map_some, Option.bind_some, List.length_cons, List.length_nil]; rw [if_pos (by decide)]
theorem lstB_4 : lstB [w0, w1, w2, w3] S = some (.loc S.length, S ++ [.lst [w0, w1, w2, w3]]) := by unfold lstB; simp only [List.length_cons, List.length_nil]; rw [if_pos (by decide)]
theorem tupF_5 : tupF [.d x0, .d x1, .d x2, .d x3, .d x4] S = some (.d (.tuple [x0, x1, x2, x3, x4]), S) := by unfold tupF; simp only [allD, Option.map_some, Option.bind_some, List.length_cons, List.length_nil]; rw [if_pos (by decide)]
theorem lstF_5 : lstF [.d x0, .d x1, .d x2, .d x3, .d x4] S = some (.d (.list [x0, x1, x2, x3, x4]), S) := by unfold lstF; simp only [allD, Option.map_some, Option.bind_some, List.length_cons, List.length_nil]; rw [if_pos (by decide)]
theorem lstB_5 : lstB [w0, w1, w2, w3, w4] S = some (.loc S.length, S ++ [.lst [w0, w1, w2, w3, w4]]) := by unfold lstB; simp only [List.length_cons, List.length_nil]; rw [if_pos (by decide)]
theorem tupF_6 : tupF [.d x0, .d x1, .d x2, .d x3, .d x4, .d x5] S = some (.d (.tuple [x0, x1, x2, x3, x4, x5]), S) := by unfold tupF; simp only [allD, Option.map_some, Option.bind_some, List.length_cons, List.length_nil]; rw [if_pos (by decide)]
theorem lstF_6 : lstF [.d x0, .d x1, .d x2, .d x3, .d x4, .d x5] S = some (.d (.list [x0, x1, x2, x3, x4, x5]), S) := by unfold lstF; simp only [allD, Option.map_some, Option.bind_some, List.length_cons, List.length_nil]; rw [if_pos (by decide)]
theorem tupF_7 : tupF [.d x0, .d x1, .d x2, .d x3, .d x4, .d x5, .d x6] S = some (.d (.tuple [x0, x1, x2, x3, x4, x5, x6]), S) := by unfold tupF; simp only [allD, Option.map_some, Option.bind_some, List.length_cons, List.length_nil]; rw [if_pos (by decide)]
theorem lstF_7 : lstF [.d x0, .d x1, .d x2, .d x3, .d x4, .d x5, .d x6] S = some (.d (.list [x0, x1, x2, x3, x4, x5, x6]), S) := by unfold lstF; simp only [allD, Option.map_some, Option.bind_some, List.length_cons, List.length_nil]; rw [if_pos (by decide)]
theorem lstF_8 : lstF [.d x0, .d x1, .d x2, .d x3, .d x4, .d x5, .d x6, .d x7] S = some (.d (.list [x0, x1, x2, x3, x4, x5, x6, x7]), S) := by unfold lstF; simp only [allD, Option.map_some, Option.bind_some, List.length_cons, List.length_nil]; rw [if_pos (by decide)]
theorem lstF_9 : lstF [.d x0, .d x1, .d x2, .d x3, .d x4, .d x5, .d x6, .d x7, .d x8] S = some (.d (.list [x0, x1, x2, x3, x4, x5, x6, x7, x8]), S) := by unfold lstF; simp only [allD, Option.map_some, Option.bind_some, List.length_cons, List.length_nil]; rw [if_pos (by decide)]
theorem lstF_10 : lstF [.d x0, .d x1, .d x2, .d x3, .d x4, .d x5, .d x6, .d x7, .d x8, .d x9] S = some (.d (.list [x0, x1, x2, x3, x4, x5, x6, x7, x8, x9]), S) := by unfold lstF; simp only [allD, Option.map_some, Option.bind_some, List.length_cons, List.length_nil]; rw [if_pos (by decide)]
theorem lstF_11 : lstF [.d x0, .d x1, .d x2, .d x3, .d x4, .d x5, .d x6, .d x7, .d x8, .d x9, .d x10] S = some (.d (.list [x0, x1, x2, x3, x4, x5, x6, x7, x8, x9, x10]), S) := by unfold lstF; simp only [allD, Option.map_some, Option.bind_some, List.length_cons, List.length_nil]; rw [if_pos (by decide)]
end
def fzO (i j : Nat) (F : MS) (ρ : DEnv) (S : Sto) (Φ : Fl × DEnv × Sto → Prop) : Option Ob → Prop
  | some ob => Wp (frzO ob) fun d => Wp (F (ρ.set i (some (.d d))) (S.set j .dead)) Φ
  | none => False
theorem fzO_ok {j : Nat} {ob : Ob} {F : MS} {ΦS : Fl × DEnv × Sto → Prop} : fzO i j F ρ S ΦS (some ob) = Wp (frzO ob) fun d => Wp (F (ρ.set i (some (.d d))) (S.set j .dead)) ΦS := rfl
def fzV (i : Nat) (F : MS) (ρ : DEnv) (S : Sto) (Φ : Fl × DEnv × Sto → Prop) : Option (Option W) → Prop
  | some (some (.loc j)) => fzO i j F ρ S Φ S[j]?
  | _ => False
theorem fzV_ok {j : Nat} {F : MS} {ΦS : Fl × DEnv × Sto → Prop} : fzV i F ρ S ΦS (some (some (.loc j))) = fzO i j F ρ S ΦS S[j]? := rfl
theorem Wp_fz {F : MS} {ΦS : Fl × DEnv × Sto → Prop} : Wp (sFz i F ρ S) ΦS = fzV i F ρ S ΦS ρ[i]? := by
  unfold sFz
  rcases ρ[i]? with _ | _ | w
  · simp [Wp, fzV]
  · simp [Wp, fzV]
  · cases w with
    | d x => simp [Wp, fzV]
    | fn => simp [Wp, fzV]
    | loc j =>
      simp only [fzV]
      cases S[j]? with
      | none => simp [Wp, fzO]
      | some ob => simp only [fzO, Option.bind_some, Wp_bind]
theorem frzO_l {ds : List PyData} : frzO (.lst (ds.map W.d)) = some (.list ds) := by simp only [frzO, allD_map, Option.map_some]
theorem frzO_nil : frzO (.lst []) = some (.list []) := rfl
theorem frzO_one {x : PyData} : frzO (.lst [.d x]) = some (.list [x]) := rfl
def toK (p : W × Sto) : Option (List W × Sto) := match p.1 with
  | .d (.list ds) => some (ds.map W.d, p.2)
  | .d (.tuple ds) => some (ds.map W.d, p.2)
  | .d (.dict ds) => some ((ds.map fun q => q.1).map W.d, p.2)
  | _ => none
theorem toK_l {ds : List PyData} : toK (.d (.list ds), S) = some (ds.map W.d, S) := rfl
theorem toK_t {ds : List PyData} : toK (.d (.tuple ds), S) = some (ds.map W.d, S) := rfl
theorem toK_d {ds : List (PyData × PyData)} : toK (.d (.dict ds), S) = some ((ds.map fun q => q.1).map W.d, S) := rfl
theorem Wp_iseqK {ΦI : List W × Sto → Prop} : Wp (iSeqK A ρ S) ΦI = Wp (A ρ S) fun p => Wp (toK p) ΦI := by
  unfold iSeqK; rw [Wp_bind]; rfl
theorem Wp_rng3 {R : MA} {ΦI : List W × Sto → Prop} : Wp (iRng3D R ρ S) ΦI = Wp (R ρ S) fun p => Wp (rng3D p.1 p.2) ΦI := by unfold iRng3D; rw [Wp_bind]
theorem Wp_star {R : MA} {ΦA : List W × Sto → Prop} : Wp (mStar A R ρ S) ΦA = Wp (A ρ S) fun p => Wp (seqOf p.2 p.1) fun ds => Wp (R ρ p.2) fun q => ΦA (ds.map W.d ++ q.1, q.2) := by unfold mStar; simp only [Wp_bind, Wp_some]
theorem seqOf_t {ds : List PyData} : seqOf S (.d (.tuple ds)) = some ds := rfl
theorem seqOf_l {ds : List PyData} : seqOf S (.d (.list ds)) = some ds := rfl
theorem Wp_mneg {Φ : W × Sto → Prop} : Wp (mNeg A ρ S) Φ = Wp (A ρ S) fun p => Wp (toO p) fun q => Φ (.d (.int (-(q.1.getD 0))), q.2) := by
  unfold mNeg; rw [Wp_bind]; congr 1; funext p
  obtain ⟨w, S'⟩ := p
  rcases w with (_ | b | _ | _ | _ | _ | _) | _ <;> first
    | (simp [toO, Wp]; done)
    | (simp [toO, Wp_some])
theorem getD_s {i j : Int} : (some i).getD j = i := rfl
theorem lenX_l {ds : List PyData} : lenX [.d (.list ds)] S = some (.d (.int (ds.length : Nat)), S) := by simp [lenX, on1, len0X, len0]
theorem lenX_t {ds : List PyData} : lenX [.d (.tuple ds)] S = some (.d (.int (ds.length : Nat)), S) := by simp [lenX, on1, len0X, len0]
theorem lenX_d {ds : List (PyData × PyData)} : lenX [.d (.dict ds)] S = some (.d (.int (ds.length : Nat)), S) := by simp [lenX, on1, len0X]
theorem inZ_d {neg : Bool} {w : W} {x : PyData} : inZ neg w (.d x) S = inX neg w (.d x) S := by
  simp [inZ, isN]
theorem Wp_getX1 {B : ME} {Φ : W × Sto → Prop} : Wp (mGetX1 A B ρ S) Φ = Wp (A ρ S) fun p => isDicA p.2 p.1 = true ∧ Wp (B ρ p.2) fun q => Wp (dlookA q.2 p.1 q.1) fun o => Φ (o.getD (.d .none), q.2) := by
  unfold mGetX1; simp only [Wp_bind]
  congr 1; funext p
  cases isDicA p.2 p.1
  · simp [Wp]
  · simp only [if_true, true_and, Wp_bind, Wp_map]
theorem Wp_getX2 {B C : ME} {Φ : W × Sto → Prop} : Wp (mGetX2 A B C ρ S) Φ = Wp (A ρ S) fun p => isDicA p.2 p.1 = true ∧ Wp (B ρ p.2) fun q => Wp (C ρ q.2) fun r => Wp (dlookA r.2 p.1 q.1) fun o => Φ (o.getD r.1, r.2) := by
  unfold mGetX2; simp only [Wp_bind]
  congr 1; funext p
  cases isDicA p.2 p.1
  · simp [Wp]
  · simp only [if_true, true_and, Wp_bind, Wp_map]
theorem truD_b {b : Bool} : truD S (.d (.bool b)) = some b := rfl
theorem lenD_l {ds : List PyData} : lenD [.d (.list ds)] S = some (.d (.int (ds.length : Nat)), S) := by simp [lenD, on1, len0]
theorem lenD_t {ds : List PyData} : lenD [.d (.tuple ds)] S = some (.d (.int (ds.length : Nat)), S) := by simp [lenD, on1, len0]
theorem tupleD_l {ds : List PyData} : tupleD [.d (.list ds)] S = some (.d (.tuple ds), S) := rfl
theorem listD_l {ds : List PyData} : listD [.d (.list ds)] S = some (.d (.list ds), S) := rfl
theorem listD_t {ds : List PyData} : listD [.d (.tuple ds)] S = some (.d (.list ds), S) := rfl
theorem isND_d {y : PyData} {neg : Bool} : isND neg (.d y) (.d .none) S = some (.d (.bool (isNon y ^^ neg)), S) := rfl
theorem ixY_lit0 {a : PyData} {l : List PyData} : ixY (.d (.tuple (a :: l))) (.d (.int 0)) S = some (.d a, S) := by
  have h : atI (a :: l) 0 = some a := atI_nat (j := 0) rfl
  simp only [ixY, isN, Bool.false_eq_true, if_false, ixX, isDicA, isDic, idxD, h, Option.map_some]
theorem ixY_lit1 {a b : PyData} {l : List PyData} : ixY (.d (.tuple (a :: b :: l))) (.d (.int 1)) S = some (.d b, S) := by
  have h : atI (a :: b :: l) 1 = some b := atI_nat (j := 1) rfl
  simp only [ixY, isN, Bool.false_eq_true, if_false, ixX, isDicA, isDic, idxD, h, Option.map_some]
theorem ixY_lit2 {a b c : PyData} {l : List PyData} : ixY (.d (.tuple (a :: b :: c :: l))) (.d (.int 2)) S = some (.d c, S) := by
  have h : atI (a :: b :: c :: l) 2 = some c := atI_nat (j := 2) rfl
  simp only [ixY, isN, Bool.false_eq_true, if_false, ixX, isDicA, isDic, idxD, h, Option.map_some]
theorem ixY_lst0 {a : PyData} {l : List PyData} : ixY (.d (.list (a :: l))) (.d (.int 0)) S = some (.d a, S) := by
  have h : atI (a :: l) 0 = some a := atI_nat (j := 0) rfl
  simp only [ixY, isN, Bool.false_eq_true, if_false, ixX, isDicA, isDic, idxD, h, Option.map_some]
theorem ixY_lst1 {a b : PyData} {l : List PyData} : ixY (.d (.list (a :: b :: l))) (.d (.int 1)) S = some (.d b, S) := by
  have h : atI (a :: b :: l) 1 = some b := atI_nat (j := 1) rfl
  simp only [ixY, isN, Bool.false_eq_true, if_false, ixX, isDicA, isDic, idxD, h, Option.map_some]
theorem ixY_l {l : List PyData} {a : PyData} {k : Nat} (h : l[k]? = some a) : ixY (.d (.list l)) (.d (.int (k : Nat))) S = some (.d a, S) := by
  simp only [ixY, isN, Bool.false_eq_true, if_false, ixX, isDicA, isDic, idxD, atI_nat h, Option.map_some]
end
end DL
end
noncomputable section
namespace DL
open PySem PySem.Spec PyProof.Rows L2 DL
section
variable {c n : Nat} {ob : Ob} {S : Sto} {upto : Int} {xs : List PyData}
theorem take_wp (hS : S[n]? = some ob) (hb : BagOk c ob) (hc : c + 1 < 2 ^ 1000) (hu : 0 < upto) (hl : upto ≤ 2 ^ 60) :
    Wp (callF fTake [.loc n, .d (.int upto)] S) fun r => ∃ v ob', r = (.d (.int v), S.set n ob') ∧ 0 ≤ v ∧ v < upto ∧ BagOk (c + 1) ob' := by
  obtain ⟨v, ob', e, h⟩ := take_ok hS hb hc hu (Nat.lt_of_le_of_lt (lg_le (k := 61) (by omega)) (by decide))
  exact ⟨_, e, v, ob', rfl, h⟩
theorem some_wp (hS : S[n]? = some ob) (hb : BagOk c ob) (hc : c + 1 < 2 ^ 1000) (h0 : xs ≠ []) (hx : xs.length ≤ sizeLine) :
    Wp (callF fSome [.loc n, .d (.list xs)] S) fun r => ∃ x ob', r = (.d x, S.set n ob') ∧ x ∈ xs ∧ BagOk (c + 1) ob' := by
  obtain ⟨x, hx, ob', e, h⟩ := some_ok hS hb hc h0 hx
  exact ⟨_, e, x, ob', rfl, hx, h⟩
theorem mixed_wp {α : Type} {enc : α → PyData} {l : List α} (hS : S[n]? = some ob) (hb : BagOk c ob) (hc : c + l.length < 2 ^ 1000) (hx : l.length ≤ sizeLine) :
    Wp (callF fMixed [.loc n, .d (.list (l.map enc))] S) fun p => ∃ (r : List α) (ob' : Ob), p = (.d (.list (r.map enc)), S.set n ob') ∧ r.Perm l ∧ BagOk (c + l.length) ob' := by
  obtain ⟨ys, ob', e, hp, hb'⟩ := mixed_ok (xs := l.map enc) hS hb (by rw [List.length_map]; omega) (by rw [List.length_map]; omega)
  obtain ⟨r, hr, rfl⟩ := perm_map_ex hp
  rw [List.length_map] at hb'
  exact ⟨_, e, r, ob', rfl, hr, hb'⟩
theorem cutTk {α : Type} (xs : List α) (k : Nat) : DL.cutD xs none (some (k : Int)) = xs.take k := by
  have h : HT.sIx xs.length 0 none = 0 := rfl
  unfold DL.cutD
  rw [h, HT.sIx_nat, List.drop_zero, Nat.sub_zero]
  by_cases hk : k ≤ xs.length
  · rw [Nat.min_eq_left hk]
  · rw [Nat.min_eq_right (by omega), List.take_length, List.take_of_length_le (by omega)]
theorem sl_t2 {a b : PyData} {l : List PyData} : sliceD (.d (.tuple (a :: b :: l))) none (some 2) S = some (.d (.tuple [a, b]), S) := by
  have := cutTk (a :: b :: l) 2
  simp only [sliceD]
  rw [show ((2 : Nat) : Int) = 2 from rfl] at this
  rw [this]; rfl
theorem sl_l2 {a b : PyData} {l : List PyData} : sliceD (.d (.list (a :: b :: l))) none (some 2) S = some (.d (.list [a, b]), S) := by
  have := cutTk (a :: b :: l) 2
  simp only [sliceD]
  rw [show ((2 : Nat) : Int) = 2 from rfl] at this
  rw [this]; rfl
theorem sliceE {α : Type} {enc : α → PyData} {l : List α} {k : Nat} : sliceD (.d (.list (l.map enc))) none (some (k : Int)) S = some (.d (.list ((l.take k).map enc)), S) := by
  simp only [sliceD, cutTk, List.map_take]
end
end DL
end
local macro_rules | `(tactic| simp! only [$ts,*]) => `(tactic| simp -failIfUnchanged only [$ts,*, ↓DL.Wp_seq, ↓DL.Wp_nil, ↓DL.Wp_pass, ↓DL.Wp_break, ↓DL.Wp_cont, ↓DL.Wp_retN, ↓DL.Wp_expr, ↓DL.Wp_ret, ↓DL.Wp_sif, ↓DL.Wp_asg, ↓DL.Wp_par, ↓DL.Wp_par3, ↓DL.Wp_tupA, ↓DL.Wp_aug, ↓DL.Wp_augS, ↓DL.Wp_for, ↓DL.Wp_set, ↓DL.Wp_gtup, ↓DL.Wp_gnil, ↓DL.Wp_gcons, ↓DL.Wp_gsub, ↓DL.Wp_var, ↓DL.Wp_c, ↓DL.Wp_mnil, ↓DL.Wp_mcons, ↓DL.Wp_call, ↓DL.Wp_bin, ↓DL.Wp_mt, ↓DL.Wp_tof, ↓DL.Wp_ttru, ↓DL.Wp_tnot, ↓DL.Wp_tand, ↓DL.Wp_tor, ↓DL.Wp_tTrue, ↓DL.Wp_vif, ↓DL.Wp_vand, ↓DL.Wp_vor, ↓DL.Wp_vnot, ↓DL.Wp_sl, ↓DL.Wp_ono, ↓DL.Wp_oyes, ↓DL.Wp_frz, ↓DL.Wp_frzA, ↓DL.Wp_iseq, ↓DL.Wp_rng1, ↓DL.Wp_rng2, DL.Wp_some, DL.Wp_bind, DL.Wp_map, DL.seqK_nx, DL.seqK_rt, DL.seqK_bk, DL.seqK_ct, DL.ifK_t, DL.ifK_f, DL.ifK_nt, DL.augK_ok, DL.varK_ok, DL.parX_ok, DL.parY_ok, and_self, DL.toB_ok, DL.andK_t, DL.andK_f, DL.orK_t, DL.orK_f, DL.vifK_t, DL.vifK_f, DL.vandK_t, DL.vandK_f, DL.vorK_t, DL.vorK_f, DL.toO_ok, DL.toI_l, DL.toI_t, List.getElem?_cons_succ, List.getElem?_cons_zero, List.set_cons_succ, List.set_cons_zero, List.length_cons, List.length_nil, List.map_cons, List.map_nil, List.cons_append, List.nil_append, ↓reduceIte, DL.wipeD, DL.toZero, DL.ev_add, DL.ev_sub, DL.ev_iadd, DL.ev_isub, DL.ev_lt, DL.ev_gt, DL.ev_le, DL.ev_ge, DL.ev_eq, DL.ev_ne, DL.ev_min, DL.ev_max, DL.ev_int, DL.ev_abs, DL.lenD_l, DL.lenD_t, DL.tupleD_l, DL.listD_l, DL.listD_t, DL.isND_d, DL.ixY_lit0, DL.ixY_lit1, DL.ixY_lit2, DL.ixY_lst0, DL.ixY_lst1, Nat.zero_add, Int.zero_add, Nat.reduceAdd, Nat.reduceLT, Nat.reduceSub, Nat.reduceEqDiff, Nat.reduceBEq, Nat.reduceLeDiff, Nat.succ_eq_add_one, Int.reduceAdd, Int.reduceSub, Int.reduceNeg, true_and, and_true, DL.get_end, DL.set_end, DL.isLst_loc, DL.isLstO_ok, DL.frzX_loc, DL.frzXo_ok, DL.frzXo_nil, DL.frzXo_one, DL.frzY_loc, DL.frzYo_ok, DL.frzYo_nil, DL.frzYo_one, DL.sz1, DL.sz2, DL.sz3, DL.sz4, DL.sz5, DL.sz6, DL.sz7, DL.sz8, DL.tupF_0, DL.tupF_1, DL.tupF_2, DL.tupF_3, DL.tupF_4, DL.tupF_5, DL.tupF_6, DL.tupF_7, DL.lstF_0, DL.lstF_1, DL.lstF_2, DL.lstF_3, DL.lstF_4, DL.lstF_5, DL.lstF_6, DL.lstF_7, DL.lstF_8, DL.lstF_9, DL.lstF_10, DL.lstF_11, DL.lstB_0, DL.lstB_1, DL.lstB_2, DL.lstB_3, DL.lstB_4, DL.lstB_5, DL.truD_b, Bool.not_true, Bool.not_false, ↓DL.Wp_fz, DL.fzV_ok, DL.fzO_ok, DL.frzO_l, DL.frzO_nil, DL.frzO_one, ↓DL.Wp_iseqK, DL.toK_l, DL.toK_t, DL.toK_d, ↓DL.Wp_rng3, ↓DL.Wp_star, DL.seqOf_t, DL.seqOf_l, ↓DL.Wp_mneg, DL.getD_s, DL.lenX_l, DL.lenX_t, DL.lenX_d, DL.inZ_d, ↓DL.Wp_getX1, ↓DL.Wp_getX2, DL.ev_ltX, DL.ev_gtX, DL.ev_leX, DL.ev_geX, List.append_nil, true_or])
local macro_rules | `(tactic| simp! only) => `(tactic| simp -failIfUnchanged only [↓DL.Wp_seq, ↓DL.Wp_nil, ↓DL.Wp_pass, ↓DL.Wp_break, ↓DL.Wp_cont, ↓DL.Wp_retN, ↓DL.Wp_expr, ↓DL.Wp_ret, ↓DL.Wp_sif, ↓DL.Wp_asg, ↓DL.Wp_par, ↓DL.Wp_par3, ↓DL.Wp_tupA, ↓DL.Wp_aug, ↓DL.Wp_augS, ↓DL.Wp_for, ↓DL.Wp_set, ↓DL.Wp_gtup, ↓DL.Wp_gnil, ↓DL.Wp_gcons, ↓DL.Wp_gsub, ↓DL.Wp_var, ↓DL.Wp_c, ↓DL.Wp_mnil, ↓DL.Wp_mcons, ↓DL.Wp_call, ↓DL.Wp_bin, ↓DL.Wp_mt, ↓DL.Wp_tof, ↓DL.Wp_ttru, ↓DL.Wp_tnot, ↓DL.Wp_tand, ↓DL.Wp_tor, ↓DL.Wp_tTrue, ↓DL.Wp_vif, ↓DL.Wp_vand, ↓DL.Wp_vor, ↓DL.Wp_vnot, ↓DL.Wp_sl, ↓DL.Wp_ono, ↓DL.Wp_oyes, ↓DL.Wp_frz, ↓DL.Wp_frzA, ↓DL.Wp_iseq, ↓DL.Wp_rng1, ↓DL.Wp_rng2, DL.Wp_some, DL.Wp_bind, DL.Wp_map, DL.seqK_nx, DL.seqK_rt, DL.seqK_bk, DL.seqK_ct, DL.ifK_t, DL.ifK_f, DL.ifK_nt, DL.augK_ok, DL.varK_ok, DL.parX_ok, DL.parY_ok, and_self, DL.toB_ok, DL.andK_t, DL.andK_f, DL.orK_t, DL.orK_f, DL.vifK_t, DL.vifK_f, DL.vandK_t, DL.vandK_f, DL.vorK_t, DL.vorK_f, DL.toO_ok, DL.toI_l, DL.toI_t, List.getElem?_cons_succ, List.getElem?_cons_zero, List.set_cons_succ, List.set_cons_zero, List.length_cons, List.length_nil, List.map_cons, List.map_nil, List.cons_append, List.nil_append, ↓reduceIte, DL.wipeD, DL.toZero, DL.ev_add, DL.ev_sub, DL.ev_iadd, DL.ev_isub, DL.ev_lt, DL.ev_gt, DL.ev_le, DL.ev_ge, DL.ev_eq, DL.ev_ne, DL.ev_min, DL.ev_max, DL.ev_int, DL.ev_abs, DL.lenD_l, DL.lenD_t, DL.tupleD_l, DL.listD_l, DL.listD_t, DL.isND_d, DL.ixY_lit0, DL.ixY_lit1, DL.ixY_lit2, DL.ixY_lst0, DL.ixY_lst1, Nat.zero_add, Int.zero_add, Nat.reduceAdd, Nat.reduceLT, Nat.reduceSub, Nat.reduceEqDiff, Nat.reduceBEq, Nat.reduceLeDiff, Nat.succ_eq_add_one, Int.reduceAdd, Int.reduceSub, Int.reduceNeg, true_and, and_true, DL.get_end, DL.set_end, DL.isLst_loc, DL.isLstO_ok, DL.frzX_loc, DL.frzXo_ok, DL.frzXo_nil, DL.frzXo_one, DL.frzY_loc, DL.frzYo_ok, DL.frzYo_nil, DL.frzYo_one, DL.sz1, DL.sz2, DL.sz3, DL.sz4, DL.sz5, DL.sz6, DL.sz7, DL.sz8, DL.tupF_0, DL.tupF_1, DL.tupF_2, DL.tupF_3, DL.tupF_4, DL.tupF_5, DL.tupF_6, DL.tupF_7, DL.lstF_0, DL.lstF_1, DL.lstF_2, DL.lstF_3, DL.lstF_4, DL.lstF_5, DL.lstF_6, DL.lstF_7, DL.lstF_8, DL.lstF_9, DL.lstF_10, DL.lstF_11, DL.lstB_0, DL.lstB_1, DL.lstB_2, DL.lstB_3, DL.lstB_4, DL.lstB_5, DL.truD_b, Bool.not_true, Bool.not_false, ↓DL.Wp_fz, DL.fzV_ok, DL.fzO_ok, DL.frzO_l, DL.frzO_nil, DL.frzO_one, ↓DL.Wp_iseqK, DL.toK_l, DL.toK_t, DL.toK_d, ↓DL.Wp_rng3, ↓DL.Wp_star, DL.seqOf_t, DL.seqOf_l, ↓DL.Wp_mneg, DL.getD_s, DL.lenX_l, DL.lenX_t, DL.lenX_d, DL.inZ_d, ↓DL.Wp_getX1, ↓DL.Wp_getX2, DL.ev_ltX, DL.ev_gtX, DL.ev_leX, DL.ev_geX, List.append_nil, true_or])
noncomputable section
namespace K62
open PySem PySem.Spec PyProof.Rows L2 DL K17
theorem mix_wp {c n : Nat} {ob : Ob} {S : Sto} {w : PyData} {l : List (List Int)} (hw : Holds w l) (hS : S[n]? = some ob) (hb : BagOk c ob) (hc : c + l.length < 2 ^ 1000) (hl : l.length ≤ 100000) :
    Wp (callF fMixed [.loc n, .d w] S) fun p => ∃ (r : List (List Int)) (ob' : Ob), p = (.d (.list (r.map tI)), S.set n ob') ∧ r.Perm l ∧ BagOk (c + l.length) ob' := by
  obtain ⟨r, ob', e, h⟩ := mix_l hw hS hb hc hl
  exact ⟨_, e, r, ob', rfl, h⟩
def cO (o : Od) : Cd := .tup [cI o.1, cI o.2.1, .tup (o.2.2.map cI)]
theorem ofP_od (o : Od) : ofP (od o) = some (cO o) := by
  have : ofPs (o.2.2.map tI) = some (o.2.2.map cI) := ofPs_map fun a _ => ofP_tI a
  simp only [od, ofP, ofPs, ofP_tI, this, Option.map_some, Option.bind_some, cO]
theorem dep_od (o : Od) : (od o).depth ≤ 60 := by
  have := (lay_l o.2.2).2
  simp only [od, PyData.depth, PyData.depthAll, dep_tI]
  omega
def cp (q : List Int × List Int) : PyData := .tuple [tI q.1, tI q.2]
theorem conts_ne {b : List Pl} (g : Good b) : 0 < (conts b).length := by
  refine List.length_pos_iff.mpr fun z => ?_
  have : ∀ l : List Pl, (∀ p ∈ l, 2 ≤ p.1) → ∃ c, Fits c l := by
    intro l
    induction l with
    | nil => exact fun _ => ⟨[], trivial⟩
    | cons p l ih =>
      intro h
      obtain ⟨c, hc⟩ := ih fun q hq => h q (by simp [hq])
      have := h p (by simp)
      exact ⟨0 :: c, ⟨⟨by omega, by omega⟩, hc⟩⟩
  obtain ⟨c, hc⟩ := this b fun p hp => (g.pl p hp).lo
  have := inV.mpr hc
  rw [z] at this; cases this
theorem ends_wp {b : List Pl} {c n : Nat} {ob : Ob} {S : Sto} {R : List (List Int)} {s t : List Int} (g : Good b) (hS : S[n]? = some ob) (hb : BagOk c ob) (hc : c + R.length + 20 < 2 ^ 1000) (hR : ∀ x ∈ R, Fits x b) (hs : Fits s b) (ht : Fits t b) (hl : R.length ≤ 1000) :
    Wp (callF K62.f_l_ends [.loc n, .d (.tuple (R.map tI)), .d (tI s), .d (tI t)] S) fun r => ∃ (E : List (List Int)) (ob' : Ob), r = (.d (.tuple (E.map tI)), S.set n ob') ∧ (∀ x ∈ E, Fits x b) ∧ E.length ≤ R.length + 2 ∧ BagOk (c + R.length + 1) ob' := by
  obtain ⟨E, ob', e, h⟩ := ends_ok g hS hb hc hR hs ht hl
  exact ⟨_, e, E, ob', rfl, h⟩
end K62
end
noncomputable section
namespace DL
open PySem PySem.Spec PyProof.Rows L2 DL K17
section
variable {S : Sto} {n : Nat} {c k : PyData} {w : W} {neg : Bool} {ob : Ob} {ks : List (List Int)} {x : List Int}
def ixYb (c : PyData) (S : Sto) (ob : Ob) : Option (W × Sto) := (ixY (.loc 0) (.d c) [ob]).map fun r => (r.1, S)
theorem ixY_loc : ixY (.loc n) (.d c) S = (S[n]?).bind (ixYb c S) := by
  unfold ixYb
  cases h : S[n]? with
  | none => cases c <;> simp [ixY, isN, isDicA, isDic, h, ixX, idxD]
  | some ob => cases ob <;> cases c <;> simp [ixY, isN, nlook, isDicA, isDic, h, ixX, idxD, dgetA, dlookA, dlook, Option.map_map, Option.map_bind] <;> rfl
def setXb (n : Nat) (c : PyData) (w : W) (S : Sto) : Ob → Option Sto
  | .dicT kvs => match c with
    | .tuple ds => (keysE ds).bind fun k => if kvs.length < sizeLine then some (S.set n (.dicT (putW kvs k w))) else none
    | _ => none
  | .dicK kvs => (keyD c).bind fun k => if kvs.length < sizeLine then some (S.set n (.dicK (putW kvs k w))) else none
  | .dicN kvs => match w with
    | .d d => (keyN (.d c)).bind fun k => if kvs.length < sizeLine then some (S.set n (.dicN (putN kvs k d))) else none
    | _ => none
  | .lst ws => match c with
    | .int i => (ixN ws.length i).map fun j => S.set n (.lst (ws.set j w))
    | _ => none
  | .dead => none
theorem setX_loc : setX (.loc n) (.d c) w S = (S[n]?).bind (setXb n c w S) := by
  cases h : S[n]? with
  | none => cases c <;> simp [setX, isN, isDic, h, setF]
  | some ob =>
    cases ob with
    | dicN kvs => cases w <;> simp [setX, isN, h, nputF, setXb]
    | dicT kvs => cases c <;> simp [setX, isN, isDic, h, dputF, setXb]
    | dicK kvs => simp [setX, isN, isDic, h, dputF, setXb]
    | lst ws => cases c <;> simp [setX, isN, isDic, h, setF, setXb]
    | dead => cases c <;> simp [setX, isN, isDic, h, setF, setXb]
end
section
variable {S : Sto} {n : Nat} {c k : PyData} {w : W} {neg : Bool} {ob : Ob} {ks : List (List Int)} {x : List Int}
def sortedAb (S : Sto) (ob : Ob) : Option (W × Sto) := (sortedA [.loc 0] [ob]).map fun r => (r.1, S)
theorem sortedA_loc : sortedA [.loc n] S = (S[n]?).bind (sortedAb S) := by
  unfold sortedAb
  cases h : S[n]? with
  | none => simp [sortedA, isDicN, isN, isDicA, isDic, isTupD, h, sortedD, on1, deref]
  | some ob =>
    cases ob with
    | dicN kvs => simp [sortedA, isDicN, isN, h, sortedKX, on1, keysP, Option.map_bind]; congr 1; funext ps; simp only [Function.comp]; split <;> rfl
    | dicT kvs =>
      by_cases hz : (kvs.any fun q => q.1.isEmpty) = true
      · simp only [sortedA, isDicN, isN, isDicA, isDic, h, sortedKX, on1, keysP, List.getElem?_cons_zero, Bool.false_or, if_true, if_pos hz, Option.bind_none, Option.map_none, Option.bind_some]
      · simp only [sortedA, isDicN, isN, isDicA, isDic, h, sortedKX, on1, keysP, List.getElem?_cons_zero, Bool.false_or, if_true, if_neg hz, Option.bind_some, Option.map_bind]
        congr 1; funext ps; simp only [Function.comp]; split <;> rfl
    | dicK kvs => simp [sortedA, isDicN, isN, isDicA, isDic, h, sortedKX, on1, keysP]
    | lst ws =>
      cases h2 : allD ws with
      | none => simp [sortedA, isDicN, isN, isDicA, isDic, isTupD, h, sortedD, on1, deref, h2]
      | some ds =>
        simp [sortedA, isDicN, isN, isDicA, isDic, isTupD, h, sortedD, on1, deref, h2, Option.map_bind]
        congr 1; funext ps; simp only [Function.comp]; split <;> rfl
    | dead => simp [sortedA, isDicN, isN, isDicA, isDic, isTupD, h, sortedD, on1, deref]
end
theorem alike_W {B w dp : Nat} {d : PyData} {S : Sto} {Φ : W × Sto → Prop} (h : Nice B w dp d) (k : dp ≤ 64) (hB : 8 ≤ B) (hw : (B + 2) * w + B ≤ sizeLine) (fin : Φ (.d (.bool true), S)) :
    Wp (callF fAlike [.d d, .d d] S) Φ := ⟨_, alike_ok h k hB hw S, fin⟩
/-- a comprehension that changes the store -/
theorem wp_lcJ {ρ : DEnv} {S S1 : Sto} {it : MI} {g : MG} {T : MT} {A : ME} {vs : List Nat} {ws : List W} {Φ : W × Sto → Prop} (J : Sto → Nat → List PyData → Sto → Prop) (hi : Wp (it ρ S) fun p => p = (ws, S1)) (h0 : J S1 0 [] S1)
    (st : ∀ i w acc S, ws[i]? = some w → J S1 i acc S → Wp (g w (wipeD ρ vs) S) fun p => Wp (T p.1 p.2) fun q => (q.1 = true ∧ Wp (A p.1 q.2) fun r => ∃ x, r.1 = .d x ∧ J S1 (i + 1) (acc ++ [x]) r.2) ∨ (q.1 = false ∧ J S1 (i + 1) acc q.2))
    (fin : ∀ acc S, J S1 ws.length acc S → acc.length ≤ sizeLine ∧ Φ (.d (.list acc), S)) : Wp (mLc it g T A vs kFrz ρ S) Φ := by
  obtain ⟨_, e, rfl⟩ := hi
  suffices h : ∀ (us : List W) (k : Nat) (acc : List PyData) (S : Sto), ws.drop k = us → k ≤ ws.length → J S1 k acc S → ∃ acc2 S2, lcL g T A vs ρ us S = some (acc2.map W.d, S2) ∧ J S1 ws.length (acc ++ acc2) S2 by
    obtain ⟨acc, S2, e2, j⟩ := h ws 0 [] S1 rfl (Nat.zero_le _) h0
    obtain ⟨f1, f2⟩ := fin _ _ j
    rw [List.nil_append] at f1 f2
    exact ⟨_, by simp only [mLc, e, Option.bind_some, e2, kFrz, allD_map, if_pos f1], f2⟩
  intro us
  induction us with
  | nil =>
    intro k acc S e hk j
    have : k = ws.length := by
      have := congrArg List.length e
      rw [List.length_drop] at this
      simp at this; omega
    subst this
    exact ⟨[], S, rfl, by rw [List.append_nil]; exact j⟩
  | cons w us ih =>
    intro k acc S e hk j
    have hw : ws[k]? = some w := by
      have := congrArg (fun l => l[0]?) e
      simpa [List.getElem?_drop] using this
    have hk1 : k + 1 ≤ ws.length := (List.getElem?_eq_some_iff.mp hw).1
    have hd : ws.drop (k + 1) = us := by
      rw [← List.drop_drop, e]; rfl
    obtain ⟨⟨ρ1, S2⟩, e1, ⟨⟨t, S3⟩, e2, c⟩⟩ := st k w acc S hw j
    simp only at e2 c
    rcases c with ⟨rfl, ⟨v, S4⟩, e3, x, hv, j2⟩ | ⟨rfl, j2⟩
    · simp only at hv j2; subst hv
      obtain ⟨acc2, S5, e4, j3⟩ := ih (k + 1) _ S4 hd hk1 j2
      exact ⟨x :: acc2, S5, by simp only [lcL, e1, e2, e3, e4, Option.bind_some, if_true, List.map_cons], by simpa using j3⟩
    · obtain ⟨acc2, S5, e4, j3⟩ := ih (k + 1) _ S3 hd hk1 j2
      exact ⟨acc2, S5, by simp only [lcL, e1, e2, e4, Option.bind_some, Bool.false_eq_true, if_false], j3⟩
end DL
end
noncomputable section
namespace K62
open PySem PySem.Spec PyProof.Rows L2 DL K17
inductive Rch (b : List Pl) (bar ss : List (List Int)) : List Int → Prop
  | base {x : List Int} : x ∈ ss → Rch b bar ss x
  | step {x y : List Int} : Rch b bar ss x → y ∈ adjC b x → y ∉ bar → Rch b bar ss y
/-- the new ones of some are told -/
def vis (bar : List (List Int)) (p : List (List Int) × List (List Int)) (y : List Int) : List (List Int) × List (List Int) := if y ∉ p.1 ∧ y ∉ bar then (p.1 ++ [y], p.2 ++ [y]) else p
structure RI (b : List Pl) (bar ss M open_ : List (List Int)) : Prop where
  nd : M.Nodup
  fits : ∀ x ∈ M, Fits x b
  rch : ∀ x ∈ M, Rch b bar ss x
  base : ∀ x ∈ ss, x ∈ M
  sub : ∀ x ∈ open_, x ∈ M
  cl : ∀ x ∈ M, x ∈ open_ ∨ ∀ y ∈ adjC b x, y ∉ bar → y ∈ M
theorem RI.len {b : List Pl} {bar ss M o : List (List Int)} (h : RI b bar ss M o) : M.length ≤ (conts b).length :=
  List.Nodup.length_le_of_subset h.nd fun x hx => inV.mpr (h.fits x hx)
theorem lt_sz {n : Nat} (h : n ≤ 1000000) : n < sizeLine := Nat.lt_of_le_of_lt h (by decide)
end K62
end
noncomputable section
namespace K62
open PySem PySem.Spec PyProof.Rows L2 DL K17
end K62
end
noncomputable section
namespace K62
open PySem PySem.Spec PyProof.Rows L2 DL K17
theorem nice_od {b : List Pl} {o : Od} (g : Good b) (h : GoodO b o) : Nice 8 440 3 (od o) := by
  have h1 := nice_c g h.s 1
  have h2 := nice_c g h.t 1
  have h3 : NiceAll 8 ((30 + 1) * (o.2.2.map tI).length) 1 (o.2.2.map tI) := niceAll_of fun d hd => by
    obtain ⟨c, hc, rfl⟩ := List.mem_map.mp hd
    exact nice_c g (h.e c hc) 0
  have hl := h.l
  rw [List.length_map] at h3
  exact (niceTup (niceCons h1 (niceCons h2 (niceCons (niceTup h3) niceNil)))).up (by omega) (Nat.le_refl _)
theorem nice_tk {b : List Pl} {R : List (List Int)} {os : List Od} (g : Good b) (h : GoodT b R os) : Nice 8 30000 5 (tk b R os) := by
  have h1 := nice_bn g
  have h2 : NiceAll 8 ((30 + 1) * (R.map tI).length) 3 (R.map tI) := niceAll_of fun d hd => by
    obtain ⟨c, hc, rfl⟩ := List.mem_map.mp hd
    exact nice_c g (h.rf c hc) 2
  have h3 : NiceAll 8 ((440 + 1) * (os.map od).length) 3 (os.map od) := niceAll_of fun d hd => by
    obtain ⟨c, hc, rfl⟩ := List.mem_map.mp hd
    exact nice_od g (h.of c hc)
  have hr := h.rl
  have ho := h.ol
  rw [List.length_map] at h2 h3
  exact (niceTup (niceCons h1 (niceCons (niceTup h2) (niceCons (niceTup h3) niceNil)))).up (by omega) (Nat.le_refl _)
end K62
end
noncomputable section
namespace KH
open PySem PySem.Spec PyProof.Rows L2 DL K17 K62
def SLt (a b : List Int) : Prop := ltC (cI a) (cI b) = true
theorem cI_inj {a b : List Int} (h : cI a = cI b) : a = b := by
  have : a.map Cd.int = b.map Cd.int := by injection h
  exact (List.map_inj_right (fun x y e => by injection e)).mp this
theorem SLt.irr {a : List Int} (h : SLt a a) : False := by unfold SLt at h; rw [ltC_irr] at h; cases h
theorem SLt.trans {a b c : List Int} (h : SLt a b) (k : SLt b c) : SLt a c := ltC_trans h k
theorem sortL_asc {l : List (List Int)} (h : l.Nodup) : (sortL l).Pairwise SLt := by
  have hn : (sortL l).Nodup := (sortL_perm l).nodup_iff.mpr h
  have hs := sortL_srtd l
  have : (sortL l).Pairwise fun x y => x ≠ y ∧ ltC (cI y) (cI x) = false := List.Pairwise.and hn hs
  refine this.imp fun {x y} ⟨h1, h2⟩ => ?_
  rcases ltC_tot h2 with e | e
  · exact absurd (cI_inj e).symm h1
  · exact e
theorem asc_nodup {l : List (List Int)} (h : l.Pairwise SLt) : l.Nodup := h.imp fun {a b} k e => by subst e; exact k.irr
theorem rests_wp {c n : Nat} {ob : Ob} {S : Sto} {cs : List (List Int)} {most : Nat} (hS : S[n]? = some ob) (hb : BagOk c ob) (hc : c + 10 + cs.length < 2 ^ 1000) (hl : cs.length ≤ 10000) (h0 : ∀ a ∈ cs, a ≠ []) (h1 : cs ≠ []) (hn : cs.Nodup) (hm : 1 ≤ most) (hm2 : most ≤ 1000) :
    Wp (callF K62.f_l_rests [.loc n, .d (.list (cs.map tI)), .d (.int most)] S) fun r => ∃ x ob', r = (.d x, S.set n ob') ∧ ∃ R : List (List Int), x = .tuple (R.map tI) ∧ (∀ x ∈ R, x ∈ cs) ∧ R ≠ [] ∧ R.length ≤ most ∧ R.Pairwise SLt ∧ BagOk (c + 10 + cs.length) ob' := by
  refine wp_call1 rfl (by simp [allLoc]) hS hb.obD ?_
  show Wp (K62.b_l_rests [some (.loc 0), some (.d (.list (cs.map tI))), some (.d (.int most)), none] [ob]) _
  unfold K62.b_l_rests
  simp! only [K62.e_take, K62.e_some, K62.e_mixed]
  refine (take_wp rfl hb (by omega) (by omega) (by omega)).mono ?_
  rintro _ ⟨u, ob1, rfl, u0, u1, hb1⟩
  simp! only
  refine (some_wp rfl hb1 (by omega) (by simp) (by exact sz8)).mono ?_
  rintro _ ⟨_, ob2, rfl, hk, hb2⟩
  obtain ⟨k, rfl, hk1⟩ : ∃ k : Int, (‹PyData› : PyData) = .int k ∧ 1 ≤ k := by
    simp only [List.mem_cons, List.not_mem_nil, or_false] at hk
    rcases hk with rfl | rfl | rfl | rfl | rfl | rfl | rfl | rfl <;> exact ⟨_, rfl, by omega⟩
  simp! only
  refine (mix_wp (.inl rfl) rfl hb2 (by omega) (by omega)).mono ?_
  rintro _ ⟨r, ob3, rfl, hp, hb3⟩
  obtain ⟨j, hj, hj1, hj2⟩ : ∃ j : Nat, (if (most : Int) < k then (most : Int) else k) = (j : Int) ∧ 1 ≤ j ∧ j ≤ most := ⟨(if (most : Int) < k then (most : Int) else k).toNat, by split <;> omega, by split <;> omega, by split <;> omega⟩
  have hin : ∀ x ∈ r.take j, x ∈ cs := fun x hx => hp.subset (List.mem_of_mem_take hx)
  have hrn : (r.take j).Nodup := (hp.nodup_iff.mpr hn).sublist (List.take_sublist _ _)
  simp! only [hj, sl_l, sort_l (l := r.take j) fun a ha => h0 a (hin a ha)]
  have hlen : (sortL (r.take j)).length = min j cs.length := by rw [(sortL_perm _).length_eq, List.length_take, hp.length_eq]
  have hcl : 0 < cs.length := List.length_pos_iff.mpr h1
  exact ⟨_, _, _, rfl, rfl, hb3.obD, sortL (r.take j), rfl, fun x hx => hin x ((sortL_perm _).subset hx), fun z => by rw [z] at hlen; simp at hlen; omega, by omega, sortL_asc hrn, hb3.up (by omega)⟩
theorem two_of {R r : List (List Int)} (hp : r.Perm R) (hn : R.Nodup) (h2 : 2 ≤ R.length) : ∃ s t, r.take 2 = [s, t] ∧ (∃ l, r = s :: t :: l) ∧ s ∈ R ∧ t ∈ R ∧ s ≠ t := by
  have := hp.length_eq
  match r, this with
  | s :: t :: l, _ =>
    have hd := List.nodup_cons.mp (hp.nodup_iff.mpr hn)
    exact ⟨s, t, rfl, ⟨l, rfl⟩, hp.subset (by simp), hp.subset (by simp), fun e => hd.1 (by simp [e])⟩
  | [], h => simp at h; omega
  | [x], h => simp at h; omega
theorem couple_wp {b : List Pl} {c n : Nat} {ob : Ob} {S : Sto} {R : List (List Int)} (hS : S[n]? = some ob) (hb : BagOk c ob) (hc : c + 4 * R.length + 10 < 2 ^ 1000) (hR : ∀ x ∈ R, Fits x b) (hn : R.Nodup) (h2 : 2 ≤ R.length) (hl : R.length ≤ 1000) :
    Wp (callF K62.f_l_couple [.loc n, .d (graD b), .d (.tuple (R.map tI))] S) fun r => ∃ x ob', r = (.d x, S.set n ob') ∧ ∃ s t, x = .tuple [tI s, tI t] ∧ s ∈ R ∧ t ∈ R ∧ s ≠ t ∧ BagOk (c + 4 * R.length) ob' := by
  refine wp_call1 rfl (by simp [allLoc]) hS hb.obD ?_
  show Wp (K62.b_l_couple [some (.loc 0), some (.d (graD b)), some (.d (.tuple (R.map tI))), none, none] [ob]) _
  unfold K62.b_l_couple
  simp! only [K62.e_mixed]
  refine (mix_wp (.inr rfl) rfl hb (by omega) (by omega)).mono ?_
  rintro _ ⟨r, ob1, rfl, hp, hb1⟩
  obtain ⟨s, t, _, ⟨l, rfl⟩, hs, ht, hst⟩ := two_of hp hn h2
  simp! only [sl_l2]
  refine ⟨_, rng1_ok (n := 3) (by decide), ?_⟩
  simp! only
  refine wp_rng (fun ρ0 S0 i ρ S => ∃ y4 s t ob', ρ = (ρ0.set 3 (some (.d (.list [tI s, tI t])))).set 4 y4 ∧ S = [ob'] ∧ s ∈ R ∧ t ∈ R ∧ s ≠ t ∧ BagOk (c + R.length + R.length * i) ob') ⟨none, s, t, ob1, rfl, rfl, hs, ht, hst, by simpa using hb1⟩ ?_ ?_
  · rintro i _ _ hi ⟨y4, s, t, ob', rfl, rfl, hs, ht, hst, hb'⟩
    have hm : R.length * i ≤ R.length * 2 := Nat.mul_le_mul_left _ (by omega)
    have hm2 : R.length * (i + 1) = R.length * i + R.length := Nat.mul_succ _ _
    unfold L_l_couple_1
    simp! only [gra_get (inV.mpr (hR s hs)), fA, in_holds false (.inl rfl), Bool.xor_false]
    refine vifK_dec (fun _ => ?_) fun _ => ?_
    · simp! only [K62.e_mixed]
      refine (mix_wp (.inr rfl) rfl hb' (by omega) (by omega)).mono ?_
      rintro _ ⟨r, ob1, rfl, hp, hb1⟩
      obtain ⟨s, t, _, ⟨l, rfl⟩, hs, ht, hst⟩ := two_of hp hn h2
      simp! only [sl_l2]
      exact ⟨_, s, t, ob1, rfl, rfl, hs, ht, hst, hb1.up (by omega)⟩
    · simp! only
      exact ⟨_, s, t, ob', rfl, rfl, hs, ht, hst, hb'.up (by omega)⟩
  · rintro _ _ ⟨y4, s, t, ob', rfl, rfl, hs, ht, hst, hb'⟩
    simp! only
    exact ⟨_, _, _, rfl, rfl, hb'.obD, s, t, rfl, hs, ht, hst, hb'.up (by omega)⟩
theorem ends_wp {c n : Nat} {ob : Ob} {S : Sto} {R : List (List Int)} {s t : List Int} (hS : S[n]? = some ob) (hb : BagOk c ob) (hc : c + R.length + 20 < 2 ^ 1000) (h0 : ∀ x ∈ R, x ≠ []) (ha : R.Pairwise SLt) (hs : s ∈ R) (ht : t ∈ R) (hst : s ≠ t) (hl : R.length ≤ 1000) :
    Wp (callF K62.f_l_ends [.loc n, .d (.tuple (R.map tI)), .d (tI s), .d (tI t)] S) fun r => ∃ x ob', r = (.d x, S.set n ob') ∧ ∃ E : List (List Int), x = .tuple (E.map tI) ∧ (∀ x ∈ E, x ∈ R) ∧ E.Pairwise SLt ∧ BagOk (c + R.length + 1) ob' := by
  refine wp_call1 rfl (by simp [allLoc]) hS hb.obD ?_
  show Wp (K62.b_l_ends [some (.loc 0), some (.d (.tuple (R.map tI))), some (.d (tI s)), some (.d (tI t)), none, none, none] [ob]) _
  unfold K62.b_l_ends
  simp! only [K62.e_take]
  refine (take_wp rfl hb (by omega) (by omega) (by omega)).mono ?_
  rintro _ ⟨_, ob1, rfl, v0, v1, hb1⟩
  obtain ⟨k, rfl⟩ := Int.eq_ofNat_of_zero_le v0
  simp! only
  refine ifK_dec (fun hk => ?_) fun hk => ?_
  · obtain ⟨E, hE, hEf, hEn⟩ : ∃ E, [[s, t], [s, t], [s, t], [t], [s], [], R][k]? = some E ∧ (∀ x ∈ E, x ∈ R) ∧ E.Nodup := by
      have hw : k < 7 := by omega
      refine ⟨_, List.getElem?_eq_getElem hw, ?_⟩
      have hm := List.getElem_mem (l := [[s, t], [s, t], [s, t], [t], [s], [], R]) hw
      generalize [[s, t], [s, t], [s, t], [t], [s], [], R][k] = E at hm
      simp only [List.mem_cons, List.not_mem_nil, or_false] at hm
      have two : (∀ x ∈ [s, t], x ∈ R) ∧ [s, t].Nodup := ⟨fun x hx => by
        rcases List.mem_cons.mp hx with rfl | hx
        · exact hs
        · rw [List.mem_singleton.mp hx]; exact ht, by simp [hst]⟩
      rcases hm with rfl | rfl | rfl | rfl | rfl | rfl | rfl
      · exact two
      · exact two
      · exact two
      · exact ⟨fun x hx => by rw [List.mem_singleton.mp hx]; exact ht, by simp⟩
      · exact ⟨fun x hx => by rw [List.mem_singleton.mp hx]; exact hs, by simp⟩
      · exact ⟨fun x hx => (by cases hx), by simp⟩
      · exact ⟨fun x hx => hx, asc_nodup ha⟩
    have hix := fun S => ixY_l (S := S) (l := [[s, t], [s, t], [s, t], [t], [s], [], R].map fun l => PyData.list (l.map tI)) (k := k) (a := .list (E.map tI)) (by rw [List.getElem?_map, hE]; rfl)
    simp only [List.map_cons, List.map_nil] at hix
    simp! only [hix, sort_l fun a ha => h0 a (hEf a ha)]
    exact ⟨_, _, _, rfl, rfl, hb1.obD, sortL E, rfl, fun x hx => hEf x ((sortL_perm _).subset hx), sortL_asc hEn, hb1.up (by omega)⟩
  · simp! only
    refine wp_lcJ (fun S0 i acc S => ∃ ob' E, S = [ob'] ∧ BagOk (c + 1 + i) ob' ∧ acc = E.map tI ∧ E.Sublist (R.take i)) (ws := (R.map tI).map W.d) (S1 := [ob1]) (by (simp! only <;> rfl)) ⟨ob1, [], rfl, hb1, rfl, List.nil_sublist _⟩ ?_ ?_
    · rintro i w _ _ hw ⟨ob', E, rfl, hb', rfl, hE⟩
      simp only [List.getElem?_map, Option.map_eq_some_iff] at hw
      obtain ⟨_, ⟨x, hx, rfl⟩, rfl⟩ := hw
      have hi := (List.getElem?_eq_some_iff.mp hx).1
      have htk : R.take (i + 1) = R.take i ++ [x] := by rw [List.take_succ, hx]; rfl
      simp! only [K62.e_take]
      refine (take_wp rfl hb' (by omega) (by omega) (by omega)).mono ?_
      rintro _ ⟨v, ob2, rfl, _, _, hb2⟩
      simp! only
      by_cases hv : v = 0
      · left
        simp! only [hv, decide_true]
        exact ⟨_, rfl, ob2, E ++ [x], rfl, hb2.up (by omega), by simp, by rw [htk]; exact hE.append (List.Sublist.refl _)⟩
      · right
        simp! only [hv, decide_false]
        exact ⟨ob2, E, rfl, hb2.up (by omega), rfl, by rw [htk]; exact hE.trans (List.sublist_append_left _ _)⟩
    · rintro _ _ ⟨ob', E, rfl, hb', rfl, hE⟩
      rw [List.length_map, List.length_map] at hE hb'
      rw [List.take_length] at hE
      refine ⟨sz_of (by rw [List.length_map]; have := hE.length_le; omega), ?_⟩
      simp! only
      exact ⟨_, _, _, rfl, rfl, hb'.obD, E, rfl, fun x hx => hE.subset hx, ha.sublist hE, hb'.up (by omega)⟩
theorem keyN_tK {k : List (List Int)} (h : k ≠ [] ∧ ∀ c ∈ k, c ≠ []) : keyN (.d (tK k)) = some k := by
  have h1 : (k.isEmpty || k.any List.isEmpty) = false := by
    rw [Bool.eq_false_iff]
    intro z
    rw [Bool.or_eq_true] at z
    rcases z with z | z
    · exact h.1 (List.isEmpty_iff.mp z)
    · obtain ⟨c, hc, e⟩ := List.any_eq_true.mp z
      exact h.2 c hc (List.isEmpty_iff.mp e)
  simp only [keyN, tK, tupsP_tI, Option.bind_some, h1, Bool.false_eq_true, if_false]
/-- a key of two contents -/
theorem kN2 {s t : List Int} (h1 : s ≠ []) (h2 : t ≠ []) : [s, t] ≠ [] ∧ ∀ c ∈ [s, t], c ≠ [] := ⟨by simp, fun c hc => by
  rcases List.mem_cons.mp hc with rfl | hc
  · exact h1
  · rw [List.mem_singleton.mp hc]; exact h2⟩
theorem ixYb_N {kvs : List (List (List Int) × PyData)} {k : List (List Int)} {d : PyData} {S : Sto} (hk : k ≠ [] ∧ ∀ c ∈ k, c ≠ []) (h : lookN kvs k = some d) : ixYb (tK k) S (.dicN kvs) = some (.d d, S) := by
  have h1 : isN [Ob.dicN kvs] (.loc 0) = true := rfl
  simp only [ixYb, ixY, h1, if_true, nlook, List.getElem?_cons_zero, keyN_tK hk, Option.map_some, Option.bind_some, h]
theorem setXb_N {kvs : List (List (List Int) × PyData)} {k : List (List Int)} {d : PyData} {S : Sto} {n : Nat} (hk : k ≠ [] ∧ ∀ c ∈ k, c ≠ []) : setXb n (tK k) (.d d) S (.dicN kvs) = if kvs.length < sizeLine then some (S.set n (.dicN (putN kvs k d))) else none := by
  simp only [setXb, keyN_tK hk, Option.bind_some]
def ky (o : Od) : List (List Int) := [o.1, o.2.1]
def kvE (f : Od → PyData) (fo : List Od) : List (List (List Int) × PyData) := fo.map fun o => (ky o, f o)
theorem putN_kvE {f : Od → PyData} {fo : List Od} {o : Od} : ∃ fo' : List Od, putN (kvE f fo) (ky o) (f o) = kvE f fo' ∧ (∀ q ∈ fo', q ∈ fo ∨ q = o) ∧ fo'.length ≤ fo.length + 1 ∧ ((fo.map ky).Nodup → (fo'.map ky).Nodup) := by
  unfold putN
  have ha : ((kvE f fo).any fun q => decide (q.1 = ky o)) = fo.any fun q => decide (ky q = ky o) := by unfold kvE; rw [List.any_map]; rfl
  rw [ha]
  by_cases h : (fo.any fun q => decide (ky q = ky o)) = true
  · rw [if_pos h]
    refine ⟨fo.map fun q => if ky q = ky o then o else q, ?_, fun q hq => ?_, by rw [List.length_map]; omega, fun hn => ?_⟩
    · unfold kvE
      rw [List.map_map, List.map_map]
      refine List.map_congr_left fun q _ => ?_
      simp only [Function.comp]
      by_cases c : ky q = ky o
      · rw [if_pos c, if_pos c]; simp only [c]
      · rw [if_neg c, if_neg c]
    · obtain ⟨z, hz, e⟩ := List.mem_map.mp hq
      by_cases c : ky z = ky o
      · rw [if_pos c] at e; exact .inr e.symm
      · rw [if_neg c] at e; exact .inl (e ▸ hz)
    · have : (fo.map fun q => if ky q = ky o then o else q).map ky = fo.map ky := by
        rw [List.map_map]
        refine List.map_congr_left fun q _ => ?_
        simp only [Function.comp]
        by_cases c : ky q = ky o
        · rw [if_pos c, c]
        · rw [if_neg c]
      rw [this]; exact hn
  · rw [if_neg h]
    refine ⟨fo ++ [o], by unfold kvE; rw [List.map_append]; rfl, fun q hq => ?_, by simp, fun hn => ?_⟩
    · rcases List.mem_append.mp hq with z | z
      · exact .inl z
      · exact .inr (List.mem_singleton.mp z)
    · rw [List.map_append, List.nodup_append]
      refine ⟨hn, by simp, fun a ha d hd => ?_⟩
      rw [List.map_singleton, List.mem_singleton] at hd
      subst hd
      rintro rfl
      obtain ⟨z, hz, e⟩ := List.mem_map.mp ha
      exact h (List.any_eq_true.mpr ⟨z, hz, by simp [e]⟩)
theorem look_kvE {f : Od → PyData} {fo : List Od} {o : Od} (hn : (fo.map ky).Nodup) (h : o ∈ fo) : lookN (kvE f fo) (ky o) = some (f o) := by
  unfold lookN kvE
  induction fo with
  | nil => cases h
  | cons q fo ih =>
    rw [List.map_cons, List.nodup_cons] at hn
    rw [List.map_cons, List.find?_cons]
    rcases List.mem_cons.mp h with e | e
    · subst e; simp
    · have : ky q ≠ ky o := fun z => hn.1 (List.mem_map.mpr ⟨o, e, z.symm⟩)
      simp only [this, decide_false]
      exact ih hn.2 e
/-- the orders by their couples, ascending -/
theorem sorted_kvE {f : Od → PyData} {fo : List Od} (hn : (fo.map ky).Nodup) : ∃ os : List Od, os.Perm fo ∧ (os.Pairwise fun a b => ltC (cK (ky a)) (cK (ky b)) = true) ∧ ∀ S : Sto, sortedAb S (.dicN (kvE f fo)) = some (.d (.list (os.map fun o => tK (ky o))), S) := by
  obtain ⟨ks, hks, e⟩ := perm_map_ex (sortC_perm ((fo.map ky).map cK))
  obtain ⟨os, hos, rfl⟩ := perm_map_ex hks
  have hs := sortC_srtd ((fo.map ky).map cK)
  rw [e, List.pairwise_map, List.pairwise_map] at hs
  have hkn : (os.map ky).Nodup := (hos.map ky).nodup_iff.mpr hn
  have hkp : os.Pairwise fun a b => ky a ≠ ky b := List.pairwise_map.mp hkn
  have hlt : os.Pairwise fun a b => ltC (cK (ky a)) (cK (ky b)) = true := (hkp.and hs).imp fun {a b} h => by
    obtain ⟨h1, h2⟩ := h
    rcases ltC_tot h2 with c | c
    · refine absurd ?_ h1
      have : (ky b).map cI = (ky a).map cI := by injection c
      exact ((List.map_inj_right fun x y e => cI_inj e).mp this).symm
    · exact c
  refine ⟨os, hos, hlt, fun S => ?_⟩
  · have h0 : ∀ k ∈ fo.map ky, k ≠ [] := fun k hk => by
      obtain ⟨o, _, rfl⟩ := List.mem_map.mp hk
      simp [ky]
    obtain ⟨hso, _⟩ := sort_keys h0
    have e1 : keysP [Ob.dicN (kvE f fo)] (.loc 0) = some ((fo.map ky).map tK) := by
      simp only [keysP, List.getElem?_cons_zero, kvE, List.map_map]; rfl
    have e2 : ofPs ((fo.map ky).map tK) = some ((fo.map ky).map cK) := ofPs_map fun k _ => ofP_tK k
    have e3 : toPs ((os.map ky).map cK) = os.map fun o => tK (ky o) := by
      rw [toPs_map, List.map_map, List.map_map]
      exact List.map_congr_left fun k _ => toP_cK _
    simp only [sortedAb, sortedA, show isDicN [Ob.dicN (kvE f fo)] (.loc 0) = true from rfl, if_true, sortedKX, on1, e1, Option.bind_some, e2, hso, e, e3, Option.map_some]
structure OrdOk (R : List (List Int)) (o : Od) : Prop where
  s : o.1 ∈ R
  t : o.2.1 ∈ R
  ne : o.1 ≠ o.2.1
  e : ∀ x ∈ o.2.2, x ∈ R
  asc : o.2.2.Pairwise SLt
structure TskOk (b : List Pl) (R : List (List Int)) (os : List Od) : Prop where
  rf : ∀ x ∈ R, Fits x b
  rs : R.Pairwise SLt
  r0 : R ≠ []
  rl : R.length ≤ 8
  of : ∀ o ∈ os, OrdOk R o
  oa : os.Pairwise fun a b => ltC (cK (ky a)) (cK (ky b)) = true
  ol : os.length ≤ 40
theorem TskOk.weak {b : List Pl} {R : List (List Int)} {os : List Od} (h : TskOk b R os) : GoodT b R os :=
  ⟨h.rf, Nat.le_trans h.rl (by decide), fun o ho => ⟨h.rf _ (h.of o ho).s, h.rf _ (h.of o ho).t, fun x hx => h.rf _ ((h.of o ho).e x hx), by
    have : o.2.2.length ≤ R.length := List.Nodup.length_le_of_subset (asc_nodup (h.of o ho).asc) (h.of o ho).e
    have := h.rl
    omega⟩, h.ol⟩
end KH
end
noncomputable section
namespace KH
open PySem PySem.Spec PyProof.Rows L2 DL K17 K62
theorem kvE_len {f : Od → PyData} {fo : List Od} : (kvE f fo).length = fo.length := by simp [kvE]
def fE (o : Od) : PyData := .tuple (o.2.2.map tI)
theorem od_eq (o : Od) : od o = .tuple ((ky o).map tI ++ [fE o]) := rfl
theorem intD_b {q : Bool} {S : Sto} : DL.intD [.d (.bool q)] S = some (.d (.int (if q = true then 1 else 0)), S) := by cases q <;> simp [DL.intD, on1]
theorem mul_b {k : Nat} {q : Bool} {S : Sto} (h : k ≤ 1000) : mulD (.d (.int (k : Nat))) (.d (.int (if q = true then 1 else 0))) S = some (.d (.int ((if q = true then k else 0 : Nat) : Int)), S) := by
  have a : (k : Int).natAbs.log2 ≤ 10 := lg_le (by omega)
  cases q
  · rw [ev_mul (by have b : (0 : Int).natAbs.log2 ≤ 1 := by decide
                   simp only [Bool.false_eq_true, if_false]; omega)]
    simp
  · rw [ev_mul (by have b : (1 : Int).natAbs.log2 ≤ 1 := by decide
                   simp only [if_true]; omega)]
    simp
theorem any_task_wp {b : List Pl} {c n most orders : Nat} {ob : Ob} {S : Sto} (g : Good b) (hS : S[n]? = some ob) (hb : BagOk c ob) (hc : c + 100000000 < 2 ^ 1000) (hm : 1 ≤ most) (hm8 : most ≤ 8) (ho : orders ≤ 40) :
    Wp (callF K62.f_l_any_task [.loc n, .d (bn b), .d (.int most), .d (.int orders)] S) fun r => ∃ x ob', r = (.d x, S.set n ob') ∧ ∃ (R : List (List Int)) (os : List Od), x = tk b R os ∧ TskOk b R os ∧ os.length ≤ orders ∧ BagOk (c + 90000000) ob' := by
  have hcl := g.clen
  have hcl2 : (sortL (conts b)).length ≤ 7776 := by rw [(sortL_perm _).length_eq]; exact hcl
  have hcs : ∀ x ∈ sortL (conts b), Fits x b := fun x hx => inV.mp ((sortL_perm _).subset hx)
  have hcn : (sortL (conts b)).Nodup := (sortL_perm _).nodup_iff.mpr (conts_nodup _ rfl)
  have hc0 : sortL (conts b) ≠ [] := fun z => by
    have h1 := conts_ne g
    rw [← (sortL_perm (conts b)).length_eq, z] at h1
    exact absurd h1 (by decide)
  refine wp_call1 rfl (by simp [allLoc]) hS hb.obD ?_
  show Wp (K62.b_l_any_task [some (.loc 0), some (.d (bn b)), some (.d (.int most)), some (.d (.int orders)), none, none, none, none, none, none, none] [ob]) _
  unfold K62.b_l_any_task
  simp! only [graph_ok g, gra_keys g]
  refine (rests_wp rfl hb (by omega) (by omega) (fun a ha => ne_of_fits g (hcs a ha)) hc0 hcn hm (by omega)).mono ?_
  rintro _ ⟨_, ob1, rfl, R, rfl, hRc, hR0, hRl, hRs, hb1⟩
  have hRf : ∀ x ∈ R, Fits x b := fun x hx => hcs x (hRc x hx)
  have hRn : ∀ x ∈ R, x ≠ [] := fun x hx => ne_of_fits g (hRf x hx)
  unfold mNewN
  simp! only
  simp! only [intD_b, mul_b (k := orders) (by omega)]
  obtain ⟨m, hmm, hm1, hm2⟩ : ∃ m : Nat, (if decide ((1 : Int) < ((R.map tI).length : Nat)) = true then orders else 0) = m ∧ m ≤ orders ∧ (0 < m → 2 ≤ R.length) := by
    refine ⟨_, rfl, ?_, ?_⟩
    · split <;> omega
    · rw [List.length_map]
      split
      · rename_i h
        have := of_decide_eq_true h
        omega
      · intro h; omega
  rw [hmm]
  refine ⟨_, rng1_ok (n := m) (by omega), ?_⟩
  simp! only
  refine wp_rng (fun ρ0 S0 i ρ S => ∃ y5 y8 y9 fo ob', ρ = ((ρ0.set 5 y5).set 8 y8).set 9 y9 ∧ S = [ob', .dicN (kvE fE fo)] ∧ (∀ o ∈ fo, OrdOk R o) ∧ fo.length ≤ i ∧ (fo.map ky).Nodup ∧ BagOk (c + 10 + 7776 + 2100000 * i) ob') ⟨none, none, none, [], ob1, rfl, rfl, fun o h => (by cases h), by simp, by simp, hb1.up (by omega)⟩ ?_ ?_
  · rintro i _ _ hi ⟨y5, y8, y9, fo, ob2, rfl, rfl, hfo, hfl, hfn, hb2⟩
    have h2 := hm2 (by omega)
    unfold L_l_any_task_1
    simp! only
    refine (couple_wp rfl hb2 (by omega) hRf (asc_nodup hRs) h2 (by omega)).mono ?_
    rintro _ ⟨_, ob3, rfl, s, t, rfl, hs, ht, hst, hb3⟩
    simp! only
    obtain ⟨x, ob4, e4, hb4⟩ := way_by_ok (b := b) (s := s) (t := t) (bs := []) (w := .list []) (S := [ob3, .dicN (kvE fE fo)]) (n := 0) g (hRf s hs) (.inl rfl) rfl hb3 (by omega)
    simp! only [e4]
    refine ifK_b (fun _ => ?_) fun _ => ?_
    · simp! only
      refine (ends_wp rfl hb4 (by omega) hRn hRs hs ht hst (by omega)).mono ?_
      rintro _ ⟨_, ob5, rfl, E, rfl, hE, hEs, hb5⟩
      rw [show PyData.tuple [tI s, tI t] = tK (ky (s, t, E)) from rfl, show PyData.tuple (E.map tI) = fE (s, t, E) from rfl]
      simp! only [setX_loc, Option.bind_some, setXb_N (k := ky (s, t, E)) (kN2 (hRn s hs) (hRn t ht))]
      rw [Wp_pos (lt_sz (by rw [kvE_len]; omega))]
      obtain ⟨fo', e5, h5, h6, h7⟩ := putN_kvE (f := fE) (fo := fo) (o := (s, t, E))
      simp! only [e5]
      refine ⟨_, _, _, fo', ob5, rfl, rfl, fun o ho => ?_, by omega, h7 hfn, hb5.up (by omega)⟩
      rcases h5 o ho with z | z
      · exact hfo o z
      · rw [z]; exact ⟨hs, ht, hst, hE, hEs⟩
    · simp! only
      exact ⟨_, _, _, fo, ob4, rfl, rfl, hfo, by omega, hfn, hb4.up (by omega)⟩
  · rintro _ _ ⟨y5, y8, y9, fo, ob2, rfl, rfl, hfo, hfl, hfn, hb2⟩
    obtain ⟨os, hos, hlt, hsrt⟩ := sorted_kvE (f := fE) hfn
    simp! only
    refine wp_lcA (l := os) (enc := fun o => tK (ky o)) (H := od) (by (simp! only [sortedA_loc, Option.bind_some, hsrt] <;> rfl)) (fun o ho => ?_) (sz_of (by rw [hos.length_eq]; omega)) ?_
    · have hg := ixYb_N (k := ky o) (S := [ob2, .dicN (kvE fE fo)]) (kN2 (hRn _ (hfo o (hos.subset ho)).s) (hRn _ (hfo o (hos.subset ho)).t)) (look_kvE (f := fE) hfn (hos.subset ho))
      simp! only [ixY_loc, Option.bind_some, hg]
      rw [show tK (ky o) = .tuple ((ky o).map tI) from rfl, ev_addT (by simp [ky]; exact sz3)]
      simp! only
      rw [od_eq]
    · simp! only
      have hl := hos.length_eq
      exact ⟨_, _, _, rfl, rfl, hb2.obD, R, os, rfl, ⟨hRf, hRs, hR0, by omega, fun o ho => hfo o (hos.subset ho), hlt, by omega⟩, by omega, hb2.up (by omega)⟩
/-- orders sorted: by their couples, if these are distinct -/
theorem sort_odK {l : List Od} : ∃ r : List Od, r.Perm l ∧ (∀ S : Sto, sortedA [.d (.list (l.map od))] S = some (.d (.list (r.map od)), S)) ∧ ((l.map ky).Nodup → r.Pairwise fun a b => ltC (cK (ky a)) (cK (ky b)) = true) := by
  obtain ⟨r, hr, e⟩ := perm_map_ex (sortC_perm (l.map cO))
  have hso : sortable (l.map cO) = true := by
    simp only [sortable, Bool.and_eq_true, List.all_eq_true, List.mem_map, decide_eq_true_eq]
    refine ⟨?_, ?_⟩
    · rintro _ ⟨a, _, rfl⟩
      refine ⟨rfl, ?_⟩
      rw [← ofP_eq _ _ (ofP_od a)]; exact dep_od a
    · rintro _ ⟨a, _, rfl⟩ _ ⟨b, _, rfl⟩
      simp only [cO, kindC, kindCs, kind_cI, kinds_cI, Bool.and_self]
  have e2 : ofPs (l.map od) = some (l.map cO) := ofPs_map fun a _ => ofP_od a
  have e3 : toPs (r.map cO) = r.map od := by
    rw [toPs_map, List.map_map]
    exact List.map_congr_left fun a _ => (ofP_eq _ _ (ofP_od a)).symm
  refine ⟨r, hr, fun S => ?_, fun hn => ?_⟩
  · simp only [sortedA, isDicN, isN, isDicA, isDic, isTupD, Bool.or_self, Bool.false_eq_true, if_false, sortedD, on1, deref, e2, Option.bind_some, hso, if_true, e, e3]
  · have hs := sortC_srtd (l.map cO)
    rw [e, List.pairwise_map] at hs
    have hkn : (r.map ky).Nodup := (hr.map ky).nodup_iff.mpr hn
    refine ((List.pairwise_map.mp hkn).and hs).imp fun {a b} h => ?_
    obtain ⟨h1, h2⟩ := h
    have key : ltC (cO b) (cO a) = false → ltC (cK (ky b)) (cK (ky a)) = false := by
      simp only [ltC, cO, cK, ky, cmpC, cmpCs, List.map_cons, List.map_nil]
      cases cmpC (cI b.1) (cI a.1) <;> simp
      cases cmpC (cI b.2.1) (cI a.2.1) <;> simp
    rcases ltC_tot (key h2) with c | c
    · refine absurd ?_ h1
      have : (ky b).map cI = (ky a).map cI := by injection c
      exact ((List.map_inj_right fun x y e => cI_inj e).mp this).symm
    · exact c
end KH
end
noncomputable section
namespace KH
open PySem PySem.Spec PyProof.Rows L2 DL K17 K62
theorem bls_map {α : Type} {p : α → Bool} : ∀ l : List α, blsD (l.map fun a => PyData.bool (p a)) = some (l.map p)
  | [] => rfl
  | a :: l => by simp [blsD, bls_map l]
theorem all_ev {α : Type} {p : α → Bool} {l : List α} {S : Sto} : allDD [.d (.list (l.map fun a => PyData.bool (p a)))] S = some (.d (.bool (l.all p)), S) := by
  simp [allDD, on1, deref, bls_map, Function.comp_def]
theorem eq_nilT (l : List (List Int)) (S : Sto) : eqA false (.d (.tuple (l.map tI))) (.d (.tuple [])) S = some (.d (.bool l.isEmpty), S) := by
  have h0 := lay_l l
  have h1 : SeqAt.shaped (.tuple (l.map tI)) = true := by
    have d : (PyData.tuple (l.map tI)).depth ≤ 64 := by simp only [PyData.depth]; exact Nat.le_trans (Nat.succ_le_succ h0.2) (by decide)
    simp only [SeqAt.shaped, PyData.canLay0, h0.1, Bool.true_and, decide_eq_true_eq]
    exact d
  have h2 : SeqAt.shaped (.tuple []) = true := by decide
  have h3 : PyData.eqv (.tuple (l.map tI)) (.tuple []) = l.isEmpty := by cases l <;> simp [PyData.eqv, PyData.eqvAll]
  simp [eqA, eqD, deref, h1, h2, h3]
theorem cutDr {α : Type} (xs : List α) (k : Nat) : DL.cutD xs (some (k : Int)) none = xs.drop k := by
  have h : HT.sIx xs.length xs.length none = xs.length := rfl
  unfold DL.cutD
  rw [h, HT.sIx_nat]
  by_cases hk : k ≤ xs.length
  · rw [Nat.min_eq_left hk, List.take_of_length_le (by rw [List.length_drop]; exact Nat.le_refl _)]
  · rw [Nat.min_eq_right (by omega), List.drop_length, List.drop_eq_nil_of_le (by omega)]; simp
theorem slice_dr {α : Type} {enc : α → PyData} {l : List α} {k : Nat} {S : Sto} : sliceD (.d (.tuple (l.map enc))) (some (k : Int)) none S = some (.d (.tuple ((l.drop k).map enc)), S) := by
  simp only [sliceD, cutDr, List.map_drop]
theorem slice_tk {α : Type} {enc : α → PyData} {l : List α} {k : Nat} {S : Sto} : sliceD (.d (.tuple (l.map enc))) none (some (k : Int)) S = some (.d (.tuple ((l.take k).map enc)), S) := by
  simp only [sliceD, cutTk, List.map_take]
theorem tk_1 {b : List Pl} {R : List (List Int)} {os : List Od} {S : Sto} : ixY (.d (tk b R os)) (.d (.int 1)) S = some (.d (.tuple (R.map tI)), S) := ixY_lit1
theorem tk_2 {b : List Pl} {R : List (List Int)} {os : List Od} {S : Sto} : ixY (.d (tk b R os)) (.d (.int 2)) S = some (.d (.tuple (os.map od)), S) := ixY_lit2
end KH
end
noncomputable section
namespace KH
open PySem PySem.Spec PyProof.Rows L2 DL K17 K62
/-- step by step -/
def Wlk (b : List Pl) : List (List Int) → Prop
  | x :: y :: l => y ∈ adjC b x ∧ Wlk b (y :: l)
  | _ => True
/-- a way from s to t whose inner contents are not barred -/
structure WayP (b : List Pl) (bs : List (List Int)) (s t : List Int) (m : List (List Int)) : Prop where
  wk : Wlk b (s :: (m ++ [t]))
  ok : ∀ x ∈ m, x ∉ bs
theorem Wlk.tail {b : List Pl} {x : List Int} {l : List (List Int)} (h : Wlk b (x :: l)) : Wlk b l := by
  cases l with
  | nil => trivial
  | cons y l => exact h.2
theorem Wlk.fits {b : List Pl} (g : Good b) : ∀ {l : List (List Int)} {x : List Int}, Wlk b (x :: l) → Fits x b → ∀ y ∈ l, Fits y b
  | [], _, _, _, _, hy => by cases hy
  | z :: l, x, h, hx, y, hy => by
    have hz := adj_fits g hx h.1
    rcases List.mem_cons.mp hy with e | e
    · rw [e]; exact hz
    · exact Wlk.fits g h.2 hz y e
/-- found: each with who came ahead of it -/
structure WJ (b : List Pl) (bs : List (List Int)) (s t : List Int) (found : List (List Int × Option (List Int))) : Prop where
  nd : (found.map (·.1)).Nodup
  fits : ∀ q ∈ found, Fits q.1 b
  par : ∀ i x p, found[i]? = some (x, p) → (i = 0 ∧ x = s) ∨ ∃ j y q, j < i ∧ p = some y ∧ found[j]? = some (y, q) ∧ x ∈ adjC b y ∧ (x = t ∨ x ∉ bs)
theorem WJ.add {b : List Pl} {bs : List (List Int)} {s t x y : List Int} {found : List (List Int × Option (List Int))} (g : Good b) (h : WJ b bs s t found) (hx : x ∉ found.map (·.1)) (hy : y ∈ found.map (·.1)) (ha : x ∈ adjC b y) (hb : x = t ∨ x ∉ bs) : WJ b bs s t (found ++ [(x, some y)]) := by
  obtain ⟨q, hq, rfl⟩ := List.mem_map.mp hy
  refine ⟨?_, fun q hq => ?_, fun i z p hi => ?_⟩
  · rw [List.map_append, List.nodup_append]
    refine ⟨h.nd, by simp, fun a ha2 c hc => ?_⟩
    have : c = x := by simpa using hc
    rw [this]; rintro rfl; exact hx ha2
  · rcases List.mem_append.mp hq with z | z
    · exact h.fits q z
    · rw [List.mem_singleton.mp z]; exact adj_fits g (h.fits _ (by assumption)) ha
  · by_cases hlt : i < found.length
    · rw [List.getElem?_append_left hlt] at hi
      rcases h.par i z p hi with c | ⟨j, y', q, h1, h2, h3, h4⟩
      · exact .inl c
      · exact .inr ⟨j, y', q, h1, h2, by rw [List.getElem?_append_left (by omega)]; exact h3, h4⟩
    · right
      have hi2 : i < (found ++ [(x, some q.1)]).length := (List.getElem?_eq_some_iff.mp hi).1
      have : i = found.length := by simp at hi2; omega
      subst this
      have e : (x, some q.1) = (z, p) := by simpa using hi
      cases e
      obtain ⟨j, hj, ej⟩ := List.getElem_of_mem hq
      exact ⟨j, q.1, q.2, by omega, rfl, by rw [List.getElem?_append_left hj, List.getElem?_eq_getElem hj, ej], ha, hb⟩
theorem WJ.len {b : List Pl} {bs : List (List Int)} {s t : List Int} {found : List (List Int × Option (List Int))} (h : WJ b bs s t found) : found.length ≤ (conts b).length := by
  have h1 : (found.map (·.1)).length ≤ (conts b).length := List.Nodup.length_le_of_subset h.nd fun x hx => by
    obtain ⟨q, hq, rfl⟩ := List.mem_map.mp hx
    exact inV.mpr (h.fits q hq)
  rwa [List.length_map] at h1
theorem WJ.one {b : List Pl} {bs : List (List Int)} {s t : List Int} (hs : Fits s b) : WJ b bs s t [(s, none)] :=
  ⟨by simp, fun q hq => by rw [List.mem_singleton.mp hq]; exact hs, fun i x p hi => by
    cases i with
    | zero => have : (s, (none : Option (List Int))) = (x, p) := by simpa using hi
              cases this; exact .inl ⟨rfl, rfl⟩
    | succ i => simp at hi⟩
/-- all that can be come to from xs by a step stands in K -/
def Cls (b : List Pl) (bs : List (List Int)) (t : List Int) (xs K : List (List Int)) : Prop := ∀ x ∈ xs, ∀ y ∈ adjC b x, (y = t ∨ y ∉ bs) → y ∈ K
theorem Cls.mono {b : List Pl} {bs xs K K2 : List (List Int)} {t : List Int} (h : Cls b bs t xs K) (k : ∀ x ∈ K, x ∈ K2) : Cls b bs t xs K2 := fun x hx y hy c => k y (h x hx y hy c)
end KH
end
noncomputable section
namespace DL
open PySem PySem.Spec PyProof.Rows L2
def zipF : List PyData → List PyData → List W
  | d :: ds, e :: es => .d (.tuple [d, e]) :: zipF ds es
  | _, _ => []
theorem zipF_get : ∀ {ds es : List PyData} {i : Nat} {w : W}, (zipF ds es)[i]? = some w → ∃ d e, ds[i]? = some d ∧ es[i]? = some e ∧ w = .d (.tuple [d, e])
  | [], _, _, _, h => by simp [zipF] at h
  | _ :: _, [], _, _, h => by simp [zipF] at h
  | d :: ds, e :: es, 0, w, h => by
    simp only [zipF, List.getElem?_cons_zero, Option.some.injEq] at h
    exact ⟨d, e, rfl, rfl, h.symm⟩
  | d :: ds, e :: es, i + 1, w, h => by
    simp only [zipF, List.getElem?_cons_succ] at h
    obtain ⟨d', e', h1, h2, h3⟩ := zipF_get h
    exact ⟨d', e', by simpa using h1, by simpa using h2, h3⟩
theorem zipF_len : ∀ (ds es : List PyData), (zipF ds es).length = min ds.length es.length
  | [], es => by simp [zipF]
  | _ :: _, [] => by simp [zipF]
  | d :: ds, e :: es => by simp [zipF, zipF_len ds es, Nat.succ_min_succ]
theorem zip_rul {ds es : List PyData} {i : Nat} {d e : PyData} (h : ((ds.zip es).all fun q => !ruly [q.1, q.2]) = true) (hd : ds[i]? = some d) (he : es[i]? = some e) : ruly [d, e] = false := by
  have hm : (d, e) ∈ ds.zip es := by
    refine List.mem_of_getElem? (i := i) ?_
    rw [List.getElem?_zip_eq_some]
    exact ⟨hd, he⟩
  have := List.all_eq_true.mp h _ hm
  simpa using this
/-- zip(t, u) of two tuples -/
def iZipD (R : MA) : MI := fun ρ S => (R ρ S).bind fun p => match p.1 with
  | [.d (.tuple ds), .d (.tuple es)] => if ((ds.zip es).all fun q => !ruly [q.1, q.2]) = true then some (zipF ds es, p.2) else none
  | _ => none
theorem di_zipT {X : Cx} {e e2 : Expr} {p pos tpos : Pos} {elts : List Expr} {kk : Nat} {R : MA} (hg : Gl X "zip") (hm : X.mg "zip" = none) (ha : PA X [e, e2] (rdA τ X.K R))
    (hs : starEach [e, e2] X.env = (false, eval e X.env) :: starEach [e2] X.env := by rfl) (hpl : (backTo pos (starEach [e2] X.env)).any (·.1) = false := by rfl) :
    PI X (.Tuple elts kk tpos) (.Call (.Name "zip" p) [e, e2] [] pos) (rdI τ X.K (iZipD R)) := by
  refine ⟨fun pins s σ H R' I h => ?_⟩
  obtain ⟨m, S, ρ, ws, S', q, e1, p'⟩ := h
  obtain ⟨⟨us, S1⟩, e2', e3⟩ := Option.bind_eq_some_iff.mp e1
  refine (RZ.pi_zipA hg hm ha hs hpl).run pins s σ H R' I ?_
  refine ⟨m, S, ρ, us, S1, q, e2', fun ext H1 vs f q1 fr r => ?_⟩
  simp only at e3
  split at e3
  · rename_i ds es
    split at e3
    case isFalse => cases e3
    rename_i hru
    cases e3
    obtain ⟨v, v', rfl, rv, rv'⟩ := prd2 r
    obtain ⟨a, xs, rfl, h1, r1⟩ := rp_tup rv
    obtain ⟨b, ys, rfl, h2, r2⟩ := rp_tup rv'
    refine ⟨a, b, xs, ys, rfl, .inr ⟨h1, h2, ?_⟩⟩
    refine p' ext _ H1 f q1 fr ⟨?_, ?_, ?_⟩
    · intro i H' hi kp
      rw [zipF_len] at hi
      have hx : i < xs.length := by rw [r1.length]; omega
      have hy : i < ys.length := by rw [r2.length]; omega
      exact ⟨xs, ys, xs[i], ys[i], sqT_mono h1 kp, sqT_mono h2 kp, List.getElem?_eq_getElem hx, List.getElem?_eq_getElem hy⟩
    · intro H' kp
      refine ⟨xs, ys, sqT_mono h1 kp, sqT_mono h2 kp, ?_⟩
      rw [zipF_len, r1.length, r2.length]
      omega
    · rintro i H' x H'' w ew kp ⟨T, y, z, rfl, hT, rfl, hy, hz⟩
      obtain ⟨d, d', hd, hd', rfl⟩ := zipF_get ew
      obtain ⟨v, hv, rd⟩ := r1.get hd
      obtain ⟨v', hv', rd'⟩ := r2.get hd'
      have e := hy xs (sqT_mono h1 kp)
      rw [hv] at e
      cases e
      have e' := hz ys (sqT_mono h2 kp)
      rw [hv'] at e'
      cases e'
      have kk := upd_kp (o := HO.tup [y, z]) hT
      refine ⟨upd_keeps hT, Rp.tup upd_same (zip_rul hru hd hd') ?_⟩
      exact .cons (Rp.mono kk _ _ (Rp.mono kp _ _ rd)) (.cons (Rp.mono kk _ _ (Rp.mono kp _ _ rd')) .nil)
  · cases e3
end DL
end
noncomputable section
namespace KH
open PySem PySem.Spec PyProof.Rows L2 DL K17 K62
theorem Wlk.pre {b : List Pl} : ∀ {l r : List (List Int)}, Wlk b (l ++ r) → Wlk b l
  | [], _, _ => trivial
  | [x], _, _ => trivial
  | x :: y :: l, r, h => ⟨h.1, Wlk.pre (l := y :: l) (r := r) h.2⟩
theorem dia {R : List (List Int)} : (R.map fun r => (r, r)).map (·.1) = R := by rw [List.map_map]; simp [Function.comp_def]
/-- homes and rows that are grown row by row -/
inductive Grown (b : List Pl) (R : List (List Int)) : List (List Int × List Int) → List (List Int × List Int) → Prop
  | base : Grown b R (R.map fun r => (r, r)) []
  | step {hm rw : List (List Int × List Int)} {x y h : List Int} : Grown b R hm rw → x ∉ hm.map (·.1) → Fits x b → y ∈ adjC b x → (y, h) ∈ hm → Grown b R (hm ++ [(x, h)]) (rw ++ [(x, y)])
theorem Grown.keys {b : List Pl} {R : List (List Int)} {hm rw : List (List Int × List Int)} (h : Grown b R hm rw) : hm.map (·.1) = R ++ rw.map (·.1) := by
  induction h with
  | base => rw [dia]; simp
  | step h _ _ _ _ ih => simp [ih]
theorem Grown.nd {b : List Pl} {R : List (List Int)} {hm rw : List (List Int × List Int)} (h : Grown b R hm rw) (hR : R.Nodup) : (hm.map (·.1)).Nodup := by
  induction h with
  | base => rw [dia]; exact hR
  | step h hx _ _ _ ih =>
    rw [List.map_append, List.nodup_append]
    refine ⟨ih, by simp, fun a ha c hc => ?_⟩
    rw [List.map_singleton] at hc
    rw [List.mem_singleton.mp hc]; rintro rfl; exact hx ha
theorem Grown.fits {b : List Pl} {R : List (List Int)} {hm rw : List (List Int × List Int)} (h : Grown b R hm rw) (hR : ∀ x ∈ R, Fits x b) : ∀ q ∈ hm, Fits q.1 b ∧ q.2 ∈ R := by
  induction h with
  | base =>
    intro q hq
    obtain ⟨r, hr, rfl⟩ := List.mem_map.mp hq
    exact ⟨hR r hr, hr⟩
  | step h hx hf _ hy ih =>
    intro q hq
    rcases List.mem_append.mp hq with c | c
    · exact ih q c
    · rw [List.mem_singleton.mp c]
      exact ⟨hf, (ih _ hy).2⟩
theorem Grown.rows {b : List Pl} {R : List (List Int)} {hm rw : List (List Int × List Int)} (h : Grown b R hm rw) : ∀ q ∈ rw, q.2 ∈ adjC b q.1 ∧ Fits q.1 b := by
  induction h with
  | base => intro q hq; cases hq
  | step h hx hf hy _ ih =>
    intro q hq
    rcases List.mem_append.mp hq with c | c
    · exact ih q c
    · rw [List.mem_singleton.mp c]; exact ⟨hy, hf⟩
theorem Grown.len {b : List Pl} {R : List (List Int)} {hm rw : List (List Int × List Int)} (h : Grown b R hm rw) (hR : R.Nodup) (hf : ∀ x ∈ R, Fits x b) : hm.length ≤ (conts b).length ∧ rw.length ≤ hm.length := by
  have h1 : (hm.map (·.1)).length ≤ (conts b).length := List.Nodup.length_le_of_subset (h.nd hR) fun x hx => by
    obtain ⟨q, hq, rfl⟩ := List.mem_map.mp hx
    exact inV.mpr (h.fits hf q hq).1
  have h2 := congrArg List.length h.keys
  simp at h1 h2
  omega
theorem shaped_of {l : List PyData} (h : ∀ d ∈ l, d.canLay0 = true ∧ d.depth ≤ 60) : SeqAt.shaped (.list l) = true := by
  have : PyData.canLayAll0 l = true ∧ PyData.depthAll l ≤ 60 := by
    induction l with
    | nil => exact ⟨rfl, Nat.zero_le _⟩
    | cons d l ih =>
      obtain ⟨h1, h2⟩ := h d (by simp)
      obtain ⟨h3, h4⟩ := ih fun z hz => h z (by simp [hz])
      exact ⟨by simp [PyData.canLayAll0, h1, h3], by simp [PyData.depthAll]; omega⟩
  simp only [SeqAt.shaped, PyData.canLay0, this.1, PyData.depth, Bool.true_and, decide_eq_true_eq]
  have := this.2
  exact decide_eq_true (by omega)
end KH
end
noncomputable section
namespace KH
open PySem PySem.Spec PyProof.Rows L2 DL K17 K62
structure RuleOk (b : List Pl) (R : List (List Int)) (rws : List (List Int × List Int)) : Prop where
  asc : (rws.map (·.1)).Pairwise SLt
  ok : ∀ q ∈ rws, Fits q.1 b ∧ q.1 ∉ R ∧ q.2 ∈ adjC b q.1
/-- an order, and the inner contents of its way -/
abbrev Oe : Type := Od × List (List Int)
def wayL (e : Oe) : List (List Int) := e.1.1 :: (e.2 ++ [e.1.2.1])
/-- the ways fit the orders -/
structure WaysL (b : List Pl) (L : Nat) (es : List Oe) : Prop where
  wk : ∀ e ∈ es, Wlk b (wayL e)
  ln : ∀ e ∈ es, e.2.length ≤ L
abbrev WaysOk (b : List Pl) (es : List Oe) : Prop := WaysL b ((conts b).length + 10) es
theorem WayP.weak {b : List Pl} {bs : List (List Int)} {s t : List Int} {m : List (List Int)} (h : WayP b bs s t m) : WayP b [] s t m := ⟨h.wk, fun x _ => by simp⟩
end KH
end
noncomputable section
namespace DL
open PySem PySem.Spec PyProof.Rows L2
def tyD : PyData → Option String
  | .none => some "NoneType"
  | .bool _ => some "bool"
  | .int _ => some "int"
  | .str _ => some "str"
  | .list _ => some "list"
  | .tuple _ => some "tuple"
  | .dict _ => none
def isiT (a T : String) : Bool := decide (a = T) || (decide (a = "bool") && decide (T = "int"))
def okTy (T : String) : Bool := ["int", "bool", "list", "tuple", "dict", "str"].contains T
def mIsi (T : String) (A : ME) : ME := fun ρ S => (A ρ S).bind fun p => match p.1 with
  | .d d => (tyD d).map fun a => (.d (.bool (isiT a T)), p.2)
  | .loc _ => none
  | .fn => none
theorem ty_rp {K : PySem.W.Frag} {H : Hp} {x : V} {d : PyData} {a : String} (r : Rp K H x d) (e : tyD d = some a) : TyX K H x (.type a) := by
  cases r with
  | non => cases e; exact .base .non
  | bl b => cases e; exact .base (.bl b)
  | int i => cases e; exact .base (.int i)
  | str y => cases e; exact .base (.str y)
  | lst f r =>
    cases e
    rcases f with ⟨o, h⟩ | ⟨h, _⟩
    · exact .base (.frz h)
    · rcases h with h | h
      · rcases h with h | ⟨o, h⟩ <;> cases h
      · obtain ⟨o, its, n, hk, hc, _⟩ := h
        exact .kList hk hc
  | tup h _ _ => cases e; exact .base (.tup h)
  | tupZ h _ _ _ => cases e; exact .fTuple h
  | dicT => cases e
  | dicK => cases e
theorem isi_ok {K : PySem.W.Frag} {d : PyData} {a T : String} (e : tyD d = some a) (h : okTy T = true) : PySem.W.kitOne K (.type a) (.type T) = some (isiT a T) := by
  have hT : T = "int" ∨ T = "bool" ∨ T = "list" ∨ T = "tuple" ∨ T = "dict" ∨ T = "str" := by
    simpa [okTy] using h
  refine kit_ty ?_
  have ha : a = "NoneType" ∨ a = "bool" ∨ a = "int" ∨ a = "str" ∨ a = "list" ∨ a = "tuple" := by
    cases d <;> simp only [tyD, Option.some.injEq] at e <;> first | (subst e; simp; done) | (cases e)
  rcases ha with rfl | rfl | rfl | rfl | rfl | rfl <;> rcases hT with rfl | rfl | rfl | rfl | rfl | rfl <;> decide +kernel
theorem de_isi {X : Cx} {e : Expr} {A : ME} {T : String} {x y : Str} {p p2 pos : Pos} (hok : okTy T = true) (hg : Gl X y) (hm : X.mg y = none) (hv : bootBuiltins y = some (.builtin "isinstance")) (hgT : Gl X x) (hmT : X.mg x = none) (hvT : bootBuiltins x = some (.type T)) (ha : PE X e (rdE τ X.K A))
    (hn : y ≠ "__name__" := by decide) (hdb : (y == ("__debug__" : Str)) = false := by decide) (hnT : x ≠ "__name__" := by decide) (hdT : (x == ("__debug__" : Str)) = false := by decide)
    (he : starEach [e, .Name x p2] X.env = (false, eval e X.env) :: starEach [.Name x p2] X.env := by rfl) (hpl : (backTo pos (starEach [.Name x p2] X.env)).any (·.1) = false := by rfl) : PE X (.Call (.Name y p) [e, .Name x p2] [] pos) (rdE τ X.K (mIsi T A)) :=
  wkE (pe_callB call_isi hg hm hv (pa_cons ha (pa_cons (pe_bltn (v := .ty T) hgT hmT hvT rfl hnT hdT) pa_nil) he) hn hdb (he := he) (hpl := hpl)) fun σ H Q h => by
    obtain ⟨m, S, ρ, w, S', q, e1, pp⟩ := h
    obtain ⟨⟨wx, S1⟩, e2, e3⟩ := Option.bind_eq_some_iff.mp e1
    refine ⟨m, S, ρ, wx, S1, q, e2, fun ext H1 x f q1 fr r => ?_⟩
    simp only at e3
    split at e3
    · obtain ⟨a, e4, e5⟩ := Option.map_eq_some_iff.mp e3
      cases e5
      exact ⟨x, .ty T, .type a, .type T, isiT a T, rfl, .ty T, ty_rp r e4, isi_ok e4 hok, (pp.at f q1 fr).now q1 (.bl _)⟩
    · cases e3
    · cases e3
end DL
end
noncomputable section
namespace DL
open PySem PySem.Spec PyProof.Rows L2
end DL
end
noncomputable section
namespace KQ
open PySem PySem.Spec PyProof.Rows L2 DL
def b_l_alike : MS := sRet (vAnd (mBin (eqA false) (mVar 0) (mVar 1)) (mBin (eqA false) (mCall reprD (mCons (mVar 0) (mNil))) (mCall reprD (mCons (mVar 1) (mNil)))))
def f_l_alike : FS := runF 2 b_l_alike
end KQ
end
noncomputable section
namespace KH
open PySem PySem.Spec PyProof.Rows L2 DL K17 K62
theorem RuleOk.nd {b : List Pl} {R : List (List Int)} {rws : List (List Int × List Int)} (h : RuleOk b R rws) : (rws.map (·.1)).Nodup := asc_nodup h.asc
theorem RuleOk.ne {b : List Pl} {R : List (List Int)} {rws : List (List Int × List Int)} (g : Good b) (h : RuleOk b R rws) : ∀ q ∈ rws, q.1 ≠ [] ∧ q.2 ≠ [] := fun q hq => ⟨ne_of_fits g (h.ok q hq).1, ne_of_fits g (adj_fits g (h.ok q hq).1 (h.ok q hq).2.2)⟩
theorem RuleOk.len {b : List Pl} {R : List (List Int)} {rws : List (List Int × List Int)} (h : RuleOk b R rws) : rws.length ≤ (conts b).length := by
  have : (rws.map (·.1)).length ≤ (conts b).length := List.Nodup.length_le_of_subset h.nd fun x hx => by
    obtain ⟨q, hq, rfl⟩ := List.mem_map.mp hx
    exact inV.mpr (h.ok q hq).1
  rwa [List.length_map] at this
theorem eq_nilG {l : List PyData} (h : ∀ d ∈ l, d.canLay0 = true ∧ d.depth ≤ 60) (S : Sto) : eqA false (.d (.tuple l)) (.d (.tuple [])) S = some (.d (.bool l.isEmpty), S) := by
  have h1 : SeqAt.shaped (.tuple l) = true := shaped_of (l := l) h
  have h2 : SeqAt.shaped (.tuple []) = true := by decide
  have h3 : PyData.eqv (.tuple l) (.tuple []) = l.isEmpty := by cases l <;> simp [PyData.eqv, PyData.eqvAll]
  simp [eqA, eqD, deref, h1, h2, h3]
def Rbl (b : List Pl) (s t : List Int) : Prop := ∃ m, WayP b [] s t m
end KH
end
noncomputable section
namespace KH
open PySem PySem.Spec PyProof.Rows L2 DL K17 K62
end KH
end
noncomputable section
namespace KH
open PySem PySem.Spec PyProof.Rows L2 DL K17 K62
structure World (b : List Pl) (R : List (List Int)) (es : List Oe) (rws : List (List Int × List Int)) : Prop where
  t : TskOk b R (es.map (·.1))
  r : ∀ e ∈ es, Rbl b e.1.1 e.1.2.1
  ru : RuleOk b R rws
  w : WaysOk b es
end KH
end
noncomputable section
namespace KH
open PySem PySem.Spec PyProof.Rows L2 DL K17 K62
def isiW (T : String) (p : W × Sto) : Option (W × Sto) := match p.1 with
  | .d d => (tyD d).map fun a => (.d (.bool (isiT a T)), p.2)
  | .loc _ => none
  | .fn => none
theorem Wp_isi {T : String} {A : ME} {ρ : DEnv} {S : Sto} {Φ : W × Sto → Prop} : Wp (mIsi T A ρ S) Φ = Wp (A ρ S) fun p => Wp (isiW T p) Φ := by unfold mIsi; rw [Wp_bind]; rfl
theorem isiW_ok {T : String} {d : PyData} {a : String} {q : Bool} {S : Sto} (h : tyD d = some a) (k : isiT a T = q) : isiW T (.d d, S) = some (.d (.bool q), S) := by
  simp only [isiW, h, Option.map_some, k]
def nxt (rws : List (List Int × List Int)) (x : List Int) : Option (List Int) := (rws.find? fun q => decide (q.1 = x)).map (·.2)
def hby (R : List (List Int)) (rws : List (List Int × List Int)) : Nat → List Int → Option (List Int)
  | 0, _ => none
  | n + 1, x => if x ∈ R then some x else match nxt rws x with
    | none => none
    | some y => hby R rws n y
def home (R : List (List Int)) (rws : List (List Int × List Int)) (x : List Int) : Option (List Int) := hby R rws (rws.length + 1) x
end KH
end
noncomputable section
namespace KH
open PySem PySem.Spec PyProof.Rows L2 DL K17 K62
/-- on the way home -/
structure HJv (R : List (List Int)) (rws : List (List Int × List Int)) (x : List Int) (seen : List (List Int)) (here : List Int) : Prop where
  nd : seen.Nodup
  sn : ∀ y ∈ seen, y ∈ rws.map (·.1) ∧ y ∉ R ∧ ∃ z, nxt rws y = some z ∧ (z ∈ seen ∨ z = here)
  hm : home R rws x = hby R rws (rws.length + 1 - seen.length) here
theorem HJv.len {R : List (List Int)} {rws : List (List Int × List Int)} {x here : List Int} {seen : List (List Int)} (h : HJv R rws x seen here) : seen.length ≤ rws.length := by
  have := List.Nodup.length_le_of_subset h.nd (fun y hy => (h.sn y hy).1)
  rwa [List.length_map] at this
end KH
end
noncomputable section
namespace KH
open PySem PySem.Spec PyProof.Rows L2 DL K17 K62
def inO (o : Option (List Int)) (E : List (List Int)) : Bool := match o with
  | some x => decide (x ∈ E)
  | none => false
def atW (way : List (List Int)) (i : Nat) : List Int := way[i]?.getD []
def brk (hm : List Int → Option (List Int)) (E way : List (List Int)) : List Nat := (List.range (way.length - 2)).filter fun i => !inO (hm (atW way (i + 1))) E
end KH
end
noncomputable section
namespace KH
open PySem PySem.Spec PyProof.Rows L2 DL K17 K62
end KH
end
noncomputable section
namespace KH
open PySem PySem.Spec PyProof.Rows L2 DL K17 K62
theorem q_al : KQ.f_l_alike = fAlike := rfl
end KH
end
noncomputable section
namespace DL
open PySem PySem.Spec PyProof.Rows L2
end DL
end
noncomputable section
namespace KH
open PySem PySem.Spec PyProof.Rows L2 DL K17 K62
def chK (g : W → W → Sto → Option (W × Sto)) (C : ME) (ρ : DEnv) (y : W) (Φ : W × Sto → Prop) : Bool × Sto → Prop := fun p => if p.1 = true then Wp (C ρ p.2) fun r => Wp (g y r.1 r.2) Φ else Φ (.d (.bool false), p.2)
theorem Wp_chain {f g : W → W → Sto → Option (W × Sto)} {A B C : ME} {ρ : DEnv} {S : Sto} {Φ : W × Sto → Prop} : Wp (vChain f g A B C ρ S) Φ = Wp (A ρ S) fun p => Wp (B ρ p.2) fun q => Wp (f p.1 q.1 q.2) fun z => Wp (toB z) (chK g C ρ q.1 Φ) := by
  unfold vChain
  rw [Wp_bind]; congr 1; funext p
  rw [Wp_bind]; congr 1; funext q
  rw [Wp_bind]; congr 1; funext z
  obtain ⟨w, S1⟩ := z
  rcases w with (_ | k | _ | _ | _ | _ | _) | _ | _ <;> first
    | (simp [toB, Wp]; done)
    | (cases k <;> simp [toB, Wp_some, chK, Wp_bind])
theorem chK_t {g : W → W → Sto → Option (W × Sto)} {C : ME} {ρ : DEnv} {y : W} {Φ : W × Sto → Prop} {S : Sto} : chK g C ρ y Φ (true, S) = Wp (C ρ S) fun r => Wp (g y r.1 r.2) Φ := rfl
theorem eq_str {x y : Str} {neg : Bool} {S : Sto} : eqA neg (.d (.str x)) (.d (.str y)) S = some (.d (.bool ((x == y) ^^ neg)), S) := rfl
end KH
end
noncomputable section
namespace DL
open PySem PySem.Spec PyProof.Rows L2
end DL
end
noncomputable section
namespace DL
open PySem PySem.Spec PyProof.Rows L2
end DL
end
noncomputable section
namespace DL
open PySem PySem.Spec PyProof.Rows L2
end DL
end
noncomputable section
namespace KH
open PySem PySem.Spec PyProof.Rows L2 DL K17 K62
def H5 : Nat := 2870177450012600261
end KH
end
noncomputable section
namespace KH
open PySem PySem.Spec PyProof.Rows L2 DL K17 K62
end KH
end
noncomputable section
namespace DL
open PySem PySem.Spec PyProof.Rows L2
section
variable {X : Cx} {pins : List (Addr × Obj)} {σ : L2.St} {H : Hp} {s : Shared} {τ : Tbs}
theorem lam_makeM {nm : Nat → Nat → Str} {c P : Addr} {params : Arguments} {body : Expr} {scope : Scope} {pos : Pos} {E : Value → Shared → Prop} {Q : Value → Shared → Prop} (I : Inv X pins σ H s) (TB : LamX.TabB X.base X.mg c P) (hcode : X.env.code = .ref c)
    (hm : (P, nm) ∈ τ.tabs) (hn : nm pos.line pos.col = X.env.qual ++ "<lambda>") (hu : ∀ p ∈ τ.tabs, p.1 = P → p.2 = nm) (hT : TabsM τ X.K H) (hdef : defaultsOf params X.env = ([], [])) (hfree : ∀ y ∈ scope.names, y.2 = .free → ∃ c, X.env.cells.lookup y.1 = some c)
    (h : ∀ (f c' : Addr) (pm ctv : Value) (oc : Obj) (H1 : Hp) (s' : Shared), Inv X pins σ H1 s' → Fr [] H H1 → TabsM τ X.K H1 →
      s'.heap.get? f = some (PySem.W.kla_obj "<lambda>" (X.env.qual ++ "<lambda>") params body scope (cloFrom X.env.cells scope.names []) pm c' ctv) → H1 f = none → f ∉ frs X.stack → H1 c' = some (.frz oc (LamX.CodeO c' (X.env.qual ++ "<lambda>"))) → Q (.ref f) s') :
    wpAny (model X.prog X.w) X.A (eval (.Lambda params body scope pos) X.env) Q E s := by
  obtain ⟨ps, hP, ht, ha⟩ := hT.tabs _ hm
  refine PySem.W.kla_eval hdef ?_
  have bP : s.heap.BuiltinsAt X.mg P := TB.bm.keeps I.bk
  have hP' : s.heap.get? P = some { cls := .none, data := .fields ps } := I.hok P _ hP
  have nofr : ∀ f, s.heap.objs.size ≤ f → f ∉ frs X.stack := fun f hf z => by
    rcases List.mem_cons.mp (I.stkSub _ z) with e | e
    · have h1 := I.lt
      rw [← e] at h1
      exact Nat.lt_irrefl _ (Nat.lt_of_lt_of_le h1 hf)
    · exact I.nofs hf e
  cases hc : codeAmong pos ps.toList with
  | none =>
    refine PySem.W.kla_makeFunction (mg := X.mg) (c := c) (P := P) (ps := ps) (closure_ok hfree) I.ok.glob (I.mod.glob.keeps I.bk) hcode (TB.code.keeps I.bk) hP' ht hc TB.gP bP fun c' ctv h' tk hx hge hlt hrec htb => ?_
    obtain ⟨c2, oc, vs, t, e2, hoc, hd, hv⟩ := hrec
    cases e2
    have hsz : s.heap.objs.size ≤ h'.objs.size := Nat.le_trans hge (Nat.le_of_lt hlt)
    have nC : H c' = none := I.hok.fresh hge
    have nPc : P ≠ c' := ne_of_none hP nC
    have I1 := LamX.inv_table (t' := tk) (more := #[rawInt pos.line, rawInt pos.col, .ref c']) (h' := h'.push (PySem.W.kla_obj "<lambda>" (X.env.qual ++ "<lambda>") params body scope (cloFrom X.env.cells scope.names []) ((X.mg "__name__").getD .none) c' ctv)) I hP
      (fun b o hb e => Heap.get?_push_of_some _ (hx b o hb e)) (Heap.get?_push_of_some _ htb) hge ⟨oc, vs, t, Heap.get?_push_of_some _ hoc, hd, hv⟩
    obtain ⟨od, I2⟩ := I1.lock upd_same trivial
    rw [upd_upd] at I2
    have hF : Fr [] H (upd (upd H P (.tbl (ps ++ #[rawInt pos.line, rawInt pos.col, .ref c']))) c' (.frz od (LamX.CodeO c' (X.env.qual ++ "<lambda>")))) := ⟨fun b o e _ n => by
      rw [upd_ne (ne_of_none e nC), upd_ne (fun z => n ps (Option.some.inj (e.symm.trans (by rw [z]; exact hP))))]
      exact e, fun b e => by
      by_cases z : b = c'
      · subst z; exact nC
      · rw [upd_ne z] at e
        by_cases z2 : b = P
        · subst z2; rw [upd_same] at e; cases e
        · rw [upd_ne z2] at e; exact e⟩
    have eL : (ps ++ #[rawInt pos.line, rawInt pos.col, .ref c']).toList = ps.toList ++ [rawInt pos.line, rawInt pos.col, .ref c'] := by simp
    have kp := hF.kp
    refine h h'.objs.size c' ((X.mg "__name__").getD .none) ctv od _ _ I2 hF ⟨fun p hp => ?_, fun p hp => (hT.codes p hp).elim fun o h => ⟨o, kp _ _ h trivial⟩, fun p hp => Rp.mono kp _ _ (hT.caps p hp)⟩ (Heap.get?_push_size _ rfl) ?_ (nofr _ hsz) upd_same
    · by_cases hb : p.1 = P
      · rw [hu p hp hb, hb]
        refine ⟨_, by rw [upd_ne nPc, upd_same], by rw [eL]; exact PySem.TriplesOk_snoc _ _ _ _ ht, fun p' cv hcv => ?_⟩
        rw [eL] at hcv
        rcases NdefX.among_app2 _ ht hcv with z | ⟨z, z1, z2⟩
        · obtain ⟨c0, o0, e1, e2⟩ := ha p' cv z
          exact ⟨c0, o0, e1, kp _ _ e2 trivial⟩
        · refine ⟨c', od, z, ?_⟩
          show _ = some (HO.frz od (LamX.CodeO c' (nm p'.line p'.col)))
          rw [← z1, ← z2, hn]
          exact upd_same
      · exact (hT.tabs p hp).kp kp fun ps' a1 => by rw [upd_ne (ne_of_none a1 nC), upd_ne hb]; exact a1
    · have n1 : h'.objs.size ≠ c' := Nat.ne_of_gt hlt
      have n2 : h'.objs.size ≠ P := Nat.ne_of_gt (Nat.lt_of_lt_of_le (Heap.lt_size hP') hsz)
      rw [upd_ne n1, upd_ne n2]
      exact I.hok.fresh hsz
  | some cv =>
    obtain ⟨c', oc, e, hco⟩ := ha pos cv hc
    subst e
    simp only [hn] at hco
    refine PySem.W.kla_makeFunctionHit (mg := X.mg) (c := c) (P := P) (ps := ps) (closure_ok hfree) I.ok.glob (I.mod.glob.keeps I.bk) hcode (TB.code.keeps I.bk) hP' ht hc bP fun ctv h' tk hx hsz => ?_
    have I1 : Inv X pins σ H { s with heap := h'.push (PySem.W.kla_obj "<lambda>" (X.env.qual ++ "<lambda>") params body scope (cloFrom X.env.cells scope.names []) ((X.mg "__name__").getD .none) c' ctv), toks := tk } := I.kept fun b o e => Heap.get?_push_of_some _ (hx b o e)
    exact h h'.objs.size c' ((X.mg "__name__").getD .none) ctv oc H _ I1 Fr.refl hT (Heap.get?_push_size _ rfl) (I.hok.fresh hsz) (nofr _ hsz) hco
end
end DL
end
noncomputable section
namespace DL
open PySem PySem.Spec PyProof.Rows L2
/-- what is tracked, and the frames -/
def marked (l : List Env) (H : Hp) : Hp := fun b => if b ∈ frs l then some (.tup []) else H b
def raised (l : List Env) (s : Shared) (H : Hp) : Heap := hidT s.heap (marked l H)
section
variable {X : Cx} {pins : List (Addr × Obj)} {σ : L2.St} {H : Hp} {s : Shared} {l : List Env} {b : Addr} {o : Obj}
theorem marked_none (h : marked l H b = none) : b ∉ frs l ∧ H b = none := by
  unfold marked at h
  split at h
  · cases h
  · exact ⟨by assumption, h⟩
theorem raised_get (e : s.heap.get? b = some o) (n : H b = none) (hf : b ∉ frs l) : (raised l s H).get? b = some o := hidT_get e (by unfold marked; rw [if_neg hf]; exact n)
theorem of_raised (e : (raised l s H).get? b = some o) : s.heap.get? b = some o ∧ H b = none ∧ b ∉ frs l := by
  obtain ⟨h1, h2⟩ := of_hidT e
  exact ⟨h1, (marked_none h2).2, (marked_none h2).1⟩
theorem raised_base (I : Inv X pins σ H s) (e : X.base.get? b = some o) : (raised X.stack s H).get? b = some o := by
  obtain ⟨h1, h2⟩ := I.bs b o e
  refine raised_get h1 h2 fun hb => ?_
  have := (I.stack.mem hb).1
  rw [e] at this; cases this
theorem raised_mod (I : Inv X pins σ H s) : Mod X.K X.mg (raised X.stack s H) := by
  have k : ∀ b o, X.base.get? b = some o → (raised X.stack s H).get? b = some o := fun b o e => raised_base I e
  obtain ⟨mb, h1, h2⟩ := I.mod.blt
  exact ⟨I.mod.kin.keeps k, I.mod.glob.keeps k, ⟨mb, h1.keeps k, h2⟩, I.mod.nolimit.keeps k⟩
theorem raised_env0 (I : Inv X pins σ H s) : Env0 X.prog X.w X.K X.mg (raised X.stack s H) X.A X.stack s H := by
  refine ⟨I.ok.frames, raised_mod I, fun b o e => ⟨(of_raised e).1, (of_raised e).2.1⟩, Nat.le_of_eq (hidT_size _ _), funFrames_none I.stack fun L hL => ?_, I.stkFree, I.hok, I.bare⟩
  cases e : (raised X.stack s H).get? L with
  | none => rfl
  | some o => exact absurd hL (of_raised e).2.2
end
end DL
end
noncomputable section
namespace DL
open PySem PySem.Spec PyProof.Rows L2
/-- the lambda's names: its parameter p, the captured ones -/
structure LamP (p : Str) (cl : List (Str × Addr)) (scope : Scope) : Prop where
  kind : scope.kind = .function
  co : scope.isCoroutine = false
  gen : scope.isGenerator = false
  noc : ∀ y ∈ scope.names, y.2 ≠ .cell
  par : scope.names.lookup p = some .local
  free : ∀ y, scope.names.lookup y = some .free → ∃ c, cl.lookup y = some c
abbrev lamEnvY (q : Str) (cl : List (Str × Addr)) (scope : Scope) (L f c' : Addr) : Env := PySem.W.envX q scope L f (.ref c') cl
/-- the context of the lambda's body, entered at s from Y -/
def lamCy (Y : Cx) (N : List Str) (q : Str) (cl : List (Str × Addr)) (s : Shared) (H : Hp) (scope : Scope) (f c' : Addr) : Cx where
  prog := Y.prog
  w := Y.w
  K := Y.K
  mg := Y.mg
  base := Y.base
  A := Y.A.deeper (lamEnvY q cl scope s.heap.objs.size f c')
  N := N
  s_0 := s
  H_0 := H
  env := lamEnvY q cl scope s.heap.objs.size f c'
  outer := Y.stack
  stack := lamEnvY q cl scope s.heap.objs.size f c' :: Y.stack
  ex := []
  fn := fun _ => false
  calm := true
  pn := []
  xe := fun _ _ => False
section
variable {Y : Cx} {H : Hp} {s : Shared}
theorem lam_startY {p q : Str} {cs : List Str} {cl : List (Str × Addr)} {cv : List (Option V)} {v : V} {u : Value} {scope : Scope} {f c' : Addr} {h₁ : Heap} {tk : Nat} (L : LamP p cl scope) (e0 : Env0 Y.prog Y.w Y.K Y.mg Y.base Y.A Y.stack s H) (hd : Y.A.handled = none)
    (inj : ∀ x y c, cl.lookup x = some c → cl.lookup y = some c → x = y) (hcell : ∀ y c, cl.lookup y = some c → ∃ w, Y.base.IsCell c w)
    (hl : cv.length = cs.length) (hcap : ∀ (i : Nat) (y : Str) (x : V), cs[i]? = some y → cv[i]? = some (some x) → scope.names.lookup y = some .free ∧ ∃ c u, cl.lookup y = some c ∧ Y.base.IsCell c (some u) ∧ RelV x u) (r : RelV v u)
    (hns : h₁.Ns s.heap.objs.size fun y => ([(p, u)] : List (Str × Value)).reverse.lookup y) (kp : ∀ b o, s.heap.get? b = some o → h₁.get? b = some o) :
    Inv (lamCy Y (p :: cs) q cl s H scope f c') [] (some v :: cv) H { s with heap := h₁, toks := tk } := by
  have cellK : ∀ {c : Addr} {w : Option Value}, Y.base.IsCell c w → h₁.IsCell c w := fun {c w} ⟨o, ho, hd⟩ => ⟨o, kp _ _ (e0.bs _ _ ho).1, hd⟩
  have cellN : ∀ {c : Addr} {w : Option Value}, Y.base.IsCell c w → H c = none := fun {c w} ⟨o, ho, hd⟩ => (e0.bs _ _ ho).2
  have noA : ∀ b : Addr, b ∉ (lamCy Y (p :: cs) q cl s H scope f c').ex := fun b z => absurd (show b ∈ ([] : List Addr) from z) (by simp)
  refine ⟨⟨e0.mod, L.kind, rfl, rfl, Nat.le_refl _, fun y z c e1 e2 => inj y z c e1 e2, fun y hy => ?_, fun y c z _ => ?_, fun _ => hd, Around.frames_deeper e0.frames, .inr ⟨rfl, rfl⟩, fun b z => absurd z (noA b), e0.bs, e0.bsz, fun b _ _ => noA b,
      fun b z => absurd z (noA b), e0.funs, e0.frf⟩,
    rfl, e0.bare, Un.kept kp, ⟨_, hns, fun i y x e1 e2 e3 => ?_⟩, fun y c e => ?_, e0.hok.fresh (Nat.le_refl _), fun y c e => ?_, fun q hq => absurd (show q ∈ ([] : List (Addr × Obj)) ++ [] from hq) (by simp), e0.hok.kept kp, by simp [lamCy, hl]⟩
  · have hy : scope.names.lookup y = some .cell ∨ scope.names.lookup y = some .free := hy
    rcases hy with hy | hy
    · exact absurd rfl (L.noc _ (PySem.mem_of_lookup hy))
    · exact L.free y hy
  · have z : false = true := z
    cases z
  · cases i with
    | zero =>
      have e1 : some p = some y := e1
      have e2 : some (some v) = some (some x) := e2
      cases e1
      cases e2
      exact ⟨u, r, .inl ⟨L.par, by simp⟩⟩
    | succ i =>
      have e1 : cs[i]? = some y := e1
      have e2 : cv[i]? = some (some x) := e2
      obtain ⟨h1, c, u', h2, h3, h4⟩ := hcap i y x e1 e2
      exact ⟨u', h4, .inr ⟨.inr h1, c, h2, cellK h3⟩⟩
  · obtain ⟨w, z⟩ := hcell y c e
    exact ⟨w, cellK z⟩
  · obtain ⟨w, z⟩ := hcell y c e
    exact cellN z
end
end DL
end
noncomputable section
namespace DL
open PySem PySem.Spec PyProof.Rows L2
/-- the call of slot i's function on A's value: g answers -/
def actX (g : PyData → Option PyData) (p : W × Sto) : Option (W × Sto) := match p.1 with
  | .d x => (g x).map fun y => (.d y, p.2)
  | _ => none
def actV (g : PyData → Option PyData) (A : ME) (ρ : DEnv) (S : Sto) : Option (Option W) → Option (W × Sto)
  | some (some .fn) => (A ρ S).bind (actX g)
  | _ => none
def mAct (g : PyData → Option PyData) (i : Nat) (A : ME) : ME := fun ρ S => actV g A ρ S ρ[i]?
/-- what a def that gets a lambda is told of it -/
def Act (τ : Tbs) (P : Program) (w : World) (K : PySem.W.Frag) (mg : Str → Option Value) (base : Heap) (k : Nat) (g : PyData → Option PyData) : Prop :=
  ∀ (Y : Cx) (a : Str) (i : Nat) (e : Expr) (A : ME) (p1 p2 : Pos), Y.prog = P → Y.w = w → Y.K = K → Y.mg = mg → Y.base = base → Room k Y.A → Y.A.guards = some [] →
    PE Y (.Name a p1) (rdE τ Y.K (mVar i)) → PE Y e (rdE τ Y.K A) → starEach [e] Y.env = (false, eval e Y.env) :: starEach [] Y.env →
    PE Y (.Call (.Name a p1) [e] [] p2) (rdE τ Y.K (mAct g i A))
theorem sim_lam {τ : Tbs} {K : PySem.W.Frag} {H : Hp} {v : V} {x : PyData} {xs : List V} {ds : List PyData} (tb : TabsM τ K H) (r : Rp K H v x) (hl : xs.length = ds.length) (hc : ∀ (j : Nat) (d : PyData), ds[j]? = some d → ∃ y, xs[j]? = some y ∧ (y, d) ∈ τ.caps) :
    Sim τ K [] [] (some (W.d x) :: ds.map fun d => some (W.d d)) (some v :: xs.map some) H := by
  refine ⟨fun i w e => ?_, rfl, List.nodup_nil, fun n ob h => by simp at h, by simp [hl], tb⟩
  cases i with
  | zero =>
    have e : some (some (W.d x)) = some (some w) := e
    cases e
    exact ⟨v, rfl, r⟩
  | succ j =>
    have e : (ds.map fun d => some (W.d d))[j]? = some (some w) := e
    rw [List.getElem?_map] at e
    obtain ⟨d, h1, h2⟩ := Option.map_eq_some_iff.mp e
    cases h2
    obtain ⟨y, h3, h4⟩ := hc j d h1
    refine ⟨y, ?_, tb.caps _ h4⟩
    show (xs.map some)[j]? = some (some y)
    rw [List.getElem?_map, h3]; rfl
theorem act_of {τ : Tbs} {P : Program} {w : World} {K : PySem.W.Frag} {mg : Str → Option Value} {base : Heap} {k : Nat} {g : PyData → Option PyData} {f c' : Addr} {pm ctv : Value} {q p : Str} {params : Arguments} {body : Expr} {scope : Scope} {cl : List (Str × Addr)} {cs : List Str} {xs : List V} {ds : List PyData} {F : ME}
    (hf : base.get? f = some (PySem.W.kla_obj "<lambda>" q params body scope cl pm c' ctv)) (hfn : τ.fn = some f) (hcode : (c', q) ∈ τ.codes) (L : LamP p cl scope) (inj : ∀ x y c, cl.lookup x = some c → cl.lookup y = some c → x = y) (hcell : ∀ y c, cl.lookup y = some c → ∃ w, base.IsCell c w)
    (hl : xs.length = cs.length) (hl2 : xs.length = ds.length) (hcap : ∀ (i : Nat) (y : Str) (x : V), cs[i]? = some y → xs[i]? = some x → scope.names.lookup y = some .free ∧ ∃ c u, cl.lookup y = some c ∧ base.IsCell c (some u) ∧ RelV x u) (hc : ∀ (j : Nat) (d : PyData), ds[j]? = some d → ∃ y, xs[j]? = some y ∧ (y, d) ∈ τ.caps)
    (hbind : ∀ u, bindArgs (PySem.W.kla_fn "<lambda>" q params body scope cl pm (.ref c') ctv) ⟨[u], []⟩ = pure [(p, u)])
    (hbody : ∀ (Y : Cx) (s : Shared) (H : Hp), Y.prog = P → Y.w = w → Y.K = K → Y.mg = mg → Y.base = base → Room k (lamCy Y (p :: cs) q cl s H scope f c').A → (lamCy Y (p :: cs) q cl s H scope f c').A.guards = some [] → PE (lamCy Y (p :: cs) q cl s H scope f c') body (rdE τ K F))
    (hg : ∀ x y, g x = some y → F (some (W.d x) :: ds.map fun d => some (W.d d)) [] = some (.d y, [])) : Act τ P w K mg base (k + 1) g := by
  intro Y a i e A p1 p2 eP ew eK em eb room hgd hn he hs
  subst eP ew eK em eb
  refine ⟨fun pins s σ H Q I h => ?_⟩
  obtain ⟨m, S, ρ, w', S', q0, e0, po⟩ := h
  unfold mAct at e0
  generalize hi : ρ[i]? = o at e0
  unfold actV at e0
  split at e0
  · obtain ⟨⟨wx, S1⟩, e1, e2⟩ := Option.bind_eq_some_iff.mp e0
    unfold actX at e2
    split at e2
    · rename_i x hx
      have hx : wx = .d x := hx
      subst hx
      obtain ⟨y, hy, e3⟩ := Option.map_eq_some_iff.mp e2
      cases e3
      refine wpAny_Call_Name_kw (thn (hn.run pins s σ H (fun v H1 => ∃ ext, Fresh ext H ∧ Sim τ Y.K (m ++ ext) S ρ σ H1 ∧ Fr m H H1 ∧ v = .ref f) I ⟨m, S, ρ, .fn, S, q0, by unfold mVar; rw [hi], fun ext H' v hf' q' fr' r => ⟨ext, hf', q', fr', ?_⟩⟩) fun u s1 ⟨v, H1, I1, r1, ext, hf1, q1, fr1, ev⟩ => ?_)
      · obtain ⟨f', h1, h2⟩ := r
        rw [hfn] at h1; cases h1
        exact h2
      subst ev
      obtain rfl : u = Value.ref f := r1
      have p1' := po.at hf1 q1 fr1
      refine PySem.W.callWith_F ⟨_, _, _, _, I1.bk _ _ hf⟩ (thn ((da_cons he da_nil hs).run p2 pins s1 σ H1 (fun vs H2 => ∃ ext2 v, vs = [v] ∧ Rp Y.K H2 v x ∧ Sim τ Y.K (m ++ ext ++ ext2) S1 ρ σ H2 ∧ Post τ Y.K (m ++ ext ++ ext2) S1 ρ σ H2 (.d y) Q) I1
        ⟨_, S, ρ, [.d x], S1, q1, by simp [mCons, mNil, e1], fun ext2 H2 vs hf2 q2 fr2 r2 => ?_⟩) fun us s2 ⟨vs, H2, I2, rv, ext2, v, ev, rx, q2, p2'⟩ => ⟨⟨_, _, _, _, I2.bk _ _ hf⟩, ?_⟩) hs rfl
      · cases r2 with
        | cons r2 t2 =>
          cases t2
          exact ⟨ext2, _, rfl, r2, q2, p1'.at hf2 q2 fr2⟩
      subst ev
      obtain ⟨u, rfl, ru⟩ := vals1 rv
      obtain ⟨oc, hco⟩ := q2.tb.codes _ hcode
      have rc : codeAny (model Y.prog Y.w) Y.A (.call (.ref f) ⟨[u], []⟩) (CR C8.CX0 Y.stack Y.prog Y.w H2 s2 Q C8.E0) s2 := by
        obtain ⟨hoc0, hcc⟩ := I2.hok c' _ hco
        obtain ⟨⟨ob, vs2, t2, h1, h2, h3⟩, _, _⟩ := hcc
        refine PySem.W.kla_callFunE room.depth (I2.bk _ _ hf) rfl L.co L.gen rfl ⟨c', ob, vs2, t2, rfl, h1, h2, h3⟩ ?_
        rw [hbind]
        refine wpAny_pure (wpAny_newFunctionEnv L.noc (fun y hy => by simp at hy; subst hy; exact L.par) (fun h₁ hns hsb => ⟨I2.nolimit.fresh _ hsb, ?_⟩) L.kind)
        show codeAny _ _ (.expr body (lamEnvY q cl scope s2.heap.objs.size f c')) _ _
        have kp : ∀ b o, s2.heap.get? b = some o → h₁.get? b = some o := fun b o e => hsb.extBut b o (Nat.ne_of_lt (Heap.lt_size e)) (Heap.get?_push_of_some _ e)
        have J : Inv (lamCy Y (p :: cs) q cl s2 H2 scope f c') [] (some v :: xs.map some) H2 { s2 with heap := h₁, toks := s2.toks + ([(p, u)] : List (Str × Value)).length } :=
          lam_startY L I2.env0 room.hd inj hcell (by rw [List.length_map, hl]) (fun i y x h1 h2 => by
            rw [List.getElem?_map] at h2
            obtain ⟨x', h3, h4⟩ := Option.map_eq_some_iff.mp h2
            cases h4
            exact hcap i y x h1 h3) ru hns kp
        refine PySem.W.kla_codeExpr (wpAny_mono ((hbody Y s2 H2 rfl rfl rfl rfl rfl (room.deeper _) hgd).run [] _ _ H2 Q J ⟨[], [], _, .d y, [], sim_lam q2.tb rx hl2 hc, hg x y hy, fun ext3 H3 v3 hf3 q3 fr3 r3 => ?_⟩) (fun v s' hq => ?_) fun e s' hq => hq.elim)
        · exact p2' [] H3 v3 (fun _ h => absurd h (by simp)) (by rw [List.append_nil]; exact q2.call fr3 q3.tb) fr3.wk r3
        · obtain ⟨w', H', J', rv, qq⟩ := hq
          exact ⟨w', H', J'.os, J'.bare, J'.base, J'.hok, rv, qq⟩
      refine wpAny_call (codeAny_mono rc fun r s' hq => ?_)
      cases r with
      | error e => exact False.elim hq
      | ok fl =>
        cases fl with
        | ret u => exact I2.after hq
        | next => exact False.elim hq
        | brk => exact False.elim hq
        | cont => exact False.elim hq
    · cases e2
  · cases e0
end DL
end
noncomputable section
namespace DL
open PySem PySem.Spec PyProof.Rows L2
section
variable {X : Cx} {pins : List (Addr × Obj)} {σ : L2.St} {H : Hp} {s : Shared}
/-- a cell made at the entry of the def stands in the raised base -/
theorem cell_raised {y : Str} {c : Addr} {v : Option Value} (I : Inv X pins σ H s) (hfn : X.fn y = true) (hc : X.env.cells.lookup y = some c) (hv : s.heap.IsCell c v) : (raised X.stack s H).IsCell c v := by
  obtain ⟨o, ho, hd⟩ := hv
  refine ⟨o, raised_get ho (I.freeC y c hc) fun hb => ?_, hd⟩
  rcases List.mem_cons.mp (I.stkSub c hb) with e | e
  · obtain ⟨m, ⟨o', es, ep, h1, h2, _⟩, _⟩ := I.loc
    rw [e] at ho
    rw [ho] at h1
    cases h1
    rw [hd] at h2
    cases h2
  · obtain ⟨_, o', h1, _⟩ := I.ok.funs.mem e
    exact Nat.lt_irrefl _ (Nat.lt_of_lt_of_le (Heap.lt_size h1) (I.ok.cab y c hfn hc))
/-- a captured name's value, in the raised base -/
theorem cap_raised {y : Str} {i : Nat} {x : V} (I : Inv X pins σ H s) (hfn : X.fn y = true) (hi : X.N[i]? = some y) (hs : σ[i]? = some (some x)) (hk : X.env.scope.names.lookup y = some .cell) : ∃ c u, X.env.cells.lookup y = some c ∧ (raised X.stack s H).IsCell c (some u) ∧ RelV x u := by
  obtain ⟨m, hn, hl⟩ := I.loc
  obtain ⟨u, r, q⟩ := hl i y x hi hs (.inr (.inl hk))
  rcases q with ⟨k', _⟩ | ⟨_, c, h1, h2⟩
  · rw [show X.env.kindOf y = some .cell from hk] at k'
    cases k'
  · exact ⟨c, u, h1, cell_raised I hfn h1 h2, r⟩
/-- any cell of the def, in the raised base -/
theorem cell_there {y : Str} {c : Addr} (I : Inv X pins σ H s) (hfn : X.fn y = true) (hc : X.env.cells.lookup y = some c) : ∃ w, (raised X.stack s H).IsCell c w := by
  obtain ⟨v, h⟩ := I.cell y c hc
  exact ⟨v, cell_raised I hfn hc h⟩
/-- the callee's tables, the caller's -/
def Tbs.lam (τ : Tbs) (c : Addr) (q : Str) (caps : List (V × PyData)) (f : Addr) : Tbs := ⟨τ.tabs, (c, q) :: τ.codes, caps ++ τ.caps, some f⟩
theorem TabsM.into {τ : Tbs} {K : PySem.W.Frag} {H : Hp} {c f : Addr} {q : Str} {caps : List (V × PyData)} {o : Obj} (t : TabsM τ K H) (h : H c = some (.frz o (LamX.CodeO c q))) (hc : ∀ p ∈ caps, Rp K H p.1 p.2) : TabsM (τ.lam c q caps f) K H :=
  ⟨t.tabs, fun p hp => by
    rcases List.mem_cons.mp hp with e | e
    · subst e; exact ⟨o, h⟩
    · exact t.codes p e, fun p hp => by
    rcases List.mem_append.mp hp with e | e
    · exact hc p e
    · exact t.caps p e⟩
theorem TabsM.back {τ : Tbs} {K : PySem.W.Frag} {H : Hp} {c f : Addr} {q : Str} {caps : List (V × PyData)} (t : TabsM (τ.lam c q caps f) K H) : TabsM τ K H :=
  ⟨t.tabs, fun p hp => t.codes p (List.mem_cons_of_mem _ hp), fun p hp => t.caps p (List.mem_append_right _ hp)⟩
/-- the call's meaning -/
def lamG (F : ME) (ds : List PyData) (x : PyData) : Option PyData := match F (some (W.d x) :: ds.map fun d => some (W.d d)) [] with
  | some (.d y, []) => some y
  | _ => none
theorem lamG_ok {F : ME} {ds : List PyData} {x y : PyData} (h : lamG F ds x = some y) : F (some (W.d x) :: ds.map fun d => some (W.d d)) [] = some (.d y, []) := by
  unfold lamG at h
  split at h
  · rename_i e; cases h; exact e
  · cases h
def capD (ρ : DEnv) : List Nat → Option (List PyData)
  | [] => some []
  | i :: is => match ρ[i]? with
    | some (some (.d d)) => (capD ρ is).map (d :: ·)
    | _ => none
def lamX (fs : (PyData → Option PyData) → FS) (F : ME) (ds : List PyData) (p : W × Sto) : Option (W × Sto) := match p.1 with
  | .d x => (fs (lamG F ds) [.d x, .fn] []).bind fun r => match r.1, r.2 with
    | .d y, [] => some (.d y, p.2)
    | _, _ => none
  | _ => none
def mLam (fs : (PyData → Option PyData) → FS) (F : ME) (caps : List Nat) (A : ME) : ME := fun ρ S => (A ρ S).bind fun p => (capD ρ caps).bind fun ds => lamX fs F ds p
/-- the captured slots hold data of the heap -/
theorem capD_of {τ : Tbs} {K : PySem.W.Frag} {m : List Addr} {S : Sto} {ρ : DEnv} (q : Sim τ K m S ρ σ H) : ∀ {caps : List Nat} {ds : List PyData}, capD ρ caps = some ds → ∃ xs : List V, xs.length = ds.length ∧ xs.length = caps.length ∧ (∀ (j i : Nat) (x : V), caps[j]? = some i → xs[j]? = some x → σ[i]? = some (some x)) ∧ ∀ p ∈ xs.zip ds, Rp K H p.1 p.2
  | [], _, e => by cases e; exact ⟨[], rfl, rfl, fun j i x h => by simp at h, fun p hp => by simp at hp⟩
  | i :: is, _, e => by
    simp only [capD] at e
    split at e
    · rename_i d hi
      obtain ⟨ds, e1, rfl⟩ := Option.map_eq_some_iff.mp e
      obtain ⟨xs, h1, h2, h3, h4⟩ := capD_of q e1
      obtain ⟨v, hv, r⟩ := q.slot i _ hi
      refine ⟨v :: xs, by simp [h1], by simp [h2], fun j k x hj hx => ?_, fun p hp => ?_⟩
      · cases j with
        | zero =>
          simp at hj hx
          subst hj; subst hx
          exact hv
        | succ j => exact h3 j k x (by simpa using hj) (by simpa using hx)
      · rw [List.zip_cons_cons] at hp
        rcases List.mem_cons.mp hp with z | z
        · subst z; exact r
        · exact h4 p z
    · cases e
end
end DL
end
noncomputable section
namespace DL
open PySem PySem.Spec PyProof.Rows L2
/-- the tables of the defs that make lambdas: code object, table, the lambdas' name -/
abbrev TL := List (Addr × Addr × Str)
structure Bs (tl : TL) (τ : Tbs) (K : PySem.W.Frag) (mg : Str → Option Value) (B : Heap) : Prop where
  kin : K.In B
  ns : B.Ns mainGlobals mg
  tb : ∀ p ∈ tl, LamX.TabB B mg p.1 p.2.1
  tt : τ.tabs = tl.map fun p => (p.2.1, fun _ _ => p.2.2)
  un : ∀ p ∈ tl, ∀ q ∈ tl, p.2.1 = q.2.1 → p.2.2 = q.2.2
theorem tabB_keeps {B B' : Heap} {mg : Str → Option Value} {c P : Addr} (t : LamX.TabB B mg c P) (k : ∀ b o, B.get? b = some o → B'.get? b = some o) : LamX.TabB B' mg c P := ⟨t.code.keeps k, t.bm.keeps k, t.gP⟩
theorem Bs.lam {tl : TL} {τ : Tbs} {X : Cx} {pins : List (Addr × Obj)} {σ : L2.St} {H : Hp} {s : Shared} {c g : Addr} {q : Str} {caps : List (V × PyData)} (b : Bs tl τ X.K X.mg X.base) (I : Inv X pins σ H s) : Bs tl (τ.lam c q caps g) X.K X.mg (raised X.stack s H) :=
  ⟨(raised_mod I).kin, (raised_mod I).glob, fun p hp => tabB_keeps (b.tb p hp) fun _ _ e => raised_base I e, b.tt, b.un⟩
/-- a def told of by name, for every base -/
def CalA (tl : TL) (P : Program) (w : World) (K : PySem.W.Frag) (mg : Str → Option Value) (x : Str) (k : Nat) (ps : List Str) (fs : FS) : Prop := ∀ {τ : Tbs} {base : Heap}, Bs tl τ K mg base → Cal τ P w K mg base x k ps fs
/-- a def that gets a lambda as its second argument -/
structure CalL (tl : TL) (P : Program) (w : World) (K : PySem.W.Frag) (mg : Str → Option Value) (x : Str) (ps : List Str) (fs : (PyData → Option PyData) → FS) : Prop where
  ex : ∃ (f : Addr) (fd : FuncData), (∀ {τ : Tbs} {base : Heap} (g : PyData → Option PyData) (j : Nat), Bs tl τ K mg base → Act τ P w K mg base j g → FnG P w K mg base (j + 1) f fd ps (spD τ K 2 (fs g))) ∧ mg x = some (.ref f) ∧ PySem.W.keepIn K (.ref f) = true ∧ Binds K fd ps []
theorem calL_mk {tl : TL} {P : Program} {w : World} {K : PySem.W.Frag} {mg : Str → Option Value} {x qual : Str} {ps : List Str} {fs : (PyData → Option PyData) → FS} {st : Stmt} {f : Addr} {fd : FuncData} (F : Fun K x qual st f fd) (hm : mg x = some (.ref f))
    (h : ∀ (kV doc pm : Value) (an : Option Addr) (cdv ct : Value) (us : List Value), us.length = ps.length → bindArgs (PySem.W.fnOf x qual (defArgs st) (defBody st) (defScope st) .none kV doc pm an cdv ct) ⟨us, []⟩ = pure (ps.zip us))
    (G : ∀ {τ : Tbs} {base : Heap} (g : PyData → Option PyData) (j : Nat), Bs tl τ K mg base → Act τ P w K mg base j g → FnG P w K mg base (j + 1) f fd ps (spD τ K 2 (fs g))) : CalL tl P w K mg x ps fs := ⟨f, fd, G, hm, F.kp, F.binds h⟩
/-- the context of a lambda's body, by its parts -/
def lamCz (P : Program) (w : World) (K : PySem.W.Frag) (mg : Str → Option Value) (B : Heap) (A : Around) (outer : List Env) (N : List Str) (q : Str) (cl : List (Str × Addr)) (s : Shared) (H : Hp) (scope : Scope) (f c' : Addr) : Cx where
  prog := P
  w := w
  K := K
  mg := mg
  base := B
  A := A.deeper (lamEnvY q cl scope s.heap.objs.size f c')
  N := N
  s_0 := s
  H_0 := H
  env := lamEnvY q cl scope s.heap.objs.size f c'
  outer := outer
  stack := lamEnvY q cl scope s.heap.objs.size f c' :: outer
  ex := []
  fn := fun _ => false
  calm := true
  pn := []
  xe := fun _ _ => False
/-- the lambda's scope, the def's scope, what is captured and where it stands -/
def lamPB (sc scope : Scope) (p : Str) (N cs : List Str) (caps : List Nat) : Bool :=
  decide (scope.kind = .function) && !scope.isCoroutine && !scope.isGenerator && decide (scope.names.lookup p = some .local) && scope.names.all (fun y => !decide (y.2 = .cell) && (!decide (y.2 = .free) || decide (sc.names.lookup y.1 = some .cell))) &&
    decide (caps.length = cs.length) && (caps.zip cs).all fun z => decide (N[z.1]? = some z.2) && decide (scope.names.lookup z.2 = some .free) && decide (sc.names.lookup z.2 = some .cell)
section
variable {X : Cx} {τ : Tbs} {tl : TL}
theorem cz_of {P : Program} {w : World} {K : PySem.W.Frag} {mg : Str → Option Value} {B : Heap} {Y : Cx} {N : List Str} {q : Str} {cl : List (Str × Addr)} {s : Shared} {H : Hp} {scope : Scope} {f c' : Addr} (h1 : Y.prog = P) (h2 : Y.w = w) (h3 : Y.K = K) (h4 : Y.mg = mg) (h5 : Y.base = B) : lamCy Y N q cl s H scope f c' = lamCz P w K mg B Y.A Y.stack N q cl s H scope f c' := by
  subst h1; subst h2; subst h3; subst h4; subst h5; rfl
theorem de_lamC {x p : Str} {sc : Scope} {c P : Addr} {q0 : Str} {ps : List Str} {j k : Nat} {fs : (PyData → Option PyData) → FS} {F A : ME} {N cs : List Str} {caps : List Nat} {e1 body : Expr} {params : Arguments} {scope : Scope} {lpos px pos : Pos}
    (C : CalL tl X.prog X.w X.K X.mg x ps fs) (bs : Bs tl τ X.K X.mg X.base) (hm : (c, P, q0) ∈ tl) (hcode : X.env.code = .ref c) (hq : q0 = X.env.qual ++ "<lambda>") (hN : X.N = N) (hfn : X.fn = fun _ => true)
    (room : Room k X.A) (hk : j + 2 ≤ k) (hgd : X.A.guards = some []) (hg : Gl X x) (hps : ps.length = 2) (hsc : X.env.scope = sc) (hL : lamPB sc scope p N cs caps = true) (hdef : defaultsOf params X.env = ([], [])) (ha : PE X e1 (rdE τ X.K A))
    (hbind : ∀ (q : Str) (cl : List (Str × Addr)) (pm cv ctv u : Value), bindArgs (PySem.W.kla_fn "<lambda>" q params body scope cl pm cv ctv) ⟨[u], []⟩ = pure [(p, u)])
    (hbody : ∀ (τ : Tbs) (B : Heap) (bs : Bs tl τ X.K X.mg B) (A : Around) (outer : List Env) (g c' : Addr) (s : Shared) (H : Hp) (cl : List (Str × Addr)) (hr : Room j (A.deeper (lamEnvY q0 cl scope s.heap.objs.size g c'))) (hg : (A.deeper (lamEnvY q0 cl scope s.heap.objs.size g c')).guards = some []), PE (lamCz X.prog X.w X.K X.mg B A outer (p :: cs) q0 cl s H scope g c') body (rdE τ X.K F))
    (hdb : (x == ("__debug__" : Str)) = false := by decide) (hst : starEach [e1, .Lambda params body scope lpos] X.env = (false, eval e1 X.env) :: (false, eval (.Lambda params body scope lpos) X.env) :: [] := by rfl) (hpl : (backTo pos (starEach [.Lambda params body scope lpos] X.env)).any (·.1) = false := by rfl)
    (hst1 : starEach [e1, .Lambda params body scope lpos] X.env = (false, eval e1 X.env) :: starEach [.Lambda params body scope lpos] X.env := by rfl) :
    PE X (.Call (.Name x px) [e1, .Lambda params body scope lpos] [] pos) (rdE τ X.K (mLam fs F caps A)) := by
  obtain ⟨f, fd, hF, hmx, hkp, hb⟩ := C.ex
  subst hN
  subst hsc
  unfold lamPB at hL
  simp only [Bool.and_eq_true, Bool.or_eq_true, Bool.not_eq_true', decide_eq_true_eq, decide_eq_false_iff_not, List.all_eq_true] at hL
  obtain ⟨⟨⟨⟨⟨⟨l1, l2⟩, l3⟩, l4⟩, l5⟩, l6⟩, l7⟩ := hL
  have hu : ∀ p ∈ τ.tabs, p.1 = P → p.2 = fun _ _ => q0 := fun p hp e => by
    rw [bs.tt] at hp
    obtain ⟨t, ht, rfl⟩ := List.mem_map.mp hp
    exact funext fun _ => funext fun _ => bs.un t ht (c, P, q0) hm e
  have hmT : (P, fun (_ _ : Nat) => q0) ∈ τ.tabs := by
    rw [bs.tt]; exact List.mem_map.mpr ⟨_, hm, rfl⟩
  have fr : ∀ y ∈ scope.names, y.2 = .free → X.env.scope.names.lookup y.1 = some .cell := fun y hy e => by
    rcases (l5 y hy).2 with z | z
    · exact absurd e z
    · exact z
  refine ⟨fun pins s σ H Q I h => ?_⟩
  have hfree : ∀ y ∈ scope.names, y.2 = .free → ∃ c, X.env.cells.lookup y.1 = some c := fun y hy e => I.ok.has _ (.inl (fr y hy e))
  have hallc : ∀ y c, (cloFrom X.env.cells scope.names []).lookup y = some c → X.env.cells.lookup y = some c := fun y c e => by
    rcases cloFrom_mem (PySem.mem_of_lookup e) with z | ⟨z1, z2⟩
    · cases z
    · obtain ⟨c1, hc⟩ := hfree _ z1 rfl
      have hc : X.env.cells.lookup y = some c1 := hc
      rw [z2, hc]; rfl
  have L : LamP p (cloFrom X.env.cells scope.names []) scope := ⟨l1, l2, l3, fun y hy => (l5 y hy).1, l4, fun y hl => mem_lookup (cloFrom_has (cells := X.env.cells) (acc := []) (PySem.mem_of_lookup hl))⟩
  have hcs : ∀ (n : Nat) (y : Str), cs[n]? = some y → ∃ i, caps[n]? = some i ∧ X.N[i]? = some y ∧ scope.names.lookup y = some .free ∧ X.env.scope.names.lookup y = some .cell := fun n y hy => by
    have hn : n < caps.length := by rw [l6]; exact (List.getElem?_eq_some_iff.mp hy).1
    have := l7 (caps[n], y) (List.mem_of_getElem? (i := n) (by rw [List.getElem?_zip_eq_some]; exact ⟨List.getElem?_eq_getElem hn, hy⟩))
    exact ⟨caps[n], List.getElem?_eq_getElem hn, this.1.1, this.1.2, this.2⟩
  obtain ⟨m, S, ρ, w', S', q0', e0, po⟩ := h
  obtain ⟨⟨wx, S1⟩, e2, e3⟩ := Option.bind_eq_some_iff.mp e0
  obtain ⟨ds, e4, e5⟩ := Option.bind_eq_some_iff.mp e3
  unfold lamX at e5
  split at e5
  · rename_i d hx
    have hx : wx = .d d := hx
    subst hx
    obtain ⟨⟨wr, Sr⟩, e6, e7⟩ := Option.bind_eq_some_iff.mp e5
    simp only at e7
    split at e7
    · rename_i y
      cases e7
      refine wpAny_Call_Name_kw (ld_glob I hg hmx ?_ hdb)
      refine PySem.W.callWith_K (h₀ := X.base) I.ok.mod.kin hkp ?_ hst1 hpl
      rw [hst]
      show wpAny _ _ (spliced ((false, eval e1 X.env) :: (false, eval (.Lambda params body scope lpos) X.env) :: [])) _ _ s
      refine Calls.spliced_cons (thn (ha.run pins s σ H (fun v H1 => ∃ ext, Rp X.K H1 v d ∧ Sim τ X.K (m ++ ext) S' ρ σ H1 ∧ Post τ X.K (m ++ ext) S' ρ σ H1 (.d y) Q) I ⟨m, S, ρ, .d d, S', q0', e2, fun ext H1 v hf q1 fr r => ⟨ext, r, q1, po.at hf q1 fr⟩⟩) fun u1 s1 ⟨v, H1, I1, r1, ext, rx, q1, p1⟩ => ?_)
      refine Calls.spliced_cons (lam_makeM (nm := fun _ _ => q0) I1 (bs.tb _ hm) hcode hmT hq hu q1.tb hdef hfree fun g c' pm ctv oc H2 s2 I2 fr2 tb2 hgf hgn hgr hco => ?_)
      rw [← hq] at hgf hco
      refine Calls.spliced_nil ⟨I2.kIn, ?_⟩
      have q2 : Sim τ X.K (m ++ ext) S' ρ σ H2 := q1.call fr2 tb2
      obtain ⟨xs, x1, x2, x3, x4⟩ := capD_of q2 e4
      have b2 : Bs tl (τ.lam c' q0 (xs.zip ds) g) X.K X.mg (raised X.stack s2 H2) := bs.lam I2
      have act : Act (τ.lam c' q0 (xs.zip ds) g) X.prog X.w X.K X.mg (raised X.stack s2 H2) (j + 1) (lamG F ds) := by
        refine act_of (cs := cs) (xs := xs) (ds := ds) (raised_get hgf hgn hgr) rfl (List.mem_cons_self ..) L (fun y z c h1 h2 => I2.ok.inj y z c (hallc _ _ h1) (hallc _ _ h2)) (fun y c h => cell_there I2 (by rw [hfn]) (hallc _ _ h)) (by rw [x2, l6]) x1 (fun i y x h1 h2 => ?_) (fun n d hd => ?_) (fun u => hbind _ _ _ _ _ u) (fun Y s H a b c d e r1 r2 => ?_) fun x y h => lamG_ok h
        · obtain ⟨i', h3, h4, h5, h6⟩ := hcs i y h1
          obtain ⟨c2, h7⟩ := L.free y h5
          obtain ⟨c3, u3, k1, k2, k3⟩ := cap_raised I2 (by rw [hfn]) h4 (x3 i i' x h3 h2) h6
          rw [hallc _ _ h7] at k1; cases k1
          exact ⟨h5, c2, u3, h7, k2, k3⟩
        · have hn' : n < xs.length := by
            rw [x1]; exact (List.getElem?_eq_some_iff.mp hd).1
          refine ⟨xs[n], List.getElem?_eq_getElem hn', List.mem_append_left _ ?_⟩
          refine List.mem_of_getElem? (i := n) ?_
          rw [List.getElem?_zip_eq_some]
          exact ⟨List.getElem?_eq_getElem hn', hd⟩
        · rw [cz_of a b c d e]
          exact hbody _ _ b2 Y.A Y.stack g c' s H _ r1 r2
      have G := (hF (lamG F ds) (j + 1) b2 act).up hk
      have want : spD (τ.lam c' q0 (xs.zip ds) g) X.K 2 (fs (lamG F ds)) [v, .ref g] H2 Q (fun _ _ _ => False) := by
        refine ⟨[], [], [.d d, .fn], _, _, ⟨fun i w h => by simp at h, rfl, by simp, fun n ob h => by simp at h, Nat.le_refl _, tb2.into hco x4⟩, .cons (Rp.mono fr2.kp _ _ rx) (.cons ⟨g, rfl, rfl⟩ .nil), rfl, e6, fun ext3 H3 v3 hf3 q3 fr3 r3 => ?_⟩
        exact p1 [] H3 v3 (fun _ h => absurd h (by simp)) (by rw [List.append_nil]; exact q2.call fr3 q3.tb.back) (fr2.wk.comp fr3.wk) r3
      have bb := hb s2 [u1, .ref g] I2.kIn (by rw [List.append_nil]; exact hps.symm)
      rw [List.append_nil] at bb
      refine wpAny_call (codeAny_mono (G.run X.A X.stack s2 H2 ⟨[u1, .ref g], []⟩ [u1, .ref g] [v, .ref g] Q _ room hgd (raised_env0 I2) bb (.cons r1 (.cons rfl .nil)) want) fun r s' hq => ?_)
      cases r with
      | error e => exact False.elim hq
      | ok fl =>
        cases fl with
        | ret u => exact I2.after hq
        | next => exact hq.elim
        | brk => exact hq.elim
        | cont => exact hq.elim
    · cases e7
  · cases e5
end
end DL
end
noncomputable section
namespace DL
open PySem PySem.Spec PyProof.Rows L2
end DL
end
noncomputable section
namespace DL
open PySem PySem.Spec PyProof.Rows L2
section
variable {P : Program} {w : World} {κ : Type} [DecidableEq κ]
/-- what a set asks of a kind of keys -/
structure SetK (kd : HeapKind P w κ) : Prop where
  st : kd.Stays
  cls : ∀ {A : Around} {E : Value → Shared → Prop} {s : Shared} {k : κ} {b : Addr} {Q : Bool → Shared → Prop}, kd.is s.heap k b → Q false s → wpAny (model P w) A (ofAClassStatement 8 (.ref b)) Q E s
  byv : ∀ {A : Around} {E : Value → Shared → Prop} {s : Shared} {k : κ} {b : Addr} {Q : Bool → Shared → Prop}, kd.is s.heap k b → Q true s → wpAny (model P w) A (hashByValue 8 (.ref b)) Q E s
variable {kd : HeapKind P w κ} {A : Around} {E : Value → Shared → Prop} {s : Shared}
def rowsG (kd : HeapKind P w κ) (L : List (Addr × κ)) : List (Int × Value) := L.map fun p => (kd.hash p.2, Value.ref p.1)
def hsG (kd : HeapKind P w κ) (L : List (Addr × κ)) : List Int := L.map fun p => kd.hash p.2
theorem rowsG_len (L : List (Addr × κ)) : (rowsG kd L).length = L.length := by simp [rowsG]
theorem hsG_len (L : List (Addr × κ)) : (hsG kd L).length = L.length := by simp [hsG]
structure SetG (kd : HeapKind P w κ) (h : Heap) (a : Addr) (L : List (Addr × κ)) (es : Array (Int × Value)) (ep : Nat) (t : SetTable) : Prop where
  ob : ∃ o, h.get? a = some o ∧ o.ExactSet ∧ o.data = .set es ep t
  rows : es.toList = rowsG kd L
  tab : TabOk t (hsG kd L)
  nd : (L.map (·.2)).Nodup
  tup : ∀ p ∈ L, kd.is h p.2 p.1
  plain : t.plain = true
  led : w.params.followText "set-order" = true ∨ t.led = true
  room : L.length * 5 < t.mask * 3
  few : L.length < 64
variable {a : Addr} {L : List (Addr × κ)} {es : Array (Int × Value)} {ep : Nat} {t : SetTable}
theorem rows_size (hr : es.toList = rowsG kd L) : es.size = L.length := by
  have h := congrArg List.length hr
  rwa [Array.length_toList, rowsG_len] at h
theorem SetG.fits (R : SetG kd s.heap a L es ep t) : t.fits es.size = true := by
  have h1 := R.tab.sz
  have h2 := rows_size R.rows
  have h3 := R.room
  rw [hsG_len] at h1
  unfold SetTable.fits SetTable.fill
  rw [R.tab.dm, Bool.and_eq_true, beq_iff_eq, decide_eq_true_eq]
  show t.place.size = es.size ∧ t.place.size + 0 ≤ t.mask
  omega
theorem SetK.same (sk : SetK kd) {h h' : Heap} {k : κ} {b : Addr} {o : Obj} (hb : kd.is h k b) (ho : h.get? a = some o) (hd : o.data = .set es ep t) (hs : Heap.SameBut a h h') : kd.is h' k b :=
  sk.st.stays (fun c u vs n hu hv => (hs.2 c fun z => by
    subst z
    rw [ho] at hu; cases hu
    rw [hd] at hv; cases hv).trans hu) hb
end
end DL
end
noncomputable section
namespace DL
open PySem PySem.Spec PyProof.Rows L2
section
variable {P : Program} {w : World} {κ : Type} [DecidableEq κ]
/-- what a set has got of the first i items -/
structure GotG (ks : List (Addr × κ)) (i : Nat) (L : List (Addr × κ)) : Prop where
  sub : ∀ p ∈ L, p ∈ ks.take i
  all : ∀ p ∈ ks.take i, p.2 ∈ L.map (·.2)
  len : L.length ≤ i
theorem GotG.add {ks L L' : List (Addr × κ)} {i : Nat} {x : Addr × κ} (g : GotG ks i L) (h : ks[i]? = some x) (c : (x.2 ∈ L.map (·.2) ∧ L' = L) ∨ L'.Perm (x :: L)) : GotG ks (i + 1) L' := by
  have ht : ks.take (i + 1) = ks.take i ++ [x] := take_next h
  rcases c with ⟨hm, rfl⟩ | pm
  · refine ⟨fun p hp => by rw [ht]; exact List.mem_append_left _ (g.sub p hp), fun p hp => ?_, Nat.le_succ_of_le g.len⟩
    rw [ht] at hp
    rcases List.mem_append.mp hp with z | z
    · exact g.all p z
    · rw [List.mem_singleton.mp z]; exact hm
  · refine ⟨fun p hp => ?_, fun p hp => ?_, by rw [pm.length_eq]; exact Nat.succ_le_succ g.len⟩
    · rw [ht]
      rcases List.mem_cons.mp (pm.mem_iff.mp hp) with e | z
      · rw [e]; simp
      · exact List.mem_append_left _ (g.sub p z)
    · rw [(pm.map (·.2)).mem_iff, List.map_cons]
      rw [ht] at hp
      rcases List.mem_append.mp hp with z | z
      · exact List.mem_cons_of_mem _ (g.all p z)
      · rw [List.mem_singleton.mp z]; exact List.mem_cons_self
variable {kd : HeapKind P w κ} {A : Around} {E : Value → Shared → Prop} {s : Shared}
theorem SetK.keep (sk : SetK kd) {h h' : Heap} {k : κ} {b : Addr} (x : kd.is h k b) (hk : ∀ c o, h.get? c = some o → h'.get? c = some o) : kd.is h' k b := sk.st.stays (fun c o _ _ ho _ => hk c o ho) x
theorem SetG.keep {h h' : Heap} {a : Addr} {L : List (Addr × κ)} {es : Array (Int × Value)} {ep : Nat} {t : SetTable} (R : SetG kd h a L es ep t) (ha : ∀ o, h.get? a = some o → h'.get? a = some o) (ht : ∀ p ∈ L, kd.is h' p.2 p.1) : SetG kd h' a L es ep t :=
  let ⟨o, ho, r⟩ := R.ob
  ⟨⟨o, ha o ho, r⟩, R.rows, R.tab, R.nd, ht, R.plain, R.led, R.room, R.few⟩
end
end DL
end
noncomputable section
namespace DL
open PySem PySem.Spec PyProof.Rows L2
end DL
end
noncomputable section
namespace DL
open PySem PySem.Spec PyProof.Rows L2
def ddN : List (List (List Int)) → List (List (List Int))
  | [] => []
  | x :: l => if x ∈ l then ddN l else x :: ddN l
theorem mem_ddN {x : List (List Int)} : ∀ {l : List (List (List Int))}, x ∈ ddN l ↔ x ∈ l
  | [] => Iff.rfl
  | y :: l => by
    unfold ddN
    split
    · rename_i h
      rw [mem_ddN (l := l), List.mem_cons]
      exact ⟨.inr, fun z => z.elim (fun e => e ▸ h) id⟩
    · rw [List.mem_cons, List.mem_cons, mem_ddN (l := l)]
theorem ddN_nodup : ∀ l : List (List (List Int)), (ddN l).Nodup
  | [] => List.nodup_nil
  | y :: l => by
    unfold ddN
    split
    · exact ddN_nodup l
    · rename_i h
      exact List.nodup_cons.mpr ⟨fun z => h (mem_ddN.mp z), ddN_nodup l⟩
structure SetOkN (H : Hp) (L : List (Addr × List (List Int))) (ks : List (List (List Int))) : Prop where
  tup : ∀ p ∈ L, NkAt H p.2 p.1
  nd : (L.map (·.2)).Nodup
  iff : ∀ k, k ∈ L.map (·.2) ↔ k ∈ ks
  len : L.length ≤ ks.length
theorem SetOkN.mono {H H' : Hp} {L : List (Addr × List (List Int))} {ks : List (List (List Int))} (x : SetOkN H L ks) (k : Kp H H') : SetOkN H' L ks := ⟨fun p hp => (x.tup p hp).mono k, x.nd, x.iff, x.len⟩
theorem SetOkN.perm {H : Hp} {L : List (Addr × List (List Int))} {ks : List (List (List Int))} (x : SetOkN H L ks) : (L.map (·.2)).Perm (ddN ks) := (List.perm_ext_iff_of_nodup x.nd (ddN_nodup ks)).mpr fun k => by rw [x.iff, mem_ddN]
end DL
end
noncomputable section
namespace DL
open PySem PySem.Spec PyProof.Rows L2
end DL
end
noncomputable section
namespace DL
open PySem PySem.Spec PyProof.Rows L2
/-- a def whose code object is known -/
structure FunC (K : PySem.W.Frag) (x qual : Str) (st : Stmt) (f : Addr) (fd : FuncData) (c : Addr) : Prop where
  ex : ∃ (oc : Value) (od : Option Addr) (kV doc pm : Value) (an : Option Addr) (ct : Value) (osl : Array (Option Value)),
    fd = PySem.W.fnOf x qual (defArgs st) (defBody st) (defScope st) .none kV doc pm an (.ref c) ct ∧ K.lookup f = some ⟨oc, od, .func fd, osl⟩ ∧ PySem.W.codeIn K (.ref c) qual = true
  kp : PySem.W.keepIn K (.ref f) = true
theorem funC_mk {K : PySem.W.Frag} {x qual : Str} {st : Stmt} {f c : Addr} {kV doc pm ct oc : Value} {an od : Option Addr} {osl : Array (Option Value)} (lk : K.lookup f = some ⟨oc, od, .func (PySem.W.fnOf x qual (defArgs st) (defBody st) (defScope st) .none kV doc pm an (.ref c) ct), osl⟩) (hcd : PySem.W.codeIn K (.ref c) qual = true) (kp : PySem.W.keepIn K (.ref f) = true) :
    FunC K x qual st f (PySem.W.fnOf x qual (defArgs st) (defBody st) (defScope st) .none kV doc pm an (.ref c) ct) c := ⟨⟨oc, od, kV, doc, pm, an, ct, osl, rfl, lk, hcd⟩, kp⟩
theorem fnGC {τ : Tbs} {P : Program} {w : World} {K : PySem.W.Frag} {mg : Str → Option Value} {base : Heap} {x qual : Str} {st : Stmt} {f c : Addr} {fd : FuncData} {N ps : List Str} {k : Nat} {b : MS} (F : FunC K x qual st f fd c) (sc : FnScope N ps (defScope st))
    (body : ∀ (A : Around) (outer : List Env) (s : Shared) (H : Hp) (E : XK), Room k (A.deeper (envOfC qual (defScope st) s.heap.objs.size f (.ref c))) → (A.deeper (envOfC qual (defScope st) s.heap.objs.size f (.ref c))).guards = some [] →
      PSs (cxOf CX0 P w K mg base N qual (defScope st) f (.ref c) A outer s H E).nox (defBody st) (rdS τ K b)) : FnG P w K mg base (k + 1) f fd ps (spD τ K ps.length (runF N.length b)) := by
  obtain ⟨oc, od, kV, doc, pm, an, ct, osl, e, lk, hcd⟩ := F.ex
  subst e
  exact fnGcd lk hcd sc body
theorem TabM.empty {H : Hp} {P : Addr} {nm : Nat → Nat → Str} (h : H P = some (.tbl #[])) : TabM H P nm := ⟨#[], h, True.intro, fun pos cv hc => by
  have z : codeAmong pos [] = some cv := hc
  simp [codeAmong] at z⟩
def TL.tbs (tl : TL) : Tbs := ⟨tl.map fun p => (p.2.1, fun _ _ => p.2.2), [], [], none⟩
def EmptyT (h : Heap) (P : Addr) : Prop := h.get? P = some { cls := .none, data := .fields #[] }
theorem lawT {P : Program} {w : World} {K : PySem.W.Frag} {mg mb : Str → Option Value} {k : Nat} {fa a : Addr} {fd : FuncData} {x : Str} {f : FS} {s₁ : Shared} {vs : List Value} {ns : List Int} {tl : TL}
    (inK : K.In s₁.heap) (gl : s₁.heap.Ns mainGlobals mg) (bl : s₁.heap.Ns builtinsNs mb) (bb : ∀ x : Str, x ≠ "__name__" → mb x = bootBuiltins x) (nl : s₁.heap.NoLimit) (ng : s₁.gens = #[])
    (hT : ∀ p ∈ tl, EmptyT s₁.heap p.2.1) (nT : ∀ p ∈ tl, K.lookup p.2.1 = none) (C : ∀ p ∈ tl, PySem.W.CodeHd s₁.heap p.1 p.2.1) (un : ∀ p ∈ tl, ∀ q ∈ tl, p.2.1 = q.2.1 → p.2.2 = q.2.2)
    (hbm : ∃ (bm : Addr) (ob : Obj), mg "__builtins__" = some (.ref bm) ∧ bm ≠ builtinsNs ∧ s₁.heap.get? bm = some ob ∧ ob.cls = .type "module" ∧ ob.dict = some builtinsNs ∧ ob.data = .plain)
    (obj : s₁.heap.get? a = some { cls := .type "list", data := .seq vs.toArray }) (hi : IntsAre vs ns) (few : ns.length ≤ sizeLine) (room : Room k callerA)
    (F : ∀ {τ : Tbs} {base : Heap}, Bs tl τ K mg base → FnG P w K mg base k fa fd [x] (spD τ K 1 f)) (bind : ∀ (s : Shared) (u : Value), BindsTo s fd ⟨[u], []⟩ [(x, u)])
    (hf : f [.d (.list (ns.map .int))] [] = some (.d (.bool true), [])) :
    codeAny (model P w) callerA (.call (.ref fa) ⟨[.ref a], []⟩) (fun r s' => r = .ok (.ret (.bool true)) ∧ OldK s₁.heap s'.heap ∧ s'.os = s₁.os ∧ AllBare s'.gens) s₁ := by
  have rel := vals_ints hi
  have len := hi.length
  -- the tables' addresses
  obtain ⟨ts, hts⟩ : ∃ ts : List Addr, ts = tl.map (·.2.1) := ⟨_, rfl⟩
  have tin : ∀ p ∈ tl, p.2.1 ∈ ts := fun p hp => by rw [hts]; exact List.mem_map_of_mem (f := fun z : Addr × Addr × Str => z.2.1) hp
  have tab : ∀ b ∈ ts, EmptyT s₁.heap b := fun b hb => by
    rw [hts] at hb
    obtain ⟨p, hp, rfl⟩ := List.mem_map.mp hb
    exact hT p hp
  have tabK : ∀ b ∈ ts, K.lookup b = none := fun b hb => by
    rw [hts] at hb
    obtain ⟨p, hp, rfl⟩ := List.mem_map.mp hb
    exact nT p hp
  have aT : a ∉ ts := fun z => by
    have := tab a z
    unfold EmptyT at this
    rw [obj] at this
    cases this
  let HT : Hp := fun b => if b ∈ ts then some (.tbl #[]) else none
  have HTin : ∀ b ∈ ts, HT b = some (.tbl #[]) := fun b hb => if_pos hb
  have HTout : ∀ b, b ∉ ts → HT b = none := fun b hb => if_neg hb
  suffices main : ∀ H : Hp, (∀ b ∈ ts, H b = some (.tbl #[])) → (∀ b, b ∉ ts → H b = none ∨ (b = a ∧ K.lookup a = none ∧ ∃ o xs, H b = some (.frz o (.lst xs)))) → FzL K H a (ns.map V.int) → HOk P w H s₁.heap →
      codeAny (model P w) callerA (.call (.ref fa) ⟨[.ref a], []⟩) (fun r s' => r = .ok (.ret (.bool true)) ∧ OldK s₁.heap s'.heap ∧ s'.os = s₁.os ∧ AllBare s'.gens) s₁ by
    have okT : ∀ b u, HT b = some u → s₁.heap.get? b = some { cls := .none, data := .fields #[] } ∧ u = .tbl #[] := fun b u z => by
      by_cases c : b ∈ ts
      · rw [HTin b c] at z; cases z; exact ⟨tab b c, rfl⟩
      · rw [HTout b c] at z; cases z
    cases lk : K.lookup a with
    | some o =>
      have e := inK a o lk
      rw [obj] at e
      cases e
      refine main HT HTin (fun b hb => .inl (HTout b hb)) (.inr ⟨.inr ⟨_, vs.toArray, _, lk, rfl, rfl, rfl, ?_, by simpa using rel⟩, fun x hx => by
        obtain ⟨i, _, rfl⟩ := List.mem_map.mp hx
        exact ⟨i, rfl⟩⟩) fun b u z => ?_
      · rw [List.size_toArray, len]; exact few
      · obtain ⟨h1, rfl⟩ := okT b u z
        exact h1
    | none =>
      refine main (upd HT a (.frz { cls := .type "list", data := .seq vs.toArray } (.lst (ns.map V.int)))) (fun b hb => by rw [upd_ne (fun z => by subst z; exact aT hb)]; exact HTin b hb) (fun b hb => ?_) (.inl ⟨_, upd_same⟩) fun b u z => ?_
      · by_cases c : b = a
        · exact .inr ⟨c, lk, _, _, by rw [c]; exact upd_same⟩
        · exact .inl (by rw [upd_ne c]; exact HTout b hb)
      · by_cases c : b = a
        · subst c
          rw [upd_same] at z
          cases z
          exact ⟨obj, by rw [List.length_map]; exact few, vs, _, rel, obj⟩
        · rw [upd_ne c] at z
          obtain ⟨h1, rfl⟩ := okT b u z
          exact h1
  intro H inT only isL hok
  have plain : ∀ {b : Addr} {o : Obj}, s₁.heap.get? b = some o → o.data ≠ .fields #[] → (∀ vs n, o.data ≠ .seq vs n) → H b = none := by
    intro b o e d1 d2
    have hb : b ∉ ts := fun z => by
      have := tab b z
      unfold EmptyT at this
      rw [this] at e
      cases e
      exact d1 rfl
    rcases only b hb with z | ⟨rfl, _⟩
    · exact z
    · rw [obj] at e
      cases e
      exact absurd rfl (d2 _ _)
  have nsH : ∀ {b : Addr} {m : Str → Option Value}, s₁.heap.Ns b m → (hidT s₁.heap H).Ns b m := by
    rintro b m ⟨o, es, ep, e, d, r⟩
    exact ⟨o, es, ep, hidT_get e (plain e (by rw [d]; intro z; cases z) (fun _ _ => by rw [d]; intro z; cases z)), d, r⟩
  have inB : K.In (hidT s₁.heap H) := by
    intro b o e
    refine hidT_get (inK b o e) ?_
    have hb : b ∉ ts := fun z => by rw [tabK b z] at e; cases e
    rcases only b hb with z | ⟨rfl, z, _⟩
    · exact z
    · rw [z] at e; cases e
  have md : Mod K mg (hidT s₁.heap H) := by
    obtain ⟨mc, c1, c2⟩ := nl
    exact ⟨inB, nsH gl, ⟨mb, nsH bl, bb⟩, ⟨mc, nsH c1, c2⟩⟩
  have e0 : Env0 P w K mg (hidT s₁.heap H) callerA [] s₁ H := by
    refine ⟨rfl, md, fun b o e => of_hidT e, Nat.le_of_eq (hidT_size _ _), trivial, ?_, hok, .of_eq ng⟩
    intro b hb
    simp [frs] at hb
  have tbB : ∀ p ∈ tl, LamX.TabB (hidT s₁.heap H) mg p.1 p.2.1 := fun p hp => by
    have tp := hT p hp
    unfold EmptyT at tp
    have noG : mainGlobals ≠ p.2.1 := fun z => by
      obtain ⟨o, es, ep, e, d, _⟩ := gl
      rw [z, tp] at e
      cases e
      cases d
    refine ⟨?_, ?_, noG⟩
    · obtain ⟨o, us, h1, h2, h3, h4, h5, h6, h7, e, r1, r2, r3, rest⟩ := C p hp
      have z : H p.1 = none := plain e (fun z => by rw [r2] at z; cases z; simp at r3) fun _ _ z => by rw [r2] at z; cases z
      exact ⟨o, us, h1, h2, h3, h4, h5, h6, h7, hidT_get e z, r1, r2, r3, rest⟩
    · obtain ⟨bm, ob, b1, b2, b3, b4, b5, b6⟩ := hbm
      have z : H bm = none := plain b3 (fun z => by rw [b6] at z; cases z) fun _ _ z => by rw [b6] at z; cases z
      have n1 : bm ≠ mainGlobals := fun z => by
        obtain ⟨o, es, ep, e, d, _⟩ := gl
        rw [z] at b3
        cases b3.symm.trans e
        rw [d] at b6; cases b6
      have n2 : bm ≠ p.2.1 := fun z => by
        rw [z] at b3
        cases b3.symm.trans tp
        cases b6
      exact ⟨bm, ob, b1, b2, n1, n2, hidT_get b3 z, b4, b5, b6⟩
  have bsB : Bs tl tl.tbs K mg (hidT s₁.heap H) := ⟨inB, nsH gl, tbB, rfl, un⟩
  have tb0 : TabsM tl.tbs K H := ⟨fun p hp => by
    obtain ⟨q, hq, rfl⟩ := List.mem_map.mp hp
    exact TabM.empty (inT _ (tin q hq)), fun p hp => (by cases hp), fun p hp => (by cases hp)⟩
  have want : spD tl.tbs K 1 f [.ref a] H (fun v _ => v = .bl true) fun _ _ _ => False := by
    refine ⟨[], [], [.d (.list (ns.map .int))], _, _, ⟨fun i w h => by simp at h, rfl, by simp, fun n ob h => by simp at h, Nat.le_refl _, tb0⟩, .cons ?_ .nil, rfl, hf, fun ext H' v _ _ _ r => rp_bl r⟩
    refine Rp.lst isL ?_
    clear hf len rel hi few isL
    induction ns with
    | nil => exact .nil
    | cons n ns ih => exact .cons (.int n) ih
  refine codeAny_mono ((F bsB).run callerA [] s₁ H ⟨[.ref a], []⟩ [.ref a] [.ref a] _ _ room rfl e0 (bind s₁ (.ref a)) (.cons rfl .nil) want) fun r s' h => ?_
  cases r with
  | error e => exact False.elim h
  | ok fl =>
    cases fl with
    | next => exact False.elim h
    | brk => exact False.elim h
    | cont => exact False.elim h
    | ret u =>
      obtain ⟨v, H', os, bare, ulm, hok', rv, q⟩ := h
      obtain rfl : v = .bl true := q
      obtain rfl : u = Value.bool true := rv
      have still : ∀ b o, b ∉ ts → s₁.heap.get? b = some o → s'.heap.get? b = some o := fun b o hb e => by
        rcases only b hb with z | ⟨_, _, ob, xs, z⟩
        · exact ulm.keep b o e z (by simp [frs]) (by simp)
        · have z2 := ulm.frzs b ob _ z
          obtain ⟨e1, _⟩ := hok b _ z
          obtain ⟨e2, _⟩ := hok' b _ z2
          rw [e] at e1
          cases e1
          exact e2
      have more : ∀ p ∈ tl, ∃ us : Array Value, s'.heap.get? p.2.1 = some { cls := .none, data := .fields us } := fun p hp => by
        obtain ⟨us, z⟩ := ulm.tbls p.2.1 #[] (inT _ (tin p hp))
        exact ⟨_, hok' _ _ z⟩
      refine ⟨rfl, ⟨fun b o e => ?_, fun b o e => ?_⟩, os, bare⟩
      · by_cases hb : b ∈ ts
        · rw [hts] at hb
          obtain ⟨p, hp, rfl⟩ := List.mem_map.mp hb
          obtain ⟨us, hus⟩ := more p hp
          have tp := hT p hp
          unfold EmptyT at tp
          rw [tp] at e
          cases e
          exact .inr (.inl ⟨((C p hp).tab tp).isCodeTable, rfl, #[], us, rfl, by rw [Array.empty_append]; exact hus⟩)
        · exact .inl (still b o hb e)
      · by_cases hb : b ∈ ts
        · rw [hts] at hb
          obtain ⟨p, hp, rfl⟩ := List.mem_map.mp hb
          obtain ⟨us, hus⟩ := more p hp
          exact ⟨_, hus⟩
        · exact ⟨o, still b o hb e⟩
/-- the tables are no part of what is written -/
theorem no_tab {K : PySem.W.Frag} {h : Heap} {P : Addr} (X : K.In h) (nt : PySem.W.noTabs K = true) (e : EmptyT h P) : K.lookup P = none := by
  cases z : K.lookup P with
  | none => rfl
  | some o =>
    have e1 := X P o z
    unfold EmptyT at e
    rw [e] at e1
    cases e1
    have := List.all_eq_true.mp nt _ (PySem.W.mem_of_lookupK z)
    simp at this
/-- what k_head leaves, from the law's function of data; ts: the tables -/
theorem walkT {l : PySem.W.OpenLaw} {n k : Nat} {q : Program} {loose : List Str} {XP : (Str → Option Value) → Heap → Prop} {YP : World → Heap → Prop} {d : DefRec} {K : Params → PySem.W.Frag} {f : FS} {x : Str} {ts : List Addr}
    (hn : l.most = some n) (hn2 : n ≤ sizeLine) (hdf : d.params.defaults = []) (room : Room k callerA)
    (hY : ∀ (w : World) (h : Heap), YP w h → (K w.params).In h ∧ ∀ P ∈ ts, h.get? P = some (PySem.W.tabObj #[]))
    (F : ∀ (w : World) (mg : Str → Option Value) (fa : Addr) (h : Heap), (K w.params).In h → h.Ns mainGlobals mg → mg d.name = some (.ref fa) →
      ∃ (fd : FuncData) (tl : TL), (∀ (s : Shared) (u : Value), BindsTo s fd ⟨[u], []⟩ [(x, u)]) ∧ (∀ p ∈ tl, p.2.1 ∈ ts ∧ PySem.W.codeHdIn (K w.params) p.1 p.2.1 = true) ∧ PySem.W.noTabs (K w.params) = true ∧ (∀ p ∈ tl, ∀ q ∈ tl, p.2.1 = q.2.1 → p.2.2 = q.2.2) ∧
        ∀ {τ : Tbs} {base : Heap}, Bs tl τ (K w.params) mg base → FnG l.prog w (K w.params) mg base k fa fd [x] (spD τ (K w.params) 1 f))
    (hf : ∀ ns : List Int, ns.length ≤ n → f [.d (.list (ns.map .int))] [] = some (.d (.bool true), [])) :
    PySem.W.WalkO q loose XP YP l.row.toRowW d [] (fun f vs => PySem.call f vs) := by
  refine Att.attach_call hn hdf fun w s₀ s₁ mg mb fa o pm cd doc a vs ns G Y ho hd hcd hmg obj isI hlen hg => ?_
  obtain ⟨inK, hE⟩ := hY w _ Y
  obtain ⟨fd, tl, hb, h1, h2, h3, hF⟩ := F w mg fa _ inK G.T.g hmg
  exact lawT (tl := tl) inK G.T.g G.T.b G.T.builtins G.T.nolimit hg (fun p hp => hE _ (h1 p hp).1) (fun p hp => no_tab inK h2 (hE _ (h1 p hp).1)) (fun p hp => PySem.W.codeHd_of_K inK (h1 p hp).2) h3 G.T.bmain obj isI (Nat.le_trans hlen hn2) room hF hb (hf ns hlen)
theorem tl_un : ∀ {tl : TL}, (tl.map (·.2.1)).Nodup → ∀ p ∈ tl, ∀ q ∈ tl, p.2.1 = q.2.1 → p.2.2 = q.2.2
  | [], _, p, hp, _, _, _ => absurd hp (by simp)
  | t :: tl, nd, p, hp, q, hq, e => by
    rw [List.map_cons, List.nodup_cons] at nd
    rcases List.mem_cons.mp hp with rfl | h1 <;> rcases List.mem_cons.mp hq with rfl | h2
    · rfl
    · exact absurd (List.mem_map.mpr ⟨q, h2, e.symm⟩) nd.1
    · exact absurd (List.mem_map.mpr ⟨p, h1, e⟩) nd.1
    · exact tl_un nd.2 p h1 q h2 e
end DL
end
noncomputable section
namespace DL
open PySem PySem.Spec PyProof.Rows L2
end DL
end
noncomputable section
namespace DL
open PySem PySem.Spec PyProof.Rows L2
end DL
end
noncomputable section
namespace DL
open PySem PySem.Spec PyProof.Rows L2
theorem rdE.imp {K : PySem.W.Frag} {A : ME} {σ : L2.St} {H : Hp} {Q Q' : VK} (q : rdE τ K A σ H Q) (h : ∀ v H, Q v H → Q' v H) : rdE τ K A σ H Q' := by
  obtain ⟨m, S, ρ, w, S', q, e, p⟩ := q
  exact ⟨m, S, ρ, w, S', q, e, fun ext H' v f q fr r => h _ _ (p ext H' v f q fr r)⟩
end DL
end
noncomputable section
namespace DL
open PySem PySem.Spec PyProof.Rows L2
end DL
end
noncomputable section
namespace KJ
open PySem PySem.Spec PyProof.Rows L2 DL
def b_is_integer : MS := sRet (vAndT (mIsi "int" (mVar 0)) (vNot (mIsi "bool" (mVar 0))))
def f_is_integer : FS := runF 1 b_is_integer
def b_is_ascending (g : PyData → Option PyData) : MS := sSeq (sIf (tOrD (tNotD (tTru (mIsi "tuple" (mVar 0)))) (tNotD (tTru (mCall allDD (mCons (mLc (iSeqK (mVar 0)) (gSet 2) (tTrue) (mAct g 1 (mVar 2)) [2] kFrz) (mNil)))))) (sRet (mC (.bool false))) (sNil))
    (sRet (mCall allDD (mCons (mLc (iZipD (mCons (mVar 0) (mCons (mSl (mVar 0) (oYes (mC (.int 1))) (oNo)) (mNil)))) (gTupD 2 (gsCons (gSet 2) (gsCons (gSet 3) (gsNil)))) (tTrue) (mBin ltX (mVar 2) (mVar 3)) [2, 3] kFrz) (mNil))))
def f_is_ascending (g : PyData → Option PyData) : FS := runF 4 (b_is_ascending g)
def b_is_move : MS := sSeq (sIf (tOrD (tNotD (tTru (mIsi "tuple" (mVar 1)))) (tOrD (tOf (mBin (eqA true) (mCall lenX (mCons (mVar 1) (mNil))) (mC (.int 2)))) (tNotD (tTru (mCall allDD (mCons (mLc (iSeqK (mVar 1)) (gSet 2) (tTrue) (mCall (callF f_is_integer) (mCons (mVar 2) (mNil))) [2] kFrz) (mNil))))))) (sRet (mC (.bool false))) (sNil))
    (sRet (vAnd (mBin (eqA true) (mBin ixY (mVar 1) (mC (.int 0))) (mBin ixY (mVar 1) (mC (.int 1)))) (mCall allDD (mCons (mLc (iSeqK (mVar 1)) (gSet 2) (tTrue) (vChain leD ltD (mC (.int 0)) (mVar 2) (mVar 0)) [2] kFrz) (mNil)))))
def f_is_move : FS := runF 3 b_is_move
def b_is_content : MS := sSeq (sIf (tOrD (tNotD (tTru (mIsi "tuple" (mVar 1)))) (tOf (mBin (eqA true) (mCall lenX (mCons (mVar 1) (mNil))) (mCall lenX (mCons (mVar 0) (mNil)))))) (sRet (mC (.bool false))) (sNil))
    (sRet (mCall allDD (mCons (mLc (iZipD (mCons (mVar 1) (mCons (mVar 0) (mNil)))) (gTupD 2 (gsCons (gSet 2) (gsCons (gSet 3) (gsNil)))) (tTrue) (vAndT (mCall (callF f_is_integer) (mCons (mVar 2) (mNil))) (vChain leD ltD (mC (.int 0)) (mVar 2) (mBin ixY (mVar 3) (mC (.int 0))))) [2, 3] kFrz) (mNil))))
def f_is_content : FS := runF 4 b_is_content
def b_is_among : MS := sRet (vAndT (mIsi "tuple" (mVar 1)) (vAndT (mCall allDD (mCons (mLc (iSeqK (mVar 1)) (gSet 2) (tTrue) (mCall (callF f_is_integer) (mCons (mVar 2) (mNil))) [2] kFrz) (mNil))) (mBin (inZ false) (mVar 1) (mVar 0))))
def f_is_among : FS := runF 3 b_is_among
def m_is_place_1 : ME := mCall (callF f_is_move) (mCons (mBin ixY (mVar 1) (mC (.int 0))) (mCons (mVar 0) (mNil)))
def b_is_place : MS := sSeq (sIf (tOrD (tNotD (tTru (mIsi "tuple" (mVar 0)))) (tOrD (tOf (mBin (eqA true) (mCall lenX (mCons (mVar 0) (mNil))) (mC (.int 2)))) (tOrD (tNotD (tTru (mCall (callF f_is_integer) (mCons (mBin ixY (mVar 0) (mC (.int 0))) (mNil))))) (tNotD (tOf (vChain leD leD (mC (.int 2)) (mBin ixY (mVar 0) (mC (.int 0))) (mC (.int 6)))))))) (sRet (mC (.bool false))) (sNil))
    (sRet (mLam f_is_ascending m_is_place_1 [0] (mBin ixY (mVar 0) (mC (.int 1)))))
def f_is_place : FS := runF 1 b_is_place
def m_is_ends_1 : ME := mCall (callF f_is_among) (mCons (mVar 1) (mCons (mVar 0) (mNil)))
def b_is_ends : MS := sRet (mLam f_is_ascending m_is_ends_1 [0] (mVar 1))
def f_is_ends : FS := runF 2 b_is_ends
def b_is_bench : MS := sRet (vAndT (mIsi "tuple" (mVar 0)) (vAnd (mBin (eqA true) (mVar 0) (mCall tupF (mNil))) (mCall allDD (mCons (mLc (iSeqK (mVar 0)) (gSet 1) (tTrue) (mCall (callF f_is_place) (mCons (mVar 1) (mNil))) [1] kFrz) (mNil)))))
def f_is_bench : FS := runF 2 b_is_bench
def b_is_order : MS := sSeq (sIf (tOrD (tNotD (tTru (mIsi "tuple" (mVar 1)))) (tOrD (tOf (mBin (eqA true) (mCall lenX (mCons (mVar 1) (mNil))) (mC (.int 3)))) (tNotD (tTru (mCall allDD (mCons (mLc (iSeqK (mSl (mVar 1) (oNo) (oYes (mC (.int 2))))) (gSet 2) (tTrue) (mCall (callF f_is_among) (mCons (mVar 0) (mCons (mVar 2) (mNil)))) [2] kFrz) (mNil))))))) (sRet (mC (.bool false))) (sNil))
    (sRet (vAnd (mBin (eqA true) (mBin ixY (mVar 1) (mC (.int 0))) (mBin ixY (mVar 1) (mC (.int 1)))) (mCall (callF f_is_ends) (mCons (mVar 0) (mCons (mBin ixY (mVar 1) (mC (.int 2))) (mNil))))))
def f_is_order : FS := runF 3 b_is_order
def m_is_task_1 : ME := mCall (callF f_is_content) (mCons (mVar 1) (mCons (mVar 0) (mNil)))
def m_is_task_2 : ME := mCall (callF f_is_order) (mCons (mVar 1) (mCons (mVar 0) (mNil)))
def b_is_task : MS := sSeq (sIf (tOrD (tNotD (tTru (mIsi "tuple" (mVar 0)))) (tOrD (tOf (mBin (eqA true) (mCall lenX (mCons (mVar 0) (mNil))) (mC (.int 3)))) (tNotD (tTru (mCall (callF f_is_bench) (mCons (mBin ixY (mVar 0) (mC (.int 0))) (mNil))))))) (sRet (mC (.bool false))) (sNil))
    (sSeq (sAsg (mVar 0) (gTupD 3 (gsCons (gSet 1) (gsCons (gSet 2) (gsCons (gSet 3) (gsNil))))))
    (sSeq (sIf (tOrD (tOf (mBin (eqA false) (mVar 2) (mCall tupF (mNil)))) (tNotD (tTru (mLam f_is_ascending m_is_task_1 [1] (mVar 2))))) (sRet (mC (.bool false))) (sNil))
    (sSeq (sIf (tNotD (tTru (mLam f_is_ascending m_is_task_2 [2] (mVar 3)))) (sRet (mC (.bool false))) (sNil))
    (sRet (mCall allDD (mCons (mLc (iZipD (mCons (mVar 3) (mCons (mSl (mVar 3) (oYes (mC (.int 1))) (oNo)) (mNil)))) (gTupD 2 (gsCons (gSet 4) (gsCons (gSet 5) (gsNil)))) (tTrue) (mBin (eqA true) (mSl (mVar 4) (oNo) (oYes (mC (.int 2)))) (mSl (mVar 5) (oNo) (oYes (mC (.int 2))))) [4, 5] kFrz) (mNil)))))))
def f_is_task : FS := runF 6 b_is_task
end KJ
end
noncomputable section
namespace KJ
open PySem PySem.Spec PyProof.Rows L2 DL K17 K62 KH
theorem wp_lam {fs : (PyData → Option PyData) → FS} {F A : ME} {caps : List Nat} {ρ : DEnv} {S S1 : Sto} {Φ : W × Sto → Prop} {x y : PyData} {ds : List PyData} (hA : A ρ S = some (.d x, S1)) (hc : capD ρ caps = some ds)
    (h : fs (lamG F ds) [.d x, .fn] [] = some (.d y, [])) (k : Φ (.d y, S1)) : Wp (mLam fs F caps A ρ S) Φ := by
  refine ⟨_, ?_, k⟩
  unfold mLam
  rw [hA, Option.bind_some, hc, Option.bind_some]
  simp only [lamX, h, Option.bind_some]
theorem lamG_of {F : ME} {ds : List PyData} {x y : PyData} (h : F (some (W.d x) :: ds.map fun d => some (W.d d)) [] = some (.d y, [])) : lamG F ds x = some y := by
  unfold lamG; rw [h]
theorem wp_act {g : PyData → Option PyData} {i : Nat} {A : ME} {ρ : DEnv} {S S1 : Sto} {Φ : W × Sto → Prop} {x y : PyData} (hi : ρ[i]? = some (some .fn)) (hA : A ρ S = some (.d x, S1)) (h : g x = some y) (k : Φ (.d y, S1)) : Wp (mAct g i A ρ S) Φ := by
  refine ⟨_, ?_, k⟩
  unfold mAct actV
  rw [hi]
  simp only [hA, Option.bind_some, actX, h, Option.map_some]
/-- a body that takes what it gets, and gives data -/
theorem wp_runL {f : MS} {N : Nat} {vs : List W} {y : PyData} (h : Wp (f (vs.map some ++ List.replicate (N - vs.length) none) []) fun r => r.1 = .rt (.d y)) : runF N f vs [] = some (.d y, []) := by
  obtain ⟨⟨_, ρ', S'⟩, e, rfl⟩ := h
  exact runF_ret0 ⟨ρ', S', e⟩
theorem lex_int (x y : Int) (l m : List (Int ⊕ List Nat)) : PyProof.Rows.lexLt itemOrd (Sum.inl x :: l) (Sum.inl y :: m) = if x = y then PyProof.Rows.lexLt itemOrd l m else decide (x < y) := by
  by_cases h : x = y
  · subst h
    rw [if_pos rfl, lex_self]
  · rw [if_neg h, PySem.W.lex_atom (by simpa using h)]
    have := PySem.W.dataLt_int x y
    simpa [PySem.W.dataLt, PySem.W.keyToks] using this
mutual
theorem lexC : ∀ (c d : Cd) (s t : List (Int ⊕ List Nat)), kindC c d = true → PyProof.Rows.lexLt itemOrd (PySem.W.keyToks (toP c) ++ s) (PySem.W.keyToks (toP d) ++ t) = (match cmpC c d with | .lt => true | .gt => false | .eq => PyProof.Rows.lexLt itemOrd s t)
  | .int x, .int y, s, t, _ => by
    simp only [toP, PySem.W.keyToks, List.singleton_append, cmpC, cmpI2]
    rw [lex_int]
    by_cases h : x = y
    · subst h; simp
    · by_cases h2 : x < y <;> simp [h, h2]
  | .tup cs, .tup ds, s, t, h => by
    simp only [toP, PySem.W.keyToks, cmpC]
    exact lexCs cs ds s t (by simpa [kindC] using h)
  | .int _, .tup _, _, _, h => by simp [kindC] at h
  | .tup _, .int _, _, _, h => by simp [kindC] at h
theorem lexCs : ∀ (cs ds : List Cd) (s t : List (Int ⊕ List Nat)), kindCs cs ds = true → PyProof.Rows.lexLt itemOrd (PySem.W.keyToksAll (toPs cs) ++ s) (PySem.W.keyToksAll (toPs ds) ++ t) = (match cmpCs cs ds with | .lt => true | .gt => false | .eq => PyProof.Rows.lexLt itemOrd s t)
  | [], [], s, t, _ => by
    simp only [toPs, PySem.W.keyToksAll, cmpCs]
    show PyProof.Rows.lexLt itemOrd (Sum.inl 0 :: s) (Sum.inl 0 :: t) = _
    rw [lex_int, if_pos rfl]
  | [], d :: ds, s, t, _ => by
    simp only [toPs, PySem.W.keyToksAll, List.cons_append, cmpCs]
    rw [lex_int, if_neg (by decide)]
    decide
  | c :: cs, [], s, t, _ => by
    simp only [toPs, PySem.W.keyToksAll, List.cons_append, cmpCs]
    rw [lex_int, if_neg (by decide)]
    decide
  | c :: cs, d :: ds, s, t, h => by
    simp only [kindCs, Bool.and_eq_true] at h
    simp only [toPs, PySem.W.keyToksAll, List.cons_append, List.append_assoc, cmpCs]
    rw [lex_int, if_pos rfl, lexC c d _ _ h.1]
    cases e : cmpC c d with
    | lt => rfl
    | gt => rfl
    | eq => exact lexCs cs ds s t h.2
end
theorem dltC {c d : Cd} (h : kindC c d = true) : PySem.W.dataLt (toP c) (toP d) = ltC c d := by
  have := lexC c d [] [] h
  rw [List.append_nil, List.append_nil] at this
  unfold PySem.W.dataLt ltC
  rw [this]
  cases cmpC c d <;> first | rfl | decide
mutual
theorem alikeC : ∀ c d : Cd, kindC c d = true → PySem.W.alike (toP c) (toP d) = true
  | .int _, .int _, _ => rfl
  | .tup cs, .tup ds, h => by
    simp only [toP, PySem.W.alike]
    exact alikeCs cs ds (by simpa [kindC] using h)
  | .int _, .tup _, h => by simp [kindC] at h
  | .tup _, .int _, h => by simp [kindC] at h
theorem alikeCs : ∀ cs ds : List Cd, kindCs cs ds = true → PySem.W.alikeAll (toPs cs) (toPs ds) = true
  | [], _, _ => by simp [toPs, PySem.W.alikeAll]
  | _ :: _, [], _ => by simp [toPs, PySem.W.alikeAll]
  | c :: cs, d :: ds, h => by
    simp only [kindCs, Bool.and_eq_true] at h
    simp only [toPs, PySem.W.alikeAll, alikeC c d h.1, alikeCs cs ds h.2, Bool.and_true]
end
theorem ltX_C {c d : Cd} {S : Sto} (h : kindC c d = true) (hd : (toP c).depth ≤ 60) : ltX (.d (toP c)) (.d (toP d)) S = some (.d (.bool (ltC c d)), S) := by
  unfold ltX cmpX
  have hn : isNon (toP c) = false := by cases c <;> rfl
  simp only [alikeC c d h, hd_toP, hn, hd, decide_true, Bool.and_true, Bool.not_false, if_true, dltC h]
theorem ltX_enc {α : Type} {enc : α → PyData} {κ : α → Cd} (he : ∀ a, enc a = toP (κ a)) (hk : ∀ a b : α, kindC (κ a) (κ b) = true) (hd : ∀ a, (enc a).depth ≤ 60) (a b : α) (S : Sto) : ltX (.d (enc a)) (.d (enc b)) S = some (.d (.bool (ltC (κ a) (κ b))), S) := by
  rw [he a, he b]
  exact ltX_C (hk a b) (by rw [← he]; exact hd a)
theorem n2 : decide (((2 : Nat) : Int) = 2) = true := rfl
theorem n3 : decide (((3 : Nat) : Int) = 3) = true := rfl
def andTK (B : ME) (ρ : DEnv) (Φ : W × Sto → Prop) (p : W × Sto) : Prop := Wp (truD p.2 p.1) fun c => if c = true then Wp (B ρ p.2) Φ else Φ p
theorem Wp_vAndT {A B : ME} {ρ : DEnv} {S : Sto} {Φ : W × Sto → Prop} : Wp (vAndT A B ρ S) Φ = Wp (A ρ S) (andTK B ρ Φ) := by
  unfold vAndT
  rw [Wp_bind]; congr 1; funext p
  unfold andTK
  rw [Wp_bind]; congr 1; funext c
  rw [Wp_if, Wp_some]
theorem andTK_t {B : ME} {ρ : DEnv} {S : Sto} {Φ : W × Sto → Prop} : andTK B ρ Φ (.d (.bool true), S) = Wp (B ρ S) Φ := by
  show Wp (some true) _ = _
  rw [Wp_some]; rfl
theorem isint_ok (i : Int) (S : Sto) : callF f_is_integer [.d (.int i)] S = some (.d (.bool true), S) := by
  obtain ⟨r, e, x, rfl, rfl⟩ : Wp (callF f_is_integer [.d (.int i)] S) fun r => ∃ x, r = (.d x, S) ∧ x = .bool true := by
    refine wp_call0 rfl ?_
    unfold b_is_integer
    simp! only [List.replicate, Wp_vAndT, andTK_t, Wp_isi, isiW_ok (T := "int") (d := .int i) (a := "int") (q := true) rfl (by decide), isiW_ok (T := "bool") (d := .int i) (a := "int") (q := false) rfl (by decide)]
    exact ⟨_, rfl, rfl⟩
  exact e
theorem eqof {f : FS} {ws : List W} {S : Sto} {y : PyData} (h : Wp (callF f ws S) fun r => ∃ x, r = (.d x, S) ∧ x = y) : callF f ws S = some (.d y, S) := by
  obtain ⟨r, e, x, rfl, rfl⟩ := h
  exact e
theorem all_int {xs : List Int} {i : Nat} {it : MI} {ρ : DEnv} {S : Sto} {Φ : W × Sto → Prop} (hi : i < ρ.length) (hit : it ρ S = some ((xs.map PyData.int).map W.d, S)) (hl : xs.length ≤ 1000000) (k : Φ (.d (.list (xs.map fun _ => .bool true)), S)) :
    Wp (mLc it (gSet i) tTrue (mCall (callF f_is_integer) (mCons (mVar i) mNil)) [i] kFrz ρ S) Φ := by
  refine wp_lcA (l := xs) (enc := PyData.int) (H := fun _ => .bool true) (S1 := S) ⟨_, hit, rfl⟩ (fun x hx => ?_) (sz_of (by omega)) k
  have e : (wipeD ρ [i]).length = ρ.length := by simp [wipeD]
  refine ⟨_, by unfold gSet; rw [if_pos (by rw [e]; exact hi)], rfl, ?_⟩
  have h2 : ((wipeD ρ [i]).set i (some (W.d (PyData.int x))))[i]? = some (some (W.d (PyData.int x))) := List.getElem?_set_self (by rw [e]; exact hi)
  exact ⟨_, by simp only [mCall, mCons, mVar, mNil, h2, Option.bind_some, isint_ok], rfl⟩
theorem all_t {α : Type} {l : List α} {S : Sto} : allDD [.d (.list (l.map fun _ => PyData.bool true))] S = some (.d (.bool true), S) := by
  have h1 := all_ev (p := fun _ : α => true) (l := l) (S := S)
  rwa [List.all_eq_true.mpr fun _ _ => rfl] at h1
def adj {α : Type} (lt : α → α → Bool) (l : List α) : Bool := (l.zip l.tail).all fun p => lt p.1 p.2
theorem adj_of {α : Type} {lt : α → α → Bool} : ∀ {l : List α}, l.Pairwise (fun a b => lt a b = true) → adj lt l = true
  | [], _ => rfl
  | [_], _ => rfl
  | a :: b :: l, h => by
    have h2 := List.pairwise_cons.mp h
    have ih := adj_of (lt := lt) (l := b :: l) h2.2
    unfold adj at ih ⊢
    simp only [List.tail_cons, List.zip_cons_cons, List.all_cons, h2.1 b (by simp), Bool.true_and] at ih ⊢
    exact ih
theorem zipF_map {α β : Type} {f : α → PyData} {g : β → PyData} : ∀ (l : List α) (m : List β), zipF (l.map f) (m.map g) = ((l.zip m).map fun q => PyData.tuple [f q.1, g q.2]).map W.d
  | [], m => by simp [zipF]
  | _ :: _, [] => by simp [zipF]
  | x :: l, y :: m => by simp only [List.map_cons, zipF, List.zip_cons_cons, zipF_map l m]
theorem wp_zipG {α β : Type} {f : α → PyData} {g : β → PyData} {l : List α} {m : List β} {R : MA} {ρ : DEnv} {S S1 : Sto} (hr : ∀ a ∈ l, ∀ b, rowP (f a) = false ∨ rowP (g b) = false) (h : Wp (R ρ S) fun p => p = ([.d (.tuple (l.map f)), .d (.tuple (m.map g))], S1)) : Wp (iZipD R ρ S) fun p => p = (((l.zip m).map fun q => PyData.tuple [f q.1, g q.2]).map W.d, S1) := by
  obtain ⟨_, e, rfl⟩ := h
  have hz : (((l.map f).zip (m.map g)).all fun q => !ruly [q.1, q.2]) = true := by
    rw [List.all_eq_true]
    intro q hq
    rw [List.zip_map] at hq
    obtain ⟨p, hp, rfl⟩ := List.mem_map.mp hq
    simp only [Prod.map, ruly, List.all_cons, List.all_nil, Bool.and_true]
    rcases hr p.1 (List.of_mem_zip hp).1 p.2 with h | h <;> simp [h]
  refine ⟨_, ?_, rfl⟩
  simp only [iZipD, e, Option.bind_some, hz, if_true, zipF_map]
theorem asc_ok {α : Type} {enc : α → PyData} {lt : α → α → Bool} {g : PyData → Option PyData} {l : List α} (hg : ∀ a ∈ l, g (enc a) = some (.bool true)) (hr : ∀ a, rowP (enc a) = false) (hlt : ∀ (a b : α) (S : Sto), ltX (.d (enc a)) (.d (enc b)) S = some (.d (.bool (lt a b)), S)) (hl : l.length ≤ 1000000) :
    f_is_ascending g [.d (.tuple (l.map enc)), .fn] [] = some (.d (.bool (adj lt l)), []) := by
  refine wp_runL ?_
  unfold b_is_ascending
  simp! only [List.replicate, Wp_isi, isiW_ok (T := "tuple") (d := .tuple (l.map enc)) (a := "tuple") (q := true) rfl (by decide)]
  refine wp_lcA (l := l) (enc := enc) (H := fun _ => .bool true) (S1 := []) (by (simp! only <;> rfl)) (fun x hx => ?_) (sz_of (by omega)) ?_
  · simp! only
    exact wp_act (S1 := []) rfl rfl (hg x hx) rfl
  have h1 := fun S => all_ev (p := fun _ : α => true) (l := l) (S := S)
  have h2 : (l.all fun _ => true) = true := List.all_eq_true.mpr fun _ _ => rfl
  simp! only [h1, h2]
  have hs := fun S => slice_dr (enc := enc) (l := l) (k := 1) (S := S)
  refine wp_lcA (l := l.zip l.tail) (enc := fun q => PyData.tuple [enc q.1, enc q.2]) (H := fun q => .bool (lt q.1 q.2)) (S1 := []) ?_ (fun x hx => ?_) (sz_of (by rw [List.length_zip]; omega)) ?_
  · refine wp_zipG (fun a _ b => .inl (hr a)) ?_
    simp! only
    have := hs []
    rw [show ((1 : Nat) : Int) = 1 from rfl] at this
    simp! only [this]
    rw [List.drop_one]
  · simp! only [hlt]
  · have h3 := fun S => all_ev (p := fun q : α × α => lt q.1 q.2) (l := l.zip l.tail) (S := S)
    simp! only [h3]
    rfl
theorem rowP_tI (c : List Int) : rowP (tI c) = false := by
  cases c with
  | nil => rfl
  | cons x c => cases c with
    | nil => rfl
    | cons y c => cases c <;> rfl
theorem tI_toP (a : List Int) : tI a = toP (cI a) := (ofP_eq _ _ (ofP_tI a))
theorem dep_tI (a : List Int) : (tI a).depth ≤ 60 := by
  have := (lay_l [a]).2
  simp only [List.map_cons, List.map_nil, PyData.depthAll] at this
  omega
theorem ltX_c (a b : List Int) (S : Sto) : ltX (.d (tI a)) (.d (tI b)) S = some (.d (.bool (ltC (cI a) (cI b))), S) := ltX_enc tI_toP kind_cI dep_tI a b S
theorem isi_tt {ds : List PyData} {S : Sto} : isiW "tuple" (.d (.tuple ds), S) = some (.d (.bool true), S) := isiW_ok rfl (by decide)
theorem all_t2 {S : Sto} : allDD [.d (.list [PyData.bool true, .bool true])] S = some (.d (.bool true), S) := all_t (l := [0, 0])
theorem move_ok {n : Nat} {m : Mv} {S : Sto} (h : (0 ≤ m.1 ∧ m.1 < n) ∧ (0 ≤ m.2 ∧ m.2 < n)) (hn : m.1 ≠ m.2) : callF f_is_move [.d (.int (n : Nat)), .d (mv m)] S = some (.d (.bool true), S) := by
  refine eqof (wp_call0 rfl ?_)
  unfold b_is_move
  have hm : mv m = .tuple ([m.1, m.2].map PyData.int) := rfl
  simp! only [List.replicate, hm, Wp_isi, isi_tt, n2]
  refine all_int (xs := [m.1, m.2]) ?_ ?_ ?_ ?_
  · simp
  · simp [iSeqK, mVar, toK]
  · simp
  simp! only [all_t2, hn, decide_false]
  refine wp_lcA (l := [m.1, m.2]) (enc := PyData.int) (H := fun _ => .bool true) (S1 := []) (by (simp! only <;> rfl)) (fun x hx => ?_) (sz_of (by simp)) ?_
  · have hx2 : 0 ≤ x ∧ x < (n : Int) := by
      simp only [List.mem_cons, List.not_mem_nil, or_false] at hx
      rcases hx with rfl | rfl
      · exact h.1
      · exact h.2
    simp! only [Wp_chain, chK_t, hx2.1, hx2.2, decide_true]
  · simp! only [all_t2]
    exact ⟨_, rfl, rfl⟩
theorem place_ok {p : Pl} {S : Sto} (g : GoodP p) : callF f_is_place [.d (pl p)] S = some (.d (.bool true), S) := by
  have l1 := g.lo; have l2 := g.hi
  refine eqof (wp_call0 rfl ?_)
  unfold b_is_place
  have a1 : (2 : Int) ≤ (p.1 : Nat) := by omega
  have a2 : ((p.1 : Nat) : Int) ≤ 6 := by omega
  simp! only [List.replicate, pl, n2, Wp_isi, isi_tt, isint_ok, Wp_chain, chK_t, a1, a2, decide_true]
  refine wp_lam (x := .tuple (p.2.map mv)) (y := .bool true) (S1 := []) (ds := [pl p]) ?_ ?_ ?_ ?_
  · simp only [mBin, mVar, mC, List.getElem?_cons_zero, Option.bind_some, ixY_lit1]
  · rfl
  rotate_left
  · exact ⟨_, rfl, rfl⟩
  rw [asc_ok (enc := mv) (lt := fun a b => ltC (cI [a.1, a.2]) (cI [b.1, b.2])) (fun m hm => ?_) (fun a => rowP_tI [a.1, a.2]) (fun a b S => ltX_c [a.1, a.2] [b.1, b.2] S) (by have := g.len; omega), adj_of g.asc]
  refine lamG_of ?_
  have hk := g.mv m hm
  have e := move_ok (n := p.1) (m := m) (S := []) hk (g.irr m hm)
  simp only [m_is_place_1, mCall, mBin, mVar, mC, mCons, mNil, List.map_cons, List.map_nil, List.getElem?_cons_succ, List.getElem?_cons_zero, Option.bind_some, pl, ixY_lit0, e]
theorem shp_tup {l : List PyData} (h : ∀ d ∈ l, d.canLay0 = true ∧ d.depth ≤ 60) : SeqAt.shaped (.tuple l) = true := by
  have k : PyData.canLayAll0 l = true ∧ PyData.depthAll l ≤ 60 := by
    induction l with
    | nil => exact ⟨rfl, by simp [PyData.depthAll]⟩
    | cons d l ih =>
      have h1 := h d (by simp)
      have h2 := ih fun e he => h e (by simp [he])
      simp only [PyData.canLayAll0, PyData.depthAll, h1.1, h2.1, Bool.true_and, true_and]
      omega
  have d : (PyData.tuple l).depth ≤ 64 := by simp only [PyData.depth]; exact Nat.le_trans (Nat.succ_le_succ k.2) (by decide)
  simp only [SeqAt.shaped, PyData.canLay0, k.1, Bool.true_and, decide_eq_true_eq]
  exact d
theorem eq_nilG {l : List PyData} {neg : Bool} {S : Sto} (h : SeqAt.shaped (.tuple l) = true) : eqA neg (.d (.tuple l)) (.d (.tuple [])) S = some (.d (.bool (l.isEmpty ^^ neg)), S) := by
  have h2 : SeqAt.shaped (.tuple []) = true := by decide
  have h3 : PyData.eqv (.tuple l) (.tuple []) = l.isEmpty := by cases l <;> simp [PyData.eqv, PyData.eqvAll]
  simp [eqA, eqD, deref, h, h2, h3]
def cM (m : Mv) : Cd := cI [m.1, m.2]
def cP (p : Pl) : Cd := .tup [.int (p.1 : Nat), .tup (p.2.map cM)]
theorem ofP_pl (p : Pl) : ofP (pl p) = some (cP p) := by
  have : ofPs (p.2.map mv) = some (p.2.map cM) := ofPs_map fun m _ => ofP_tI [m.1, m.2]
  simp [pl, ofP, ofPs, this, cP]
theorem dep_pl (p : Pl) : (pl p).depth ≤ 3 := by
  have h : PyData.depthAll (p.2.map mv) ≤ 1 := by
    have := (lay_l (p.2.map fun m => [m.1, m.2])).2
    rw [List.map_map] at this
    exact this
  simp only [pl, PyData.depth, PyData.depthAll]
  omega
theorem shp_bn (b : List Pl) : SeqAt.shaped (bn b) = true := shp_tup fun d hd => by
  obtain ⟨p, _, rfl⟩ := List.mem_map.mp hd
  refine ⟨?_, Nat.le_trans (dep_pl p) (by decide)⟩
  rw [ofP_eq _ _ (ofP_pl p)]
  exact lay_toP _
theorem bench_ok {b : List Pl} {S : Sto} (g : Good b) : callF f_is_bench [.d (bn b)] S = some (.d (.bool true), S) := by
  refine eqof (wp_call0 rfl ?_)
  unfold b_is_bench
  have hb := fun S => eq_nilG (neg := true) (S := S) (shp_bn b)
  have hl := g.len
  have he : (b.map pl).isEmpty = false := by
    have := g.ne
    cases b with
    | nil => exact absurd rfl this
    | cons _ _ => rfl
  rw [he] at hb
  simp! only [List.replicate, Wp_vAndT, andTK_t, bn, Wp_isi, isi_tt, hb, Bool.false_xor]
  refine wp_lcA (l := b) (enc := pl) (H := fun _ => .bool true) (S1 := []) (by (simp! only <;> rfl)) (fun p hp => ?_) (sz_of (by omega)) ?_
  · have e := fun S => place_ok (S := S) (g.pl p hp)
    simp! only [e]
  · simp! only [all_t]
    exact ⟨_, rfl, rfl⟩
theorem zip_fits : ∀ {c : List Int} {b : List Pl}, Fits c b → ∀ q ∈ c.zip b, 0 ≤ q.1 ∧ q.1 < q.2.1
  | [], [], _, q, h => by simp at h
  | x :: c, p :: b, h, q, hq => by
    rcases List.mem_cons.mp hq with rfl | hq
    · exact h.1
    · exact zip_fits h.2 q hq
  | [], _ :: _, h, _, _ => h.elim
  | _ :: _, [], h, _, _ => h.elim
theorem content_ok {b : List Pl} {c : List Int} {S : Sto} (g : Good b) (h : Fits c b) : callF f_is_content [.d (bn b), .d (tI c)] S = some (.d (.bool true), S) := by
  have hl := fits_len h
  have h5 := g.len
  refine eqof (wp_call0 rfl ?_)
  unfold b_is_content
  simp! only [List.replicate, tI, bn, Wp_isi, isi_tt, List.length_map, hl, Bool.not_true, decide_true]
  refine wp_lcA (l := c.zip b) (enc := fun q => PyData.tuple [.int q.1, pl q.2]) (H := fun _ => .bool true) (S1 := []) (wp_zipG (fun a _ _ => .inl rfl) (by (simp! only <;> rfl))) (fun q hq => ?_) (sz_of (by rw [List.length_zip]; omega)) ?_
  · have hk := zip_fits h q hq
    simp! only [Wp_vAndT, andTK_t, isint_ok, Wp_chain, chK_t, hk.1, hk.2, decide_true, pl]
  · simp! only [all_t]
    exact ⟨_, rfl, rfl⟩
theorem among_ok {R : List (List Int)} {x : List Int} {S : Sto} (hx : x ∈ R) (hl : x.length ≤ 1000) : callF f_is_among [.d (.tuple (R.map tI)), .d (tI x)] S = some (.d (.bool true), S) := by
  refine eqof (wp_call0 rfl ?_)
  unfold b_is_among
  have hin := fun S => K62.in_holds (w := .tuple (R.map tI)) (bs := R) (c := x) (S := S) false (.inr rfl)
  have ht : tI x = .tuple (x.map PyData.int) := rfl
  rw [ht] at hin ⊢
  simp! only [List.replicate, Wp_vAndT, andTK_t, Wp_isi, isi_tt]
  refine all_int (xs := x) ?_ ?_ ?_ ?_
  · simp
  · simp [iSeqK, mVar, toK]
  · omega
  simp! only [all_t, andTK_t, hin, decide_eq_true hx, Bool.xor_false]
  exact ⟨_, rfl, rfl⟩
theorem ends_of {R E : List (List Int)} {S : Sto} (h : ∀ x ∈ E, x ∈ R ∧ x.length ≤ 1000) (ha : E.Pairwise SLt) (hl : E.length ≤ 1000) : callF f_is_ends [.d (.tuple (R.map tI)), .d (.tuple (E.map tI))] S = some (.d (.bool true), S) := by
  refine eqof (wp_call0 rfl ?_)
  unfold b_is_ends
  simp! only [List.replicate]
  refine wp_lam (x := .tuple (E.map tI)) (y := .bool true) (S1 := []) (ds := [.tuple (R.map tI)]) ?_ ?_ ?_ ?_
  · simp only [mVar, List.getElem?_cons_succ, List.getElem?_cons_zero]
  · rfl
  rotate_left
  · exact ⟨_, rfl, rfl⟩
  rw [asc_ok (enc := tI) (lt := fun a b => ltC (cI a) (cI b)) (fun m hm => ?_) rowP_tI ltX_c (by omega), adj_of ha]
  refine lamG_of ?_
  have e := among_ok (R := R) (S := []) (h m hm).1 (h m hm).2
  simp only [m_is_ends_1, mCall, mVar, mCons, mNil, List.map_cons, List.map_nil, List.getElem?_cons_succ, List.getElem?_cons_zero, Option.bind_some, e]
theorem eq_C {c d : Cd} {neg : Bool} {S : Sto} (h1 : (toP c).depth ≤ 60) (h2 : (toP d).depth ≤ 60) : eqA neg (.d (toP c)) (.d (toP d)) S = some (.d (.bool ((cmpC c d == .eq) ^^ neg)), S) := by
  have a1 : SeqAt.shaped (toP c) = true := by simp only [SeqAt.shaped, lay_toP, Bool.true_and, decide_eq_true_eq]; omega
  have a2 : SeqAt.shaped (toP d) = true := by simp only [SeqAt.shaped, lay_toP, Bool.true_and, decide_eq_true_eq]; omega
  have h3 := eqv_toP c d
  cases c <;> cases d <;> simp [eqA, eqD, deref, a1, a2, h3, toP] at a1 a2 h3 ⊢ <;> simp [a1, a2, h3]
theorem ne_K {k l : List (List Int)} {S : Sto} (h : k ≠ l) : eqA true (.d (tK k)) (.d (tK l)) S = some (.d (.bool true), S) := by
  rw [← toP_cK k, ← toP_cK l, eq_C (by rw [toP_cK]; exact dep_tK k) (by rw [toP_cK]; exact dep_tK l)]
  have : (cmpC (cK k) (cK l) == .eq) = false := by
    rw [beq_eq_false_iff_ne]
    intro z
    have z := (cmpC_eq _ _).mp z
    have e : tK k = tK l := by rw [← toP_cK k, ← toP_cK l, z]
    unfold tK at e
    injection e with e
    exact h ((List.map_inj_right (fun x y z => by
      have z : PyData.tuple (x.map .int) = .tuple (y.map .int) := z
      injection z with z
      exact (List.map_inj_right (fun x y e => by injection e)).mp z)).mp e)
  rw [this]; rfl
theorem order_ok {R : List (List Int)} {o : Od} {S : Sto} (h : OrdOk R o) (hl : ∀ x ∈ R, x.length ≤ 1000) (hE : o.2.2.length ≤ 1000) : callF f_is_order [.d (.tuple (R.map tI)), .d (od o)] S = some (.d (.bool true), S) := by
  refine eqof (wp_call0 rfl ?_)
  unfold b_is_order
  have hs : ∀ S, sliceD (.d (.tuple [tI o.1, tI o.2.1, .tuple (o.2.2.map tI)])) none (some 2) S = some (.d (.tuple ([o.1, o.2.1].map tI)), S) := fun S => by
    have := slice_tk (enc := id) (l := [tI o.1, tI o.2.1, PyData.tuple (o.2.2.map tI)]) (k := 2) (S := S)
    simpa using this
  have hod : od o = .tuple [tI o.1, tI o.2.1, .tuple (o.2.2.map tI)] := rfl
  simp! only [List.replicate, hod, n3, Wp_isi, isi_tt, hs]
  refine wp_lcA (l := [o.1, o.2.1]) (enc := tI) (H := fun _ => .bool true) (S1 := []) (by (simp! only [hs] <;> rfl)) (fun x hx => ?_) (sz_of (by simp)) ?_
  · have hx2 : x ∈ R := by
      simp only [List.mem_cons, List.not_mem_nil, or_false] at hx
      rcases hx with rfl | rfl
      · exact h.s
      · exact h.t
    have e := fun S => among_ok (R := R) (S := S) hx2 (hl x hx2)
    simp! only [e]
  · have e := fun S => ends_of (R := R) (E := o.2.2) (S := S) (fun x hx => ⟨h.e x hx, hl x (h.e x hx)⟩) h.asc hE
    simp! only [all_t2, ne_tI, decide_eq_false h.ne, e]
    exact ⟨_, rfl, rfl⟩
theorem rowP_od (o : Od) : rowP (od o) = false := by
  unfold rowP
  split
  · rename_i h; simp [od] at h
  · rfl
theorem kind_cO (a b : Od) : kindC (cO a) (cO b) = true := by
  have := kinds_cI a.2.2 b.2.2
  simp [cO, kindC, kindCs, DL.kind_cI, this]
theorem ltX_o (a b : Od) (S : Sto) : ltX (.d (od a)) (.d (od b)) S = some (.d (.bool (ltC (cO a) (cO b))), S) := ltX_enc (fun o => ofP_eq _ _ (ofP_od o)) kind_cO dep_od a b S
theorem ltO_of {a b : Od} (h : ltC (cK (ky a)) (cK (ky b)) = true) : ltC (cO a) (cO b) = true := by
  rw [ltC_iff] at h ⊢
  simp only [cK, ky, List.map_cons, List.map_nil, cmpC, cmpCs, cO] at h ⊢
  cases e1 : cmpC (cI a.1) (cI b.1) with
  | lt => simp [e1]
  | gt => simp [e1] at h
  | eq =>
    simp only [e1] at h ⊢
    cases e2 : cmpC (cI a.2.1) (cI b.2.1) with
    | lt => simp
    | gt => simp [e2] at h
    | eq => simp [e2] at h
theorem adj_mem {α : Type} : ∀ {l : List α} {P : α → α → Prop}, l.Pairwise P → ∀ q ∈ l.zip l.tail, P q.1 q.2
  | [], _, _, q, hq => by simp at hq
  | [_], _, _, q, hq => by simp at hq
  | a :: b :: l, P, h, q, hq => by
    have h2 := List.pairwise_cons.mp h
    simp only [List.tail_cons, List.zip_cons_cons, List.mem_cons] at hq
    rcases hq with rfl | hq
    · exact h2.1 b (by simp)
    · exact adj_mem (l := b :: l) h2.2 q (by simpa using hq)
theorem task_ok {b : List Pl} {R : List (List Int)} {os : List Od} {S : Sto} (g : Good b) (h : TskOk b R os) : callF f_is_task [.d (tk b R os)] S = some (.d (.bool true), S) := by
  have hlen : ∀ x ∈ R, x.length ≤ 1000 := fun x hx => by have := fits_len (h.rf x hx); have := g.len; omega
  have hrl := h.rl
  have hol := h.ol
  refine eqof (wp_call0 rfl ?_)
  unfold b_is_task
  have hb := fun S => bench_ok (S := S) g
  have hR := fun S => eq_nilT R S
  have hRe : R.isEmpty = false := by
    have := h.r0
    cases R with
    | nil => exact absurd rfl this
    | cons _ _ => rfl
  rw [hRe] at hR
  have htk : tk b R os = .tuple [bn b, .tuple (R.map tI), .tuple (os.map od)] := rfl
  simp! only [List.replicate, htk, n3, Wp_isi, isi_tt, hb, hR]
  refine wp_lam (x := .tuple (R.map tI)) (y := .bool true) (S1 := []) (ds := [bn b]) ?_ ?_ ?_ ?_
  · simp only [mVar, List.getElem?_cons_succ, List.getElem?_cons_zero]
  · rfl
  · rw [asc_ok (enc := tI) (lt := fun a b => ltC (cI a) (cI b)) (fun m hm => ?_) rowP_tI ltX_c (by omega), adj_of h.rs]
    refine lamG_of ?_
    have e := content_ok (S := []) g (h.rf m hm)
    simp only [m_is_task_1, mCall, mVar, mCons, mNil, List.map_cons, List.map_nil, List.getElem?_cons_succ, List.getElem?_cons_zero, Option.bind_some, e]
  simp! only
  refine wp_lam (x := .tuple (os.map od)) (y := .bool true) (S1 := []) (ds := [.tuple (R.map tI)]) ?_ ?_ ?_ ?_
  · simp only [mVar, List.getElem?_cons_succ, List.getElem?_cons_zero]
  · rfl
  · rw [asc_ok (enc := od) (lt := fun a b => ltC (cO a) (cO b)) (fun o ho => ?_) rowP_od ltX_o (by omega), adj_of (h.oa.imp ltO_of)]
    refine lamG_of ?_
    have hE : o.2.2.length ≤ R.length := List.Nodup.length_le_of_subset (asc_nodup (h.of o ho).asc) (h.of o ho).e
    have e := order_ok (S := []) (h.of o ho) hlen (by omega)
    simp only [m_is_task_2, mCall, mVar, mCons, mNil, List.map_cons, List.map_nil, List.getElem?_cons_succ, List.getElem?_cons_zero, Option.bind_some, e]
  have hs := fun S => slice_dr (enc := od) (l := os) (k := 1) (S := S)
  rw [show ((1 : Nat) : Int) = 1 from rfl] at hs
  have hs2 : ∀ (o : Od) S, sliceD (.d (od o)) none (some 2) S = some (.d (tK (ky o)), S) := fun o S => by
    have := slice_tk (enc := id) (l := [tI o.1, tI o.2.1, PyData.tuple (o.2.2.map tI)]) (k := 2) (S := S)
    simpa [od, tK, ky] using this
  simp! only
  refine wp_lcA (l := os.zip os.tail) (enc := fun q => PyData.tuple [od q.1, od q.2]) (H := fun _ => .bool true) (S1 := []) ?_ (fun q hq => ?_) (sz_of (by rw [List.length_zip]; omega)) ?_
  · refine wp_zipG (fun a _ b => .inl (rowP_od a)) ?_
    simp! only [hs]
    rw [List.drop_one]
  · have hk := adj_mem h.oa q hq
    have hne : ky q.1 ≠ ky q.2 := fun z => by
      rw [z, ltC_irr] at hk
      cases hk
    have e := fun S => ne_K (S := S) hne
    simp! only [hs2, e]
  · simp! only [all_t]
    exact ⟨_, rfl, rfl⟩
end KJ
end
noncomputable section
namespace DL
open PySem PySem.Spec PyProof.Rows L2
section
variable {X : Cx} {τ : Tbs} {e a b : Expr} {A B : ME} {R : MA}
def isBD (neg : Bool) : W → W → Sto → Option (W × Sto)
  | .d (.bool a), .d (.bool b), S => some (.d (.bool (decide (a = b) ^^ neg)), S)
  | _, _, _ => none
theorem rp_bool {K : PySem.W.Frag} {H : Hp} {v : V} {b : Bool} (h : Rp K H v (.bool b)) : v = .bl b := by cases h; rfl
theorem op_notBD : OpR X (compareOp .IsNot) (rOp τ X.K (isBD true)) := by
  intro pins s σ H x y v u Q I rx ry h
  obtain ⟨m, S, ρ, σ', wx, wy, w, S', q, hx, hy, e, p⟩ := h
  unfold isBD at e
  split at e
  · cases e
    obtain rfl := rp_bool hx
    obtain rfl := rp_bool hy
    exact op_isnot_bl pins s σ H _ _ v u Q I rx ry ⟨_, _, rfl, rfl, p.now q (by rw [Bool.xor_true]; exact .bl _)⟩
  · cases e
/-- xs[::-1] of a list -/
def revDL : W → Sto → Option (W × Sto)
  | .d (.list ds), S => some (.d (.list ds.reverse), S)
  | _, _ => none
def mRevL (A : ME) : ME := fun ρ S => (A ρ S).bind fun p => revDL p.1 p.2
theorem de_revL {k : Nat} {p1 p2 p3 pos : Pos} (ha : PE X a (rdE τ X.K A)) : PE X (.Subscript a (.Slice none none (some (.UnaryOp .USub (.Constant (.int 1) k p1) p2)) p3) pos) (rdE τ X.K (mRevL A)) := wkE (peFrz (pe_revL ha)) fun σ H Q q => by
  obtain ⟨m, S, ρ, w, S', q, e, p⟩ := q
  obtain ⟨⟨wx, S1⟩, e1, e2⟩ := Option.bind_eq_some_iff.mp e
  refine ⟨m, S, ρ, wx, S1, q, e1, fun ext H1 x f q1 fr r => ?_⟩
  simp only [revDL] at e2
  split at e2
  · cases e2
    cases r with
    | lst h r1 => exact ⟨_, _, rfl, h.sq, fun t ht => newL (p.at f q1 fr) q1 (rpAll_rev r1) t ht⟩
  · cases e2
end
end DL
end
noncomputable section
namespace K19
open PySem PySem.Spec PyProof.Rows L2 DL
def top (i : Nat) : Stmt := PySem.Challenge.pw_onorback_k19_orders_put_in_the_place_of.main.body.getD i (.Pass ⟨0, 0, 0, 0⟩)
/-- the built-ins by their names -/
structure Txt (mg : Str → Option Value) : Prop where
  n_abs : mg "abs" = none
  n_all : mg "all" = none
  n_bool : mg "bool" = none
  n_dict : mg "dict" = none
  n_int : mg "int" = none
  n_isinstance : mg "isinstance" = none
  n_len : mg "len" = none
  n_list : mg "list" = none
  n_min : mg "min" = none
  n_range : mg "range" = none
  n_repr : mg "repr" = none
  n_sorted : mg "sorted" = none
  n_tuple : mg "tuple" = none
  n_zip : mg "zip" = none
abbrev s_with_orders : Stmt := top 1
abbrev N_with_orders : List Str := ["task", "orders"]
theorem sc_with_orders : FnScope N_with_orders ["task", "orders"] (defScope s_with_orders) := ⟨rfl, rfl, rfl, by decide +kernel, rfl, by decide +kernel, by decide +kernel⟩
def b_with_orders : MS := sRet (mBin addA (mSl (mVar 0) (oNo) (oYes (mC (.int 2)))) (mCall tupF (mCons (mCall tupleD (mCons (mCall sortedA (mCons (mVar 1) (mNil))) (mNil))) (mNil))))
def f_with_orders : FS := runF 2 b_with_orders
theorem ok_with_orders {tl : TL} {P : Program} {w : World} {K : PySem.W.Frag} {mg : Str → Option Value} {fa : Addr} {fd : FuncData} (F : Fun K "with_orders" "with_orders" s_with_orders fa fd) (T : Txt mg)  : ∀ {τ : Tbs} {base : Heap}, Bs tl τ K mg base → FnG P w K mg base 1 fa fd ["task", "orders"] (spD τ K 2 f_with_orders) :=
  fun bs => fnG (k := 0) (N := N_with_orders) (ps := ["task", "orders"]) (b := b_with_orders) F sc_with_orders fun cdv A outer s H E hr hg => dss_one (ds_ret (de_bin op_addA (de_sl (de_var (pv 0)) (do_no) (do_yes (de_int))) (de_tup (da_cons (de_callTy call_tupleDD rfl T.n_tuple (by decide +kernel) (da_cons (de_callB (call_sortedA hr) rfl T.n_sorted (by decide +kernel) (da_cons (de_var (pv 1)) (da_nil))) (da_nil))) (da_nil)))))
abbrev s_either_order : Stmt := top 2
abbrev N_either_order : List Str := ["start", "goal"]
theorem sc_either_order : FnScope N_either_order ["start", "goal"] (defScope s_either_order) := ⟨rfl, rfl, rfl, by decide +kernel, rfl, by decide +kernel, by decide +kernel⟩
def b_either_order : MS := sRet (mCall tupF (mCons (mVar 0) (mCons (mVar 1) (mCons (mCall tupleD (mCons (mCall sortedA (mCons (mCall lstF (mCons (mVar 0) (mCons (mVar 1) (mNil)))) (mNil))) (mNil))) (mNil)))))
def f_either_order : FS := runF 2 b_either_order
theorem ok_either_order {tl : TL} {P : Program} {w : World} {K : PySem.W.Frag} {mg : Str → Option Value} {fa : Addr} {fd : FuncData} (F : Fun K "either_order" "either_order" s_either_order fa fd) (T : Txt mg)  : ∀ {τ : Tbs} {base : Heap}, Bs tl τ K mg base → FnG P w K mg base 1 fa fd ["start", "goal"] (spD τ K 2 f_either_order) :=
  fun bs => fnG (k := 0) (N := N_either_order) (ps := ["start", "goal"]) (b := b_either_order) F sc_either_order fun cdv A outer s H E hr hg => dss_one (ds_ret (de_tup (da_cons (de_var (pv 0)) (da_cons (de_var (pv 1)) (da_cons (de_callTy call_tupleDD rfl T.n_tuple (by decide +kernel) (da_cons (de_callB (call_sortedA hr) rfl T.n_sorted (by decide +kernel) (da_cons (de_lst (da_cons (de_var (pv 0)) (da_cons (de_var (pv 1)) (da_nil)))) (da_nil))) (da_nil))) (da_nil))))))
abbrev s_is_integer : Stmt := top 4
abbrev N_is_integer : List Str := ["thing"]
theorem sc_is_integer : FnScope N_is_integer ["thing"] (defScope s_is_integer) := ⟨rfl, rfl, rfl, by decide +kernel, rfl, by decide +kernel, by decide +kernel⟩
def b_is_integer : MS := sRet (vAndT (mIsi "int" (mVar 0)) (vNot (mIsi "bool" (mVar 0))))
def f_is_integer : FS := runF 1 b_is_integer
theorem ok_is_integer {tl : TL} {P : Program} {w : World} {K : PySem.W.Frag} {mg : Str → Option Value} {fa : Addr} {fd : FuncData} (F : Fun K "is_integer" "is_integer" s_is_integer fa fd) (T : Txt mg)  : ∀ {τ : Tbs} {base : Heap}, Bs tl τ K mg base → FnG P w K mg base 1 fa fd ["thing"] (spD τ K 1 f_is_integer) :=
  fun bs => fnG (k := 0) (N := N_is_integer) (ps := ["thing"]) (b := b_is_integer) F sc_is_integer fun cdv A outer s H E hr hg => dss_one (ds_ret (de_andT (de_isi (by decide) rfl T.n_isinstance (by decide +kernel) rfl T.n_int (by decide +kernel) (de_var (pv 0))) (de_one (de_not (de_isi (by decide) rfl T.n_isinstance (by decide +kernel) rfl T.n_bool (by decide +kernel) (de_var (pv 0)))))))
abbrev s_is_ascending : Stmt := top 5
abbrev N_is_ascending : List Str := ["thing", "is_member", "one", "other"]
theorem sc_is_ascending : FnScope N_is_ascending ["thing", "is_member"] (defScope s_is_ascending) := ⟨rfl, rfl, rfl, by decide +kernel, rfl, by decide +kernel, by decide +kernel⟩
def b_is_ascending (g : PyData → Option PyData) : MS := sSeq (sIf (tOrD (tNotD (tTru (mIsi "tuple" (mVar 0)))) (tNotD (tTru (mCall allDD (mCons (mLc (iSeqK (mVar 0)) (gSet 2) (tTrue) (mAct g 1 (mVar 2)) [2] kFrz) (mNil)))))) (sRet (mC (.bool false))) (sNil))
    (sRet (mCall allDD (mCons (mLc (iZipD (mCons (mVar 0) (mCons (mSl (mVar 0) (oYes (mC (.int 1))) (oNo)) (mNil)))) (gTupD 2 (gsCons (gSet 2) (gsCons (gSet 3) (gsNil)))) (tTrue) (mBin ltX (mVar 2) (mVar 3)) [2, 3] kFrz) (mNil))))
def f_is_ascending (g : PyData → Option PyData) : FS := runF 4 (b_is_ascending g)
theorem ok_is_ascending {tl : TL} {P : Program} {w : World} {K : PySem.W.Frag} {mg : Str → Option Value} {fa : Addr} {fd : FuncData} (F : Fun K "is_ascending" "is_ascending" s_is_ascending fa fd) (T : Txt mg) : ∀ {τ : Tbs} {base : Heap} (g : PyData → Option PyData) (j : Nat), Bs tl τ K mg base → Act τ P w K mg base j g → FnG P w K mg base (j + 1) fa fd ["thing", "is_member"] (spD τ K 2 (f_is_ascending g)) :=
  fun g j bs act => fnG (k := j) (N := N_is_ascending) (ps := ["thing", "is_member"]) (b := b_is_ascending g) F sc_is_ascending fun cdv A outer s H E hr hg => dss_cons (ds_if (PW.pt (dw_or (dt_not (dt_tru (de_isi (by decide) rfl T.n_isinstance (by decide +kernel) rfl T.n_tuple (by decide +kernel) (de_var (pv 0))))) (dw_or1 (dt_not (dt_tru (de_callB (call_allDD rfl) rfl T.n_all (by decide +kernel) (da_cons (de_lc (own := [("one", 2)]) rfl sc_is_ascending.nd (di_seqK (de_var (pv 0))) (blkOk_by (own := [("one", 2)]) (N := N_is_ascending) (sc := defScope s_is_ascending) (by decide +kernel)) (fun _ _ _ _ _ => dg_name (i := 2) sc_is_ascending.nd rfl (Or.inl rfl)) (fun _ _ _ _ _ => dts_nil) (fun _ _ _ _ _ => act _ "is_member" 1 _ _ _ _ rfl rfl rfl rfl rfl hr hg (de_var (pv 1)) (de_var (pv 2)) rfl)) (da_nil)))))))) (dss_one (ds_ret (de_bl))) (dss_nil))
    (dss_one (ds_ret (de_callB (call_allDD rfl) rfl T.n_all (by decide +kernel) (da_cons (de_lc (own := [("one", 2), ("other", 3)]) rfl sc_is_ascending.nd (di_zipT rfl T.n_zip (da_cons (de_var (pv 0)) (da_cons (de_sl (de_var (pv 0)) (do_yes (de_int)) (do_no)) (da_nil)))) (blkOk_by (own := [("one", 2), ("other", 3)]) (N := N_is_ascending) (sc := defScope s_is_ascending) (by decide +kernel)) (fun _ _ _ _ _ => dg_tup rfl (dgs_cons (dg_name (i := 2) sc_is_ascending.nd rfl (Or.inl rfl)) (dgs_cons (dg_name (i := 3) sc_is_ascending.nd rfl (Or.inl rfl)) (dgs_nil)))) (fun _ _ _ _ _ => dts_nil) (fun _ _ _ _ _ => de_cmp (op_ltX hr) (de_var (pv 2)) (de_var (pv 3)))) (da_nil)))))
abbrev s_l_bag : Stmt := top 15
abbrev N_l_bag : List Str := ["_law_script", "_law_cell"]
theorem sc_l_bag : FnScope N_l_bag ["_law_script"] (defScope s_l_bag) := ⟨rfl, rfl, rfl, by decide +kernel, rfl, by decide +kernel, by decide +kernel⟩
def b_l_bag : MS := sRet (mCall lstB (mCons (mC (.int 0)) (mCons (mC (.int 1234567891)) (mCons (mC (.int 0)) (mCons (mLc (iSeq (mSl (mVar 0) (oNo) (oYes (mC (.int 63))))) (gSet 1) (tTrue) (mCall absD (mCons (mVar 1) (mNil))) [1] kFrz) (mNil))))))
def f_l_bag : FS := runF 2 b_l_bag
theorem ok_l_bag {tl : TL} {P : Program} {w : World} {K : PySem.W.Frag} {mg : Str → Option Value} {fa : Addr} {fd : FuncData} (F : Fun K "_law_bag" "_law_bag" s_l_bag fa fd) (T : Txt mg)  : ∀ {τ : Tbs} {base : Heap}, Bs tl τ K mg base → FnG P w K mg base 1 fa fd ["_law_script"] (spD τ K 1 f_l_bag) :=
  fun bs => fnG (k := 0) (N := N_l_bag) (ps := ["_law_script"]) (b := b_l_bag) F sc_l_bag fun cdv A outer s H E hr hg => dss_one (ds_ret (de_lstB (da_cons (de_int) (da_cons (de_int) (da_cons (de_int) (da_cons (de_lc (own := [("_law_cell", 1)]) rfl sc_l_bag.nd (di_seq (de_sl (de_var (pv 0)) (do_no) (do_yes (de_int)))) (blkOk_by (own := [("_law_cell", 1)]) (N := N_l_bag) (sc := defScope s_l_bag) (by decide +kernel)) (fun _ _ _ _ _ => dg_name (i := 1) sc_l_bag.nd rfl (Or.inl rfl)) (fun _ _ _ _ _ => dts_nil) (fun _ _ _ _ _ => de_callB call_absDD rfl T.n_abs (by decide +kernel) (da_cons (de_var (pv 1)) (da_nil)))) (da_nil)))))))
abbrev s_l_take : Stmt := top 16
abbrev N_l_take : List Str := ["_law_bag_here", "_law_upto", "_law_begin", "_law_second", "_law_cell", "_law_stirred", "_law_value"]
theorem sc_l_take : FnScope N_l_take ["_law_bag_here", "_law_upto"] (defScope s_l_take) := ⟨rfl, rfl, rfl, by decide +kernel, rfl, by decide +kernel, by decide +kernel⟩
def b_l_take : MS := sSeq (sIf (tOf (mBin (eqA false) (mBin idxD (mVar 0) (mC (.int 0))) (mC (.int 0)))) (sSeq (sAsg (mBin idxD (mBin addA (mSl (mBin idxD (mVar 0) (mC (.int 3))) (oYes (mBin idxD (mVar 0) (mC (.int 2)))) (oNo)) (mCall lstF (mCons (mC (.int 0)) (mNil)))) (mC (.int 0))) (gSet 4))
    (sSeq (sAugS (mVar 0) (mC (.int 2)) (mC (.int 1)) getF iaddI setF)
    (sSeq (sIf (tOf (mBin geD (mVar 4) (mBin powD (mC (.int 10)) (mC (.int 18))))) (sAsg (mVar 4) (gSubD (mVar 0) (mC (.int 0)) setF)) (sNil))
    (sSeq (sAsg (mBin addA (mBin addA (mBin mulD (mBin idxD (mVar 0) (mC (.int 1))) (mC (.int 48271))) (mBin modD (mCall intD (mCons (mVar 4) (mNil))) (mC (.int 2147483647)))) (mBin mulD (mC (.int 7919)) (mBin idxD (mVar 0) (mC (.int 2))))) (gSet 5))
    (sAsg (mBin modD (mCall intD (mCons (mVar 5) (mNil))) (mC (.int 2147483647))) (gSubD (mVar 0) (mC (.int 1)) setF)))))) (sNil))
    (sSeq (sIf (tOf (mBin gtD (mBin idxD (mVar 0) (mC (.int 0))) (mC (.int 0)))) (sSeq (sAsg (mBin modD (mCall intD (mCons (mBin idxD (mVar 0) (mC (.int 0))) (mNil))) (mVar 1)) (gSet 6))
    (sSeq (sAsg (mBin fdivD (mCall intD (mCons (mBin idxD (mVar 0) (mC (.int 0))) (mNil))) (mVar 1)) (gSubD (mVar 0) (mC (.int 0)) setF))
    (sRet (mVar 6)))) (sNil))
    (sSeq (sAsg (mBin modD (mCall intD (mCons (mBin mulD (mBin addA (mBin idxD (mVar 0) (mC (.int 1))) (mC (.int 1))) (mC (.int 39373))) (mNil))) (mC (.int 1000000007))) (gSet 2))
    (sSeq (sAsg (mBin modD (mCall intD (mCons (mBin mulD (mBin modD (mCall intD (mCons (mBin mulD (mVar 2) (mVar 2)) (mNil))) (mC (.int 998244353))) (mC (.int 30011))) (mNil))) (mC (.int 998244353))) (gSet 3))
    (sRet (mBin modD (mCall intD (mCons (mBin fdivD (mVar 3) (mC (.int 7))) (mNil))) (mVar 1))))))
def f_l_take : FS := runF 7 b_l_take
theorem ok_l_take {tl : TL} {P : Program} {w : World} {K : PySem.W.Frag} {mg : Str → Option Value} {fa : Addr} {fd : FuncData} (F : Fun K "_law_take" "_law_take" s_l_take fa fd) (T : Txt mg)  : ∀ {τ : Tbs} {base : Heap}, Bs tl τ K mg base → FnG P w K mg base 1 fa fd ["_law_bag_here", "_law_upto"] (spD τ K 2 f_l_take) :=
  fun bs => fnG (k := 0) (N := N_l_take) (ps := ["_law_bag_here", "_law_upto"]) (b := b_l_take) F sc_l_take fun cdv A outer s H E hr hg => dss_cons (ds_if (dt_cmp (op_eqA hr.units) (de_ix (de_var (pv 0)) (de_int)) (de_int)) (dss_cons (ds_set (i := 4) sc_l_take.nd rfl (Or.inl rfl) (de_ix (de_bin op_addA (de_sl (de_ix (de_var (pv 0)) (de_int)) (do_yes (de_ix (de_var (pv 0)) (de_int))) (do_no)) (de_lst (da_cons (de_int) (da_nil)))) (de_int)))
    (dss_cons (ds_augS (de_var (pv 0)) (de_int) get_D (de_int) ip_addI set_D)
    (dss_cons (ds_if (dt_cmp op_geD (de_var (pv 4)) (de_bin op_powD (de_int) (de_int))) (dss_one (ds_asg (vis := []) (de_var (pv 4)) (dg_sub (vis := []) (de_var (pv 0)) (de_int) set_D))) (dss_nil))
    (dss_cons (ds_set (i := 5) sc_l_take.nd rfl (Or.inl rfl) (de_bin op_addA (de_bin op_addA (de_bin op_mulD (de_ix (de_var (pv 0)) (de_int)) (de_int)) (de_bin op_modD (de_callTy call_intDD rfl T.n_int (by decide +kernel) (da_cons (de_var (pv 4)) (da_nil))) (de_int))) (de_bin op_mulD (de_int) (de_ix (de_var (pv 0)) (de_int)))))
    (dss_one (ds_asg (vis := []) (de_bin op_modD (de_callTy call_intDD rfl T.n_int (by decide +kernel) (da_cons (de_var (pv 5)) (da_nil))) (de_int)) (dg_sub (vis := []) (de_var (pv 0)) (de_int) set_D))))))) (dss_nil))
    (dss_cons (ds_if (dt_cmp op_gtD (de_ix (de_var (pv 0)) (de_int)) (de_int)) (dss_cons (ds_set (i := 6) sc_l_take.nd rfl (Or.inl rfl) (de_bin op_modD (de_callTy call_intDD rfl T.n_int (by decide +kernel) (da_cons (de_ix (de_var (pv 0)) (de_int)) (da_nil))) (de_var (pv 1))))
    (dss_cons (ds_asg (vis := []) (de_bin op_fdivD (de_callTy call_intDD rfl T.n_int (by decide +kernel) (da_cons (de_ix (de_var (pv 0)) (de_int)) (da_nil))) (de_var (pv 1))) (dg_sub (vis := []) (de_var (pv 0)) (de_int) set_D))
    (dss_one (ds_ret (de_var (pv 6)))))) (dss_nil))
    (dss_cons (ds_set (i := 2) sc_l_take.nd rfl (Or.inl rfl) (de_bin op_modD (de_callTy call_intDD rfl T.n_int (by decide +kernel) (da_cons (de_bin op_mulD (de_bin op_addA (de_ix (de_var (pv 0)) (de_int)) (de_int)) (de_int)) (da_nil))) (de_int)))
    (dss_cons (ds_set (i := 3) sc_l_take.nd rfl (Or.inl rfl) (de_bin op_modD (de_callTy call_intDD rfl T.n_int (by decide +kernel) (da_cons (de_bin op_mulD (de_bin op_modD (de_callTy call_intDD rfl T.n_int (by decide +kernel) (da_cons (de_bin op_mulD (de_var (pv 2)) (de_var (pv 2))) (da_nil))) (de_int)) (de_int)) (da_nil))) (de_int)))
    (dss_one (ds_ret (de_bin op_modD (de_callTy call_intDD rfl T.n_int (by decide +kernel) (da_cons (de_bin op_fdivD (de_var (pv 3)) (de_int)) (da_nil))) (de_var (pv 1))))))))
abbrev s_l_alike : Stmt := top 18
abbrev N_l_alike : List Str := ["_law_found", "_law_due"]
theorem sc_l_alike : FnScope N_l_alike ["_law_found", "_law_due"] (defScope s_l_alike) := ⟨rfl, rfl, rfl, by decide +kernel, rfl, by decide +kernel, by decide +kernel⟩
def b_l_alike : MS := sRet (vAnd (mBin (eqA false) (mVar 0) (mVar 1)) (mBin (eqA false) (mCall reprD (mCons (mVar 0) (mNil))) (mCall reprD (mCons (mVar 1) (mNil)))))
def f_l_alike : FS := runF 2 b_l_alike
theorem ok_l_alike {tl : TL} {P : Program} {w : World} {K : PySem.W.Frag} {mg : Str → Option Value} {fa : Addr} {fd : FuncData} (F : Fun K "_law_alike" "_law_alike" s_l_alike fa fd) (T : Txt mg)  : ∀ {τ : Tbs} {base : Heap}, Bs tl τ K mg base → FnG P w K mg base 1 fa fd ["_law_found", "_law_due"] (spD τ K 2 f_l_alike) :=
  fun bs => fnG (k := 0) (N := N_l_alike) (ps := ["_law_found", "_law_due"]) (b := b_l_alike) F sc_l_alike fun cdv A outer s H E hr hg => dss_one (ds_ret (de_and (de_cmp (op_eqA hr.units) (de_var (pv 0)) (de_var (pv 1))) (de_one (de_cmp (op_eqA hr.units) (de_callB (call_reprDD hr hg) rfl T.n_repr (by decide +kernel) (da_cons (de_var (pv 0)) (da_nil))) (de_callB (call_reprDD hr hg) rfl T.n_repr (by decide +kernel) (da_cons (de_var (pv 1)) (da_nil)))))))
abbrev s_l_steps : Stmt := top 23
abbrev N_l_steps : List Str := ["_law_bench_here", "_law_content", "_law_found", "_law_k", "_law_v", "_law_w"]
theorem sc_l_steps : FnScope N_l_steps ["_law_bench_here", "_law_content"] (defScope s_l_steps) := ⟨rfl, rfl, rfl, by decide +kernel, rfl, by decide +kernel, by decide +kernel⟩
def L_l_steps_1 : MS := sExpr (mMt extendF (mVar 2) (mCons (mBin repL (mCall lstF (mCons (mBin addA (mBin addA (mSl (mVar 1) (oNo) (oYes (mVar 3))) (mCall tupF (mCons (mVar 5) (mNil)))) (mSl (mVar 1) (oYes (mBin addA (mVar 3) (mC (.int 1)))) (oNo))) (mNil))) (mCall intD (mCons (mBin (eqA false) (mVar 4) (mBin idxD (mVar 1) (mVar 3))) (mNil)))) (mNil)))
def L_l_steps_2 : MS := sFor (iSeq (mBin idxD (mBin idxD (mVar 0) (mVar 3)) (mC (.int 1)))) (gTupD 2 (gsCons (gSet 4) (gsCons (gSet 5) (gsNil)))) (L_l_steps_1)
def b_l_steps : MS := sSeq (sAsg (mCall lstB (mNil)) (gSet 2))
    (sSeq (sFor (iRng1D (mCons (mCall lenD (mCons (mVar 0) (mNil))) (mNil))) (gSet 3) (L_l_steps_2))
    (sRet (mCall sortedD (mCons (mVar 2) (mNil)))))
def f_l_steps : FS := runF 6 b_l_steps
theorem ok_l_steps {tl : TL} {P : Program} {w : World} {K : PySem.W.Frag} {mg : Str → Option Value} {fa : Addr} {fd : FuncData} (F : Fun K "_law_steps" "_law_steps" s_l_steps fa fd) (T : Txt mg)  : ∀ {τ : Tbs} {base : Heap}, Bs tl τ K mg base → FnG P w K mg base 1 fa fd ["_law_bench_here", "_law_content"] (spD τ K 2 f_l_steps) :=
  fun bs => fnG (k := 0) (N := N_l_steps) (ps := ["_law_bench_here", "_law_content"]) (b := b_l_steps) F sc_l_steps fun cdv A outer s H E hr hg => dss_cons (ds_set (i := 2) sc_l_steps.nd rfl (Or.inl rfl) (de_lstB (da_nil)))
    (dss_cons (ds_for (vis := [3]) PassesOwn.never rfl (di_rng1 rfl T.n_range (da_cons (de_callB call_lenDD rfl T.n_len (by decide +kernel) (da_cons (de_var (pv 0)) (da_nil))) (da_nil))) (dg_name (i := 3) sc_l_steps.nd rfl (Or.inl rfl)) (dss_one (ds_for (vis := [4, 5]) PassesOwn.never rfl (di_seq (de_ix (de_ix (de_var (pv 0)) (de_var (pv 3))) (de_int))) (dg_tup rfl (dgs_cons (dg_name (i := 4) sc_l_steps.nd rfl (Or.inl rfl)) (dgs_cons (dg_name (i := 5) sc_l_steps.nd rfl (Or.inl rfl)) (dgs_nil)))) (dss_one (ds_expr (de_bm PySem.F.slot_list_extend PySem.F.type_list_extend mt_extendD (de_var (pv 2)) (da_cons (de_bin op_repL (de_lst (da_cons (de_bin op_addA (de_bin op_addA (de_sl (de_var (pv 1)) (do_no) (do_yes (de_var (pv 3)))) (de_tup (da_cons (de_var (pv 5)) (da_nil)))) (de_sl (de_var (pv 1)) (do_yes (de_bin op_addA (de_var (pv 3)) (de_int))) (do_no))) (da_nil))) (de_callTy call_intDD rfl T.n_int (by decide +kernel) (da_cons (de_cmp (op_eqA hr.units) (de_var (pv 4)) (de_ix (de_var (pv 1)) (de_var (pv 3)))) (da_nil)))) (da_nil))))))))
    (dss_one (ds_ret (de_callB (call_sortedDD hr) rfl T.n_sorted (by decide +kernel) (da_cons (de_var (pv 2)) (da_nil))))))
abbrev s_l_flat : Stmt := top 30
abbrev N_l_flat : List Str := ["_law_rows", "_law_found", "_law_row"]
theorem sc_l_flat : FnScope N_l_flat ["_law_rows"] (defScope s_l_flat) := ⟨rfl, rfl, rfl, by decide +kernel, rfl, by decide +kernel, by decide +kernel⟩
def L_l_flat_1 : MS := sExpr (mMt extendF (mVar 1) (mCons (mVar 2) (mNil)))
def b_l_flat : MS := sSeq (sAsg (mCall lstB (mNil)) (gSet 1))
    (sSeq (sFor (iSeq (mVar 0)) (gSet 2) (L_l_flat_1))
    (sRet (mFrz (mVar 1))))
def f_l_flat : FS := runF 3 b_l_flat
theorem ok_l_flat {tl : TL} {P : Program} {w : World} {K : PySem.W.Frag} {mg : Str → Option Value} {fa : Addr} {fd : FuncData} (F : Fun K "_law_flat" "_law_flat" s_l_flat fa fd) (T : Txt mg)  : ∀ {τ : Tbs} {base : Heap}, Bs tl τ K mg base → FnG P w K mg base 1 fa fd ["_law_rows"] (spD τ K 1 f_l_flat) :=
  fun bs => fnG (k := 0) (N := N_l_flat) (ps := ["_law_rows"]) (b := b_l_flat) F sc_l_flat fun cdv A outer s H E hr hg => dss_cons (ds_set (i := 1) sc_l_flat.nd rfl (Or.inl rfl) (de_lstB (da_nil)))
    (dss_cons (ds_for (vis := [2]) PassesOwn.never rfl (di_seq (de_var (pv 0))) (dg_name (i := 2) sc_l_flat.nd rfl (Or.inl rfl)) (dss_one (ds_expr (de_bm PySem.F.slot_list_extend PySem.F.type_list_extend mt_extendD (de_var (pv 1)) (da_cons (de_var (pv 2)) (da_nil))))))
    (dss_one (ds_ret (de_frz (de_var (pv 1))))))
abbrev s_is_move : Stmt := top 7
abbrev N_is_move : List Str := ["values", "thing", "one"]
theorem sc_is_move : FnScope N_is_move ["values", "thing"] (defScope s_is_move) := ⟨rfl, rfl, rfl, by decide +kernel, rfl, by decide +kernel, by decide +kernel⟩
def b_is_move : MS := sSeq (sIf (tOrD (tNotD (tTru (mIsi "tuple" (mVar 1)))) (tOrD (tOf (mBin (eqA true) (mCall lenX (mCons (mVar 1) (mNil))) (mC (.int 2)))) (tNotD (tTru (mCall allDD (mCons (mLc (iSeqK (mVar 1)) (gSet 2) (tTrue) (mCall (callF f_is_integer) (mCons (mVar 2) (mNil))) [2] kFrz) (mNil))))))) (sRet (mC (.bool false))) (sNil))
    (sRet (vAnd (mBin (eqA true) (mBin ixY (mVar 1) (mC (.int 0))) (mBin ixY (mVar 1) (mC (.int 1)))) (mCall allDD (mCons (mLc (iSeqK (mVar 1)) (gSet 2) (tTrue) (vChain leD ltD (mC (.int 0)) (mVar 2) (mVar 0)) [2] kFrz) (mNil)))))
def f_is_move : FS := runF 3 b_is_move
theorem ok_is_move {tl : TL} {P : Program} {w : World} {K : PySem.W.Frag} {mg : Str → Option Value} {fa : Addr} {fd : FuncData} (F : Fun K "is_move" "is_move" s_is_move fa fd) (T : Txt mg) (c_is_integer : CalA tl P w K mg "is_integer" 1 ["thing"] f_is_integer) : ∀ {τ : Tbs} {base : Heap}, Bs tl τ K mg base → FnG P w K mg base 2 fa fd ["values", "thing"] (spD τ K 2 f_is_move) :=
  fun bs => fnG (k := 1) (N := N_is_move) (ps := ["values", "thing"]) (b := b_is_move) F sc_is_move fun cdv A outer s H E hr hg => dss_cons (ds_if (PW.pt (dw_or (dt_not (dt_tru (de_isi (by decide) rfl T.n_isinstance (by decide +kernel) rfl T.n_tuple (by decide +kernel) (de_var (pv 1))))) (dw_or (dt_cmp (op_neA hr.units) (de_callB call_lenX rfl T.n_len (by decide +kernel) (da_cons (de_var (pv 1)) (da_nil))) (de_int)) (dw_or1 (dt_not (dt_tru (de_callB (call_allDD rfl) rfl T.n_all (by decide +kernel) (da_cons (de_lc (own := [("one", 2)]) rfl sc_is_move.nd (di_seqK (de_var (pv 1))) (blkOk_by (own := [("one", 2)]) (N := N_is_move) (sc := defScope s_is_move) (by decide +kernel)) (fun _ _ _ _ _ => dg_name (i := 2) sc_is_move.nd rfl (Or.inl rfl)) (fun _ _ _ _ _ => dts_nil) (fun _ _ _ _ _ => de_callC (c_is_integer bs) hr hg (by decide) rfl (da_cons (de_var (pv 2)) (da_nil)) (ArgN.cons ArgN.nil) rfl)) (da_nil))))))))) (dss_one (ds_ret (de_bl))) (dss_nil))
    (dss_one (ds_ret (de_and (de_cmp (op_neA hr.units) (de_ixY hr (de_var (pv 1)) (de_int)) (de_ixY hr (de_var (pv 1)) (de_int))) (de_one (de_callB (call_allDD rfl) rfl T.n_all (by decide +kernel) (da_cons (de_lc (own := [("one", 2)]) rfl sc_is_move.nd (di_seqK (de_var (pv 1))) (blkOk_by (own := [("one", 2)]) (N := N_is_move) (sc := defScope s_is_move) (by decide +kernel)) (fun _ _ _ _ _ => dg_name (i := 2) sc_is_move.nd rfl (Or.inl rfl)) (fun _ _ _ _ _ => dts_nil) (fun _ _ _ _ _ => de_chain op_leD (op_ltDD hr) (de_int) (de_var (pv 2)) (de_var (pv 0)))) (da_nil)))))))
abbrev s_is_content : Stmt := top 9
abbrev N_is_content : List Str := ["bench", "thing", "one", "place"]
theorem sc_is_content : FnScope N_is_content ["bench", "thing"] (defScope s_is_content) := ⟨rfl, rfl, rfl, by decide +kernel, rfl, by decide +kernel, by decide +kernel⟩
def b_is_content : MS := sSeq (sIf (tOrD (tNotD (tTru (mIsi "tuple" (mVar 1)))) (tOf (mBin (eqA true) (mCall lenX (mCons (mVar 1) (mNil))) (mCall lenX (mCons (mVar 0) (mNil)))))) (sRet (mC (.bool false))) (sNil))
    (sRet (mCall allDD (mCons (mLc (iZipD (mCons (mVar 1) (mCons (mVar 0) (mNil)))) (gTupD 2 (gsCons (gSet 2) (gsCons (gSet 3) (gsNil)))) (tTrue) (vAndT (mCall (callF f_is_integer) (mCons (mVar 2) (mNil))) (vChain leD ltD (mC (.int 0)) (mVar 2) (mBin ixY (mVar 3) (mC (.int 0))))) [2, 3] kFrz) (mNil))))
def f_is_content : FS := runF 4 b_is_content
theorem ok_is_content {tl : TL} {P : Program} {w : World} {K : PySem.W.Frag} {mg : Str → Option Value} {fa : Addr} {fd : FuncData} (F : Fun K "is_content" "is_content" s_is_content fa fd) (T : Txt mg) (c_is_integer : CalA tl P w K mg "is_integer" 1 ["thing"] f_is_integer) : ∀ {τ : Tbs} {base : Heap}, Bs tl τ K mg base → FnG P w K mg base 2 fa fd ["bench", "thing"] (spD τ K 2 f_is_content) :=
  fun bs => fnG (k := 1) (N := N_is_content) (ps := ["bench", "thing"]) (b := b_is_content) F sc_is_content fun cdv A outer s H E hr hg => dss_cons (ds_if (PW.pt (dw_or (dt_not (dt_tru (de_isi (by decide) rfl T.n_isinstance (by decide +kernel) rfl T.n_tuple (by decide +kernel) (de_var (pv 1))))) (dw_or1 (dt_cmp (op_neA hr.units) (de_callB call_lenX rfl T.n_len (by decide +kernel) (da_cons (de_var (pv 1)) (da_nil))) (de_callB call_lenX rfl T.n_len (by decide +kernel) (da_cons (de_var (pv 0)) (da_nil))))))) (dss_one (ds_ret (de_bl))) (dss_nil))
    (dss_one (ds_ret (de_callB (call_allDD rfl) rfl T.n_all (by decide +kernel) (da_cons (de_lc (own := [("one", 2), ("place", 3)]) rfl sc_is_content.nd (di_zipT rfl T.n_zip (da_cons (de_var (pv 1)) (da_cons (de_var (pv 0)) (da_nil)))) (blkOk_by (own := [("one", 2), ("place", 3)]) (N := N_is_content) (sc := defScope s_is_content) (by decide +kernel)) (fun _ _ _ _ _ => dg_tup rfl (dgs_cons (dg_name (i := 2) sc_is_content.nd rfl (Or.inl rfl)) (dgs_cons (dg_name (i := 3) sc_is_content.nd rfl (Or.inl rfl)) (dgs_nil)))) (fun _ _ _ _ _ => dts_nil) (fun _ _ _ _ _ => de_andT (de_callC (c_is_integer bs) hr hg (by decide) rfl (da_cons (de_var (pv 2)) (da_nil)) (ArgN.cons ArgN.nil) rfl) (de_one (de_chain op_leD (op_ltDD hr) (de_int) (de_var (pv 2)) (de_ixY hr (de_var (pv 3)) (de_int)))))) (da_nil)))))
abbrev s_is_among : Stmt := top 11
abbrev N_is_among : List Str := ["rests", "thing", "one"]
theorem sc_is_among : FnScope N_is_among ["rests", "thing"] (defScope s_is_among) := ⟨rfl, rfl, rfl, by decide +kernel, rfl, by decide +kernel, by decide +kernel⟩
def b_is_among : MS := sRet (vAndT (mIsi "tuple" (mVar 1)) (vAndT (mCall allDD (mCons (mLc (iSeqK (mVar 1)) (gSet 2) (tTrue) (mCall (callF f_is_integer) (mCons (mVar 2) (mNil))) [2] kFrz) (mNil))) (mBin (inZ false) (mVar 1) (mVar 0))))
def f_is_among : FS := runF 3 b_is_among
theorem ok_is_among {tl : TL} {P : Program} {w : World} {K : PySem.W.Frag} {mg : Str → Option Value} {fa : Addr} {fd : FuncData} (F : Fun K "is_among" "is_among" s_is_among fa fd) (T : Txt mg) (c_is_integer : CalA tl P w K mg "is_integer" 1 ["thing"] f_is_integer) : ∀ {τ : Tbs} {base : Heap}, Bs tl τ K mg base → FnG P w K mg base 2 fa fd ["rests", "thing"] (spD τ K 2 f_is_among) :=
  fun bs => fnG (k := 1) (N := N_is_among) (ps := ["rests", "thing"]) (b := b_is_among) F sc_is_among fun cdv A outer s H E hr hg => dss_one (ds_ret (de_andT (de_isi (by decide) rfl T.n_isinstance (by decide +kernel) rfl T.n_tuple (by decide +kernel) (de_var (pv 1))) (de_andT (de_callB (call_allDD rfl) rfl T.n_all (by decide +kernel) (da_cons (de_lc (own := [("one", 2)]) rfl sc_is_among.nd (di_seqK (de_var (pv 1))) (blkOk_by (own := [("one", 2)]) (N := N_is_among) (sc := defScope s_is_among) (by decide +kernel)) (fun _ _ _ _ _ => dg_name (i := 2) sc_is_among.nd rfl (Or.inl rfl)) (fun _ _ _ _ _ => dts_nil) (fun _ _ _ _ _ => de_callC (c_is_integer bs) hr hg (by decide) rfl (da_cons (de_var (pv 2)) (da_nil)) (ArgN.cons ArgN.nil) rfl)) (da_nil))) (de_one (de_cmp (op_inZ hr) (de_var (pv 1)) (de_var (pv 0)))))))
abbrev s_l_some : Stmt := top 17
abbrev N_l_some : List Str := ["_law_bag_here", "_law_things"]
theorem sc_l_some : FnScope N_l_some ["_law_bag_here", "_law_things"] (defScope s_l_some) := ⟨rfl, rfl, rfl, by decide +kernel, rfl, by decide +kernel, by decide +kernel⟩
def b_l_some : MS := sRet (mBin idxD (mVar 1) (mCall (callF f_l_take) (mCons (mVar 0) (mCons (mCall lenD (mCons (mVar 1) (mNil))) (mNil)))))
def f_l_some : FS := runF 2 b_l_some
theorem ok_l_some {tl : TL} {P : Program} {w : World} {K : PySem.W.Frag} {mg : Str → Option Value} {fa : Addr} {fd : FuncData} (F : Fun K "_law_some" "_law_some" s_l_some fa fd) (T : Txt mg) (c_l_take : CalA tl P w K mg "_law_take" 1 ["_law_bag_here", "_law_upto"] f_l_take) : ∀ {τ : Tbs} {base : Heap}, Bs tl τ K mg base → FnG P w K mg base 2 fa fd ["_law_bag_here", "_law_things"] (spD τ K 2 f_l_some) :=
  fun bs => fnG (k := 1) (N := N_l_some) (ps := ["_law_bag_here", "_law_things"]) (b := b_l_some) F sc_l_some fun cdv A outer s H E hr hg => dss_one (ds_ret (de_ix (de_var (pv 1)) (de_callC (c_l_take bs) hr hg (by decide) rfl (da_cons (de_var (pv 0)) (da_cons (de_callB call_lenDD rfl T.n_len (by decide +kernel) (da_cons (de_var (pv 1)) (da_nil))) (da_nil))) (ArgN.cons (ArgN.cons ArgN.nil)) rfl)))
abbrev s_l_mixed : Stmt := top 19
abbrev N_l_mixed : List Str := ["_law_bag_here", "_law_things", "_law_found", "_law_thing"]
theorem sc_l_mixed : FnScope N_l_mixed ["_law_bag_here", "_law_things"] (defScope s_l_mixed) := ⟨rfl, rfl, rfl, by decide +kernel, rfl, by decide +kernel, by decide +kernel⟩
def L_l_mixed_1 : MS := sExpr (mMt insertF (mVar 2) (mCons (mCall (callF f_l_take) (mCons (mVar 0) (mCons (mBin addA (mCall lenD (mCons (mVar 2) (mNil))) (mC (.int 1))) (mNil)))) (mCons (mVar 3) (mNil))))
def b_l_mixed : MS := sSeq (sAsg (mCall lstB (mNil)) (gSet 2))
    (sSeq (sFor (iSeq (mVar 1)) (gSet 3) (L_l_mixed_1))
    (sRet (mFrz (mVar 2))))
def f_l_mixed : FS := runF 4 b_l_mixed
theorem ok_l_mixed {tl : TL} {P : Program} {w : World} {K : PySem.W.Frag} {mg : Str → Option Value} {fa : Addr} {fd : FuncData} (F : Fun K "_law_mixed" "_law_mixed" s_l_mixed fa fd) (T : Txt mg) (c_l_take : CalA tl P w K mg "_law_take" 1 ["_law_bag_here", "_law_upto"] f_l_take) : ∀ {τ : Tbs} {base : Heap}, Bs tl τ K mg base → FnG P w K mg base 2 fa fd ["_law_bag_here", "_law_things"] (spD τ K 2 f_l_mixed) :=
  fun bs => fnG (k := 1) (N := N_l_mixed) (ps := ["_law_bag_here", "_law_things"]) (b := b_l_mixed) F sc_l_mixed fun cdv A outer s H E hr hg => dss_cons (ds_set (i := 2) sc_l_mixed.nd rfl (Or.inl rfl) (de_lstB (da_nil)))
    (dss_cons (ds_for (vis := [3]) PassesOwn.never rfl (di_seq (de_var (pv 1))) (dg_name (i := 3) sc_l_mixed.nd rfl (Or.inl rfl)) (dss_one (ds_expr (de_bm PySem.F.slot_list_insert PySem.F.type_list_insert mt_insertD (de_var (pv 2)) (da_cons (de_callC (c_l_take bs) hr hg (by decide) rfl (da_cons (de_var (pv 0)) (da_cons (de_bin op_addA (de_callB call_lenDD rfl T.n_len (by decide +kernel) (da_cons (de_var (pv 2)) (da_nil))) (de_int)) (da_nil))) (ArgN.cons (ArgN.cons ArgN.nil)) rfl) (da_cons (de_var (pv 3)) (da_nil)))))))
    (dss_one (ds_ret (de_frz (de_var (pv 2))))))
abbrev s_l_contents : Stmt := top 22
abbrev N_l_contents : List Str := ["_law_bench_here", "_law_found", "_law_place_here", "_law_content", "_law_value"]
theorem sc_l_contents : FnScope N_l_contents ["_law_bench_here"] (defScope s_l_contents) := ⟨rfl, rfl, rfl, by decide +kernel, rfl, by decide +kernel, by decide +kernel⟩
def L_l_contents_1 : MS := sAsg (mCall (callF f_l_flat) (mCons (mLc (iSeq (mVar 1)) (gSet 3) (tTrue) (mLc (iRng1D (mCons (mBin idxD (mVar 2) (mC (.int 0))) (mNil))) (gSet 4) (tTrue) (mBin addA (mVar 3) (mCall tupF (mCons (mVar 4) (mNil)))) [4] kFrz) [3] kFrz) (mNil))) (gSet 1)
def b_l_contents : MS := sSeq (sAsg (mCall lstF (mCons (mCall tupF (mNil)) (mNil))) (gSet 1))
    (sSeq (sFor (iSeq (mVar 0)) (gSet 2) (L_l_contents_1))
    (sRet (mVar 1)))
def f_l_contents : FS := runF 5 b_l_contents
theorem ok_l_contents {tl : TL} {P : Program} {w : World} {K : PySem.W.Frag} {mg : Str → Option Value} {fa : Addr} {fd : FuncData} (F : Fun K "_law_contents" "_law_contents" s_l_contents fa fd) (T : Txt mg) (c_l_flat : CalA tl P w K mg "_law_flat" 1 ["_law_rows"] f_l_flat) : ∀ {τ : Tbs} {base : Heap}, Bs tl τ K mg base → FnG P w K mg base 2 fa fd ["_law_bench_here"] (spD τ K 1 f_l_contents) :=
  fun bs => fnG (k := 1) (N := N_l_contents) (ps := ["_law_bench_here"]) (b := b_l_contents) F sc_l_contents fun cdv A outer s H E hr hg => dss_cons (ds_set (i := 1) sc_l_contents.nd rfl (Or.inl rfl) (de_lst (da_cons (de_tup (da_nil)) (da_nil))))
    (dss_cons (ds_for (vis := [2]) PassesOwn.never rfl (di_seq (de_var (pv 0))) (dg_name (i := 2) sc_l_contents.nd rfl (Or.inr rfl)) (dss_one (ds_set (i := 1) sc_l_contents.nd rfl (Or.inl rfl) (de_callC (c_l_flat bs) hr hg (by decide) rfl (da_cons (de_lc (own := [("_law_content", 3)]) rfl sc_l_contents.nd (di_seq (de_var (pv 1))) (blkOk_by (own := [("_law_content", 3)]) (N := N_l_contents) (sc := defScope s_l_contents) (by decide +kernel)) (fun _ _ _ _ _ => dg_name (i := 3) sc_l_contents.nd rfl (Or.inr rfl)) (fun _ _ _ _ _ => dts_nil) (fun _ _ _ _ _ => de_lc (own := [("_law_value", 4)]) rfl sc_l_contents.nd (di_rng1 rfl T.n_range (da_cons (de_ix (de_var (pv 2)) (de_int)) (da_nil))) (blkOk_by (own := [("_law_value", 4)]) (N := N_l_contents) (sc := { kind := .function, names := [(".0", .local), ("_law_content", .cell), ("range", .globalImplicit), ("_law_place_here", .cell)], isGenerator := false, isCoroutine := false }) (by decide +kernel)) (fun _ _ _ _ _ => dg_name (i := 4) sc_l_contents.nd rfl (Or.inl rfl)) (fun _ _ _ _ _ => dts_nil) (fun _ _ _ _ _ => de_bin op_addA (de_var (pv 3)) (de_tup (da_cons (de_var (pv 4)) (da_nil)))))) (da_nil)) (ArgN.cons ArgN.nil) rfl))))
    (dss_one (ds_ret (de_var (pv 1)))))
abbrev s_l_ends : Stmt := top 28
abbrev N_l_ends : List Str := ["_law_bag_here", "_law_rests_here", "_law_start", "_law_goal", "_law_way", "_law_some_here", "_law_rest"]
theorem sc_l_ends : FnScope N_l_ends ["_law_bag_here", "_law_rests_here", "_law_start", "_law_goal"] (defScope s_l_ends) := ⟨rfl, rfl, rfl, by decide +kernel, rfl, by decide +kernel, by decide +kernel⟩
def b_l_ends : MS := sSeq (sAsg (mCall (callF f_l_take) (mCons (mVar 0) (mCons (mC (.int 8)) (mNil)))) (gSet 4))
    (sSeq (sAsg (mCall lstF (mCons (mCall lstF (mCons (mVar 2) (mCons (mVar 3) (mNil)))) (mCons (mCall lstF (mCons (mVar 2) (mCons (mVar 3) (mNil)))) (mCons (mCall lstF (mCons (mVar 2) (mCons (mVar 3) (mNil)))) (mCons (mCall lstF (mCons (mVar 3) (mNil))) (mCons (mCall lstF (mCons (mVar 2) (mNil))) (mCons (mCall lstF (mNil)) (mCons (mCall listD (mCons (mVar 1) (mNil))) (mNil))))))))) (gSet 5))
    (sSeq (sIf (tOf (mBin ltD (mVar 4) (mC (.int 7)))) (sRet (mCall tupleD (mCons (mCall sortedA (mCons (mBin ixY (mVar 5) (mVar 4)) (mNil))) (mNil)))) (sNil))
    (sRet (mCall tupleD (mCons (mLc (iSeq (mVar 1)) (gSet 6) (tOf (mBin (eqA false) (mCall (callF f_l_take) (mCons (mVar 0) (mCons (mC (.int 2)) (mNil)))) (mC (.int 0)))) (mVar 6) [6] kFrz) (mNil))))))
def f_l_ends : FS := runF 7 b_l_ends
theorem ok_l_ends {tl : TL} {P : Program} {w : World} {K : PySem.W.Frag} {mg : Str → Option Value} {fa : Addr} {fd : FuncData} (F : Fun K "_law_ends" "_law_ends" s_l_ends fa fd) (T : Txt mg) (c_l_take : CalA tl P w K mg "_law_take" 1 ["_law_bag_here", "_law_upto"] f_l_take) : ∀ {τ : Tbs} {base : Heap}, Bs tl τ K mg base → FnG P w K mg base 2 fa fd ["_law_bag_here", "_law_rests_here", "_law_start", "_law_goal"] (spD τ K 4 f_l_ends) :=
  fun bs => fnG (k := 1) (N := N_l_ends) (ps := ["_law_bag_here", "_law_rests_here", "_law_start", "_law_goal"]) (b := b_l_ends) F sc_l_ends fun cdv A outer s H E hr hg => dss_cons (ds_set (i := 4) sc_l_ends.nd rfl (Or.inl rfl) (de_callC (c_l_take bs) hr hg (by decide) rfl (da_cons (de_var (pv 0)) (da_cons (de_int) (da_nil))) (ArgN.cons (ArgN.cons ArgN.nil)) rfl))
    (dss_cons (ds_set (i := 5) sc_l_ends.nd rfl (Or.inl rfl) (de_lst (da_cons (de_lst (da_cons (de_var (pv 2)) (da_cons (de_var (pv 3)) (da_nil)))) (da_cons (de_lst (da_cons (de_var (pv 2)) (da_cons (de_var (pv 3)) (da_nil)))) (da_cons (de_lst (da_cons (de_var (pv 2)) (da_cons (de_var (pv 3)) (da_nil)))) (da_cons (de_lst (da_cons (de_var (pv 3)) (da_nil))) (da_cons (de_lst (da_cons (de_var (pv 2)) (da_nil))) (da_cons (de_lst (da_nil)) (da_cons (de_callTy call_listDD rfl T.n_list (by decide +kernel) (da_cons (de_var (pv 1)) (da_nil))) (da_nil))))))))))
    (dss_cons (ds_if (dt_cmp (op_ltDD hr) (de_var (pv 4)) (de_int)) (dss_one (ds_ret (de_callTy call_tupleDD rfl T.n_tuple (by decide +kernel) (da_cons (de_callB (call_sortedA hr) rfl T.n_sorted (by decide +kernel) (da_cons (de_ixY hr (de_var (pv 5)) (de_var (pv 4))) (da_nil))) (da_nil))))) (dss_nil))
    (dss_one (ds_ret (de_callTy call_tupleDD rfl T.n_tuple (by decide +kernel) (da_cons (de_lc (own := [("_law_rest", 6)]) rfl sc_l_ends.nd (di_seq (de_var (pv 1))) (blkOk_by (own := [("_law_rest", 6)]) (N := N_l_ends) (sc := defScope s_l_ends) (by decide +kernel)) (fun _ _ _ _ _ => dg_name (i := 6) sc_l_ends.nd rfl (Or.inl rfl)) (fun _ _ _ _ _ => dts_one (dt_cmp (op_eqA hr.units) (de_callC (c_l_take bs) hr hg (by decide) rfl (da_cons (de_var (pv 0)) (da_cons (de_int) (da_nil))) (ArgN.cons (ArgN.cons ArgN.nil)) rfl) (de_int))) (fun _ _ _ _ _ => de_var (pv 6))) (da_nil)))))))
abbrev s_l_place : Stmt := top 20
abbrev N_l_place : List Str := ["_law_bag_here", "_law_most", "_law_many", "_law_way", "_law_every", "_law_v", "_law_w"]
theorem sc_l_place : FnScope N_l_place ["_law_bag_here", "_law_most"] (defScope s_l_place) := ⟨rfl, rfl, rfl, by decide +kernel, rfl, by decide +kernel, by decide +kernel⟩
def b_l_place : MS := sSeq (sAsg (mBin addA (mC (.int 2)) (mCall (callF f_l_take) (mCons (mVar 0) (mCons (mBin subD (mVar 1) (mC (.int 1))) (mNil))))) (gSet 2))
    (sSeq (sAsg (mCall (callF f_l_some) (mCons (mVar 0) (mCons (mCall lstF (mCons (mC (.int 0)) (mCons (mC (.int 0)) (mCons (mC (.int 0)) (mCons (mC (.int 2)) (mCons (mC (.int 2)) (mCons (mC (.int 4)) (mCons (mC (.int 4)) (mCons (mC (.int 2)) (mCons (mC (.int 5)) (mCons (mC (.int 6)) (mCons (mC (.int 7)) (mNil))))))))))))) (mNil)))) (gSet 3))
    (sSeq (sAsg (mCall (callF f_l_flat) (mCons (mLc (iRng1D (mCons (mVar 2) (mNil))) (gSet 5) (tTrue) (mLc (iRng1D (mCons (mVar 2) (mNil))) (gSet 6) (tOf (mBin (eqA true) (mVar 6) (mVar 5))) (mCall tupF (mCons (mVar 5) (mCons (mVar 6) (mNil)))) [6] kFrz) [5] kFrz) (mNil))) (gSet 4))
    (sSeq (sIf (tOf (mBin ltD (mVar 3) (mC (.int 2)))) (sRet (mCall tupF (mCons (mVar 2) (mCons (mCall tupleD (mCons (mVar 4) (mNil))) (mNil))))) (sNil))
    (sSeq (sIf (tOrD (tOf (mBin ltD (mVar 3) (mC (.int 4)))) (tAndD (tOf (mBin (eqA false) (mVar 3) (mC (.int 4)))) (tOf (mBin ltD (mVar 2) (mC (.int 3)))))) (sRet (mCall tupF (mCons (mVar 2) (mCons (mCall tupleD (mCons (mLc (iSeq (mVar 4)) (gTupD 2 (gsCons (gSet 5) (gsCons (gSet 6) (gsNil)))) (tOf (mBin (inA false) (mBin subD (mVar 5) (mVar 6)) (mCall tupF (mCons (mC (.int 1)) (mCons (mNeg (mC (.int 1))) (mNil)))))) (mCall tupF (mCons (mVar 5) (mCons (mVar 6) (mNil)))) [5, 6] kFrz) (mNil))) (mNil))))) (sNil))
    (sSeq (sIf (tOf (mBin (eqA false) (mVar 3) (mC (.int 4)))) (sRet (mCall tupF (mCons (mVar 2) (mCons (mCall tupleD (mCons (mLc (iSeq (mVar 4)) (gTupD 2 (gsCons (gSet 5) (gsCons (gSet 6) (gsNil)))) (tOf (mBin (inA false) (mBin modD (mCall intD (mCons (mBin subD (mVar 5) (mVar 6)) (mNil))) (mVar 2)) (mCall tupF (mCons (mC (.int 1)) (mCons (mBin subD (mVar 2) (mC (.int 1))) (mNil)))))) (mCall tupF (mCons (mVar 5) (mCons (mVar 6) (mNil)))) [5, 6] kFrz) (mNil))) (mNil))))) (sNil))
    (sSeq (sIf (tOf (mBin (inA false) (mVar 3) (mCall tupF (mCons (mC (.int 5)) (mCons (mC (.int 7)) (mNil)))))) (sRet (mCall tupF (mCons (mVar 2) (mCons (mCall tupleD (mCons (mLc (iSeq (mVar 4)) (gTupD 2 (gsCons (gSet 5) (gsCons (gSet 6) (gsNil)))) (tAndD (tOf (mBin ltD (mVar 5) (mVar 6))) (tOrD (tOf (mBin (eqA false) (mVar 3) (mC (.int 5)))) (tOf (mBin (eqA false) (mVar 6) (mBin addA (mVar 5) (mC (.int 1))))))) (mCall tupF (mCons (mVar 5) (mCons (mVar 6) (mNil)))) [5, 6] kFrz) (mNil))) (mNil))))) (sNil))
    (sRet (mCall tupF (mCons (mVar 2) (mCons (mCall tupleD (mCons (mCall sortedD (mCons (mSl (mCall (callF f_l_mixed) (mCons (mVar 0) (mCons (mVar 4) (mNil)))) (oNo) (oYes (mCall (callF f_l_take) (mCons (mVar 0) (mCons (mBin addA (mCall lenD (mCons (mVar 4) (mNil))) (mC (.int 1))) (mNil)))))) (mNil))) (mNil))) (mNil)))))))))))
def f_l_place : FS := runF 7 b_l_place
theorem ok_l_place {tl : TL} {P : Program} {w : World} {K : PySem.W.Frag} {mg : Str → Option Value} {fa : Addr} {fd : FuncData} (F : Fun K "_law_place" "_law_place" s_l_place fa fd) (T : Txt mg) (c_l_take : CalA tl P w K mg "_law_take" 1 ["_law_bag_here", "_law_upto"] f_l_take) (c_l_some : CalA tl P w K mg "_law_some" 2 ["_law_bag_here", "_law_things"] f_l_some) (c_l_flat : CalA tl P w K mg "_law_flat" 1 ["_law_rows"] f_l_flat) (c_l_mixed : CalA tl P w K mg "_law_mixed" 2 ["_law_bag_here", "_law_things"] f_l_mixed) : ∀ {τ : Tbs} {base : Heap}, Bs tl τ K mg base → FnG P w K mg base 3 fa fd ["_law_bag_here", "_law_most"] (spD τ K 2 f_l_place) :=
  fun bs => fnG (k := 2) (N := N_l_place) (ps := ["_law_bag_here", "_law_most"]) (b := b_l_place) F sc_l_place fun cdv A outer s H E hr hg => dss_cons (ds_set (i := 2) sc_l_place.nd rfl (Or.inr rfl) (de_bin op_addA (de_int) (de_callC (c_l_take bs) hr hg (by decide) rfl (da_cons (de_var (pv 0)) (da_cons (de_bin op_subD (de_var (pv 1)) (de_int)) (da_nil))) (ArgN.cons (ArgN.cons ArgN.nil)) rfl)))
    (dss_cons (ds_set (i := 3) sc_l_place.nd rfl (Or.inr rfl) (de_callC (c_l_some bs) hr hg (by decide) rfl (da_cons (de_var (pv 0)) (da_cons (de_lst (da_cons (de_int) (da_cons (de_int) (da_cons (de_int) (da_cons (de_int) (da_cons (de_int) (da_cons (de_int) (da_cons (de_int) (da_cons (de_int) (da_cons (de_int) (da_cons (de_int) (da_cons (de_int) (da_nil))))))))))))) (da_nil))) (ArgN.cons (ArgN.cons ArgN.nil)) rfl))
    (dss_cons (ds_set (i := 4) sc_l_place.nd rfl (Or.inl rfl) (de_callC (c_l_flat bs) hr hg (by decide) rfl (da_cons (de_lc (own := [("_law_v", 5)]) rfl sc_l_place.nd (di_rng1 rfl T.n_range (da_cons (de_var (pv 2)) (da_nil))) (blkOk_by (own := [("_law_v", 5)]) (N := N_l_place) (sc := defScope s_l_place) (by decide +kernel)) (fun _ _ _ _ _ => dg_name (i := 5) sc_l_place.nd rfl (Or.inr rfl)) (fun _ _ _ _ _ => dts_nil) (fun _ _ _ _ _ => de_lc (own := [("_law_w", 6)]) rfl sc_l_place.nd (di_rng1 rfl T.n_range (da_cons (de_var (pv 2)) (da_nil))) (blkOk_by (own := [("_law_w", 6)]) (N := N_l_place) (sc := { kind := .function, names := [(".0", .local), ("_law_v", .cell), ("range", .globalImplicit), ("_law_many", .cell)], isGenerator := false, isCoroutine := false }) (by decide +kernel)) (fun _ _ _ _ _ => dg_name (i := 6) sc_l_place.nd rfl (Or.inl rfl)) (fun _ _ _ _ _ => dts_one (dt_cmp (op_neA hr.units) (de_var (pv 6)) (de_var (pv 5)))) (fun _ _ _ _ _ => de_tup (da_cons (de_var (pv 5)) (da_cons (de_var (pv 6)) (da_nil)))))) (da_nil)) (ArgN.cons ArgN.nil) rfl))
    (dss_cons (ds_if (dt_cmp (op_ltDD hr) (de_var (pv 3)) (de_int)) (dss_one (ds_ret (de_tup (da_cons (de_var (pv 2)) (da_cons (de_callTy call_tupleDD rfl T.n_tuple (by decide +kernel) (da_cons (de_var (pv 4)) (da_nil))) (da_nil)))))) (dss_nil))
    (dss_cons (ds_if (PW.pt (dw_or (dt_cmp (op_ltDD hr) (de_var (pv 3)) (de_int)) (dw_or1 (PW.pt (dw_and (dt_cmp (op_eqA hr.units) (de_var (pv 3)) (de_int)) (dw_and1 (dt_cmp (op_ltDD hr) (de_var (pv 2)) (de_int)))))))) (dss_one (ds_ret (de_tup (da_cons (de_var (pv 2)) (da_cons (de_callTy call_tupleDD rfl T.n_tuple (by decide +kernel) (da_cons (de_lc (own := [("_law_v", 5), ("_law_w", 6)]) rfl sc_l_place.nd (di_seq (de_var (pv 4))) (blkOk_by (own := [("_law_v", 5), ("_law_w", 6)]) (N := N_l_place) (sc := defScope s_l_place) (by decide +kernel)) (fun _ _ _ _ _ => dg_tup rfl (dgs_cons (dg_name (i := 5) sc_l_place.nd rfl (Or.inl rfl)) (dgs_cons (dg_name (i := 6) sc_l_place.nd rfl (Or.inl rfl)) (dgs_nil)))) (fun _ _ _ _ _ => dts_one (dt_cmp (op_inA hr.units65) (de_bin op_subD (de_var (pv 5)) (de_var (pv 6))) (de_tup (da_cons (de_int) (da_cons (de_neg (de_int)) (da_nil)))))) (fun _ _ _ _ _ => de_tup (da_cons (de_var (pv 5)) (da_cons (de_var (pv 6)) (da_nil))))) (da_nil))) (da_nil)))))) (dss_nil))
    (dss_cons (ds_if (dt_cmp (op_eqA hr.units) (de_var (pv 3)) (de_int)) (dss_one (ds_ret (de_tup (da_cons (de_var (pv 2)) (da_cons (de_callTy call_tupleDD rfl T.n_tuple (by decide +kernel) (da_cons (de_lc (own := [("_law_v", 5), ("_law_w", 6)]) rfl sc_l_place.nd (di_seq (de_var (pv 4))) (blkOk_by (own := [("_law_v", 5), ("_law_w", 6)]) (N := N_l_place) (sc := defScope s_l_place) (by decide +kernel)) (fun _ _ _ _ _ => dg_tup rfl (dgs_cons (dg_name (i := 5) sc_l_place.nd rfl (Or.inl rfl)) (dgs_cons (dg_name (i := 6) sc_l_place.nd rfl (Or.inl rfl)) (dgs_nil)))) (fun _ _ _ _ _ => dts_one (dt_cmp (op_inA hr.units65) (de_bin op_modD (de_callTy call_intDD rfl T.n_int (by decide +kernel) (da_cons (de_bin op_subD (de_var (pv 5)) (de_var (pv 6))) (da_nil))) (de_var (pv 2))) (de_tup (da_cons (de_int) (da_cons (de_bin op_subD (de_var (pv 2)) (de_int)) (da_nil)))))) (fun _ _ _ _ _ => de_tup (da_cons (de_var (pv 5)) (da_cons (de_var (pv 6)) (da_nil))))) (da_nil))) (da_nil)))))) (dss_nil))
    (dss_cons (ds_if (dt_cmp (op_inA hr.units65) (de_var (pv 3)) (de_tup (da_cons (de_int) (da_cons (de_int) (da_nil))))) (dss_one (ds_ret (de_tup (da_cons (de_var (pv 2)) (da_cons (de_callTy call_tupleDD rfl T.n_tuple (by decide +kernel) (da_cons (de_lc (own := [("_law_v", 5), ("_law_w", 6)]) rfl sc_l_place.nd (di_seq (de_var (pv 4))) (blkOk_by (own := [("_law_v", 5), ("_law_w", 6)]) (N := N_l_place) (sc := defScope s_l_place) (by decide +kernel)) (fun _ _ _ _ _ => dg_tup rfl (dgs_cons (dg_name (i := 5) sc_l_place.nd rfl (Or.inl rfl)) (dgs_cons (dg_name (i := 6) sc_l_place.nd rfl (Or.inl rfl)) (dgs_nil)))) (fun _ _ _ _ _ => dts_one (PW.pt (dw_and (dt_cmp (op_ltDD hr) (de_var (pv 5)) (de_var (pv 6))) (dw_and1 (PW.pt (dw_or (dt_cmp (op_eqA hr.units) (de_var (pv 3)) (de_int)) (dw_or1 (dt_cmp (op_eqA hr.units) (de_var (pv 6)) (de_bin op_addA (de_var (pv 5)) (de_int)))))))))) (fun _ _ _ _ _ => de_tup (da_cons (de_var (pv 5)) (da_cons (de_var (pv 6)) (da_nil))))) (da_nil))) (da_nil)))))) (dss_nil))
    (dss_one (ds_ret (de_tup (da_cons (de_var (pv 2)) (da_cons (de_callTy call_tupleDD rfl T.n_tuple (by decide +kernel) (da_cons (de_callB (call_sortedDD hr) rfl T.n_sorted (by decide +kernel) (da_cons (de_sl (de_callC (c_l_mixed bs) hr hg (by decide) rfl (da_cons (de_var (pv 0)) (da_cons (de_var (pv 4)) (da_nil))) (ArgN.cons (ArgN.cons ArgN.nil)) rfl) (do_no) (do_yes (de_callC (c_l_take bs) hr hg (by decide) rfl (da_cons (de_var (pv 0)) (da_cons (de_bin op_addA (de_callB call_lenDD rfl T.n_len (by decide +kernel) (da_cons (de_var (pv 4)) (da_nil))) (de_int)) (da_nil))) (ArgN.cons (ArgN.cons ArgN.nil)) rfl))) (da_nil))) (da_nil))) (da_nil))))))))))))
abbrev s_l_graph : Stmt := top 24
abbrev N_l_graph : List Str := ["_law_bench_here", "_law_content"]
theorem sc_l_graph : FnScope N_l_graph ["_law_bench_here"] (defScope s_l_graph) := ⟨rfl, rfl, rfl, by decide +kernel, rfl, by decide +kernel, by decide +kernel⟩
def b_l_graph : MS := sRet (mFrzA (mCall dictP (mCons (mLc (iSeq (mCall (callF f_l_contents) (mCons (mVar 0) (mNil)))) (gSet 1) (tTrue) (mCall tupF (mCons (mVar 1) (mCons (mCall (callF f_l_steps) (mCons (mVar 0) (mCons (mVar 1) (mNil)))) (mNil)))) [1] kFrz) (mNil))))
def f_l_graph : FS := runF 2 b_l_graph
theorem ok_l_graph {tl : TL} {P : Program} {w : World} {K : PySem.W.Frag} {mg : Str → Option Value} {fa : Addr} {fd : FuncData} (F : Fun K "_law_graph" "_law_graph" s_l_graph fa fd) (T : Txt mg) (c_l_contents : CalA tl P w K mg "_law_contents" 2 ["_law_bench_here"] f_l_contents) (c_l_steps : CalA tl P w K mg "_law_steps" 1 ["_law_bench_here", "_law_content"] f_l_steps) : ∀ {τ : Tbs} {base : Heap}, Bs tl τ K mg base → FnG P w K mg base 3 fa fd ["_law_bench_here"] (spD τ K 1 f_l_graph) :=
  fun bs => fnG (k := 2) (N := N_l_graph) (ps := ["_law_bench_here"]) (b := b_l_graph) F sc_l_graph fun cdv A outer s H E hr hg => dss_one (ds_ret (de_frzA (de_callTy (call_dictDD hr rfl) rfl T.n_dict (by decide +kernel) (da_cons (de_lc (own := [("_law_content", 1)]) rfl sc_l_graph.nd (di_seq (de_callC (c_l_contents bs) hr hg (by decide) rfl (da_cons (de_var (pv 0)) (da_nil)) (ArgN.cons ArgN.nil) rfl)) (blkOk_by (own := [("_law_content", 1)]) (N := N_l_graph) (sc := defScope s_l_graph) (by decide +kernel)) (fun _ _ _ _ _ => dg_name (i := 1) sc_l_graph.nd rfl (Or.inl rfl)) (fun _ _ _ _ _ => dts_nil) (fun _ _ _ _ _ => de_tup (da_cons (de_var (pv 1)) (da_cons (de_callC (c_l_steps bs) hr hg (by decide) rfl (da_cons (de_var (pv 0)) (da_cons (de_var (pv 1)) (da_nil))) (ArgN.cons (ArgN.cons ArgN.nil)) rfl) (da_nil))))) (da_nil)))))
abbrev s_l_way_by : Stmt := top 25
abbrev N_l_way_by : List Str := ["_law_bag_here", "_law_graph_here", "_law_start", "_law_goal", "_law_barred", "_law_way", "_law_front", "_law_before", "_law_later", "_law_content", "_law_other"]
theorem sc_l_way_by : FnScope N_l_way_by ["_law_bag_here", "_law_graph_here", "_law_start", "_law_goal", "_law_barred"] (defScope s_l_way_by) := ⟨rfl, rfl, rfl, by decide +kernel, rfl, by decide +kernel, by decide +kernel⟩
def L_l_way_by_1 : MS := sIf (tAndD (tOf (mBin (inX true) (mVar 10) (mVar 7))) (tOrD (tOf (mBin (eqA false) (mVar 10) (mVar 3))) (tOf (mBin (inX true) (mVar 10) (mVar 4))))) (sSeq (sAsg (mVar 9) (gSubD (mVar 7) (mVar 10) setX))
    (sExpr (mMt appendF (mVar 8) (mCons (mVar 10) (mNil))))) (sNil)
def L_l_way_by_2 : MS := sFor (iSeq (mCall (callF f_l_mixed) (mCons (mVar 0) (mCons (mBin ixY (mVar 1) (mVar 9)) (mNil))))) (gSet 10) (L_l_way_by_1)
def b_l_way_by : MS := sSeq (sPar 6 7 (mCons (mCall lstF (mCons (mVar 2) (mNil))) (mCons (mDisp1 (mVar 2) (mC .none)) mNil)))
    (sSeq (whileL (tAndD (tOf (mBin (eqA true) (mVar 6) (mCall lstF (mNil)))) (tOf (mBin (inX true) (mVar 3) (mVar 7)))) (sSeq (sAsg (mCall lstB (mNil)) (gSet 8))
    (sSeq (sFor (iSeq (mVar 6)) (gSet 9) (L_l_way_by_2))
    (sAsg (mFrzA (mVar 8)) (gSet 6)))) FUEL)
    (sSeq (sIf (tOrD (tOf (mBin (inX true) (mVar 3) (mVar 7))) (tOf (mBin (eqA false) (mVar 2) (mVar 3)))) (sRet (mC .none)) (sNil))
    (sSeq (sAsg (mCall lstB (mCons (mVar 3) (mNil))) (gSet 5))
    (sSeq (whileL (tOf (mBin (eqA true) (mBin ixY (mVar 5) (mC (.int 0))) (mVar 2))) (sExpr (mMt insertF (mVar 5) (mCons (mC (.int 0)) (mCons (mBin ixY (mVar 7) (mBin ixY (mVar 5) (mC (.int 0)))) (mNil))))) FUEL)
    (sRet (mCall tupleD (mCons (mVar 5) (mNil))))))))
def f_l_way_by : FS := runF 11 b_l_way_by
theorem ok_l_way_by {tl : TL} {P : Program} {w : World} {K : PySem.W.Frag} {mg : Str → Option Value} {fa : Addr} {fd : FuncData} (F : Fun K "_law_way_by" "_law_way_by" s_l_way_by fa fd) (T : Txt mg) (c_l_mixed : CalA tl P w K mg "_law_mixed" 2 ["_law_bag_here", "_law_things"] f_l_mixed) : ∀ {τ : Tbs} {base : Heap}, Bs tl τ K mg base → FnG P w K mg base 3 fa fd ["_law_bag_here", "_law_graph_here", "_law_start", "_law_goal", "_law_barred"] (spD τ K 5 f_l_way_by) :=
  fun bs => fnG (k := 2) (N := N_l_way_by) (ps := ["_law_bag_here", "_law_graph_here", "_law_start", "_law_goal", "_law_barred"]) (b := b_l_way_by) F sc_l_way_by fun cdv A outer s H E hr hg => dss_cons (ds_par (i := 6) (j := 7) rfl sc_l_way_by.nd rfl rfl (by decide) rfl rfl (da_cons (de_lst (da_cons (de_var (pv 2)) (da_nil))) (da_cons (de_disp1 hr (de_var (pv 2)) (de_non)) da_nil)) (by rfl))
    (dss_cons (ds_while PassesOwn.never (PW.pt (dw_and (dt_cmp (op_neA hr.units) (de_var (pv 6)) (de_lst (da_nil))) (dw_and1 (dt_cmp (op_notInX hr) (de_var (pv 3)) (de_var (pv 7)))))) (dss_cons (ds_set (i := 8) sc_l_way_by.nd rfl (Or.inl rfl) (de_lstB (da_nil)))
    (dss_cons (ds_for (vis := [9]) PassesOwn.never rfl (di_seq (de_var (pv 6))) (dg_name (i := 9) sc_l_way_by.nd rfl (Or.inl rfl)) (dss_one (ds_for (vis := [10]) PassesOwn.never rfl (di_seq (de_callC (c_l_mixed bs) hr hg (by decide) rfl (da_cons (de_var (pv 0)) (da_cons (de_ixY hr (de_var (pv 1)) (de_var (pv 9))) (da_nil))) (ArgN.cons (ArgN.cons ArgN.nil)) rfl)) (dg_name (i := 10) sc_l_way_by.nd rfl (Or.inl rfl)) (dss_one (ds_if (PW.pt (dw_and (dt_cmp (op_notInX hr) (de_var (pv 10)) (de_var (pv 7))) (dw_and1 (PW.pt (dw_or (dt_cmp (op_eqA hr.units) (de_var (pv 10)) (de_var (pv 3))) (dw_or1 (dt_cmp (op_notInX hr) (de_var (pv 10)) (de_var (pv 4))))))))) (dss_cons (ds_asg (vis := []) (de_var (pv 9)) (dg_sub (vis := []) (de_var (pv 7)) (de_var (pv 10)) (set_X hr)))
    (dss_one (ds_expr (de_bm PySem.F.slot_list_append PySem.F.type_list_append mt_appendD (de_var (pv 8)) (da_cons (de_var (pv 10)) (da_nil)))))) (dss_nil))))))
    (dss_one (ds_set (i := 6) sc_l_way_by.nd rfl (Or.inl rfl) (de_frzA (de_var (pv 8))))))))
    (dss_cons (ds_if (PW.pt (dw_or (dt_cmp (op_notInX hr) (de_var (pv 3)) (de_var (pv 7))) (dw_or1 (dt_cmp (op_eqA hr.units) (de_var (pv 2)) (de_var (pv 3)))))) (dss_one (ds_ret (de_non))) (dss_nil))
    (dss_cons (ds_set (i := 5) sc_l_way_by.nd rfl (Or.inl rfl) (de_lstB (da_cons (de_var (pv 3)) (da_nil))))
    (dss_cons (ds_while PassesOwn.never (dt_cmp (op_neA hr.units) (de_ixY hr (de_var (pv 5)) (de_int)) (de_var (pv 2))) (dss_one (ds_expr (de_bm PySem.F.slot_list_insert PySem.F.type_list_insert mt_insertD (de_var (pv 5)) (da_cons (de_int) (da_cons (de_ixY hr (de_var (pv 7)) (de_ixY hr (de_var (pv 5)) (de_int))) (da_nil)))))))
    (dss_one (ds_ret (de_callTy call_tupleDD rfl T.n_tuple (by decide +kernel) (da_cons (de_var (pv 5)) (da_nil)))))))))
abbrev s_l_rests : Stmt := top 26
abbrev N_l_rests : List Str := ["_law_bag_here", "_law_contents_here", "_law_most", "_law_many"]
theorem sc_l_rests : FnScope N_l_rests ["_law_bag_here", "_law_contents_here", "_law_most"] (defScope s_l_rests) := ⟨rfl, rfl, rfl, by decide +kernel, rfl, by decide +kernel, by decide +kernel⟩
def b_l_rests : MS := sSeq (sAsg (mCall (callF f_l_some) (mCons (mVar 0) (mCons (mCall lstF (mCons (mC (.int 2)) (mCons (mC (.int 3)) (mCons (mC (.int 2)) (mCons (mC (.int 3)) (mCons (mVar 2) (mCons (mBin addA (mC (.int 1)) (mCall (callF f_l_take) (mCons (mVar 0) (mCons (mVar 2) (mNil))))) (mCons (mC (.int 2)) (mCons (mC (.int 4)) (mNil)))))))))) (mNil)))) (gSet 3))
    (sRet (mCall tupleD (mCons (mCall sortedA (mCons (mSl (mCall (callF f_l_mixed) (mCons (mVar 0) (mCons (mVar 1) (mNil)))) (oNo) (oYes (mCall min2D (mCons (mVar 3) (mCons (mVar 2) (mNil)))))) (mNil))) (mNil))))
def f_l_rests : FS := runF 4 b_l_rests
theorem ok_l_rests {tl : TL} {P : Program} {w : World} {K : PySem.W.Frag} {mg : Str → Option Value} {fa : Addr} {fd : FuncData} (F : Fun K "_law_rests" "_law_rests" s_l_rests fa fd) (T : Txt mg) (c_l_some : CalA tl P w K mg "_law_some" 2 ["_law_bag_here", "_law_things"] f_l_some) (c_l_take : CalA tl P w K mg "_law_take" 1 ["_law_bag_here", "_law_upto"] f_l_take) (c_l_mixed : CalA tl P w K mg "_law_mixed" 2 ["_law_bag_here", "_law_things"] f_l_mixed) : ∀ {τ : Tbs} {base : Heap}, Bs tl τ K mg base → FnG P w K mg base 3 fa fd ["_law_bag_here", "_law_contents_here", "_law_most"] (spD τ K 3 f_l_rests) :=
  fun bs => fnG (k := 2) (N := N_l_rests) (ps := ["_law_bag_here", "_law_contents_here", "_law_most"]) (b := b_l_rests) F sc_l_rests fun cdv A outer s H E hr hg => dss_cons (ds_set (i := 3) sc_l_rests.nd rfl (Or.inl rfl) (de_callC (c_l_some bs) hr hg (by decide) rfl (da_cons (de_var (pv 0)) (da_cons (de_lst (da_cons (de_int) (da_cons (de_int) (da_cons (de_int) (da_cons (de_int) (da_cons (de_var (pv 2)) (da_cons (de_bin op_addA (de_int) (de_callC (c_l_take bs) hr hg (by decide) rfl (da_cons (de_var (pv 0)) (da_cons (de_var (pv 2)) (da_nil))) (ArgN.cons (ArgN.cons ArgN.nil)) rfl)) (da_cons (de_int) (da_cons (de_int) (da_nil)))))))))) (da_nil))) (ArgN.cons (ArgN.cons ArgN.nil)) rfl))
    (dss_one (ds_ret (de_callTy call_tupleDD rfl T.n_tuple (by decide +kernel) (da_cons (de_callB (call_sortedA hr) rfl T.n_sorted (by decide +kernel) (da_cons (de_sl (de_callC (c_l_mixed bs) hr hg (by decide) rfl (da_cons (de_var (pv 0)) (da_cons (de_var (pv 1)) (da_nil))) (ArgN.cons (ArgN.cons ArgN.nil)) rfl) (do_no) (do_yes (de_callB (call_min2D rfl) rfl T.n_min (by decide +kernel) (da_cons (de_var (pv 3)) (da_cons (de_var (pv 2)) (da_nil)))))) (da_nil))) (da_nil)))))
abbrev s_l_couple : Stmt := top 27
abbrev N_l_couple : List Str := ["_law_bag_here", "_law_graph_here", "_law_rests_here", "_law_two", "_law_turn"]
theorem sc_l_couple : FnScope N_l_couple ["_law_bag_here", "_law_graph_here", "_law_rests_here"] (defScope s_l_couple) := ⟨rfl, rfl, rfl, by decide +kernel, rfl, by decide +kernel, by decide +kernel⟩
def L_l_couple_1 : MS := sAsg (vIf (tOf (mBin (inX false) (mBin ixY (mVar 3) (mC (.int 1))) (mBin ixY (mVar 1) (mBin ixY (mVar 3) (mC (.int 0)))))) (mSl (mCall (callF f_l_mixed) (mCons (mVar 0) (mCons (mVar 2) (mNil)))) (oNo) (oYes (mC (.int 2)))) (mVar 3)) (gSet 3)
def b_l_couple : MS := sSeq (sAsg (mSl (mCall (callF f_l_mixed) (mCons (mVar 0) (mCons (mVar 2) (mNil)))) (oNo) (oYes (mC (.int 2)))) (gSet 3))
    (sSeq (sFor (iRng1D (mCons (mC (.int 3)) (mNil))) (gSet 4) (L_l_couple_1))
    (sRet (mCall tupF (mCons (mBin ixY (mVar 3) (mC (.int 0))) (mCons (mBin ixY (mVar 3) (mC (.int 1))) (mNil))))))
def f_l_couple : FS := runF 5 b_l_couple
theorem ok_l_couple {tl : TL} {P : Program} {w : World} {K : PySem.W.Frag} {mg : Str → Option Value} {fa : Addr} {fd : FuncData} (F : Fun K "_law_couple" "_law_couple" s_l_couple fa fd) (T : Txt mg) (c_l_mixed : CalA tl P w K mg "_law_mixed" 2 ["_law_bag_here", "_law_things"] f_l_mixed) : ∀ {τ : Tbs} {base : Heap}, Bs tl τ K mg base → FnG P w K mg base 3 fa fd ["_law_bag_here", "_law_graph_here", "_law_rests_here"] (spD τ K 3 f_l_couple) :=
  fun bs => fnG (k := 2) (N := N_l_couple) (ps := ["_law_bag_here", "_law_graph_here", "_law_rests_here"]) (b := b_l_couple) F sc_l_couple fun cdv A outer s H E hr hg => dss_cons (ds_set (i := 3) sc_l_couple.nd rfl (Or.inl rfl) (de_sl (de_callC (c_l_mixed bs) hr hg (by decide) rfl (da_cons (de_var (pv 0)) (da_cons (de_var (pv 2)) (da_nil))) (ArgN.cons (ArgN.cons ArgN.nil)) rfl) (do_no) (do_yes (de_int))))
    (dss_cons (ds_for (vis := [4]) PassesOwn.never rfl (di_rng1 rfl T.n_range (da_cons (de_int) (da_nil))) (dg_name (i := 4) sc_l_couple.nd rfl (Or.inl rfl)) (dss_one (ds_set (i := 3) sc_l_couple.nd rfl (Or.inl rfl) (de_if (dt_cmp (op_inX hr) (de_ixY hr (de_var (pv 3)) (de_int)) (de_ixY hr (de_var (pv 1)) (de_ixY hr (de_var (pv 3)) (de_int)))) (de_sl (de_callC (c_l_mixed bs) hr hg (by decide) rfl (da_cons (de_var (pv 0)) (da_cons (de_var (pv 2)) (da_nil))) (ArgN.cons (ArgN.cons ArgN.nil)) rfl) (do_no) (do_yes (de_int))) (de_var (pv 3))))))
    (dss_one (ds_ret (de_tup (da_cons (de_ixY hr (de_var (pv 3)) (de_int)) (da_cons (de_ixY hr (de_var (pv 3)) (de_int)) (da_nil)))))))
abbrev s_l_bench : Stmt := top 21
abbrev N_l_bench : List Str := ["_law_bag_here", "_law_most", "_law_turn", "_law_places", "_law_size"]
theorem sc_l_bench : FnScope N_l_bench ["_law_bag_here", "_law_most"] (defScope s_l_bench) := ⟨rfl, rfl, rfl, by decide +kernel, rfl, by decide +kernel, by decide +kernel⟩
def L_l_bench_1 : MS := sIf (tOf (mBin leD (mBin mulD (mVar 4) (mC (.int 2))) (mVar 1))) (sSeq (sExpr (mMt appendF (mVar 3) (mCons (mCall (callF f_l_place) (mCons (mVar 0) (mCons (mCall min2D (mCons (mCall (callF f_l_some) (mCons (mVar 0) (mCons (mCall lstF (mCons (mC (.int 6)) (mCons (mC (.int 4)) (mCons (mC (.int 3)) (mCons (mC (.int 3)) (mCons (mC (.int 2)) (mNil))))))) (mNil)))) (mCons (mBin fdivD (mVar 1) (mVar 4)) (mNil)))) (mNil)))) (mNil))))
    (sAsg (mBin mulD (mVar 4) (mBin idxD (mBin idxD (mVar 3) (mNeg (mC (.int 1)))) (mC (.int 0)))) (gSet 4))) (sNil)
def b_l_bench : MS := sSeq (sPar 3 4 (mCons (mCall lstB (mNil)) (mCons (mC (.int 1)) mNil)))
    (sSeq (sFor (iRng1D (mCons (mCall (callF f_l_some) (mCons (mVar 0) (mCons (mCall lstF (mCons (mC (.int 1)) (mCons (mC (.int 2)) (mCons (mC (.int 2)) (mCons (mC (.int 3)) (mCons (mC (.int 3)) (mCons (mC (.int 4)) (mCons (mC (.int 5)) (mNil))))))))) (mNil)))) (mNil))) (gSet 2) (L_l_bench_1))
    (sRet (mCall tupleD (mCons (mVar 3) (mNil)))))
def f_l_bench : FS := runF 5 b_l_bench
theorem ok_l_bench {tl : TL} {P : Program} {w : World} {K : PySem.W.Frag} {mg : Str → Option Value} {fa : Addr} {fd : FuncData} (F : Fun K "_law_bench" "_law_bench" s_l_bench fa fd) (T : Txt mg) (c_l_some : CalA tl P w K mg "_law_some" 2 ["_law_bag_here", "_law_things"] f_l_some) (c_l_place : CalA tl P w K mg "_law_place" 3 ["_law_bag_here", "_law_most"] f_l_place) : ∀ {τ : Tbs} {base : Heap}, Bs tl τ K mg base → FnG P w K mg base 4 fa fd ["_law_bag_here", "_law_most"] (spD τ K 2 f_l_bench) :=
  fun bs => fnG (k := 3) (N := N_l_bench) (ps := ["_law_bag_here", "_law_most"]) (b := b_l_bench) F sc_l_bench fun cdv A outer s H E hr hg => dss_cons (ds_par (i := 3) (j := 4) rfl sc_l_bench.nd rfl rfl (by decide) rfl rfl (da_cons (de_lstB (da_nil)) (da_cons (de_int) da_nil)) (by rfl))
    (dss_cons (ds_for (vis := [2]) PassesOwn.never rfl (di_rng1 rfl T.n_range (da_cons (de_callC (c_l_some bs) hr hg (by decide) rfl (da_cons (de_var (pv 0)) (da_cons (de_lst (da_cons (de_int) (da_cons (de_int) (da_cons (de_int) (da_cons (de_int) (da_cons (de_int) (da_cons (de_int) (da_cons (de_int) (da_nil))))))))) (da_nil))) (ArgN.cons (ArgN.cons ArgN.nil)) rfl) (da_nil))) (dg_name (i := 2) sc_l_bench.nd rfl (Or.inl rfl)) (dss_one (ds_if (dt_cmp op_leD (de_bin op_mulD (de_var (pv 4)) (de_int)) (de_var (pv 1))) (dss_cons (ds_expr (de_bm PySem.F.slot_list_append PySem.F.type_list_append mt_appendD (de_var (pv 3)) (da_cons (de_callC (c_l_place bs) hr hg (by decide) rfl (da_cons (de_var (pv 0)) (da_cons (de_callB (call_min2D rfl) rfl T.n_min (by decide +kernel) (da_cons (de_callC (c_l_some bs) hr hg (by decide) rfl (da_cons (de_var (pv 0)) (da_cons (de_lst (da_cons (de_int) (da_cons (de_int) (da_cons (de_int) (da_cons (de_int) (da_cons (de_int) (da_nil))))))) (da_nil))) (ArgN.cons (ArgN.cons ArgN.nil)) rfl) (da_cons (de_bin op_fdivD (de_var (pv 1)) (de_var (pv 4))) (da_nil)))) (da_nil))) (ArgN.cons (ArgN.cons ArgN.nil)) rfl) (da_nil))))
    (dss_one (ds_set (i := 4) sc_l_bench.nd rfl (Or.inl rfl) (de_bin op_mulD (de_var (pv 4)) (de_ix (de_ix (de_var (pv 3)) (de_neg (de_int))) (de_int)))))) (dss_nil))))
    (dss_one (ds_ret (de_callTy call_tupleDD rfl T.n_tuple (by decide +kernel) (da_cons (de_var (pv 3)) (da_nil))))))
abbrev s_l_any_task : Stmt := top 29
abbrev N_l_any_task : List Str := ["_law_bag_here", "_law_bench_here", "_law_most", "_law_orders", "_law_graph_here", "_law_turn", "_law_rests_here", "_law_found", "_law_start", "_law_goal", "_law_two"]
theorem sc_l_any_task : FnScope N_l_any_task ["_law_bag_here", "_law_bench_here", "_law_most", "_law_orders"] (defScope s_l_any_task) := ⟨rfl, rfl, rfl, by decide +kernel, rfl, by decide +kernel, by decide +kernel⟩
def L_l_any_task_1 : MS := sSeq (sAsg (mCall (callF f_l_couple) (mCons (mVar 0) (mCons (mVar 4) (mCons (mVar 6) (mNil))))) (gTupD 2 (gsCons (gSet 8) (gsCons (gSet 9) (gsNil)))))
    (sIf (tOf (mBin (isND true) (mCall (callF f_l_way_by) (mCons (mVar 0) (mCons (mVar 4) (mCons (mVar 8) (mCons (mVar 9) (mCons (mCall lstF (mNil)) (mNil))))))) (mC .none))) (sAsg (mCall (callF f_l_ends) (mCons (mVar 0) (mCons (mVar 6) (mCons (mVar 8) (mCons (mVar 9) (mNil)))))) (gSubD (mVar 7) (mCall tupF (mCons (mVar 8) (mCons (mVar 9) (mNil)))) setX)) (sNil))
def b_l_any_task : MS := sSeq (sAsg (mCall (callF f_l_graph) (mCons (mVar 1) (mNil))) (gSet 4))
    (sSeq (sTupA 2 (gsCons (gSet 6) (gsCons (gSet 7) (gsNil))) (mCons (mCall (callF f_l_rests) (mCons (mVar 0) (mCons (mCall sortedA (mCons (mVar 4) (mNil))) (mCons (mVar 2) (mNil))))) (mCons (mNewN) (mNil))))
    (sSeq (sFor (iRng1D (mCons (mBin mulD (mVar 3) (mCall intD (mCons (mBin gtD (mCall lenD (mCons (mVar 6) (mNil))) (mC (.int 1))) (mNil)))) (mNil))) (gSet 5) (L_l_any_task_1))
    (sRet (mCall tupF (mCons (mVar 1) (mCons (mVar 6) (mCons (mCall tupleD (mCons (mLc (iSeq (mCall sortedA (mCons (mVar 7) (mNil)))) (gSet 10) (tTrue) (mBin addA (mVar 10) (mCall tupF (mCons (mBin ixY (mVar 7) (mVar 10)) (mNil)))) [10] kFrz) (mNil))) (mNil))))))))
def f_l_any_task : FS := runF 11 b_l_any_task
theorem ok_l_any_task {tl : TL} {P : Program} {w : World} {K : PySem.W.Frag} {mg : Str → Option Value} {fa : Addr} {fd : FuncData} (F : Fun K "_law_any_task" "_law_any_task" s_l_any_task fa fd) (T : Txt mg) (c_l_graph : CalA tl P w K mg "_law_graph" 3 ["_law_bench_here"] f_l_graph) (c_l_rests : CalA tl P w K mg "_law_rests" 3 ["_law_bag_here", "_law_contents_here", "_law_most"] f_l_rests) (c_l_couple : CalA tl P w K mg "_law_couple" 3 ["_law_bag_here", "_law_graph_here", "_law_rests_here"] f_l_couple) (c_l_way_by : CalA tl P w K mg "_law_way_by" 3 ["_law_bag_here", "_law_graph_here", "_law_start", "_law_goal", "_law_barred"] f_l_way_by) (c_l_ends : CalA tl P w K mg "_law_ends" 2 ["_law_bag_here", "_law_rests_here", "_law_start", "_law_goal"] f_l_ends) : ∀ {τ : Tbs} {base : Heap}, Bs tl τ K mg base → FnG P w K mg base 4 fa fd ["_law_bag_here", "_law_bench_here", "_law_most", "_law_orders"] (spD τ K 4 f_l_any_task) :=
  fun bs => fnG (k := 3) (N := N_l_any_task) (ps := ["_law_bag_here", "_law_bench_here", "_law_most", "_law_orders"]) (b := b_l_any_task) F sc_l_any_task fun cdv A outer s H E hr hg => dss_cons (ds_set (i := 4) sc_l_any_task.nd rfl (Or.inl rfl) (de_callC (c_l_graph bs) hr hg (by decide) rfl (da_cons (de_var (pv 1)) (da_nil)) (ArgN.cons ArgN.nil) rfl))
    (dss_cons (ds_tupA (vis := [6, 7]) rfl (da_cons (de_callC (c_l_rests bs) hr hg (by decide) rfl (da_cons (de_var (pv 0)) (da_cons (de_callB (call_sortedA hr) rfl T.n_sorted (by decide +kernel) (da_cons (de_var (pv 4)) (da_nil))) (da_cons (de_var (pv 2)) (da_nil)))) (ArgN.cons (ArgN.cons (ArgN.cons ArgN.nil))) rfl) (da_cons (de_newN) (da_nil))) (dgs_cons (dg_name (i := 6) sc_l_any_task.nd rfl (Or.inl rfl)) (dgs_cons (dg_name (i := 7) sc_l_any_task.nd rfl (Or.inr rfl)) (dgs_nil))))
    (dss_cons (ds_for (vis := [5]) PassesOwn.never rfl (di_rng1 rfl T.n_range (da_cons (de_bin op_mulD (de_var (pv 3)) (de_callTy call_intDD rfl T.n_int (by decide +kernel) (da_cons (de_cmp op_gtD (de_callB call_lenDD rfl T.n_len (by decide +kernel) (da_cons (de_var (pv 6)) (da_nil))) (de_int)) (da_nil)))) (da_nil))) (dg_name (i := 5) sc_l_any_task.nd rfl (Or.inl rfl)) (dss_cons (ds_asg (vis := [8, 9]) (de_callC (c_l_couple bs) hr hg (by decide) rfl (da_cons (de_var (pv 0)) (da_cons (de_var (pv 4)) (da_cons (de_var (pv 6)) (da_nil)))) (ArgN.cons (ArgN.cons (ArgN.cons ArgN.nil))) rfl) (dg_tup rfl (dgs_cons (dg_name (i := 8) sc_l_any_task.nd rfl (Or.inl rfl)) (dgs_cons (dg_name (i := 9) sc_l_any_task.nd rfl (Or.inl rfl)) (dgs_nil)))))
    (dss_one (ds_if (dt_cmp op_notND (de_callC (c_l_way_by bs) hr hg (by decide) rfl (da_cons (de_var (pv 0)) (da_cons (de_var (pv 4)) (da_cons (de_var (pv 8)) (da_cons (de_var (pv 9)) (da_cons (de_lst (da_nil)) (da_nil)))))) (ArgN.cons (ArgN.cons (ArgN.cons (ArgN.cons (ArgN.cons ArgN.nil))))) rfl) (de_non)) (dss_one (ds_asg (vis := []) (de_callC (c_l_ends bs) hr hg (by decide) rfl (da_cons (de_var (pv 0)) (da_cons (de_var (pv 6)) (da_cons (de_var (pv 8)) (da_cons (de_var (pv 9)) (da_nil))))) (ArgN.cons (ArgN.cons (ArgN.cons (ArgN.cons ArgN.nil)))) rfl) (dg_sub (vis := []) (de_var (pv 7)) (de_tup (da_cons (de_var (pv 8)) (da_cons (de_var (pv 9)) (da_nil)))) (set_X hr)))) (dss_nil)))))
    (dss_one (ds_ret (de_tup (da_cons (de_var (pv 1)) (da_cons (de_var (pv 6)) (da_cons (de_callTy call_tupleDD rfl T.n_tuple (by decide +kernel) (da_cons (de_lc (own := [("_law_two", 10)]) rfl sc_l_any_task.nd (di_seq (de_callB (call_sortedA hr) rfl T.n_sorted (by decide +kernel) (da_cons (de_var (pv 7)) (da_nil)))) (blkOk_by (own := [("_law_two", 10)]) (N := N_l_any_task) (sc := defScope s_l_any_task) (by decide +kernel)) (fun _ _ _ _ _ => dg_name (i := 10) sc_l_any_task.nd rfl (Or.inl rfl)) (fun _ _ _ _ _ => dts_nil) (fun _ _ _ _ _ => de_bin op_addA (de_var (pv 10)) (de_tup (da_cons (de_ixY hr (de_var (pv 7)) (de_var (pv 10))) (da_nil))))) (da_nil))) (da_nil)))))))))
abbrev s_is_place : Stmt := top 6
abbrev N_is_place : List Str := ["thing"]
theorem sc_is_place : FnScope N_is_place ["thing"] (defScope s_is_place) := ⟨rfl, rfl, rfl, by decide +kernel, rfl, by decide +kernel, by decide +kernel⟩
def m_is_place_1 : ME := mCall (callF f_is_move) (mCons (mBin ixY (mVar 1) (mC (.int 0))) (mCons (mVar 0) (mNil)))
def b_is_place : MS := sSeq (sIf (tOrD (tNotD (tTru (mIsi "tuple" (mVar 0)))) (tOrD (tOf (mBin (eqA true) (mCall lenX (mCons (mVar 0) (mNil))) (mC (.int 2)))) (tOrD (tNotD (tTru (mCall (callF f_is_integer) (mCons (mBin ixY (mVar 0) (mC (.int 0))) (mNil))))) (tNotD (tOf (vChain leD leD (mC (.int 2)) (mBin ixY (mVar 0) (mC (.int 0))) (mC (.int 6)))))))) (sRet (mC (.bool false))) (sNil))
    (sRet (mLam f_is_ascending m_is_place_1 [0] (mBin ixY (mVar 0) (mC (.int 1)))))
def f_is_place : FS := runF 1 b_is_place
theorem ok_is_place {tl : TL} {P : Program} {w : World} {K : PySem.W.Frag} {mg : Str → Option Value} {fa : Addr} {fd : FuncData} {co Pt : Addr} (F : FunC K "is_place" "is_place" s_is_place fa fd co) (tm_is_place : (co, Pt, ("is_place.<locals>.<lambda>" : Str)) ∈ tl) (T : Txt mg) (c_is_integer : CalA tl P w K mg "is_integer" 1 ["thing"] f_is_integer) (c_is_move : CalA tl P w K mg "is_move" 2 ["values", "thing"] f_is_move) (c_is_ascending : CalL tl P w K mg "is_ascending" ["thing", "is_member"] f_is_ascending) : ∀ {τ : Tbs} {base : Heap}, Bs tl τ K mg base → FnG P w K mg base 5 fa fd ["thing"] (spD τ K 1 f_is_place) :=
  fun bs => fnGC (k := 4) (N := N_is_place) (ps := ["thing"]) (b := b_is_place) F sc_is_place fun A outer s H E hr hg => dss_cons (ds_if (PW.pt (dw_or (dt_not (dt_tru (de_isi (by decide) rfl T.n_isinstance (by decide +kernel) rfl T.n_tuple (by decide +kernel) (de_var (pv 0))))) (dw_or (dt_cmp (op_neA hr.units) (de_callB call_lenX rfl T.n_len (by decide +kernel) (da_cons (de_var (pv 0)) (da_nil))) (de_int)) (dw_or (dt_not (dt_tru (de_callC (c_is_integer bs) hr hg (by decide) rfl (da_cons (de_ixY hr (de_var (pv 0)) (de_int)) (da_nil)) (ArgN.cons ArgN.nil) rfl))) (dw_or1 (dt_not (dt_chain op_leD op_leD (de_int) (de_ixY hr (de_var (pv 0)) (de_int)) (de_int)))))))) (dss_one (ds_ret (de_bl))) (dss_nil))
    (dss_one (ds_ret (de_lamC (p := ("move" : Str)) (sc := defScope s_is_place) (j := 2) (N := N_is_place) (cs := ["thing"]) (caps := [0]) (F := m_is_place_1) c_is_ascending bs tm_is_place rfl rfl rfl rfl hr (by decide) hg rfl rfl rfl (by decide +kernel) rfl (de_ixY hr (de_var (pv 0)) (de_int)) (fun _ _ _ _ _ _ => rfl) (fun _ _ bs _ _ _ _ _ _ _ hr hg => de_callC (c_is_move bs) hr hg (by decide) rfl (da_cons (de_ixY hr (de_var (pv 1)) (de_int)) (da_cons (de_var (pv 0)) (da_nil))) (ArgN.cons (ArgN.cons ArgN.nil)) rfl))))
abbrev s_is_ends : Stmt := top 10
abbrev N_is_ends : List Str := ["rests", "thing"]
theorem sc_is_ends : FnScope N_is_ends ["rests", "thing"] (defScope s_is_ends) := ⟨rfl, rfl, rfl, by decide +kernel, rfl, by decide +kernel, by decide +kernel⟩
def m_is_ends_1 : ME := mCall (callF f_is_among) (mCons (mVar 1) (mCons (mVar 0) (mNil)))
def b_is_ends : MS := sRet (mLam f_is_ascending m_is_ends_1 [0] (mVar 1))
def f_is_ends : FS := runF 2 b_is_ends
theorem ok_is_ends {tl : TL} {P : Program} {w : World} {K : PySem.W.Frag} {mg : Str → Option Value} {fa : Addr} {fd : FuncData} {co Pt : Addr} (F : FunC K "is_ends" "is_ends" s_is_ends fa fd co) (tm_is_ends : (co, Pt, ("is_ends.<locals>.<lambda>" : Str)) ∈ tl) (T : Txt mg) (c_is_among : CalA tl P w K mg "is_among" 2 ["rests", "thing"] f_is_among) (c_is_ascending : CalL tl P w K mg "is_ascending" ["thing", "is_member"] f_is_ascending) : ∀ {τ : Tbs} {base : Heap}, Bs tl τ K mg base → FnG P w K mg base 5 fa fd ["rests", "thing"] (spD τ K 2 f_is_ends) :=
  fun bs => fnGC (k := 4) (N := N_is_ends) (ps := ["rests", "thing"]) (b := b_is_ends) F sc_is_ends fun A outer s H E hr hg => dss_one (ds_ret (de_lamC (p := ("one" : Str)) (sc := defScope s_is_ends) (j := 2) (N := N_is_ends) (cs := ["rests"]) (caps := [0]) (F := m_is_ends_1) c_is_ascending bs tm_is_ends rfl rfl rfl rfl hr (by decide) hg rfl rfl rfl (by decide +kernel) rfl (de_var (pv 1)) (fun _ _ _ _ _ _ => rfl) (fun _ _ bs _ _ _ _ _ _ _ hr hg => de_callC (c_is_among bs) hr hg (by decide) rfl (da_cons (de_var (pv 1)) (da_cons (de_var (pv 0)) (da_nil))) (ArgN.cons (ArgN.cons ArgN.nil)) rfl)))
abbrev s_is_bench : Stmt := top 8
abbrev N_is_bench : List Str := ["thing", "place"]
theorem sc_is_bench : FnScope N_is_bench ["thing"] (defScope s_is_bench) := ⟨rfl, rfl, rfl, by decide +kernel, rfl, by decide +kernel, by decide +kernel⟩
def b_is_bench : MS := sRet (vAndT (mIsi "tuple" (mVar 0)) (vAnd (mBin (eqA true) (mVar 0) (mCall tupF (mNil))) (mCall allDD (mCons (mLc (iSeqK (mVar 0)) (gSet 1) (tTrue) (mCall (callF f_is_place) (mCons (mVar 1) (mNil))) [1] kFrz) (mNil)))))
def f_is_bench : FS := runF 2 b_is_bench
theorem ok_is_bench {tl : TL} {P : Program} {w : World} {K : PySem.W.Frag} {mg : Str → Option Value} {fa : Addr} {fd : FuncData} (F : Fun K "is_bench" "is_bench" s_is_bench fa fd) (T : Txt mg) (c_is_place : CalA tl P w K mg "is_place" 5 ["thing"] f_is_place) : ∀ {τ : Tbs} {base : Heap}, Bs tl τ K mg base → FnG P w K mg base 6 fa fd ["thing"] (spD τ K 1 f_is_bench) :=
  fun bs => fnG (k := 5) (N := N_is_bench) (ps := ["thing"]) (b := b_is_bench) F sc_is_bench fun cdv A outer s H E hr hg => dss_one (ds_ret (de_andT (de_isi (by decide) rfl T.n_isinstance (by decide +kernel) rfl T.n_tuple (by decide +kernel) (de_var (pv 0))) (de_and (de_cmp (op_neA hr.units) (de_var (pv 0)) (de_tup (da_nil))) (de_one (de_callB (call_allDD rfl) rfl T.n_all (by decide +kernel) (da_cons (de_lc (own := [("place", 1)]) rfl sc_is_bench.nd (di_seqK (de_var (pv 0))) (blkOk_by (own := [("place", 1)]) (N := N_is_bench) (sc := defScope s_is_bench) (by decide +kernel)) (fun _ _ _ _ _ => dg_name (i := 1) sc_is_bench.nd rfl (Or.inl rfl)) (fun _ _ _ _ _ => dts_nil) (fun _ _ _ _ _ => de_callC (c_is_place bs) hr hg (by decide) rfl (da_cons (de_var (pv 1)) (da_nil)) (ArgN.cons ArgN.nil) rfl)) (da_nil)))))))
abbrev s_is_order : Stmt := top 12
abbrev N_is_order : List Str := ["rests", "thing", "one"]
theorem sc_is_order : FnScope N_is_order ["rests", "thing"] (defScope s_is_order) := ⟨rfl, rfl, rfl, by decide +kernel, rfl, by decide +kernel, by decide +kernel⟩
def b_is_order : MS := sSeq (sIf (tOrD (tNotD (tTru (mIsi "tuple" (mVar 1)))) (tOrD (tOf (mBin (eqA true) (mCall lenX (mCons (mVar 1) (mNil))) (mC (.int 3)))) (tNotD (tTru (mCall allDD (mCons (mLc (iSeqK (mSl (mVar 1) (oNo) (oYes (mC (.int 2))))) (gSet 2) (tTrue) (mCall (callF f_is_among) (mCons (mVar 0) (mCons (mVar 2) (mNil)))) [2] kFrz) (mNil))))))) (sRet (mC (.bool false))) (sNil))
    (sRet (vAnd (mBin (eqA true) (mBin ixY (mVar 1) (mC (.int 0))) (mBin ixY (mVar 1) (mC (.int 1)))) (mCall (callF f_is_ends) (mCons (mVar 0) (mCons (mBin ixY (mVar 1) (mC (.int 2))) (mNil))))))
def f_is_order : FS := runF 3 b_is_order
theorem ok_is_order {tl : TL} {P : Program} {w : World} {K : PySem.W.Frag} {mg : Str → Option Value} {fa : Addr} {fd : FuncData} (F : Fun K "is_order" "is_order" s_is_order fa fd) (T : Txt mg) (c_is_among : CalA tl P w K mg "is_among" 2 ["rests", "thing"] f_is_among) (c_is_ends : CalA tl P w K mg "is_ends" 5 ["rests", "thing"] f_is_ends) : ∀ {τ : Tbs} {base : Heap}, Bs tl τ K mg base → FnG P w K mg base 6 fa fd ["rests", "thing"] (spD τ K 2 f_is_order) :=
  fun bs => fnG (k := 5) (N := N_is_order) (ps := ["rests", "thing"]) (b := b_is_order) F sc_is_order fun cdv A outer s H E hr hg => dss_cons (ds_if (PW.pt (dw_or (dt_not (dt_tru (de_isi (by decide) rfl T.n_isinstance (by decide +kernel) rfl T.n_tuple (by decide +kernel) (de_var (pv 1))))) (dw_or (dt_cmp (op_neA hr.units) (de_callB call_lenX rfl T.n_len (by decide +kernel) (da_cons (de_var (pv 1)) (da_nil))) (de_int)) (dw_or1 (dt_not (dt_tru (de_callB (call_allDD rfl) rfl T.n_all (by decide +kernel) (da_cons (de_lc (own := [("one", 2)]) rfl sc_is_order.nd (di_seqK (de_sl (de_var (pv 1)) (do_no) (do_yes (de_int)))) (blkOk_by (own := [("one", 2)]) (N := N_is_order) (sc := defScope s_is_order) (by decide +kernel)) (fun _ _ _ _ _ => dg_name (i := 2) sc_is_order.nd rfl (Or.inl rfl)) (fun _ _ _ _ _ => dts_nil) (fun _ _ _ _ _ => de_callC (c_is_among bs) hr hg (by decide) rfl (da_cons (de_var (pv 0)) (da_cons (de_var (pv 2)) (da_nil))) (ArgN.cons (ArgN.cons ArgN.nil)) rfl)) (da_nil))))))))) (dss_one (ds_ret (de_bl))) (dss_nil))
    (dss_one (ds_ret (de_and (de_cmp (op_neA hr.units) (de_ixY hr (de_var (pv 1)) (de_int)) (de_ixY hr (de_var (pv 1)) (de_int))) (de_one (de_callC (c_is_ends bs) hr hg (by decide) rfl (da_cons (de_var (pv 0)) (da_cons (de_ixY hr (de_var (pv 1)) (de_int)) (da_nil))) (ArgN.cons (ArgN.cons ArgN.nil)) rfl)))))
abbrev s_is_task : Stmt := top 13
abbrev N_is_task : List Str := ["thing", "bench", "rests", "orders", "one", "other"]
theorem sc_is_task : FnScope N_is_task ["thing"] (defScope s_is_task) := ⟨rfl, rfl, rfl, by decide +kernel, rfl, by decide +kernel, by decide +kernel⟩
def m_is_task_1 : ME := mCall (callF f_is_content) (mCons (mVar 1) (mCons (mVar 0) (mNil)))
def m_is_task_2 : ME := mCall (callF f_is_order) (mCons (mVar 1) (mCons (mVar 0) (mNil)))
def b_is_task : MS := sSeq (sIf (tOrD (tNotD (tTru (mIsi "tuple" (mVar 0)))) (tOrD (tOf (mBin (eqA true) (mCall lenX (mCons (mVar 0) (mNil))) (mC (.int 3)))) (tNotD (tTru (mCall (callF f_is_bench) (mCons (mBin ixY (mVar 0) (mC (.int 0))) (mNil))))))) (sRet (mC (.bool false))) (sNil))
    (sSeq (sAsg (mVar 0) (gTupD 3 (gsCons (gSet 1) (gsCons (gSet 2) (gsCons (gSet 3) (gsNil))))))
    (sSeq (sIf (tOrD (tOf (mBin (eqA false) (mVar 2) (mCall tupF (mNil)))) (tNotD (tTru (mLam f_is_ascending m_is_task_1 [1] (mVar 2))))) (sRet (mC (.bool false))) (sNil))
    (sSeq (sIf (tNotD (tTru (mLam f_is_ascending m_is_task_2 [2] (mVar 3)))) (sRet (mC (.bool false))) (sNil))
    (sRet (mCall allDD (mCons (mLc (iZipD (mCons (mVar 3) (mCons (mSl (mVar 3) (oYes (mC (.int 1))) (oNo)) (mNil)))) (gTupD 2 (gsCons (gSet 4) (gsCons (gSet 5) (gsNil)))) (tTrue) (mBin (eqA true) (mSl (mVar 4) (oNo) (oYes (mC (.int 2)))) (mSl (mVar 5) (oNo) (oYes (mC (.int 2))))) [4, 5] kFrz) (mNil)))))))
def f_is_task : FS := runF 6 b_is_task
theorem ok_is_task {tl : TL} {P : Program} {w : World} {K : PySem.W.Frag} {mg : Str → Option Value} {fa : Addr} {fd : FuncData} {co Pt : Addr} (F : FunC K "is_task" "is_task" s_is_task fa fd co) (tm_is_task : (co, Pt, ("is_task.<locals>.<lambda>" : Str)) ∈ tl) (T : Txt mg) (c_is_bench : CalA tl P w K mg "is_bench" 6 ["thing"] f_is_bench) (c_is_content : CalA tl P w K mg "is_content" 2 ["bench", "thing"] f_is_content) (c_is_order : CalA tl P w K mg "is_order" 6 ["rests", "thing"] f_is_order) (c_is_ascending : CalL tl P w K mg "is_ascending" ["thing", "is_member"] f_is_ascending) : ∀ {τ : Tbs} {base : Heap}, Bs tl τ K mg base → FnG P w K mg base 9 fa fd ["thing"] (spD τ K 1 f_is_task) :=
  fun bs => fnGC (k := 8) (N := N_is_task) (ps := ["thing"]) (b := b_is_task) F sc_is_task fun A outer s H E hr hg => dss_cons (ds_if (PW.pt (dw_or (dt_not (dt_tru (de_isi (by decide) rfl T.n_isinstance (by decide +kernel) rfl T.n_tuple (by decide +kernel) (de_var (pv 0))))) (dw_or (dt_cmp (op_neA hr.units) (de_callB call_lenX rfl T.n_len (by decide +kernel) (da_cons (de_var (pv 0)) (da_nil))) (de_int)) (dw_or1 (dt_not (dt_tru (de_callC (c_is_bench bs) hr hg (by decide) rfl (da_cons (de_ixY hr (de_var (pv 0)) (de_int)) (da_nil)) (ArgN.cons ArgN.nil) rfl))))))) (dss_one (ds_ret (de_bl))) (dss_nil))
    (dss_cons (ds_asg (vis := [1, 2, 3]) (de_var (pv 0)) (dg_tup rfl (dgs_cons (dg_name (i := 1) sc_is_task.nd rfl (Or.inr rfl)) (dgs_cons (dg_name (i := 2) sc_is_task.nd rfl (Or.inr rfl)) (dgs_cons (dg_name (i := 3) sc_is_task.nd rfl (Or.inl rfl)) (dgs_nil))))))
    (dss_cons (ds_if (PW.pt (dw_or (dt_cmp (op_eqA hr.units) (de_var (pv 2)) (de_tup (da_nil))) (dw_or1 (dt_not (dt_tru (de_lamC (p := ("one" : Str)) (sc := defScope s_is_task) (j := 2) (N := N_is_task) (cs := ["bench"]) (caps := [1]) (F := m_is_task_1) c_is_ascending bs tm_is_task rfl rfl rfl rfl hr (by decide) hg rfl rfl rfl (by decide +kernel) rfl (de_var (pv 2)) (fun _ _ _ _ _ _ => rfl) (fun _ _ bs _ _ _ _ _ _ _ hr hg => de_callC (c_is_content bs) hr hg (by decide) rfl (da_cons (de_var (pv 1)) (da_cons (de_var (pv 0)) (da_nil))) (ArgN.cons (ArgN.cons ArgN.nil)) rfl))))))) (dss_one (ds_ret (de_bl))) (dss_nil))
    (dss_cons (ds_if (dt_not (dt_tru (de_lamC (p := ("one" : Str)) (sc := defScope s_is_task) (j := 6) (N := N_is_task) (cs := ["rests"]) (caps := [2]) (F := m_is_task_2) c_is_ascending bs tm_is_task rfl rfl rfl rfl hr (by decide) hg rfl rfl rfl (by decide +kernel) rfl (de_var (pv 3)) (fun _ _ _ _ _ _ => rfl) (fun _ _ bs _ _ _ _ _ _ _ hr hg => de_callC (c_is_order bs) hr hg (by decide) rfl (da_cons (de_var (pv 1)) (da_cons (de_var (pv 0)) (da_nil))) (ArgN.cons (ArgN.cons ArgN.nil)) rfl)))) (dss_one (ds_ret (de_bl))) (dss_nil))
    (dss_one (ds_ret (de_callB (call_allDD rfl) rfl T.n_all (by decide +kernel) (da_cons (de_lc (own := [("one", 4), ("other", 5)]) rfl sc_is_task.nd (di_zipT rfl T.n_zip (da_cons (de_var (pv 3)) (da_cons (de_sl (de_var (pv 3)) (do_yes (de_int)) (do_no)) (da_nil)))) (blkOk_by (own := [("one", 4), ("other", 5)]) (N := N_is_task) (sc := defScope s_is_task) (by decide +kernel)) (fun _ _ _ _ _ => dg_tup rfl (dgs_cons (dg_name (i := 4) sc_is_task.nd rfl (Or.inl rfl)) (dgs_cons (dg_name (i := 5) sc_is_task.nd rfl (Or.inl rfl)) (dgs_nil)))) (fun _ _ _ _ _ => dts_nil) (fun _ _ _ _ _ => de_cmp (op_neA hr.units) (de_sl (de_var (pv 4)) (do_no) (do_yes (de_int))) (de_sl (de_var (pv 5)) (do_no) (do_yes (de_int))))) (da_nil))))))))
abbrev s_law : Stmt := top 31
abbrev N_law : List Str := ["_law_script", "_law_bag_here", "_law_turn", "_law_bench_here", "_law_task", "_law_one", "_law_rests_here", "_law_again", "_law_orders", "_law_twos", "_law_start", "_law_goal", "_law_ends_here", "_law_made", "_law_due", "_law_shown", "_law_told", "_law_back", "_law_to"]
theorem sc_law : FnScope N_law ["_law_script"] (defScope s_law) := ⟨rfl, rfl, rfl, by decide +kernel, rfl, by decide +kernel, by decide +kernel⟩
def L_law_1 : MS := sExpr (mMt extendF (mVar 9) (mCons (mLc (iSeqK (mVar 6)) (gSet 18) (tOf (mBin (eqA true) (mVar 18) (mVar 5))) (mCall tupF (mCons (mVar 5) (mCons (mVar 18) (mNil)))) [18] kFrz) (mNil)))
def L_law_2 : MS := sSeq (sAsg (mCall tupleD (mCons (mCall sortedA (mCons (mCall lstF (mCons (mVar 10) (mCons (mVar 11) (mNil)))) (mNil))) (mNil))) (gSet 12))
    (sSeq (sAsg (mCall (callF f_either_order) (mCons (mVar 10) (mCons (mVar 11) (mNil)))) (gSet 13))
    (sSeq (sIf (tNotD (tTru (mCall (callF f_l_alike) (mCons (mVar 13) (mCons (mCall tupF (mCons (mVar 10) (mCons (mVar 11) (mCons (mVar 12) (mNil))))) (mNil)))))) (sRet (mC (.bool false))) (sNil))
    (sExpr (mMt appendF (mVar 8) (mCons (vIf (tOf (mBin (eqA false) (mCall (callF f_l_take) (mCons (mVar 1) (mCons (mC (.int 2)) (mNil)))) (mC (.int 0)))) (mVar 13) (mCall tupF (mCons (mVar 10) (mCons (mVar 11) (mCons (mCall (callF f_l_ends) (mCons (mVar 1) (mCons (mVar 6) (mCons (mVar 10) (mCons (mVar 11) (mNil)))))) (mNil)))))) (mNil))))))
def L_law_3 : MS := sSeq (sAsg (mCall (callF f_with_orders) (mCons (mVar 4) (mCons (mVar 8) (mNil)))) (gSet 16))
    (sSeq (sIf (tOrD (tNotD (tTru (mCall (callF f_l_alike) (mCons (mVar 16) (mCons (mVar 14) (mNil)))))) (tOrD (tOf (mBin (isBD true) (mCall (callF f_is_task) (mCons (mVar 16) (mNil))) (mC (.bool true)))) (tOf (mBin (eqA true) (mCall reprD (mCons (mCall lstF (mCons (mVar 4) (mCons (mVar 8) (mNil)))) (mNil))) (mVar 15))))) (sRet (mC (.bool false))) (sNil))
    (sSeq (sAsg (mCall lstF (mCons (mCall (callF f_with_orders) (mCons (mVar 16) (mCons (mRevL (mCall listD (mCons (mBin ixY (mVar 4) (mC (.int 2))) (mNil)))) (mNil)))) (mCons (mCall (callF f_with_orders) (mCons (mVar 16) (mCons (mCall lstF (mNil)) (mNil)))) (mNil)))) (gSet 17))
    (sIf (tNotD (tTru (mCall (callF f_l_alike) (mCons (mVar 17) (mCons (mCall lstF (mCons (mVar 4) (mCons (mCall tupF (mCons (mVar 3) (mCons (mVar 6) (mCons (mCall tupF (mNil)) (mNil))))) (mNil)))) (mNil)))))) (sRet (mC (.bool false))) (sNil))))
def L_law_4 : MS := sSeq (sAsg (mCall (callF f_l_bench) (mCons (mVar 1) (mCons (mC (.int 36)) (mNil)))) (gSet 3))
    (sSeq (sAsg (mCall (callF f_l_any_task) (mCons (mVar 1) (mCons (mVar 3) (mCons (mC (.int 8)) (mCons (mC (.int 9)) (mNil)))))) (gSet 4))
    (sSeq (sPar3 6 8 9 (mCons (mBin ixY (mVar 4) (mC (.int 1))) (mCons (mCall lstB (mNil)) (mCons (mCall lstB (mNil)) mNil))))
    (sSeq (sFor (iSeqK (mVar 6)) (gSet 5) (L_law_1))
    (sSeq (sFz 9 (sFor (iSeqK (mSl (mCall (callF f_l_mixed) (mCons (mVar 1) (mCons (mVar 9) (mNil)))) (oNo) (oYes (mCall (callF f_l_take) (mCons (mVar 1) (mCons (mC (.int 12)) (mNil))))))) (gTupD 2 (gsCons (gSet 10) (gsCons (gSet 11) (gsNil)))) (L_law_2)))
    (sSeq (sFz 8 (sPar 14 15 (mCons (mCall tupF (mCons (mVar 3) (mCons (mVar 6) (mCons (mCall tupleD (mCons (mCall sortedA (mCons (mVar 8) (mNil))) (mNil))) (mNil))))) (mCons (mCall reprD (mCons (mCall lstF (mCons (mVar 4) (mCons (mVar 8) (mNil)))) (mNil))) mNil))))
    (sFor (iRng1D (mCons (mC (.int 2)) (mNil))) (gSet 7) (L_law_3)))))))
def b_law : MS := sSeq (sAsg (mCall (callF f_l_bag) (mCons (mVar 0) (mNil))) (gSet 1))
    (sSeq (sFor (iRng1D (mCons (mC (.int 3)) (mNil))) (gSet 2) (L_law_4))
    (sRet (mC (.bool true))))
def f_law : FS := runF 19 b_law
theorem ok_law {tl : TL} {P : Program} {w : World} {K : PySem.W.Frag} {mg : Str → Option Value} {fa : Addr} {fd : FuncData} (F : Fun K "law" "law" s_law fa fd) (T : Txt mg) (c_l_bag : CalA tl P w K mg "_law_bag" 1 ["_law_script"] f_l_bag) (c_l_bench : CalA tl P w K mg "_law_bench" 4 ["_law_bag_here", "_law_most"] f_l_bench) (c_l_any_task : CalA tl P w K mg "_law_any_task" 4 ["_law_bag_here", "_law_bench_here", "_law_most", "_law_orders"] f_l_any_task) (c_l_mixed : CalA tl P w K mg "_law_mixed" 2 ["_law_bag_here", "_law_things"] f_l_mixed) (c_l_take : CalA tl P w K mg "_law_take" 1 ["_law_bag_here", "_law_upto"] f_l_take) (c_either_order : CalA tl P w K mg "either_order" 1 ["start", "goal"] f_either_order) (c_l_alike : CalA tl P w K mg "_law_alike" 1 ["_law_found", "_law_due"] f_l_alike) (c_l_ends : CalA tl P w K mg "_law_ends" 2 ["_law_bag_here", "_law_rests_here", "_law_start", "_law_goal"] f_l_ends) (c_with_orders : CalA tl P w K mg "with_orders" 1 ["task", "orders"] f_with_orders) (c_is_task : CalA tl P w K mg "is_task" 9 ["thing"] f_is_task) : ∀ {τ : Tbs} {base : Heap}, Bs tl τ K mg base → FnG P w K mg base 10 fa fd ["_law_script"] (spD τ K 1 f_law) :=
  fun bs => fnG (k := 9) (N := N_law) (ps := ["_law_script"]) (b := b_law) F sc_law fun cdv A outer s H E hr hg => dss_cons (ds_set (i := 1) sc_law.nd rfl (Or.inl rfl) (de_callC (c_l_bag bs) hr hg (by decide) rfl (da_cons (de_var (pv 0)) (da_nil)) (ArgN.cons ArgN.nil) rfl))
    (dss_cons (ds_for (vis := [2]) PassesOwn.never rfl (di_rng1 rfl T.n_range (da_cons (de_int) (da_nil))) (dg_name (i := 2) sc_law.nd rfl (Or.inl rfl)) (dss_cons (ds_set (i := 3) sc_law.nd rfl (Or.inl rfl) (de_callC (c_l_bench bs) hr hg (by decide) rfl (da_cons (de_var (pv 1)) (da_cons (de_int) (da_nil))) (ArgN.cons (ArgN.cons ArgN.nil)) rfl))
    (dss_cons (ds_set (i := 4) sc_law.nd rfl (Or.inl rfl) (de_callC (c_l_any_task bs) hr hg (by decide) rfl (da_cons (de_var (pv 1)) (da_cons (de_var (pv 3)) (da_cons (de_int) (da_cons (de_int) (da_nil))))) (ArgN.cons (ArgN.cons (ArgN.cons (ArgN.cons ArgN.nil)))) rfl))
    (dss_cons (ds_par3 (i := 6) (j := 8) (l := 9) rfl sc_law.nd rfl rfl rfl (by decide) (by decide) (by decide) rfl rfl rfl (da_cons (de_ixY hr (de_var (pv 4)) (de_int)) (da_cons (de_lstB (da_nil)) (da_cons (de_lstB (da_nil)) da_nil))) (by rfl))
    (dss_cons (ds_for (vis := [5]) PassesOwn.never rfl (di_seqK (de_var (pv 6))) (dg_name (i := 5) sc_law.nd rfl (Or.inr rfl)) (dss_one (ds_expr (de_bm PySem.F.slot_list_extend PySem.F.type_list_extend mt_extendD (de_var (pv 9)) (da_cons (de_lc (own := [("_law_to", 18)]) rfl sc_law.nd (di_seqK (de_var (pv 6))) (blkOk_by (own := [("_law_to", 18)]) (N := N_law) (sc := defScope s_law) (by decide +kernel)) (fun _ _ _ _ _ => dg_name (i := 18) sc_law.nd rfl (Or.inl rfl)) (fun _ _ _ _ _ => dts_one (dt_cmp (op_neA hr.units) (de_var (pv 18)) (de_var (pv 5)))) (fun _ _ _ _ _ => de_tup (da_cons (de_var (pv 5)) (da_cons (de_var (pv 18)) (da_nil))))) (da_nil))))))
    (dss_cons (ds_fz (ds_for (vis := [10, 11]) PassesOwn.never rfl (di_seqK (de_sl (de_callC (c_l_mixed bs) hr hg (by decide) rfl (da_cons (de_var (pv 1)) (da_cons (de_var (pv 9)) (da_nil))) (ArgN.cons (ArgN.cons ArgN.nil)) rfl) (do_no) (do_yes (de_callC (c_l_take bs) hr hg (by decide) rfl (da_cons (de_var (pv 1)) (da_cons (de_int) (da_nil))) (ArgN.cons (ArgN.cons ArgN.nil)) rfl)))) (dg_tup rfl (dgs_cons (dg_name (i := 10) sc_law.nd rfl (Or.inl rfl)) (dgs_cons (dg_name (i := 11) sc_law.nd rfl (Or.inl rfl)) (dgs_nil)))) (dss_cons (ds_set (i := 12) sc_law.nd rfl (Or.inl rfl) (de_callTy call_tupleDD rfl T.n_tuple (by decide +kernel) (da_cons (de_callB (call_sortedA hr) rfl T.n_sorted (by decide +kernel) (da_cons (de_lst (da_cons (de_var (pv 10)) (da_cons (de_var (pv 11)) (da_nil)))) (da_nil))) (da_nil))))
    (dss_cons (ds_set (i := 13) sc_law.nd rfl (Or.inl rfl) (de_callC (c_either_order bs) hr hg (by decide) rfl (da_cons (de_var (pv 10)) (da_cons (de_var (pv 11)) (da_nil))) (ArgN.cons (ArgN.cons ArgN.nil)) rfl))
    (dss_cons (ds_if (dt_not (dt_tru (de_callC (c_l_alike bs) hr hg (by decide) rfl (da_cons (de_var (pv 13)) (da_cons (de_tup (da_cons (de_var (pv 10)) (da_cons (de_var (pv 11)) (da_cons (de_var (pv 12)) (da_nil))))) (da_nil))) (ArgN.cons (ArgN.cons ArgN.nil)) rfl))) (dss_one (ds_ret (de_bl))) (dss_nil))
    (dss_one (ds_expr (de_bm PySem.F.slot_list_append PySem.F.type_list_append mt_appendD (de_var (pv 8)) (da_cons (de_if (dt_cmp (op_eqA hr.units) (de_callC (c_l_take bs) hr hg (by decide) rfl (da_cons (de_var (pv 1)) (da_cons (de_int) (da_nil))) (ArgN.cons (ArgN.cons ArgN.nil)) rfl) (de_int)) (de_var (pv 13)) (de_tup (da_cons (de_var (pv 10)) (da_cons (de_var (pv 11)) (da_cons (de_callC (c_l_ends bs) hr hg (by decide) rfl (da_cons (de_var (pv 1)) (da_cons (de_var (pv 6)) (da_cons (de_var (pv 10)) (da_cons (de_var (pv 11)) (da_nil))))) (ArgN.cons (ArgN.cons (ArgN.cons (ArgN.cons ArgN.nil)))) rfl) (da_nil)))))) (da_nil))))))))))
    (dss_cons (ds_fz (ds_par (i := 14) (j := 15) rfl sc_law.nd rfl rfl (by decide) rfl rfl (da_cons (de_tup (da_cons (de_var (pv 3)) (da_cons (de_var (pv 6)) (da_cons (de_callTy call_tupleDD rfl T.n_tuple (by decide +kernel) (da_cons (de_callB (call_sortedA hr) rfl T.n_sorted (by decide +kernel) (da_cons (de_var (pv 8)) (da_nil))) (da_nil))) (da_nil))))) (da_cons (de_callB (call_reprDD hr hg) rfl T.n_repr (by decide +kernel) (da_cons (de_lst (da_cons (de_var (pv 4)) (da_cons (de_var (pv 8)) (da_nil)))) (da_nil))) da_nil)) (by rfl)))
    (dss_one (ds_for (vis := [7]) PassesOwn.never rfl (di_rng1 rfl T.n_range (da_cons (de_int) (da_nil))) (dg_name (i := 7) sc_law.nd rfl (Or.inl rfl)) (dss_cons (ds_set (i := 16) sc_law.nd rfl (Or.inl rfl) (de_callC (c_with_orders bs) hr hg (by decide) rfl (da_cons (de_var (pv 4)) (da_cons (de_var (pv 8)) (da_nil))) (ArgN.cons (ArgN.cons ArgN.nil)) rfl))
    (dss_cons (ds_if (PW.pt (dw_or (dt_not (dt_tru (de_callC (c_l_alike bs) hr hg (by decide) rfl (da_cons (de_var (pv 16)) (da_cons (de_var (pv 14)) (da_nil))) (ArgN.cons (ArgN.cons ArgN.nil)) rfl))) (dw_or (dt_cmp op_notBD (de_callC (c_is_task bs) hr hg (by decide) rfl (da_cons (de_var (pv 16)) (da_nil)) (ArgN.cons ArgN.nil) rfl) (de_bl)) (dw_or1 (dt_cmp (op_neA hr.units) (de_callB (call_reprDD hr hg) rfl T.n_repr (by decide +kernel) (da_cons (de_lst (da_cons (de_var (pv 4)) (da_cons (de_var (pv 8)) (da_nil)))) (da_nil))) (de_var (pv 15))))))) (dss_one (ds_ret (de_bl))) (dss_nil))
    (dss_cons (ds_set (i := 17) sc_law.nd rfl (Or.inl rfl) (de_lst (da_cons (de_callC (c_with_orders bs) hr hg (by decide) rfl (da_cons (de_var (pv 16)) (da_cons (de_revL (de_callTy call_listDD rfl T.n_list (by decide +kernel) (da_cons (de_ixY hr (de_var (pv 4)) (de_int)) (da_nil)))) (da_nil))) (ArgN.cons (ArgN.cons ArgN.nil)) rfl) (da_cons (de_callC (c_with_orders bs) hr hg (by decide) rfl (da_cons (de_var (pv 16)) (da_cons (de_lst (da_nil)) (da_nil))) (ArgN.cons (ArgN.cons ArgN.nil)) rfl) (da_nil)))))
    (dss_one (ds_if (dt_not (dt_tru (de_callC (c_l_alike bs) hr hg (by decide) rfl (da_cons (de_var (pv 17)) (da_cons (de_lst (da_cons (de_var (pv 4)) (da_cons (de_tup (da_cons (de_var (pv 3)) (da_cons (de_var (pv 6)) (da_cons (de_tup (da_nil)) (da_nil))))) (da_nil)))) (da_nil))) (ArgN.cons (ArgN.cons ArgN.nil)) rfl))) (dss_one (ds_ret (de_bl))) (dss_nil)))))))))))))))
    (dss_one (ds_ret (de_bl))))
theorem all_mk {l : PySem.W.OpenLaw} {w : World} {K : PySem.W.Frag} {h : Heap} {mg : Str → Option Value} {fa : Addr} {ts : List Addr} (X : K.In h) (G : h.Ns mainGlobals mg) (hfa : mg "law" = some (.ref fa))
    {g_with_orders g_either_order g_is_integer g_is_ascending g_l_bag g_l_take g_l_alike g_l_steps g_l_flat g_is_move g_is_content g_is_among g_l_some g_l_mixed g_l_contents g_l_ends g_l_place g_l_graph g_l_way_by g_l_rests g_l_couple g_l_bench g_l_any_task g_is_place g_is_ends g_is_bench g_is_order g_is_task g_law : Addr} {od0 an0 od1 an1 od2 an2 od3 an3 od4 an4 od5 an5 od6 an6 od7 an7 od8 an8 od9 an9 od10 an10 od11 an11 od12 an12 od13 an13 od14 an14 od15 an15 od16 an16 od17 an17 od18 an18 od19 an19 od20 an20 od21 an21 od22 an22 od23 an23 od24 an24 od25 an25 od26 an26 od27 an27 od28 an28 : Option Addr} {sl0 sl1 sl2 sl3 sl4 sl5 sl6 sl7 sl8 sl9 sl10 sl11 sl12 sl13 sl14 sl15 sl16 sl17 sl18 sl19 sl20 sl21 sl22 sl23 sl24 sl25 sl26 sl27 sl28 : Array (Option Value)} {oc0 kV0 dc0 pm0 cd0 ct0 oc1 kV1 dc1 pm1 cd1 ct1 oc2 kV2 dc2 pm2 cd2 ct2 oc3 kV3 dc3 pm3 cd3 ct3 oc4 kV4 dc4 pm4 cd4 ct4 oc5 kV5 dc5 pm5 cd5 ct5 oc6 kV6 dc6 pm6 cd6 ct6 oc7 kV7 dc7 pm7 cd7 ct7 oc8 kV8 dc8 pm8 cd8 ct8 oc9 kV9 dc9 pm9 cd9 ct9 oc10 kV10 dc10 pm10 cd10 ct10 oc11 kV11 dc11 pm11 cd11 ct11 oc12 kV12 dc12 pm12 cd12 ct12 oc13 kV13 dc13 pm13 cd13 ct13 oc14 kV14 dc14 pm14 cd14 ct14 oc15 kV15 dc15 pm15 cd15 ct15 oc16 kV16 dc16 pm16 cd16 ct16 oc17 kV17 dc17 pm17 cd17 ct17 oc18 kV18 dc18 pm18 cd18 ct18 oc19 kV19 dc19 pm19 cd19 ct19 oc20 kV20 dc20 pm20 cd20 ct20 oc21 kV21 dc21 pm21 cd21 ct21 oc22 kV22 dc22 pm22 cd22 ct22 oc23 kV23 dc23 pm23 ct23 oc24 kV24 dc24 pm24 ct24 oc25 kV25 dc25 pm25 cd25 ct25 oc26 kV26 dc26 pm26 cd26 ct26 oc27 kV27 dc27 pm27 ct27 oc28 kV28 dc28 pm28 cd28 ct28 : Value}
    (a_with_orders : PySem.W.nsIn K mainGlobals "with_orders" = some (some (.ref g_with_orders))) (l_with_orders : K.lookup g_with_orders = some ⟨oc0, od0, .func (PySem.W.fnOf "with_orders" "with_orders" (defArgs s_with_orders) (defBody s_with_orders) (defScope s_with_orders) .none kV0 dc0 pm0 an0 cd0 ct0), sl0⟩) (k_with_orders : PySem.W.codeIn K cd0 "with_orders" = true) (p_with_orders : PySem.W.keepIn K (.ref g_with_orders) = true)
    (a_either_order : PySem.W.nsIn K mainGlobals "either_order" = some (some (.ref g_either_order))) (l_either_order : K.lookup g_either_order = some ⟨oc1, od1, .func (PySem.W.fnOf "either_order" "either_order" (defArgs s_either_order) (defBody s_either_order) (defScope s_either_order) .none kV1 dc1 pm1 an1 cd1 ct1), sl1⟩) (k_either_order : PySem.W.codeIn K cd1 "either_order" = true) (p_either_order : PySem.W.keepIn K (.ref g_either_order) = true)
    (a_is_integer : PySem.W.nsIn K mainGlobals "is_integer" = some (some (.ref g_is_integer))) (l_is_integer : K.lookup g_is_integer = some ⟨oc2, od2, .func (PySem.W.fnOf "is_integer" "is_integer" (defArgs s_is_integer) (defBody s_is_integer) (defScope s_is_integer) .none kV2 dc2 pm2 an2 cd2 ct2), sl2⟩) (k_is_integer : PySem.W.codeIn K cd2 "is_integer" = true) (p_is_integer : PySem.W.keepIn K (.ref g_is_integer) = true)
    (a_is_ascending : PySem.W.nsIn K mainGlobals "is_ascending" = some (some (.ref g_is_ascending))) (l_is_ascending : K.lookup g_is_ascending = some ⟨oc3, od3, .func (PySem.W.fnOf "is_ascending" "is_ascending" (defArgs s_is_ascending) (defBody s_is_ascending) (defScope s_is_ascending) .none kV3 dc3 pm3 an3 cd3 ct3), sl3⟩) (k_is_ascending : PySem.W.codeIn K cd3 "is_ascending" = true) (p_is_ascending : PySem.W.keepIn K (.ref g_is_ascending) = true)
    (a_l_bag : PySem.W.nsIn K mainGlobals "_law_bag" = some (some (.ref g_l_bag))) (l_l_bag : K.lookup g_l_bag = some ⟨oc4, od4, .func (PySem.W.fnOf "_law_bag" "_law_bag" (defArgs s_l_bag) (defBody s_l_bag) (defScope s_l_bag) .none kV4 dc4 pm4 an4 cd4 ct4), sl4⟩) (k_l_bag : PySem.W.codeIn K cd4 "_law_bag" = true) (p_l_bag : PySem.W.keepIn K (.ref g_l_bag) = true)
    (a_l_take : PySem.W.nsIn K mainGlobals "_law_take" = some (some (.ref g_l_take))) (l_l_take : K.lookup g_l_take = some ⟨oc5, od5, .func (PySem.W.fnOf "_law_take" "_law_take" (defArgs s_l_take) (defBody s_l_take) (defScope s_l_take) .none kV5 dc5 pm5 an5 cd5 ct5), sl5⟩) (k_l_take : PySem.W.codeIn K cd5 "_law_take" = true) (p_l_take : PySem.W.keepIn K (.ref g_l_take) = true)
    (a_l_alike : PySem.W.nsIn K mainGlobals "_law_alike" = some (some (.ref g_l_alike))) (l_l_alike : K.lookup g_l_alike = some ⟨oc6, od6, .func (PySem.W.fnOf "_law_alike" "_law_alike" (defArgs s_l_alike) (defBody s_l_alike) (defScope s_l_alike) .none kV6 dc6 pm6 an6 cd6 ct6), sl6⟩) (k_l_alike : PySem.W.codeIn K cd6 "_law_alike" = true) (p_l_alike : PySem.W.keepIn K (.ref g_l_alike) = true)
    (a_l_steps : PySem.W.nsIn K mainGlobals "_law_steps" = some (some (.ref g_l_steps))) (l_l_steps : K.lookup g_l_steps = some ⟨oc7, od7, .func (PySem.W.fnOf "_law_steps" "_law_steps" (defArgs s_l_steps) (defBody s_l_steps) (defScope s_l_steps) .none kV7 dc7 pm7 an7 cd7 ct7), sl7⟩) (k_l_steps : PySem.W.codeIn K cd7 "_law_steps" = true) (p_l_steps : PySem.W.keepIn K (.ref g_l_steps) = true)
    (a_l_flat : PySem.W.nsIn K mainGlobals "_law_flat" = some (some (.ref g_l_flat))) (l_l_flat : K.lookup g_l_flat = some ⟨oc8, od8, .func (PySem.W.fnOf "_law_flat" "_law_flat" (defArgs s_l_flat) (defBody s_l_flat) (defScope s_l_flat) .none kV8 dc8 pm8 an8 cd8 ct8), sl8⟩) (k_l_flat : PySem.W.codeIn K cd8 "_law_flat" = true) (p_l_flat : PySem.W.keepIn K (.ref g_l_flat) = true)
    (a_is_move : PySem.W.nsIn K mainGlobals "is_move" = some (some (.ref g_is_move))) (l_is_move : K.lookup g_is_move = some ⟨oc9, od9, .func (PySem.W.fnOf "is_move" "is_move" (defArgs s_is_move) (defBody s_is_move) (defScope s_is_move) .none kV9 dc9 pm9 an9 cd9 ct9), sl9⟩) (k_is_move : PySem.W.codeIn K cd9 "is_move" = true) (p_is_move : PySem.W.keepIn K (.ref g_is_move) = true)
    (a_is_content : PySem.W.nsIn K mainGlobals "is_content" = some (some (.ref g_is_content))) (l_is_content : K.lookup g_is_content = some ⟨oc10, od10, .func (PySem.W.fnOf "is_content" "is_content" (defArgs s_is_content) (defBody s_is_content) (defScope s_is_content) .none kV10 dc10 pm10 an10 cd10 ct10), sl10⟩) (k_is_content : PySem.W.codeIn K cd10 "is_content" = true) (p_is_content : PySem.W.keepIn K (.ref g_is_content) = true)
    (a_is_among : PySem.W.nsIn K mainGlobals "is_among" = some (some (.ref g_is_among))) (l_is_among : K.lookup g_is_among = some ⟨oc11, od11, .func (PySem.W.fnOf "is_among" "is_among" (defArgs s_is_among) (defBody s_is_among) (defScope s_is_among) .none kV11 dc11 pm11 an11 cd11 ct11), sl11⟩) (k_is_among : PySem.W.codeIn K cd11 "is_among" = true) (p_is_among : PySem.W.keepIn K (.ref g_is_among) = true)
    (a_l_some : PySem.W.nsIn K mainGlobals "_law_some" = some (some (.ref g_l_some))) (l_l_some : K.lookup g_l_some = some ⟨oc12, od12, .func (PySem.W.fnOf "_law_some" "_law_some" (defArgs s_l_some) (defBody s_l_some) (defScope s_l_some) .none kV12 dc12 pm12 an12 cd12 ct12), sl12⟩) (k_l_some : PySem.W.codeIn K cd12 "_law_some" = true) (p_l_some : PySem.W.keepIn K (.ref g_l_some) = true)
    (a_l_mixed : PySem.W.nsIn K mainGlobals "_law_mixed" = some (some (.ref g_l_mixed))) (l_l_mixed : K.lookup g_l_mixed = some ⟨oc13, od13, .func (PySem.W.fnOf "_law_mixed" "_law_mixed" (defArgs s_l_mixed) (defBody s_l_mixed) (defScope s_l_mixed) .none kV13 dc13 pm13 an13 cd13 ct13), sl13⟩) (k_l_mixed : PySem.W.codeIn K cd13 "_law_mixed" = true) (p_l_mixed : PySem.W.keepIn K (.ref g_l_mixed) = true)
    (a_l_contents : PySem.W.nsIn K mainGlobals "_law_contents" = some (some (.ref g_l_contents))) (l_l_contents : K.lookup g_l_contents = some ⟨oc14, od14, .func (PySem.W.fnOf "_law_contents" "_law_contents" (defArgs s_l_contents) (defBody s_l_contents) (defScope s_l_contents) .none kV14 dc14 pm14 an14 cd14 ct14), sl14⟩) (k_l_contents : PySem.W.codeIn K cd14 "_law_contents" = true) (p_l_contents : PySem.W.keepIn K (.ref g_l_contents) = true)
    (a_l_ends : PySem.W.nsIn K mainGlobals "_law_ends" = some (some (.ref g_l_ends))) (l_l_ends : K.lookup g_l_ends = some ⟨oc15, od15, .func (PySem.W.fnOf "_law_ends" "_law_ends" (defArgs s_l_ends) (defBody s_l_ends) (defScope s_l_ends) .none kV15 dc15 pm15 an15 cd15 ct15), sl15⟩) (k_l_ends : PySem.W.codeIn K cd15 "_law_ends" = true) (p_l_ends : PySem.W.keepIn K (.ref g_l_ends) = true)
    (a_l_place : PySem.W.nsIn K mainGlobals "_law_place" = some (some (.ref g_l_place))) (l_l_place : K.lookup g_l_place = some ⟨oc16, od16, .func (PySem.W.fnOf "_law_place" "_law_place" (defArgs s_l_place) (defBody s_l_place) (defScope s_l_place) .none kV16 dc16 pm16 an16 cd16 ct16), sl16⟩) (k_l_place : PySem.W.codeIn K cd16 "_law_place" = true) (p_l_place : PySem.W.keepIn K (.ref g_l_place) = true)
    (a_l_graph : PySem.W.nsIn K mainGlobals "_law_graph" = some (some (.ref g_l_graph))) (l_l_graph : K.lookup g_l_graph = some ⟨oc17, od17, .func (PySem.W.fnOf "_law_graph" "_law_graph" (defArgs s_l_graph) (defBody s_l_graph) (defScope s_l_graph) .none kV17 dc17 pm17 an17 cd17 ct17), sl17⟩) (k_l_graph : PySem.W.codeIn K cd17 "_law_graph" = true) (p_l_graph : PySem.W.keepIn K (.ref g_l_graph) = true)
    (a_l_way_by : PySem.W.nsIn K mainGlobals "_law_way_by" = some (some (.ref g_l_way_by))) (l_l_way_by : K.lookup g_l_way_by = some ⟨oc18, od18, .func (PySem.W.fnOf "_law_way_by" "_law_way_by" (defArgs s_l_way_by) (defBody s_l_way_by) (defScope s_l_way_by) .none kV18 dc18 pm18 an18 cd18 ct18), sl18⟩) (k_l_way_by : PySem.W.codeIn K cd18 "_law_way_by" = true) (p_l_way_by : PySem.W.keepIn K (.ref g_l_way_by) = true)
    (a_l_rests : PySem.W.nsIn K mainGlobals "_law_rests" = some (some (.ref g_l_rests))) (l_l_rests : K.lookup g_l_rests = some ⟨oc19, od19, .func (PySem.W.fnOf "_law_rests" "_law_rests" (defArgs s_l_rests) (defBody s_l_rests) (defScope s_l_rests) .none kV19 dc19 pm19 an19 cd19 ct19), sl19⟩) (k_l_rests : PySem.W.codeIn K cd19 "_law_rests" = true) (p_l_rests : PySem.W.keepIn K (.ref g_l_rests) = true)
    (a_l_couple : PySem.W.nsIn K mainGlobals "_law_couple" = some (some (.ref g_l_couple))) (l_l_couple : K.lookup g_l_couple = some ⟨oc20, od20, .func (PySem.W.fnOf "_law_couple" "_law_couple" (defArgs s_l_couple) (defBody s_l_couple) (defScope s_l_couple) .none kV20 dc20 pm20 an20 cd20 ct20), sl20⟩) (k_l_couple : PySem.W.codeIn K cd20 "_law_couple" = true) (p_l_couple : PySem.W.keepIn K (.ref g_l_couple) = true)
    (a_l_bench : PySem.W.nsIn K mainGlobals "_law_bench" = some (some (.ref g_l_bench))) (l_l_bench : K.lookup g_l_bench = some ⟨oc21, od21, .func (PySem.W.fnOf "_law_bench" "_law_bench" (defArgs s_l_bench) (defBody s_l_bench) (defScope s_l_bench) .none kV21 dc21 pm21 an21 cd21 ct21), sl21⟩) (k_l_bench : PySem.W.codeIn K cd21 "_law_bench" = true) (p_l_bench : PySem.W.keepIn K (.ref g_l_bench) = true)
    (a_l_any_task : PySem.W.nsIn K mainGlobals "_law_any_task" = some (some (.ref g_l_any_task))) (l_l_any_task : K.lookup g_l_any_task = some ⟨oc22, od22, .func (PySem.W.fnOf "_law_any_task" "_law_any_task" (defArgs s_l_any_task) (defBody s_l_any_task) (defScope s_l_any_task) .none kV22 dc22 pm22 an22 cd22 ct22), sl22⟩) (k_l_any_task : PySem.W.codeIn K cd22 "_law_any_task" = true) (p_l_any_task : PySem.W.keepIn K (.ref g_l_any_task) = true)
    {co23 Pt23 : Addr}
    (a_is_place : PySem.W.nsIn K mainGlobals "is_place" = some (some (.ref g_is_place))) (l_is_place : K.lookup g_is_place = some ⟨oc23, od23, .func (PySem.W.fnOf "is_place" "is_place" (defArgs s_is_place) (defBody s_is_place) (defScope s_is_place) .none kV23 dc23 pm23 an23 (.ref co23) ct23), sl23⟩) (k_is_place : PySem.W.codeIn K (.ref co23) "is_place" = true) (p_is_place : PySem.W.keepIn K (.ref g_is_place) = true)
    {tc23 : Value} {td23 : Option Addr} {tf23 : Array Value} {tg23 : Array (Option Value)} (ta_is_place : K.lookup co23 = some ⟨tc23, td23, .fields tf23, tg23⟩) (tp_is_place : tf23[11]? = some (.ref Pt23)) (th_is_place : PySem.W.codeHdIn K co23 Pt23 = true) (ti_is_place : Pt23 ∈ ts)
    {co24 Pt24 : Addr}
    (a_is_ends : PySem.W.nsIn K mainGlobals "is_ends" = some (some (.ref g_is_ends))) (l_is_ends : K.lookup g_is_ends = some ⟨oc24, od24, .func (PySem.W.fnOf "is_ends" "is_ends" (defArgs s_is_ends) (defBody s_is_ends) (defScope s_is_ends) .none kV24 dc24 pm24 an24 (.ref co24) ct24), sl24⟩) (k_is_ends : PySem.W.codeIn K (.ref co24) "is_ends" = true) (p_is_ends : PySem.W.keepIn K (.ref g_is_ends) = true)
    {tc24 : Value} {td24 : Option Addr} {tf24 : Array Value} {tg24 : Array (Option Value)} (ta_is_ends : K.lookup co24 = some ⟨tc24, td24, .fields tf24, tg24⟩) (tp_is_ends : tf24[11]? = some (.ref Pt24)) (th_is_ends : PySem.W.codeHdIn K co24 Pt24 = true) (ti_is_ends : Pt24 ∈ ts)
    (a_is_bench : PySem.W.nsIn K mainGlobals "is_bench" = some (some (.ref g_is_bench))) (l_is_bench : K.lookup g_is_bench = some ⟨oc25, od25, .func (PySem.W.fnOf "is_bench" "is_bench" (defArgs s_is_bench) (defBody s_is_bench) (defScope s_is_bench) .none kV25 dc25 pm25 an25 cd25 ct25), sl25⟩) (k_is_bench : PySem.W.codeIn K cd25 "is_bench" = true) (p_is_bench : PySem.W.keepIn K (.ref g_is_bench) = true)
    (a_is_order : PySem.W.nsIn K mainGlobals "is_order" = some (some (.ref g_is_order))) (l_is_order : K.lookup g_is_order = some ⟨oc26, od26, .func (PySem.W.fnOf "is_order" "is_order" (defArgs s_is_order) (defBody s_is_order) (defScope s_is_order) .none kV26 dc26 pm26 an26 cd26 ct26), sl26⟩) (k_is_order : PySem.W.codeIn K cd26 "is_order" = true) (p_is_order : PySem.W.keepIn K (.ref g_is_order) = true)
    {co27 Pt27 : Addr}
    (a_is_task : PySem.W.nsIn K mainGlobals "is_task" = some (some (.ref g_is_task))) (l_is_task : K.lookup g_is_task = some ⟨oc27, od27, .func (PySem.W.fnOf "is_task" "is_task" (defArgs s_is_task) (defBody s_is_task) (defScope s_is_task) .none kV27 dc27 pm27 an27 (.ref co27) ct27), sl27⟩) (k_is_task : PySem.W.codeIn K (.ref co27) "is_task" = true) (p_is_task : PySem.W.keepIn K (.ref g_is_task) = true)
    {tc27 : Value} {td27 : Option Addr} {tf27 : Array Value} {tg27 : Array (Option Value)} (ta_is_task : K.lookup co27 = some ⟨tc27, td27, .fields tf27, tg27⟩) (tp_is_task : tf27[11]? = some (.ref Pt27)) (th_is_task : PySem.W.codeHdIn K co27 Pt27 = true) (ti_is_task : Pt27 ∈ ts)
    (a_law : PySem.W.nsIn K mainGlobals "law" = some (some (.ref g_law))) (l_law : K.lookup g_law = some ⟨oc28, od28, .func (PySem.W.fnOf "law" "law" (defArgs s_law) (defBody s_law) (defScope s_law) .none kV28 dc28 pm28 an28 cd28 ct28), sl28⟩) (k_law : PySem.W.codeIn K cd28 "law" = true) (p_law : PySem.W.keepIn K (.ref g_law) = true)
    (nt : PySem.W.noTabs K = true) (un : [Pt23, Pt24, Pt27].Nodup)
    (z_abs : PySem.W.nsIn K mainGlobals "abs" = some none)
    (z_all : PySem.W.nsIn K mainGlobals "all" = some none)
    (z_bool : PySem.W.nsIn K mainGlobals "bool" = some none)
    (z_dict : PySem.W.nsIn K mainGlobals "dict" = some none)
    (z_int : PySem.W.nsIn K mainGlobals "int" = some none)
    (z_isinstance : PySem.W.nsIn K mainGlobals "isinstance" = some none)
    (z_len : PySem.W.nsIn K mainGlobals "len" = some none)
    (z_list : PySem.W.nsIn K mainGlobals "list" = some none)
    (z_min : PySem.W.nsIn K mainGlobals "min" = some none)
    (z_range : PySem.W.nsIn K mainGlobals "range" = some none)
    (z_repr : PySem.W.nsIn K mainGlobals "repr" = some none)
    (z_sorted : PySem.W.nsIn K mainGlobals "sorted" = some none)
    (z_tuple : PySem.W.nsIn K mainGlobals "tuple" = some none)
    (z_zip : PySem.W.nsIn K mainGlobals "zip" = some none)
    : ∃ (fd : FuncData) (tl : TL), (∀ (s : Shared) (v : Value), BindsTo s fd ⟨[v], []⟩ [("_law_script", v)]) ∧ (∀ p ∈ tl, p.2.1 ∈ ts ∧ PySem.W.codeHdIn K p.1 p.2.1 = true) ∧ PySem.W.noTabs K = true ∧ (∀ p ∈ tl, ∀ q ∈ tl, p.2.1 = q.2.1 → p.2.2 = q.2.2) ∧ ∀ {τ : Tbs} {base : Heap}, Bs tl τ K mg base → FnG l.prog w K mg base 10 fa fd ["_law_script"] (spD τ K 1 f_law) := by
  have e := hfa.symm.trans (PySem.W.mg_of X G a_law)
  cases e
  have T : Txt mg := ⟨PySem.W.mg_none_of X G z_abs, PySem.W.mg_none_of X G z_all, PySem.W.mg_none_of X G z_bool, PySem.W.mg_none_of X G z_dict, PySem.W.mg_none_of X G z_int, PySem.W.mg_none_of X G z_isinstance, PySem.W.mg_none_of X G z_len, PySem.W.mg_none_of X G z_list, PySem.W.mg_none_of X G z_min, PySem.W.mg_none_of X G z_range, PySem.W.mg_none_of X G z_repr, PySem.W.mg_none_of X G z_sorted, PySem.W.mg_none_of X G z_tuple, PySem.W.mg_none_of X G z_zip⟩
  obtain ⟨tl, htl⟩ : ∃ tl : TL, tl = [(co23, Pt23, ("is_place.<locals>.<lambda>" : Str)), (co24, Pt24, ("is_ends.<locals>.<lambda>" : Str)), (co27, Pt27, ("is_task.<locals>.<lambda>" : Str))] := ⟨_, rfl⟩
  have tm_is_place : (co23, Pt23, ("is_place.<locals>.<lambda>" : Str)) ∈ tl := by rw [htl]; simp only [List.mem_cons, true_or, or_true]
  have tm_is_ends : (co24, Pt24, ("is_ends.<locals>.<lambda>" : Str)) ∈ tl := by rw [htl]; simp only [List.mem_cons, true_or, or_true]
  have tm_is_task : (co27, Pt27, ("is_task.<locals>.<lambda>" : Str)) ∈ tl := by rw [htl]; simp only [List.mem_cons, true_or, or_true]
  refine ⟨PySem.W.fnOf "law" "law" (defArgs s_law) (defBody s_law) (defScope s_law) .none kV28 dc28 pm28 an28 cd28 ct28, tl, fun s v => .of_eq rfl, ?_, nt, ?_, fun {τ base} bs => ?_⟩
  · rw [htl]; intro p hp; simp only [List.mem_cons, List.not_mem_nil, or_false] at hp; rcases hp with rfl | rfl | rfl
    · exact ⟨ti_is_place, th_is_place⟩
    · exact ⟨ti_is_ends, th_is_ends⟩
    · exact ⟨ti_is_task, th_is_task⟩
  · rw [htl]; exact tl_un un
  have c_with_orders : CalA tl l.prog w K mg "with_orders" 1 ["task", "orders"] f_with_orders := fun bs => cal_mk (fun_mk (st := s_with_orders) l_with_orders k_with_orders p_with_orders) (PySem.W.mg_of X G a_with_orders) (fun _ _ _ _ _ _ us hl => match us, hl with | [_, _], _ => rfl) (ok_with_orders (fun_mk (st := s_with_orders) l_with_orders k_with_orders p_with_orders) T  bs)
  have c_either_order : CalA tl l.prog w K mg "either_order" 1 ["start", "goal"] f_either_order := fun bs => cal_mk (fun_mk (st := s_either_order) l_either_order k_either_order p_either_order) (PySem.W.mg_of X G a_either_order) (fun _ _ _ _ _ _ us hl => match us, hl with | [_, _], _ => rfl) (ok_either_order (fun_mk (st := s_either_order) l_either_order k_either_order p_either_order) T  bs)
  have c_is_integer : CalA tl l.prog w K mg "is_integer" 1 ["thing"] f_is_integer := fun bs => cal_mk (fun_mk (st := s_is_integer) l_is_integer k_is_integer p_is_integer) (PySem.W.mg_of X G a_is_integer) (fun _ _ _ _ _ _ us hl => match us, hl with | [_], _ => rfl) (ok_is_integer (fun_mk (st := s_is_integer) l_is_integer k_is_integer p_is_integer) T  bs)
  have c_is_ascending : CalL tl l.prog w K mg "is_ascending" ["thing", "is_member"] f_is_ascending := calL_mk (fun_mk (st := s_is_ascending) l_is_ascending k_is_ascending p_is_ascending) (PySem.W.mg_of X G a_is_ascending) (fun _ _ _ _ _ _ us hl => match us, hl with | [_, _], _ => rfl) (ok_is_ascending (fun_mk (st := s_is_ascending) l_is_ascending k_is_ascending p_is_ascending) T)
  have c_l_bag : CalA tl l.prog w K mg "_law_bag" 1 ["_law_script"] f_l_bag := fun bs => cal_mk (fun_mk (st := s_l_bag) l_l_bag k_l_bag p_l_bag) (PySem.W.mg_of X G a_l_bag) (fun _ _ _ _ _ _ us hl => match us, hl with | [_], _ => rfl) (ok_l_bag (fun_mk (st := s_l_bag) l_l_bag k_l_bag p_l_bag) T  bs)
  have c_l_take : CalA tl l.prog w K mg "_law_take" 1 ["_law_bag_here", "_law_upto"] f_l_take := fun bs => cal_mk (fun_mk (st := s_l_take) l_l_take k_l_take p_l_take) (PySem.W.mg_of X G a_l_take) (fun _ _ _ _ _ _ us hl => match us, hl with | [_, _], _ => rfl) (ok_l_take (fun_mk (st := s_l_take) l_l_take k_l_take p_l_take) T  bs)
  have c_l_alike : CalA tl l.prog w K mg "_law_alike" 1 ["_law_found", "_law_due"] f_l_alike := fun bs => cal_mk (fun_mk (st := s_l_alike) l_l_alike k_l_alike p_l_alike) (PySem.W.mg_of X G a_l_alike) (fun _ _ _ _ _ _ us hl => match us, hl with | [_, _], _ => rfl) (ok_l_alike (fun_mk (st := s_l_alike) l_l_alike k_l_alike p_l_alike) T  bs)
  have c_l_steps : CalA tl l.prog w K mg "_law_steps" 1 ["_law_bench_here", "_law_content"] f_l_steps := fun bs => cal_mk (fun_mk (st := s_l_steps) l_l_steps k_l_steps p_l_steps) (PySem.W.mg_of X G a_l_steps) (fun _ _ _ _ _ _ us hl => match us, hl with | [_, _], _ => rfl) (ok_l_steps (fun_mk (st := s_l_steps) l_l_steps k_l_steps p_l_steps) T  bs)
  have c_l_flat : CalA tl l.prog w K mg "_law_flat" 1 ["_law_rows"] f_l_flat := fun bs => cal_mk (fun_mk (st := s_l_flat) l_l_flat k_l_flat p_l_flat) (PySem.W.mg_of X G a_l_flat) (fun _ _ _ _ _ _ us hl => match us, hl with | [_], _ => rfl) (ok_l_flat (fun_mk (st := s_l_flat) l_l_flat k_l_flat p_l_flat) T  bs)
  have c_is_move : CalA tl l.prog w K mg "is_move" 2 ["values", "thing"] f_is_move := fun bs => cal_mk (fun_mk (st := s_is_move) l_is_move k_is_move p_is_move) (PySem.W.mg_of X G a_is_move) (fun _ _ _ _ _ _ us hl => match us, hl with | [_, _], _ => rfl) (ok_is_move (fun_mk (st := s_is_move) l_is_move k_is_move p_is_move) T c_is_integer bs)
  have c_is_content : CalA tl l.prog w K mg "is_content" 2 ["bench", "thing"] f_is_content := fun bs => cal_mk (fun_mk (st := s_is_content) l_is_content k_is_content p_is_content) (PySem.W.mg_of X G a_is_content) (fun _ _ _ _ _ _ us hl => match us, hl with | [_, _], _ => rfl) (ok_is_content (fun_mk (st := s_is_content) l_is_content k_is_content p_is_content) T c_is_integer bs)
  have c_is_among : CalA tl l.prog w K mg "is_among" 2 ["rests", "thing"] f_is_among := fun bs => cal_mk (fun_mk (st := s_is_among) l_is_among k_is_among p_is_among) (PySem.W.mg_of X G a_is_among) (fun _ _ _ _ _ _ us hl => match us, hl with | [_, _], _ => rfl) (ok_is_among (fun_mk (st := s_is_among) l_is_among k_is_among p_is_among) T c_is_integer bs)
  have c_l_some : CalA tl l.prog w K mg "_law_some" 2 ["_law_bag_here", "_law_things"] f_l_some := fun bs => cal_mk (fun_mk (st := s_l_some) l_l_some k_l_some p_l_some) (PySem.W.mg_of X G a_l_some) (fun _ _ _ _ _ _ us hl => match us, hl with | [_, _], _ => rfl) (ok_l_some (fun_mk (st := s_l_some) l_l_some k_l_some p_l_some) T c_l_take bs)
  have c_l_mixed : CalA tl l.prog w K mg "_law_mixed" 2 ["_law_bag_here", "_law_things"] f_l_mixed := fun bs => cal_mk (fun_mk (st := s_l_mixed) l_l_mixed k_l_mixed p_l_mixed) (PySem.W.mg_of X G a_l_mixed) (fun _ _ _ _ _ _ us hl => match us, hl with | [_, _], _ => rfl) (ok_l_mixed (fun_mk (st := s_l_mixed) l_l_mixed k_l_mixed p_l_mixed) T c_l_take bs)
  have c_l_contents : CalA tl l.prog w K mg "_law_contents" 2 ["_law_bench_here"] f_l_contents := fun bs => cal_mk (fun_mk (st := s_l_contents) l_l_contents k_l_contents p_l_contents) (PySem.W.mg_of X G a_l_contents) (fun _ _ _ _ _ _ us hl => match us, hl with | [_], _ => rfl) (ok_l_contents (fun_mk (st := s_l_contents) l_l_contents k_l_contents p_l_contents) T c_l_flat bs)
  have c_l_ends : CalA tl l.prog w K mg "_law_ends" 2 ["_law_bag_here", "_law_rests_here", "_law_start", "_law_goal"] f_l_ends := fun bs => cal_mk (fun_mk (st := s_l_ends) l_l_ends k_l_ends p_l_ends) (PySem.W.mg_of X G a_l_ends) (fun _ _ _ _ _ _ us hl => match us, hl with | [_, _, _, _], _ => rfl) (ok_l_ends (fun_mk (st := s_l_ends) l_l_ends k_l_ends p_l_ends) T c_l_take bs)
  have c_l_place : CalA tl l.prog w K mg "_law_place" 3 ["_law_bag_here", "_law_most"] f_l_place := fun bs => cal_mk (fun_mk (st := s_l_place) l_l_place k_l_place p_l_place) (PySem.W.mg_of X G a_l_place) (fun _ _ _ _ _ _ us hl => match us, hl with | [_, _], _ => rfl) (ok_l_place (fun_mk (st := s_l_place) l_l_place k_l_place p_l_place) T c_l_take c_l_some c_l_flat c_l_mixed bs)
  have c_l_graph : CalA tl l.prog w K mg "_law_graph" 3 ["_law_bench_here"] f_l_graph := fun bs => cal_mk (fun_mk (st := s_l_graph) l_l_graph k_l_graph p_l_graph) (PySem.W.mg_of X G a_l_graph) (fun _ _ _ _ _ _ us hl => match us, hl with | [_], _ => rfl) (ok_l_graph (fun_mk (st := s_l_graph) l_l_graph k_l_graph p_l_graph) T c_l_contents c_l_steps bs)
  have c_l_way_by : CalA tl l.prog w K mg "_law_way_by" 3 ["_law_bag_here", "_law_graph_here", "_law_start", "_law_goal", "_law_barred"] f_l_way_by := fun bs => cal_mk (fun_mk (st := s_l_way_by) l_l_way_by k_l_way_by p_l_way_by) (PySem.W.mg_of X G a_l_way_by) (fun _ _ _ _ _ _ us hl => match us, hl with | [_, _, _, _, _], _ => rfl) (ok_l_way_by (fun_mk (st := s_l_way_by) l_l_way_by k_l_way_by p_l_way_by) T c_l_mixed bs)
  have c_l_rests : CalA tl l.prog w K mg "_law_rests" 3 ["_law_bag_here", "_law_contents_here", "_law_most"] f_l_rests := fun bs => cal_mk (fun_mk (st := s_l_rests) l_l_rests k_l_rests p_l_rests) (PySem.W.mg_of X G a_l_rests) (fun _ _ _ _ _ _ us hl => match us, hl with | [_, _, _], _ => rfl) (ok_l_rests (fun_mk (st := s_l_rests) l_l_rests k_l_rests p_l_rests) T c_l_some c_l_take c_l_mixed bs)
  have c_l_couple : CalA tl l.prog w K mg "_law_couple" 3 ["_law_bag_here", "_law_graph_here", "_law_rests_here"] f_l_couple := fun bs => cal_mk (fun_mk (st := s_l_couple) l_l_couple k_l_couple p_l_couple) (PySem.W.mg_of X G a_l_couple) (fun _ _ _ _ _ _ us hl => match us, hl with | [_, _, _], _ => rfl) (ok_l_couple (fun_mk (st := s_l_couple) l_l_couple k_l_couple p_l_couple) T c_l_mixed bs)
  have c_l_bench : CalA tl l.prog w K mg "_law_bench" 4 ["_law_bag_here", "_law_most"] f_l_bench := fun bs => cal_mk (fun_mk (st := s_l_bench) l_l_bench k_l_bench p_l_bench) (PySem.W.mg_of X G a_l_bench) (fun _ _ _ _ _ _ us hl => match us, hl with | [_, _], _ => rfl) (ok_l_bench (fun_mk (st := s_l_bench) l_l_bench k_l_bench p_l_bench) T c_l_some c_l_place bs)
  have c_l_any_task : CalA tl l.prog w K mg "_law_any_task" 4 ["_law_bag_here", "_law_bench_here", "_law_most", "_law_orders"] f_l_any_task := fun bs => cal_mk (fun_mk (st := s_l_any_task) l_l_any_task k_l_any_task p_l_any_task) (PySem.W.mg_of X G a_l_any_task) (fun _ _ _ _ _ _ us hl => match us, hl with | [_, _, _, _], _ => rfl) (ok_l_any_task (fun_mk (st := s_l_any_task) l_l_any_task k_l_any_task p_l_any_task) T c_l_graph c_l_rests c_l_couple c_l_way_by c_l_ends bs)
  have c_is_place : CalA tl l.prog w K mg "is_place" 5 ["thing"] f_is_place := fun bs => cal_mk (fun_mk (st := s_is_place) l_is_place k_is_place p_is_place) (PySem.W.mg_of X G a_is_place) (fun _ _ _ _ _ _ us hl => match us, hl with | [_], _ => rfl) (ok_is_place (funC_mk (st := s_is_place) l_is_place k_is_place p_is_place) tm_is_place T c_is_integer c_is_move c_is_ascending bs)
  have c_is_ends : CalA tl l.prog w K mg "is_ends" 5 ["rests", "thing"] f_is_ends := fun bs => cal_mk (fun_mk (st := s_is_ends) l_is_ends k_is_ends p_is_ends) (PySem.W.mg_of X G a_is_ends) (fun _ _ _ _ _ _ us hl => match us, hl with | [_, _], _ => rfl) (ok_is_ends (funC_mk (st := s_is_ends) l_is_ends k_is_ends p_is_ends) tm_is_ends T c_is_among c_is_ascending bs)
  have c_is_bench : CalA tl l.prog w K mg "is_bench" 6 ["thing"] f_is_bench := fun bs => cal_mk (fun_mk (st := s_is_bench) l_is_bench k_is_bench p_is_bench) (PySem.W.mg_of X G a_is_bench) (fun _ _ _ _ _ _ us hl => match us, hl with | [_], _ => rfl) (ok_is_bench (fun_mk (st := s_is_bench) l_is_bench k_is_bench p_is_bench) T c_is_place bs)
  have c_is_order : CalA tl l.prog w K mg "is_order" 6 ["rests", "thing"] f_is_order := fun bs => cal_mk (fun_mk (st := s_is_order) l_is_order k_is_order p_is_order) (PySem.W.mg_of X G a_is_order) (fun _ _ _ _ _ _ us hl => match us, hl with | [_, _], _ => rfl) (ok_is_order (fun_mk (st := s_is_order) l_is_order k_is_order p_is_order) T c_is_among c_is_ends bs)
  have c_is_task : CalA tl l.prog w K mg "is_task" 9 ["thing"] f_is_task := fun bs => cal_mk (fun_mk (st := s_is_task) l_is_task k_is_task p_is_task) (PySem.W.mg_of X G a_is_task) (fun _ _ _ _ _ _ us hl => match us, hl with | [_], _ => rfl) (ok_is_task (funC_mk (st := s_is_task) l_is_task k_is_task p_is_task) tm_is_task T c_is_bench c_is_content c_is_order c_is_ascending bs)
  exact ok_law (fun_mk (st := s_law) l_law k_law p_law) T c_l_bag c_l_bench c_l_any_task c_l_mixed c_l_take c_either_order c_l_alike c_l_ends c_with_orders c_is_task bs
end K19
end
noncomputable section
namespace K19
open PySem PySem.Spec PyProof.Rows L2 DL K17 K62 KH
theorem q_bag : K19.f_l_bag = fBag := rfl
theorem q_bench : K19.f_l_bench = K17.f_l_bench := rfl
theorem q_any : K19.f_l_any_task = K62.f_l_any_task := rfl
theorem q_mix : K19.f_l_mixed = fMixed := rfl
theorem q_take : K19.f_l_take = fTake := rfl
theorem q_ends : K19.f_l_ends = K62.f_l_ends := rfl
theorem q_al : K19.f_l_alike = fAlike := rfl
theorem q_task : K19.f_is_task = KJ.f_is_task := rfl
theorem Wp_revL {A : ME} {ρ : DEnv} {S : Sto} {Φ : W × Sto → Prop} : Wp (mRevL A ρ S) Φ = Wp (A ρ S) fun p => Wp (revDL p.1 p.2) Φ := Wp_bind
theorem isBD_t {a b neg : Bool} {S : Sto} : isBD neg (.d (.bool a)) (.d (.bool b)) S = some (.d (.bool (decide (a = b) ^^ neg)), S) := rfl
def KLt (a b : Od) : Prop := ltC (cK (ky a)) (cK (ky b)) = true
theorem klt_uniq : ∀ {l m : List Od}, l.Pairwise KLt → m.Pairwise KLt → (∀ x, x ∈ l ↔ x ∈ m) → l = m
  | [], [], _, _, _ => rfl
  | [], y :: m, _, _, h => absurd ((h y).mpr (by simp)) (by simp)
  | x :: l, [], _, _, h => absurd ((h x).mp (by simp)) (by simp)
  | x :: l, y :: m, hl, hm, h => by
    have h1 := List.pairwise_cons.mp hl
    have h2 := List.pairwise_cons.mp hm
    have irr : ∀ a : Od, ¬ KLt a a := fun a k => by unfold KLt at k; rw [ltC_irr] at k; cases k
    have asy : ∀ {a b : Od}, KLt a b → ¬ KLt b a := fun k1 k2 => irr _ (ltC_trans k1 k2)
    have e : x = y := by
      rcases List.mem_cons.mp ((h x).mp (by simp)) with z | z
      · exact z
      · rcases List.mem_cons.mp ((h y).mpr (by simp)) with w | w
        · exact w.symm
        · exact absurd (h1.1 y w) (asy (h2.1 x z))
    subst e
    rw [klt_uniq h1.2 h2.2 fun z => ⟨fun hz => ?_, fun hz => ?_⟩]
    · rcases List.mem_cons.mp ((h z).mp (List.mem_cons_of_mem _ hz)) with w | w
      · subst w; exact absurd (h1.1 z hz) (irr z)
      · exact w
    · rcases List.mem_cons.mp ((h z).mpr (List.mem_cons_of_mem _ hz)) with w | w
      · subst w; exact absurd (h2.1 z hz) (irr z)
      · exact w
theorem ky_nodup {l : List Od} (h : l.Pairwise KLt) : (l.map ky).Nodup := by
  rw [List.nodup_iff_pairwise_ne, List.pairwise_map]
  refine h.imp fun {a b} k e => ?_
  unfold KLt at k
  rw [e, ltC_irr] at k; cases k
/-- what was sorted is sorted again -/
theorem sort_id {l m : List Od} (h : l.Pairwise KLt) (hp : m.Perm l) (S : Sto) : sortedA [.d (.list (m.map od))] S = some (.d (.list (l.map od)), S) := by
  obtain ⟨r, hr, e, ha⟩ := sort_odK (l := m)
  have hn : (m.map ky).Nodup := (hp.map ky).nodup_iff.mpr (ky_nodup h)
  rw [e, klt_uniq (ha hn) h fun x => (hr.trans hp).mem_iff]
theorem cat_tk {b : List Pl} {R : List (List Int)} {os : List Od} {S : Sto} : addA (.d (.tuple [bn b, .tuple (R.map tI)])) (.d (.tuple [.tuple (os.map od)])) S = some (.d (tk b R os), S) := by
  have h : (3 : Nat) ≤ sizeLine := by decide
  simp [addA, addD, tk, h]
theorem with_ok {b : List Pl} {R : List (List Int)} {os l m : List Od} {S : Sto} (hs : ∀ S, sortedA [.d (.list (m.map od))] S = some (.d (.list (l.map od)), S)) : callF f_with_orders [.d (tk b R os), .d (.list (m.map od))] S = some (.d (tk b R l), S) := by
  refine KJ.eqof (wp_call0 rfl ?_)
  unfold b_with_orders
  have htk : ∀ S, sliceD (.d (tk b R os)) none (some 2) S = some (.d (.tuple [bn b, .tuple (R.map tI)]), S) := fun S => sl_t2
  simp! only [List.replicate, htk, hs, cat_tk]
  exact ⟨_, rfl, rfl⟩
theorem either_ok {s t : List Int} {S : Sto} (hs : s ≠ []) (ht : t ≠ []) : callF f_either_order [.d (tI s), .d (tI t)] S = some (.d (od (s, t, sortL [s, t])), S) := by
  refine KJ.eqof (wp_call0 rfl ?_)
  unfold b_either_order
  have h := fun S => sort_l (l := [s, t]) (S := S) (fun a ha => by
    simp only [List.mem_cons, List.not_mem_nil, or_false] at ha
    rcases ha with rfl | rfl
    · exact hs
    · exact ht)
  simp only [List.map_cons, List.map_nil] at h
  simp! only [List.replicate, h]
  exact ⟨_, rfl, rfl⟩
def tws (R Q : List (List Int)) : List (List Int × List Int) := (Q.map fun a => (R.filter fun b => !decide (b = a)).map fun b => (a, b)).flatten
theorem tws_snoc {R Q : List (List Int)} {a : List Int} : tws R (Q ++ [a]) = tws R Q ++ (R.filter fun b => !decide (b = a)).map fun b => (a, b) := by simp [tws]
theorem mem_tws {R Q : List (List Int)} {q : List Int × List Int} : q ∈ tws R Q ↔ q.1 ∈ Q ∧ q.2 ∈ R ∧ q.2 ≠ q.1 := by
  unfold tws
  rw [List.mem_flatten]
  constructor
  · rintro ⟨l, hl, hq⟩
    obtain ⟨a, ha, rfl⟩ := List.mem_map.mp hl
    obtain ⟨b, hb, rfl⟩ := List.mem_map.mp hq
    have := List.mem_filter.mp hb
    exact ⟨ha, this.1, by simpa using this.2⟩
  · rintro ⟨h1, h2, h3⟩
    exact ⟨_, List.mem_map.mpr ⟨q.1, h1, rfl⟩, List.mem_map.mpr ⟨q.2, List.mem_filter.mpr ⟨h2, by simpa using h3⟩, rfl⟩⟩
theorem tws_nd {R Q : List (List Int)} (hR : R.Nodup) (hQ : Q.Nodup) : (tws R Q).Nodup := by
  unfold tws List.Nodup
  rw [List.pairwise_flatten]
  refine ⟨fun l hl => ?_, ?_⟩
  · obtain ⟨a, ha, rfl⟩ := List.mem_map.mp hl
    rw [List.pairwise_map]
    exact (hR.filter _).imp fun {x y} k e => k (by injection e)
  · rw [List.pairwise_map]
    refine hQ.imp fun {a b} hab x hx y hy e => ?_
    obtain ⟨u, _, rfl⟩ := List.mem_map.mp hx
    obtain ⟨v, _, rfl⟩ := List.mem_map.mp hy
    exact hab (by injection e)
theorem tws_len {R Q : List (List Int)} (h : R.length ≤ 8) (k : Q.length ≤ 8) : (tws R Q).length ≤ 64 := by
  have : ∀ Q : List (List Int), (tws R Q).length ≤ 8 * Q.length := by
    intro Q
    induction Q with
    | nil => simp [tws]
    | cons a Q ih =>
      have h1 : (R.filter fun b => !decide (b = a)).length ≤ R.length := List.length_filter_le _ _
      simp only [tws, List.map_cons, List.flatten_cons, List.length_append, List.length_map, List.length_cons] at ih ⊢
      omega
  have := this Q
  omega
theorem get_mid {α : Type} {T : List α} {a b : α} : ((T ++ [a]) ++ [b])[T.length]? = some a := by
  rw [List.append_assoc, List.getElem?_append_right (Nat.le_refl _)]; simp
theorem set_mid {α : Type} {T : List α} {a b c : α} : ((T ++ [a]) ++ [b]).set T.length c = (T ++ [c]) ++ [b] := by
  rw [List.append_assoc, List.set_append_right _ _ (Nat.le_refl _)]; simp
def nOr (R : List (List Int)) (ws : List (List Int × List Int)) (as : List Od) : Prop := (∀ o ∈ as, OrdOk R o) ∧ (as.map fun o => (o.1, o.2.1)) = ws
theorem nOr.nd {R : List (List Int)} {ws : List (List Int × List Int)} {as : List Od} (h : nOr R ws as) (hn : ws.Nodup) : (as.map ky).Nodup := by
  rw [← h.2] at hn
  rw [List.nodup_iff_pairwise_ne, List.pairwise_map] at hn ⊢
  refine hn.imp fun {a b} k e => k ?_
  simp only [ky, List.cons.injEq, and_true] at e
  rw [e.1, e.2]
theorem ends_len {R : List (List Int)} {o : Od} (h : OrdOk R o) : o.2.2.length ≤ R.length := List.Nodup.length_le_of_subset (asc_nodup h.asc) h.e
theorem sort2 {R : List (List Int)} {s t : List Int} (hs : s ∈ R) (ht : t ∈ R) (hst : s ≠ t) : OrdOk R (s, t, sortL [s, t]) := by
  have hp := sortL_perm [s, t]
  refine ⟨hs, ht, hst, fun x hx => ?_, sortL_asc (by simpa using hst)⟩
  have := hp.subset hx
  simp only [List.mem_cons, List.not_mem_nil, or_false] at this
  rcases this with rfl | rfl
  · exact hs
  · exact ht
theorem turn_wp {sc : PyData} {c : Nat} {ob1 : Ob} {T1 : Sto} {y2 y3 y4 y5 y6 y7 y8 y9 y10 y11 y12 y13 y14 y15 y16 y17 y18 : Option W} (hb1 : BagOk c ob1) (hc : c + 200000000 < 2 ^ 1000) :
    Wp (L_law_4 [some (.d sc), some (.loc 0), y2, y3, y4, y5, y6, y7, y8, y9, y10, y11, y12, y13, y14, y15, y16, y17, y18] (ob1 :: T1)) fun r => ∃ y3 y4 y5 y6 y7 y8 y9 y10 y11 y12 y13 y14 y15 y16 y17 y18 ob T, r = (.nx, [some (.d sc), some (.loc 0), y2, y3, y4, y5, y6, y7, y8, y9, y10, y11, y12, y13, y14, y15, y16, y17, y18], ob :: T) ∧ BagOk (c + 100000000) ob := by
  unfold K19.L_law_4
  obtain ⟨b, ob2, e3, g, h36, hb2⟩ := benchM_ok (S := ob1 :: T1) (n := 0) (M := 36) rfl hb1 (by omega) (by decide) (by decide)
  rw [show ((36 : Nat) : Int) = 36 from rfl] at e3
  simp! only [q_bench, e3, q_any]
  refine (any_task_wp (most := 8) (orders := 9) g (S := ob2 :: T1) (n := 0) rfl hb2 (by omega) (by decide) (by decide) (by decide)).mono ?_
  rintro _ ⟨_, ob3, rfl, R, os, rfl, ht, hol, hb3⟩
  have hrl := ht.rl
  have hRn := asc_nodup ht.rs
  have hne : ∀ x ∈ R, x ≠ [] := fun x hx => ne_of_fits g (ht.rf x hx)
  simp! only [tk_1]
  -- the couples
  refine wp_forE (l := R) (enc := tI) (fun ρ0 S0 i ρ S => ∃ y5 y18, ρ = (ρ0.set 5 y5).set 18 y18 ∧ S = ob3 :: ((T1 ++ [.lst []]) ++ [.lst (((tws R (R.take i)).map cp).map W.d)])) ⟨y5, y18, rfl, by simp [tws]⟩ ?_ ?_
  · rintro i a _ _ ha ⟨z5, z18, rfl, rfl⟩
    have hil : i < R.length := (List.getElem?_eq_some_iff.mp ha).1
    have hl1 := tws_len (R := R) (Q := R.take (i + 1)) hrl (by rw [List.length_take]; omega)
    have hsn : tws R (R.take (i + 1)) = tws R (R.take i) ++ (R.filter fun b => !decide (b = a)).map fun b => (a, b) := by rw [take_snoc ha, tws_snoc]
    rw [hsn, List.length_append, List.length_map] at hl1
    unfold K19.L_law_1
    simp! only
    refine wp_lc (l := R) (enc := tI) (P := fun x => !decide (x = a)) (H := fun x => cp (a, x)) (S1 := ob3 :: ((T1 ++ [.lst []]) ++ [.lst (((tws R (R.take i)).map cp).map W.d)])) (by (simp! only <;> rfl)) (fun x hx => ?_) (sz_of (by omega)) ?_
    · simp! only [ne_tI]
      exact fun _ => rfl
    refine wp_extend (us := ((tws R (R.take i)).map cp).map W.d) (by (simp! only <;> rfl)) (by simp only [List.length_map]; exact sz_of (by omega)) ?_
    simp! only
    refine ⟨some (.d (tI a)), z18, rfl, ?_⟩
    rw [hsn]
    simp only [List.map_append, List.map_map]
    rfl
  rintro _ _ ⟨z5, z18, rfl, rfl⟩
  rw [List.take_length]
  have htl := tws_len (R := R) (Q := R) hrl hrl
  simp! only [allD_map, Option.map_some, q_mix]
  refine (mixed_wp (n := 0) (S := ob3 :: ((T1 ++ [.lst []]) ++ [.dead])) (enc := cp) (l := tws R R) rfl hb3 (by omega) (sz_of (by omega))).mono ?_
  rintro _ ⟨r, ob4, rfl, hr, hb4⟩
  have hrn : r.Nodup := hr.nodup_iff.mpr (tws_nd hRn hRn)
  have hrm : ∀ q ∈ r, q.1 ∈ R ∧ q.2 ∈ R ∧ q.2 ≠ q.1 := fun q hq => mem_tws.mp (hr.subset hq)
  simp! only [q_take]
  refine (take_wp (n := 0) (upto := 12) (S := ob4 :: ((T1 ++ [.lst []]) ++ [.dead])) rfl hb4 (by omega) (by decide) (by decide)).mono ?_
  rintro _ ⟨v, ob5, rfl, v0, v1, hb5⟩
  obtain ⟨k, rfl⟩ := Int.eq_ofNat_of_zero_le v0
  have hsl := fun S => sliceE (S := S) (enc := cp) (l := r) (k := k)
  simp! only [hsl]
  have hkn : (r.take k).Nodup := hrn.sublist (List.take_sublist _ _)
  have hkl : (r.take k).length ≤ 11 := by rw [List.length_take]; omega
  have hkm : ∀ q ∈ r.take k, q.1 ∈ R ∧ q.2 ∈ R ∧ q.2 ≠ q.1 := fun q hq => hrm q (List.mem_of_mem_take hq)
  generalize r.take k = ws at hkn hkl hkm
  refine wp_forE (l := ws) (enc := cp) (fun ρ0 S0 i ρ S => ∃ y10 y11 y12 y13 as ob', ρ = (((ρ0.set 10 y10).set 11 y11).set 12 y12).set 13 y13 ∧ S = ob' :: ((T1 ++ [.lst ((as.map od).map W.d)]) ++ [.dead]) ∧ nOr R (ws.take i) as ∧ BagOk (c + 91000000 + 100 * i) ob') ⟨y10, y11, y12, y13, [], ob5, rfl, rfl, ⟨fun o ho => absurd ho (by simp), rfl⟩, hb5.up (by omega)⟩ ?_ ?_
  · rintro i ⟨s, t⟩ _ _ hst ⟨z10, z11, z12, z13, as, ob6, rfl, rfl, has, hb6⟩
    have him : i < ws.length := (List.getElem?_eq_some_iff.mp hst).1
    obtain ⟨hs, ht', hne'⟩ := hkm _ (List.mem_of_getElem? hst)
    simp only at hs ht' hne'
    have hsn := hne s hs
    have htn := hne t ht'
    have hof := sort2 hs ht' (fun z => hne' z.symm)
    have h2 := fun S => sort_l (l := [s, t]) (S := S) (fun a ha => by
      simp only [List.mem_cons, List.not_mem_nil, or_false] at ha
      rcases ha with rfl | rfl
      · exact hsn
      · exact htn)
    simp only [List.map_cons, List.map_nil] at h2
    have he := fun S => either_ok (S := S) hsn htn
    unfold K19.L_law_2
    simp! only [cp, h2, he, q_al]
    have hnice : Nice 8 440 3 (od (s, t, sortL [s, t])) := nice_od g ⟨ht.rf _ hs, ht.rf _ ht', fun x hx => ht.rf _ (hof.e x hx), Nat.le_trans (ends_len hof) (by omega)⟩
    refine alike_W (d := od (s, t, sortL [s, t])) hnice (by decide) (by decide) (by decide) ?_
    simp! only [q_take, get_mid]
    refine (take_wp (n := 0) (upto := 2) (S := ob6 :: (T1 ++ [.lst ((as.map od).map W.d)] ++ [.dead])) rfl hb6 (by omega) (by decide) (by decide)).mono ?_
    rintro _ ⟨u, ob7, rfl, u0, u1, hb7⟩
    have hal : as.length ≤ 11 := by
      have := congrArg List.length has.2
      rw [List.length_map, List.length_take] at this
      omega
    have fin : ∀ (o : Od), OrdOk R o → o.1 = s → o.2.1 = t → nOr R (ws.take (i + 1)) (as ++ [o]) := fun o h1 h2 h3 => ⟨fun p hp => by
      rcases List.mem_append.mp hp with z | z
      · exact has.1 p z
      · rw [List.mem_singleton.mp z]; exact h1, by rw [take_snoc hst, List.map_append, has.2]; simp [h2, h3]⟩
    simp! only
    refine vifK_dec (fun _ => ?_) (fun _ => ?_)
    · simp! only
      refine wp_append (us := (as.map od).map W.d) (by (simp! only [get_mid] <;> rfl)) (by simp only [List.length_map]; exact lt_sz (by omega)) ?_
      simp! only [set_mid]
      exact ⟨_, _, _, _, as ++ [(s, t, sortL [s, t])], ob7, rfl, by simp, fin _ hof rfl rfl, hb7.up (by omega)⟩
    · simp! only [q_ends]
      refine (ends_wp (n := 0) (S := ob7 :: (T1 ++ [.lst ((as.map od).map W.d)] ++ [.dead])) rfl hb7 (by omega) hne ht.rs hs ht' (fun z => hne' z.symm) (by omega)).mono ?_
      rintro _ ⟨_, ob8, rfl, E, rfl, hE, hEa, hb8⟩
      simp! only
      refine wp_append (us := (as.map od).map W.d) (by (simp! only [get_mid] <;> rfl)) (by simp only [List.length_map]; exact lt_sz (by omega)) ?_
      simp! only [set_mid]
      exact ⟨_, _, _, _, as ++ [(s, t, E)], ob8, rfl, by simp [od], fin _ ⟨hs, ht', fun z => hne' z.symm, hE, hEa⟩ rfl rfl, hb8.up (by omega)⟩
  rintro _ _ ⟨z10, z11, z12, z13, as, ob6, rfl, rfl, has, hb6⟩
  rw [List.take_length] at has
  have hal : as.length ≤ 11 := by
    have := congrArg List.length has.2
    rw [List.length_map] at this
    omega
  simp! only [get_mid, set_mid, allD_map, Option.map_some]
  obtain ⟨l, hlp, hso, hla⟩ := sort_odK (l := as)
  have hlk : l.Pairwise KLt := hla (has.nd hkn)
  have htl' : TskOk b R l := ⟨ht.rf, ht.rs, ht.r0, ht.rl, fun o ho => has.1 o (hlp.subset ho), hlk, by rw [hlp.length_eq]; omega⟩
  have hGo : ∀ o ∈ as, GoodO b o := fun o ho => ⟨ht.rf _ (has.1 o ho).s, ht.rf _ (has.1 o ho).t, fun x hx => ht.rf _ ((has.1 o ho).e x hx), Nat.le_trans (ends_len (has.1 o ho)) (by omega)⟩
  have hn1 : Nice 8 ((440 + 1) * (as.map od).length) 4 (.list (as.map od)) := niceList (niceAll_of fun d hd => by
    obtain ⟨o, ho, rfl⟩ := List.mem_map.mp hd
    exact nice_od g (hGo o ho))
  rw [List.length_map] at hn1
  have hn2 : Nice 8 40000 6 (.list [tk b R os, .list (as.map od)]) := (niceList (niceCons (nice_tk g ht.weak) (niceCons (hn1.up (by omega) (by decide) : Nice 8 8000 5 (.list (as.map od))) niceNil))).up (by omega) (by decide)
  obtain ⟨rs, hrs⟩ : ∃ rs, (PyData.list [tk b R os, .list (as.map od)]).shown = rs := ⟨_, rfl⟩
  have hr1 := hn2.reprOk (by decide) (by decide) (by decide)
  have hre : ∀ S : Sto, reprD [.d (.list [tk b R os, .list (as.map od)])] S = some (.d (.str rs), S) := fun S => by simp only [reprD, on1, deref, Option.bind_some, hr1, if_true, hrs]
  have hlst : ∀ S, lstF [.d (tk b R os), .d (.list (as.map od))] S = some (.d (.list [tk b R os, .list (as.map od)]), S) := fun S => by simp! only
  clear hr1
  have hw1 := fun S => with_ok (b := b) (R := R) (os := os) (S := S) hso
  have hw2 := fun S => with_ok (b := b) (R := R) (os := l) (S := S) (sort_id ht.oa (m := os.reverse) (List.reverse_perm os))
  have hw3 := fun S => with_ok (b := b) (R := R) (os := l) (S := S) (l := []) (m := []) (sort_id List.Pairwise.nil (List.Perm.refl _))
  simp only [List.map_nil] at hw3
  have hnT := nice_tk g htl'.weak
  have hnb : Nice 8 70000 6 (.list [tk b R os, tk b R []]) := (niceList (niceCons (nice_tk g ht.weak) (niceCons (nice_tk g (⟨ht.rf, ht.rs, ht.r0, ht.rl, fun o ho => absurd ho (by simp), List.Pairwise.nil, by simp⟩ : TskOk b R []).weak) niceNil))).up (by omega) (by decide)
  have hti := fun S => KJ.task_ok (S := S) g htl'
  have htk : PyData.tuple [bn b, .tuple (R.map tI), .tuple (l.map od)] = tk b R l := rfl
  have hrev : ∀ S, revDL (.d (.list (os.map od))) S = some (.d (.list (os.reverse.map od)), S) := fun S => by simp [revDL, List.map_reverse]
  simp! only [hso, hre, htk]
  refine ⟨_, rng1_ok (n := 2) (by decide), ?_⟩
  simp! only
  refine wp_rng (fun ρ0 S0 i ρ S => ∃ y7 y16 y17 ob' T', ρ = ((ρ0.set 7 y7).set 16 y16).set 17 y17 ∧ S = ob' :: T' ∧ BagOk (c + 99000000) ob') ⟨y7, y16, y17, ob6, _, rfl, rfl, hb6.up (by omega)⟩ ?_ ?_
  · rintro i _ _ hi ⟨z7, z16, z17, ob7, T7, rfl, rfl, hb7⟩
    unfold K19.L_law_3
    simp! only [hw1, q_al]
    refine alike_W hnT (by decide) (by decide) (by decide) ?_
    simp! only [q_task, hti, isBD_t, hre, KH.eq_str, Wp_revL, decide_true, Bool.xor_true, Bool.not_true, beq_self_eq_true, tk_2, hrev, hw2, hw3]
    have hbk : PyData.tuple [bn b, .tuple (R.map tI), .tuple []] = tk b R [] := rfl
    rw [hbk]
    refine alike_W hnb (by decide) (by decide) (by decide) ?_
    simp! only
    exact ⟨_, _, _, ob7, T7, rfl, rfl, hb7⟩
  · rintro _ _ ⟨z7, z16, z17, ob7, T7, rfl, rfl, hb7⟩
    simp! only
    exact ⟨_, _, _, _, _, _, _, _, _, _, _, _, _, _, _, _, ob7, T7, rfl, hb7.up (by omega)⟩
theorem law_true : ∀ ns : List Int, ns.length ≤ 63 → K19.f_law [.d (.list (ns.map .int))] [] = some (.d (.bool true), []) := by
  intro ns _
  have hK : 1000000000 < 2 ^ 1000 := Nat.lt_of_lt_of_le (by decide : 1000000000 < 2 ^ 60) (Nat.pow_le_pow_right (by decide) (by decide))
  obtain ⟨sc, hsc⟩ : ∃ sc, PyData.list (ns.map PyData.int) = sc := ⟨_, rfl⟩
  obtain ⟨ob0, e0, hb0⟩ := bag_ok ns []
  rw [hsc] at e0 ⊢
  suffices h : Wp (K19.b_law [some (.d sc), none, none, none, none, none, none, none, none, none, none, none, none, none, none, none, none, none, none] []) fun r => ∃ x, r.1 = .rt (.d x) ∧ x = .bool true by
    obtain ⟨⟨_, ρ', S'⟩, e, x, rfl, rfl⟩ := h
    exact runF_ret0 ⟨ρ', S', e⟩
  unfold K19.b_law
  simp! only [q_bag, e0]
  refine ⟨_, rng1_ok (n := 3) (by decide), ?_⟩
  simp! only
  refine wp_rng (fun ρ0 S0 i ρ S => ∃ (y2 y3 y4 y5 y6 y7 y8 y9 y10 y11 y12 y13 y14 y15 y16 y17 y18 : Option W) (ob' : Ob) (T' : Sto), ρ = [some (.d sc), some (.loc 0), y2, y3, y4, y5, y6, y7, y8, y9, y10, y11, y12, y13, y14, y15, y16, y17, y18] ∧ S = ob' :: T' ∧ BagOk (100000000 * i) ob') ⟨_, _, _, _, _, _, _, _, _, _, _, _, _, _, _, _, _, ob0, [], rfl, rfl, hb0⟩ ?_ ?_
  · rintro i _ _ hi ⟨y2, y3, y4, y5, y6, y7, y8, y9, y10, y11, y12, y13, y14, y15, y16, y17, y18, ob1, T1, rfl, rfl, hb1⟩
    simp! only
    refine (turn_wp hb1 (by omega)).mono ?_
    rintro _ ⟨a3, a4, a5, a6, a7, a8, a9, a10, a11, a12, a13, a14, a15, a16, a17, a18, ob2, T2, rfl, hb2⟩
    simp! only
    exact ⟨_, _, _, _, _, _, _, _, _, _, _, _, _, _, _, _, _, ob2, T2, rfl, rfl, hb2.up (by omega)⟩
  · rintro _ _ ⟨y2, y3, y4, y5, y6, y7, y8, y9, y10, y11, y12, y13, y14, y15, y16, y17, y18, ob1, T1, rfl, rfl, hb1⟩
    simp! only
    exact ⟨_, rfl, rfl⟩
end K19
end
open PySem PySem.Spec PyProof.Rows L2
theorem PySem.Challenge.cw_onorback_k19_orders_put_in_the_place_of_holds : PySem.Challenge.rw_onorback_k19_orders_put_in_the_place_of.Holds := by
  w_on; o_law; k_head; (case hw => w_witness2)
  k_fill
  refine DL.walkT (x := "_law_script") (l := PySem.Challenge.rw_onorback_k19_orders_put_in_the_place_of) (f := K19.f_law) (k := 10) rfl (by decide) rfl ⟨rfl, by decide, by decide⟩ (fun w h Y => ⟨PySem.W.km_in_of Y, PySem.W.km_tabs_of Y⟩) ?F ?hf
  case F =>
    intro w mg fa h KX G hmg
    refine' K19.all_mk KX G hmg ?a_with_orders ?l_with_orders ?k_with_orders ?p_with_orders ?a_either_order ?l_either_order ?k_either_order ?p_either_order ?a_is_integer ?l_is_integer ?k_is_integer ?p_is_integer ?a_is_ascending ?l_is_ascending ?k_is_ascending ?p_is_ascending ?a_l_bag ?l_l_bag ?k_l_bag ?p_l_bag ?a_l_take ?l_l_take ?k_l_take ?p_l_take ?a_l_alike ?l_l_alike ?k_l_alike ?p_l_alike ?a_l_steps ?l_l_steps ?k_l_steps ?p_l_steps ?a_l_flat ?l_l_flat ?k_l_flat ?p_l_flat ?a_is_move ?l_is_move ?k_is_move ?p_is_move ?a_is_content ?l_is_content ?k_is_content ?p_is_content ?a_is_among ?l_is_among ?k_is_among ?p_is_among ?a_l_some ?l_l_some ?k_l_some ?p_l_some ?a_l_mixed ?l_l_mixed ?k_l_mixed ?p_l_mixed ?a_l_contents ?l_l_contents ?k_l_contents ?p_l_contents ?a_l_ends ?l_l_ends ?k_l_ends ?p_l_ends ?a_l_place ?l_l_place ?k_l_place ?p_l_place ?a_l_graph ?l_l_graph ?k_l_graph ?p_l_graph ?a_l_way_by ?l_l_way_by ?k_l_way_by ?p_l_way_by ?a_l_rests ?l_l_rests ?k_l_rests ?p_l_rests ?a_l_couple ?l_l_couple ?k_l_couple ?p_l_couple ?a_l_bench ?l_l_bench ?k_l_bench ?p_l_bench ?a_l_any_task ?l_l_any_task ?k_l_any_task ?p_l_any_task ?a_is_place ?l_is_place ?k_is_place ?p_is_place ?ta_is_place ?tp_is_place ?th_is_place ?ti_is_place ?a_is_ends ?l_is_ends ?k_is_ends ?p_is_ends ?ta_is_ends ?tp_is_ends ?th_is_ends ?ti_is_ends ?a_is_bench ?l_is_bench ?k_is_bench ?p_is_bench ?a_is_order ?l_is_order ?k_is_order ?p_is_order ?a_is_task ?l_is_task ?k_is_task ?p_is_task ?ta_is_task ?tp_is_task ?th_is_task ?ti_is_task ?a_law ?l_law ?k_law ?p_law ?nt ?un ?z_abs ?z_all ?z_bool ?z_dict ?z_int ?z_isinstance ?z_len ?z_list ?z_min ?z_range ?z_repr ?z_sorted ?z_tuple ?z_zip
    (case a_with_orders => k_is)
    (case l_with_orders => k_is)
    (case k_with_orders => k_is)
    (case p_with_orders => k_is)
    (case a_either_order => k_is)
    (case l_either_order => k_is)
    (case k_either_order => k_is)
    (case p_either_order => k_is)
    (case a_is_integer => k_is)
    (case l_is_integer => k_is)
    (case k_is_integer => k_is)
    (case p_is_integer => k_is)
    (case a_is_ascending => k_is)
    (case l_is_ascending => k_is)
    (case k_is_ascending => k_is)
    (case p_is_ascending => k_is)
    (case a_l_bag => k_is)
    (case l_l_bag => k_is)
    (case k_l_bag => k_is)
    (case p_l_bag => k_is)
    (case a_l_take => k_is)
    (case l_l_take => k_is)
    (case k_l_take => k_is)
    (case p_l_take => k_is)
    (case a_l_alike => k_is)
    (case l_l_alike => k_is)
    (case k_l_alike => k_is)
    (case p_l_alike => k_is)
    (case a_l_steps => k_is)
    (case l_l_steps => k_is)
    (case k_l_steps => k_is)
    (case p_l_steps => k_is)
    (case a_l_flat => k_is)
    (case l_l_flat => k_is)
    (case k_l_flat => k_is)
    (case p_l_flat => k_is)
    (case a_is_move => k_is)
    (case l_is_move => k_is)
    (case k_is_move => k_is)
    (case p_is_move => k_is)
    (case a_is_content => k_is)
    (case l_is_content => k_is)
    (case k_is_content => k_is)
    (case p_is_content => k_is)
    (case a_is_among => k_is)
    (case l_is_among => k_is)
    (case k_is_among => k_is)
    (case p_is_among => k_is)
    (case a_l_some => k_is)
    (case l_l_some => k_is)
    (case k_l_some => k_is)
    (case p_l_some => k_is)
    (case a_l_mixed => k_is)
    (case l_l_mixed => k_is)
    (case k_l_mixed => k_is)
    (case p_l_mixed => k_is)
    (case a_l_contents => k_is)
    (case l_l_contents => k_is)
    (case k_l_contents => k_is)
    (case p_l_contents => k_is)
    (case a_l_ends => k_is)
    (case l_l_ends => k_is)
    (case k_l_ends => k_is)
    (case p_l_ends => k_is)
    (case a_l_place => k_is)
    (case l_l_place => k_is)
    (case k_l_place => k_is)
    (case p_l_place => k_is)
    (case a_l_graph => k_is)
    (case l_l_graph => k_is)
    (case k_l_graph => k_is)
    (case p_l_graph => k_is)
    (case a_l_way_by => k_is)
    (case l_l_way_by => k_is)
    (case k_l_way_by => k_is)
    (case p_l_way_by => k_is)
    (case a_l_rests => k_is)
    (case l_l_rests => k_is)
    (case k_l_rests => k_is)
    (case p_l_rests => k_is)
    (case a_l_couple => k_is)
    (case l_l_couple => k_is)
    (case k_l_couple => k_is)
    (case p_l_couple => k_is)
    (case a_l_bench => k_is)
    (case l_l_bench => k_is)
    (case k_l_bench => k_is)
    (case p_l_bench => k_is)
    (case a_l_any_task => k_is)
    (case l_l_any_task => k_is)
    (case k_l_any_task => k_is)
    (case p_l_any_task => k_is)
    (case a_is_place => k_is)
    (case l_is_place => k_is)
    (case k_is_place => k_is)
    (case p_is_place => k_is)
    (case ta_is_place => k_is)
    (case tp_is_place => rfl)
    (case th_is_place => kernel_rfl)
    (case ti_is_place => decide)
    (case a_is_ends => k_is)
    (case l_is_ends => k_is)
    (case k_is_ends => k_is)
    (case p_is_ends => k_is)
    (case ta_is_ends => k_is)
    (case tp_is_ends => rfl)
    (case th_is_ends => kernel_rfl)
    (case ti_is_ends => decide)
    (case a_is_bench => k_is)
    (case l_is_bench => k_is)
    (case k_is_bench => k_is)
    (case p_is_bench => k_is)
    (case a_is_order => k_is)
    (case l_is_order => k_is)
    (case k_is_order => k_is)
    (case p_is_order => k_is)
    (case a_is_task => k_is)
    (case l_is_task => k_is)
    (case k_is_task => k_is)
    (case p_is_task => k_is)
    (case ta_is_task => k_is)
    (case tp_is_task => rfl)
    (case th_is_task => kernel_rfl)
    (case ti_is_task => decide)
    (case a_law => k_is)
    (case l_law => k_is)
    (case k_law => k_is)
    (case p_law => k_is)
    (case nt => kernel_rfl)
    (case un => decide)
    (case z_abs => k_is)
    (case z_all => k_is)
    (case z_bool => k_is)
    (case z_dict => k_is)
    (case z_int => k_is)
    (case z_isinstance => k_is)
    (case z_len => k_is)
    (case z_list => k_is)
    (case z_min => k_is)
    (case z_range => k_is)
    (case z_repr => k_is)
    (case z_sorted => k_is)
    (case z_tuple => k_is)
    (case z_zip => k_is)
  case hf => exact K19.law_true
