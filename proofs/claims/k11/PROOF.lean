import PyProof.Rows.All
import Wide.All
import OpenK.AllK
import Wide.FinOn
import HandS.ForMost
import HandS.Walk
import HandS.Wide
import KE.KeyNested
import HandS.Nested
import HandS.TupAny
import HandS.TupMul
import HandS.Deep
import HandS.IsInst
import HandS.Zip
import HandS.RaiseMore
import HandS.More
import HandS.SortOrd
import HandS.Sort
import PyProof.P3Eq
import PyProof.Rows.RowHeap
import HandS.Zip0
import HandS.Style
import HandS.Dict
import PyProof.Rows.TupDisplay
import KE.DataMinMax
import KE.KDictSum
import KE.KDictCopyH
import HandS.DictComp
import HandS.Flow
import HandS.TupSets
import HandS.SetBool
import HandS.ExcValue
import PyProof.TupleOfSeq
import HandS.TupLen
import HandS.Star
import KE.DataCmp
import KE.KDictPairs
import PyProof.DictMoreH
import HandS.DictTup
import KE.KEqNest
import PyProof.DictFindH
import KE.KDictKeyed
import PyProof.ReprRoads
import HandS.ExcOwn
import HandS.WordsExc
import HandS.TryMany
import HandS.ExcInit
import HandS.ExcField
import HandS.EndTab
import KE.KNestM
import KE.KDictOf
import HandS.DictSubView
import KE.KDictZip
import KE.GoesMore
import HandS.Conv
import HandS.TupLe
import HandS.ListEq
import PySem.Challenge.RW_onorback_k11_places_and_benches_judged
set_option Elab.async false
set_option linter.all false
set_option maxRecDepth 100000
set_option maxHeartbeats 4000000
namespace DL
open PySem PySem.Spec PyProof.Rows L2
/-- a decision that nothing computes -/
noncomputable def gd (p : Prop) : Decidable p := Classical.propDecidable p
/-- a value: data (never changed from now on), or the n-th object of the store -/
inductive W where
  | d (x : PyData)
  | loc (n : Nat)
  | fn
/-- an object that may change -/
inductive Ob where
  | lst (ws : List W)
  | dicK (kvs : List (Key × W))
  | dicT (kvs : List (List Key × W))
  | dicN (kvs : List (List (List Int) × PyData))
  | dead
abbrev Sto := List Ob
abbrev DEnv := List (Option W)
/-- a list of the written part -/
def WrL (K : PySem.W.Frag) (a : Addr) (xs : List V) : Prop := SqL K (fun _ => none) a xs ∧ ∀ x ∈ xs, ∃ i, x = V.int i
def FzL (K : PySem.W.Frag) (H : Hp) (a : Addr) (xs : List V) : Prop := (∃ o, H a = some (.frz o (.lst xs))) ∨ WrL K a xs
theorem FzL.sq {K : PySem.W.Frag} {H : Hp} {a : Addr} {xs : List V} (h : FzL K H a xs) : SqL K H a xs := by
  rcases h with ⟨o, h⟩ | ⟨h | h, _⟩
  · exact .inl (.inr ⟨o, h⟩)
  · rcases h with h | ⟨o, h⟩ <;> cases h
  · exact .inr h
/-- what never changes -/
def Imm : HO → Prop
  | .tup _ => True
  | .frz _ _ => True
  | _ => False
/-- what is neither an own object nor a table -/
def Fix : HO → Prop
  | .tup _ => True
  | .frz _ _ => True
  | .tbl _ => True
  | _ => False
theorem imm_fix {o : HO} (h : ¬ Fix o) : ¬ Imm o := fun z => h (by cases o <;> first | exact z.elim | trivial)
theorem imm_tbl {o : HO} (h : Imm o) (ps : Array Value) : o ≠ .tbl ps := fun z => by subst z; exact h.elim
def Kp (H H' : Hp) : Prop := ∀ a o, H a = some o → Imm o → H' a = some o
theorem Kp.refl (H : Hp) : Kp H H := fun _ _ h _ => h
theorem Kp.trans {H H1 H2 : Hp} (a : Kp H H1) (b : Kp H1 H2) : Kp H H2 := fun c o h i => b c o (a c o h i) i
theorem FzL.mono {K : PySem.W.Frag} {H H' : Hp} {a : Addr} {xs : List V} (h : FzL K H a xs) (k : Kp H H') : FzL K H' a xs := by
  rcases h with ⟨o, h⟩ | h
  · exact .inl ⟨o, k _ _ h trivial⟩
  · exact .inr h
theorem sqT_mono {K : PySem.W.Frag} {H H' : Hp} {a : Addr} {xs : List V} (h : SqT K H a xs) (k : Kp H H') : SqT K H' a xs := by
  rcases h with (h | ⟨o, h⟩) | h
  · exact .inl (.inl (k _ _ h trivial))
  · exact .inl (.inr ⟨o, k _ _ h trivial⟩)
  · exact .inr h
/-- a key of a dict, as data -/
def keyP : Key → PyData
  | .inl i => .int i
  | .inr x => .str x
/-- a row of a rule: a content, and the next one -/
def rowP : PyData → Bool
  | .tuple [.tuple (.int _ :: _), .tuple (.int _ :: _)] => true
  | _ => false
/-- rows, and nothing else: such tuples are known to the last field (dict(t) asks it) -/
def ruly (ds : List PyData) : Bool := ds.all rowP
mutual
inductive Rp (K : PySem.W.Frag) (H : Hp) : V → PyData → Prop
  | non : Rp K H .non .none
  | bl (b : Bool) : Rp K H (.bl b) (.bool b)
  | int (i : Int) : Rp K H (.int i) (.int i)
  | str (x : Str) : Rp K H (.str x) (.str x)
  | lst {a : Addr} {xs : List V} {ds : List PyData} : FzL K H a xs → RpAll K H xs ds → Rp K H (.ref a) (.list ds)
  | tup {a : Addr} {xs : List V} {ds : List PyData} : H a = some (.tup xs) → ruly ds = false → RpAll K H xs ds → Rp K H (.ref a) (.tuple ds)
  | tupZ {a : Addr} {o : Obj} {xs : List V} {ds : List PyData} : H a = some (.frz o (.tup xs)) → o.dict = none → ruly ds = true → RpAll K H xs ds → Rp K H (.ref a) (.tuple ds)
  | dicT {a : Addr} {o : Obj} {us : List (List Key × V)} {ds : List (PyData × PyData)} : H a = some (.frz o (.dT us)) → (ds.map fun q => q.1) = (us.map fun q => PyData.tuple (q.1.map keyP)) → (∀ u ∈ us, u.1 ≠ []) → RpAll K H (us.map fun q => q.2) (ds.map fun q => q.2) → Rp K H (.ref a) (.dict ds)
  | dicK {a : Addr} {o : Obj} {us : List (Key × V)} {ds : List (PyData × PyData)} : H a = some (.frz o (.dK us)) → us ≠ [] → (ds.map fun q => q.1) = (us.map fun q => keyP q.1) → RpAll K H (us.map fun q => q.2) (ds.map fun q => q.2) → Rp K H (.ref a) (.dict ds)
inductive RpAll (K : PySem.W.Frag) (H : Hp) : List V → List PyData → Prop
  | nil : RpAll K H [] []
  | cons {v : V} {vs : List V} {d : PyData} {ds : List PyData} : Rp K H v d → RpAll K H vs ds → RpAll K H (v :: vs) (d :: ds)
end
section
variable {K : PySem.W.Frag} {H H' : Hp}
mutual
theorem Rp.mono' (k : Kp H H') : ∀ {v : V} {d : PyData}, Rp K H v d → Rp K H' v d
  | _, _, .non => .non
  | _, _, .bl b => .bl b
  | _, _, .int i => .int i
  | _, _, .str x => .str x
  | _, _, .lst f r => .lst (f.mono k) (RpAll.mono' k r)
  | _, _, .tup f z r => .tup (k _ _ f trivial) z (RpAll.mono' k r)
  | _, _, .tupZ f d z r => .tupZ (k _ _ f trivial) d z (RpAll.mono' k r)
  | _, _, .dicT f e z r => .dicT (k _ _ f trivial) e z (RpAll.mono' k r)
  | _, _, .dicK f n e r => .dicK (k _ _ f trivial) n e (RpAll.mono' k r)
theorem RpAll.mono' (k : Kp H H') : ∀ {vs : List V} {ds : List PyData}, RpAll K H vs ds → RpAll K H' vs ds
  | _, _, .nil => .nil
  | _, _, .cons h t => .cons (Rp.mono' k h) (RpAll.mono' k t)
end
theorem Rp.mono (k : Kp H H') (d : PyData) (v : V) (h : Rp K H v d) : Rp K H' v d := Rp.mono' k h
theorem RpAll.mono (k : Kp H H') (ds : List PyData) (vs : List V) (h : RpAll K H vs ds) : RpAll K H' vs ds := RpAll.mono' k h
mutual
theorem Rp.dp : ∀ (d : PyData) (v : V), d.hasDict = false → Rp K H v d → Dp K H v d
  | .none, _, _, h => by cases h; exact .non
  | .bool _, _, _, h => by cases h; exact .bl _
  | .int _, _, _, h => by cases h; exact .int _
  | .str _, _, _, h => by cases h; exact .str _
  | .list ds, _, z, h => by
    cases h with
    | lst f r => exact .lst f.sq (RpAll.dp ds _ (by simpa [PyData.hasDict] using z) r)
  | .tuple ds, _, z, h => by
    cases h with
    | tup f _ r => exact .tup (.inl (.of f)) (RpAll.dp ds _ (by simpa [PyData.hasDict] using z) r)
    | tupZ f _ _ r => exact .tup (.inl (.inr ⟨_, f⟩)) (RpAll.dp ds _ (by simpa [PyData.hasDict] using z) r)
  | .dict _, _, z, _ => by simp [PyData.hasDict] at z
theorem RpAll.dp : ∀ (ds : List PyData) (vs : List V), PyData.hasDictAll ds = false → RpAll K H vs ds → DpAll K H vs ds
  | [], _, _, h => by cases h; exact .nil
  | d :: ds, _, z, h => by
    simp only [PyData.hasDictAll, Bool.or_eq_false_iff] at z
    cases h with
    | cons h t => exact .cons (Rp.dp d _ z.1 h) (RpAll.dp ds _ z.2 t)
end
theorem RpAll.length : ∀ {ds : List PyData} {vs : List V}, RpAll K H vs ds → vs.length = ds.length
  | _, _, .nil => rfl
  | _, _, .cons _ t => by simp [RpAll.length t]
theorem RpAll.get : ∀ {ds : List PyData} {vs : List V} {i : Nat} {d : PyData}, RpAll K H vs ds → ds[i]? = some d → ∃ v, vs[i]? = some v ∧ Rp K H v d
  | _, _, _, _, .nil, e => by simp at e
  | _, _, 0, _, .cons r _, e => by simp at e; subst e; exact ⟨_, rfl, r⟩
  | _, _, i + 1, d, .cons _ t, e => by
    obtain ⟨v, h1, h2⟩ := RpAll.get (i := i) (d := d) t (by simpa using e)
    exact ⟨v, by simpa using h1, h2⟩
theorem RpAll.append : ∀ {ds es : List PyData} {vs us : List V}, RpAll K H vs ds → RpAll K H us es → RpAll K H (vs ++ us) (ds ++ es)
  | _, _, _, _, .nil, s => s
  | _, _, _, _, .cons r t, s => .cons r (RpAll.append t s)
theorem RpAll.take : ∀ {ds : List PyData} {vs : List V} (n : Nat), RpAll K H vs ds → RpAll K H (vs.take n) (ds.take n)
  | _, _, 0, _ => .nil
  | _, _, _ + 1, .nil => .nil
  | _, _, n + 1, .cons r t => .cons r (RpAll.take n t)
theorem RpAll.drop : ∀ {ds : List PyData} {vs : List V} (n : Nat), RpAll K H vs ds → RpAll K H (vs.drop n) (ds.drop n)
  | _, _, 0, r => r
  | _, _, _ + 1, .nil => .nil
  | _, _, n + 1, .cons _ t => RpAll.drop n t
end
structure Tbs where
  tabs : List NdefX.NTab
  codes : List (Addr × Str)
  caps : List (V × PyData)
  fn : Option Addr
def Tbs.none : Tbs := ⟨[], [], [], Option.none⟩
def TabM (H : Hp) (P : Addr) (nm : Nat → Nat → Str) : Prop := ∃ ps : Array Value, H P = some (.tbl ps) ∧ TriplesOk ps.toList ∧ ∀ (pos : Pos) (cv : Value), codeAmong pos ps.toList = some cv → ∃ c o, cv = .ref c ∧ H c = some (.frz o (LamX.CodeO c (nm pos.line pos.col)))
structure TabsM (τ : Tbs) (K : PySem.W.Frag) (H : Hp) : Prop where
  tabs : ∀ p ∈ τ.tabs, TabM H p.1 p.2
  codes : ∀ p ∈ τ.codes, ∃ o, H p.1 = some (.frz o (LamX.CodeO p.1 p.2))
  caps : ∀ p ∈ τ.caps, Rp K H p.1 p.2
theorem TabM.kp {H H' : Hp} {P : Addr} {nm : Nat → Nat → Str} (t : TabM H P nm) (k : Kp H H') (e : ∀ ps, H P = some (.tbl ps) → H' P = some (.tbl ps)) : TabM H' P nm := by
  obtain ⟨ps, h1, h2, h3⟩ := t
  refine ⟨ps, e _ h1, h2, fun pos cv hc => ?_⟩
  obtain ⟨c, o, e1, e2⟩ := h3 pos cv hc
  exact ⟨c, o, e1, k _ _ e2 trivial⟩
theorem TabsM.kp {τ : Tbs} {K : PySem.W.Frag} {H H' : Hp} (t : TabsM τ K H) (k : Kp H H') (e : ∀ P ps, H P = some (.tbl ps) → H' P = some (.tbl ps)) : TabsM τ K H' :=
  ⟨fun p hp => (t.tabs p hp).kp k (e _), fun p hp => (t.codes p hp).elim fun o h => ⟨o, k _ _ h trivial⟩, fun p hp => Rp.mono k _ _ (t.caps p hp)⟩
theorem TabsM.ext {τ : Tbs} {K : PySem.W.Frag} {H H' : Hp} (t : TabsM τ K H) (e : ∀ b o, H b = some o → H' b = some o) : TabsM τ K H' := t.kp (fun a o h _ => e a o h) fun _ _ h => e _ _ h
theorem TabsM.put {τ : Tbs} {K : PySem.W.Frag} {H : Hp} {a : Addr} {o : HO} (t : TabsM τ K H) (k : ∀ u, H a = some u → ¬ Fix u) : TabsM τ K (upd H a o) := by
  refine t.kp (fun b u h i => ?_) fun P ps h => ?_
  · by_cases e : b = a
    · subst e; exact absurd i (imm_fix (k _ h))
    · rw [upd_ne e]; exact h
  · by_cases e : P = a
    · subst e; exact absurd trivial (k _ h)
    · rw [upd_ne e]; exact h
/-- an object of one's own that is no code object -/
def Ow (u : HO) : Prop := ¬ Fix u ∧ ∀ c q, u ≠ LamX.CodeO c q
theorem TabsM.nil {K : PySem.W.Frag} {H : Hp} : TabsM Tbs.none K H := ⟨fun p hp => (by cases hp), fun p hp => (by cases hp), fun p hp => (by cases hp)⟩
/-- W in the heap, m telling where the store's objects stand -/
def RW (τ : Tbs) (K : PySem.W.Frag) (m : List Addr) (H : Hp) (v : V) : W → Prop
  | .d x => Rp K H v x
  | .loc n => ∃ a, m[n]? = some a ∧ v = .ref a
  | .fn => ∃ f, τ.fn = some f ∧ v = .ref f
/-- a dict whose keys are tuples of tuples of whole numbers -/
def hashN (k : List (List Int)) : Int := reduceHash (Builtin.Tuple.tupleHashOf (k.map fun c => reduceHash (Builtin.Tuple.tupleHashOf (c.map hashInt))))
abbrev NRow := List (List Int) × Addr × V
def NestO (a : Addr) (rows : List NRow) : HO := .ext fun h => rows.length ≤ sizeLine ∧ (a == sysModules) = false ∧ ∃ xs : List (List (List Int) × Addr × Value), Paired (fun (p : NRow) (q : List (List Int) × Addr × Value) => p.1 = q.1 ∧ p.2.1 = q.2.1 ∧ RelV p.2.2 q.2.2) rows xs ∧
  ∃ o es ep, h.get? a = some o ∧ o.ExactDict ∧ o.data = .dict es ep ∧ es.toList = xs.map (fun x => (⟨hashN x.1, .ref x.2.1, x.2.2⟩ : DictEntry)) ∧ (xs.map (·.1)).Nodup
def NkAt (H : Hp) (k : List (List Int)) (b : Addr) : Prop := (k ≠ [] ∧ ∀ c ∈ k, c ≠ []) ∧ ∃ vs, H b = some (.tup vs) ∧ Paired (fun v c => ∃ t, v = V.ref t ∧ H t = some (.tup (c.map V.int))) vs k
theorem NkAt.mono {H H' : Hp} {k : List (List Int)} {b : Addr} (h : NkAt H k b) (kp : Kp H H') : NkAt H' k b := by
  obtain ⟨z, vs, e, p⟩ := h
  exact ⟨z, vs, kp _ _ e trivial, Paired.mapP p fun v c ⟨t, e1, e2⟩ => ⟨t, e1, kp _ _ e2 trivial⟩⟩
def RO (τ : Tbs) (K : PySem.W.Frag) (m : List Addr) (H : Hp) (a : Addr) : Ob → Prop
  | .lst ws => ∃ vs, H a = some (.lst vs) ∧ Paired (RW τ K m H) vs ws
  | .dicK kvs => ∃ us, H a = some (.dK us) ∧ Paired (fun (p : Key × V) (q : Key × W) => p.1 = q.1 ∧ RW τ K m H p.2 q.2) us kvs
  | .dicT kvs => ∃ us, H a = some (.dT us) ∧ Paired (fun (p : List Key × V) (q : List Key × W) => p.1 = q.1 ∧ RW τ K m H p.2 q.2) us kvs
  | .dicN kvs => ∃ rows, H a = some (NestO a rows) ∧ Paired (fun (p : NRow) (q : List (List Int) × PyData) => p.1 = q.1 ∧ NkAt H p.1 p.2.1 ∧ Rp K H p.2.2 q.2) rows kvs
  | .dead => ∃ o, H a = some o
structure Sim (τ : Tbs) (K : PySem.W.Frag) (m : List Addr) (S : Sto) (ρ : DEnv) (σ : L2.St) (H : Hp) : Prop where
  slot : ∀ (i : Nat) (w : W), ρ[i]? = some (some w) → ∃ v, σ[i]? = some (some v) ∧ RW τ K m H v w
  len : m.length = S.length
  nd : m.Nodup
  obs : ∀ (n : Nat) (ob : Ob), S[n]? = some ob → ∃ a, m[n]? = some a ∧ RO τ K m H a ob
  rl : ρ.length ≤ σ.length
  tb : TabsM τ K H
/-- what stood ahead stands, but for the objects at m -/
structure Fr (m : List Addr) (H H' : Hp) : Prop where
  st : ∀ a o, H a = some o → (a ∉ m ∨ Imm o) → (∀ ps, o ≠ .tbl ps) → H' a = some o
  no : ∀ a, H' a = none → H a = none
def Fresh (ext : List Addr) (H : Hp) : Prop := ∀ a ∈ ext, H a = none
section
variable {K : PySem.W.Frag} {H H1 H2 : Hp} {m ext : List Addr} {S : Sto} {ρ : DEnv} {σ : L2.St}
theorem Fr.kp (f : Fr m H H1) : Kp H H1 := fun a o h i => f.st a o h (.inr i) (imm_tbl i)
theorem Fr.refl : Fr m H H := ⟨fun _ _ h _ _ => h, fun _ h => h⟩
theorem Fr.of (k : ∀ a o, H a = some o → H1 a = some o) : Fr m H H1 := ⟨fun a o h _ _ => k a o h, fun a h => by
  cases e : H a with
  | none => rfl
  | some o => rw [k a o e] at h; cases h⟩
theorem none_old (k : ∀ a o, H a = some o → H1 a = some o) {a : Addr} (h : H1 a = none) : H a = none := by
  cases e : H a with
  | none => rfl
  | some o => rw [k a o e] at h; cases h
theorem Fr.updo {a : Addr} {o : HO} (f : Fr m H H1) (hD : H a = none) : Fr m H (upd H1 a o) := ⟨fun b x h c n => by
  have : b ≠ a := fun z => by subst z; rw [hD] at h; cases h
  rw [upd_ne this]; exact f.st b x h c n, fun b h => by
  by_cases z : b = a
  · subst z; exact hD
  · rw [upd_ne z] at h; exact f.no b h⟩
theorem Fr.postD {a : Addr} (f : Fr m H H1) (hD : H a = none) (k : ∀ b o, H1 b = some o → b ≠ a → H2 b = some o) : Fr m H H2 := ⟨fun b o h c n => k b o (f.st b o h c n) (fun z => by subst z; rw [hD] at h; cases h), fun b h => by
  by_cases z : b = a
  · subst z; exact hD
  · cases e : H1 b with
    | none => exact f.no b e
    | some o => rw [k b o e z] at h; cases h⟩
theorem Fr.pre (k : ∀ a o, H a = some o → H1 a = some o) (f : Fr m H1 H2) : Fr m H H2 := ⟨fun a o h c n => f.st a o (k a o h) c n, fun a h => by
  cases e : H a with
  | none => rfl
  | some o => have := k a o e; rw [f.no a h] at this; cases this⟩
theorem Fr.post (f : Fr m H H1) (k : ∀ a o, H1 a = some o → H2 a = some o) : Fr m H H2 := ⟨fun a o h c n => k a o (f.st a o h c n), fun a h => f.no a (by
  cases e : H1 a with
  | none => rfl
  | some o => rw [k a o e] at h; cases h)⟩
theorem Fr.chg {a : Addr} {u o : HO} (hm : a ∈ m) (h : H a = some u) (ni : ¬ Imm u) : Fr m H (upd H a o) := ⟨fun b x hb c _ => by
  have : b ≠ a := fun z => by
    subst z
    rw [h] at hb; cases hb
    exact c.elim (fun n => n hm) ni
  rw [upd_ne this]; exact hb, fun b hb => by
  by_cases z : b = a
  · subst z; rw [upd_same] at hb; cases hb
  · rw [upd_ne z] at hb; exact hb⟩
theorem Fr.trans (f : Fr m H H1) (fr : Fresh ext H) (g : Fr (m ++ ext) H1 H2) : Fr m H H2 := ⟨fun a o h c nt => by
  have h1 := f.st a o h c nt
  refine g.st a o h1 ?_ nt
  rcases c with c | c
  · refine .inl fun q => ?_
    rcases List.mem_append.mp q with q | q
    · exact c q
    · rw [fr a q] at h; cases h
  · exact .inr c, fun a h => f.no a (g.no a h)⟩
theorem Sim.mem (q : Sim τ K m S ρ σ H) {a : Addr} (h : a ∈ m) : ∃ o, H a = some o := by
  obtain ⟨n, hn, e⟩ := List.getElem_of_mem h
  have hs : n < S.length := by rw [← q.len]; exact hn
  obtain ⟨b, hb, r⟩ := q.obs n S[n] (List.getElem?_eq_getElem hs)
  have eb : a = b := by
    rw [List.getElem?_eq_getElem hn] at hb
    exact e.symm.trans (Option.some.inj hb)
  subst eb
  cases h2 : S[n] with
  | lst ws => rw [h2] at r; obtain ⟨vs, r, _⟩ := r; exact ⟨_, r⟩
  | dicK ws => rw [h2] at r; obtain ⟨vs, r, _⟩ := r; exact ⟨_, r⟩
  | dicT ws => rw [h2] at r; obtain ⟨vs, r, _⟩ := r; exact ⟨_, r⟩
  | dicN ws => rw [h2] at r; obtain ⟨vs, r, _⟩ := r; exact ⟨_, r⟩
  | dead => rw [h2] at r; exact r
theorem Sim.nomem (q : Sim τ K m S ρ σ H) {a : Addr} (h : H a = none) : a ∉ m := fun c => by
  obtain ⟨o, e⟩ := q.mem c
  rw [h] at e; cases e
theorem Fresh.append {e2 : List Addr} (a : Fresh ext H) (f : Fr m H H1) (q : Sim τ K (m ++ ext) S ρ σ H1) (hm : Fresh e2 H1) : Fresh (ext ++ e2) H := fun b hb => by
  rcases List.mem_append.mp hb with c | c
  · exact a b c
  · exact f.no b (hm b c)
theorem RW.mono {v : V} {w : W} (r : RW τ K m H v w) (k : Kp H H1) : RW τ K (m ++ ext) H1 v w := by
  cases w with
  | d x => exact Rp.mono k x v r
  | loc n =>
    obtain ⟨a, h, e⟩ := r
    exact ⟨a, by rw [List.getElem?_append_left (List.getElem?_eq_some_iff.mp h).1]; exact h, e⟩
  | fn => exact r
theorem RW.mono0 {v : V} {w : W} (r : RW τ K m H v w) (k : Kp H H1) : RW τ K m H1 v w := by
  have := RW.mono (ext := []) r k
  rwa [List.append_nil] at this
theorem pRW.mono {vs : List V} {ws : List W} (r : Paired (RW τ K m H) vs ws) (k : Kp H H1) : Paired (RW τ K (m ++ ext) H1) vs ws :=
  Paired.mapP r fun _ _ h => h.mono k
theorem RO.mono {a : Addr} {ob : Ob} (r : RO τ K m H a ob) (k : Kp H H1) (e : ∀ o, H a = some o → H1 a = some o) : RO τ K (m ++ ext) H1 a ob := by
  cases ob with
  | lst ws => obtain ⟨vs, h, p⟩ := r; exact ⟨vs, e _ h, pRW.mono p k⟩
  | dicK ws => obtain ⟨vs, h, p⟩ := r; exact ⟨vs, e _ h, Paired.mapP p fun _ _ q => ⟨q.1, q.2.mono k⟩⟩
  | dicT ws => obtain ⟨vs, h, p⟩ := r; exact ⟨vs, e _ h, Paired.mapP p fun _ _ q => ⟨q.1, q.2.mono k⟩⟩
  | dicN ws => obtain ⟨vs, h, p⟩ := r; exact ⟨vs, e _ h, Paired.mapP p fun _ _ q => ⟨q.1, q.2.1.mono k, q.2.2.mono' k⟩⟩
  | dead => obtain ⟨o, h⟩ := r; exact ⟨o, e o h⟩
/-- the same, but for the tables -/
theorem RO.monoT {a : Addr} {ob : Ob} (r : RO τ K m H a ob) (k : Kp H H1) (e : ∀ o, H a = some o → (∀ ps, o ≠ .tbl ps) → H1 a = some o) (n : H1 a = none → H a = none) : RO τ K (m ++ ext) H1 a ob := by
  cases ob with
  | lst ws => obtain ⟨vs, h, p⟩ := r; exact ⟨vs, e _ h (fun _ z => nomatch z), pRW.mono p k⟩
  | dicK ws => obtain ⟨vs, h, p⟩ := r; exact ⟨vs, e _ h (fun _ z => nomatch z), Paired.mapP p fun _ _ q => ⟨q.1, q.2.mono k⟩⟩
  | dicT ws => obtain ⟨vs, h, p⟩ := r; exact ⟨vs, e _ h (fun _ z => nomatch z), Paired.mapP p fun _ _ q => ⟨q.1, q.2.mono k⟩⟩
  | dicN ws => obtain ⟨vs, h, p⟩ := r; exact ⟨vs, e _ h (fun _ z => by unfold NestO at z; cases z), Paired.mapP p fun _ _ q => ⟨q.1, q.2.1.mono k, q.2.2.mono' k⟩⟩
  | dead =>
    obtain ⟨o, h⟩ := r
    cases h1 : H1 a with
    | none => rw [n h1] at h; cases h
    | some o' => exact ⟨o', h1⟩
/-- nothing tracked is lost: the simulation stands -/
theorem Sim.same (q : Sim τ K m S ρ σ H) (k : ∀ a o, H a = some o → H1 a = some o) : Sim τ K m S ρ σ H1 := by
  have kp : Kp H H1 := fun a o h _ => k a o h
  refine ⟨fun i w e => ?_, q.len, q.nd, fun n ob e => ?_, q.rl, q.tb.ext k⟩
  · obtain ⟨v, h, r⟩ := q.slot i w e
    exact ⟨v, h, r.mono0 kp⟩
  · obtain ⟨a, h, r⟩ := q.obs n ob e
    have := RO.mono (ext := []) r kp (k a)
    rw [List.append_nil] at this
    exact ⟨a, h, this⟩
/-- one object more -/
theorem Sim.push {a : Addr} {ob : Ob} (q : Sim τ K m S ρ σ H) (k : ∀ a o, H a = some o → H1 a = some o) (hn : H a = none) (r : RO τ K (m ++ [a]) H1 a ob) : Sim τ K (m ++ [a]) (S ++ [ob]) ρ σ H1 := by
  have kp : Kp H H1 := fun a o h _ => k a o h
  have nm := q.nomem hn
  refine ⟨fun i w e => ?_, by simp [q.len], ?_, fun n o e => ?_, q.rl, q.tb.ext k⟩
  · obtain ⟨v, h, r⟩ := q.slot i w e
    exact ⟨v, h, r.mono kp⟩
  · rw [List.nodup_append]
    refine ⟨q.nd, by simp, fun x hx y hy e => ?_⟩
    have ey : y = a := by simpa using hy
    exact nm (by rw [← ey, ← e]; exact hx)
  · by_cases hlt : n < S.length
    · rw [List.getElem?_append_left hlt] at e
      obtain ⟨b, h, r⟩ := q.obs n o e
      refine ⟨b, ?_, RO.mono r kp (k b)⟩
      rw [List.getElem?_append_left (by rw [q.len]; exact hlt)]; exact h
    · have h2 : n < (S ++ [ob]).length := (List.getElem?_eq_some_iff.mp e).1
      have en : n = S.length := by simp at h2; omega
      subst en
      have eo : ob = o := by simpa using e
      subst eo
      refine ⟨a, ?_, r⟩
      rw [List.getElem?_append_right (by rw [q.len]; exact Nat.le_refl _), q.len]; simp
/-- an object changed -/
theorem Sim.put {a : Addr} {n : Nat} {ob : Ob} {o : HO} (q : Sim τ K m S ρ σ H) (hm : m[n]? = some a) (k : ∀ u, H a = some u → ¬ Fix u) (hn : n < S.length) (r : RO τ K m (upd H a o) a ob) : Sim τ K m (S.set n ob) ρ σ (upd H a o) := by
  have kp : Kp H (upd H a o) := fun b u h i => by
    by_cases e : b = a
    · subst e; exact absurd i (imm_fix (k _ h))
    · rw [upd_ne e]; exact h
  refine ⟨fun i w e => ?_, by simp [q.len], q.nd, fun j ob' e => ?_, q.rl, q.tb.put k⟩
  · obtain ⟨v, h, r⟩ := q.slot i w e
    exact ⟨v, h, r.mono0 kp⟩
  · by_cases hj : j = n
    · subst hj
      rw [List.getElem?_set_self hn] at e
      cases e
      exact ⟨a, hm, r⟩
    · rw [List.getElem?_set_ne (Ne.symm hj)] at e
      obtain ⟨b, h, r'⟩ := q.obs j ob' e
      refine ⟨b, h, ?_⟩
      have hb : b ≠ a := fun z => by
        subst z
        obtain ⟨h1, e1⟩ := List.getElem?_eq_some_iff.mp h
        obtain ⟨h2, e2⟩ := List.getElem?_eq_some_iff.mp hm
        exact hj ((List.getElem_inj q.nd).mp (e1.trans e2.symm))
      have := RO.mono (ext := []) r' kp (fun u hu => by rw [upd_ne hb]; exact hu)
      rw [List.append_nil] at this
      exact this
theorem Sim.slotset {v : V} {w : W} {i : Nat} (q : Sim τ K m S ρ σ H) (r : RW τ K m H v w) : Sim τ K m S (ρ.set i (some w)) (σ.set i (some v)) H := by
  have hl := q.rl
  refine ⟨fun j w' e => ?_, q.len, q.nd, q.obs, by simpa using q.rl, q.tb⟩
  by_cases hj : i = j
  · subst hj
    have hi : i < ρ.length := by
      have := (List.getElem?_eq_some_iff.mp e).1
      simpa using this
    rw [List.getElem?_set_self hi] at e
    cases e
    exact ⟨v, by rw [List.getElem?_set_self (by omega)], r⟩
  · rw [List.getElem?_set_ne hj] at e
    obtain ⟨v', h, r'⟩ := q.slot j w' e
    exact ⟨v', by rw [List.getElem?_set_ne hj]; exact h, r'⟩
end
/-- what is to be shown behind an expression that gives w and the store S' -/
def Post (τ : Tbs) (K : PySem.W.Frag) (m : List Addr) (S' : Sto) (ρ : DEnv) (σ : L2.St) (H : Hp) (w : W) (Q : VK) : Prop :=
  ∀ ext H' v, Fresh ext H → Sim τ K (m ++ ext) S' ρ σ H' → Fr m H H' → RW τ K (m ++ ext) H' v w → Q v H'
abbrev ME := DEnv → Sto → Option (W × Sto)
def rdE (τ : Tbs) (K : PySem.W.Frag) (f : ME) : TE := fun σ H Q => ∃ m S ρ w S', Sim τ K m S ρ σ H ∧ f ρ S = some (w, S') ∧ Post τ K m S' ρ σ H w Q
def PostB (τ : Tbs) (K : PySem.W.Frag) (m : List Addr) (S' : Sto) (ρ : DEnv) (σ : L2.St) (H : Hp) (b : Bool) (Q : Bool → Hp → Prop) : Prop :=
  ∀ ext H', Fresh ext H → Sim τ K (m ++ ext) S' ρ σ H' → Fr m H H' → Q b H'
abbrev MT := DEnv → Sto → Option (Bool × Sto)
def rdT (τ : Tbs) (K : PySem.W.Frag) (f : MT) : TT := fun σ H Q => ∃ m S ρ b S', Sim τ K m S ρ σ H ∧ f ρ S = some (b, S') ∧ PostB τ K m S' ρ σ H b Q
def PostL (τ : Tbs) (K : PySem.W.Frag) (m : List Addr) (S' : Sto) (ρ : DEnv) (σ : L2.St) (H : Hp) (ws : List W) (Q : List V → Hp → Prop) : Prop :=
  ∀ ext H' vs, Fresh ext H → Sim τ K (m ++ ext) S' ρ σ H' → Fr m H H' → Paired (RW τ K (m ++ ext) H') vs ws → Q vs H'
abbrev MA := DEnv → Sto → Option (List W × Sto)
def rdA (τ : Tbs) (K : PySem.W.Frag) (f : MA) : TA := fun σ H Q => ∃ m S ρ ws S', Sim τ K m S ρ σ H ∧ f ρ S = some (ws, S') ∧ PostL τ K m S' ρ σ H ws Q
section
variable {K : PySem.W.Frag} {H H1 : Hp} {m ext : List Addr} {S S1 S' : Sto} {ρ : DEnv} {σ : L2.St} {w : W} {Q : VK}
theorem Post.at (p : Post τ K m S' ρ σ H w Q) (f : Fresh ext H) (q : Sim τ K (m ++ ext) S1 ρ σ H1) (fr : Fr m H H1) : Post τ K (m ++ ext) S' ρ σ H1 w Q := fun e2 H2 v f2 q2 fr2 r =>
  p (ext ++ e2) H2 v (f.append fr q f2) (by rwa [← List.append_assoc]) (fr.trans f fr2) (by rwa [← List.append_assoc])
theorem PostB.at {b : Bool} {Q : Bool → Hp → Prop} (p : PostB τ K m S' ρ σ H b Q) (f : Fresh ext H) (q : Sim τ K (m ++ ext) S1 ρ σ H1) (fr : Fr m H H1) : PostB τ K (m ++ ext) S' ρ σ H1 b Q := fun e2 H2 f2 q2 fr2 =>
  p (ext ++ e2) H2 (f.append fr q f2) (by rwa [← List.append_assoc]) (fr.trans f fr2)
theorem PostL.at {ws : List W} {Q : List V → Hp → Prop} (p : PostL τ K m S' ρ σ H ws Q) (f : Fresh ext H) (q : Sim τ K (m ++ ext) S1 ρ σ H1) (fr : Fr m H H1) : PostL τ K (m ++ ext) S' ρ σ H1 ws Q := fun e2 H2 vs f2 q2 fr2 r =>
  p (ext ++ e2) H2 vs (f.append fr q f2) (by rwa [← List.append_assoc]) (fr.trans f fr2) (by rwa [← List.append_assoc])
/-- the value at hand -/
theorem Post.now {v : V} (p : Post τ K m S' ρ σ H w Q) (q : Sim τ K m S' ρ σ H) (r : RW τ K m H v w) : Q v H :=
  p [] H v (fun _ h => absurd h (by simp)) (by rwa [List.append_nil]) Fr.refl (by rwa [List.append_nil])
theorem PostB.now {b : Bool} {Q : Bool → Hp → Prop} (p : PostB τ K m S' ρ σ H b Q) (q : Sim τ K m S' ρ σ H) : Q b H :=
  p [] H (fun _ h => absurd h (by simp)) (by rwa [List.append_nil]) Fr.refl
theorem PostL.now {vs : List V} {ws : List W} {Q : List V → Hp → Prop} (p : PostL τ K m S' ρ σ H ws Q) (q : Sim τ K m S' ρ σ H) (r : Paired (RW τ K m H) vs ws) : Q vs H :=
  p [] H vs (fun _ h => absurd h (by simp)) (by rwa [List.append_nil]) Fr.refl (by rwa [List.append_nil])
/-- the heap has grown by immutable things -/
theorem Post.grown {v : V} (p : Post τ K m S ρ σ H w Q) (q : Sim τ K m S ρ σ H) (k : ∀ a o, H a = some o → H1 a = some o) (r : RW τ K m H1 v w) : Q v H1 :=
  p [] H1 v (fun _ h => absurd h (by simp)) (by rw [List.append_nil]; exact q.same k) (Fr.of k) (by rwa [List.append_nil])
theorem upd_keeps {a : Addr} {o : HO} (h : H a = none) : ∀ b u, H b = some u → upd H a o b = some u := fun b u e => by
  rw [upd_ne (ne_of_none e h)]; exact e
theorem upd_kp {a : Addr} {o : HO} (h : H a = none) : Kp H (upd H a o) := fun b u e _ => upd_keeps h b u e
end
section
variable {X : Cx}
theorem wkE {e : Expr} {t t' : TE} (h : PE X e t) (w : ∀ σ H Q, t' σ H Q → t σ H Q) : PE X e t' := ⟨fun p s σ H Q I q => h.run p s σ H Q I (w σ H Q q)⟩
theorem wkT {e : Expr} {t t' : TT} (h : PT X e t) (w : ∀ σ H Q, t' σ H Q → t σ H Q) : PT X e t' := ⟨fun p s σ H Q I q => h.run p s σ H Q I (w σ H Q q)⟩
theorem wkW {e : Expr} {t t' : TT} (h : PW X e t) (w : ∀ σ H Q, t' σ H Q → t σ H Q) : PW X e t' := ⟨fun wh p s σ H Q I q => h.run wh p s σ H Q I (w σ H Q q)⟩
theorem wkA {es : List Expr} {t t' : TA} (h : PA X es t) (w : ∀ σ H Q, t' σ H Q → t σ H Q) : PA X es t' := ⟨fun ps p s σ H Q I q => h.run ps p s σ H Q I (w σ H Q q)⟩
theorem wkS {st : Stmt} {t t' : TS} (h : PS X st t) (w : ∀ D σ H, t' D σ H → t D σ H) : PS X st t' := ⟨fun p s σ H D I q => h.run p s σ H D I (w D σ H q)⟩
theorem wkSs {st : List Stmt} {t t' : TS} (h : PSs X st t) (w : ∀ D σ H, t' D σ H → t D σ H) : PSs X st t' := ⟨fun p s σ H D I q => h.run p s σ H D I (w D σ H q)⟩
/-- a value made: a new list is locked for ever -/
theorem peFrz {e : Expr} {t : TE} (h : PE X e t) : PE X e (fun σ H Q => t σ H fun v H1 => ∃ a xs, v = .ref a ∧ H1 a = some (.lst xs) ∧ ∀ o, Q v (upd H1 a (.frz o (.lst xs)))) := by
  refine ⟨fun pins s σ H Q I q => thn (h.run pins s σ H _ I q) fun u s1 ⟨v, H1, I1, r, a, xs, e, hl, q1⟩ => ?_⟩
  obtain ⟨o, I2⟩ := I1.lock hl trivial
  exact ⟨v, _, I2, r, q1 o⟩
end
end DL
noncomputable section
namespace DL
open PySem PySem.Spec PyProof.Rows L2
section
variable {K : PySem.W.Frag} {H H1 H2 : Hp} {m ext : List Addr} {S S1 S' : Sto} {ρ : DEnv} {σ : L2.St} {w : W} {Q : VK}
theorem bindE {A : ME} {k : W → Sto → Option (W × Sto)} (q : Sim τ K m S ρ σ H) (e : ((A ρ S).bind fun p => k p.1 p.2) = some (w, S')) (p : Post τ K m S' ρ σ H w Q) :
    rdE τ K A σ H fun x H1 => ∃ m1 S1 wx, Sim τ K m1 S1 ρ σ H1 ∧ RW τ K m1 H1 x wx ∧ k wx S1 = some (w, S') ∧ Post τ K m1 S' ρ σ H1 w Q ∧ Kp H H1 ∧ ∃ ext, m1 = m ++ ext := by
  obtain ⟨⟨wx, S1⟩, e1, e2⟩ := Option.bind_eq_some_iff.mp e
  exact ⟨m, S, ρ, wx, S1, q, e1, fun ext H1 x f q1 fr r => ⟨m ++ ext, S1, wx, q1, r, e2, p.at f q1 fr, fr.kp, ext, rfl⟩⟩
/-- the readings of an operator on values of the store -/
def rOp (τ : Tbs) (K : PySem.W.Frag) (f : W → W → Sto → Option (W × Sto)) : R2 := fun x y H Q =>
  ∃ m S ρ σ wx wy w S', Sim τ K m S ρ σ H ∧ RW τ K m H x wx ∧ RW τ K m H y wy ∧ f wx wy S = some (w, S') ∧ Post τ K m S' ρ σ H w Q
def mBin (f : W → W → Sto → Option (W × Sto)) (A B : ME) : ME := fun ρ S => (A ρ S).bind fun p => (B ρ p.2).bind fun q => f p.1 q.1 q.2
theorem binE {f : W → W → Sto → Option (W × Sto)} {A B : ME} (h : rdE τ K (mBin f A B) σ H Q) : rdE τ K A σ H fun x H1 => rdE τ K B σ H1 fun y H2 => rOp τ K f x y H2 Q := by
  obtain ⟨m, S, ρ, w, S', q, e, p⟩ := h
  obtain ⟨m', S0, ρ', w', S0', q', e', p'⟩ := bindE (K := K) (Q := Q) (k := fun wx S1 => (B ρ S1).bind fun q => f wx q.1 q.2) q e p
  refine ⟨m', S0, ρ', w', S0', q', e', fun ext H1 x fr q1 f1 r => ?_⟩
  obtain ⟨m1, S1, wx, q1, r1, e1, p1, k1, _⟩ := p' ext H1 x fr q1 f1 r
  obtain ⟨m2, S2, ρ2, w2, S2', q2, e2, p2⟩ := bindE (K := K) (Q := Q) (k := fun wy S1 => f wx wy S1) q1 e1 p1
  refine ⟨m2, S2, ρ2, w2, S2', q2, e2, fun ext H2 y fr q2 f2 r => ?_⟩
  obtain ⟨m3, S3, wy, q3, r3, e3, p3, k3, ext', rfl⟩ := p2 ext H2 y fr q2 f2 r
  exact ⟨_, S3, ρ, σ, wx, wy, w, S', q3, r1.mono k3, r3, e3, p3⟩
def allD : List W → Option (List PyData)
  | [] => some []
  | .d x :: ws => (allD ws).map (x :: ·)
  | .loc _ :: _ => none
  | .fn :: _ => none
theorem allD_of : ∀ {ws : List W} {ds : List PyData} {vs : List V}, allD ws = some ds → Paired (RW τ K m H) vs ws → RpAll K H vs ds
  | [], _, _, e, .nil => by cases e; exact .nil
  | .d x :: ws, ds, _, e, .cons r t => by
    simp only [allD, Option.map_eq_some_iff] at e
    obtain ⟨es, e1, rfl⟩ := e
    exact .cons r (allD_of e1 t)
  | .loc _ :: _, _, _, e, _ => by cases e
  | .fn :: _, _, _, e, _ => by cases e
theorem allD_map (ds : List PyData) : allD (ds.map W.d) = some ds := by
  induction ds with
  | nil => rfl
  | cons x ds ih => simp [allD, ih]
theorem rpAll_rw : ∀ {ds : List PyData} {vs : List V}, RpAll K H vs ds → Paired (RW τ K m H) vs (ds.map W.d)
  | _, _, .nil => .nil
  | _, _, .cons h t => .cons h (rpAll_rw t)
/-- a tuple made: tracked as it stands, or to the last field -/
def Mk (Q : VK) (H : Hp) (t : Addr) (xs : List V) : Prop := ∀ o : Obj, o.dict = none → ∃ u, (u = HO.tup xs ∨ u = .frz o (.tup xs)) ∧ Q (.ref t) (upd H t u)
theorem newT {vs : List V} {ds : List PyData} (p : Post τ K m S ρ σ H (.d (.tuple ds)) Q) (q : Sim τ K m S ρ σ H) (r : RpAll K H vs ds) (t : Addr) (ht : H t = none) : Mk Q H t vs := fun o ho => by
  cases z : ruly ds with
  | false => exact ⟨_, .inl rfl, p.grown q (upd_keeps ht) (Rp.tup upd_same z (RpAll.mono (upd_kp ht) ds vs r))⟩
  | true => exact ⟨_, .inr rfl, p.grown q (upd_keeps ht) (Rp.tupZ upd_same ho z (RpAll.mono (upd_kp ht) ds vs r))⟩
/-- known not to be rows -/
theorem newTn {vs : List V} {ds : List PyData} (p : Post τ K m S ρ σ H (.d (.tuple ds)) Q) (q : Sim τ K m S ρ σ H) (r : RpAll K H vs ds) (z : ruly ds = false) (t : Addr) (ht : H t = none) : Q (.ref t) (upd H t (.tup vs)) :=
  p.grown q (upd_keeps ht) (Rp.tup upd_same z (RpAll.mono (upd_kp ht) ds vs r))
/-- a new list, locked -/
def Lk (Q : VK) : VK := fun v H1 => ∃ a xs, v = .ref a ∧ H1 a = some (.lst xs) ∧ ∀ o, Q v (upd H1 a (.frz o (.lst xs)))
theorem newL {vs : List V} {ds : List PyData} (p : Post τ K m S ρ σ H (.d (.list ds)) Q) (q : Sim τ K m S ρ σ H) (r : RpAll K H vs ds) (t : Addr) (ht : H t = none) : Lk Q (.ref t) (upd H t (.lst vs)) := by
  refine ⟨t, vs, rfl, upd_same, fun o => ?_⟩
  rw [upd_upd]
  exact p.grown q (upd_keeps ht) (Rp.lst (.inl ⟨o, upd_same⟩) (RpAll.mono (upd_kp ht) ds vs r))
/-- a new object of the store -/
theorem newB {vs : List V} {ws : List W} (p : Post τ K m (S ++ [.lst ws]) ρ σ H (.loc S.length) Q) (q : Sim τ K m S ρ σ H) (r : Paired (RW τ K m H) vs ws) (t : Addr) (ht : H t = none) : Q (.ref t) (upd H t (.lst vs)) := by
  refine p [t] _ _ (fun a h => by simp at h; subst h; exact ht) (q.push (upd_keeps ht) ht ⟨vs, upd_same, pRW.mono r (upd_kp ht)⟩) (Fr.of (upd_keeps ht)) ⟨t, ?_, rfl⟩
  rw [← q.len, List.getElem?_append_right (Nat.le_refl _)]; simp
end
section
variable {X : Cx} {e a b : Expr} {es : List Expr} {pos : Pos}
/-- new lists of an operator, a call, a slice are locked -/
theorem opFrz {f : Value → Value → Sem Value} {r : R2} (h : OpR X f r) : OpR X f fun x y H Q => r x y H (Lk Q) := by
  intro pins s σ H x y v u Q I rx ry q
  refine thn (h pins s σ H x y v u _ I rx ry q) fun z s1 ⟨v, H1, I1, r, a, xs, e, hl, q1⟩ => ?_
  obtain ⟨o, I2⟩ := I1.lock hl trivial
  exact ⟨v, _, I2, r, q1 o⟩
theorem callFrz {f : Value} {r : List V → Hp → VK → Prop} (h : CallR X f r) : CallR X f fun xs H Q => r xs H (Lk Q) := by
  intro pins s σ H vs us Q I rx q
  refine thn (h pins s σ H vs us _ I rx q) fun z s1 ⟨v, H1, I1, r, a, xs, e, hl, q1⟩ => ?_
  obtain ⟨o, I2⟩ := I1.lock hl trivial
  exact ⟨v, _, I2, r, q1 o⟩
theorem slFrz {r : V → Option Int → Option Int → Hp → VK → Prop} (h : SlR X r) : SlR X fun x lo hi H Q => r x lo hi H (Lk Q) := by
  intro pins s σ H x v vl vu lo hi sl Q I rx h1 h2 h3 q
  obtain ⟨T, id, e1, e2, run⟩ := h pins s σ H x v vl vu lo hi sl _ I rx h1 h2 h3 q
  refine ⟨T, id, e1, e2, thn run fun z s1 ⟨v, H1, I1, r, a, xs, e, hl, q1⟩ => ?_⟩
  obtain ⟨o, I2⟩ := I1.lock hl trivial
  exact ⟨v, _, I2, r, q1 o⟩
end
def mVar (i : Nat) : ME := fun ρ S => match ρ[i]? with
  | some (some w) => some (w, S)
  | _ => none
def mC (x : PyData) : ME := fun _ S => some (.d x, S)
section
variable {X : Cx} {e a b : Expr} {es : List Expr} {pos : Pos} {A B : ME} {R : MA}
theorem rd_var {i : Nat} {σ : L2.St} {H : Hp} {Q : VK} (h : rdE τ X.K (mVar i) σ H Q) : tVar i σ H Q := by
  obtain ⟨m, S, ρ, w, S', q, e, p⟩ := h
  unfold mVar at e
  split at e
  · rename_i w' e1
    cases e
    obtain ⟨v, h1, r⟩ := q.slot i _ e1
    exact ⟨v, h1, p.now q r⟩
  · cases e
theorem de_var (h : PE X e (tVar i)) : PE X e (rdE τ X.K (mVar i)) := wkE h fun σ H Q q => rd_var q
theorem rd_c {x : PyData} {v : V} {K : PySem.W.Frag} {σ : L2.St} {H : Hp} {Q : VK} (r : ∀ H, Rp K H v x) (h : rdE τ K (mC x) σ H Q) : Q v H := by
  obtain ⟨m, S, ρ, w, S', q, e, p⟩ := h
  cases e
  exact p.now q (r H)
theorem de_int {i : Int} {j} : PE X (.Constant (.int i) j pos) (rdE τ X.K (mC (.int i))) := wkE pe_int fun _ _ _ q => rd_c (fun _ => .int i) q
theorem de_bl {i : Bool} {j} : PE X (.Constant (.bool i) j pos) (rdE τ X.K (mC (.bool i))) := wkE pe_bl fun _ _ _ q => rd_c (fun _ => .bl i) q
theorem de_non {j} : PE X (.Constant .none j pos) (rdE τ X.K (mC .none)) := wkE pe_non fun _ _ _ q => rd_c (fun _ => .non) q
theorem de_str {x : Str} {j} : PE X (.Constant (.str x) j pos) (rdE τ X.K (mC (.str x))) := wkE pe_str fun _ _ _ q => rd_c (fun _ => .str x) q
def mNil : MA := fun _ S => some ([], S)
def mCons (A : ME) (R : MA) : MA := fun ρ S => (A ρ S).bind fun p => (R ρ p.2).bind fun q => some (p.1 :: q.1, q.2)
theorem da_nil : PA X [] (rdA τ X.K mNil) := wkA pa_nil fun σ H Q q => by
  obtain ⟨m, S, ρ, w, S', q, e, p⟩ := q
  cases e
  exact p.now q .nil
theorem da_cons (ha : PE X e (rdE τ X.K A)) (hr : PA X es (rdA τ X.K R)) (hs : starEach (e :: es) X.env = (false, eval e X.env) :: starEach es X.env := by rfl) : PA X (e :: es) (rdA τ X.K (mCons A R)) :=
  wkA (pa_cons ha hr hs) fun σ H Q q => by
    obtain ⟨m, S, ρ, w, S', q, e, p⟩ := q
    obtain ⟨⟨wx, S1⟩, e1, e2⟩ := Option.bind_eq_some_iff.mp e
    obtain ⟨⟨ws, S2⟩, e3, e4⟩ := Option.bind_eq_some_iff.mp e2
    cases e4
    refine ⟨m, S, ρ, wx, S1, q, e1, fun ext H1 x f q1 fr r => ⟨m ++ ext, S1, ρ, ws, _, q1, e3, fun ext2 H2 xs f2 q2 fr2 r2 => ?_⟩⟩
    refine (p.at f q1 fr) ext2 H2 (x :: xs) f2 q2 fr2 (.cons (r.mono fr2.kp) r2)
/-- what comes of a list of values -/
def rC (τ : Tbs) (K : PySem.W.Frag) (f : List W → Sto → Option (W × Sto)) : List V → Hp → VK → Prop := fun vs H Q =>
  ∃ m S ρ σ ws w S', Sim τ K m S ρ σ H ∧ Paired (RW τ K m H) vs ws ∧ f ws S = some (w, S') ∧ Post τ K m S' ρ σ H w Q
def mCall (f : List W → Sto → Option (W × Sto)) (R : MA) : ME := fun ρ S => (R ρ S).bind fun p => f p.1 p.2
theorem callE {K : PySem.W.Frag} {f : List W → Sto → Option (W × Sto)} {σ : L2.St} {H : Hp} {Q : VK} {Q' : List V → Hp → Prop} (h : rdE τ K (mCall f R) σ H Q) (hq : ∀ vs H1, rC τ K f vs H1 Q → Q' vs H1) : rdA τ K R σ H Q' := by
  obtain ⟨m, S, ρ, w, S', q, e, p⟩ := h
  obtain ⟨⟨ws, S1⟩, e1, e2⟩ := Option.bind_eq_some_iff.mp e
  exact ⟨m, S, ρ, ws, S1, q, e1, fun ext H1 vs f q1 fr r => hq _ _ ⟨m ++ ext, S1, ρ, σ, ws, w, S', q1, r, e2, p.at f q1 fr⟩⟩
def tupF : List W → Sto → Option (W × Sto) := fun ws S => (allD ws).bind fun ds => if ds.length ≤ sizeLine then some (.d (.tuple ds), S) else none
def lstF : List W → Sto → Option (W × Sto) := fun ws S => (allD ws).bind fun ds => if ds.length ≤ sizeLine then some (.d (.list ds), S) else none
def lstB : List W → Sto → Option (W × Sto) := fun ws S => if ws.length ≤ sizeLine then some (.loc S.length, S ++ [.lst ws]) else none
/-- what was laid at the heap's end, a tuple -/
theorem laidT {X : Cx} {pins : List (Addr × Obj)} {σ : L2.St} {H : Hp} {s : Shared} {Q : VK} {xs : List V} {its : List Value} {ob : Obj} (I : Inv X pins σ H s) (hc : ob.cls = .type "tuple") (hd : ob.dict = none) (hdat : ∃ n, ob.data = .seq its.toArray n) (hf : ob.isFreed = false) (r : Vals xs its) (z : xs.length ≤ sizeLine)
    (q : ∀ t, H t = none → Mk Q H t xs) : EP X pins σ Q (.ref s.heap.objs.size) { s with heap := s.heap.push ob } := by
  obtain ⟨u, hu, q1⟩ := q _ (I.hok.fresh (Nat.le_refl _)) ob hd
  refine ⟨.ref s.heap.objs.size, upd H s.heap.objs.size u, I.laid (t' := s.toks) (fun b u e => Heap.get?_push_of_some _ e) (Nat.le_refl _) ?_, rfl, q1⟩
  have hi : IsTup (s.heap.push ob) s.heap.objs.size its.toArray := ⟨ob, Heap.get?_push_size _ hf, hc, hdat⟩
  rcases hu with rfl | rfl
  · exact ⟨z, its, r, hi⟩
  · exact ⟨Heap.get?_push_size _ hf, z, its, r, hi⟩
def tTupU (t : TA) : TE := fun σ H Q => t σ H fun xs H1 => xs.length ≤ sizeLine ∧ ∀ p, H1 p = none → Mk Q H1 p xs
theorem pe_tupU {X : Cx} {es : List Expr} {t : TA} {pos : Pos} {x1} (h : PA X es t) : PE X (.Tuple es x1 pos) (tTupU t) := by
  refine ⟨fun pins s σ H Q I hq => ?_⟩
  refine wpAny_Tuple_spliced (thn (h.run pos pins s σ H _ I hq) fun us s1 ⟨xs, H1, I1, r, z, q⟩ => ⟨by rw [← r.length]; exact z, ?_⟩)
  exact laidT I1 rfl rfl ⟨_, rfl⟩ rfl r z q
theorem de_tup {x1} (h : PA X es (rdA τ X.K R)) : PE X (.Tuple es x1 pos) (rdE τ X.K (mCall tupF R)) := wkE (pe_tupU h) fun σ H Q q => callE q fun vs H1 q => by
  obtain ⟨m, S, ρ, σ, ws, w, S', q, r, e, p⟩ := q
  obtain ⟨ds, e1, e2⟩ := Option.bind_eq_some_iff.mp e
  split at e2
  · rename_i hl
    cases e2
    have r1 := allD_of e1 r
    exact ⟨by rw [r1.length]; exact hl, fun t ht => newT p q r1 t ht⟩
  · cases e2
theorem de_lst (h : PA X es (rdA τ X.K R)) : PE X (.List es pos) (rdE τ X.K (mCall lstF R)) := wkE (peFrz (pe_lst h)) fun σ H Q q => callE q fun vs H1 q => by
  obtain ⟨m, S, ρ, σ, ws, w, S', q, r, e, p⟩ := q
  obtain ⟨ds, e1, e2⟩ := Option.bind_eq_some_iff.mp e
  split at e2
  · rename_i hl
    cases e2
    have r1 := allD_of e1 r
    exact ⟨by rw [r1.length]; exact hl, fun t ht => newL p q r1 t ht⟩
  · cases e2
theorem de_lstB (h : PA X es (rdA τ X.K R)) : PE X (.List es pos) (rdE τ X.K (mCall lstB R)) := wkE (pe_lst h) fun σ H Q q => callE q fun vs H1 q => by
  obtain ⟨m, S, ρ, σ, ws, w, S', q, r, e, p⟩ := q
  unfold lstB at e
  split at e
  · rename_i hl
    cases e
    exact ⟨by rw [r.length]; exact hl, fun t ht => newB p q r t ht⟩
  · cases e
end
section
variable {X : Cx} {e a b : Expr} {es : List Expr} {pos : Pos} {A B : ME} {R : MA} {K : PySem.W.Frag} {H : Hp} {v : V}
theorem de_bin {op : Operator} {f : W → W → Sto → Option (W × Sto)} (ho : OpR X (binaryOp op) (rOp τ X.K f)) (ha : PE X a (rdE τ X.K A)) (hb : PE X b (rdE τ X.K B)) : PE X (.BinOp a op b pos) (rdE τ X.K (mBin f A B)) :=
  wkE (pe_op ho ha hb) fun σ H Q q => binE q
theorem de_cmp {op : CmpOp} {f : W → W → Sto → Option (W × Sto)} (ho : OpR X (compareOp op) (rOp τ X.K f)) (ha : PE X a (rdE τ X.K A)) (hb : PE X b (rdE τ X.K B)) (hm : behindInMarks op b = false := by first | exact nomark _ | rfl) : PE X (.Compare a [op] [b] pos) (rdE τ X.K (mBin f A B)) :=
  wkE (pe_cmpR ho ha hb hm) fun σ H Q q => binE q
theorem rp_int {x : V} {i : Int} (h : Rp K H x (.int i)) : x = .int i := by cases h; rfl
theorem rp_str {x : V} {i : Str} (h : Rp K H x (.str i)) : x = .str i := by cases h; rfl
theorem rp_bl {x : V} {i : Bool} (h : Rp K H x (.bool i)) : x = .bl i := by cases h; rfl
theorem rp_non {x : V} (h : Rp K H x .none) : x = .non := by cases h; rfl
theorem rp_tup {x : V} {ds : List PyData} (h : Rp K H x (.tuple ds)) : ∃ a xs, x = .ref a ∧ SqT K H a xs ∧ RpAll K H xs ds := by
  cases h with
  | tup h1 _ h2 => exact ⟨_, _, rfl, .inl (.inl h1), h2⟩
  | tupZ h1 _ _ h2 => exact ⟨_, _, rfl, .inl (.inr ⟨_, h1⟩), h2⟩
theorem rp_tupH {x : V} {ds : List PyData} (h : Rp K H x (.tuple ds)) (hr : ruly ds = false) : ∃ a xs, x = .ref a ∧ H a = some (.tup xs) ∧ RpAll K H xs ds := by
  cases h with
  | tup h1 _ h2 => exact ⟨_, _, rfl, h1, h2⟩
  | tupZ _ _ z _ => rw [hr] at z; cases z
theorem rp_lst {x : V} {ds : List PyData} (h : Rp K H x (.list ds)) : ∃ a xs, x = .ref a ∧ FzL K H a xs ∧ RpAll K H xs ds := by
  cases h with
  | lst h1 h2 => exact ⟨_, _, rfl, h1, h2⟩
theorem op_catU {X : Cx} : OpR X (binaryOp .Add) (fun x y H Q => ∃ a b xs ys, x = .ref a ∧ y = .ref b ∧ SqT X.K H a xs ∧ SqT X.K H b ys ∧ xs.length + ys.length ≤ sizeLine ∧
  (xs = [] → Q (.ref b) H) ∧ (xs ≠ [] → ys = [] → Q (.ref a) H) ∧ (xs ≠ [] → ys ≠ [] → ∀ p, H p = none → Mk Q H p (xs ++ ys))) := by
  intro pins s σ H x y v u Q I rx ry h
  obtain ⟨a, b, xs, ys, rfl, rfl, ha, hb, hz, q0, q1, q2⟩ := h
  cases rx
  cases ry
  obtain ⟨its, r1, p1, _⟩ := I.tuple ha
  obtain ⟨its2, r2, p2, _⟩ := I.tuple hb
  by_cases hx : xs = []
  · subst hx
    cases r1
    exact cat_tup0 p1 p2 ⟨.ref b, H, I, rfl, q0 rfl⟩
  · refine HT.cat_tup p1 p2 (fun z => hx (r1.nil_iff.mp z)) (fun z => ⟨.ref a, H, I, rfl, q1 hx (r2.nil_iff.mp z)⟩) (fun z => ?_) (by rw [← r1.length, ← r2.length]; exact hz)
    exact laidT (I := I) rfl rfl ⟨_, rfl⟩ rfl (r1.append r2) (by rw [List.length_append]; exact hz) (q2 hx fun w => z (r2.nil_iff.mpr w))
/-- + of ints, texts, tuples -/
def addD : W → W → Sto → Option (W × Sto)
  | .d (.int i), .d (.int j), S => some (.d (.int (i + j)), S)
  | .d (.str i), .d (.str j), S => if i.length + j.length ≤ sizeLine then some (.d (.str (i ++ j)), S) else none
  | .d (.tuple i), .d (.tuple j), S => if i.length + j.length ≤ sizeLine then some (.d (.tuple (i ++ j)), S) else none
  | _, _, _ => none
theorem op_addD : OpR X (binaryOp .Add) (rOp τ X.K addD) := by
  intro pins s σ H x y v u Q I rx ry h
  obtain ⟨m, S, ρ, σ', wx, wy, w, S', q, hx, hy, e, p⟩ := h
  unfold addD at e
  split at e
  · cases e
    obtain rfl := rp_int hx
    obtain rfl := rp_int hy
    exact op_add pins s σ H _ _ v u Q I rx ry ⟨_, _, rfl, rfl, p.now q (.int _)⟩
  · split at e
    · rename_i hl
      cases e
      obtain rfl := rp_str hx
      obtain rfl := rp_str hy
      exact op_add_str pins s σ H _ _ v u Q I rx ry ⟨_, _, rfl, rfl, hl, p.now q (.str _)⟩
    · cases e
  · split at e
    · rename_i ds es _ hl
      cases e
      obtain ⟨a, xs, rfl, h1, r1⟩ := rp_tup hx
      obtain ⟨b, ys, rfl, h2, r2⟩ := rp_tup hy
      refine op_catU pins s σ H _ _ v u Q I rx ry ⟨a, b, xs, ys, rfl, rfl, h1, h2, by rw [r1.length, r2.length]; exact hl, ?_⟩
      refine ⟨fun e => ?_, fun e1 e2 => ?_, fun _ _ t ht => newT p q (r1.append r2) t ht⟩
      · subst e
        cases r1
        exact p.now q (by simpa using hy)
      · subst e2
        cases r2
        exact p.now q (by simpa using hx)
    · cases e
  · cases e
/-- an operator on ints -/
def iiD (c : Int → Int → Bool) (g : Int → Int → PyData) : W → W → Sto → Option (W × Sto)
  | .d (.int i), .d (.int j), S => if c i j = true then some (.d (g i j), S) else none
  | _, _, _ => none
theorem iiD_of {f : Value → Value → Sem Value} {C : Int → Int → Prop} {c : Int → Int → Bool} {g : Int → Int → PyData} {gv : Int → Int → V} (h : OpR X f (rI C gv)) (hc : ∀ i j, c i j = true → C i j) (hg : ∀ i j H, Rp X.K H (gv i j) (g i j)) : OpR X f (rOp τ X.K (iiD c g)) := by
  intro pins s σ H x y v u Q I rx ry h2
  obtain ⟨m, S, ρ, σ', wx, wy, w, S', q, hx, hy, e, p⟩ := h2
  unfold iiD at e
  split at e
  · split at e
    · rename_i hl
      cases e
      obtain rfl := rp_int hx
      obtain rfl := rp_int hy
      exact h pins s σ H _ _ v u Q I rx ry ⟨_, _, rfl, rfl, hc _ _ hl, p.now q (hg _ _ _)⟩
    · cases e
  · cases e
theorem rI_of0 {f : Value → Value → Sem Value} {gv : Int → Int → V} (h : OpR X f (rI0 gv)) : OpR X f (rI (fun _ _ => True) gv) := by
  intro pins s σ H x y v u Q I rx ry ⟨i, j, e1, e2, _, q⟩
  exact h pins s σ H x y v u Q I rx ry ⟨i, j, e1, e2, q⟩
def yes2 : Int → Int → Bool := fun _ _ => true
def subD := iiD yes2 fun i j => .int (i - j)
theorem op_subD : OpR X (binaryOp .Sub) (rOp τ X.K subD) := iiD_of (rI_of0 op_sub) (fun _ _ _ => trivial) fun _ _ _ => .int _
def divOk : Int → Int → Bool := fun _ j => decide (0 < j) && decide (j.natAbs.log2 < 9000)
def fdivD := iiD divOk fun i j => .int (i / j)
theorem op_fdivD : OpR X (binaryOp .FloorDiv) (rOp τ X.K fdivD) := iiD_of op_fdivW (fun i j h => by
  simp only [divOk, Bool.and_eq_true, decide_eq_true_eq] at h
  exact h) fun _ _ _ => .int _
def modOk : Int → Int → Bool := fun _ j => decide (0 < j)
def modD := iiD modOk fun i j => .int (i % j)
theorem op_modD : OpR X (binaryOp .Mod) (rOp τ X.K modD) := iiD_of op_mod (fun i j h => by simpa [modOk] using h) fun _ _ _ => .int _
def powOk : Int → Int → Bool := fun i j => decide (0 ≤ j) && decide (j ≤ 1000000) && decide (i.natAbs < 2 ^ 64)
def powD := iiD powOk fun i j => .int (i ^ j.toNat)
theorem op_powD : OpR X (binaryOp .Pow) (rOp τ X.K powD) := iiD_of op_pow (fun i j h => by
  simp only [powOk, Bool.and_eq_true, decide_eq_true_eq] at h
  exact ⟨h.1.1, h.1.2, h.2⟩) fun _ _ _ => .int _
/-- * of ints, of a tuple and an int -/
def mulD : W → W → Sto → Option (W × Sto)
  | .d (.int i), .d (.int j), S => @ite _ (i.natAbs.log2 + j.natAbs.log2 < 1000000) (gd _) (some (.d (.int (i * j)), S)) none
  | .d (.tuple i), .d (.int k), S => @ite _ (i ≠ [] ∧ 2 ≤ k ∧ k ≤ 1000 ∧ i.length ≤ 1000 ∧ ruly (List.replicate k.toNat i).flatten = false) (gd _) (some (.d (.tuple (List.replicate k.toNat i).flatten), S)) none
  | _, _, _ => none
theorem rpAll_rep {K : PySem.W.Frag} {H : Hp} {xs : List V} {ds : List PyData} (h : RpAll K H xs ds) : ∀ n : Nat, RpAll K H (List.replicate n xs).flatten (List.replicate n ds).flatten
  | 0 => .nil
  | n + 1 => by
    rw [List.replicate_succ, List.replicate_succ, List.flatten_cons, List.flatten_cons]
    exact h.append (rpAll_rep h n)
theorem op_mulD : OpR X (binaryOp .Mult) (rOp τ X.K mulD) := by
  intro pins s σ H x y v u Q I rx ry h
  obtain ⟨m, S, ρ, σ', wx, wy, w, S', q, hx, hy, e, p⟩ := h
  unfold mulD at e
  split at e
  · split at e
    · rename_i hl
      cases e
      obtain rfl := rp_int hx
      obtain rfl := rp_int hy
      exact op_mulW pins s σ H _ _ v u Q I rx ry ⟨_, _, rfl, rfl, hl, p.now q (.int _)⟩
    · cases e
  · split at e
    · rename_i hl
      cases e
      obtain ⟨a, xs, rfl, h1, r1⟩ := rp_tup hx
      obtain rfl := rp_int hy
      refine op_repT pins s σ H _ _ v u Q I rx ry ⟨a, _, xs, rfl, rfl, h1, fun e => ?_, hl.2.1, hl.2.2.1, by rw [r1.length]; exact hl.2.2.2.1, fun t ht => newTn p q (rpAll_rep r1 _) hl.2.2.2.2 t ht⟩
      subst e
      cases r1
      exact hl.1 rfl
    · cases e
  · cases e
/-- comparisons of ints -/
def cmpI (g : Int → Int → Bool) := iiD yes2 fun i j => .bool (g i j)
theorem op_cmpI {op : CmpOp} {g : Int → Int → Bool} (h : OpR X (compareOp op) (rI0 fun i j => .bl (g i j))) : OpR X (compareOp op) (rOp τ X.K (cmpI g)) := iiD_of (rI_of0 h) (fun _ _ _ => trivial) fun _ _ _ => .bl _
def deref (S : Sto) : W → Option PyData
  | .d x => some x
  | .loc n => match S[n]? with
    | some (.lst ws) => (allD ws).map .list
    | _ => none
  | .fn => none
theorem RpAll.dpAll {K : PySem.W.Frag} {H : Hp} {ds : List PyData} {vs : List V} (z : PyData.hasDictAll ds = false) (h : RpAll K H vs ds) : DpAll K H vs ds := RpAll.dp ds vs z h
theorem hd_shaped {d : PyData} (h : SeqAt.shaped d = true) : d.hasDict = false := by
  simp only [SeqAt.shaped, Bool.and_eq_true] at h
  exact PyData.hasDict_of_canLay d h.1
theorem deref_dp {K : PySem.W.Frag} {m : List Addr} {S : Sto} {ρ : DEnv} {σ : L2.St} {H : Hp} {v : V} {w : W} {d : PyData} (q : Sim τ K m S ρ σ H) (r : RW τ K m H v w) (z : d.hasDict = false) (e : deref S w = some d) : Dp K H v d := by
  cases w with
  | d x => cases e; exact Rp.dp _ _ z r
  | loc n =>
    obtain ⟨a, h, rfl⟩ := r
    simp only [deref] at e
    split at e
    · rename_i ws hs
      obtain ⟨ds, e1, rfl⟩ := Option.map_eq_some_iff.mp e
      obtain ⟨b, hb, vs, hv, pr⟩ := q.obs n _ hs
      rw [h] at hb; cases hb
      exact .lst (.of hv) ((allD_of e1 pr).dpAll (by simpa [PyData.hasDict] using z))
    · cases e
  | fn => cases e
def eqD (neg : Bool) : W → W → Sto → Option (W × Sto) := fun x y S => (deref S x).bind fun d => (deref S y).bind fun e =>
  if SeqAt.shaped d && SeqAt.shaped e then some (.d (.bool (PyData.eqv d e ^^ neg)), S) else none
theorem op_eqDD (hu : X.A.units + 64 < cLine) : OpR X (compareOp .Eq) (rOp τ X.K (eqD false)) := by
  intro pins s σ H x y v u Q I rx ry h
  obtain ⟨m, S, ρ, σ', wx, wy, w, S', q, hx, hy, e, p⟩ := h
  obtain ⟨d, e1, e⟩ := Option.bind_eq_some_iff.mp e
  obtain ⟨d2, e2, e⟩ := Option.bind_eq_some_iff.mp e
  split at e
  · rename_i hs
    simp only [Bool.and_eq_true] at hs
    cases e
    refine op_eqD hu pins s σ H x y v u Q I rx ry ⟨d, d2, deref_dp q hx (hd_shaped hs.1) e1, deref_dp q hy (hd_shaped hs.2) e2, hs.1, hs.2, ?_⟩
    have := p.now q (v := .bl (PyData.eqv d d2)) (by rw [Bool.xor_false]; exact .bl _)
    exact this
  · cases e
theorem op_neDD (hu : X.A.units + 64 < cLine) : OpR X (compareOp .NotEq) (rOp τ X.K (eqD true)) := by
  intro pins s σ H x y v u Q I rx ry h
  obtain ⟨m, S, ρ, σ', wx, wy, w, S', q, hx, hy, e, p⟩ := h
  obtain ⟨d, e1, e⟩ := Option.bind_eq_some_iff.mp e
  obtain ⟨d2, e2, e⟩ := Option.bind_eq_some_iff.mp e
  split at e
  · rename_i hs
    simp only [Bool.and_eq_true] at hs
    cases e
    refine op_neD hu pins s σ H x y v u Q I rx ry ⟨d, d2, deref_dp q hx (hd_shaped hs.1) e1, deref_dp q hy (hd_shaped hs.2) e2, hs.1, hs.2, ?_⟩
    have := p.now q (v := .bl (!PyData.eqv d d2)) (by rw [Bool.xor_true]; exact .bl _)
    exact this
  · cases e
/-- is None, is not None -/
def isNon : PyData → Bool
  | .none => true
  | _ => false
def isND (neg : Bool) : W → W → Sto → Option (W × Sto)
  | .d x, .d .none, S => some (.d (.bool (isNon x ^^ neg)), S)
  | .loc _, .d .none, S => some (.d (.bool neg), S)
  | _, _, _ => none
/-- -a -/
def mNeg (A : ME) : ME := fun ρ S => (A ρ S).bind fun p => match p.1 with
  | .d (.int i) => some (.d (.int (-i)), p.2)
  | _ => none
theorem de_neg (ha : PE X a (rdE τ X.K A)) : PE X (.UnaryOp .USub a pos) (rdE τ X.K (mNeg A)) := wkE (pe_un un_neg ha) fun σ H Q q => by
  obtain ⟨m, S, ρ, w, S', q, e, p⟩ := q
  obtain ⟨⟨wx, S1⟩, e1, e2⟩ := Option.bind_eq_some_iff.mp e
  refine ⟨m, S, ρ, wx, S1, q, e1, fun ext H1 x f q1 fr r => ?_⟩
  simp only at e2
  split at e2
  · cases e2
    obtain rfl := rp_int r
    exact ⟨_, rfl, (p.at f q1 fr).now q1 (.int _)⟩
  · cases e2
end
end DL
end
noncomputable section
namespace DL
open PySem PySem.Spec PyProof.Rows L2
def tOf (A : ME) : MT := fun ρ S => (A ρ S).bind fun p => match p.1 with
  | .d (.bool b) => some (b, p.2)
  | _ => none
def tNotD (A : MT) : MT := fun ρ S => (A ρ S).bind fun p => some (!p.1, p.2)
def tAndD (A B : MT) : MT := fun ρ S => (A ρ S).bind fun p => if p.1 = true then B ρ p.2 else some (false, p.2)
def tOrD (A B : MT) : MT := fun ρ S => (A ρ S).bind fun p => if p.1 = true then some (true, p.2) else B ρ p.2
section
variable {K : PySem.W.Frag} {H : Hp} {σ : L2.St} {Q : Bool → Hp → Prop} {A : ME} {T U : MT}
theorem rd_tof (h : rdT τ K (tOf A) σ H Q) : rdE τ K A σ H fun x H1 => ∃ k, x = .bl k ∧ Q k H1 := by
  obtain ⟨m, S, ρ, b, S', q, e, p⟩ := h
  obtain ⟨⟨wx, S1⟩, e1, e2⟩ := Option.bind_eq_some_iff.mp e
  refine ⟨m, S, ρ, wx, S1, q, e1, fun ext H1 x f q1 fr r => ?_⟩
  simp only at e2
  split at e2
  · cases e2
    obtain rfl := rp_bl r
    exact ⟨_, rfl, (p.at f q1 fr).now q1⟩
  · cases e2
theorem rd_not (h : rdT τ K (tNotD T) σ H Q) : rdT τ K T σ H fun c H1 => Q (!c) H1 := by
  obtain ⟨m, S, ρ, b, S', q, e, p⟩ := h
  obtain ⟨⟨c, S1⟩, e1, e2⟩ := Option.bind_eq_some_iff.mp e
  cases e2
  exact ⟨m, S, ρ, c, _, q, e1, p⟩
theorem rd_and (h : rdT τ K (tAndD T U) σ H Q) : rdT τ K T σ H fun c H1 => if c = true then rdT τ K U σ H1 Q else Q false H1 := by
  obtain ⟨m, S, ρ, b, S', q, e, p⟩ := h
  obtain ⟨⟨c, S1⟩, e1, e2⟩ := Option.bind_eq_some_iff.mp e
  refine ⟨m, S, ρ, c, S1, q, e1, fun ext H1 f q1 fr => ?_⟩
  cases c with
  | true => exact ⟨_, S1, ρ, b, S', q1, by simpa using e2, p.at f q1 fr⟩
  | false =>
    simp only [Bool.false_eq_true, if_false] at e2
    cases e2
    exact (p.at f q1 fr).now q1
theorem rd_or (h : rdT τ K (tOrD T U) σ H Q) : rdT τ K T σ H fun c H1 => if c = true then Q true H1 else rdT τ K U σ H1 Q := by
  obtain ⟨m, S, ρ, b, S', q, e, p⟩ := h
  obtain ⟨⟨c, S1⟩, e1, e2⟩ := Option.bind_eq_some_iff.mp e
  refine ⟨m, S, ρ, c, S1, q, e1, fun ext H1 f q1 fr => ?_⟩
  cases c with
  | false => exact ⟨_, S1, ρ, b, S', q1, by simpa using e2, p.at f q1 fr⟩
  | true =>
    simp only [if_true] at e2
    cases e2
    exact (p.at f q1 fr).now q1
end
section
variable {X : Cx} {e a b c : Expr} {rest es : List Expr} {pos : Pos} {A B C : ME} {T U : MT}
theorem dt_cmp {op : CmpOp} {f : W → W → Sto → Option (W × Sto)} (ho : OpR X (compareOp op) (rOp τ X.K f)) (ha : PE X a (rdE τ X.K A)) (hb : PE X b (rdE τ X.K B)) (hm : behindInMarks op b = false := by first | exact nomark _ | rfl) : PT X (.Compare a [op] [b] pos) (rdT τ X.K (tOf (mBin f A B))) :=
  wkT (pt_cmpR ho ha hb hm) fun σ H Q q => binE (rd_tof q)
theorem dt_not (h : PT X a (rdT τ X.K T)) : PT X (.UnaryOp .Not a pos) (rdT τ X.K (tNotD T)) := wkT (pt_not h) fun σ H Q q => rd_not q
theorem dw_and1 (h : PT X a (rdT τ X.K T)) : PW X (.BoolOp .And [a] pos) (rdT τ X.K T) := pw_and1 h
theorem dw_or1 (h : PT X a (rdT τ X.K T)) : PW X (.BoolOp .Or [a] pos) (rdT τ X.K T) := pw_or1 h
theorem dw_and (h : PT X a (rdT τ X.K T)) (h2 : PW X (.BoolOp .And (b :: rest) pos) (rdT τ X.K U)) : PW X (.BoolOp .And (a :: b :: rest) pos) (rdT τ X.K (tAndD T U)) := wkW (pw_and h h2) fun σ H Q q => rd_and q
theorem dw_or (h : PT X a (rdT τ X.K T)) (h2 : PW X (.BoolOp .Or (b :: rest) pos) (rdT τ X.K U)) : PW X (.BoolOp .Or (a :: b :: rest) pos) (rdT τ X.K (tOrD T U)) := wkW (pw_or h h2) fun σ H Q q => rd_or q
/-- truth of any value -/
def truD (S : Sto) : W → Option Bool
  | .d .none => some false
  | .d (.bool b) => some b
  | .d (.int i) => some (i != 0)
  | .d (.str y) => if y.length ≤ sizeLine then some ((y.length : Int) != 0) else none
  | .d (.list ds) => some (!ds.isEmpty)
  | .d (.tuple ds) => some (!ds.isEmpty)
  | .d (.dict _) => none
  | .loc n => match S[n]? with
    | some (.lst ws) => some (!ws.isEmpty)
    | some (.dicK kvs) => some (!kvs.isEmpty)
    | _ => none
  | .fn => none
def tTru (A : ME) : MT := fun ρ S => (A ρ S).bind fun p => (truD p.2 p.1).bind fun b => some (b, p.2)
theorem paired_empty {α β : Type} {F : α → β → Prop} {xs : List α} {ys : List β} (h : Paired F xs ys) : ys.isEmpty = xs.isEmpty := by cases h <;> rfl
theorem rpAll_empty {K : PySem.W.Frag} {H : Hp} {xs : List V} {ys : List PyData} (h : RpAll K H xs ys) : ys.isEmpty = xs.isEmpty := by cases h <;> rfl
theorem truD_of {K : PySem.W.Frag} {m : List Addr} {S : Sto} {ρ : DEnv} {σ : L2.St} {H : Hp} {v : V} {w : W} {b : Bool} (q : Sim τ K m S ρ σ H) (r : RW τ K m H v w) (e : truD S w = some b) : TruV K v H b := by
  cases w with
  | d x =>
    cases x with
    | none => obtain rfl := rp_non r; cases e; rfl
    | bool b => obtain rfl := rp_bl r; cases e; rfl
    | int i => obtain rfl := rp_int r; cases e; rfl
    | str y =>
      obtain rfl := rp_str r
      simp only [truD] at e
      split at e
      · cases e; exact ⟨by assumption, rfl⟩
      · cases e
    | list ds =>
      obtain ⟨a, xs, rfl, h, r1⟩ := rp_lst r
      cases e
      exact .inl ⟨xs, h.sq, by rw [rpAll_empty r1]⟩
    | tuple ds =>
      obtain ⟨a, xs, rfl, h, r1⟩ := rp_tup r
      cases e
      exact .inr (.inl ⟨xs, h, by rw [rpAll_empty r1]⟩)
    | dict kvs => cases e
  | loc n =>
    obtain ⟨a, h, rfl⟩ := r
    simp only [truD] at e
    split at e
    · rename_i ws hs
      cases e
      obtain ⟨b, hb, vs, hv, pr⟩ := q.obs n _ hs
      rw [h] at hb; cases hb
      exact .inl ⟨vs, .of hv, by rw [paired_empty pr]⟩
    · rename_i ws hs
      cases e
      obtain ⟨b, hb, vs, hv, pr⟩ := q.obs n _ hs
      rw [h] at hb; cases hb
      exact .inr (.inr ⟨vs, hv, by rw [paired_empty pr]⟩)
    · cases e
  | fn => cases e
theorem dt_tru (ha : PE X a (rdE τ X.K A)) (he : ∀ whole, isTrue a X.env whole = (do let v ← whole; standAt a.pos; holding [v] (truthy v)) := by intro _; rfl) : PT X a (rdT τ X.K (tTru A)) :=
  wkT (pt_truth ha he) fun σ H Q q => by
    obtain ⟨m, S, ρ, b, S', q, e, p⟩ := q
    obtain ⟨⟨wx, S1⟩, e1, e2⟩ := Option.bind_eq_some_iff.mp e
    obtain ⟨c, e3, e4⟩ := Option.bind_eq_some_iff.mp e2
    cases e4
    exact ⟨m, S, ρ, wx, _, q, e1, fun ext H1 x f q1 fr r => ⟨_, truD_of q1 r e3, (p.at f q1 fr).now q1⟩⟩
def vAnd (A B : ME) : ME := fun ρ S => (A ρ S).bind fun p => match p.1 with
  | .d (.bool c) => if c = true then B ρ p.2 else some (.d (.bool false), p.2)
  | _ => none
def vOr (A B : ME) : ME := fun ρ S => (A ρ S).bind fun p => match p.1 with
  | .d (.bool c) => if c = true then some (.d (.bool true), p.2) else B ρ p.2
  | _ => none
def vNot (A : ME) : ME := fun ρ S => (A ρ S).bind fun p => match p.1 with
  | .d (.bool c) => some (.d (.bool (!c)), p.2)
  | _ => none
def vIf (T : MT) (A B : ME) : ME := fun ρ S => (T ρ S).bind fun p => if p.1 = true then A ρ p.2 else B ρ p.2
theorem de_and (ha : PE X a (rdE τ X.K A)) (hb : PE X (.BoolOp .And (b :: rest) pos) (rdE τ X.K B)) : PE X (.BoolOp .And (a :: b :: rest) pos) (rdE τ X.K (vAnd A B)) := wkE (pe_and ha hb) fun σ H Q q => by
  obtain ⟨m, S, ρ, w, S', q, e, p⟩ := q
  obtain ⟨⟨wx, S1⟩, e1, e2⟩ := Option.bind_eq_some_iff.mp e
  refine ⟨m, S, ρ, wx, S1, q, e1, fun ext H1 x f q1 fr r => ?_⟩
  simp only at e2
  split at e2
  · rename_i c
    obtain rfl := rp_bl r
    refine ⟨_, rfl, ?_⟩
    cases c with
    | true => exact ⟨_, S1, ρ, w, S', q1, by simpa using e2, p.at f q1 fr⟩
    | false =>
      simp only [Bool.false_eq_true, if_false] at e2
      cases e2
      exact (p.at f q1 fr).now q1 (.bl _)
  · cases e2
theorem de_one {op} (ha : PE X a (rdE τ X.K A)) : PE X (.BoolOp op [a] pos) (rdE τ X.K A) := pe_one ha
theorem de_not (ha : PE X a (rdE τ X.K A)) : PE X (.UnaryOp .Not a pos) (rdE τ X.K (vNot A)) := wkE (pe_not ha) fun σ H Q q => by
  obtain ⟨m, S, ρ, w, S', q, e, p⟩ := q
  obtain ⟨⟨wx, S1⟩, e1, e2⟩ := Option.bind_eq_some_iff.mp e
  refine ⟨m, S, ρ, wx, S1, q, e1, fun ext H1 x f q1 fr r => ?_⟩
  simp only at e2
  split at e2
  · cases e2
    obtain rfl := rp_bl r
    exact ⟨_, rfl, (p.at f q1 fr).now q1 (.bl _)⟩
  · cases e2
theorem de_if (hc : PT X c (rdT τ X.K T)) (ha : PE X a (rdE τ X.K A)) (hb : PE X b (rdE τ X.K B)) : PE X (.IfExp c a b pos) (rdE τ X.K (vIf T A B)) := wkE (pe_ifExp hc ha hb) fun σ H Q q => by
  obtain ⟨m, S, ρ, w, S', q, e, p⟩ := q
  obtain ⟨⟨c, S1⟩, e1, e2⟩ := Option.bind_eq_some_iff.mp e
  refine ⟨m, S, ρ, c, S1, q, e1, fun ext H1 f q1 fr => ?_⟩
  cases c with
  | true => exact ⟨_, S1, ρ, w, S', q1, by simpa using e2, p.at f q1 fr⟩
  | false => exact ⟨_, S1, ρ, w, S', q1, by simpa using e2, p.at f q1 fr⟩
def vChain (f g : W → W → Sto → Option (W × Sto)) (A B C : ME) : ME := fun ρ S => (A ρ S).bind fun p => (B ρ p.2).bind fun q => (f p.1 q.1 q.2).bind fun z => match z.1 with
  | .d (.bool k) => if k = true then (C ρ z.2).bind fun r => g q.1 r.1 r.2 else some (.d (.bool false), z.2)
  | _ => none
theorem rd_chain {f g : W → W → Sto → Option (W × Sto)} {K : PySem.W.Frag} {σ : L2.St} {H : Hp} {Q : VK} (h : rdE τ K (vChain f g A B C) σ H Q) : tChain (rOp τ K f) (rOp τ K g) (rdE τ K A) (rdE τ K B) (rdE τ K C) σ H Q := by
  obtain ⟨m, S, ρ, w, S', q, e, p⟩ := h
  obtain ⟨⟨wx, S1⟩, e1, e⟩ := Option.bind_eq_some_iff.mp e
  obtain ⟨⟨wy, S2⟩, e2, e⟩ := Option.bind_eq_some_iff.mp e
  obtain ⟨⟨wz, S3⟩, e3, e⟩ := Option.bind_eq_some_iff.mp e
  refine ⟨m, S, ρ, wx, S1, q, e1, fun ext H1 x f1 q1 fr1 r1 => ⟨_, S1, ρ, wy, S2, q1, e2, fun ext2 H2 y f2 q2 fr2 r2 => ?_⟩⟩
  have p1 := p.at f1 q1 fr1
  have p2 := p1.at f2 q2 fr2
  refine ⟨_, S2, ρ, σ, wx, wy, wz, S3, q2, r1.mono fr2.kp, r2, e3, fun ext3 H3 z f3 q3 fr3 r3 => ?_⟩
  have p3 := p2.at f3 q3 fr3
  simp only at e
  split at e
  · rename_i k
    obtain rfl := rp_bl r3
    refine ⟨_, rfl, ?_⟩
    cases k with
    | false =>
      simp only [Bool.false_eq_true, if_false] at e
      cases e
      exact p3.now q3 (.bl _)
    | true =>
      simp only [if_true] at e
      obtain ⟨⟨wc, S4⟩, e4, e5⟩ := Option.bind_eq_some_iff.mp e
      exact ⟨_, S3, ρ, wc, S4, q3, e4, fun ext4 H4 z f4 q4 fr4 r4 => ⟨_, S4, ρ, σ, wy, wc, w, S', q4, (r2.mono fr3.kp).mono fr4.kp, r4, e5, p3.at f4 q4 fr4⟩⟩
  · cases e
theorem de_chain {op op' : CmpOp} {f g : W → W → Sto → Option (W × Sto)} (ho : OpR X (compareOp op) (rOp τ X.K f)) (ho' : OpR X (compareOp op') (rOp τ X.K g)) (ha : PE X a (rdE τ X.K A)) (hb : PE X b (rdE τ X.K B)) (hc : PE X c (rdE τ X.K C))
    (hm : lastMarks [op, op'] [b, c] = false := by with_unfolding_all rfl) : PE X (.Compare a [op, op'] [b, c] pos) (rdE τ X.K (vChain f g A B C)) := wkE (pe_chain ho ho' ha hb hc hm) fun σ H Q q => rd_chain q
theorem dt_chain {op op' : CmpOp} {f g : W → W → Sto → Option (W × Sto)} (ho : OpR X (compareOp op) (rOp τ X.K f)) (ho' : OpR X (compareOp op') (rOp τ X.K g)) (ha : PE X a (rdE τ X.K A)) (hb : PE X b (rdE τ X.K B)) (hc : PE X c (rdE τ X.K C))
    (hm : lastMarks [op, op'] [b, c] = false := by with_unfolding_all rfl) : PT X (.Compare a [op, op'] [b, c] pos) (rdT τ X.K (tOf (vChain f g A B C))) := wkT (pt_chain ho ho' ha hb hc hm) fun σ H Q q => rd_chain (rd_tof q)
end
end DL
end
noncomputable section
namespace DL
open PySem PySem.Spec PyProof.Rows L2
section
variable {X : Cx} {e a b c : Expr} {rest es : List Expr} {pos : Pos} {A B C : ME} {T U : MT} {R : MA}
def idxD : W → W → Sto → Option (W × Sto)
  | .d (.list ds), .d (.int i), S => (atI ds i).map fun x => (.d x, S)
  | .d (.tuple ds), .d (.int i), S => (atI ds i).map fun x => (.d x, S)
  | .loc n, .d (.int i), S => match S[n]? with
    | some (.lst ws) => (atI ws i).map fun w => (w, S)
    | _ => none
  | _, _, _ => none
theorem rpAll_at {K : PySem.W.Frag} {H : Hp} {vs : List V} {ds : List PyData} {i : Int} {x : PyData} (r : RpAll K H vs ds) (e : atI ds i = some x) : ∃ v, atI vs i = some v ∧ Rp K H v x := by
  unfold atI at *
  rw [r.length]
  obtain ⟨j, e1, e2⟩ := Option.bind_eq_some_iff.mp e
  obtain ⟨v, h1, h2⟩ := r.get e2
  exact ⟨v, by rw [e1]; exact h1, h2⟩
theorem paired_getR {α β : Type} {F : α → β → Prop} : ∀ {xs : List α} {ys : List β} {i : Nat} {y : β}, Paired F xs ys → ys[i]? = some y → ∃ x, xs[i]? = some x ∧ F x y
  | _, _, _, _, .nil, e => by simp at e
  | _, _, 0, _, .cons r _, e => by simp at e; subst e; exact ⟨_, rfl, r⟩
  | _, _, i + 1, y, .cons _ t, e => by
    obtain ⟨v, h1, h2⟩ := paired_getR (i := i) (y := y) t (by simpa using e)
    exact ⟨v, by simpa using h1, h2⟩
theorem paired_at {α β : Type} {F : α → β → Prop} {vs : List α} {ds : List β} {i : Int} {x : β} (r : Paired F vs ds) (e : atI ds i = some x) : ∃ v, atI vs i = some v ∧ F v x := by
  unfold atI at *
  rw [r.length]
  obtain ⟨j, e1, e2⟩ := Option.bind_eq_some_iff.mp e
  obtain ⟨v, h1, h2⟩ := paired_getR r e2
  exact ⟨v, by rw [e1]; exact h1, h2⟩
theorem ix_D : IxR X (rOp τ X.K idxD) := by
  intro value slice pins s σ H x y v u Q I rx ry h hs
  obtain ⟨m, S, ρ, σ', wx, wy, w, S', q, hx, hy, e, p⟩ := h
  unfold idxD at e
  split at e
  · obtain ⟨z, e1, e2⟩ := Option.map_eq_some_iff.mp e
    cases e2
    obtain ⟨t, xs, rfl, h1, r1⟩ := rp_lst hx
    obtain rfl := rp_int hy
    obtain ⟨v2, h2, r2⟩ := rpAll_at r1 e1
    exact ix_list value slice pins s σ H _ _ v u Q I rx ry ⟨t, xs, _, v2, rfl, rfl, h1.sq, h2, p.now q r2⟩ hs
  · obtain ⟨z, e1, e2⟩ := Option.map_eq_some_iff.mp e
    cases e2
    obtain ⟨t, xs, rfl, h1, r1⟩ := rp_tup hx
    obtain rfl := rp_int hy
    obtain ⟨v2, h2, r2⟩ := rpAll_at r1 e1
    exact ix_tup value slice pins s σ H _ _ v u Q I rx ry ⟨t, xs, _, v2, rfl, rfl, h1, h2, p.now q r2⟩ hs
  · split at e
    · rename_i ws hws
      obtain ⟨z, e1, e2⟩ := Option.map_eq_some_iff.mp e
      cases e2
      obtain ⟨t, ht, rfl⟩ := hx
      obtain rfl := rp_int hy
      obtain ⟨t2, ht2, vs, hv, pr⟩ := q.obs _ _ hws
      rw [ht] at ht2; cases ht2
      obtain ⟨v2, h2, r2⟩ := paired_at pr e1
      exact ix_list value slice pins s σ H _ _ v u Q I rx ry ⟨t, vs, _, v2, rfl, rfl, .of hv, h2, p.now q r2⟩ hs
    · cases e
  · cases e
theorem de_ix (ha : PE X a (rdE τ X.K A)) (hb : PE X b (rdE τ X.K B)) (hs : PlainIx b := by exact fun _ _ => rfl) : PE X (.Subscript a b pos) (rdE τ X.K (mBin idxD A B)) := wkE (pe_ix ix_D ha hb hs) fun σ H Q q => binE q
abbrev MO := DEnv → Sto → Option (Option Int × Sto)
def oNo : MO := fun _ S => some (none, S)
def oYes (A : ME) : MO := fun ρ S => (A ρ S).bind fun p => match p.1 with
  | .d (.int i) => some (some i, p.2)
  | _ => none
def PostO (τ : Tbs) (K : PySem.W.Frag) (m : List Addr) (S' : Sto) (ρ : DEnv) (σ : L2.St) (H : Hp) (o : Option Int) (Q : Option Int → Hp → Prop) : Prop :=
  ∀ ext H', Fresh ext H → Sim τ K (m ++ ext) S' ρ σ H' → Fr m H H' → Q o H'
def rdO (τ : Tbs) (K : PySem.W.Frag) (f : MO) : TO := fun σ H Q => ∃ m S ρ o S', Sim τ K m S ρ σ H ∧ f ρ S = some (o, S') ∧ PostO τ K m S' ρ σ H o Q
theorem do_no : PO X none (rdO τ X.K oNo) := ⟨fun pins s σ H Q I h => po_none.run pins s σ H Q I (by
  obtain ⟨m, S, ρ, o, S', q, e, p⟩ := h
  cases e
  exact p [] H (fun _ h => absurd h (by simp)) (by rwa [List.append_nil]) Fr.refl)⟩
theorem do_yes (ha : PE X a (rdE τ X.K A)) : PO X (some a) (rdO τ X.K (oYes A)) := ⟨fun pins s σ H Q I h => (po_some ha).run pins s σ H Q I (by
  obtain ⟨m, S, ρ, o, S', q, e, p⟩ := h
  obtain ⟨⟨wx, S1⟩, e1, e2⟩ := Option.bind_eq_some_iff.mp e
  refine ⟨m, S, ρ, wx, S1, q, e1, fun ext H1 x f q1 fr r => ?_⟩
  simp only at e2
  split at e2
  · cases e2
    obtain rfl := rp_int r
    exact ⟨_, rfl, p ext H1 f q1 fr⟩
  · cases e2)⟩
def cutD {α : Type} (xs : List α) (lo hi : Option Int) : List α := (xs.drop (HT.sIx xs.length 0 lo)).take (HT.sIx xs.length xs.length hi - HT.sIx xs.length 0 lo)
def sliceD : W → Option Int → Option Int → Sto → Option (W × Sto)
  | .d (.list ds), lo, hi, S => some (.d (.list (cutD ds lo hi)), S)
  | .d (.tuple ds), lo, hi, S => some (.d (.tuple (cutD ds lo hi)), S)
  | .loc n, lo, hi, S => match S[n]? with
    | some (.lst ws) => (allD ws).bind fun ds => some (.d (.list (cutD ds lo hi)), S)
    | _ => none
  | _, _, _, _ => none
def mSl (A : ME) (L U : MO) : ME := fun ρ S => (A ρ S).bind fun p => (L ρ p.2).bind fun l => (U ρ l.2).bind fun u => sliceD p.1 l.1 u.1 u.2
def rSl (τ : Tbs) (K : PySem.W.Frag) : V → Option Int → Option Int → Hp → VK → Prop := fun x lo hi H Q => ∃ m S ρ σ wx w S', Sim τ K m S ρ σ H ∧ RW τ K m H x wx ∧ sliceD wx lo hi S = some (w, S') ∧ Post τ K m S' ρ σ H w Q
theorem rpAll_cut {K : PySem.W.Frag} {H : Hp} {vs : List V} {ds : List PyData} (r : RpAll K H vs ds) (lo hi : Option Int) : RpAll K H (cutV vs lo hi) (cutD ds lo hi) := by
  unfold cutV cutD
  rw [r.length]
  exact (r.drop _).take _
theorem sl_tupU : SlR X (fun x lo hi H Q => ∃ a xs, x = .ref a ∧ SqT X.K H a xs ∧
  (HT.sIx xs.length 0 lo = 0 ∧ HT.sIx xs.length xs.length hi = xs.length → Q (.ref a) H) ∧ (¬ (HT.sIx xs.length 0 lo = 0 ∧ HT.sIx xs.length xs.length hi = xs.length) → ∀ p, H p = none → Mk Q H p (cutV xs lo hi))) := by
  intro pins s σ H x v vl vu lo hi sl Q I rx hs pl pu h
  obtain ⟨a, xs, rfl, hx, q1, q2⟩ := h
  cases rx
  obtain ⟨its, r, ht, hz⟩ := I.tuple hx
  have hlen : its.toArray.size = xs.length := by rw [List.size_toArray]; exact r.length.symm
  refine ⟨"tuple", _, PyProof.Rows.slot_tuple_getitem.lookup, ht.typeIs, ?_⟩
  by_cases hw : HT.sIx xs.length 0 lo = 0 ∧ HT.sIx xs.length xs.length hi = xs.length
  · exact getItem_tuple_whole ht hs pl pu (by rw [hlen]; exact hw) ⟨.ref a, H, I, rfl, q1 hw⟩
  · refine HT.getItem_tuple_cut ht hs pl pu (by rw [hlen]; exact hw) ?_ (by rw [hlen]; exact hz)
    rw [hlen]
    exact laidT (I := I) rfl rfl ⟨_, rfl⟩ rfl ((r.drop (HT.sIx xs.length 0 lo)).take (HT.sIx xs.length xs.length hi - HT.sIx xs.length 0 lo)) (Nat.le_trans (cutV_length xs lo hi) hz) (q2 hw)
theorem sl_D : SlR X (rSl τ X.K) := by
  intro pins s σ H x v vl vu lo hi sl Q I rx hs pl pu h
  obtain ⟨m, S, ρ, σ', wx, w, S', q, hx, e, p⟩ := h
  unfold sliceD at e
  split at e
  · cases e
    obtain ⟨t, xs, rfl, h1, r1⟩ := rp_lst hx
    exact slFrz sl_list pins s σ H _ v vl vu _ _ sl Q I rx hs pl pu ⟨t, xs, rfl, h1.sq, fun t ht => newL p q (rpAll_cut r1 _ _) t ht⟩
  · cases e
    obtain ⟨t, xs, rfl, h1, r1⟩ := rp_tup hx
    refine sl_tupU pins s σ H _ v vl vu _ _ sl Q I rx hs pl pu ⟨t, xs, rfl, h1, fun hw => ?_, fun _ t ht => newT p q (rpAll_cut r1 _ _) t ht⟩
    refine p.now q ?_
    have e : ∀ ds : List PyData, RpAll X.K H xs ds → cutD ds lo hi = ds := fun ds r => by
      unfold cutD
      rw [← r.length, hw.1, hw.2]
      simp [r.length]
    rw [e _ r1]
    exact hx
  · split at e
    · rename_i ws hws
      obtain ⟨ds, e1, e2⟩ := Option.bind_eq_some_iff.mp e
      cases e2
      obtain ⟨t, ht, rfl⟩ := hx
      obtain ⟨t2, ht2, vs, hv, pr⟩ := q.obs _ _ hws
      rw [ht] at ht2; cases ht2
      exact slFrz sl_list pins s σ H _ v vl vu _ _ sl Q I rx hs pl pu ⟨t, vs, rfl, .of hv, fun t ht => newL p q (rpAll_cut (allD_of e1 pr) _ _) t ht⟩
    · cases e
  · cases e
theorem de_sl {lo hi : Option Expr} {p2 : Pos} {L U : MO} (ha : PE X a (rdE τ X.K A)) (hl : PO X lo (rdO τ X.K L)) (hu : PO X hi (rdO τ X.K U)) : PE X (.Subscript a (.Slice lo hi none p2) pos) (rdE τ X.K (mSl A L U)) := wkE (pe_slice sl_D ha hl hu) fun σ H Q q => by
  obtain ⟨m, S, ρ, w, S', q, e, p⟩ := q
  obtain ⟨⟨wx, S1⟩, e1, e⟩ := Option.bind_eq_some_iff.mp e
  obtain ⟨⟨l, S2⟩, e2, e⟩ := Option.bind_eq_some_iff.mp e
  obtain ⟨⟨u, S3⟩, e3, e⟩ := Option.bind_eq_some_iff.mp e
  refine ⟨m, S, ρ, wx, S1, q, e1, fun ext H1 x f1 q1 fr1 r1 => ⟨_, S1, ρ, l, S2, q1, e2, fun ext2 H2 f2 q2 fr2 => ⟨_, S2, ρ, u, S3, q2, e3, fun ext3 H3 f3 q3 fr3 => ?_⟩⟩⟩
  exact ⟨_, S3, ρ, σ, wx, w, S', q3, (r1.mono fr2.kp).mono fr3.kp, e, ((p.at f1 q1 fr1).at f2 q2 fr2).at f3 q3 fr3⟩
theorem de_callB {f : List W → Sto → Option (W × Sto)} {x : Str} {id : String} {p : Pos} (hc : CallR X (.builtin id) (rC τ X.K f)) (hg : Gl X x) (hm : X.mg x = none) (hv : bootBuiltins x = some (.builtin id)) (ha : PA X (e :: es) (rdA τ X.K R)) (hn : x ≠ "__name__" := by decide) (hdb : (x == ("__debug__" : Str)) = false := by decide)
    (he : starEach (e :: es) X.env = (false, eval e X.env) :: starEach es X.env := by rfl) (hpl : (backTo pos (starEach es X.env)).any (·.1) = false := by rfl) : PE X (.Call (.Name x p) (e :: es) [] pos) (rdE τ X.K (mCall f R)) :=
  wkE (pe_callB hc hg hm hv ha hn hdb he hpl) fun σ H Q q => callE q fun _ _ h => h
theorem de_callTy {f : List W → Sto → Option (W × Sto)} {x : Str} {T : String} {p : Pos} (hc : CallR X (.type T) (rC τ X.K f)) (hg : Gl X x) (hm : X.mg x = none) (hv : bootBuiltins x = some (.type T)) (ha : PA X (e :: es) (rdA τ X.K R)) (hn : x ≠ "__name__" := by decide) (hdb : (x == ("__debug__" : Str)) = false := by decide)
    (he : starEach (e :: es) X.env = (false, eval e X.env) :: starEach es X.env := by rfl) (hpl : (backTo pos (starEach es X.env)).any (·.1) = false := by rfl) : PE X (.Call (.Name x p) (e :: es) [] pos) (rdE τ X.K (mCall f R)) :=
  wkE (pe_callTy hc hg hm hv ha hn hdb he hpl) fun σ H Q q => callE q fun _ _ h => h
theorem prd1 {K : PySem.W.Frag} {m : List Addr} {H : Hp} {vs : List V} {w : W} (r : Paired (RW τ K m H) vs [w]) : ∃ v, vs = [v] ∧ RW τ K m H v w := by
  cases r with
  | cons r t => cases t; exact ⟨_, rfl, r⟩
theorem prd2 {K : PySem.W.Frag} {m : List Addr} {H : Hp} {vs : List V} {w w' : W} (r : Paired (RW τ K m H) vs [w, w']) : ∃ v v', vs = [v, v'] ∧ RW τ K m H v w ∧ RW τ K m H v' w' := by
  cases r with
  | cons r t =>
    obtain ⟨v, rfl, r2⟩ := prd1 t
    exact ⟨_, _, rfl, r, r2⟩
/-- one argument -/
def on1 (f : W → Sto → Option (W × Sto)) : List W → Sto → Option (W × Sto)
  | [w], S => f w S
  | _, _ => none
theorem rC1 {K : PySem.W.Frag} {f : W → Sto → Option (W × Sto)} {vs : List V} {H : Hp} {Q : VK} (h : rC τ K (on1 f) vs H Q) : ∃ m S ρ σ w0 w S' v, vs = [v] ∧ Sim τ K m S ρ σ H ∧ RW τ K m H v w0 ∧ f w0 S = some (w, S') ∧ Post τ K m S' ρ σ H w Q := by
  obtain ⟨m, S, ρ, σ, ws, w, S', q, r, e, p⟩ := h
  unfold on1 at e
  split at e
  · obtain ⟨v, rfl, r1⟩ := prd1 r
    exact ⟨m, S, ρ, σ, _, w, S', v, rfl, q, r1, e, p⟩
  · cases e
def len0 (S : Sto) : W → Option Nat
  | .d (.str y) => if y.length ≤ sizeLine then some y.length else none
  | .d (.list ds) => some ds.length
  | .d (.tuple ds) => some ds.length
  | .loc n => match S[n]? with
    | some (.lst ws) => some ws.length
    | _ => none
  | _ => none
def lenD := on1 fun w S => (len0 S w).map fun n => (.d (.int (n : Nat)), S)
theorem call_lenDD : CallR X (.builtin "len") (rC τ X.K lenD) := by
  intro pins s σ H vs us Q I rx h
  obtain ⟨m, S, ρ, σ', w0, w, S', v, rfl, q, r, e, p⟩ := rC1 h
  obtain ⟨n, e1, e2⟩ := Option.map_eq_some_iff.mp e
  cases e2
  refine call_len pins s σ H _ us Q I rx ⟨v, n, rfl, ?_, p.now q (.int _)⟩
  cases w0 with
  | d x =>
    cases x with
    | str y =>
      obtain rfl := rp_str r
      simp only [len0] at e1
      split at e1
      · cases e1; exact ⟨by assumption, rfl⟩
      · cases e1
    | list ds =>
      obtain ⟨a, xs, rfl, h, r1⟩ := rp_lst r
      cases e1
      exact .inl ⟨xs, h.sq, r1.length.symm⟩
    | tuple ds =>
      obtain ⟨a, xs, rfl, h, r1⟩ := rp_tup r
      cases e1
      exact .inr ⟨xs, h, r1.length.symm⟩
    | none => cases e1
    | bool _ => cases e1
    | int _ => cases e1
    | dict _ => cases e1
  | loc n =>
    obtain ⟨a, hm, rfl⟩ := r
    simp only [len0] at e1
    split at e1
    · rename_i ws hs
      cases e1
      obtain ⟨b, hb, vs, hv, pr⟩ := q.obs _ _ hs
      rw [hm] at hb; cases hb
      exact .inl ⟨vs, .of hv, pr.length.symm⟩
    · cases e1
  | fn => cases e1
def intD := on1 fun w S => match w with
  | .d (.int i) => some (.d (.int i), S)
  | .d (.bool b) => some (.d (.int (if b then 1 else 0)), S)
  | _ => none
theorem call_intDD : CallR X (.type "int") (rC τ X.K intD) := by
  intro pins s σ H vs us Q I rx h
  obtain ⟨m, S, ρ, σ', w0, w, S', v, rfl, q, r, e, p⟩ := rC1 h
  split at e
  · cases e
    obtain rfl := rp_int r
    exact call_int1 pins s σ H _ us Q I rx (.inl ⟨_, rfl, p.now q (.int _)⟩)
  · cases e
    obtain rfl := rp_bl r
    exact call_int1 pins s σ H _ us Q I rx (.inr ⟨_, rfl, p.now q (.int _)⟩)
  · cases e
def absD := on1 fun w S => match w with
  | .d (.int i) => some (.d (.int (if i < 0 then -i else i)), S)
  | _ => none
theorem call_absDD : CallR X (.builtin "abs") (rC τ X.K absD) := by
  intro pins s σ H vs us Q I rx h
  obtain ⟨m, S, ρ, σ', w0, w, S', v, rfl, q, r, e, p⟩ := rC1 h
  split at e
  · cases e
    obtain rfl := rp_int r
    exact call_abs pins s σ H _ us Q I rx ⟨_, rfl, p.now q (.int _)⟩
  · cases e
def ii2 (g : Int → Int → Int) : List W → Sto → Option (W × Sto)
  | [.d (.int i), .d (.int j)], S => some (.d (.int (g i j)), S)
  | _, _ => none
/-- tuple(x) -/
def tupleD := on1 fun w S => match w with
  | .d (.tuple ds) => some (.d (.tuple ds), S)
  | w => (deref S w).bind fun d => match d with
    | .list ds => some (.d (.tuple ds), S)
    | _ => none
theorem deref_list {K : PySem.W.Frag} {m : List Addr} {S : Sto} {ρ : DEnv} {σ : L2.St} {H : Hp} {v : V} {w : W} {ds : List PyData} (q : Sim τ K m S ρ σ H) (r : RW τ K m H v w) (e : deref S w = some (.list ds)) : ∃ a xs, v = .ref a ∧ SqL K H a xs ∧ RpAll K H xs ds := by
  cases w with
  | d x =>
    cases e
    obtain ⟨a, xs, rfl, h, r1⟩ := rp_lst r
    exact ⟨a, xs, rfl, h.sq, r1⟩
  | loc n =>
    obtain ⟨a, h, rfl⟩ := r
    simp only [deref] at e
    split at e
    · rename_i ws hs
      obtain ⟨ds, e1, e2⟩ := Option.map_eq_some_iff.mp e
      cases e2
      obtain ⟨b, hb, vs, hv, pr⟩ := q.obs n _ hs
      rw [h] at hb; cases hb
      exact ⟨a, vs, rfl, .of hv, allD_of e1 pr⟩
    · cases e
  | fn => cases e
theorem call_tupleU : CallR X (.type "tuple") (fun xs H Q => ∃ p ys, xs = [.ref p] ∧ SqL X.K H p ys ∧ ∀ l, H l = none → Mk Q H l ys) := by
  intro pins s σ H xs us Q I r h
  obtain ⟨p, ys, rfl, hq, q⟩ := h
  obtain ⟨u, rfl, rx⟩ := vals1 r
  cases rx
  obtain ⟨its, r', pl, hz⟩ := I.list hq
  have hlen := r'.length
  refine call_tuple_list pl.isList (fun h' kp => ?_) (by simp only [List.size_toArray] <;> omega)
  exact laidT (I := I.kept (t' := s.toks) kp) rfl rfl ⟨_, rfl⟩ rfl r' hz q
theorem call_tupleDD : CallR X (.type "tuple") (rC τ X.K tupleD) := by
  intro pins s σ H vs us Q I rx h
  obtain ⟨m, S, ρ, σ', w0, w, S', v, rfl, q, r, e, p⟩ := rC1 h
  split at e
  · cases e
    obtain ⟨a, xs, rfl, h, r1⟩ := rp_tup r
    exact call_tuple_of pins s σ H _ us Q I rx ⟨a, xs, rfl, .inr ⟨h, p.now q r⟩⟩
  · obtain ⟨d, e1, e2⟩ := Option.bind_eq_some_iff.mp e
    split at e2
    · cases e2
      obtain ⟨a, xs, rfl, h, r1⟩ := deref_list q r e1
      exact call_tupleU pins s σ H _ us Q I rx ⟨a, xs, rfl, h, fun t ht => newT p q r1 t ht⟩
    · cases e2
/-- list(x): a new list, locked, or an object -/
def seqOf (S : Sto) : W → Option (List PyData)
  | .d (.tuple ds) => some ds
  | w => (deref S w).bind fun d => match d with
    | .list ds => some ds
    | _ => none
theorem seqOf_of {K : PySem.W.Frag} {m : List Addr} {S : Sto} {ρ : DEnv} {σ : L2.St} {H : Hp} {v : V} {w : W} {ds : List PyData} (q : Sim τ K m S ρ σ H) (r : RW τ K m H v w) (e : seqOf S w = some ds) : ∃ a xs, v = .ref a ∧ (SqL K H a xs ∨ SqT K H a xs) ∧ RpAll K H xs ds := by
  unfold seqOf at e
  split at e
  · cases e
    obtain ⟨a, xs, rfl, h, r1⟩ := rp_tup r
    exact ⟨a, xs, rfl, .inr h, r1⟩
  · obtain ⟨d, e1, e2⟩ := Option.bind_eq_some_iff.mp e
    split at e2
    · cases e2
      obtain ⟨a, xs, rfl, h, r1⟩ := deref_list q r e1
      exact ⟨a, xs, rfl, .inl h, r1⟩
    · cases e2
def listD := on1 fun w S => (seqOf S w).map fun ds => (.d (.list ds), S)
def listB := on1 fun w S => (seqOf S w).map fun ds => (.loc S.length, S ++ [.lst (ds.map W.d)])
theorem call_listBB : CallR X (.type "list") (rC τ X.K listB) := by
  intro pins s σ H vs us Q I rx h
  obtain ⟨m, S, ρ, σ', w0, w, S', v, rfl, q, r, e, p⟩ := rC1 h
  obtain ⟨ds, e1, e2⟩ := Option.map_eq_some_iff.mp e
  cases e2
  obtain ⟨a, xs, rfl, h, r1⟩ := seqOf_of q r e1
  exact call_list_of pins s σ H _ us Q I rx ⟨a, xs, rfl, h, fun t ht => newB p q (rpAll_rw r1) t ht⟩
def blsD : List PyData → Option (List Bool)
  | [] => some []
  | .bool i :: ds => (blsD ds).map (i :: ·)
  | _ :: _ => none
theorem blsD_of {K : PySem.W.Frag} {H : Hp} : ∀ {ds : List PyData} {ns : List Bool} {vs : List V}, blsD ds = some ns → RpAll K H vs ds → vs = ns.map V.bl
  | [], _, _, e, .nil => by cases e; rfl
  | .bool i :: ds, ns, _, e, .cons r t => by
    simp only [blsD, Option.map_eq_some_iff] at e
    obtain ⟨es, e1, rfl⟩ := e
    obtain rfl := rp_bl r
    rw [blsD_of e1 t]; rfl
  | .none :: _, _, _, e, _ => by cases e
  | .int _ :: _, _, _, e, _ => by cases e
  | .str _ :: _, _, _, e, _ => by cases e
  | .list _ :: _, _, _, e, _ => by cases e
  | .tuple _ :: _, _, _, e, _ => by cases e
  | .dict _ :: _, _, _, e, _ => by cases e
def allDD := on1 fun w S => (deref S w).bind fun d => match d with
  | .list ds => (blsD ds).map fun ns => (.d (.bool (ns.all id)), S)
  | _ => none
theorem call_allDD (hc : X.calm = true) : CallR X (.builtin "all") (rC τ X.K allDD) := by
  intro pins s σ H vs us Q I rx h
  obtain ⟨m, S, ρ, σ', w0, w, S', v, rfl, q, r, e, p⟩ := rC1 h
  obtain ⟨d, e1, e⟩ := Option.bind_eq_some_iff.mp e
  split at e
  · obtain ⟨ns, e2, e3⟩ := Option.map_eq_some_iff.mp e
    cases e3
    obtain ⟨a, xs, rfl, h, r1⟩ := deref_list q r e1
    obtain rfl := blsD_of e2 r1
    exact cr_all hc pins s σ H _ us Q I rx ⟨a, ns, rfl, h, p.now q (.bl _)⟩
  · cases e
end
end DL
end
noncomputable section
namespace DL
open PySem PySem.Spec PyProof.Rows L2
section
variable {K : PySem.W.Frag} {H : Hp} {m : List Addr} {S : Sto} {ρ : DEnv} {σ : L2.St} {w : W} {Q : VK} {a : Addr} {n : Nat} {ws ws' : List W} {vs vs' : List V}
theorem put_kp {o : HO} (hv : H a = some (.lst vs)) : Kp H (upd H a o) := fun b u h i => by
  by_cases e : b = a
  · subst e; rw [hv] at h; cases h; exact absurd i (fun z => z)
  · rw [upd_ne e]; exact h
theorem put_fr {o : HO} (hm : m[n]? = some a) (hv : H a = some (.lst vs)) : Fr m H (upd H a o) := Fr.chg (List.mem_of_getElem? hm) hv (fun z => z)
theorem put_sim (q : Sim τ K m S ρ σ H) (hm : m[n]? = some a) (hS : S[n]? = some (.lst ws)) (hv : H a = some (.lst vs)) (pr : Paired (RW τ K m H) vs' ws') : Sim τ K m (S.set n (.lst ws')) ρ σ (upd H a (.lst vs')) :=
  q.put hm (fun u h => by rw [hv] at h; cases h; exact fun z => z) (List.getElem?_eq_some_iff.mp hS).1 ⟨vs', upd_same, Paired.mapP pr fun _ _ r => r.mono0 (put_kp hv)⟩
theorem Post.put {v : V} (p : Post τ K m (S.set n (.lst ws')) ρ σ H w Q) (q : Sim τ K m S ρ σ H) (hm : m[n]? = some a) (hS : S[n]? = some (.lst ws)) (hv : H a = some (.lst vs)) (pr : Paired (RW τ K m H) vs' ws') (r : RW τ K m H v w) : Q v (upd H a (.lst vs')) :=
  p [] _ v (fun _ h => absurd h (by simp)) (by rw [List.append_nil]; exact put_sim q hm hS hv pr) (put_fr hm hv) (by rw [List.append_nil]; exact r.mono0 (put_kp hv))
theorem paired_app {α β : Type} {F : α → β → Prop} : ∀ {xs us : List α} {ys zs : List β}, Paired F xs ys → Paired F us zs → Paired F (xs ++ us) (ys ++ zs)
  | _, _, _, _, .nil, s => s
  | _, _, _, _, .cons r t, s => .cons r (paired_app t s)
theorem paired_take {α β : Type} {F : α → β → Prop} : ∀ {xs : List α} {ys : List β} (n : Nat), Paired F xs ys → Paired F (xs.take n) (ys.take n)
  | _, _, 0, _ => .nil
  | _, _, _ + 1, .nil => .nil
  | _, _, n + 1, .cons r t => .cons r (paired_take n t)
theorem paired_drop {α β : Type} {F : α → β → Prop} : ∀ {xs : List α} {ys : List β} (n : Nat), Paired F xs ys → Paired F (xs.drop n) (ys.drop n)
  | _, _, 0, r => r
  | _, _, _ + 1, .nil => .nil
  | _, _, n + 1, .cons _ t => paired_drop n t
theorem paired_set {α β : Type} {F : α → β → Prop} {x : α} {y : β} (r : F x y) : ∀ {xs : List α} {ys : List β} (i : Nat), Paired F xs ys → Paired F (xs.set i x) (ys.set i y)
  | _, _, _, .nil => .nil
  | _, _, 0, .cons _ t => .cons r t
  | _, _, i + 1, .cons q t => .cons q (paired_set r i t)
theorem paired_erase {α β : Type} {F : α → β → Prop} : ∀ {xs : List α} {ys : List β} (i : Nat), Paired F xs ys → Paired F (xs.eraseIdx i) (ys.eraseIdx i)
  | _, _, _, .nil => .nil
  | _, _, 0, .cons _ t => t
  | _, _, i + 1, .cons q t => .cons q (paired_erase i t)
end
/-- the n-th object is a list -/
def onL (f : List W → List W → Sto → Option (W × List W × Sto)) : W → List W → Sto → Option (W × Sto)
  | .loc n, us, S => match S[n]? with
    | some (.lst ws) => (f ws us S).bind fun p => some (p.1, p.2.2.set n (.lst p.2.1))
    | _ => none
  | _, _, _ => none
def isLst (S : Sto) : W → Bool
  | .loc n => match S[n]? with
    | some (.lst _) => true
    | _ => false
  | _ => false
def mMt (f : W → List W → Sto → Option (W × Sto)) (A : ME) (R : MA) : ME := fun ρ S => (A ρ S).bind fun p => if isLst p.2 p.1 = true then (R ρ p.2).bind fun q => f p.1 q.1 q.2 else none
def rM (τ : Tbs) (K : PySem.W.Frag) (f : W → List W → Sto → Option (W × Sto)) : V → List V → Hp → VK → Prop := fun x vs H Q =>
  ∃ m S ρ σ wx ws w S', Sim τ K m S ρ σ H ∧ RW τ K m H x wx ∧ Paired (RW τ K m H) vs ws ∧ f wx ws S = some (w, S') ∧ Post τ K m S' ρ σ H w Q
section
variable {X : Cx} {e o a b c : Expr} {rest es : List Expr} {pos : Pos} {A B C : ME} {T U : MT} {R : MA} {f : W → List W → Sto → Option (W × Sto)}
theorem isLst_ty {K : PySem.W.Frag} {m : List Addr} {S : Sto} {ρ : DEnv} {σ : L2.St} {H : Hp} {v : V} {w : W} (q : Sim τ K m S ρ σ H) (r : RW τ K m H v w) (e : isLst S w = true) : tyV K "list" v H := by
  cases w with
  | d x => cases e
  | loc n =>
    obtain ⟨a, h, rfl⟩ := r
    simp only [isLst] at e
    split at e
    · rename_i ws hs
      obtain ⟨b, hb, vs, hv, pr⟩ := q.obs n _ hs
      rw [h] at hb; cases hb
      exact Or.inl ⟨rfl, _, .of hv⟩
    · cases e
  | fn => cases e
theorem rd_mt {K : PySem.W.Frag} {σ : L2.St} {H : Hp} {Q : VK} (h : rdE τ K (mMt f A R) σ H Q) : tBM K "list" (rM τ K f) (rdE τ K A) (rdA τ K R) σ H Q := by
  obtain ⟨m, S, ρ, w, S', q, e, p⟩ := h
  obtain ⟨⟨wx, S1⟩, e1, e⟩ := Option.bind_eq_some_iff.mp e
  split at e
  · rename_i hl
    obtain ⟨⟨ws, S2⟩, e2, e3⟩ := Option.bind_eq_some_iff.mp e
    refine ⟨m, S, ρ, wx, S1, q, e1, fun ext H1 x f1 q1 fr1 r1 => ⟨isLst_ty q1 r1 hl, _, S1, ρ, ws, S2, q1, e2, fun ext2 H2 vs f2 q2 fr2 r2 => ?_⟩⟩
    exact ⟨_, S2, ρ, σ, wx, ws, w, S', q2, r1.mono fr2.kp, r2, e3, (p.at f1 q1 fr1).at f2 q2 fr2⟩
  · cases e
variable {name : Str} {apos cpos : Pos} {id : String}
theorem de_bm (slot : Slot "list" name id) (hty : typeOf (.builtin id) = pure (.type "method_descriptor")) (hm : MtR X id (rM τ X.K f)) (ho : PE X o (rdE τ X.K A)) (ha : PA X (e :: es) (rdA τ X.K R))
    (hbase : attributeBase o name X.env (eval o X.env) = eval o X.env := by rfl)
    (hfew : ((backTo cpos (starEach (e :: es) X.env)).all (fun x => !x.1) && (backToKw cpos (keywordEach [] X.env)).all (fun x => x.1.isSome)
      && decide ((e :: es).length + ([] : List Keyword).length + (if ([] : List Keyword).isEmpty then 0 else 1) < 30)) = true := by rfl)
    (hline : (apos.endLine == cpos.line) = true := by rfl) (hs : starEach (e :: es) X.env = (false, eval e X.env) :: starEach es X.env := by rfl) (hplain : (backTo cpos (starEach es X.env)).any (·.1) = false := by rfl) :
    PE X (.Call (.Attribute o name apos) (e :: es) [] cpos) (rdE τ X.K (mMt f A R)) :=
  wkE (pe_bm PySem.F.plainAttrs_list slot hty hm ho ha hbase hfew hline hs hplain) fun σ H Q q => rd_mt q
/-- the list at hand -/
theorem rM_L {K : PySem.W.Frag} {f : List W → List W → Sto → Option (W × List W × Sto)} {x : V} {vs : List V} {H : Hp} {Q : VK} (h : rM τ K (onL f) x vs H Q) :
    ∃ m S ρ σ n a ws us w ws' S' zs, x = .ref a ∧ Sim τ K m S ρ σ H ∧ m[n]? = some a ∧ S[n]? = some (.lst ws) ∧ H a = some (.lst zs) ∧ Paired (RW τ K m H) zs ws ∧ Paired (RW τ K m H) vs us ∧ f ws us S = some (w, ws', S') ∧ Post τ K m (S'.set n (.lst ws')) ρ σ H w Q := by
  obtain ⟨m, S, ρ, σ, wx, us, w, S', q, r, ra, e, p⟩ := h
  unfold onL at e
  split at e
  · split at e
    · rename_i ws hs
      obtain ⟨⟨w0, ws', S0⟩, e1, e2⟩ := Option.bind_eq_some_iff.mp e
      cases e2
      obtain ⟨a, hm, rfl⟩ := r
      obtain ⟨b, hb, zs, hv, pr⟩ := q.obs _ _ hs
      rw [hm] at hb; cases hb
      exact ⟨m, S, ρ, σ, _, a, ws, _, _, ws', S0, zs, rfl, q, hm, hs, hv, pr, ra, e1, p⟩
    · cases e
  · cases e
def appendF := onL fun ws us S => match us with
  | [w] => if ws.length < sizeLine then some (.d .none, ws ++ [w], S) else none
  | _ => none
theorem mt_appendD : MtR X "list.append" (rM τ X.K appendF) := by
  intro pins s σ H x xs v us Q I rx rs h
  obtain ⟨m, S, ρ, σ', n, a, ws, us', w, ws', S', zs, rfl, q, hm, hs, hv, pr, ra, e, p⟩ := rM_L h
  split at e
  · split at e
    · rename_i hl
      cases e
      obtain ⟨y, rfl, ry⟩ := prd1 ra
      exact mt_append pins s σ H _ _ v us Q I rx rs ⟨a, zs, y, rfl, rfl, hv, by rw [pr.length]; exact hl, p.put q hm hs hv (paired_app pr (.cons ry .nil)) .non⟩
    · cases e
  · cases e
def popF := onL fun ws us S => match us with
  | [] => (ws[ws.length - 1]?).map fun w => (w, ws.dropLast, S)
  | _ => none
def reverseF := onL fun ws us S => match us with
  | [] => some (.d .none, ws.reverse, S)
  | _ => none
def popAtF := onL fun ws us S => match us with
  | [.d (.int i)] => if -(2 ^ 63) ≤ i ∧ i < 2 ^ 63 then (seqIndex? i ws.length).bind fun k => (ws[k]?).map fun w => (w, ws.eraseIdx k, S) else none
  | _ => none
theorem mt_popAtD : MtR X "list.pop" (rM τ X.K popAtF) := by
  intro pins s σ H x xs v us Q I rx rs h
  obtain ⟨m, S, ρ, σ', n, a, ws, us', w, ws', S', zs, rfl, q, hm, hs, hv, pr, ra, e, p⟩ := rM_L h
  split at e
  · split at e
    · rename_i hl
      obtain ⟨k, e1, e2⟩ := Option.bind_eq_some_iff.mp e
      obtain ⟨w0, e3, e4⟩ := Option.map_eq_some_iff.mp e2
      cases e4
      obtain ⟨y, rfl, ry⟩ := prd1 ra
      obtain rfl := rp_int ry
      obtain ⟨y, hy, ry⟩ := paired_getR pr e3
      exact mt_popAt pins s σ H _ _ v us Q I rx rs ⟨a, zs, _, k, y, rfl, rfl, hv, hl.1, hl.2, by rw [pr.length]; exact e1, hy, p.put q hm hs hv (paired_erase k pr) ry⟩
    · cases e
  · cases e
def insertF := onL fun ws us S => match us with
  | [.d (.int i), w] => @ite _ (ws.length < sizeLine ∧ 0 ≤ i ∧ i < 2 ^ 63) (gd _) (some (.d .none, ws.take i.toNat ++ [w] ++ ws.drop i.toNat, S)) none
  | _ => none
theorem mt_insertD : MtR X "list.insert" (rM τ X.K insertF) := by
  intro pins s σ H x xs v us Q I rx rs h
  obtain ⟨m, S, ρ, σ', n, a, ws, us', w, ws', S', zs, rfl, q, hm, hs, hv, pr, ra, e, p⟩ := rM_L h
  split at e
  · split at e
    · rename_i hl
      cases e
      obtain ⟨y, z, rfl, ry, rz⟩ := prd2 ra
      obtain rfl := rp_int ry
      exact mt_insert pins s σ H _ _ v us Q I rx rs ⟨a, zs, _, z, rfl, rfl, hv, by rw [pr.length]; exact hl.1, hl.2.1, hl.2.2,
        p.put q hm hs hv (paired_app (paired_app (paired_take _ pr) (.cons rz .nil)) (paired_drop _ pr)) .non⟩
    · cases e
  · cases e
open PySem.AutoSeq1 in
theorem ext_run (l : Addr) (items : Array Value) (n : Nat) (b : Addr) (items2 : Array Value) (n2 : Nat) (sl : Array (Option Value)) (hc0 : ¬(!items.isEmpty && Builtin.List.listTooLong (items.size + items2.size)) = true) (hc1 : items.size ≤ sizeLine) (hs2 : items.size + items2.size ≤ sizeLine + 1) :
    Meets (Builtin.«list.extend» ⟨[.ref l, .ref b], []⟩) (fun _ R s => s.heap.get? l = some { cls := .type "list", data := .seq items n } ∧ s.heap.get? b = some { cls := .type "list", data := .seq items2 n2, slots := sl } ∧ R (.ok (.ret Value.none)) { s with heap := s.heap.update l (Obj.mapSeq fun x => x ++ items2), toks := s.toks }) :=
  .of_wp fun prog w A R s h => by
    obtain ⟨hp, g, d, tk, os⟩ := s
    obtain ⟨h1, h2, h⟩ := h
    have f1 := AutoSeq1.idx_int
    have f2 := AutoSeq1.sub_tuple_tuple
    have f3 := AutoSeq1.sub_list_list
    have f4 := AutoSeq1.sub_tuple_list
    have f5 := AutoSeq1.sub_list_tuple
    have hz : (items ++ items2).size ≤ sizeLine + 1 := by rw [Array.size_append]; exact hs2
    wp_walk using (wpAny_updateSeq h1 rfl (hz := hc1) (_hz' := hz)), wpAny_loadPart' h1, wpAny_loadPart' h2
    exact ⟨_, rfl, h⟩
theorem mt_extS : MtR X "list.extend" (fun x vs H Q => ∃ l b xs zs, x = .ref l ∧ vs = [.ref b] ∧ H l = some (.lst xs) ∧ SqL X.K H b zs ∧ xs.length + zs.length ≤ sizeLine ∧ Q .non (upd H l (.lst (xs ++ zs)))) := by
  intro pins s σ H x vs v us Q I rx rv h
  obtain ⟨l, b, xs, zs, rfl, rfl, hH, hB, hz, q⟩ := h
  cases rx
  obtain ⟨u, rfl, ru⟩ := rv.one
  cases ru
  obtain ⟨_, its, n, r, hl, e⟩ := I.lstM hH
  obtain ⟨its2, r2, ⟨ob, n2, e2, hc, hd, hdat⟩, _⟩ := I.list hB
  have hl2 := r2.length
  obtain ⟨cls, dict, data, slots⟩ := ob
  simp only at hc hd hdat
  subst hc hd hdat
  have hsz : its.toArray.size + its2.toArray.size ≤ sizeLine := by rw [List.size_toArray, List.size_toArray]; omega
  have nl : ¬ (!its.toArray.isEmpty && Builtin.List.listTooLong (its.toArray.size + its2.toArray.size)) = true := by
    have z : Builtin.List.listTooLong (its.toArray.size + its2.toArray.size) = false := decide_eq_false (by omega)
    rw [z, Bool.and_false]
    exact Bool.false_ne_true
  refine call_meets F.slot_list_extend ⟨_, e, rfl⟩ F.entry_list_extend (F.args_list_extend_2 _ _) (ext_run l its.toArray n b its2.toArray n2 slots nl (by rw [List.size_toArray]; omega) (by omega)) ⟨e, e2, ?_⟩
  refine ⟨.non, _, I.lset (its' := its ++ its2) hH e (by simp) (r.append r2) ?_, rfl, q⟩
  rw [List.length_append]
  exact hz
def extendF := onL fun ws us S => match us with
  | [w] => (deref S w).bind fun d => match d with
    | .list ds => if ws.length + ds.length ≤ sizeLine then some (.d .none, ws ++ ds.map W.d, S) else none
    | _ => none
  | _ => none
theorem mt_extendD : MtR X "list.extend" (rM τ X.K extendF) := by
  intro pins s σ H x xs v us Q I rx rs h
  obtain ⟨m, S, ρ, σ', n, a, ws, us', w, ws', S', zs, rfl, q, hm, hs, hv, pr, ra, e, p⟩ := rM_L h
  split at e
  · obtain ⟨d, e1, e2⟩ := Option.bind_eq_some_iff.mp e
    split at e2
    · split at e2
      · rename_i hl
        cases e2
        obtain ⟨y, rfl, ry⟩ := prd1 ra
        obtain ⟨b, ys, rfl, hb, r1⟩ := deref_list q ry e1
        exact mt_extS pins s σ H _ _ v us Q I rx rs ⟨a, b, zs, ys, rfl, rfl, hv, hb, by rw [pr.length, r1.length]; exact hl, p.put q hm hs hv (paired_app pr (rpAll_rw r1)) .non⟩
      · cases e2
    · cases e2
  · cases e
/-- + of lists -/
theorem cat_run (l : Addr) (items : Array Value) (n : Nat) (sa : Array (Option Value)) (b : Addr) (items2 : Array Value) (n2 : Nat) (sb : Array (Option Value)) (hc0 : items.size + items2.size ≤ sizeLine) :
    Meets (Builtin.«list.__add__» ⟨[.ref l, .ref b], []⟩) (fun _ R s => s.heap.get? l = some { cls := .type "list", data := .seq items n, slots := sa } ∧ s.heap.get? b = some { cls := .type "list", data := .seq items2 n2, slots := sb } ∧ R (.ok (.ret (Value.ref s.heap.objs.size))) { s with heap := s.heap.push { cls := Value.type "list", data := Data.seq (items ++ items2) }, toks := s.toks }) :=
  .of_wp fun prog w A R s h => by
    obtain ⟨hp, g, d, tk, os⟩ := s
    obtain ⟨h1, h2, h⟩ := h
    have f1 := AutoSeq1.idx_int
    have f2 := AutoSeq1.sub_tuple_tuple
    have f3 := AutoSeq1.sub_list_list
    have f4 := AutoSeq1.sub_tuple_list
    have f5 := AutoSeq1.sub_list_tuple
    wp_walk using AutoSeq1.wpAny_loadPart' h1, AutoSeq1.wpAny_loadPart' h2
    exact ⟨_, rfl, h⟩
theorem op_catS : OpR X (binaryOp .Add) (fun x y H Q => ∃ l b xs zs, x = .ref l ∧ y = .ref b ∧ SqL X.K H l xs ∧ SqL X.K H b zs ∧ xs.length + zs.length ≤ sizeLine ∧ ∀ p, H p = none → Q (.ref p) (upd H p (.lst (xs ++ zs)))) := by
  intro pins s σ H x y v u Q I rx ry h
  obtain ⟨l, b, xs, zs, rfl, rfl, hA, hB, hz, q⟩ := h
  cases rx
  cases ry
  obtain ⟨its, r1, ⟨oa, n1, e1, hc1, hd1, hdat1⟩, _⟩ := I.list hA
  obtain ⟨its2, r2, ⟨ob, n2, e2, hc, hd, hdat⟩, _⟩ := I.list hB
  have l1 := r1.length
  have l2 := r2.length
  obtain ⟨c1, d1, da1, sl1⟩ := oa
  obtain ⟨c2, d2, da2, sl2⟩ := ob
  simp only at hc hd hdat hc1 hd1 hdat1
  subst hc hd hdat hc1 hd1 hdat1
  have hsz : its.toArray.size + its2.toArray.size ≤ sizeLine := by rw [List.size_toArray, List.size_toArray]; omega
  refine concat_meets ⟨_, e1, rfl⟩ ⟨_, e2, rfl⟩ noFill_list_add seq_list_add F.slot_list_add F.entry_list_add (F.args_list_add_2 _ _) (cat_run l its.toArray n1 sl1 b its2.toArray n2 sl2 hsz) ⟨e1, e2, ?_⟩
  have ea : its.toArray ++ its2.toArray = (its ++ its2).toArray := by simp
  rw [ea]
  exact ⟨.ref _, _, I.lnew (t' := s.toks) (r1.append r2) (by rw [List.length_append]; omega), rfl, q _ I.fresh⟩
def catL : W → W → Sto → Option (W × Sto) := fun x y S => (deref S x).bind fun d => (deref S y).bind fun e => match d, e with
  | .list i, .list j => if i.length + j.length ≤ sizeLine then some (.d (.list (i ++ j)), S) else none
  | _, _ => none
theorem op_catL : OpR X (binaryOp .Add) (rOp τ X.K catL) := by
  intro pins s σ H x y v u Q I rx ry h
  obtain ⟨m, S, ρ, σ', wx, wy, w, S', q, hx, hy, e, p⟩ := h
  obtain ⟨d, e1, e⟩ := Option.bind_eq_some_iff.mp e
  obtain ⟨d2, e2, e⟩ := Option.bind_eq_some_iff.mp e
  split at e
  · split at e
    · rename_i hl
      cases e
      obtain ⟨a, xs, rfl, ha, r1⟩ := deref_list q hx e1
      obtain ⟨b, ys, rfl, hb, r2⟩ := deref_list q hy e2
      exact opFrz op_catS pins s σ H _ _ v u Q I rx ry ⟨a, b, xs, ys, rfl, rfl, ha, hb, by rw [r1.length, r2.length]; exact hl, fun t ht => newL p q (r1.append r2) t ht⟩
    · cases e
  · cases e
def setF : W → W → W → Sto → Option Sto
  | .loc n, .d (.int k), w, S => match S[n]? with
    | some (.lst ws) => (ixN ws.length k).map fun j => S.set n (.lst (ws.set j w))
    | _ => none
  | _, _, _, _ => none
def PostH (τ : Tbs) (K : PySem.W.Frag) (m : List Addr) (S' : Sto) (ρ : DEnv) (σ : L2.St) (H : Hp) (Q : Hp → Prop) : Prop :=
  ∀ ext H', Fresh ext H → Sim τ K (m ++ ext) S' ρ σ H' → Fr m H H' → Q H'
def rSet (τ : Tbs) (K : PySem.W.Frag) (f : W → W → W → Sto → Option Sto) : TSet := fun o i v H Q => ∃ m S ρ σ wo wi wv S', Sim τ K m S ρ σ H ∧ RW τ K m H o wo ∧ RW τ K m H i wi ∧ RW τ K m H v wv ∧ f wo wi wv S = some S' ∧ PostH τ K m S' ρ σ H Q
theorem set_D : PSet X (rSet τ X.K setF) := by
  intro pins s σ H o i v ov iv u Q I ro ri rv h
  obtain ⟨m, S, ρ, σ', wo, wi, wv, S', q, h1, h2, h3, e, p⟩ := h
  unfold setF at e
  split at e
  · split at e
    · rename_i ws hs
      obtain ⟨j, e1, e2⟩ := Option.map_eq_some_iff.mp e
      cases e2
      obtain ⟨a, hm, rfl⟩ := h1
      obtain rfl := rp_int h2
      obtain ⟨b, hb, zs, hv, pr⟩ := q.obs _ _ hs
      rw [hm] at hb; cases hb
      refine set_list pins s σ H _ _ v ov iv u Q I ro ri rv ⟨a, zs, _, j, rfl, rfl, hv, by rw [pr.length]; exact e1, ?_⟩
      exact p [] _ (fun _ h => absurd h (by simp)) (by rw [List.append_nil]; exact put_sim q hm hs hv (paired_set h3 j pr)) (put_fr hm hv)
    · cases e
  · cases e
/-- the read of o[i] op= v -/
def getF : W → W → Sto → Option (W × Sto)
  | .loc n, .d (.int i), S => match S[n]? with
    | some (.lst ws) => if 0 ≤ i then (ws[i.toNat]?).map fun w => (w, S) else none
    | _ => none
  | _, _, _ => none
theorem get_D : PGet X (rOp τ X.K getF) := by
  intro pins s σ H o i ov iv Q I ro ri h
  obtain ⟨m, S, ρ, σ', wx, wy, w, S', q, hx, hy, e, p⟩ := h
  unfold getF at e
  split at e
  · split at e
    · rename_i k _ ws hs
      split at e
      · rename_i h0
        obtain ⟨z, e1, e2⟩ := Option.map_eq_some_iff.mp e
        cases e2
        obtain ⟨a, hm, rfl⟩ := hx
        obtain rfl := rp_int hy
        obtain ⟨b, hb, zs, hv, pr⟩ := q.obs _ _ hs
        rw [hm] at hb; cases hb
        obtain ⟨y, hy, ry⟩ := paired_getR pr e1
        cases ro
        obtain ⟨t, rfl⟩ := ri
        obtain ⟨its, r, pl, hz⟩ := I.list (.of hv)
        obtain ⟨u, hu, ru⟩ := r.get hy
        have hl := r.length
        have hn := line63
        have hb := (List.getElem?_eq_some_iff.mp hy).1
        exact wpAny_getItem_list pl.isList h0 (by omega) (by simpa using hu) ⟨y, H, I, ru, p.now q ry⟩
      · cases e
    · cases e
  · cases e
inductive Fl where
  | nx
  | rt (w : W)
  | bk
  | ct
abbrev MS := DEnv → Sto → Option (Fl × DEnv × Sto)
def EndsOk (τ : Tbs) (K : PySem.W.Frag) (D : Ends) (m : List Addr) (σ : L2.St) (H : Hp) : Fl → Prop
  | .nx => D.nx σ H
  | .rt w => ∀ v, RW τ K m H v w → D.rt v H
  | .bk => D.bk σ H
  | .ct => D.ct σ H
def PostS (τ : Tbs) (K : PySem.W.Frag) (m : List Addr) (S' : Sto) (ρ' : DEnv) (σ : L2.St) (H : Hp) (fl : Fl) (D : Ends) : Prop :=
  ∀ ext σ' H', Fresh ext H → Sim τ K (m ++ ext) S' ρ' σ' H' → Fr m H H' → EndsOk τ K D (m ++ ext) σ' H' fl
def rdS (τ : Tbs) (K : PySem.W.Frag) (f : MS) : L2.TS := fun D σ H => ∃ m S ρ fl ρ' S', Sim τ K m S ρ σ H ∧ f ρ S = some (fl, ρ', S') ∧ PostS τ K m S' ρ' σ H fl D
end
section
variable {K : PySem.W.Frag} {H H1 : Hp} {m ext : List Addr} {S S1 S' : Sto} {ρ ρ1 ρ' : DEnv} {σ σ1 : L2.St} {w : W} {D : Ends} {fl : Fl}
theorem PostS.at (p : PostS τ K m S' ρ' σ H fl D) (f : Fresh ext H) (q : Sim τ K (m ++ ext) S1 ρ1 σ1 H1) (fr : Fr m H H1) : PostS τ K (m ++ ext) S' ρ' σ1 H1 fl D := fun e2 σ2 H2 f2 q2 fr2 => by
  have := p (ext ++ e2) σ2 H2 (f.append fr q f2) (by rwa [← List.append_assoc]) (fr.trans f fr2)
  rwa [← List.append_assoc] at this
theorem PostS.now (p : PostS τ K m S' ρ' σ H fl D) (q : Sim τ K m S' ρ' σ1 H) : EndsOk τ K D m σ1 H fl := by
  have := p [] σ1 H (fun _ h => absurd h (by simp)) (by rwa [List.append_nil]) Fr.refl
  rwa [List.append_nil] at this
end
section
variable {X : Cx} {e o a b c : Expr} {st : Stmt} {rest body els : List Stmt} {pos : Pos} {A B C : ME} {T U : MT} {F G : MS}
def sNil : MS := fun ρ S => some (.nx, ρ, S)
def sSeq (F G : MS) : MS := fun ρ S => (F ρ S).bind fun p => match p.1 with
  | .nx => G p.2.1 p.2.2
  | _ => some p
theorem dss_nil : PSs X [] (rdS τ X.K sNil) := wkSs pss_nil fun D σ H q => by
  obtain ⟨m, S, ρ, fl, ρ', S', q, e, p⟩ := q
  cases e
  exact p.now q
theorem rd_seq {K : PySem.W.Frag} {D : Ends} {σ : L2.St} {H : Hp} (h : rdS τ K (sSeq F G) D σ H) : tSeq (rdS τ K F) (rdS τ K G) D σ H := by
  obtain ⟨m, S, ρ, fl, ρ', S', q, e, p⟩ := h
  obtain ⟨⟨f1, ρ1, S1⟩, e1, e2⟩ := Option.bind_eq_some_iff.mp e
  refine ⟨m, S, ρ, f1, ρ1, S1, q, e1, fun ext σ1 H1 f q1 fr => ?_⟩
  have p1 := p.at f q1 fr
  cases f1 with
  | nx => exact ⟨m ++ ext, S1, ρ1, fl, ρ', S', q1, e2, p1⟩
  | rt w => cases e2; exact p1.now q1
  | bk => cases e2; exact p1.now q1
  | ct => cases e2; exact p1.now q1
theorem dss_cons (h : PS X st (rdS τ X.K F)) (h2 : PSs X rest (rdS τ X.K G)) : PSs X (st :: rest) (rdS τ X.K (sSeq F G)) := wkSs (pss_cons h h2) fun D σ H q => rd_seq q
theorem dss_one (h : PS X st (rdS τ X.K F)) : PSs X [st] (rdS τ X.K F) := pss_one h
def sPass : MS := sNil
def sBreak : MS := fun ρ S => some (.bk, ρ, S)
def sCont : MS := fun ρ S => some (.ct, ρ, S)
def sExpr (A : ME) : MS := fun ρ S => (A ρ S).bind fun p => some (.nx, ρ, p.2)
theorem ds_expr (he : PE X e (rdE τ X.K A)) (hs : swapsWith e none pos.line X.env = pure false := by rfl) : PS X (.Expr e pos) (rdS τ X.K (sExpr A)) := wkS (ps_expr he hs) fun D σ H q => by
  obtain ⟨m, S, ρ, fl, ρ', S', q, e, p⟩ := q
  obtain ⟨⟨wx, S1⟩, e1, e2⟩ := Option.bind_eq_some_iff.mp e
  cases e2
  exact ⟨m, S, ρ, wx, _, q, e1, fun ext H1 x f q1 fr r => (p.at f q1 fr).now q1⟩
def sRet (A : ME) : MS := fun ρ S => (A ρ S).bind fun p => some (.rt p.1, ρ, p.2)
theorem ds_ret (he : PE X e (rdE τ X.K A)) : PS X (.Return (some e) pos) (rdS τ X.K (sRet A)) := wkS (ps_ret he) fun D σ H q => by
  obtain ⟨m, S, ρ, fl, ρ', S', q, e, p⟩ := q
  obtain ⟨⟨wx, S1⟩, e1, e2⟩ := Option.bind_eq_some_iff.mp e
  cases e2
  exact ⟨m, S, ρ, wx, _, q, e1, fun ext H1 x f q1 fr r => (p.at f q1 fr).now q1 x r⟩
def sRetN : MS := fun ρ S => some (.rt (.d .none), ρ, S)
def sIf (T : MT) (F G : MS) : MS := fun ρ S => (T ρ S).bind fun p => if p.1 = true then F ρ p.2 else G ρ p.2
theorem ds_if (hc : PT X c (rdT τ X.K T)) (ha : PSs X body (rdS τ X.K F)) (hb : PSs X els (rdS τ X.K G)) : PS X (.If c body els pos) (rdS τ X.K (sIf T F G)) := wkS (ps_if hc ha hb) fun D σ H q => by
  obtain ⟨m, S, ρ, fl, ρ', S', q, e, p⟩ := q
  obtain ⟨⟨b, S1⟩, e1, e2⟩ := Option.bind_eq_some_iff.mp e
  refine ⟨m, S, ρ, b, S1, q, e1, fun ext H1 f q1 fr => ?_⟩
  cases b with
  | true => exact ⟨_, S1, ρ, fl, ρ', S', q1, by simpa using e2, p.at f q1 fr⟩
  | false => exact ⟨_, S1, ρ, fl, ρ', S', q1, by simpa using e2, p.at f q1 fr⟩
abbrev MG := W → DEnv → Sto → Option (DEnv × Sto)
abbrev MGs := List W → DEnv → Sto → Option (DEnv × Sto)
/-- vis: the slots that may change -/
def PostG (τ : Tbs) (K : PySem.W.Frag) (vis : List Nat) (m : List Addr) (S' : Sto) (ρ' : DEnv) (σ : L2.St) (H : Hp) (Q : L2.St → Hp → Prop) : Prop :=
  ∀ ext σ' H', wipe σ' vis = wipe σ vis → Fresh ext H → Sim τ K (m ++ ext) S' ρ' σ' H' → Fr m H H' → Q σ' H'
def rdG (τ : Tbs) (K : PySem.W.Frag) (vis : List Nat) (g : MG) : TG := fun v σ H Q => ∃ m S ρ w ρ' S', Sim τ K m S ρ σ H ∧ RW τ K m H v w ∧ g w ρ S = some (ρ', S') ∧ PostG τ K vis m S' ρ' σ H Q
def rdGs (τ : Tbs) (K : PySem.W.Frag) (vis : List Nat) (g : MGs) : TGs := fun vs σ H Q => ∃ m S ρ ws ρ' S', Sim τ K m S ρ σ H ∧ Paired (RW τ K m H) vs ws ∧ g ws ρ S = some (ρ', S') ∧ PostG τ K vis m S' ρ' σ H Q
theorem wipe_set {α : Type} {σ : L2.St} {i : Nat} {v : Option V} : ∀ {vis : List Nat}, i ∈ vis → wipe (σ.set i v) vis = wipe σ vis
  | j :: vis, h => by
    show (wipe (σ.set i v) vis).set j none = (wipe σ vis).set j none
    by_cases hm : i ∈ vis
    · rw [wipe_set (α := α) hm]
    · have e : i = j := by
        rcases List.mem_cons.mp h with z | z
        · exact z
        · exact absurd z hm
      subst e
      have key : ∀ (l : List Nat), i ∉ l → wipe (σ.set i v) l = (wipe σ l).set i v := by
        intro l
        induction l with
        | nil => intro _; rfl
        | cons k l ih =>
          intro hk
          simp only [List.mem_cons, not_or] at hk
          show (wipe (σ.set i v) l).set k none = ((wipe σ l).set k none).set i v
          rw [ih hk.2, List.set_comm _ _ hk.1]
      rw [key vis hm, List.set_set]
end
section
variable {K : PySem.W.Frag} {H H1 : Hp} {m ext : List Addr} {S S1 S' : Sto} {ρ ρ1 ρ' : DEnv} {σ σ1 : L2.St} {Q : L2.St → Hp → Prop} {vis : List Nat}
theorem PostG.at (p : PostG τ K vis m S' ρ' σ H Q) (hw : wipe σ1 vis = wipe σ vis) (f : Fresh ext H) (q : Sim τ K (m ++ ext) S1 ρ1 σ1 H1) (fr : Fr m H H1) : PostG τ K vis (m ++ ext) S' ρ' σ1 H1 Q := fun e2 σ2 H2 hw2 f2 q2 fr2 =>
  p (ext ++ e2) σ2 H2 (hw2.trans hw) (f.append fr q f2) (by rwa [← List.append_assoc]) (fr.trans f fr2)
theorem PostG.now (p : PostG τ K vis m S' ρ' σ H Q) (hw : wipe σ1 vis = wipe σ vis) (q : Sim τ K m S' ρ' σ1 H) : Q σ1 H :=
  p [] σ1 H hw (fun _ h => absurd h (by simp)) (by rwa [List.append_nil]) Fr.refl
end
section
variable {X : Cx} {e o a b c : Expr} {es : List Expr} {st : Stmt} {rest body els : List Stmt} {pos : Pos} {A B C : ME} {T U : MT} {F G : MS} {g : MG} {gs : MGs} {vis : List Nat}
def gSet (i : Nat) : MG := fun w ρ S => if i < ρ.length then some (ρ.set i (some w), S) else none
theorem dg_name {i : Nat} {x : Str} (hN : X.N.Nodup) (hi : X.N[i]? = some x) (hx : Loc X.env.scope x) (hv : i ∈ vis := by decide) (hf : X.fn x = true ∨ X.env.scope.names.lookup x = some .local := by first | exact .inl rfl | exact .inr rfl | assumption) : PG X (.Name x pos) (rdG τ X.K vis (gSet i)) := by
  refine ⟨fun pins s σ H v u Q I r h => (pg_name (pos := pos) hN hi hx hf).run pins s σ H v u Q I r ?_⟩
  obtain ⟨m, S, ρ, w, ρ', S', q, r, e, p⟩ := h
  unfold gSet at e
  split at e
  · cases e
    exact p.now (wipe_set (α := Nat) hv) (q.slotset r)
  · cases e
def gsNil : MGs := fun ws ρ S => match ws with
  | [] => some (ρ, S)
  | _ => none
def gsCons (g : MG) (gs : MGs) : MGs := fun ws ρ S => match ws with
  | w :: ws => (g w ρ S).bind fun p => gs ws p.1 p.2
  | [] => none
theorem dgs_nil : PGs X [] (rdGs τ X.K vis gsNil) := by
  refine ⟨fun pins s σ H v u Q I r h => pgs_nil.run pins s σ H v u Q I r ?_⟩
  obtain ⟨m, S, ρ, ws, ρ', S', q, r, e, p⟩ := h
  unfold gsNil at e
  split at e
  · cases e
    cases r
    exact ⟨rfl, p.now rfl q⟩
  · cases e
theorem dgs_cons (h1 : PG X e (rdG τ X.K vis g)) (h2 : PGs X es (rdGs τ X.K vis gs)) (hs : (assignEach (e :: es) X.env).map (·.2) = assign e X.env :: (assignEach es X.env).map (·.2) := by rfl) : PGs X (e :: es) (rdGs τ X.K vis (gsCons g gs)) := by
  refine ⟨fun pins s σ H v u Q I r h => (pgs_cons h1 h2 hs).run pins s σ H v u Q I r ?_⟩
  obtain ⟨m, S, ρ, ws, ρ', S', q, r, e, p⟩ := h
  unfold gsCons at e
  split at e
  · obtain ⟨⟨ρ1, S1⟩, e1, e2⟩ := Option.bind_eq_some_iff.mp e
    cases r with
    | cons r t =>
      refine ⟨_, _, rfl, m, S, ρ, _, ρ1, S1, q, r, e1, fun ext σ1 H1 hw f q1 fr => ⟨m ++ ext, S1, ρ1, _, ρ', S', q1, pRW.mono t fr.kp, e2, p.at hw f q1 fr⟩⟩
  · cases e
def gTupD (n : Nat) (gs : MGs) : MG := fun w ρ S => match w with
  | .d (.tuple ds) => if ds.length = n then gs (ds.map W.d) ρ S else none
  | _ => none
theorem dg_tup {k n : Nat} (hc : X.calm = true) (h : PGs X es (rdGs τ X.K vis gs)) (hn : (assignEach es X.env).length = n := by rfl) (hst : (assignEach es X.env).findIdx? (·.1) = none := by rfl) : PG X (.Tuple es k pos) (rdG τ X.K vis (gTupD n gs)) := by
  refine ⟨fun pins s σ H v u Q I r h2 => (pg_tup (k := k) (pos := pos) hc h hn hst).run pins s σ H v u Q I r ?_⟩
  obtain ⟨m, S, ρ, w, ρ', S', q, r, e, p⟩ := h2
  unfold gTupD at e
  split at e
  · split at e
    · rename_i hl
      obtain ⟨a, xs, rfl, ha, r1⟩ := rp_tup r
      exact ⟨a, xs, rfl, ha, by rw [r1.length]; exact hl, m, S, ρ, _, ρ', S', q, rpAll_rw r1, e, p⟩
    · cases e
  · cases e
/-- target = value -/
def sAsg (A : ME) (g : MG) : MS := fun ρ S => (A ρ S).bind fun p => (g p.1 ρ p.2).bind fun q => some (.nx, q.1, q.2)
theorem rd_asg {K : PySem.W.Frag} {D : Ends} {σ : L2.St} {H : Hp} (h : rdS τ K (sAsg A g) D σ H) : tAsg (rdE τ K A) (rdG τ K vis g) D σ H := by
  obtain ⟨m, S, ρ, fl, ρ', S', q, e, p⟩ := h
  obtain ⟨⟨wx, S1⟩, e1, e2⟩ := Option.bind_eq_some_iff.mp e
  obtain ⟨⟨ρ2, S2⟩, e3, e4⟩ := Option.bind_eq_some_iff.mp e2
  cases e4
  refine ⟨m, S, ρ, wx, S1, q, e1, fun ext H1 x f q1 fr r => ⟨m ++ ext, S1, ρ, wx, ρ2, S2, q1, r, e3, fun ext2 σ2 H2 _ f2 q2 fr2 => ?_⟩⟩
  exact ((p.at f q1 fr).at f2 q2 fr2).now q2
theorem ds_asg {tg : Expr} (he : PE X e (rdE τ X.K A)) (hg : PG X tg (rdG τ X.K vis g)) (hs : swapsWithSole [tg] e pos.line X.env = pure false := by rfl) (hw : swappedStores [tg] e X.env = pure none := by rfl)
    (h1 : (assignEach [tg] X.env).map (·.2) = [assign tg X.env] := by rfl) : PS X (.Assign [tg] e pos) (rdS τ X.K (sAsg A g)) := wkS (ps_asg he hg hs hw h1) fun D σ H q => rd_asg q
theorem ds_set {i : Nat} {x : Str} {pos' : Pos} (hN : X.N.Nodup) (hi : X.N[i]? = some x) (hx : Loc X.env.scope x) (he : PE X e (rdE τ X.K A)) (hs : swapsWith e (some (.Name x pos')) pos.line X.env = pure false := by rfl) (hf : X.fn x = true ∨ X.env.scope.names.lookup x = some .local := by first | exact .inl rfl | exact .inr rfl | assumption) :
    PS X (.Assign [.Name x pos'] e pos) (rdS τ X.K (sAsg A (gSet i))) := wkS (ps_set hN hi hx he hs hf) fun D σ H q => by
  obtain ⟨m, S, ρ, fl, ρ', S', q, e, p⟩ := q
  obtain ⟨⟨wx, S1⟩, e1, e2⟩ := Option.bind_eq_some_iff.mp e
  obtain ⟨⟨ρ2, S2⟩, e3, e4⟩ := Option.bind_eq_some_iff.mp e2
  cases e4
  unfold gSet at e3
  split at e3
  · cases e3
    exact ⟨m, S, ρ, wx, _, q, e1, fun ext H1 x f q1 fr r => ((p.at f q1 fr).now (q1.slotset r))⟩
  · cases e3
/-- a, b = x, y -/
def sPar (i j : Nat) (R : MA) : MS := fun ρ S => (R ρ S).bind fun p => match p.1 with
  | [w, u] => if i < ρ.length ∧ j < ρ.length then some (.nx, (ρ.set i (some w)).set j (some u), p.2) else none
  | _ => none
/-- name op= e -/
def sAug (i : Nat) (f : W → W → Sto → Option (W × Sto)) (A : ME) : MS := fun ρ S => match ρ[i]? with
  | some (some w) => (A ρ S).bind fun p => (f w p.1 p.2).bind fun q => some (.nx, ρ.set i (some q.1), q.2)
  | _ => none
theorem ip_of {op : Operator} {f : W → W → Sto → Option (W × Sto)} (h : OpR X (inplaceOp op) (rOp τ X.K f)) : PIp X op (rOp τ X.K f) := fun pins s σ H x y v u Q I rx ry q => h pins s σ H x y v u Q I rx ry q
def iaddI := iiD yes2 fun i j => .int (i + j)
def isubI := iiD yes2 fun i j => .int (i - j)
theorem ip_addI : PIp X .Add (rOp τ X.K iaddI) := ip_of (iiD_of (rI_of0 iop_add) (fun _ _ _ => trivial) fun _ _ _ => .int _)
/-- o[i] = e, o[i] op= e -/
def gSubD (A B : ME) (f : W → W → W → Sto → Option Sto) : MG := fun w ρ S => (A ρ S).bind fun p => (B ρ p.2).bind fun q => (f p.1 q.1 w q.2).bind fun S' => some (ρ, S')
theorem dg_sub {f : W → W → W → Sto → Option Sto} (ho : PE X o (rdE τ X.K A)) (hi : PE X a (rdE τ X.K B)) (hs : PSet X (rSet τ X.K f))
    (ha : ∀ v, assign (.Subscript o a pos) X.env v = (do
      let ov ← holding [v] (eval o X.env)
      let iv ← holding [v, ov] (eval a X.env)
      standAt pos
      holding [v, ov, iv] (setItem ov iv v)
      release [v, ov, iv] []) := by intro _; rfl) : PG X (.Subscript o a pos) (rdG τ X.K vis (gSubD A B f)) := by
  refine ⟨fun pins s σ H v u Q I r h => (pg_sub ho hi hs ha).run pins s σ H v u Q I r ?_⟩
  obtain ⟨m, S, ρ, w, ρ', S', q, r, e, p⟩ := h
  obtain ⟨⟨wo, S1⟩, e1, e⟩ := Option.bind_eq_some_iff.mp e
  obtain ⟨⟨wi, S2⟩, e2, e⟩ := Option.bind_eq_some_iff.mp e
  obtain ⟨S3, e3, e⟩ := Option.bind_eq_some_iff.mp e
  cases e
  refine ⟨m, S, ρ, wo, S1, q, e1, fun ext H1 x f q1 fr r1 => ⟨_, S1, ρ, wi, S2, q1, e2, fun ext2 H2 y f2 q2 fr2 r2 => ?_⟩⟩
  refine ⟨_, S2, ρ, σ, wo, wi, w, _, q2, r1.mono fr2.kp, r2, (r.mono fr.kp).mono fr2.kp, e3, fun ext3 H3 f3 q3 fr3 => ?_⟩
  exact ((p.at rfl f q1 fr).at rfl f2 q2 fr2).at rfl f3 q3 fr3 |>.now rfl q3
def sAugS (A B C : ME) (g f : W → W → Sto → Option (W × Sto)) (t : W → W → W → Sto → Option Sto) : MS := fun ρ S => (A ρ S).bind fun p => (B ρ p.2).bind fun q => (g p.1 q.1 q.2).bind fun x => (C ρ x.2).bind fun y => (f x.1 y.1 y.2).bind fun z => (t p.1 q.1 z.1 z.2).bind fun S' => some (.nx, ρ, S')
theorem ds_augS {op : Operator} {tpos : Pos} {g f : W → W → Sto → Option (W × Sto)} {t : W → W → W → Sto → Option Sto} (ho : PE X o (rdE τ X.K A)) (hi : PE X a (rdE τ X.K B)) (hg : PGet X (rOp τ X.K g)) (he : PE X e (rdE τ X.K C)) (hp : PIp X op (rOp τ X.K f)) (hs : PSet X (rSet τ X.K t))
    (ha : ∀ ov iv new, augStore a ov iv new = (do holding [new, ov, iv] (setItem ov iv new); release [new, ov, iv] []; pure .next) := by intros; rfl) : PS X (.AugAssign (.Subscript o a tpos) op e pos) (rdS τ X.K (sAugS A B C g f t)) := wkS (ps_augS ho hi hg he hp hs ha) fun D σ H q => by
  obtain ⟨m, S, ρ, fl, ρ', S', q, e, p⟩ := q
  obtain ⟨⟨wo, S1⟩, e1, e⟩ := Option.bind_eq_some_iff.mp e
  obtain ⟨⟨wi, S2⟩, e2, e⟩ := Option.bind_eq_some_iff.mp e
  obtain ⟨⟨wg, S3⟩, e3, e⟩ := Option.bind_eq_some_iff.mp e
  obtain ⟨⟨wc, S4⟩, e4, e⟩ := Option.bind_eq_some_iff.mp e
  obtain ⟨⟨wz, S5⟩, e5, e⟩ := Option.bind_eq_some_iff.mp e
  obtain ⟨S6, e6, e⟩ := Option.bind_eq_some_iff.mp e
  cases e
  refine ⟨m, S, ρ, wo, S1, q, e1, fun ext H1 x f q1 fr r1 => ⟨_, S1, ρ, wi, S2, q1, e2, fun ext2 H2 y f2 q2 fr2 r2 => ?_⟩⟩
  refine ⟨_, S2, ρ, σ, wo, wi, wg, S3, q2, r1.mono fr2.kp, r2, e3, fun ext3 H3 z f3 q3 fr3 r3 => ⟨_, S3, ρ, wc, S4, q3, e4, fun ext4 H4 y4 f4 q4 fr4 r4 => ?_⟩⟩
  refine ⟨_, S4, ρ, σ, wg, wc, wz, S5, q4, r3.mono fr4.kp, r4, e5, fun ext5 H5 z5 f5 q5 fr5 r5 => ?_⟩
  refine ⟨_, S5, ρ, σ, wo, wi, wz, _, q5, (((r1.mono fr2.kp).mono fr3.kp).mono fr4.kp).mono fr5.kp, ((r2.mono fr3.kp).mono fr4.kp).mono fr5.kp, r5, e6, fun ext6 H6 f6 q6 fr6 => ?_⟩
  exact (((((p.at f q1 fr).at f2 q2 fr2).at f3 q3 fr3).at f4 q4 fr4).at f5 q5 fr5).at f6 q6 fr6 |>.now q6
end
end DL
end
noncomputable section
namespace DL
open PySem PySem.Spec PyProof.Rows L2
/-- J gives ws one by one, whatever has grown since -/
structure Yl (τ : Tbs) (K : PySem.W.Frag) (m : List Addr) (J : It) (ws : List W) (H1 : Hp) : Prop where
  go : ∀ i H', i < ws.length → Kp H1 H' → J.go i H'
  stop : ∀ H', Kp H1 H' → J.stop ws.length H'
  yld : ∀ i H' x H'' w, ws[i]? = some w → Kp H1 H' → J.yld i H' x H'' → (∀ a o, H' a = some o → H'' a = some o) ∧ RW τ K m H'' x w
abbrev MI := DEnv → Sto → Option (List W × Sto)
def PostI (τ : Tbs) (K : PySem.W.Frag) (m : List Addr) (S' : Sto) (ρ : DEnv) (σ : L2.St) (H : Hp) (ws : List W) (R : It → Hp → Prop) : Prop :=
  ∀ ext J H', Fresh ext H → Sim τ K (m ++ ext) S' ρ σ H' → Fr m H H' → Yl τ K (m ++ ext) J ws H' → R J H'
def rdI (τ : Tbs) (K : PySem.W.Frag) (f : MI) : TI := fun σ H R => ∃ m S ρ ws S', Sim τ K m S ρ σ H ∧ f ρ S = some (ws, S') ∧ PostI τ K m S' ρ σ H ws R
theorem yl_of {K : PySem.W.Frag} {m : List Addr} {J : It} {ws : List W} {H1 : Hp} {G : Hp → Prop} {Y : Nat → Hp → V → Hp → Prop} (w : Walk J ws.length G Y) (hG : ∀ H', Kp H1 H' → G H')
    (hy : ∀ i H' x H'' w, ws[i]? = some w → Kp H1 H' → Y i H' x H'' → (∀ a o, H' a = some o → H'' a = some o) ∧ RW τ K m H'' x w) : Yl τ K m J ws H1 :=
  ⟨fun i H' hi k => w.goes i H' hi (hG H' k), fun H' k => w.stops H' (hG H' k), fun i H' x H'' u e k y => hy i H' x H'' u e k (w.yields i H' x H'' (List.getElem?_eq_some_iff.mp e).1 (hG H' k) y)⟩
section
variable {X : Cx} {tg e a b c : Expr} {es : List Expr} {body : List Stmt} {pos : Pos} {A B C : ME} {T U : MT} {F : MS} {g : MG} {R : MA} {it : MI} {vis : List Nat}
theorem rpAll_getV {K : PySem.W.Frag} {H : Hp} {ds : List PyData} {vs : List V} {i : Nat} {x : V} {w : W} {m : List Addr} (r : RpAll K H vs ds) (e : vs[i]? = some x) (e2 : (ds.map W.d)[i]? = some w) : RW τ K m H x w := by
  rw [List.getElem?_map] at e2
  obtain ⟨d, h1, rfl⟩ := Option.map_eq_some_iff.mp e2
  obtain ⟨v, h2, r2⟩ := r.get h1
  rw [e] at h2; cases h2
  exact r2
def rngD (lo : Int) (n : Nat) : List W := (List.range n).map fun i => W.d (.int (lo + (i : Nat)))
def iRng1D (R : MA) : MI := fun ρ S => (R ρ S).bind fun p => match p.1 with
  | [.d (.int n)] => if n.toNat < 2 ^ 61 ∧ (-n).toNat < 2 ^ 61 then some (rngD 0 n.toNat, p.2) else none
  | _ => none
def iRng2D (R : MA) : MI := fun ρ S => (R ρ S).bind fun p => match p.1 with
  | [.d (.int lo), .d (.int hi)] => if (lo.toNat < 2 ^ 61 ∧ (-lo).toNat < 2 ^ 61) ∧ hi.toNat < 2 ^ 61 ∧ (-hi).toNat < 2 ^ 61 then some (rngD lo (hi - lo).toNat, p.2) else none
  | _ => none
theorem yl_rng {K : PySem.W.Frag} {m : List Addr} {H1 : Hp} {lo : Int} {n : Nat} : Yl τ K m (Itr lo n) (rngD lo n) H1 := by
  refine yl_of (G := fun _ => True) (Y := YFn fun i => .int (lo + i)) ?_ (fun _ _ => trivial) fun i H' x H'' w ew k y => ?_
  · have : (rngD lo n).length = n := by simp [rngD]
    rw [this]; exact walk_range
  · obtain ⟨rfl, rfl⟩ := y
    refine ⟨fun _ _ z => z, ?_⟩
    simp only [rngD, List.getElem?_map] at ew
    obtain ⟨j, h1, rfl⟩ := Option.map_eq_some_iff.mp ew
    obtain ⟨h2, h3⟩ := List.getElem?_eq_some_iff.mp h1
    rw [List.getElem_range] at h3
    subst h3
    exact .int _
theorem di_rng1 {p : Pos} (hg : Gl X "range") (hm : X.mg "range" = none) (ha : PA X [a] (rdA τ X.K R)) (hs : starEach [a] X.env = [(false, eval a X.env)] := by rfl) : PI X tg (.Call (.Name "range" p) [a] [] pos) (rdI τ X.K (iRng1D R)) := ⟨fun pins s σ H R' I q => (pi_range1 hg hm ha hs).run pins s σ H R' I (by
  obtain ⟨m, S, ρ, ws, S', q, e, p⟩ := q
  obtain ⟨⟨us, S1⟩, e1, e2⟩ := Option.bind_eq_some_iff.mp e
  refine ⟨m, S, ρ, us, S1, q, e1, fun ext H1 vs f q1 fr r => ?_⟩
  simp only at e2
  split at e2
  · split at e2
    · rename_i hb
      cases e2
      obtain ⟨v, rfl, r1⟩ := prd1 r
      obtain rfl := rp_int r1
      exact ⟨_, rfl, by omega, by omega, p ext _ H1 f q1 fr yl_rng⟩
    · cases e2
  · cases e2)⟩
def forL (g : MG) (F : MS) : List W → MS
  | [], ρ, S => some (.nx, ρ, S)
  | w :: ws, ρ, S => (g w ρ S).bind fun p => (F p.1 p.2).bind fun q => match q.1 with
    | .nx => forL g F ws q.2.1 q.2.2
    | .ct => forL g F ws q.2.1 q.2.2
    | .bk => some (.nx, q.2.1, q.2.2)
    | .rt w => some (.rt w, q.2.1, q.2.2)
def sFor (it : MI) (g : MG) (F : MS) : MS := fun ρ S => (it ρ S).bind fun p => forL g F p.1 ρ p.2
theorem rd_for {K : PySem.W.Frag} {D : Ends} {σ : L2.St} {H : Hp} (h : rdS τ K (sFor it g F) D σ H) : tFor (rdI τ K it) (rdG τ K vis g) (rdS τ K F) D σ H := by
  obtain ⟨m, S, ρ, fl, ρ', S', q, e, p⟩ := h
  obtain ⟨⟨ws, S1⟩, e1, e2⟩ := Option.bind_eq_some_iff.mp e
  refine ⟨m, S, ρ, ws, S1, q, e1, fun ext J H1 f q1 fr yl => ?_⟩
  have p1 := p.at f q1 fr
  clear p fr f q e e1
  generalize m ++ ext = m at *
  refine ⟨fun i n σ' H' => ∃ e2 S2 ρ2, n = ws.length - i ∧ i ≤ ws.length ∧ Fresh e2 H1 ∧ Sim τ K (m ++ e2) S2 ρ2 σ' H' ∧ Fr m H1 H' ∧ forL g F (ws.drop i) ρ2 S2 = some (fl, ρ', S'),
    ⟨_, [], S1, ρ, rfl, Nat.zero_le _, fun _ h => absurd h (by simp), by rwa [List.append_nil], Fr.refl, e2⟩, ?_⟩
  rintro i n σ' H' ⟨e2, S2, ρ2, rfl, hi, f2, q2, fr2, e⟩
  have p2 := p1.at f2 q2 fr2
  by_cases hlt : i < ws.length
  · rw [List.drop_eq_getElem_cons hlt] at e
    simp only [forL] at e
    obtain ⟨⟨ρ3, S3⟩, e3, e⟩ := Option.bind_eq_some_iff.mp e
    obtain ⟨⟨f1, ρ4, S4⟩, e4, e⟩ := Option.bind_eq_some_iff.mp e
    refine .inr ⟨yl.go i H' hlt fr2.kp, fun σ4 H4 => ∃ n', n' < ws.length - i ∧ ∃ e2 S2 ρ2, n' = ws.length - (i + 1) ∧ i + 1 ≤ ws.length ∧ Fresh e2 H1 ∧ Sim τ K (m ++ e2) S2 ρ2 σ4 H4 ∧ Fr m H1 H4 ∧ forL g F (ws.drop (i + 1)) ρ2 S2 = some (fl, ρ', S'), fun σ4 H4 z => z, fun x H2 y => ?_⟩
    obtain ⟨kp, rx⟩ := yl.yld i H' x H2 ws[i] (List.getElem?_eq_getElem hlt) fr2.kp y
    have q3 := q2.same kp
    have fr3 : Fr (m ++ e2) H' H2 := Fr.of kp
    refine ⟨m ++ e2, S2, ρ2, ws[i], ρ3, S3, q3, rx.mono (Kp.refl _), e3, fun ext3 σ3 H3 _ f3 q4 fr4 => ⟨_, S3, ρ3, f1, ρ4, S4, q4, e4, fun ext4 σ4 H4 f4 q5 fr5 => ?_⟩⟩
    have q3' : Sim τ K ((m ++ e2) ++ []) S2 ρ2 σ' H2 := by rwa [List.append_nil]
    have fr4' : Fr (m ++ e2) H' H3 := Fr.pre kp fr4
    have f3' : Fresh ext3 H' := fun a ha => by
      cases z : H' a with
      | none => rfl
      | some o => have := kp a o z; rw [f3 a ha] at this; cases this
    have p3 := (p2.at f3' q4 fr4').at f4 q5 fr5
    have ff : Fresh (e2 ++ ext3) H1 := f2.append fr2 q2 f3'
    have q4' : Sim τ K (m ++ (e2 ++ ext3)) S3 ρ3 σ3 H3 := by rwa [← List.append_assoc]
    have fr4'' : Fr m H1 H3 := fr2.trans f2 fr4'
    have q5' : Sim τ K (m ++ (e2 ++ ext3 ++ ext4)) S4 ρ4 σ4 H4 := by rw [← List.append_assoc, ← List.append_assoc]; exact q5
    have fr5' : Fr m H1 H4 := fr4''.trans ff (by rwa [← List.append_assoc])
    have next : forL g F (ws.drop (i + 1)) ρ4 S4 = some (fl, ρ', S') → ∃ n', n' < ws.length - i ∧ ∃ e2 S2 ρ2, n' = ws.length - (i + 1) ∧ i + 1 ≤ ws.length ∧ Fresh e2 H1 ∧ Sim τ K (m ++ e2) S2 ρ2 σ4 H4 ∧ Fr m H1 H4 ∧ forL g F (ws.drop (i + 1)) ρ2 S2 = some (fl, ρ', S') := fun e =>
      ⟨_, by omega, e2 ++ ext3 ++ ext4, S4, ρ4, rfl, hlt, ff.append fr4'' q4' f4, q5', fr5', e⟩
    cases f1 with
    | nx => exact next e
    | ct => exact next e
    | bk => cases e; exact p3.now q5
    | rt w => cases e; exact p3.now q5
  · have ei : i = ws.length := by omega
    subst ei
    rw [List.drop_length] at e
    cases e
    exact .inl ⟨yl.stop H' fr2.kp, p2.now q2⟩
theorem ds_for (hp : PassesOwn (model X.prog X.w) X.A X.env X.xe) (hc : X.calm = true) (hi : PI X tg e (rdI τ X.K it)) (hg : PG X tg (rdG τ X.K vis g)) (hb : PSs X body (rdS τ X.K F))
    (hs : ∀ x, foldedSetIterable e X.env x = pure x := by intro _; rfl) : PS X (.For tg e body [] pos) (rdS τ X.K (sFor it g F)) := wkS (ps_for hp hc hi hg hb hs) fun D σ H q => rd_for q
def whileL (T : MT) (F : MS) : Nat → MS
  | 0, _, _ => none
  | n + 1, ρ, S => (T ρ S).bind fun p => if p.1 = true then (F ρ p.2).bind fun q => (match q.1 with
    | .nx => whileL T F n q.2.1 q.2.2
    | .ct => whileL T F n q.2.1 q.2.2
    | .bk => some (.nx, q.2.1, q.2.2)
    | .rt w => some (.rt w, q.2.1, q.2.2)) else some (.nx, ρ, p.2)
end
end DL
end
noncomputable section
namespace DL
open PySem PySem.Spec PyProof.Rows L2
def wipeD (ρ : DEnv) : List Nat → DEnv
  | [] => ρ
  | v :: vs => (wipeD ρ vs).set v none
theorem wipeD_len (ρ : DEnv) : ∀ vs : List Nat, (wipeD ρ vs).length = ρ.length
  | [] => rfl
  | v :: vs => by simp [wipeD, wipeD_len ρ vs]
theorem wipeD_some {ρ : DEnv} {i : Nat} {x : W} : ∀ {vs : List Nat}, (wipeD ρ vs)[i]? = some (some x) → ρ[i]? = some (some x) ∧ i ∉ vs
  | [], h => ⟨h, by simp⟩
  | v :: vs, h => by
    simp only [wipeD] at h
    by_cases hi : v = i
    · subst hi
      by_cases hv : v < (wipeD ρ vs).length
      · rw [List.getElem?_set_self hv] at h; cases h
      · rw [List.getElem?_eq_none (by simpa using hv)] at h; cases h
    · rw [List.getElem?_set_ne hi] at h
      obtain ⟨h1, h2⟩ := wipeD_some h
      exact ⟨h1, by simp only [List.mem_cons, not_or]; exact ⟨fun e => hi e.symm, h2⟩⟩
section
variable {K : PySem.W.Frag} {H H1 : Hp} {m ext : List Addr} {S S1 S' : Sto} {ρ : DEnv} {σ : L2.St}
theorem Sim.wipe (q : Sim τ K m S ρ σ H) (vs : List Nat) : Sim τ K m S (wipeD ρ vs) (wipe σ vs) H := by
  refine ⟨fun i w e => ?_, q.len, q.nd, q.obs, by rw [wipeD_len, wipe_length]; exact q.rl, q.tb⟩
  obtain ⟨h1, h2⟩ := wipeD_some e
  obtain ⟨v, h, r⟩ := q.slot i w h1
  exact ⟨v, by rw [wipe_out h2]; exact h, r⟩
/-- something else changed -/
theorem Sim.other {a : Addr} {o u : HO} (q : Sim τ K m S ρ σ H) (nm : a ∉ m) (ha : H a = some u) (hi : ¬ Fix u) : Sim τ K m S ρ σ (upd H a o) := by
  have kp : Kp H (upd H a o) := fun b x h i => by
    by_cases e : b = a
    · subst e; rw [ha] at h; cases h; exact absurd i (imm_fix hi)
    · rw [upd_ne e]; exact h
  refine ⟨fun i w e => ?_, q.len, q.nd, fun n ob e => ?_, q.rl, q.tb.put (fun x hx => by rw [ha] at hx; cases hx; exact hi)⟩
  · obtain ⟨v, h, r⟩ := q.slot i w e
    exact ⟨v, h, r.mono0 kp⟩
  · obtain ⟨b, h, r⟩ := q.obs n ob e
    have hb : b ≠ a := fun z => nm (by rw [← z]; exact List.mem_of_getElem? h)
    have := RO.mono (ext := []) r kp (fun x hx => by rw [upd_ne hb]; exact hx)
    rw [List.append_nil] at this
    exact ⟨b, h, this⟩
theorem Sim.adopt {a : Addr} {ob : Ob} (q : Sim τ K m S ρ σ H) (nm : a ∉ m) (r : RO τ K (m ++ [a]) H a ob) : Sim τ K (m ++ [a]) (S ++ [ob]) ρ σ H := by
  refine ⟨fun i w e => ?_, by simp [q.len], ?_, fun n o e => ?_, q.rl, q.tb⟩
  · obtain ⟨v, h, r⟩ := q.slot i w e
    exact ⟨v, h, r.mono (Kp.refl _)⟩
  · rw [List.nodup_append]
    refine ⟨q.nd, by simp, fun x hx y hy e => ?_⟩
    have ey : y = a := by simpa using hy
    exact nm (by rw [← ey, ← e]; exact hx)
  · by_cases hlt : n < S.length
    · rw [List.getElem?_append_left hlt] at e
      obtain ⟨b, h, r⟩ := q.obs n o e
      refine ⟨b, ?_, RO.mono r (Kp.refl _) (fun _ z => z)⟩
      rw [List.getElem?_append_left (by rw [q.len]; exact hlt)]; exact h
    · have h2 : n < (S ++ [ob]).length := (List.getElem?_eq_some_iff.mp e).1
      have en : n = S.length := by simp at h2; omega
      subst en
      have eo : ob = o := by simpa using e
      subst eo
      refine ⟨a, ?_, r⟩
      rw [List.getElem?_append_right (by rw [q.len]; exact Nat.le_refl _), q.len]; simp
theorem kp_other {a : Addr} {o u : HO} (ha : H a = some u) (hi : ¬ Imm u) : Kp H (upd H a o) := fun b x h i => by
  by_cases e : b = a
  · subst e; rw [ha] at h; cases h; exact absurd i hi
  · rw [upd_ne e]; exact h
theorem fresh_old (f : Fresh ext H1) (k : ∀ a o, H a = some o → H1 a = some o) : Fresh ext H := fun a h => by
  cases e : H a with
  | none => rfl
  | some o =>
    have := k a o e
    rw [f a h] at this; cases this
end
theorem wipe_at (σ : L2.St) : ∀ (vs : List Nat) (i : Nat), (wipe σ vs)[i]? = if i ∈ vs then (σ[i]?).map (fun _ => none) else σ[i]?
  | [], i => by simp [wipe]
  | v :: vs, i => by
    show ((wipe σ vs).set v none)[i]? = _
    by_cases hv : v = i
    · subst hv
      by_cases hl : v < σ.length
      · rw [List.getElem?_set_self (by rw [wipe_length]; exact hl)]
        simp [hl]
      · rw [List.getElem?_eq_none (by rw [List.length_set, wipe_length]; omega), List.getElem?_eq_none (by omega : σ.length ≤ v)]
        simp
    · rw [List.getElem?_set_ne hv, wipe_at σ vs i]
      have : i ≠ v := fun e => hv e.symm
      simp [this]
theorem wipe_twice (σ : L2.St) (vs : List Nat) : wipe (wipe σ vs) vs = wipe σ vs := by
  apply List.ext_getElem?
  intro i
  rw [wipe_at, wipe_at]
  by_cases h : i ∈ vs
  · simp only [h, if_true]
    cases σ[i]? <;> rfl
  · simp only [h, if_false]
def lcL (g : MG) (T : MT) (E : ME) (vs : List Nat) (ρ : DEnv) : List W → Sto → Option (List W × Sto)
  | [], S => some ([], S)
  | w :: ws, S => (g w (wipeD ρ vs) S).bind fun p => (T p.1 p.2).bind fun b => if b.1 = true then (E p.1 b.2).bind fun y => (lcL g T E vs ρ ws y.2).bind fun r => some (y.1 :: r.1, r.2) else lcL g T E vs ρ ws b.2
def mLc (it : MI) (g : MG) (T : MT) (E : ME) (vs : List Nat) (k : List W → Sto → Option (W × Sto)) : ME := fun ρ S => (it ρ S).bind fun p => (lcL g T E vs ρ p.1 p.2).bind fun r => k r.1 r.2
section
variable {K : PySem.W.Frag} {it : MI} {g : MG} {T : MT} {E : ME} {vs : List Nat} {k : List W → Sto → Option (W × Sto)} {σ : L2.St} {H : Hp} {Q : VK}
/-- the core: the list stands at D, outside of the store -/
theorem rd_lc (h : rdE τ K (mLc it g T E vs k) σ H Q) (hk : ∀ ws S w S', k ws S = some (w, S') → ws.length ≤ sizeLine) {Q' : VK}
    (fin : ∀ m S ρ H1 D acc zs w S', Sim τ K m S ρ σ H1 → D ∉ m → H1 D = some (.lst zs) → Paired (RW τ K m H1) zs acc → k acc S = some (w, S') →
      (∀ ext H2 v, D ∉ m → (∀ a ∈ ext, a = D) → Sim τ K (m ++ ext) S' ρ σ H2 → (∀ a o, H1 a = some o → a ≠ D → H2 a = some o) → RW τ K (m ++ ext) H2 v w → Q v H2) → Q' (.ref D) H1) :
    tLc (rdI τ K it) (rdG τ K vs g) (rdT τ K T) (rdE τ K E) vs σ H Q' := by
  obtain ⟨m, S, ρ, w, S', q, e, p⟩ := h
  obtain ⟨⟨ws, S1⟩, e1, e⟩ := Option.bind_eq_some_iff.mp e
  obtain ⟨⟨all, S9⟩, hh2, e3⟩ := Option.bind_eq_some_iff.mp e
  have hlen : all.length ≤ sizeLine := hk _ _ _ _ e3
  refine ⟨m, S, ρ, ws, S1, q, e1, fun ext J H1 f q1 fr yl D hD => ?_⟩
  have p1 := p.at f q1 fr
  clear p fr f q e e1
  generalize m ++ ext = m at *
  have keepD := upd_keeps (o := HO.lst []) hD
  have q2 := q1.same keepD
  have nD := q1.nomem hD
  have kpD : Kp H1 (upd H1 D (.lst [])) := upd_kp hD
  refine ⟨fun i n H' => ∃ e2 S2 acc r zs, n = ws.length - i ∧ i ≤ ws.length ∧ Fresh e2 (upd H1 D (.lst [])) ∧ Sim τ K (m ++ e2) S2 ρ σ H' ∧ Fr m H1 H' ∧ D ∉ m ++ e2 ∧ H' D = some (.lst zs) ∧ Paired (RW τ K (m ++ e2) H') zs acc ∧ lcL g T E vs ρ (ws.drop i) S2 = some (r, S9) ∧ all = acc ++ r,
    ⟨_, [], S1, [], all, [], rfl, Nat.zero_le _, fun _ h => absurd h (by simp), by rwa [List.append_nil], Fr.of keepD, by rwa [List.append_nil], upd_same, .nil, hh2, rfl⟩, ?_⟩
  rintro i n H' ⟨e2, S2, acc, r, zs, rfl, hi, f2, q3, fr2, n2, hzs, pz, e, hall⟩
  have fr2' : Fr m H1 H' := fr2
  have kp2 : Kp H1 H' := fr2'.kp
  have f2o : Fresh e2 H1 := fresh_old f2 keepD
  by_cases hlt : i < ws.length
  · rw [List.drop_eq_getElem_cons hlt] at e
    simp only [lcL] at e
    obtain ⟨⟨ρ3, S3⟩, e3', e⟩ := Option.bind_eq_some_iff.mp e
    obtain ⟨⟨b, S4⟩, e4, e⟩ := Option.bind_eq_some_iff.mp e
    refine .inr ⟨yl.go i H' hlt kp2, fun H4 => ∃ n', n' < ws.length - i ∧ ∃ e2 S2 acc r zs, n' = ws.length - (i + 1) ∧ i + 1 ≤ ws.length ∧ Fresh e2 (upd H1 D (.lst [])) ∧ Sim τ K (m ++ e2) S2 ρ σ H4 ∧ Fr m H1 H4 ∧ D ∉ m ++ e2 ∧ H4 D = some (.lst zs) ∧ Paired (RW τ K (m ++ e2) H4) zs acc ∧ lcL g T E vs ρ (ws.drop (i + 1)) S2 = some (r, S9) ∧ all = acc ++ r, fun H4 z => z, fun x H2 y => ?_⟩
    obtain ⟨kp, rx⟩ := yl.yld i H' x H2 ws[i] (List.getElem?_eq_getElem hlt) kp2 y
    have q4 := q3.same kp
    have base : Fresh e2 (upd H1 D (.lst [])) := f2
    have hD2 : H2 D = some (.lst zs) := kp _ _ hzs
    refine ⟨m ++ e2, S2, wipeD ρ vs, ws[i], ρ3, S3, q4.wipe vs, rx.mono (Kp.refl _), e3', fun ext3 σ3 H3 hw f3 q5 fr3 => ⟨by rw [hw, wipe_twice], ?_⟩⟩
    -- the frame's own slots are as they were
    have simAt : ∀ (ext : List Addr) (S5 : Sto) (ρ5 : DEnv) (σ5 : L2.St) (H5 : Hp), Fresh ext H2 → Sim τ K (m ++ e2 ++ ext) S5 ρ5 σ5 H5 → Fr (m ++ e2) H2 H5 →
        Sim τ K (m ++ (e2 ++ ext)) S5 ρ σ H5 ∧ Fresh (e2 ++ ext) (upd H1 D (.lst [])) ∧ Fr m H1 H5 ∧ D ∉ m ++ (e2 ++ ext) ∧ H5 D = some (.lst zs) ∧ Paired (RW τ K (m ++ (e2 ++ ext)) H5) zs acc := fun ext S5 ρ5 σ5 H5 f5 q6 fr5 => by
      have k5 : Kp H' H5 := (fun a o h i => fr5.st a o (kp a o h) (.inr i) (imm_tbl i))
      have nde : D ∉ ext := fun z => by rw [f5 D z] at hD2; cases hD2
      refine ⟨⟨fun j w' ej => ?_, by rw [← List.append_assoc]; exact q6.len, by rw [← List.append_assoc]; exact q6.nd, by rw [← List.append_assoc]; exact q6.obs, q3.rl, q6.tb⟩, ?_, (fr2.post kp).trans f2o fr5, ?_, ?_, ?_⟩
      · obtain ⟨v, hv, rv⟩ := q3.slot j w' ej
        refine ⟨v, hv, ?_⟩
        rw [← List.append_assoc]
        exact rv.mono k5
      · intro a ha
        rcases List.mem_append.mp ha with z | z
        · exact f2 a z
        · have h2 := f5 a z
          have nD' : a ≠ D := fun w => nde (w ▸ z)
          rw [upd_ne nD']
          exact fr2.no a (none_old kp h2)
      · intro z
        rcases List.mem_append.mp z with z | z
        · exact n2 (List.mem_append_left _ z)
        · rcases List.mem_append.mp z with z | z
          · exact n2 (List.mem_append_right _ z)
          · exact nde z
      · exact fr5.st D _ hD2 (.inl n2) (fun _ z => nomatch z)
      · rw [← List.append_assoc]
        exact pRW.mono pz k5
    refine ⟨_, S3, ρ3, b, S4, q5, e4, fun ext4 H4 f4 q6 fr4 => ?_⟩
    have ff : Fresh (ext3 ++ ext4) H2 := f3.append fr3 q5 f4
    have fr24 : Fr (m ++ e2) H2 H4 := fr3.trans f3 fr4
    cases b with
    | false =>
      simp only [Bool.false_eq_true, if_false] at e ⊢
      obtain ⟨s1, s2, s3, s4, s5, s6⟩ := simAt (ext3 ++ ext4) S4 _ _ H4 ff (by rwa [← List.append_assoc]) fr24
      exact ⟨_, by omega, _, S4, acc, r, zs, rfl, hlt, s2, s1, s3, s4, s5, s6, e, hall⟩
    | true =>
      simp only [if_true] at e ⊢
      obtain ⟨⟨y, S5⟩, e5, e⟩ := Option.bind_eq_some_iff.mp e
      obtain ⟨⟨r', S6⟩, e6, e7⟩ := Option.bind_eq_some_iff.mp e
      cases e7
      refine ⟨_, S4, ρ3, y, S5, q6, e5, fun ext5 H5 yv f5 q7 fr5 ry => ?_⟩
      have ff5 : Fresh (ext3 ++ ext4 ++ ext5) H2 := ff.append fr24 (by rwa [← List.append_assoc]) f5
      have fr25 : Fr (m ++ e2) H2 H5 := fr24.trans ff (by rwa [← List.append_assoc])
      obtain ⟨s1, s2, s3, s4, s5, s6⟩ := simAt (ext3 ++ ext4 ++ ext5) S5 _ _ H5 ff5 (by rw [← List.append_assoc, ← List.append_assoc]; exact q7) fr25
      have hacc : acc.length < sizeLine := by
        have : all.length = acc.length + (r'.length + 1) := by rw [hall, List.length_append, List.length_cons]
        omega
      refine ⟨zs, s5, by rw [s6.length]; exact hacc, _, by omega, _, S5, acc ++ [y], r', zs ++ [yv], rfl, hlt, s2, s1.other s4 s5 (fun z => z), s3.updo hD, s4, upd_same, ?_, e6, by rw [hall, List.append_assoc]; rfl⟩
      · have kk : Kp H5 (upd H5 D (.lst (zs ++ [yv]))) := kp_other s5 fun z => z
        refine paired_app (Paired.mapP s6 fun _ _ z => z.mono0 kk) (.cons ?_ .nil)
        have := ry.mono0 kk
        rwa [show m ++ e2 ++ ext3 ++ ext4 ++ ext5 = m ++ (e2 ++ (ext3 ++ ext4 ++ ext5)) by simp] at this
  · have ei : i = ws.length := by omega
    subst ei
    rw [List.drop_length] at e
    cases e
    rw [List.append_nil] at hall
    subst hall
    refine .inl ⟨yl.stop H' kp2, fin (m ++ e2) S9 ρ H' D all zs w S' q3 n2 hzs pz e3 fun ext H2 v _ hext q9 k9 r9 => ?_⟩
    have dext : Fresh (e2 ++ ext) H1 := fun a ha => by
      rcases List.mem_append.mp ha with z | z
      · exact f2o a z
      · rw [hext a z]; exact hD
    refine p1 (e2 ++ ext) H2 v dext (by rwa [← List.append_assoc]) (fr2.postD hD k9) (by rwa [← List.append_assoc])
/-- the list locked -/
def kFrz : List W → Sto → Option (W × Sto) := fun ws S => (allD ws).bind fun ds => if ds.length ≤ sizeLine then some (.d (.list ds), S) else none
def kBox : List W → Sto → Option (W × Sto) := fun ws S => if ws.length ≤ sizeLine then some (.loc S.length, S ++ [.lst ws]) else none
theorem allD_len : ∀ {ws : List W} {ds : List PyData}, allD ws = some ds → ds.length = ws.length
  | [], _, e => by cases e; rfl
  | .d x :: ws, ds, e => by
    simp only [allD, Option.map_eq_some_iff] at e
    obtain ⟨es, e1, rfl⟩ := e
    simp [allD_len e1]
  | .loc _ :: _, _, e => by cases e
theorem kFrz_len {ws : List W} {S S' : Sto} {w : W} (h : kFrz ws S = some (w, S')) : ws.length ≤ sizeLine := by
  obtain ⟨ds, e1, e2⟩ := Option.bind_eq_some_iff.mp h
  split at e2
  · rw [← allD_len e1]; assumption
  · cases e2
theorem rd_lcF (h : rdE τ K (mLc it g T E vs kFrz) σ H Q) : tLc (rdI τ K it) (rdG τ K vs g) (rdT τ K T) (rdE τ K E) vs σ H (Lk Q) :=
  rd_lc h (fun _ _ _ _ => kFrz_len) fun m S ρ H1 D acc zs w S' q nD hD pz e p => by
    obtain ⟨ds, e1, e2⟩ := Option.bind_eq_some_iff.mp e
    split at e2
    · cases e2
      refine ⟨D, zs, rfl, hD, fun o => ?_⟩
      have k : Kp H1 (upd H1 D (.frz o (.lst zs))) := kp_other hD fun z => z
      refine p [] _ _ nD (fun _ h => absurd h (by simp)) (by rw [List.append_nil]; exact q.other nD hD fun z => z) (fun a o h n => by rw [upd_ne n]; exact h) ?_
      exact Rp.lst (.inl ⟨o, upd_same⟩) (RpAll.mono k _ _ (allD_of e1 pz))
    · cases e2
end
section
variable {X : Cx} {elt tg iter : Expr} {ifs : List Expr} {scope : Scope} {own : List (Str × Nat)} {pos spos py : Pos} {it : MI} {g : MG} {T : MT} {E : ME}
def tTrue : MT := fun _ S => some (true, S)
theorem dts_nil : PTs X [] (rdT τ X.K tTrue) := ⟨fun p s σ H Q I q => pts_nil.run p s σ H Q I (by
  obtain ⟨m, S, ρ, b, S', q, e, p⟩ := q
  cases e
  exact p.now q)⟩
theorem dts_one {c : Expr} (h : PT X c (rdT τ X.K T)) : PTs X [c] (rdT τ X.K T) := pts_one h
theorem de_lc (hc : X.calm = true) (hN : X.N.Nodup) (hi : PI X tg iter (rdI τ X.K it)) (ok : BlkOk X.N X.env.scope scope own)
    (hg : ∀ (s : Shared) (H : Hp) (C : Addr) (cl : List (Str × Addr)) (fp : List Addr), PG (X.blk s H scope (compEnvC scope cl C X.env) fp) tg (rdG τ X.K (own.map (·.2)) g)) (ht : ∀ (s : Shared) (H : Hp) (C : Addr) (cl : List (Str × Addr)) (fp : List Addr), PTs (X.blk s H scope (compEnvC scope cl C X.env) fp) ifs (rdT τ X.K T))
    (he : ∀ (s : Shared) (H : Hp) (C : Addr) (cl : List (Str × Addr)) (fp : List Addr), PE (X.blk s H scope (compEnvC scope cl C X.env) fp) elt (rdE τ X.K E)) (hs : ∀ x, foldedSetIterable iter X.env x = pure x := by intro _; rfl) :
    PE X (.ListComp elt [⟨tg, iter, ifs, 0⟩] scope pos) (rdE τ X.K (mLc it g T E (own.map (·.2)) kFrz)) := wkE (peFrz (pe_lc hc hN hi ok hg ht he hs)) fun σ H Q q => rd_lcF q
/-- name = a new list, locked -/
def LkS (i : Nat) (D : Ends) : L2.St → Hp → Prop := fun σ' H1 => ∃ a xs, σ'[i]? = some (some (.ref a)) ∧ H1 a = some (.lst xs) ∧ ∀ o, D.nx σ' (upd H1 a (.frz o (.lst xs)))
theorem psFrz {st : Stmt} {t : TE} {i : Nat} (h : PS X st (tAsg t (gName i))) : PS X st fun D σ H => t σ H fun v H1 => LkS i D (σ.set i (some v)) H1 := by
  refine ⟨fun pins s σ H D I q => ?_⟩
  refine thn (h.run pins s σ H { nx := LkS i D, rt := fun _ _ => False } I q) fun f s1 q1 => ?_
  cases f with
  | next =>
    obtain ⟨σ', H', I', a, xs, e1, hl, q⟩ := q1
    obtain ⟨o, I2⟩ := I'.lock hl trivial
    exact ⟨σ', _, I2, q o⟩
  | brk => obtain ⟨_, _, _, z⟩ := q1; exact z.elim
  | cont => obtain ⟨_, _, _, z⟩ := q1; exact z.elim
  | ret v => obtain ⟨_, _, _, _, _, z⟩ := q1; exact z.elim
theorem asgE {A : ME} {i : Nat} {K : PySem.W.Frag} {D : Ends} {σ : L2.St} {H : Hp} (h : rdS τ K (sAsg A (gSet i)) D σ H) : rdE τ K A σ H (fun v H1 => D.nx (σ.set i (some v)) H1) ∧ i < σ.length := by
  obtain ⟨m, S, ρ, fl, ρ', S', q, e, p⟩ := h
  obtain ⟨⟨wx, S1⟩, e1, e2⟩ := Option.bind_eq_some_iff.mp e
  obtain ⟨⟨ρ2, S2⟩, e3, e4⟩ := Option.bind_eq_some_iff.mp e2
  cases e4
  unfold gSet at e3
  split at e3
  · rename_i hi
    cases e3
    have := q.rl
    exact ⟨⟨m, S, ρ, wx, _, q, e1, fun ext H1 x f q1 fr r => ((p.at f q1 fr).now (q1.slotset r))⟩, by omega⟩
  · cases e3
theorem ds_setLc {i : Nat} {y : Str} (hc : X.calm = true) (hN : X.N.Nodup) (hy : X.N[i]? = some y) (hyl : X.env.scope.names.lookup y = some .local)
    (hsw : swapsWith (.ListComp elt [⟨tg, iter, ifs, 0⟩] scope pos) (some (.Name y py)) spos.line X.env = pure true) (hi : PI X tg iter (rdI τ X.K it)) (ok : BlkOk X.N X.env.scope scope own)
    (hg : ∀ (s : Shared) (H : Hp) (C : Addr) (cl : List (Str × Addr)) (fp : List Addr), PG (X.blk s H scope (compEnvC scope cl C X.env) fp) tg (rdG τ X.K (own.map (·.2)) g)) (ht : ∀ (s : Shared) (H : Hp) (C : Addr) (cl : List (Str × Addr)) (fp : List Addr), PTs (X.blk s H scope (compEnvC scope cl C X.env) fp) ifs (rdT τ X.K T))
    (he : ∀ (s : Shared) (H : Hp) (C : Addr) (cl : List (Str × Addr)) (fp : List Addr), PE (X.blk s H scope (compEnvC scope cl C X.env) fp) elt (rdE τ X.K E)) (hs : ∀ x, foldedSetIterable iter X.env x = pure x := by intro _; rfl) :
    PS X (.Assign [.Name y py] (.ListComp elt [⟨tg, iter, ifs, 0⟩] scope pos) spos) (rdS τ X.K (sAsg (mLc it g T E (own.map (·.2)) kFrz) (gSet i))) := wkS (psFrz (ps_setLc hc hN hy hyl hsw hi ok hg ht he hs)) fun D σ H q => by
  obtain ⟨q1, hi⟩ := asgE q
  refine rd_lc q1 (fun _ _ _ _ => kFrz_len) fun m S ρ H1 D acc zs w S' q nD hD pz e p => ?_
  obtain ⟨ds, e1, e2⟩ := Option.bind_eq_some_iff.mp e
  split at e2
  · cases e2
    refine ⟨D, zs, by rw [List.getElem?_set_self hi], hD, fun o => ?_⟩
    have k : Kp H1 (upd H1 D (.frz o (.lst zs))) := kp_other hD fun z => z
    refine p [] _ _ nD (fun _ h => absurd h (by simp)) (by rw [List.append_nil]; exact q.other nD hD fun z => z) (fun a o h n => by rw [upd_ne n]; exact h) ?_
    exact Rp.lst (.inl ⟨o, upd_same⟩) (RpAll.mono k _ _ (allD_of e1 pz))
  · cases e2
end
end DL
end
noncomputable section
namespace DL
open PySem PySem.Spec PyProof.Rows L2
/-- a def as a function of data: the arguments, the objects that they point to -/
abbrev FS := List W → Sto → Option (W × Sto)
def spD (τ : Tbs) (K : PySem.W.Frag) (n : Nat) (f : FS) : Sp := fun vs H Q _ =>
  ∃ m S ws w S', Sim τ K m S [] [] H ∧ Paired (RW τ K m H) vs ws ∧ ws.length = n ∧ f ws S = some (w, S') ∧ Post τ K m S' [] [] H w Q
/-- a def's promise where no guard is up -/
structure FnG (P : Program) (w : World) (K : PySem.W.Frag) (mg : Str → Option Value) (base : Heap) (k : Nat) (f : Addr) (fd : FuncData) (ps : List Str) (sp : Sp) : Prop where
  len : ∀ vs H Q E, sp vs H Q E → vs.length = ps.length
  run : ∀ (A : Around) (outer : List Env) (s : Shared) (H : Hp) (args : Args) (us : List Value) (vs : List V) (Q : VK) (E : XK), Room k A → A.guards = some [] → Env0 P w K mg base A outer s H → BindsTo s fd args (ps.zip us) → Vals vs us → sp vs H Q E →
    codeAny (model P w) A (.call (.ref f) args) (CR CX0 outer P w H s Q E) s
def obD : Ob → Bool
  | .lst ws => (allD ws).isSome
  | .dicK kvs => (allD (kvs.map (·.2))).isSome
  | .dicT kvs => (allD (kvs.map (·.2))).isSome
  | .dicN _ => true
  | .dead => true
def wD : W → Bool
  | .d _ => true
  | .loc _ => false
  | .fn => false
theorem allD_wD : ∀ {ws : List W}, (allD ws).isSome = true → ∀ w ∈ ws, wD w = true
  | [], _, w, h => by simp at h
  | .d x :: ws, e, w, h => by
    simp only [allD, Option.isSome_map] at e
    rcases List.mem_cons.mp h with z | z
    · rw [z]; rfl
    · exact allD_wD e w z
  | .loc _ :: _, e, _, _ => by cases e
  | .fn :: _, e, _, _ => by cases e
theorem RW.anyM {K : PySem.W.Frag} {m m2 : List Addr} {H : Hp} {v : V} {w : W} (h : wD w = true) (r : RW τ K m H v w) : RW τ K m2 H v w := by
  cases w with
  | d x => exact r
  | loc n => cases h
  | fn => exact r
theorem paired_anyM {K : PySem.W.Frag} {m m2 : List Addr} {H : Hp} : ∀ {vs : List V} {ws : List W}, (∀ w ∈ ws, wD w = true) → Paired (RW τ K m H) vs ws → Paired (RW τ K m2 H) vs ws
  | _, _, _, .nil => .nil
  | _, _, h, .cons r t => .cons (r.anyM (h _ (by simp))) (paired_anyM (fun w hw => h w (by simp [hw])) t)
theorem pairedK_anyM {κ : Type} {K : PySem.W.Frag} {m m2 : List Addr} {H : Hp} : ∀ {vs : List (κ × V)} {ws : List (κ × W)}, (∀ w ∈ ws.map (·.2), wD w = true) → Paired (fun p q => p.1 = q.1 ∧ RW τ K m H p.2 q.2) vs ws → Paired (fun p q => p.1 = q.1 ∧ RW τ K m2 H p.2 q.2) vs ws
  | _, _, _, .nil => .nil
  | _, _, h, .cons r t => .cons ⟨r.1, r.2.anyM (h _ (by simp))⟩ (pairedK_anyM (fun w hw => h w (by simp at hw ⊢; exact .inr hw)) t)
theorem RO.anyM {K : PySem.W.Frag} {m m2 : List Addr} {H : Hp} {a : Addr} {ob : Ob} (h : obD ob = true) (r : RO τ K m H a ob) : RO τ K m2 H a ob := by
  cases ob with
  | lst ws => obtain ⟨vs, e, p⟩ := r; exact ⟨vs, e, paired_anyM (allD_wD h) p⟩
  | dicK kvs => obtain ⟨vs, e, p⟩ := r; exact ⟨vs, e, pairedK_anyM (allD_wD h) p⟩
  | dicT kvs => obtain ⟨vs, e, p⟩ := r; exact ⟨vs, e, pairedK_anyM (allD_wD h) p⟩
  | dicN kvs => exact r
  | dead => exact r
/-- what leaves a body: the value, the first n objects, and a new one if the value is it -/
def leave (n : Nat) (w : W) (S : Sto) : Option (W × Sto) :=
  if (S.take n).all obD = true then match w with
    | .d x => some (.d x, S.take n)
    | .loc j => match S[j]? with
      | some ob => if n ≤ j ∧ obD ob = true then some (.loc n, S.take n ++ [ob]) else none
      | none => none
    | .fn => none
  else none
def runF (N : Nat) (b : MS) : FS := fun ws S => (b (ws.map some ++ List.replicate (N - ws.length) none) S).bind fun p => match p.1 with
  | .nx => leave S.length (.d .none) p.2.2
  | .rt w => leave S.length w p.2.2
  | _ => none
section
variable {K : PySem.W.Frag} {H H' : Hp} {m ext : List Addr} {S S1 S' : Sto} {ρ : DEnv} {σ : L2.St} {w w' : W} {Q : VK}
theorem sim_take (q : Sim τ K (m ++ ext) S1 ρ σ H') (hl : m.length = S.length) (h : (S1.take S.length).all obD = true) : Sim τ K m (S1.take S.length) [] [] H' := by
  have l1 : m.length + ext.length = S1.length := by have := q.len; rwa [List.length_append] at this
  refine ⟨fun i w e => by simp at e, by rw [List.length_take]; omega, (List.nodup_append.mp q.nd).1, fun n ob e => ?_, Nat.le_refl _, q.tb⟩
  have hn : n < (S1.take S.length).length := (List.getElem?_eq_some_iff.mp e).1
  rw [List.length_take] at hn
  have e' : S1[n]? = some ob := by rw [List.getElem?_take_of_lt (by omega)] at e; exact e
  obtain ⟨a, ha, r⟩ := q.obs n ob e'
  rw [List.getElem?_append_left (by omega)] at ha
  exact ⟨a, ha, r.anyM (List.all_eq_true.mp h ob (List.mem_of_getElem? e))⟩
theorem leave_ok (q0 : Sim τ K m S [] [] H) (p : Post τ K m S' [] [] H w' Q) (hf : Fresh ext H) (q : Sim τ K (m ++ ext) S1 ρ σ H') (fr : Fr m H H') (e : leave S.length w S1 = some (w', S')) {v : V} (r : RW τ K (m ++ ext) H' v w) : Q v H' := by
  unfold leave at e
  split at e
  · rename_i hd
    have q1 := sim_take q q0.len hd
    split at e
    · cases e
      exact p [] H' v (fun _ h => absurd h (by simp)) (by rwa [List.append_nil]) fr (RW.anyM (m := m ++ ext) rfl r)
    · rename_i j
      split at e
      · rename_i ob hj
        split at e
        · rename_i hob
          cases e
          obtain ⟨a, ha, rfl⟩ := r
          obtain ⟨a2, ha2, ro⟩ := q.obs j ob hj
          rw [ha] at ha2; cases ha2
          have hlen := q0.len
          have hae : ext[j - m.length]? = some a := by
            rw [List.getElem?_append_right (by omega)] at ha
            exact ha
          have am : a ∈ ext := List.mem_of_getElem? hae
          have nm : a ∉ m := fun z => (List.nodup_append.mp q.nd).2.2 a z a am rfl
          refine p [a] H' _ (fun b hb => by simp at hb; subst hb; exact hf _ am) (q1.adopt nm (ro.anyM hob.2)) fr ⟨a, ?_, rfl⟩
          rw [← q0.len, List.getElem?_append_right (Nat.le_refl _)]; simp
        · cases e
      · cases e
    · cases e
  · cases e
end
section
variable {P : Program} {w : World} {K : PySem.W.Frag} {mg : Str → Option Value} {base : Heap}
/-- a def keeps the promise of its body's function, its code object named -/
theorem fnGcd {x qual : Str} {st : Stmt} {f : Addr} {N ps : List Str} {k : Nat} {b : MS} {kV doc pm ct oc cdv : Value} {an od : Option Addr} {osl : Array (Option Value)} (lk : K.lookup f = some ⟨oc, od, .func (PySem.W.fnOf x qual (defArgs st) (defBody st) (defScope st) .none kV doc pm an cdv ct), osl⟩) (hcd : PySem.W.codeIn K cdv qual = true) (sc : FnScope N ps (defScope st))
    (body : ∀ (A : Around) (outer : List Env) (s : Shared) (H : Hp) (E : XK), Room k (A.deeper (envOfC qual (defScope st) s.heap.objs.size f cdv)) → (A.deeper (envOfC qual (defScope st) s.heap.objs.size f cdv)).guards = some [] →
      PSs (cxOf CX0 P w K mg base N qual (defScope st) f cdv A outer s H E).nox (defBody st) (rdS τ K b)) : FnG P w K mg base (k + 1) f (PySem.W.fnOf x qual (defArgs st) (defBody st) (defScope st) .none kV doc pm an cdv ct) ps (spD τ K ps.length (runF N.length b)) := by
  have plen : ∀ vs H Q E, spD τ K ps.length (runF N.length b) vs H Q E → vs.length = ps.length := fun vs H Q E ⟨_, _, ws, _, _, _, r, hl, _⟩ => r.length.trans hl
  refine ⟨plen, ?_⟩
  intro A outer s H args us vs Q E room hgd e0 bind rel want
  have argl := plen _ _ _ _ want
  have inK : K.In s.heap := e0.mod.kin.keeps fun z o e => (e0.bs z o e).1
  have nolim : s.heap.NoLimit := e0.mod.nolimit.keeps fun z o e => (e0.bs z o e).1
  have kinds : ∀ y ∈ ps.zip us, (defScope st).names.lookup y.1 = some .local ∨ ((defScope st).names.lookup y.1 = some .cell ∧ ((cellsFrom (s.heap.objs.size + 1) (defScope st).names []).lookup y.1).isSome = true) := by
    rintro ⟨n, z⟩ hy
    rcases sc.par n (List.of_mem_zip hy).1 with c | c
    · exact Or.inl c
    · exact Or.inr ⟨c, PySem.W.cellsFrom_some _ _ _ (Or.inl c)⟩
  refine codeAny_call_function room.depth (inK _ _ lk) rfl sc.co sc.gen rfl (PySem.W.codeRec_of inK hcd) (bind _ _ _ _ (wpAny_newFunctionEnv_cells sc.kind kinds fun env ee s1 made => ?_))
  subst ee
  refine ⟨nolim.keeps made.toInCall.keep, codeAny_func ?_⟩
  have I0 : Inv (cxOf CX0 P w K mg base N qual (defScope st) f cdv A outer s H E) [] (start N vs) H s1 := inv_start sc room.hd e0 argl rel made
  have run := ((body A outer s H E (room.deeper _) hgd).nox).run [] s1 (start N vs) H { nx := fun _ H' => Q .non H', rt := Q } I0 (by
    obtain ⟨m, S, ws, w0, S', q0, pr, hl, e, p⟩ := want
    obtain ⟨⟨fl, ρ', S1⟩, e1, e2⟩ := Option.bind_eq_some_iff.mp e
    have npl : ps.length ≤ N.length := by
      have := congrArg List.length sc.pre
      rw [List.length_take] at this
      omega
    have vl := pr.length
    refine ⟨m, S, _, fl, ρ', S1, ⟨fun i w' ei => ?_, q0.len, q0.nd, q0.obs, ?_, q0.tb⟩, e1, fun ext σ' H' hf q fr => ?_⟩
    · by_cases hi : i < ws.length
      · rw [List.getElem?_append_left (by simpa using hi), List.getElem?_map] at ei
        obtain ⟨w2, h2, h3⟩ := Option.map_eq_some_iff.mp ei
        cases h3
        obtain ⟨v, hv, rv⟩ := paired_getR pr h2
        refine ⟨v, ?_, rv⟩
        unfold L2.start
        rw [List.getElem?_append_left (by rw [List.length_map]; omega), List.getElem?_map, hv]; rfl
      · rw [List.getElem?_append_right (by simpa using Nat.le_of_not_lt hi), List.getElem?_replicate] at ei
        split at ei <;> cases ei
    · unfold L2.start
      simp only [List.length_append, List.length_map, List.length_replicate]
      omega
    · cases fl with
      | nx => exact leave_ok q0 p hf q fr e2 (v := .non) .non
      | rt w2 => exact fun v r => leave_ok q0 p hf q fr e2 r
      | bk => cases e2
      | ct => cases e2)
  refine wpAny_mono run (fun fl s' hs => ?_) fun e s' hs => hs
  cases fl with
  | ret u =>
    obtain ⟨v, σ', H', J, rv, q⟩ := hs
    exact ⟨v, H', J.os, J.bare, J.base, J.hok, rv, q⟩
  | next =>
    obtain ⟨σ', H', J, q⟩ := hs
    exact ⟨.non, H', J.os, J.bare, J.base, J.hok, rfl, q⟩
  | brk => obtain ⟨_, _, _, q⟩ := hs; exact False.elim q
  | cont => obtain ⟨_, _, _, q⟩ := hs; exact False.elim q
/-- a def keeps the promise of its body's function -/
theorem fnG {x qual : Str} {st : Stmt} {f : Addr} {fd : FuncData} {N ps : List Str} {k : Nat} {b : MS} (F : Fun K x qual st f fd) (sc : FnScope N ps (defScope st))
    (body : ∀ (cdv : Value) (A : Around) (outer : List Env) (s : Shared) (H : Hp) (E : XK), Room k (A.deeper (envOfC qual (defScope st) s.heap.objs.size f cdv)) → (A.deeper (envOfC qual (defScope st) s.heap.objs.size f cdv)).guards = some [] →
      PSs (cxOf CX0 P w K mg base N qual (defScope st) f cdv A outer s H E).nox (defBody st) (rdS τ K b)) : FnG P w K mg base (k + 1) f fd ps (spD τ K ps.length (runF N.length b)) := by
  obtain ⟨oc, od, kV, doc, pm, an, cdv, ct, osl, rfl, lk, hcd⟩ := F.ex
  exact fnGcd lk hcd sc (body cdv)
end
def firstLoc : List W → Option Nat
  | [] => none
  | .loc n :: _ => some n
  | .d _ :: ws => firstLoc ws
  | .fn :: ws => firstLoc ws
def allLoc (n : Nat) : List W → Bool
  | [] => true
  | .loc j :: ws => j == n && allLoc n ws
  | .d _ :: ws => allLoc n ws
  | .fn :: ws => allLoc n ws
def toZero : W → W
  | .d x => .d x
  | .loc _ => .loc 0
  | .fn => .fn
def callF (f : FS) : List W → Sto → Option (W × Sto) := fun ws S => match firstLoc ws with
  | none => (f ws []).bind fun r => match r.1, r.2 with
    | .d x, [] => some (.d x, S)
    | .loc 0, [ob] => if obD ob = true then some (.loc S.length, S ++ [ob]) else none
    | _, _ => none
  | some n => if allLoc n ws = true then match S[n]? with
    | some ob => if obD ob = true then (f (ws.map toZero) [ob]).bind fun r => match r.1, r.2 with
      | .d x, [ob'] => if obD ob' = true then some (.d x, S.set n ob') else none
      | .loc 1, [ob', ob2] => if obD ob' = true ∧ obD ob2 = true then some (.loc S.length, S.set n ob' ++ [ob2]) else none
      | _, _ => none
      else none
    | none => none
    else none
section
variable {K : PySem.W.Frag} {H H1 H' : Hp} {m ext : List Addr} {S S1 S' : Sto} {ρ : DEnv} {σ : L2.St} {w w' : W} {Q : VK}
theorem noLoc_anyM : ∀ {ws : List W} {vs : List V} {m m2 : List Addr}, firstLoc ws = none → Paired (RW τ K m H) vs ws → Paired (RW τ K m2 H) vs ws
  | [], _, _, _, _, .nil => .nil
  | .d x :: ws, _, _, _, h, .cons r t => .cons r (noLoc_anyM h t)
  | .loc _ :: _, _, _, _, h, _ => by cases h
  | .fn :: ws, _, _, _, h, .cons r t => .cons r (noLoc_anyM h t)
theorem oneLoc {a : Addr} : ∀ {ws : List W} {vs : List V} {n : Nat}, m[n]? = some a → allLoc n ws = true → Paired (RW τ K m H) vs ws → Paired (RW τ K [a] H) vs (ws.map toZero)
  | [], _, _, _, _, .nil => .nil
  | .d x :: ws, _, _, ha, h, .cons r t => .cons r (oneLoc ha h t)
  | .fn :: ws, _, _, ha, h, .cons r t => .cons r (oneLoc ha h t)
  | .loc j :: ws, _, n, ha, h, .cons r t => by
    simp only [allLoc, Bool.and_eq_true, beq_iff_eq] at h
    refine .cons ?_ (oneLoc ha h.2 t)
    obtain ⟨b, hb, e⟩ := r
    rw [h.1, ha] at hb; cases hb
    exact ⟨a, rfl, e⟩
theorem Fr.comp {H0 : Hp} (f : Fr m H0 H) (g : Fr m H H') : Fr m H0 H' := ⟨fun a o h c nt => g.st a o (f.st a o h c nt) c nt, fun a h => f.no a (g.no a h)⟩
theorem Fr.wk (f : Fr [] H H') : Fr m H H' := ⟨fun a o h _ nt => f.st a o h (.inl (by simp)) nt, f.no⟩
/-- the store behind a call that has changed nothing -/
theorem Sim.call (q : Sim τ K m S ρ σ H) (f : Fr [] H H') (t : TabsM τ K H') : Sim τ K m S ρ σ H' := by
  have kp : Kp H H' := f.kp
  refine ⟨fun i w e => ?_, q.len, q.nd, fun j ob2 e => ?_, q.rl, t⟩
  · obtain ⟨v, h, r⟩ := q.slot i w e
    exact ⟨v, h, r.mono0 kp⟩
  · obtain ⟨b, h, r'⟩ := q.obs j ob2 e
    refine ⟨b, h, ?_⟩
    have := RO.monoT (ext := []) r' kp (fun u hu nt => f.st b u hu (.inl (by simp)) nt) (f.no b)
    rw [List.append_nil] at this
    exact this
/-- the store behind a call that may have changed the n-th object -/
theorem Sim.after {a : Addr} {n : Nat} {ob' : Ob} {m2 : List Addr} (q : Sim τ K m S ρ σ H) (ha : m[n]? = some a) (hn : n < S.length) (k : Fr [a] H H') (t : TabsM τ K H') (r : RO τ K m2 H' a ob') (hd : obD ob' = true) : Sim τ K m (S.set n ob') ρ σ H' := by
  have kp : Kp H H' := k.kp
  refine ⟨fun i w e => ?_, by simp [q.len], q.nd, fun j ob2 e => ?_, q.rl, t⟩
  · obtain ⟨v, h, r⟩ := q.slot i w e
    exact ⟨v, h, r.mono0 kp⟩
  · by_cases hj : j = n
    · subst hj
      rw [List.getElem?_set_self hn] at e
      cases e
      exact ⟨a, ha, r.anyM hd⟩
    · rw [List.getElem?_set_ne (Ne.symm hj)] at e
      obtain ⟨b, h, r'⟩ := q.obs j ob2 e
      refine ⟨b, h, ?_⟩
      have hb : b ≠ a := fun z => by
        subst z
        obtain ⟨h1, e1⟩ := List.getElem?_eq_some_iff.mp h
        obtain ⟨h2, e2⟩ := List.getElem?_eq_some_iff.mp ha
        exact hj ((List.getElem_inj q.nd).mp (e1.trans e2.symm))
      have := RO.monoT (ext := []) r' kp (fun u hu nt => k.st b u hu (.inl (by simpa using hb)) nt) (k.no b)
      rw [List.append_nil] at this
      exact this
theorem callF_sp {f : FS} {ws : List W} {vs : List V} {E : XK} (q : Sim τ K m S ρ σ H) (pr : Paired (RW τ K m H) vs ws) (e : callF f ws S = some (w, S')) (p : Post τ K m S' ρ σ H w Q) : spD τ K ws.length f vs H Q E := by
  unfold callF at e
  split at e
  · rename_i hnl
    obtain ⟨⟨w1, S1⟩, e1, e2⟩ := Option.bind_eq_some_iff.mp e
    refine ⟨[], [], ws, w1, S1, ⟨fun i w h => by simp at h, rfl, by simp, fun n ob h => by simp at h, Nat.le_refl _, q.tb⟩, noLoc_anyM hnl pr, rfl, e1, fun ext H' v hf q1 fr r => ?_⟩
    simp only at e2
    split at e2
    · cases e2
      exact p [] H' v (fun _ h => absurd h (by simp)) (by rw [List.append_nil]; exact q.call fr q1.tb) fr.wk (by rw [List.append_nil]; exact RW.anyM (m := [] ++ ext) rfl r)
    · rename_i _ _ ob
      split at e2
      · rename_i hob
        cases e2
        obtain ⟨a, ha, rfl⟩ := r
        obtain ⟨a2, ha2, ro⟩ := q1.obs 0 ob rfl
        rw [ha] at ha2; cases ha2
        have am : a ∈ ext := by
          rw [List.nil_append] at ha
          exact List.mem_of_getElem? ha
        have nm : a ∉ m := q.nomem (hf a am)
        refine p [a] H' _ (fun b hb => by simp at hb; subst hb; exact hf _ am) ((q.call fr q1.tb).adopt nm (ro.anyM hob)) fr.wk ⟨a, ?_, rfl⟩
        rw [← q.len, List.getElem?_append_right (Nat.le_refl _)]; simp
      · cases e2
    · cases e2
  · rename_i n hfl
    split at e
    · rename_i hal
      split at e
      · rename_i ob hob
        split at e
        · rename_i hod
          obtain ⟨⟨w1, S1⟩, e1, e2⟩ := Option.bind_eq_some_iff.mp e
          obtain ⟨a, ha, ro⟩ := q.obs n ob hob
          have hn : n < S.length := (List.getElem?_eq_some_iff.mp hob).1
          refine ⟨[a], [ob], ws.map toZero, w1, S1, ⟨fun i w h => by simp at h, rfl, by simp, fun j o h => ?_, Nat.le_refl _, q.tb⟩, oneLoc ha hal pr, by simp, e1, fun ext H' v hf q1 fr r => ?_⟩
          · cases j with
            | zero =>
              have : ob = o := by simpa using h
              subst this
              exact ⟨a, rfl, ro.anyM hod⟩
            | succ j => simp at h
          have hfm : Fr m H H' := ⟨fun b o h c nt => fr.st b o h (by
            rcases c with c | c
            · exact .inl fun z => c (by simp at z; rw [z]; exact List.mem_of_getElem? ha)
            · exact .inr c) nt, fr.no⟩
          simp only at e2
          split at e2
          · rename_i _ _ _ ob'
            split at e2
            · rename_i hd'
              cases e2
              obtain ⟨b, hb, ro'⟩ := q1.obs 0 ob' rfl
              simp only [List.cons_append, List.getElem?_cons_zero, Option.some.injEq] at hb
              subst hb
              have q2 := q.after ha hn fr q1.tb ro' hd'
              exact p [] H' v (fun _ h => absurd h (by simp)) (by rwa [List.append_nil]) hfm (RW.anyM (m := [a] ++ ext) rfl r)
            · cases e2
          · rename_i _ _ ob' ob2
            split at e2
            · rename_i hd'
              cases e2
              obtain ⟨b, hb, ro'⟩ := q1.obs 0 ob' rfl
              simp only [List.cons_append, List.getElem?_cons_zero, Option.some.injEq] at hb
              subst hb
              obtain ⟨c, hc, ro2⟩ := q1.obs 1 ob2 rfl
              obtain ⟨c2, hc2, rfl⟩ := r
              rw [hc] at hc2; cases hc2
              have cm : c ∈ ext := by
                simp only [List.cons_append, List.nil_append, List.getElem?_cons_succ] at hc
                exact List.mem_of_getElem? hc
              have q2 := q.after ha hn fr q1.tb ro' hd'.1
              have nm : c ∉ m := q.nomem (hf c cm)
              refine p [c] H' _ (fun b hb => by simp at hb; subst hb; exact hf _ cm) (q2.adopt nm (ro2.anyM hd'.2)) hfm ⟨c, ?_, rfl⟩
              have : (S.set n ob').length = m.length := by rw [List.length_set, q.len]
              rw [← q.len, List.getElem?_append_right (Nat.le_refl _)]; simp
            · cases e2
          · cases e2
        · cases e
      · cases e
    · cases e
end
section
variable {X : Cx} {k : Nat} {f : Addr} {fd : FuncData} {ps : List Str} {fs : FS} {x : Str} {p pos : Pos} {e : Expr} {es : List Expr} {R : MA} {A : ME}
theorem runG {sp : Sp} {pins : List (Addr × Obj)} {σ : L2.St} {H : Hp} {s : Shared} {Q : VK} {us : List Value} {vs : List V} {E : XK} (F : FnG X.prog X.w X.K X.mg X.base k f fd ps sp) (room : Room k X.A) (hgd : X.A.guards = some []) (hb : Binds X.K fd ps [])
    (I : Inv X pins σ H s) (r : Vals vs us) (h : sp vs H Q E) : wpAny (model X.prog X.w) X.A (call (.ref f) us) (EP X pins σ Q) X.xe s := by
  have ll : us.length = ps.length := by rw [← r.length]; exact F.len _ _ _ _ h
  have bb := hb s us I.kIn (by rw [List.append_nil]; exact ll)
  rw [List.append_nil] at bb
  refine wpAny_call (codeAny_mono (F.run X.A X.stack s H ⟨us, []⟩ us vs Q E room hgd I.env0 bb r h) fun r s' hq => ?_)
  cases r with
  | error e => exact False.elim hq
  | ok fl =>
    cases fl with
    | ret u => exact I.after hq
    | next => exact hq.elim
    | brk => exact hq.elim
    | cont => exact hq.elim
theorem de_call (F : FnG X.prog X.w X.K X.mg X.base k f fd ps (spD τ X.K ps.length fs)) (room : Room k X.A) (hgd : X.A.guards = some []) (hg : Gl X x) (hm : X.mg x = some (.ref f)) (hk : PySem.W.keepIn X.K (.ref f) = true) (hb : Binds X.K fd ps [])
    (ha : PA X (e :: es) (rdA τ X.K R)) (hps : ps.length = (e :: es).length) (hR : ∀ ρ S ws S', R ρ S = some (ws, S') → ws.length = (e :: es).length) (hdb : (x == ("__debug__" : Str)) = false := by decide) (he : starEach (e :: es) X.env = (false, eval e X.env) :: starEach es X.env := by rfl) (hpl : (backTo pos (starEach es X.env)).any (·.1) = false := by rfl) :
    PE X (.Call (.Name x p) (e :: es) [] pos) (rdE τ X.K (mCall (callF fs) R)) := by
  refine ⟨fun pins s σ H Q I h => ?_⟩
  refine wpAny_Call_Name_kw (ld_glob I hg hm ?_ hdb)
  have h2 : rdA τ X.K R σ H fun vs H1 => spD τ X.K ps.length fs vs H1 Q (fun _ _ _ => False) := by
    obtain ⟨m, S, ρ, w, S', q, e, p⟩ := h
    obtain ⟨⟨ws, S1⟩, e1, e2⟩ := Option.bind_eq_some_iff.mp e
    refine ⟨m, S, ρ, ws, S1, q, e1, fun ext H1 vs f q1 fr r => ?_⟩
    have := callF_sp (E := fun _ _ _ => False) q1 r e2 (p.at f q1 fr)
    rwa [hR _ _ _ _ e1, ← hps] at this
  exact PySem.W.callWith_K (h₀ := X.base) I.ok.mod.kin hk (thn (ha.run pos pins s σ H _ I h2) fun us s1 ⟨vs, H1, I1, r, q⟩ => ⟨I1.kIn, runG F room hgd hb I1 r q⟩) he hpl
/-- a list that nobody else will change: locked -/
def mFrz (A : ME) : ME := fun ρ S => (A ρ S).bind fun p => match p.1 with
  | .loc j => match p.2[j]? with
    | some (.lst ws) => (allD ws).map fun ds => (.d (.list ds), p.2.set j .dead)
    | _ => none
  | .d _ => none
  | .fn => none
theorem de_frz (h : PE X e (rdE τ X.K A)) : PE X e (rdE τ X.K (mFrz A)) := wkE (peFrz h) fun σ H Q q => by
  obtain ⟨m, S, ρ, w, S', q, e, p⟩ := q
  obtain ⟨⟨wx, S1⟩, e1, e2⟩ := Option.bind_eq_some_iff.mp e
  refine ⟨m, S, ρ, wx, S1, q, e1, fun ext H1 x f q1 fr r => ?_⟩
  have p1 := p.at f q1 fr
  simp only at e2
  split at e2
  · split at e2
    · rename_i j _ ws hj
      obtain ⟨ds, e3, e4⟩ := Option.map_eq_some_iff.mp e2
      cases e4
      obtain ⟨a, ha, rfl⟩ := r
      obtain ⟨a2, ha2, vs, hv, pr⟩ := q1.obs j _ hj
      rw [ha] at ha2; cases ha2
      refine ⟨a, vs, rfl, hv, fun o => ?_⟩
      have hn := (List.getElem?_eq_some_iff.mp hj).1
      have q2 := q1.put (ob := .dead) (o := .frz o (.lst vs)) ha (fun u h => by rw [hv] at h; cases h; exact fun z => z) hn ⟨_, upd_same⟩
      refine p1 [] _ _ (fun _ h => absurd h (by simp)) (by rw [List.append_nil]; exact q2) (put_fr ha hv) ?_
      exact Rp.lst (.inl ⟨o, upd_same⟩) (RpAll.mono (put_kp hv) _ _ (allD_of e3 pr))
    · cases e2
  · cases e2
  · cases e2
end
end DL
end
noncomputable section
namespace DL
open PySem PySem.Spec PyProof.Rows L2
/-- what can be put in order -/
inductive Cd where
  | int (i : Int)
  | tup (cs : List Cd)
mutual
def toP : Cd → PyData
  | .int i => .int i
  | .tup cs => .tuple (toPs cs)
def toPs : List Cd → List PyData
  | [] => []
  | c :: cs => toP c :: toPs cs
end
mutual
def ofP : PyData → Option Cd
  | .int i => some (.int i)
  | .tuple ds => (ofPs ds).map .tup
  | _ => none
def ofPs : List PyData → Option (List Cd)
  | [] => some []
  | d :: ds => (ofP d).bind fun c => (ofPs ds).map (c :: ·)
end
mutual
theorem ofP_eq : ∀ (d : PyData) (c : Cd), ofP d = some c → d = toP c
  | .int i, c, h => by simp only [ofP, Option.some.injEq] at h; subst h; rfl
  | .tuple ds, c, h => by
    simp only [ofP, Option.map_eq_some_iff] at h
    obtain ⟨cs, h1, rfl⟩ := h
    rw [ofPs_eq ds cs h1]; rfl
  | .none, _, h => by simp [ofP] at h
  | .bool _, _, h => by simp [ofP] at h
  | .str _, _, h => by simp [ofP] at h
  | .list _, _, h => by simp [ofP] at h
  | .dict _, _, h => by simp [ofP] at h
theorem ofPs_eq : ∀ (ds : List PyData) (cs : List Cd), ofPs ds = some cs → ds = toPs cs
  | [], cs, h => by simp only [ofPs, Option.some.injEq] at h; subst h; rfl
  | d :: ds, cs, h => by
    simp only [ofPs] at h
    obtain ⟨c, h1, h2⟩ := Option.bind_eq_some_iff.mp h
    obtain ⟨r, h3, rfl⟩ := Option.map_eq_some_iff.mp h2
    rw [ofP_eq d c h1, ofPs_eq ds r h3]; rfl
end
mutual
theorem hd_toP : ∀ c : Cd, (toP c).hasDict = false
  | .int i => rfl
  | .tup cs => by simp only [toP, PyData.hasDict, hd_toPs cs]
theorem hd_toPs : ∀ cs : List Cd, PyData.hasDictAll (toPs cs) = false
  | [] => rfl
  | c :: cs => by simp only [toPs, PyData.hasDictAll, hd_toP c, hd_toPs cs, Bool.or_self]
end
theorem hd_ofP {d : PyData} {c : Cd} (h : ofP d = some c) : d.hasDict = false := by rw [ofP_eq d c h]; exact hd_toP c
theorem toPs_map (cs : List Cd) : toPs cs = cs.map toP := by
  induction cs with
  | nil => rfl
  | cons c cs ih => simp [toPs, ih]
def cmpI2 (a b : Int) : Ordering := if a < b then .lt else if a = b then .eq else .gt
mutual
def cmpC : Cd → Cd → Ordering
  | .int a, .int b => cmpI2 a b
  | .int _, .tup _ => .lt
  | .tup _, .int _ => .gt
  | .tup xs, .tup ys => cmpCs xs ys
def cmpCs : List Cd → List Cd → Ordering
  | [], [] => .eq
  | [], _ :: _ => .lt
  | _ :: _, [] => .gt
  | x :: xs, y :: ys => match cmpC x y with
    | .eq => cmpCs xs ys
    | .lt => .lt
    | .gt => .gt
end
theorem cmpI2_eq {a b : Int} : cmpI2 a b = .eq ↔ a = b := by unfold cmpI2; split <;> simp <;> omega
theorem cmpI2_lt {a b : Int} : cmpI2 a b = .lt ↔ a < b := by
  unfold cmpI2
  by_cases h : a < b
  · simp [h]
  · by_cases h2 : a = b <;> simp [h, h2]
mutual
theorem cmpC_eq : ∀ x y : Cd, cmpC x y = .eq ↔ x = y
  | .int a, .int b => by simp only [cmpC, cmpI2_eq, Cd.int.injEq]
  | .int _, .tup _ => by simp [cmpC]
  | .tup _, .int _ => by simp [cmpC]
  | .tup xs, .tup ys => by simp only [cmpC, cmpCs_eq xs ys, Cd.tup.injEq]
theorem cmpCs_eq : ∀ xs ys : List Cd, cmpCs xs ys = .eq ↔ xs = ys
  | [], [] => by simp [cmpCs]
  | [], _ :: _ => by simp [cmpCs]
  | _ :: _, [] => by simp [cmpCs]
  | x :: xs, y :: ys => by
    have h1 := cmpC_eq x y
    have h2 := cmpCs_eq xs ys
    simp only [cmpCs, List.cons.injEq]
    cases e : cmpC x y with
    | eq => simp [h1.mp e, h2]
    | lt => rw [e] at h1; simp at h1; simp [h1]
    | gt => rw [e] at h1; simp at h1; simp [h1]
end
mutual
theorem cmpC_sw : ∀ x y : Cd, cmpC y x = (cmpC x y).swap
  | .int a, .int b => by
    simp only [cmpC, cmpI2]
    by_cases h : a < b
    · have h1 : ¬ b < a := by omega
      have h2 : ¬ b = a := by omega
      simp [h, h1, h2]
    · by_cases h2 : a = b
      · simp [h2]
      · have h3 : b < a := by omega
        simp [h, h2, h3]
  | .int _, .tup _ => by simp [cmpC]
  | .tup _, .int _ => by simp [cmpC]
  | .tup xs, .tup ys => by simp only [cmpC, cmpCs_sw xs ys]
theorem cmpCs_sw : ∀ xs ys : List Cd, cmpCs ys xs = (cmpCs xs ys).swap
  | [], [] => by simp [cmpCs]
  | [], _ :: _ => by simp [cmpCs]
  | _ :: _, [] => by simp [cmpCs]
  | x :: xs, y :: ys => by
    simp only [cmpCs, cmpC_sw x y, cmpCs_sw xs ys]
    cases cmpC x y <;> simp
end
theorem cmpC_swap (x y : Cd) : cmpC y x = .lt ↔ cmpC x y = .gt := by
  rw [cmpC_sw x y]
  cases cmpC x y <;> simp
mutual
theorem cmpC_trans : ∀ x y z : Cd, cmpC x y = .lt → cmpC y z = .lt → cmpC x z = .lt
  | .int a, .int b, .int c => by simp only [cmpC, cmpI2_lt]; omega
  | .int _, .int _, .tup _ => by simp [cmpC]
  | .int _, .tup _, .int _ => by simp [cmpC]
  | .int _, .tup _, .tup _ => by simp [cmpC]
  | .tup _, .int _, .int _ => by simp [cmpC]
  | .tup _, .int _, .tup _ => by simp [cmpC]
  | .tup _, .tup _, .int _ => by simp [cmpC]
  | .tup xs, .tup ys, .tup zs => by simp only [cmpC]; exact cmpCs_trans xs ys zs
theorem cmpCs_trans : ∀ xs ys zs : List Cd, cmpCs xs ys = .lt → cmpCs ys zs = .lt → cmpCs xs zs = .lt
  | [], [], [] => by simp [cmpCs]
  | [], [], _ :: _ => by simp [cmpCs]
  | [], _ :: _, [] => by simp [cmpCs]
  | [], _ :: _, _ :: _ => by simp [cmpCs]
  | _ :: _, [], [] => by simp [cmpCs]
  | _ :: _, [], _ :: _ => by simp [cmpCs]
  | _ :: _, _ :: _, [] => by simp [cmpCs]
  | x :: xs, y :: ys, z :: zs => by
    have t := cmpC_trans x y z
    have ts := cmpCs_trans xs ys zs
    have e1 := cmpC_eq x y
    have e2 := cmpC_eq y z
    simp only [cmpCs]
    intro h1 h2
    cases a : cmpC x y with
    | gt => rw [a] at h1; cases h1
    | eq =>
      rw [a] at h1
      have := e1.mp a
      subst this
      cases b : cmpC x z with
      | gt => rw [b] at h2; cases h2
      | lt => rfl
      | eq => rw [b] at h2; exact ts h1 h2
    | lt =>
      cases b : cmpC y z with
      | gt => rw [b] at h2; cases h2
      | lt => rw [t a b]
      | eq =>
        have := e2.mp b
        subst this
        rw [a]
end
def ltC (x y : Cd) : Bool := cmpC x y == .lt
theorem ltC_iff {x y : Cd} : ltC x y = true ↔ cmpC x y = .lt := by simp [ltC]
theorem ltC_tot {x y : Cd} (h : ltC x y = false) : x = y ∨ ltC y x = true := by
  cases e : cmpC x y with
  | lt => simp [ltC, e] at h
  | eq => exact .inl ((cmpC_eq x y).mp e)
  | gt => exact .inr (ltC_iff.mpr ((cmpC_swap x y).mpr e))
theorem ltC_irr (x : Cd) : ltC x x = false := by
  have := (cmpC_eq x x).mpr rfl
  simp [ltC, this]
theorem ltC_trans {x y z : Cd} (h1 : ltC x y = true) (h2 : ltC y z = true) : ltC x z = true := ltC_iff.mpr (cmpC_trans x y z (ltC_iff.mp h1) (ltC_iff.mp h2))
theorem ltC_asym {x y : Cd} (h : ltC x y = true) : ltC y x = false := by
  cases e : ltC y x with
  | false => rfl
  | true => have := ltC_trans h e; rw [ltC_irr] at this; cases this
theorem ltC_neg {x y z : Cd} (h1 : ltC x y = false) (h2 : ltC y z = false) : ltC x z = false := by
  cases e : ltC x z with
  | false => rfl
  | true =>
    rcases ltC_tot h1 with rfl | h1
    · rw [h2] at e; cases e
    · rcases ltC_tot h2 with rfl | h2
      · rw [ltC_asym h1] at e; cases e
      · have := ltC_trans h2 h1
        rw [ltC_asym this] at e; cases e
theorem swo_cd {α : Type} (κ : α → Cd) : SrtO.Swo fun u v => ltC (κ u) (κ v) := ⟨fun _ _ h => ltC_asym h, fun _ _ _ h1 h2 => ltC_neg h2 h1⟩
mutual
theorem eqv_toP : ∀ x y : Cd, PyData.eqv (toP x) (toP y) = (cmpC x y == .eq)
  | .int a, .int b => by
    have := @cmpI2_eq a b
    simp only [toP, PyData.eqv, cmpC]
    by_cases h : a = b
    · simp [h, (@cmpI2_eq b b).mpr rfl]
    · have h2 : cmpI2 a b ≠ .eq := fun e => h (this.mp e)
      cases e : cmpI2 a b <;> simp_all
  | .int _, .tup _ => by simp [toP, PyData.eqv, cmpC]
  | .tup _, .int _ => by simp [toP, PyData.eqv, cmpC]
  | .tup xs, .tup ys => by simp only [toP, PyData.eqv, cmpC, eqv_toPs xs ys]
theorem eqv_toPs : ∀ xs ys : List Cd, PyData.eqvAll (toPs xs) (toPs ys) = (cmpCs xs ys == .eq)
  | [], [] => by simp [toPs, PyData.eqvAll, cmpCs]
  | [], _ :: _ => by simp [toPs, PyData.eqvAll, cmpCs]
  | _ :: _, [] => by simp [toPs, PyData.eqvAll, cmpCs]
  | x :: xs, y :: ys => by
    simp only [toPs, PyData.eqvAll, cmpCs, eqv_toP x y, eqv_toPs xs ys]
    cases cmpC x y <;> simp
end
mutual
theorem lay_toP : ∀ x : Cd, (toP x).canLay0 = true
  | .int a => rfl
  | .tup xs => by simp only [toP, PyData.canLay0, lay_toPs xs]
theorem lay_toPs : ∀ xs : List Cd, PyData.canLayAll0 (toPs xs) = true
  | [] => rfl
  | x :: xs => by simp only [toPs, PyData.canLayAll0, lay_toP x, lay_toPs xs, Bool.and_self]
end
def LtAt (A : Around) (s : Shared) (u v : Value) (b : Bool) : Prop :=
  ∀ (prog : Program) (w : World) (E : Value → Shared → Prop) (Q : Value → Shared → Prop), Q (.bool b) s → wpAny (model prog w) A (richCompare .Lt u v) Q E s
inductive LexAt (A : Around) (s : Shared) : List Value → List Value → Bool → Prop
  | nn : LexAt A s [] [] false
  | nc (v : Value) (vs : List Value) : LexAt A s [] (v :: vs) true
  | cn (u : Value) (us : List Value) : LexAt A s (u :: us) [] false
  | same {u v : Value} {us vs : List Value} {b : Bool} : SeqAt.EqAt A s u v true → LexAt A s us vs b → LexAt A s (u :: us) (v :: vs) b
  | other {u v : Value} {us vs : List Value} {b : Bool} : SeqAt.EqAt A s u v false → LtAt A s u v b → LexAt A s (u :: us) (v :: vs) b
section
open PySem.MeetsSeq PySem.MeetsSeq2 PySem.MeetsSeq3
theorem tup_lt_run (l b : Addr) (xs ys : Array Value) (n k : Nat) (dx dy : Option Addr) (sx sy : Array (Option Value)) (r : Bool) :
    Meets (Builtin.«tuple.__lt__» ⟨[.ref l, .ref b], []⟩) (fun A R s => s.heap.get? l = some { cls := .type "tuple", dict := dx, data := .seq xs n, slots := sx } ∧
      s.heap.get? b = some { cls := .type "tuple", dict := dy, data := .seq ys k, slots := sy } ∧ LexAt A.in1 s xs.toList ys.toList r ∧ R (.ok (.ret (.bool r))) s) :=
  .of_wp fun prog w A R s h => by
    obtain ⟨hp, g, d, tk, os⟩ := s
    obtain ⟨h1, h2, hx, h⟩ := h
    have tt := AutoSeq1.sub_tuple_tuple
    wp_walk using AutoSeq1.wpAny_loadPart' h1, AutoSeq1.wpAny_loadPart' h2, wpAny_forIn_list _ (fun todo c s' => c.1 = none ∧ s' = ⟨hp, g, d, tk, os⟩ ∧ ∃ us vs : List Value, todo = us.zip vs ∧
      LexAt A.in1 ⟨hp, g, d, tk, os⟩ us vs r ∧ us.length + ys.size = vs.length + xs.size) _
    case h => exact ⟨rfl, rfl, xs.toList, ys.toList, rfl, hx, by simp; omega⟩
    case turn =>
      rintro ⟨p, q⟩ todo c s' ⟨hc, rfl, us, vs, ez, lx, el⟩
      cases lx with
      | nn => rw [List.zip_nil_left] at ez; cases ez
      | nc v vs => rw [List.zip_nil_left] at ez; cases ez
      | cn u us => rw [List.zip_nil_right] at ez; cases ez
      | same e lx =>
        rw [List.zip_cons_cons] at ez
        obtain ⟨e1, rfl⟩ := List.cons.inj ez
        obtain ⟨rfl, rfl⟩ := Prod.mk.inj e1
        simp only [List.length_cons] at el
        refine wpAny_bind (e prog w _ _ ?_)
        wp_walk
        exact ⟨rfl, rfl, _, _, rfl, lx, by omega⟩
      | other e lt =>
        rw [List.zip_cons_cons] at ez
        obtain ⟨e1, rfl⟩ := List.cons.inj ez
        obtain ⟨rfl, rfl⟩ := Prod.mk.inj e1
        refine wpAny_bind (e prog w _ _ ?_)
        have go := lt prog w
        wp_walk using go
        exact ⟨_, rfl, by simpa using h⟩
    case fin =>
      rintro ⟨c1, c2⟩ s' ⟨hc, rfl, us, vs, ez, lx, el⟩
      simp only at hc
      subst hc
      have hr : r = decide (xs.size < ys.size) := by
        cases lx with
        | nn => simp only [List.length_nil] at el; exact (decide_eq_false (by omega)).symm
        | nc v vs => simp only [List.length_nil, List.length_cons] at el; exact (decide_eq_true (by omega)).symm
        | cn u us => simp only [List.length_nil, List.length_cons] at el; exact (decide_eq_false (by omega)).symm
        | same e lx => rw [List.zip_cons_cons] at ez; cases ez
        | other e lt => rw [List.zip_cons_cons] at ez; cases ez
      rw [hr] at h
      wp_walk
      exact ⟨_, rfl, by simpa [Builtin.Tuple.tupleCompareSizes] using h⟩
end
theorem tup_ltAt {A : Around} {s : Shared} {l b : Addr} {xs ys : Array Value} {r : Bool} (h1 : IsTup s.heap l xs) (h2 : IsTup s.heap b ys) (lx : LexAt A.in1 s xs.toList ys.toList r) (hu : A.units < cLine) : LtAt A s (.ref l) (.ref b) r := by
  intro prog w E Q hq
  obtain ⟨⟨c1, d1, a1, s1⟩, o1, e1, n1, f1⟩ := h1
  obtain ⟨⟨c2, d2, a2, s2⟩, o2, e2, n2, f2⟩ := h2
  simp only at e1 f1 e2 f2
  subst e1 f1 e2 f2
  refine richCompare_meets_room (op := .Lt) ⟨_, o1, rfl⟩ ⟨_, o2, rfl⟩ PySem.F.slot_tuple_lt PySem.F.entry_tuple_lt (PySem.F.args_tuple_lt_2 _ _) (tup_lt_run l b xs ys n1 n2 d1 d2 s1 s2 r) ⟨o1, o2, lx, ?_⟩ hu
  exact (⟨(fun x => nomatch x), hq⟩ : Value.bool r ≠ Value.notImplemented ∧ Q (.bool r) s)
mutual
def kindC : Cd → Cd → Bool
  | .int _, .int _ => true
  | .tup xs, .tup ys => kindCs xs ys
  | _, _ => false
def kindCs : List Cd → List Cd → Bool
  | [], _ => true
  | _, [] => true
  | x :: xs, y :: ys => kindC x y && kindCs xs ys
end
theorem cmpI2_dec {a b : Int} : (cmpI2 a b == .lt) = decide (a < b) := by
  have := @cmpI2_lt a b
  by_cases h : a < b
  · simp [h, this.mpr h]
  · have h2 : cmpI2 a b ≠ .lt := fun e => h (this.mp e)
    cases e : cmpI2 a b <;> simp_all
theorem units_in1 (A : Around) : A.in1.units = A.units + 1 := rfl
mutual
theorem lt_reads : ∀ (c d : Cd) (A : Around) (s : Shared) (u v : Value) (as bs : List Addr), kindC c d = true → Reads s.heap u (toP c) as → Reads s.heap v (toP d) bs → A.units + (toP c).depth < cLine → LtAt A s u v (ltC c d)
  | .int a, .int b, A, s, u, v, _, _, _, r1, r2, _ => by
    cases r1
    cases r2
    intro prog w E Q h
    refine PyProof.Rows.lt_int (A := A) ?_
    rwa [show ltC (.int a) (.int b) = decide (a < b) from cmpI2_dec] at h
  | .int _, .tup _, _, _, _, _, _, _, hk, _, _, _ => by simp [kindC] at hk
  | .tup _, .int _, _, _, _, _, _, _, hk, _, _, _ => by simp [kindC] at hk
  | .tup xs, .tup ys, A, s, u, v, _, _, hk, r1, r2, hu => by
    cases r1 with
    | tuple h1 c1 d1 q1 =>
      cases r2 with
      | tuple h2 c2 d2 q2 =>
        simp only [toP, PyData.depth] at hu
        exact tup_ltAt ⟨_, h1, c1, _, d1⟩ ⟨_, h2, c2, _, d2⟩ (lex_reads xs ys A.in1 s _ _ _ _ (by simpa [kindC] using hk) q1 q2 (by rw [units_in1]; omega)) (by omega)
theorem lex_reads : ∀ (cs ds : List Cd) (A : Around) (s : Shared) (us vs : List Value) (as bs : List Addr), kindCs cs ds = true → ReadsAll s.heap us (toPs cs) as → ReadsAll s.heap vs (toPs ds) bs → A.units + PyData.depthAll (toPs cs) < cLine → LexAt A s us vs (cmpCs cs ds == .lt)
  | [], [], _, _, _, _, _, _, _, r1, r2, _ => by
    cases r1
    cases r2
    exact .nn
  | [], _ :: _, _, _, _, _, _, _, _, r1, r2, _ => by
    cases r1
    cases r2
    exact .nc _ _
  | _ :: _, [], _, _, _, _, _, _, _, r1, r2, _ => by
    cases r1
    cases r2
    exact .cn _ _
  | x :: xs, y :: ys, A, s, _, _, _, _, hk, r1, r2, hu => by
    simp only [kindCs, Bool.and_eq_true] at hk
    simp only [toPs, PyData.depthAll] at hu
    cases r1 with
    | cons p1 q1 =>
      cases r2 with
      | cons p2 q2 =>
        have eqA := SeqAt.eqAt_reads (toP x) (toP y) A s _ _ _ _ p1 p2 (lay_toP x) (lay_toP y) (by omega)
        rw [eqv_toP] at eqA
        have ltA := lt_reads x y A s _ _ _ _ hk.1 p1 p2 (by omega)
        have tl := lex_reads xs ys A s _ _ _ _ hk.2 q1 q2 (by omega)
        simp only [cmpCs]
        cases e : cmpC x y with
        | eq =>
          rw [e] at eqA
          exact .same eqA tl
        | lt =>
          rw [e] at eqA
          rw [show ltC x y = true by simp [ltC, e]] at ltA
          exact .other eqA ltA
        | gt =>
          rw [e] at eqA
          rw [show ltC x y = false by simp [ltC, e]] at ltA
          exact .other eqA ltA
end
def leC (x y : Cd) : Bool := !ltC y x
def sortC (cs : List Cd) : List Cd := cs.mergeSort leC
def isTupNE : Cd → Bool
  | .tup (_ :: _) => true
  | _ => false
def sortable (cs : List Cd) : Bool := (cs.all fun c => isTupNE c && decide ((toP c).depth ≤ 60)) && cs.all fun c => cs.all fun d => kindC c d
theorem sortC_srtd (cs : List Cd) : (sortC cs).Pairwise fun x y => ltC y x = false := by
  have h := List.pairwise_mergeSort (le := leC) (fun a b c h1 h2 => by
    simp only [leC, Bool.not_eq_true'] at *
    exact ltC_neg h2 h1) (fun a b => by
    simp only [leC]
    cases e : ltC b a with
    | false => rfl
    | true => simp [ltC_asym e]) cs
  exact h.imp fun h => by simpa [leC] using h
theorem sortC_perm (cs : List Cd) : (sortC cs).Perm cs := List.mergeSort_perm cs leC
theorem sortC_uniq {cs ds : List Cd} (hs : ds.Pairwise fun x y => ltC y x = false) (hp : ds.Perm cs) : ds = sortC cs :=
  List.Perm.eq_of_pairwise (le := fun x y => ltC y x = false) (fun a b _ _ h1 h2 => by
    rcases ltC_tot h1 with e | e
    · exact e.symm
    · rw [h2] at e; cases e) hs (sortC_srtd cs) (hp.trans (sortC_perm cs).symm)
section
variable {prog : Program} {w : World} {A : Around} {s : Shared}
theorem kat_of_lex {Q : Bool → Shared → Prop} {r b fin : Bool} : ∀ {us vs : List Value} {i : Nat} {n k : Nat}, LexAt A s us vs r → (b && i == 0) = false → fin = decide (n < k) → us.length + k = vs.length + n → Q r s → PySem.W.KatLex prog w A b fin Q (us.zip vs) i s
  | _, _, i, n, k, .nn, _, hf, hl, q => by
    simp only [List.length_nil] at hl
    have : fin = false := by rw [hf]; exact decide_eq_false (by omega)
    rw [List.zip_nil_left]
    exact PySem.W.kat_nil (by rw [this]; exact q)
  | _, _, i, n, k, .nc v vs, _, hf, hl, q => by
    simp only [List.length_nil, List.length_cons] at hl
    have : fin = true := by rw [hf]; exact decide_eq_true (by omega)
    rw [List.zip_nil_left]
    exact PySem.W.kat_nil (by rw [this]; exact q)
  | _, _, i, n, k, .cn u us, _, hf, hl, q => by
    simp only [List.length_nil, List.length_cons] at hl
    have : fin = false := by rw [hf]; exact decide_eq_false (by omega)
    rw [List.zip_nil_right]
    exact PySem.W.kat_nil (by rw [this]; exact q)
  | _, _, i, n, k, .same e lx, hb, hf, hl, q => by
    simp only [List.length_cons] at hl
    rw [List.zip_cons_cons]
    exact PySem.W.kat_cons (e prog w _ _ (PySem.W.kat_yes (kat_of_lex lx (by simp) hf (by omega) q)))
  | _, _, i, n, k, .other e lt, hb, hf, hl, q => by
    rw [List.zip_cons_cons]
    refine PySem.W.kat_cons (e prog w _ _ (PySem.W.kat_no ?_))
    rw [hb]
    exact PySem.W.kat_one _ _ (lt prog w _ _ q)
/-- by the first int, then by the rest -/
theorem kat_of_int {Q : Bool → Shared → Prop} {x y : Int} {t u : Tok} {cs ds : List Cd} {us vs : List Value} {n k : Nat} (lx : LexAt A s us vs (cmpCs cs ds == .lt)) (hl : us.length + k = vs.length + n) (q : Q (ltC (.tup (.int x :: cs)) (.tup (.int y :: ds))) s) :
    PySem.W.KatLex prog w A true (decide (n + 1 < k + 1)) Q ((Value.int x t :: us).zip (Value.int y u :: vs)) 0 s := by
  have hq : ltC (.tup (.int x :: cs)) (.tup (.int y :: ds)) = if x = y then (cmpCs cs ds == .lt) else decide (x < y) := by
    simp only [ltC, cmpC, cmpCs]
    by_cases h : x = y
    · subst h
      simp [(@cmpI2_eq x x).mpr rfl]
    · have h1 : cmpI2 x y ≠ .eq := fun e => h (cmpI2_eq.mp e)
      rw [if_neg h, ← cmpI2_dec]
      cases e : cmpI2 x y <;> simp_all
  rw [hq] at q
  rw [List.zip_cons_cons]
  refine PySem.W.kat_cons (SeqAt.EqAt.int_int x t y u prog w _ _ (PySem.W.kat_go (fun e => ?_) fun e => ?_))
  · have e' : x = y := by simpa using e
    rw [if_pos e'] at q
    exact PySem.W.kat_yes (kat_of_lex lx (by simp) (decide_eq_decide.mpr (by omega)) hl q)
  · have e' : ¬ x = y := by simpa using e
    rw [if_neg e'] at q
    exact PySem.W.kat_no (oneLt_int q)
end
/-- what a value reads as -/
noncomputable def keyAt (h : Heap) (u : Value) : Cd := by
  classical
  exact if e : ∃ c as, Reads h u (toP c) as then e.choose else .int 0
mutual
theorem toP_inj : ∀ c d : Cd, toP c = toP d → c = d
  | .int a, .int b, h => by simp only [toP, PyData.int.injEq] at h; rw [h]
  | .int _, .tup _, h => by simp [toP] at h
  | .tup _, .int _, h => by simp [toP] at h
  | .tup xs, .tup ys, h => by simp only [toP, PyData.tuple.injEq] at h; rw [toPs_inj xs ys h]
theorem toPs_inj : ∀ cs ds : List Cd, toPs cs = toPs ds → cs = ds
  | [], [], _ => rfl
  | [], _ :: _, h => by simp [toPs] at h
  | _ :: _, [], h => by simp [toPs] at h
  | x :: xs, y :: ys, h => by
    simp only [toPs, List.cons.injEq] at h
    rw [toP_inj x y h.1, toPs_inj xs ys h.2]
end
theorem keyAt_of {h : Heap} {u : Value} {c : Cd} {as : List Addr} (r : Reads h u (toP c) as) : keyAt h u = c := by
  unfold keyAt
  have e : ∃ c as, Reads h u (toP c) as := ⟨c, as, r⟩
  rw [dif_pos e]
  obtain ⟨as', r'⟩ := e.choose_spec
  exact toP_inj _ _ (SeqAt.Reads.unique _ _ u as' as (lay_toP _) r' r)
section
variable {X : Cx} {pins : List (Addr × Obj)} {σ : L2.St} {H : Hp} {s : Shared}
/-- the values of a list of such data -/
theorem reads_list (I : Inv X pins σ H s) : ∀ {cs : List Cd} {xs : List V} {us : List Value}, RpAll X.K H xs (toPs cs) → Vals xs us →
    us.map (keyAt s.heap) = cs ∧ ∀ u ∈ us, ∃ v as, RelV v u ∧ Rp X.K H v (toP (keyAt s.heap u)) ∧ Reads s.heap u (toP (keyAt s.heap u)) as
  | [], _, _, .nil, .nil => ⟨rfl, fun u h => by simp at h⟩
  | c :: cs, _, _, .cons r t, .cons rv tv => by
    obtain ⟨e, h⟩ := reads_list I t tv
    obtain ⟨as, rd⟩ := Dp.reads I (toP c) _ _ (Rp.dp _ _ (hd_toP c) r) rv
    have k := keyAt_of rd
    refine ⟨by rw [List.map_cons, k, e], fun u hu => ?_⟩
    rcases List.mem_cons.mp hu with z | z
    · subst z
      rw [k]
      exact ⟨_, as, rv, r, rd⟩
    · exact h u z
def backV (u : Value) : V := (absV u).getD .non
theorem backV_of {v : V} {u : Value} (r : RelV v u) : backV u = v := by unfold backV; rw [r.abs]; rfl
theorem rpAll_back {K : PySem.W.Frag} {k : Value → Cd} : ∀ {us : List Value}, (∀ u ∈ us, ∃ v, RelV v u ∧ Rp K H v (toP (k u))) → RpAll K H (us.map backV) (toPs (us.map k)) ∧ Vals (us.map backV) us
  | [], _ => ⟨.nil, .nil⟩
  | u :: us, h => by
    obtain ⟨v, r, rp⟩ := h u (by simp)
    obtain ⟨h1, h2⟩ := rpAll_back (us := us) fun w hw => h w (by simp [hw])
    have e := backV_of r
    exact ⟨.cons (by rw [e]; exact rp) h1, .cons (by rw [e]; exact r) h2⟩
theorem firsts_at {h : Heap} : ∀ {us : List Value}, (∀ u ∈ us, ∃ c cs as, Reads h u (toP (.tup (c :: cs))) as) → ∃ fs, PySem.W.KatTups h us fs ∧ fs.length = us.length ∧ ∀ f ∈ fs, ∃ u ∈ us, ∃ c cs as bs, Reads h u (toP (.tup (c :: cs))) as ∧ Reads h f (toP c) bs
  | [], _ => ⟨[], .nil, rfl, fun f h => by simp at h⟩
  | u :: us, h => by
    obtain ⟨fs, k, l, hi⟩ := firsts_at (us := us) fun w hw => h w (by simp [hw])
    obtain ⟨c, cs, as, r⟩ := h u (by simp)
    have r0 := r
    cases r with
    | tuple h1 c1 d1 q1 =>
      rename_i vs n
      cases e : vs.toList with
      | nil => rw [e] at q1; cases q1
      | cons f rest =>
        rw [e] at q1
        cases q1 with
        | cons p1 q1 =>
          refine ⟨f :: fs, .cons h1 c1 d1 ?_ k, by simp [l], fun g hg => ?_⟩
          · rw [← Array.getElem?_toList, e]; rfl
          · rcases List.mem_cons.mp hg with z | z
            · subst z
              exact ⟨_, by simp, c, cs, _, _, r0, p1⟩
            · obtain ⟨u', hu', rest'⟩ := hi g z
              exact ⟨u', by simp [hu'], rest'⟩
def tyC : Cd → String
  | .int _ => "int"
  | .tup _ => "tuple"
theorem looks_of {M : Model} {h : Heap} {u : Value} {c : Cd} {as : List Addr} (r : Reads h u (toP c) as) : PySem.W.Looks M h (typeOf u) (.type (tyC c)) := by
  cases c with
  | int i => cases r; exact PySem.W.Looks.now
  | tup cs =>
    cases r with
    | tuple h1 c1 d1 q1 =>
      have z : PySem.W.Looks M h (typeOf (.ref _)) _ := (PySem.W.Looks.ld h1).andThen .now
      rw [c1] at z
      exact z
theorem sort_cmp {prog : Program} {w : World} {A : Around} {h : Heap} {s : Shared} {b : Bool} {us : List Value} {k : Value → Cd} (hs : s.heap = h) (hr : ∀ u ∈ us, ∃ as, Reads h u (toP (k u)) as) (hd : ∀ u ∈ us, (toP (k u)).depth ≤ 60) (hk : ∀ u ∈ us, ∀ v ∈ us, kindC (k u) (k v) = true)
    (hne : ∀ u ∈ us, isTupNE (k u) = true) (hb : b = true → ∀ u ∈ us, ∃ i cs, k u = .tup (.int i :: cs)) (hu : A.units + 64 < cLine) : SrtO.Cmp prog w A s (tuples' b) (fun p => p.1 ∈ us) (SrtO.lt2 fun u v => ltC (k u) (k v)) := by
  subst hs
  intro p q hp hq
  show wpAny (model prog w) A (keyLt' (tuples' b) p.1 q.1) (fun r s' => s' = s ∧ r = ltC (k p.1) (k q.1)) (fun _ _ => False) s
  obtain ⟨as, r1⟩ := hr _ hp
  obtain ⟨bs, r2⟩ := hr _ hq
  have d1 := hd _ hp
  have kk := hk _ hp _ hq
  have n1 := hne _ hp
  have n2 := hne _ hq
  have b1 := fun e => hb e _ hp
  have b2 := fun e => hb e _ hq
  generalize k p.1 = c at *
  generalize k q.1 = d at *
  generalize p.1 = pu at *
  generalize q.1 = qu at *
  cases c with
  | int i => cases n1
  | tup cs =>
    cases d with
    | int i => cases n2
    | tup ds =>
      simp only [toP, PyData.depth] at d1
      cases r1 with
      | tuple h1 c1 e1 q1 =>
        cases r2 with
        | tuple h2 c2 e2 q2 =>
          rename_i _ _ xs n _ _ ys m
          refine PySem.W.kat_lt h1 e1 h2 e2 ?_
          have la : xs.toList.length = xs.size := Array.length_toList
          have lb : ys.toList.length = ys.size := Array.length_toList
          cases b with
          | false => exact kat_of_lex (lex_reads cs ds A s _ _ _ _ (by simpa [kindC] using kk) q1 q2 (by omega)) rfl rfl (by omega) ⟨rfl, rfl⟩
          | true =>
            obtain ⟨i, cs', e1'⟩ := b1 rfl
            obtain ⟨j, ds', e2'⟩ := b2 rfl
            injection e1' with e1'
            injection e2' with e2'
            subst e1' e2'
            cases ex : xs.toList with
            | nil => rw [ex] at q1; cases q1
            | cons f rest =>
              cases ey : ys.toList with
              | nil => rw [ey] at q2; cases q2
              | cons g rest2 =>
                rw [ex] at q1
                rw [ey] at q2
                cases q1 with
                | cons p1 q1 =>
                  cases q2 with
                  | cons p2 q2 =>
                    cases p1
                    cases p2
                    simp only [kindC, kindCs, Bool.and_eq_true] at kk
                    simp only [toPs, PyData.depthAll] at d1
                    rw [ex, List.length_cons] at la
                    rw [ey, List.length_cons] at lb
                    rw [← la, ← lb]
                    exact kat_of_int (lex_reads cs' ds' A s _ _ _ _ kk.2 q1 q2 (by omega)) (by omega) ⟨rfl, rfl⟩
theorem pw_mem {α : Type} {R : α → α → Bool} {l : List α} (h : (l.all fun c => l.all fun d => R c d) = true) : ∀ a ∈ l, ∀ b ∈ l, R a b = true := fun a ha b hb => List.all_eq_true.mp (List.all_eq_true.mp h a ha) b hb
/-- sorted of a list of tuples -/
theorem sorted_run {a : Addr} {xs : List V} {cs : List Cd} {Q : VK} (I : Inv X pins σ H s) (hs : SqL X.K H a xs) (r : RpAll X.K H xs (toPs cs)) (ok : sortable cs = true) (hu : X.A.units + 66 < cLine)
    (q : ∀ p ys, H p = none → RpAll X.K H ys (toPs (sortC cs)) → Q (.ref p) (upd H p (.lst ys))) : wpAny (model X.prog X.w) X.A (call (.builtin "sorted") [.ref a]) (EP X pins σ Q) X.xe s := by
  obtain ⟨its, rv, hl, hz⟩ := I.list hs
  obtain ⟨em, hr⟩ := reads_list I r rv
  have lx := rv.length
  unfold sortable at ok
  rw [Bool.and_eq_true] at ok
  have inCs : ∀ u ∈ its, keyAt s.heap u ∈ cs := fun u hu => by rw [← em]; exact List.mem_map_of_mem hu
  have okA : ∀ c ∈ cs, isTupNE c = true ∧ (toP c).depth ≤ 60 := fun c hc => by
    have := List.all_eq_true.mp ok.1 c hc
    simpa using this
  have okK := pw_mem ok.2
  refine SrtO.sorted_ord (ltv := fun u v => ltC (keyAt s.heap u) (keyAt s.heap v)) (swo_cd _) hl.isList (by omega) (fun h2 h₁ a' ha kk h' keep => ?_) fun out h1 h2 => ?_
  · have kp : ∀ b o, s.heap.get? b = some o → h'.get? b = some o := fun b o e => by
      obtain ⟨n1, e1⟩ := kk b o e
      exact keep b o n1 e1
    have hr' : ∀ u ∈ its, ∃ as, Reads h' u (toP (keyAt s.heap u)) as := fun u hu => by
      obtain ⟨_, as, _, _, rd⟩ := hr u hu
      exact ⟨as, Reads.keeps kp rd⟩
    have shape : ∀ u ∈ its, ∃ c ds, keyAt s.heap u = .tup (c :: ds) := fun u hu => by
      have := (okA _ (inCs u hu)).1
      cases e : keyAt s.heap u with
      | int i => rw [e] at this; cases this
      | tup ds =>
        cases ds with
        | nil => rw [e] at this; cases this
        | cons c ds => exact ⟨c, ds, rfl⟩
    obtain ⟨fs, kf, lf, hf⟩ := firsts_at (h := h') (us := its) fun u hu => by
      obtain ⟨c, ds, e⟩ := shape u hu
      obtain ⟨as, rd⟩ := hr' u hu
      rw [e] at rd
      exact ⟨c, ds, as, rd⟩
    -- the first items: all ints, or all tuples
    obtain ⟨u0, hu0⟩ : ∃ u0, u0 ∈ its := by
      match its, h2 with
      | u0 :: _, _ => exact ⟨u0, by simp⟩
    obtain ⟨c0, ds0, e0⟩ := shape u0 hu0
    have first : ∀ u ∈ its, ∀ c ds, keyAt s.heap u = .tup (c :: ds) → kindC c0 c = true := fun u hu c ds e => by
      have := okK _ (inCs u0 hu0) _ (inCs u hu)
      rw [e0, e] at this
      simp only [kindC, kindCs, Bool.and_eq_true] at this
      exact this.1
    have keyOf : ∀ u ∈ its, ∀ c ds as, Reads h' u (toP (.tup (c :: ds))) as → keyAt s.heap u = .tup (c :: ds) := fun u hu c ds as rd => by
      obtain ⟨bs, rd2⟩ := hr' u hu
      exact toP_inj _ _ (SeqAt.Reads.unique _ _ u bs as (lay_toP _) rd2 rd)
    refine ⟨tuples' (Value.type (tyC c0) != Value.type "tuple"), fun Q' E hq => ?_, ?_⟩
    · refine PySem.W.kat_kind (T := .type (tyC c0)) kf (by omega) (fun f hff => ?_) (by cases c0 <;> rfl) hq
      obtain ⟨u, hu, c, ds, as, bs, r1, r2⟩ := hf f hff
      have kc := first u hu c ds (keyOf u hu c ds as r1)
      have := looks_of (M := model X.prog X.w) r2
      cases c0 <;> cases c <;> first | exact this | (simp [kindC] at kc)
    · refine sort_cmp (A := X.A.in1.in1) (s := { s with heap := h' }) rfl hr' (fun u hu => (okA _ (inCs u hu)).2) (fun u hu v hv => okK _ (inCs u hu) _ (inCs v hv)) (fun u hu => (okA _ (inCs u hu)).1) (fun e u hu => ?_) (by rw [units_in1, units_in1]; omega)
      obtain ⟨c, ds, ek⟩ := shape u hu
      have kc := first u hu c ds ek
      cases c0 with
      | int i =>
        cases c with
        | int j => exact ⟨j, ds, ek⟩
        | tup _ => simp [kindC] at kc
      | tup cs => exact absurd e (by show ¬ (Value.type "tuple" != Value.type "tuple") = true; decide)
  · have memO : ∀ u ∈ out, u ∈ its := fun u hu => h2.perm.mem_iff.mp hu
    have hm : out.map (keyAt s.heap) = sortC cs := by
      refine sortC_uniq (List.pairwise_map.mpr h1) ?_
      rw [← em]
      exact h2.perm.map _
    obtain ⟨b1, b2⟩ := rpAll_back (K := X.K) (H := H) (k := keyAt s.heap) (us := out) fun u hu => by
      obtain ⟨v, as, r1, r2, _⟩ := hr u (memO u hu)
      exact ⟨v, r1, r2⟩
    rw [hm] at b1
    obtain ⟨ep, he⟩ := PyProof.Rows.sortedAll_at s.heap its out.toArray
    have lo : (out.map backV).length ≤ sizeLine := by rw [List.length_map, h2.perm.length_eq]; omega
    exact ⟨.ref _, upd H (s.heap.objs.size + 1) (.lst (out.map backV)), I.laid (t' := s.toks) (fun _ _ => PyProof.Rows.sortedAll_old) (Nat.le_succ _) ⟨lo, out, ep, b2, he⟩, rfl, q _ _ (I.hok.fresh (Nat.le_succ _)) b1⟩
def sortedD := on1 fun w S => (deref S w).bind fun d => match d with
  | .list ds => (ofPs ds).bind fun cs => if sortable cs = true then some (.d (.list (toPs (sortC cs))), S) else none
  | _ => none
theorem call_sortedDD {k : Nat} (hr : Room k X.A) : CallR X (.builtin "sorted") (rC τ X.K sortedD) := by
  have raw : CallR X (.builtin "sorted") (fun vs H Q => ∃ a xs cs, vs = [.ref a] ∧ SqL X.K H a xs ∧ RpAll X.K H xs (toPs cs) ∧ sortable cs = true ∧ ∀ p ys, H p = none → RpAll X.K H ys (toPs (sortC cs)) → Q (.ref p) (upd H p (.lst ys))) := by
    intro pins s σ H vs us Q I rx h
    obtain ⟨a, xs, cs, rfl, hs, r, ok, q⟩ := h
    cases rx with
    | cons r1 t =>
      cases t
      cases r1
      exact sorted_run I hs r ok (by have := hr.un; omega) q
  intro pins s σ H vs us Q I rx h
  obtain ⟨m, S, ρ, σ', w0, w, S', v, rfl, q, r, e, p⟩ := rC1 h
  obtain ⟨d, e1, e⟩ := Option.bind_eq_some_iff.mp e
  split at e
  · obtain ⟨cs, e2, e3⟩ := Option.bind_eq_some_iff.mp e
    split at e3
    · rename_i hok
      cases e3
      obtain ⟨a, xs, rfl, h, r1⟩ := deref_list q r e1
      rw [ofPs_eq _ _ e2] at r1
      exact callFrz raw pins s σ H _ us Q I rx ⟨a, xs, cs, rfl, h, r1, hok, fun t ys ht ry => newL p q ry t ht⟩
    · cases e3
  · cases e
/-- < of tuples, of ints -/
def ltD : W → W → Sto → Option (W × Sto) := fun x y S => match x, y with
  | .d d, .d e => (ofP d).bind fun c => (ofP e).bind fun c' => if kindC c c' = true ∧ (toP c).depth ≤ 60 then some (.d (.bool (ltC c c')), S) else none
  | _, _ => none
theorem op_ltDD {k : Nat} (hr : Room k X.A) : OpR X (compareOp .Lt) (rOp τ X.K ltD) := by
  intro pins s σ H x y v u Q I rx ry h
  obtain ⟨m, S, ρ, σ', wx, wy, w, S', q, hx, hy, e, p⟩ := h
  unfold ltD at e
  split at e
  · obtain ⟨c, e1, e⟩ := Option.bind_eq_some_iff.mp e
    obtain ⟨c', e2, e⟩ := Option.bind_eq_some_iff.mp e
    split at e
    · rename_i hk
      cases e
      obtain ⟨as, r1⟩ := Dp.reads I _ x v (Rp.dp _ _ (hd_ofP e1) hx) rx
      obtain ⟨bs, r2⟩ := Dp.reads I _ y u (Rp.dp _ _ (hd_ofP e2) hy) ry
      rw [ofP_eq _ _ e1] at r1
      rw [ofP_eq _ _ e2] at r2
      exact lt_reads c c' X.A s v u as bs hk.1 r1 r2 (by have := hr.un; omega) X.prog X.w X.xe _ ⟨.bl _, H, I, rfl, p.now q (.bl _)⟩
    · cases e
  · cases e
def reprOk (d : PyData) : Bool := d.showable && !d.hasDict && decide (d.depth ≤ 64) && decide (d.shown.length ≤ sizeLine)
def reprD := on1 fun w S => (deref S w).bind fun d => if reprOk d = true then some (.d (.str d.shown), S) else none
theorem call_reprDD {k : Nat} (hr : Room k X.A) (hg : X.A.guards = some []) : CallR X (.builtin "repr") (rC τ X.K reprD) := by
  intro pins s σ H vs us Q I rx h
  obtain ⟨m, S, ρ, σ', w0, w, S', v, rfl, q, r, e, p⟩ := rC1 h
  obtain ⟨d, e1, e⟩ := Option.bind_eq_some_iff.mp e
  split at e
  · rename_i hok
    cases e
    simp only [reprOk, Bool.and_eq_true, decide_eq_true_eq, Bool.not_eq_true'] at hok
    obtain ⟨⟨⟨h1, h2⟩, h3⟩, h4⟩ := hok
    have dp := deref_dp q r h2 e1
    have q2 := p.now q (v := .str d.shown) (.str _)
    have hun := hr.un
    cases rx with
    | cons rv t =>
      cases t
      obtain ⟨as, rd⟩ := Dp.reads I d v _ dp rv
      have big : ∀ a, (∃ u, RelV v u ∧ u = Value.ref a ∧ Reads s.heap u d as) → wpAny (model X.prog X.w) X.A (call (.builtin "repr") [.ref a]) (EP X pins σ Q) X.xe s := fun a ⟨u, _, e, rd⟩ => by
        subst e
        exact repr_of_reads' rd h1 (fun z => by rw [h2] at z; cases z) hg (by omega) (fun _ _ z => z) (fun h' u tk kp => ⟨.str _, H, I.kept (t' := tk) kp, ⟨_, rfl⟩, q2⟩) h4
      cases d with
      | none => cases dp; cases rv; exact P.repr_of_none ⟨.str _, H, I.tok _, ⟨_, rfl⟩, q2⟩
      | bool b =>
        cases dp; cases rv
        exact P.repr_of_bool ⟨.str _, H, I.tok _, ⟨_, rfl⟩, q2⟩
      | int i =>
        cases dp
        obtain ⟨t, rfl⟩ := rv
        exact P.repr_of_int (by simpa [PyData.showable] using h1) ⟨.str _, H, I.tok _, ⟨_, rfl⟩, q2⟩
      | str z =>
        cases dp
        obtain ⟨t, rfl⟩ := rv
        exact P.repr_of_str ⟨.str _, H, I.tok _, ⟨_, rfl⟩, q2⟩ h4
      | list ds =>
        cases dp
        cases rv
        exact big _ ⟨_, rfl, rfl, rd⟩
      | tuple ds =>
        cases dp
        cases rv
        exact big _ ⟨_, rfl, rfl, rd⟩
      | dict kvs => cases dp
  · cases e
end
end DL
end
noncomputable section
namespace DL
open PySem PySem.Spec PyProof.Rows L2
end DL
end
noncomputable section
namespace DL
open PySem PySem.Spec PyProof.Rows L2
/-- a def of the text, by its name -/
structure Cal (τ : Tbs) (P : Program) (w : World) (K : PySem.W.Frag) (mg : Str → Option Value) (base : Heap) (x : Str) (k : Nat) (ps : List Str) (fs : FS) : Prop where
  ex : ∃ (f : Addr) (fd : FuncData), FnG P w K mg base k f fd ps (spD τ K ps.length fs) ∧ mg x = some (.ref f) ∧ PySem.W.keepIn K (.ref f) = true ∧ Binds K fd ps []
theorem cal_mk {P : Program} {w : World} {K : PySem.W.Frag} {mg : Str → Option Value} {base : Heap} {x qual : Str} {k : Nat} {ps : List Str} {fs : FS} {st : Stmt} {f : Addr} {fd : FuncData} (F : Fun K x qual st f fd) (hm : mg x = some (.ref f))
    (h : ∀ (kV doc pm : Value) (an : Option Addr) (cdv ct : Value) (us : List Value), us.length = ps.length → bindArgs (PySem.W.fnOf x qual (defArgs st) (defBody st) (defScope st) .none kV doc pm an cdv ct) ⟨us, []⟩ = pure (ps.zip us))
    (G : FnG P w K mg base k f fd ps (spD τ K ps.length fs)) : Cal τ P w K mg base x k ps fs := ⟨f, fd, G, hm, F.kp, F.binds h⟩
section
variable {X : Cx} {k j : Nat} {ps : List Str} {fs : FS} {x : Str} {p pos : Pos} {e a : Expr} {es : List Expr} {R : MA} {A : ME}
theorem FnG.up {P : Program} {w : World} {K : PySem.W.Frag} {mg : Str → Option Value} {base : Heap} {f : Addr} {fd : FuncData} {sp : Sp} (F : FnG P w K mg base j f fd ps sp) (h : j ≤ k) : FnG P w K mg base k f fd ps sp :=
  ⟨F.len, fun A outer s H args us vs Q E hr => F.run A outer s H args us vs Q E (hr.mono h)⟩
theorem mNil_len {ρ : DEnv} {S S' : Sto} {ws : List W} (h : mNil ρ S = some (ws, S')) : ws.length = 0 := by cases h; rfl
theorem mCons_len {n : Nat} (hR : ∀ ρ S ws S', R ρ S = some (ws, S') → ws.length = n) {ρ : DEnv} {S S' : Sto} {ws : List W} (h : mCons A R ρ S = some (ws, S')) : ws.length = n + 1 := by
  obtain ⟨⟨wx, S1⟩, e1, e2⟩ := Option.bind_eq_some_iff.mp h
  obtain ⟨⟨r, S2⟩, e3, e4⟩ := Option.bind_eq_some_iff.mp e2
  cases e4
  rw [List.length_cons, hR _ _ _ _ e3]
/-- how many arguments -/
inductive ArgN : MA → Nat → Prop
  | nil : ArgN mNil 0
  | cons {A : ME} {R : MA} {n : Nat} : ArgN R n → ArgN (mCons A R) (n + 1)
theorem ArgN.len : ∀ {R : MA} {n : Nat}, ArgN R n → ∀ ρ S ws S', R ρ S = some (ws, S') → ws.length = n
  | _, _, .nil, _, _, _, _, h => mNil_len h
  | _, _, .cons h, _, _, _, _, e => mCons_len h.len e
theorem de_callC (c : Cal τ X.prog X.w X.K X.mg X.base x j ps fs) (hr : Room k X.A) (hgd : X.A.guards = some []) (hk : j ≤ k) (hg : Gl X x) (ha : PA X (e :: es) (rdA τ X.K R)) (hn : ArgN R (e :: es).length) (hps : ps.length = (e :: es).length)
    (hdb : (x == ("__debug__" : Str)) = false := by decide) (he : starEach (e :: es) X.env = (false, eval e X.env) :: starEach es X.env := by rfl) (hpl : (backTo pos (starEach es X.env)).any (·.1) = false := by rfl) :
    PE X (.Call (.Name x p) (e :: es) [] pos) (rdE τ X.K (mCall (callF fs) R)) := by
  obtain ⟨f, fd, G, hm, kp, hb⟩ := c.ex
  exact de_call (G.up hk) hr hgd hg hm kp hb ha hps hn.len hdb he hpl
/-- + of ints, texts, tuples, lists -/
def addA : W → W → Sto → Option (W × Sto) := fun x y S => match addD x y S with
  | some r => some r
  | none => catL x y S
theorem op_addA : OpR X (binaryOp .Add) (rOp τ X.K addA) := by
  intro pins s σ H x y v u Q I rx ry h
  obtain ⟨m, S, ρ, σ', wx, wy, w, S', q, hx, hy, e, p⟩ := h
  unfold addA at e
  split at e
  · rename_i r hr
    cases e
    exact op_addD pins s σ H x y v u Q I rx ry ⟨m, S, ρ, σ', wx, wy, w, S', q, hx, hy, hr, p⟩
  · exact op_catL pins s σ H x y v u Q I rx ry ⟨m, S, ρ, σ', wx, wy, w, S', q, hx, hy, e, p⟩
end
section
end
def pairsF : Nat → List PyData → List W
  | _, [] => []
  | i, d :: ds => .d (.tuple [.int (i : Nat), d]) :: pairsF (i + 1) ds
/-- enumerate(t), enumerate(l) -/
def iEnumD (R : MA) : MI := fun ρ S => (R ρ S).bind fun p => match p.1 with
  | [.d (.tuple ds)] => some (pairsF 0 ds, p.2)
  | _ => none
end DL
end
noncomputable section
namespace DL
open PySem PySem.Spec PyProof.Rows L2
def gtD := cmpI fun i j => decide (j < i)
def leD := cmpI fun i j => decide (i ≤ j)
def geD := cmpI fun i j => decide (j ≤ i)
def FUEL : Nat := 1000000000
section
variable {X : Cx} {tg e : Expr} {A : ME} {pos : Pos} {st : Stmt}
theorem op_gtD : OpR X (compareOp .Gt) (rOp τ X.K gtD) := op_cmpI op_gt
theorem op_leD : OpR X (compareOp .LtE) (rOp τ X.K leD) := op_cmpI op_le
theorem op_geD : OpR X (compareOp .GtE) (rOp τ X.K geD) := op_cmpI op_ge
/-- in, not in: a list, a tuple -/
def inA (neg : Bool) : W → W → Sto → Option (W × Sto) := fun x y S => (deref S x).bind fun d => (seqOf S y).bind fun ds =>
  if SeqAt.shaped d && SeqAt.shaped (.list ds) then some (.d (.bool ((ds.any fun z => PyData.eqv z d) ^^ neg)), S) else none
theorem seqOf_dp {K : PySem.W.Frag} {m : List Addr} {S : Sto} {ρ : DEnv} {σ : L2.St} {H : Hp} {v : V} {w : W} {ds : List PyData} (q : Sim τ K m S ρ σ H) (r : RW τ K m H v w) (z : PyData.hasDictAll ds = false) (e : seqOf S w = some ds) : Dp K H v (.list ds) ∨ Dp K H v (.tuple ds) := by
  obtain ⟨a, xs, rfl, h, r1⟩ := seqOf_of q r e
  rcases h with h | h
  · exact .inl (.lst h (r1.dpAll z))
  · exact .inr (.tup h (r1.dpAll z))
theorem op_inA (hu : X.A.units + 65 < cLine) : OpR X (compareOp .In) (rOp τ X.K (inA false)) := by
  intro pins s σ H x y v u Q I rx ry h
  obtain ⟨m, S, ρ, σ', wx, wy, w, S', q, hx, hy, e, p⟩ := h
  obtain ⟨d, e1, e⟩ := Option.bind_eq_some_iff.mp e
  obtain ⟨ds, e2, e⟩ := Option.bind_eq_some_iff.mp e
  split at e
  · rename_i hs
    simp only [Bool.and_eq_true] at hs
    cases e
    have fin := p.now q (v := .bl (ds.any fun z => PyData.eqv z d)) (by rw [Bool.xor_false]; exact .bl _)
    obtain ⟨as, r1⟩ := Dp.reads I d x v (deref_dp q hx (hd_shaped hs.1) e1) rx
    rcases seqOf_dp q hy (by simpa [PyData.hasDict] using hd_shaped hs.2) e2 with dp | dp
    · exact op_inD hu pins s σ H x y v u Q I rx ry ⟨d, ds, deref_dp q hx (hd_shaped hs.1) e1, dp, hs.1, hs.2, fin⟩
    · obtain ⟨bs, r2⟩ := Dp.reads I _ y u dp ry
      exact SeqAt.in_tuple_reads r2 r1 (SeqAt.canLay_of_shaped hs.2) (SeqAt.canLay_of_shaped hs.1) (room_in_shaped hs.1 hu) ⟨.bl _, H, I, rfl, fin⟩
  · cases e
/-- a locked list or a tuple is walked -/
def iSeq (A : ME) : MI := fun ρ S => (A ρ S).bind fun p => match p.1 with
  | .d (.list ds) => some (ds.map W.d, p.2)
  | .d (.tuple ds) => some (ds.map W.d, p.2)
  | _ => none
theorem di_seq (h : PE X e (rdE τ X.K A)) : PI X tg e (rdI τ X.K (iSeq A)) := by
  refine ⟨fun pins s σ H R I q => ?_⟩
  obtain ⟨m, S, ρ, ws, S', q, e1, p⟩ := q
  obtain ⟨⟨wx, S1⟩, e2, e3⟩ := Option.bind_eq_some_iff.mp e1
  have h2 : rdE τ X.K A σ H fun x H1 => ∃ a xs ds, x = .ref a ∧ (FzL X.K H1 a xs ∨ SqT X.K H1 a xs) ∧ RpAll X.K H1 xs ds ∧ ∀ J, (∀ m, Yl τ X.K m J (ds.map W.d) H1) → R J H1 := by
    refine ⟨m, S, ρ, wx, S1, q, e2, fun ext H1 x f q1 fr r => ?_⟩
    simp only at e3
    split at e3
    · cases e3
      obtain ⟨a, xs, rfl, h, r1⟩ := rp_lst r
      exact ⟨a, xs, _, rfl, .inl h, r1, fun J y => p ext J H1 f q1 fr (y _)⟩
    · cases e3
      obtain ⟨a, xs, rfl, h, r1⟩ := rp_tup r
      exact ⟨a, xs, _, rfl, .inr h, r1, fun J y => p ext J H1 f q1 fr (y _)⟩
    · cases e3
  refine thn (h.run pins s σ H _ I h2) fun v s1 ⟨x, H1, I1, r1, a, xs, ds, ex, hq, rp, k⟩ => ?_
  subst ex
  cases r1
  have grow : ∀ (o : Obj) b u, s1.heap.get? b = some u → (s1.heap.push o).get? b = some u := fun o b u z => Heap.get?_push_of_some _ z
  have here : ∀ b, b ∈ [s1.heap.objs.size] → FpOk X pins H1 b := fun b hb => by
    have z : b = s1.heap.objs.size := by simpa using hb
    subst z
    exact I1.fpOk (Nat.le_refl _) (I1.hok.fresh (Nat.le_refl _))
  rcases hq with hq | hq
  · obtain ⟨its, rv, pl, hz⟩ := I1.list hq.sq
    refine wpAny_pyIter_list pl.isList ⟨s1.heap.objs.size, [s1.heap.objs.size], _, _, H1, rfl, I1.kept (t' := s1.toks) (grow _), turn_list a _, ⟨_, Heap.get?_push_size _ rfl, rfl, rfl⟩, here, k _ fun m => ?_⟩
    refine yl_of (by rw [List.length_map, ← rp.length]; exact walk_list) (fun H' kp => (hq.mono kp).sq) fun i H' x H'' w ew kp y => ?_
    obtain ⟨rfl, hx⟩ := y
    exact ⟨fun _ _ z => z, rpAll_getV (RpAll.mono kp _ _ rp) hx ew⟩
  · obtain ⟨its, rv, pl, hz⟩ := I1.tuple hq
    refine wpAny_pyIter_tuple (show s1.heap.IsTuple a its.toArray from pl) ⟨s1.heap.objs.size, [s1.heap.objs.size], _, _, H1, rfl, I1.kept (t' := s1.toks) (grow _), turn_tuple a _, ⟨_, Heap.get?_push_size _ rfl, rfl, rfl⟩, here, k _ fun m => ?_⟩
    refine yl_of (by rw [List.length_map, ← rp.length]; exact walk_tup) (fun H' kp => sqT_mono hq kp) fun i H' x H'' w ew kp y => ?_
    obtain ⟨rfl, hx⟩ := y
    exact ⟨fun _ _ z => z, rpAll_getV (RpAll.mono kp _ _ rp) hx ew⟩
def min2D := ii2 fun i j => if j < i then j else i
def max2D := ii2 fun i j => if j > i then j else i
end
section
variable {X : Cx}
/-- ==, !=: two texts, or data as eqD has it -/
def eqA (neg : Bool) : W → W → Sto → Option (W × Sto) := fun x y S => match x, y with
  | .d (.str a), .d (.str b) => some (.d (.bool ((a == b) ^^ neg)), S)
  | _, _ => eqD neg x y S
theorem op_eqA (hu : X.A.units + 64 < cLine) : OpR X (compareOp .Eq) (rOp τ X.K (eqA false)) := by
  intro pins s σ H x y v u Q I rx ry h
  obtain ⟨m, S, ρ, σ', wx, wy, w, S', q, hx, hy, e, p⟩ := h
  unfold eqA at e
  split at e
  · cases e
    obtain rfl := rp_str hx
    obtain rfl := rp_str hy
    exact op_eq pins s σ H _ _ v u Q I rx ry ⟨rfl, by rw [dec_str]; exact p.now q (by rw [Bool.xor_false]; exact .bl _)⟩
  · exact op_eqDD hu pins s σ H x y v u Q I rx ry ⟨m, S, ρ, σ', _, _, w, S', q, hx, hy, e, p⟩
theorem op_neA (hu : X.A.units + 64 < cLine) : OpR X (compareOp .NotEq) (rOp τ X.K (eqA true)) := by
  intro pins s σ H x y v u Q I rx ry h
  obtain ⟨m, S, ρ, σ', wx, wy, w, S', q, hx, hy, e, p⟩ := h
  unfold eqA at e
  split at e
  · cases e
    obtain rfl := rp_str hx
    obtain rfl := rp_str hy
    exact op_ne pins s σ H _ _ v u Q I rx ry ⟨rfl, by rw [dec_str]; exact p.now q (by rw [Bool.xor_true]; exact .bl _)⟩
  · exact op_neDD hu pins s σ H x y v u Q I rx ry ⟨m, S, ρ, σ', _, _, w, S', q, hx, hy, e, p⟩
end
end DL
end
noncomputable section
namespace DL
open PySem PySem.Spec PyProof.Rows L2
section
variable {S : Sto} {i j : Int} {ρ ρ' : DEnv} {A B : ME}
theorem ev_add : addA (.d (.int i)) (.d (.int j)) S = some (.d (.int (i + j)), S) := rfl
theorem ev_addL {x y : List PyData} (h : x.length + y.length ≤ sizeLine) : addA (.d (.list x)) (.d (.list y)) S = some (.d (.list (x ++ y)), S) := by simp [addA, addD, catL, deref, h]
theorem ev_sub : subD (.d (.int i)) (.d (.int j)) S = some (.d (.int (i - j)), S) := rfl
theorem ev_iadd : iaddI (.d (.int i)) (.d (.int j)) S = some (.d (.int (i + j)), S) := rfl
theorem ev_isub : isubI (.d (.int i)) (.d (.int j)) S = some (.d (.int (i - j)), S) := rfl
theorem ev_mul (h : i.natAbs.log2 + j.natAbs.log2 < 1000000) : mulD (.d (.int i)) (.d (.int j)) S = some (.d (.int (i * j)), S) := by simp only [mulD, if_pos h]
theorem ev_mod (h : 0 < j) : modD (.d (.int i)) (.d (.int j)) S = some (.d (.int (i % j)), S) := by simp [modD, iiD, modOk, h]
theorem ev_fdiv (h : 0 < j) (h2 : j.natAbs.log2 < 9000) : fdivD (.d (.int i)) (.d (.int j)) S = some (.d (.int (i / j)), S) := by simp [fdivD, iiD, divOk, h, h2]
theorem ev_pow (h : 0 ≤ j) (h2 : j ≤ 1000000) (h3 : i.natAbs < 2 ^ 64) : powD (.d (.int i)) (.d (.int j)) S = some (.d (.int (i ^ j.toNat)), S) := by simp [powD, iiD, powOk, h, h2, h3]
theorem ev_lt : ltD (.d (.int i)) (.d (.int j)) S = some (.d (.bool (decide (i < j))), S) := by
  by_cases h : i < j <;> by_cases h2 : i = j <;> simp [ltD, ofP, kindC, toP, PyData.depth, ltC, cmpC, cmpI2, h, h2]
theorem ev_gt : gtD (.d (.int i)) (.d (.int j)) S = some (.d (.bool (decide (j < i))), S) := by simp [gtD, cmpI, iiD, yes2]
theorem ev_le : leD (.d (.int i)) (.d (.int j)) S = some (.d (.bool (decide (i ≤ j))), S) := by simp [leD, cmpI, iiD, yes2]
theorem ev_ge : geD (.d (.int i)) (.d (.int j)) S = some (.d (.bool (decide (j ≤ i))), S) := by simp [geD, cmpI, iiD, yes2]
theorem ev_eq : eqA false (.d (.int i)) (.d (.int j)) S = some (.d (.bool (decide (i = j))), S) := by
  simp [eqA, eqD, deref, SeqAt.shaped, PyData.eqv, PyData.canLay0, PyData.depth]
  by_cases h : i = j <;> simp [h]
theorem ev_ne : eqA true (.d (.int i)) (.d (.int j)) S = some (.d (.bool (!decide (i = j))), S) := by
  simp [eqA, eqD, deref, SeqAt.shaped, PyData.eqv, PyData.canLay0, PyData.depth]
  by_cases h : i = j <;> simp [h]
theorem ev_min : min2D [.d (.int i), .d (.int j)] S = some (.d (.int (if j < i then j else i)), S) := rfl
theorem ev_max : max2D [.d (.int i), .d (.int j)] S = some (.d (.int (if j > i then j else i)), S) := rfl
theorem ev_int : intD [.d (.int i)] S = some (.d (.int i), S) := rfl
theorem ev_abs : absD [.d (.int i)] S = some (.d (.int i.natAbs), S) := by simp [absD, on1]; omega
end
theorem sz1 : 1 ≤ sizeLine := by decide
theorem sz2 : 2 ≤ sizeLine := by decide
theorem sz3 : 3 ≤ sizeLine := by decide
theorem sz4 : 4 ≤ sizeLine := by decide
theorem sz5 : 5 ≤ sizeLine := by decide
theorem sz6 : 6 ≤ sizeLine := by decide
theorem sz7 : 7 ≤ sizeLine := by decide
theorem sz8 : 8 ≤ sizeLine := by decide
theorem szp : 0 < sizeLine := by decide
theorem callF_pure {f : FS} {ws : List W} {x : PyData} {S : Sto} (h0 : firstLoc ws = none) (h : f ws [] = some (.d x, [])) : callF f ws S = some (.d x, S) := by simp [callF, h0, h]
theorem callF_loc {f : FS} {ws : List W} {x : PyData} {S : Sto} {n : Nat} {ob ob' : Ob} (h0 : firstLoc ws = some n) (h1 : allLoc n ws = true) (h2 : S[n]? = some ob) (h3 : obD ob = true) (h : f (ws.map toZero) [ob] = some (.d x, [ob'])) (h4 : obD ob' = true) : callF f ws S = some (.d x, S.set n ob') := by
  simp [callF, h0, h1, h2, h3, h, h4]
theorem runF_ret {N : Nat} {b : MS} {ws : List W} {x : PyData} {S S' : Sto} (h : ∃ ρ', b (ws.map some ++ List.replicate (N - ws.length) none) S = some (.rt (.d x), ρ', S')) (hS : (S'.take S.length).all obD = true) : runF N b ws S = some (.d x, S'.take S.length) := by
  obtain ⟨ρ', h⟩ := h
  simp only [runF, h, Option.bind_some, leave, hS, if_true]
theorem runF_ret0 {N : Nat} {b : MS} {ws : List W} {x : PyData} (h : ∃ ρ' S', b (ws.map some ++ List.replicate (N - ws.length) none) [] = some (.rt (.d x), ρ', S')) : runF N b ws [] = some (.d x, []) := by
  obtain ⟨ρ', S', h⟩ := h
  have := runF_ret (N := N) (ws := ws) ⟨_, h⟩ (by simp)
  simpa using this
theorem runF_ret1 {N : Nat} {b : MS} {ws : List W} {x : PyData} {ob ob' : Ob} (h : ∃ ρ' S', b (ws.map some ++ List.replicate (N - ws.length) none) [ob] = some (.rt (.d x), ρ', ob' :: S')) (hS : obD ob' = true) : runF N b ws [ob] = some (.d x, [ob']) := by
  obtain ⟨ρ', S', h⟩ := h
  have := runF_ret (N := N) (ws := ws) ⟨_, h⟩ (by simp [hS])
  simpa using this
theorem forL_J {g : MG} {F : MS} : ∀ {ws : List W} {J : Nat → DEnv → Sto → Prop} {k : Nat} {ρ : DEnv} {S : Sto}, (∀ i w ρ S, ws[i]? = some w → J (k + i) ρ S → ∃ ρ2 S2, ((g w ρ S).bind fun p => F p.1 p.2) = some (.nx, ρ2, S2) ∧ J (k + i + 1) ρ2 S2) → J k ρ S →
    ∃ ρ' S', forL g F ws ρ S = some (.nx, ρ', S') ∧ J (k + ws.length) ρ' S'
  | [], J, k, ρ, S, _, h => ⟨ρ, S, rfl, h⟩
  | w :: ws, J, k, ρ, S, st, h => by
    obtain ⟨ρ2, S2, e2, j⟩ := st 0 w ρ S rfl h
    obtain ⟨⟨ρ1, S1⟩, e1, e2⟩ := Option.bind_eq_some_iff.mp e2
    obtain ⟨ρ', S', e3, j2⟩ := forL_J (ws := ws) (J := J) (k := k + 1) (fun i w' ρ S e q => by
      have := st (i + 1) w' ρ S (by simpa using e) (by rw [show k + (i + 1) = k + 1 + i by omega]; exact q)
      rw [show k + (i + 1) + 1 = k + 1 + i + 1 by omega] at this
      exact this) (by rw [show k + 1 = k + 0 + 1 by omega]; exact j)
    refine ⟨ρ', S', ?_, by rw [show k + (w :: ws).length = k + 1 + ws.length by simp; omega]; exact j2⟩
    simp only [forL, e1, e2, Option.bind_some]
    exact e3
theorem rngD_get {lo : Int} {n i : Nat} {w : W} (h : (rngD lo n)[i]? = some w) : i < n ∧ w = .d (.int (lo + i)) := by
  simp only [rngD, List.getElem?_map, Option.map_eq_some_iff] at h
  obtain ⟨j, h1, rfl⟩ := h
  obtain ⟨h2, h3⟩ := List.getElem?_eq_some_iff.mp h1
  simp at h2 h3
  exact ⟨h2, by rw [← h3]⟩
theorem rngD_len {lo : Int} {n : Nat} : (rngD lo n).length = n := by simp [rngD]
theorem seq_nx {F G : MS} {ρ ρ1 : DEnv} {S S1 : Sto} (h : F ρ S = some (.nx, ρ1, S1)) : sSeq F G ρ S = G ρ1 S1 := by simp [sSeq, h]
theorem seq_rt {F G : MS} {ρ ρ1 : DEnv} {S S1 : Sto} {w : W} (h : F ρ S = some (.rt w, ρ1, S1)) : sSeq F G ρ S = some (.rt w, ρ1, S1) := by simp [sSeq, h]
def rng1D (ws : List W) (S : Sto) : Option (List W × Sto) := match ws with
  | [.d (.int n)] => if n.toNat < 2 ^ 61 ∧ (-n).toNat < 2 ^ 61 then some (rngD 0 n.toNat, S) else none
  | _ => none
theorem iRng1D_eq {R : MA} {ρ : DEnv} {S : Sto} : iRng1D R ρ S = (R ρ S).bind fun p => rng1D p.1 p.2 := by
  unfold iRng1D rng1D
  cases R ρ S with
  | none => rfl
  | some p => rfl
theorem rng1_ok {n : Nat} {S : Sto} (h : n ≤ 1000000000) : rng1D [.d (.int n)] S = some (rngD 0 n, S) := by
  unfold rng1D
  simp only [Int.toNat_natCast]
  rw [if_pos (by omega)]
end DL
end
noncomputable section
namespace DL
open PySem PySem.Spec PyProof.Rows L2
theorem lg_le {i : Int} {k : Nat} (h : i.natAbs < 2 ^ k) : i.natAbs.log2 ≤ k := by
  by_cases h0 : i.natAbs = 0
  · rw [h0]; simp
  · exact Nat.le_of_lt ((Nat.log2_lt h0).mpr h)
def bBag : MS := sRet (mCall lstB (mCons (mC (.int 0)) (mCons (mC (.int 1234567891)) (mCons (mC (.int 0)) (mCons (mLc (iSeq (mSl (mVar 0) (oNo) (oYes (mC (.int 63))))) (gSet 1) (tTrue) (mCall absD (mCons (mVar 1) (mNil))) [1] kFrz) (mNil))))))
def fBag : FS := runF 2 bBag
def bTake : MS := sSeq (sIf (tOf (mBin (eqA false) (mBin idxD (mVar 0) (mC (.int 0))) (mC (.int 0)))) (sSeq (sAsg (mBin idxD (mBin addA (mSl (mBin idxD (mVar 0) (mC (.int 3))) (oYes (mBin idxD (mVar 0) (mC (.int 2)))) (oNo)) (mCall lstF (mCons (mC (.int 0)) (mNil)))) (mC (.int 0))) (gSet 4))
    (sSeq (sAugS (mVar 0) (mC (.int 2)) (mC (.int 1)) getF iaddI setF)
    (sSeq (sIf (tOf (mBin geD (mVar 4) (mBin powD (mC (.int 10)) (mC (.int 18))))) (sAsg (mVar 4) (gSubD (mVar 0) (mC (.int 0)) setF)) (sNil))
    (sSeq (sAsg (mBin addA (mBin addA (mBin mulD (mBin idxD (mVar 0) (mC (.int 1))) (mC (.int 48271))) (mBin modD (mCall intD (mCons (mVar 4) (mNil))) (mC (.int 2147483647)))) (mBin mulD (mC (.int 7919)) (mBin idxD (mVar 0) (mC (.int 2))))) (gSet 5))
    (sAsg (mBin modD (mCall intD (mCons (mVar 5) (mNil))) (mC (.int 2147483647))) (gSubD (mVar 0) (mC (.int 1)) setF)))))) (sNil))
    (sSeq (sIf (tOf (mBin gtD (mBin idxD (mVar 0) (mC (.int 0))) (mC (.int 0)))) (sSeq (sAsg (mBin modD (mCall intD (mCons (mBin idxD (mVar 0) (mC (.int 0))) (mNil))) (mVar 1)) (gSet 6))
    (sSeq (sAsg (mBin fdivD (mCall intD (mCons (mBin idxD (mVar 0) (mC (.int 0))) (mNil))) (mVar 1)) (gSubD (mVar 0) (mC (.int 0)) setF))
    (sRet (mVar 6)))) (sNil))
    (sSeq (sAsg (mBin modD (mCall intD (mCons (mBin mulD (mBin addA (mBin idxD (mVar 0) (mC (.int 1))) (mC (.int 1))) (mC (.int 39373))) (mNil))) (mC (.int 1000000007))) (gSet 2))
    (sSeq (sAsg (mBin modD (mCall intD (mCons (mBin mulD (mBin modD (mCall intD (mCons (mBin mulD (mVar 2) (mVar 2)) (mNil))) (mC (.int 998244353))) (mC (.int 30011))) (mNil))) (mC (.int 998244353))) (gSet 3))
    (sRet (mBin modD (mCall intD (mCons (mBin fdivD (mVar 3) (mC (.int 7))) (mNil))) (mVar 1))))))
def fTake : FS := runF 7 bTake
def bSome : MS := sRet (mBin idxD (mVar 1) (mCall (callF fTake) (mCons (mVar 0) (mCons (mCall lenD (mCons (mVar 1) (mNil))) (mNil)))))
def fSome : FS := runF 2 bSome
def bAlike : MS := sRet (vAnd (mBin (eqA false) (mVar 0) (mVar 1)) (mBin (eqA false) (mCall reprD (mCons (mVar 0) (mNil))) (mCall reprD (mCons (mVar 1) (mNil)))))
def fAlike : FS := runF 2 bAlike
def bFlat : MS := sSeq (sAsg (mCall lstB (mNil)) (gSet 1))
    (sSeq (sFor (iSeq (mVar 0)) (gSet 2) (sExpr (mMt extendF (mVar 1) (mCons (mVar 2) (mNil)))))
    (sRet (mFrz (mVar 1))))
def fFlat : FS := runF 3 bFlat
def bMixed : MS := sSeq (sAsg (mCall lstB (mNil)) (gSet 2))
    (sSeq (sFor (iSeq (mVar 1)) (gSet 3) (sExpr (mMt insertF (mVar 2) (mCons (mCall (callF fTake) (mCons (mVar 0) (mCons (mBin addA (mCall lenD (mCons (mVar 2) (mNil))) (mC (.int 1))) (mNil)))) (mCons (mVar 3) (mNil))))))
    (sRet (mFrz (mVar 2))))
def fMixed : FS := runF 4 bMixed
/-- a bag from which at most c times was taken -/
def bagOf (big seed ix : Nat) (cells : List Nat) : Ob := .lst [.d (.int big), .d (.int seed), .d (.int ix), .d (.list (cells.map fun c => .int (c : Nat)))]
structure BagOk (c : Nat) (ob : Ob) : Prop where
  ex : ∃ big seed ix cells, ob = bagOf big seed ix cells ∧ seed < 2147483647 ∧ ix ≤ c ∧ cells.length ≤ 63
theorem BagOk.up {c d : Nat} {ob : Ob} (h : BagOk c ob) (k : c ≤ d) : BagOk d ob := by
  obtain ⟨b, s, i, l, e, h1, h2, h3⟩ := h.ex
  exact ⟨b, s, i, l, e, h1, by omega, h3⟩
theorem BagOk.obD {c : Nat} {ob : Ob} (h : BagOk c ob) : obD ob = true := by
  obtain ⟨b, s, i, l, rfl, h1, h2, h3⟩ := h.ex
  simp [bagOf, DL.obD, allD]
/-- the cell that is read -/
theorem cell_ex (cells : List Nat) (ix : Nat) : ∃ c : Nat, atI (cutD (cells.map fun c => PyData.int (c : Nat)) (some (ix : Int)) none ++ [.int 0]) 0 = some (.int (c : Nat)) := by
  unfold cutD
  rw [← List.map_drop, ← List.map_take]
  cases ((cells.drop _).take _) with
  | nil => exact ⟨0, by simp [atI, ixN]⟩
  | cons c l => exact ⟨c, by
      have h : 0 < ((c :: l).map (fun c => PyData.int (c : Nat)) ++ [PyData.int 0]).length := by simp
      have e := atI_nat (xs := (c :: l).map (fun c => PyData.int (c : Nat)) ++ [PyData.int 0]) (j := 0) (v := .int c) (by simp)
      simpa using e⟩
theorem ix40 : ixN 4 0 = some 0 := by decide
theorem ix41 : ixN 4 1 = some 1 := by decide
theorem ix42 : ixN 4 2 = some 2 := by decide
section
variable {α : Type} {a b c d : α}
theorem at40 : atI [a, b, c, d] 0 = some a := rfl
theorem at41 : atI [a, b, c, d] 1 = some b := rfl
theorem at42 : atI [a, b, c, d] 2 = some c := rfl
theorem at43 : atI [a, b, c, d] 3 = some d := rfl
end
theorem pow1018 (S : Sto) : powD (.d (.int 10)) (.d (.int 18)) S = some (.d (.int 1000000000000000000), S) := by
  rw [ev_pow (by decide) (by decide) (by decide)]; rfl
theorem len_cut {α : Type} (l : List α) (a b : Option Int) : (cutD l a b).length ≤ l.length := by
  unfold cutD; rw [List.length_take, List.length_drop]; omega
def bTake1 : MS := (sIf (tOf (mBin (eqA false) (mBin idxD (mVar 0) (mC (.int 0))) (mC (.int 0)))) (sSeq (sAsg (mBin idxD (mBin addA (mSl (mBin idxD (mVar 0) (mC (.int 3))) (oYes (mBin idxD (mVar 0) (mC (.int 2)))) (oNo)) (mCall lstF (mCons (mC (.int 0)) (mNil)))) (mC (.int 0))) (gSet 4))
    (sSeq (sAugS (mVar 0) (mC (.int 2)) (mC (.int 1)) getF iaddI setF)
    (sSeq (sIf (tOf (mBin geD (mVar 4) (mBin powD (mC (.int 10)) (mC (.int 18))))) (sAsg (mVar 4) (gSubD (mVar 0) (mC (.int 0)) setF)) (sNil))
    (sSeq (sAsg (mBin addA (mBin addA (mBin mulD (mBin idxD (mVar 0) (mC (.int 1))) (mC (.int 48271))) (mBin modD (mCall intD (mCons (mVar 4) (mNil))) (mC (.int 2147483647)))) (mBin mulD (mC (.int 7919)) (mBin idxD (mVar 0) (mC (.int 2))))) (gSet 5))
    (sAsg (mBin modD (mCall intD (mCons (mVar 5) (mNil))) (mC (.int 2147483647))) (gSubD (mVar 0) (mC (.int 1)) setF)))))) (sNil))
def bTake2 : MS := (sSeq (sIf (tOf (mBin gtD (mBin idxD (mVar 0) (mC (.int 0))) (mC (.int 0)))) (sSeq (sAsg (mBin modD (mCall intD (mCons (mBin idxD (mVar 0) (mC (.int 0))) (mNil))) (mVar 1)) (gSet 6))
    (sSeq (sAsg (mBin fdivD (mCall intD (mCons (mBin idxD (mVar 0) (mC (.int 0))) (mNil))) (mVar 1)) (gSubD (mVar 0) (mC (.int 0)) setF))
    (sRet (mVar 6)))) (sNil))
    (sSeq (sAsg (mBin modD (mCall intD (mCons (mBin mulD (mBin addA (mBin idxD (mVar 0) (mC (.int 1))) (mC (.int 1))) (mC (.int 39373))) (mNil))) (mC (.int 1000000007))) (gSet 2))
    (sSeq (sAsg (mBin modD (mCall intD (mCons (mBin mulD (mBin modD (mCall intD (mCons (mBin mulD (mVar 2) (mVar 2)) (mNil))) (mC (.int 998244353))) (mC (.int 30011))) (mNil))) (mC (.int 998244353))) (gSet 3))
    (sRet (mBin modD (mCall intD (mCons (mBin fdivD (mVar 3) (mC (.int 7))) (mNil))) (mVar 1))))))
theorem bTake_eq : bTake = sSeq bTake1 bTake2 := rfl
theorem stir_ok {seed c ix : Nat} (h1 : seed < 2147483647) (h2 : ix < 2 ^ 1000) : (∀ S, mulD (.d (.int seed)) (.d (.int 48271)) S = some (.d (.int (seed * 48271)), S)) ∧ ∀ S, mulD (.d (.int 7919)) (.d (.int (ix : Nat))) S = some (.d (.int (7919 * ix)), S) := by
  refine ⟨fun S => ev_mul ?_, fun S => ev_mul ?_⟩
  · have : (seed : Int).natAbs.log2 ≤ 31 := lg_le (by omega)
    have : (48271 : Int).natAbs.log2 ≤ 16 := by decide
    omega
  · have : ((ix : Nat) : Int).natAbs.log2 ≤ 1000 := lg_le (by simpa using h2)
    have : (7919 : Int).natAbs.log2 ≤ 13 := by decide
    omega
theorem take1 {upto : Int} {big seed ix : Nat} {cells : List Nat} (h1 : seed < 2147483647) (h2 : ix + 1 < 2 ^ 1000) (h3 : cells.length ≤ 63) :
    ∃ x y big' seed' ix', bTake1 [some (.loc 0), some (.d (.int upto)), none, none, none, none, none] [bagOf big seed ix cells] = some (.nx, [some (.loc 0), some (.d (.int upto)), none, none, x, y, none], [bagOf big' seed' ix' cells]) ∧ seed' < 2147483647 ∧ ix' ≤ ix + 1 := by
  by_cases hb : big = 0
  · subst hb
    obtain ⟨c, hc⟩ := cell_ex cells ix
    have hl : (cutD (cells.map fun c => PyData.int (c : Nat)) (some (ix : Int)) none).length + [PyData.int 0].length ≤ sizeLine := by
      have := len_cut (cells.map fun c => PyData.int (c : Nat)) (some (ix : Int)) none
      rw [List.length_map] at this
      have : 64 ≤ sizeLine := by decide
      simp only [List.length_cons, List.length_nil]; omega
    have ha := fun S => ev_addL (S := S) hl
    obtain ⟨m1, m2⟩ := stir_ok (c := 0) h1 h2
    have hm := fun (z : Int) S => ev_mod (S := S) (i := z) (j := 2147483647) (by decide)
    have hs : ∀ z : Nat, ∃ s' : Nat, ((seed : Int) * 48271 + (z : Int) % 2147483647 + 7919 * ((ix : Int) + 1)) % 2147483647 = (s' : Nat) ∧ s' < 2147483647 := fun z => by
      refine ⟨(((seed : Int) * 48271 + (z : Int) % 2147483647 + 7919 * ((ix : Int) + 1)) % 2147483647).toNat, ?_, ?_⟩ <;> omega
    have m2' : ∀ S, mulD (.d (.int 7919)) (.d (.int ((ix : Int) + 1))) S = some (.d (.int (7919 * ((ix : Int) + 1))), S) := by
      intro S; have := m2 S; simpa using this
    obtain ⟨s', es, hs'⟩ := hs c
    by_cases hk : (1000000000000000000 : Int) ≤ c
    · refine ⟨some (.d (.int c)), some (.d (.int ((seed : Int) * 48271 + (c : Int) % 2147483647 + 7919 * ((ix : Int) + 1)))), c, s', ix + 1, ?_, hs', by omega⟩
      simp [bTake1, bagOf, DL.sSeq, DL.sNil, DL.sPass, DL.sBreak, DL.sCont, DL.sExpr, DL.sRet, DL.sRetN, DL.sIf, DL.sAsg, DL.sPar, DL.sAug, DL.sAugS, DL.gSet, DL.gTupD, DL.gsNil, DL.gsCons, DL.gSubD, DL.sFor, DL.iRng1D_eq, DL.mVar, DL.mC, DL.mNil, DL.mCons, DL.mCall, DL.mBin, DL.mNeg, DL.mMt, DL.mSl, DL.oNo, DL.oYes, DL.tOf, DL.tNotD, DL.tAndD, DL.tOrD, DL.tTru, DL.truD, DL.tTrue, DL.vAnd, DL.vOr, DL.vNot, DL.vIf, DL.vChain, DL.tupF, DL.lstF, DL.allD, DL.ev_add, DL.ev_sub, DL.ev_iadd, DL.ev_isub, DL.ev_lt, DL.ev_gt, DL.ev_le, DL.ev_ge, DL.ev_eq, DL.ev_ne, DL.ev_min, DL.ev_max, DL.ev_int, DL.ev_abs, DL.sz1, DL.sz2, DL.sz3, DL.sz4, DL.sz5, DL.sz6, DL.sz7, DL.sz8, DL.szp, idxD, at40, at41, at42, at43, sliceD, ha, hc, getF, setF, ix40, ix41, ix42, pow1018, hk, m1, m2', hm, es]
    · refine ⟨some (.d (.int c)), some (.d (.int ((seed : Int) * 48271 + (c : Int) % 2147483647 + 7919 * ((ix : Int) + 1)))), 0, s', ix + 1, ?_, hs', by omega⟩
      simp [bTake1, bagOf, DL.sSeq, DL.sNil, DL.sPass, DL.sBreak, DL.sCont, DL.sExpr, DL.sRet, DL.sRetN, DL.sIf, DL.sAsg, DL.sPar, DL.sAug, DL.sAugS, DL.gSet, DL.gTupD, DL.gsNil, DL.gsCons, DL.gSubD, DL.sFor, DL.iRng1D_eq, DL.mVar, DL.mC, DL.mNil, DL.mCons, DL.mCall, DL.mBin, DL.mNeg, DL.mMt, DL.mSl, DL.oNo, DL.oYes, DL.tOf, DL.tNotD, DL.tAndD, DL.tOrD, DL.tTru, DL.truD, DL.tTrue, DL.vAnd, DL.vOr, DL.vNot, DL.vIf, DL.vChain, DL.tupF, DL.lstF, DL.allD, DL.ev_add, DL.ev_sub, DL.ev_iadd, DL.ev_isub, DL.ev_lt, DL.ev_gt, DL.ev_le, DL.ev_ge, DL.ev_eq, DL.ev_ne, DL.ev_min, DL.ev_max, DL.ev_int, DL.ev_abs, DL.sz1, DL.sz2, DL.sz3, DL.sz4, DL.sz5, DL.sz6, DL.sz7, DL.sz8, DL.szp, idxD, at40, at41, at42, at43, sliceD, ha, hc, getF, setF, ix40, ix41, ix42, pow1018, hk, m1, m2', hm, es]
  · refine ⟨none, none, big, seed, ix, ?_, h1, by omega⟩
    simp [bTake1, bagOf, DL.sSeq, DL.sNil, DL.sPass, DL.sBreak, DL.sCont, DL.sExpr, DL.sRet, DL.sRetN, DL.sIf, DL.sAsg, DL.sPar, DL.sAug, DL.sAugS, DL.gSet, DL.gTupD, DL.gsNil, DL.gsCons, DL.gSubD, DL.sFor, DL.iRng1D_eq, DL.mVar, DL.mC, DL.mNil, DL.mCons, DL.mCall, DL.mBin, DL.mNeg, DL.mMt, DL.mSl, DL.oNo, DL.oYes, DL.tOf, DL.tNotD, DL.tAndD, DL.tOrD, DL.tTru, DL.truD, DL.tTrue, DL.vAnd, DL.vOr, DL.vNot, DL.vIf, DL.vChain, DL.tupF, DL.lstF, DL.allD, DL.ev_add, DL.ev_sub, DL.ev_iadd, DL.ev_isub, DL.ev_lt, DL.ev_gt, DL.ev_le, DL.ev_ge, DL.ev_eq, DL.ev_ne, DL.ev_min, DL.ev_max, DL.ev_int, DL.ev_abs, DL.sz1, DL.sz2, DL.sz3, DL.sz4, DL.sz5, DL.sz6, DL.sz7, DL.sz8, DL.szp, idxD, at40, hb]
theorem take2 {upto : Int} {big seed ix : Nat} {cells : List Nat} {x y : Option W} (hu : 0 < upto) (hl : upto.natAbs.log2 < 9000) (h1 : seed < 2147483647) :
    ∃ ρ' v big', bTake2 [some (.loc 0), some (.d (.int upto)), none, none, x, y, none] [bagOf big seed ix cells] = some (.rt (.d (.int v)), ρ', [bagOf big' seed ix cells]) ∧ 0 ≤ v ∧ v < upto := by
  have hm := fun (z : Int) S => ev_mod (S := S) (i := z) (j := upto) hu
  have hd := fun (z : Int) S => ev_fdiv (S := S) (i := z) (j := upto) hu hl
  by_cases hb : big = 0
  · subst hb
    have hp := fun (z : Int) S => ev_mod (S := S) (i := z) (j := 1000000007) (by decide)
    have hq := fun (z : Int) S => ev_mod (S := S) (i := z) (j := 998244353) (by decide)
    have h7 := fun (z : Int) S => ev_fdiv (S := S) (i := z) (j := 7) (by decide) (by decide)
    have m1 : ∀ S, mulD (.d (.int ((seed : Int) + 1))) (.d (.int 39373)) S = some (.d (.int (((seed : Int) + 1) * 39373)), S) := fun S => ev_mul (by
      have : ((seed : Int) + 1).natAbs.log2 ≤ 32 := lg_le (by omega)
      have : (39373 : Int).natAbs.log2 ≤ 16 := by decide
      omega)
    obtain ⟨bg, hbg⟩ : ∃ bg, ((seed : Int) + 1) * 39373 % 1000000007 = bg := ⟨_, rfl⟩
    have hb1 : 0 ≤ bg ∧ bg < 1000000007 := by omega
    have m2 : ∀ S, mulD (.d (.int bg)) (.d (.int bg)) S = some (.d (.int (bg * bg)), S) := fun S => ev_mul (by
      have : bg.natAbs.log2 ≤ 30 := lg_le (by omega)
      omega)
    obtain ⟨sc, hsc⟩ : ∃ sc, bg * bg % 998244353 = sc := ⟨_, rfl⟩
    have hs1 : 0 ≤ sc ∧ sc < 998244353 := by
      rw [← hsc]; exact ⟨Int.emod_nonneg _ (by decide), Int.emod_lt_of_pos _ (by decide)⟩
    have m3 : ∀ S, mulD (.d (.int sc)) (.d (.int 30011)) S = some (.d (.int (sc * 30011)), S) := fun S => ev_mul (by
      have : sc.natAbs.log2 ≤ 30 := lg_le (by omega)
      have : (30011 : Int).natAbs.log2 ≤ 16 := by decide
      omega)
    refine ⟨[some (.loc 0), some (.d (.int upto)), some (.d (.int bg)), some (.d (.int (sc * 30011 % 998244353))), x, y, none], sc * 30011 % 998244353 / 7 % upto, 0, ?_, Int.emod_nonneg _ (by omega), Int.emod_lt_of_pos _ hu⟩
    simp [bTake2, bagOf, DL.sSeq, DL.sNil, DL.sPass, DL.sBreak, DL.sCont, DL.sExpr, DL.sRet, DL.sRetN, DL.sIf, DL.sAsg, DL.sPar, DL.sAug, DL.sAugS, DL.gSet, DL.gTupD, DL.gsNil, DL.gsCons, DL.gSubD, DL.sFor, DL.iRng1D_eq, DL.mVar, DL.mC, DL.mNil, DL.mCons, DL.mCall, DL.mBin, DL.mNeg, DL.mMt, DL.mSl, DL.oNo, DL.oYes, DL.tOf, DL.tNotD, DL.tAndD, DL.tOrD, DL.tTru, DL.truD, DL.tTrue, DL.vAnd, DL.vOr, DL.vNot, DL.vIf, DL.vChain, DL.tupF, DL.lstF, DL.allD, DL.ev_add, DL.ev_sub, DL.ev_iadd, DL.ev_isub, DL.ev_lt, DL.ev_gt, DL.ev_le, DL.ev_ge, DL.ev_eq, DL.ev_ne, DL.ev_min, DL.ev_max, DL.ev_int, DL.ev_abs, DL.sz1, DL.sz2, DL.sz3, DL.sz4, DL.sz5, DL.sz6, DL.sz7, DL.sz8, DL.szp, idxD, at40, at41, hm, hp, hq, h7, m1, hbg, m2, hsc, m3]
  · have hg : 0 < (big : Int) := by omega
    have he : ∃ b' : Nat, (big : Int) / upto = b' := ⟨((big : Int) / upto).toNat, (Int.toNat_of_nonneg (Int.ediv_nonneg (by omega) (by omega))).symm⟩
    obtain ⟨b', hb'⟩ := he
    refine ⟨[some (.loc 0), some (.d (.int upto)), none, none, x, y, some (.d (.int ((big : Int) % upto)))], (big : Int) % upto, b', ?_, Int.emod_nonneg _ (by omega), Int.emod_lt_of_pos _ hu⟩
    have hg' : 0 < big := by omega
    simp [bTake2, bagOf, DL.sSeq, DL.sNil, DL.sPass, DL.sBreak, DL.sCont, DL.sExpr, DL.sRet, DL.sRetN, DL.sIf, DL.sAsg, DL.sPar, DL.sAug, DL.sAugS, DL.gSet, DL.gTupD, DL.gsNil, DL.gsCons, DL.gSubD, DL.sFor, DL.iRng1D_eq, DL.mVar, DL.mC, DL.mNil, DL.mCons, DL.mCall, DL.mBin, DL.mNeg, DL.mMt, DL.mSl, DL.oNo, DL.oYes, DL.tOf, DL.tNotD, DL.tAndD, DL.tOrD, DL.tTru, DL.truD, DL.tTrue, DL.vAnd, DL.vOr, DL.vNot, DL.vIf, DL.vChain, DL.tupF, DL.lstF, DL.allD, DL.ev_add, DL.ev_sub, DL.ev_iadd, DL.ev_isub, DL.ev_lt, DL.ev_gt, DL.ev_le, DL.ev_ge, DL.ev_eq, DL.ev_ne, DL.ev_min, DL.ev_max, DL.ev_int, DL.ev_abs, DL.sz1, DL.sz2, DL.sz3, DL.sz4, DL.sz5, DL.sz6, DL.sz7, DL.sz8, DL.szp, idxD, at40, at41, hm, hd, hg', setF, ix40, hb']
theorem take_ok {c n : Nat} {ob : Ob} {S : Sto} {upto : Int} (hS : S[n]? = some ob) (hb : BagOk c ob) (hc : c + 1 < 2 ^ 1000) (hu : 0 < upto) (hl : upto.natAbs.log2 < 9000) :
    ∃ v ob', callF fTake [.loc n, .d (.int upto)] S = some (.d (.int v), S.set n ob') ∧ 0 ≤ v ∧ v < upto ∧ BagOk (c + 1) ob' := by
  obtain ⟨big, seed, ix, cells, rfl, h1, h2, h3⟩ := hb.ex
  obtain ⟨x, y, big', seed', ix', e1, k1, k2⟩ := take1 (upto := upto) (big := big) (ix := ix) h1 (by omega) h3
  obtain ⟨ρ', v, big2, e2, v0, v1⟩ := take2 (big := big') (seed := seed') (ix := ix') (cells := cells) (x := x) (y := y) hu hl k1
  have hb2 : BagOk (c + 1) (bagOf big2 seed' ix' cells) := ⟨big2, seed', ix', cells, rfl, k1, by omega, h3⟩
  refine ⟨v, _, callF_loc (n := n) rfl (by simp [allLoc]) hS hb.obD (runF_ret1 ⟨ρ', [], ?_⟩ hb2.obD) hb2.obD, v0, v1, hb2⟩
  rw [bTake_eq]
  show sSeq bTake1 bTake2 [some (.loc 0), some (.d (.int upto)), none, none, none, none, none] _ = _
  rw [seq_nx e1, e2]
end DL
end
noncomputable section
namespace DL
open PySem PySem.Spec PyProof.Rows L2
structure Nice (B w dp : Nat) (d : PyData) : Prop where
  lay : d.canLay0 = true
  dep : d.depth ≤ dp
  sh : d.showable = true
  nd : d.hasDict = false
  ls : d.leavesShort B = true
  wt : d.weight ≤ w
  eq : PyData.eqv d d = true
structure NiceAll (B w dp : Nat) (xs : List PyData) : Prop where
  lay : PyData.canLayAll0 xs = true
  dep : PyData.depthAll xs ≤ dp
  sh : PyData.showableAll xs = true
  nd : PyData.hasDictAll xs = false
  ls : PyData.leavesShortAll B xs = true
  wt : PyData.weightAll xs ≤ w
  eq : PyData.eqvAll xs xs = true
section
variable {B w dp w' dp' : Nat} {d : PyData} {xs : List PyData}
theorem Nice.up (h : Nice B w dp d) (k1 : w ≤ w') (k2 : dp ≤ dp') : Nice B w' dp' d := ⟨h.lay, Nat.le_trans h.dep k2, h.sh, h.nd, h.ls, Nat.le_trans h.wt k1, h.eq⟩
theorem NiceAll.up (h : NiceAll B w dp xs) (k1 : w ≤ w') (k2 : dp ≤ dp') : NiceAll B w' dp' xs := ⟨h.lay, Nat.le_trans h.dep k2, h.sh, h.nd, h.ls, Nat.le_trans h.wt k1, h.eq⟩
theorem niceNil : NiceAll B 0 dp [] := ⟨rfl, Nat.zero_le _, rfl, rfl, rfl, Nat.le_refl _, rfl⟩
theorem niceCons (h : Nice B w dp d) (t : NiceAll B w' dp xs) : NiceAll B (w + 1 + w') dp (d :: xs) := by
  refine ⟨?_, ?_, ?_, ?_, ?_, ?_, ?_⟩
  · simp [PyData.canLayAll0, h.lay, t.lay]
  · simp only [PyData.depthAll]; exact Nat.max_le.mpr ⟨h.dep, t.dep⟩
  · simp [PyData.showableAll, h.sh, t.sh]
  · simp [PyData.hasDictAll, h.nd, t.nd]
  · simp [PyData.leavesShortAll, h.ls, t.ls]
  · simp only [PyData.weightAll]; have := h.wt; have := t.wt; omega
  · simp [PyData.eqvAll, h.eq, t.eq]
theorem niceList (t : NiceAll B w dp xs) : Nice B w (dp + 1) (.list xs) := ⟨by simpa [PyData.canLay0] using t.lay, by simp only [PyData.depth]; exact Nat.succ_le_succ t.dep, by simpa [PyData.showable] using t.sh, by simpa [PyData.hasDict] using t.nd, by simpa [PyData.leavesShort] using t.ls, by simpa [PyData.weight] using t.wt, by simpa [PyData.eqv] using t.eq⟩
theorem niceBool {b : Bool} : Nice B 0 dp (.bool b) := ⟨rfl, Nat.zero_le _, rfl, rfl, rfl, Nat.le_refl _, by simp [PyData.eqv]⟩
theorem ten_two (k : Nat) : 10 ^ k ≤ 2 ^ (4 * k) := by
  rw [Nat.pow_mul]; exact Nat.pow_le_pow_left (by decide) k
theorem niceInt {i : Int} {k : Nat} (h : i.natAbs < 10 ^ k) (hk : 0 < k) (hB : k + 1 ≤ B) (h4 : k < 480) : Nice B (4 * k + 1) dp (.int i) := by
  have hl : i.natAbs.log2 ≤ 4 * k := by
    by_cases h0 : i.natAbs = 0
    · rw [h0]; simp
    · exact Nat.le_of_lt ((Nat.log2_lt h0).mpr (Nat.lt_of_lt_of_le h (ten_two k)))
  refine ⟨rfl, Nat.zero_le _, by simp only [PyData.showable, decide_eq_true_eq]; omega, rfl, ?_, ?_, by simp [PyData.eqv]⟩
  · have e := int_text_length_le10 hk h
    simp only [PyData.leavesShort, decide_eq_true_eq]
    show (Str.ofString (toString i)).length ≤ B
    rw [PySem.ofString_length]; omega
  · simp only [PyData.weight]; split <;> omega
theorem Nice.shaped (h : Nice B w dp d) (k : dp ≤ 64) : SeqAt.shaped d = true := by
  simp only [SeqAt.shaped, h.lay, Bool.true_and, decide_eq_true_eq]; exact Nat.le_trans h.dep k
theorem Nice.reprOk (h : Nice B w dp d) (k : dp ≤ 64) (hB : 8 ≤ B) (hw : (B + 2) * w + B ≤ sizeLine) : reprOk d = true := by
  have h1 := PyData.shown_le B hB d h.ls
  have h2 := Nat.mul_le_mul_left (B + 2) h.wt
  simp only [DL.reprOk, h.sh, h.nd, Bool.not_false, Bool.and_true, Bool.true_and, Bool.and_eq_true, decide_eq_true_eq]
  exact ⟨Nat.le_trans h.dep k, by omega⟩
theorem eqA_self {S : Sto} (h : SeqAt.shaped d = true) (k : PyData.eqv d d = true) : eqA false (.d d) (.d d) S = some (.d (.bool true), S) := by
  unfold eqA
  split
  · rename_i a b e1 e2
    cases e1; cases e2
    simp
  · simp [eqD, deref, h, k]
theorem alike_ok (h : Nice B w dp d) (k : dp ≤ 64) (hB : 8 ≤ B) (hw : (B + 2) * w + B ≤ sizeLine) (S : Sto) : callF fAlike [.d d, .d d] S = some (.d (.bool true), S) := by
  refine callF_pure rfl (runF_ret0 ?_)
  have h1 := h.reprOk k hB hw
  have h2 := fun S => eqA_self (S := S) (h.shaped k) h.eq
  have h3 : ∀ S, eqA false (.d (.str d.shown)) (.d (.str d.shown)) S = some (.d (.bool true), S) := fun S => by simp [eqA]
  simp [bAlike, DL.sSeq, DL.sNil, DL.sPass, DL.sBreak, DL.sCont, DL.sExpr, DL.sRet, DL.sRetN, DL.sIf, DL.sAsg, DL.sPar, DL.sAug, DL.sAugS, DL.gSet, DL.gTupD, DL.gsNil, DL.gsCons, DL.gSubD, DL.sFor, DL.iRng1D_eq, DL.mVar, DL.mC, DL.mNil, DL.mCons, DL.mCall, DL.mBin, DL.mNeg, DL.mMt, DL.mSl, DL.oNo, DL.oYes, DL.tOf, DL.tNotD, DL.tAndD, DL.tOrD, DL.tTru, DL.truD, DL.tTrue, DL.vAnd, DL.vOr, DL.vNot, DL.vIf, DL.vChain, DL.tupF, DL.lstF, DL.allD, DL.ev_add, DL.ev_sub, DL.ev_iadd, DL.ev_isub, DL.ev_lt, DL.ev_gt, DL.ev_le, DL.ev_ge, DL.ev_eq, DL.ev_ne, DL.ev_min, DL.ev_max, DL.ev_int, DL.ev_abs, DL.sz1, DL.sz2, DL.sz3, DL.sz4, DL.sz5, DL.sz6, DL.sz7, DL.sz8, DL.szp, reprD, on1, deref, h1, h2, h3]
end
end DL
end
noncomputable section
namespace DL
open PySem PySem.Spec PyProof.Rows L2
theorem atI_nn {α : Type} {xs : List α} {v : Int} (h0 : 0 ≤ v) (h : v < xs.length) : ∃ x ∈ xs, atI xs v = some x ∧ xs[v.toNat]? = some x := by
  obtain ⟨n, rfl⟩ := Int.eq_ofNat_of_zero_le h0
  have hn : n < xs.length := by omega
  exact ⟨xs[n], List.getElem_mem hn, atI_nat (List.getElem?_eq_getElem hn), by simp [hn]⟩
theorem size_lg {n : Nat} (h : n ≤ sizeLine) : (n : Int).natAbs.log2 < 9000 := by
  have : (n : Int).natAbs.log2 ≤ 25 := lg_le (by
    have : sizeLine < 2 ^ 25 := by decide
    simp; omega)
  omega
/-- a choice from a list -/
theorem some_ok {c n : Nat} {ob : Ob} {S : Sto} {xs : List PyData} (hS : S[n]? = some ob) (hb : BagOk c ob) (hc : c + 1 < 2 ^ 1000) (h0 : xs ≠ []) (hx : xs.length ≤ sizeLine) :
    ∃ x ∈ xs, ∃ ob', callF fSome [.loc n, .d (.list xs)] S = some (.d x, S.set n ob') ∧ BagOk (c + 1) ob' := by
  have hp : 0 < xs.length := List.length_pos_iff.mpr h0
  obtain ⟨v, ob', e, v0, v1, hb'⟩ := take_ok (S := [ob]) (n := 0) (upto := xs.length) rfl hb hc (by omega) (size_lg hx)
  obtain ⟨x, hm, ex, _⟩ := atI_nn v0 v1
  refine ⟨x, hm, ob', callF_loc (n := n) rfl (by simp [allLoc]) hS hb.obD (runF_ret1 ?_ hb'.obD) hb'.obD, hb'⟩
  simp only [List.set_cons_zero] at e
  simp [bSome, DL.sSeq, DL.sNil, DL.sPass, DL.sBreak, DL.sCont, DL.sExpr, DL.sRet, DL.sRetN, DL.sIf, DL.sAsg, DL.sPar, DL.sAug, DL.sAugS, DL.gSet, DL.gTupD, DL.gsNil, DL.gsCons, DL.gSubD, DL.sFor, DL.iRng1D_eq, DL.mVar, DL.mC, DL.mNil, DL.mCons, DL.mCall, DL.mBin, DL.mNeg, DL.mMt, DL.mSl, DL.oNo, DL.oYes, DL.tOf, DL.tNotD, DL.tAndD, DL.tOrD, DL.tTru, DL.truD, DL.tTrue, DL.vAnd, DL.vOr, DL.vNot, DL.vIf, DL.vChain, DL.tupF, DL.lstF, DL.allD, DL.ev_add, DL.ev_sub, DL.ev_iadd, DL.ev_isub, DL.ev_lt, DL.ev_gt, DL.ev_le, DL.ev_ge, DL.ev_eq, DL.ev_ne, DL.ev_min, DL.ev_max, DL.ev_int, DL.ev_abs, DL.sz1, DL.sz2, DL.sz3, DL.sz4, DL.sz5, DL.sz6, DL.sz7, DL.sz8, DL.szp, toZero, lenD, on1, len0, e, idxD, ex]
theorem allD_flat (rows : List (List PyData)) : allD (rows.map (List.map W.d)).flatten = some rows.flatten := by
  rw [← List.map_flatten]; exact allD_map _
/-- rows in one -/
theorem flat_ok (rows : List (List PyData)) (h : rows.flatten.length ≤ sizeLine) (S : Sto) : callF fFlat [.d (.list (rows.map .list))] S = some (.d (.list rows.flatten), S) := by
  refine callF_pure rfl (runF_ret0 ?_)
  obtain ⟨ρ', S', e, x, rfl, rfl⟩ := forL_J (g := gSet 2) (F := sExpr (mMt extendF (mVar 1) (mCons (mVar 2) (mNil)))) (ws := (rows.map PyData.list).map W.d) (k := 0)
    (J := fun i ρ S => ∃ x, ρ = [some (.d (.list (rows.map .list))), some (.loc 0), x] ∧ S = [.lst ((rows.take i).flatten.map W.d)]) (ρ := [some (.d (.list (rows.map .list))), some (.loc 0), none]) (S := [.lst []]) (fun i w ρ S hw ⟨x, e1, e2⟩ => by
      subst e1 e2
      simp only [List.getElem?_map, Option.map_eq_some_iff, Nat.zero_add] at hw ⊢
      obtain ⟨_, ⟨r, hr, rfl⟩, rfl⟩ := hw
      have hi := (List.getElem?_eq_some_iff.mp hr).1
      have ht : rows.take (i + 1) = rows.take i ++ [r] := by rw [List.take_succ, hr]; rfl
      have hlen : ((rows.take i).flatten.map W.d).length + r.length ≤ sizeLine := by
        have h1 : (rows.take (i + 1)).flatten.length ≤ rows.flatten.length := by
          conv => rhs; rw [← List.take_append_drop (i + 1) rows, List.flatten_append, List.length_append]
          omega
        rw [ht, List.flatten_append, List.length_append] at h1
        have h2 : [r].flatten.length = r.length := by simp
        rw [List.length_map]; omega
      rw [ht]
      simp [DL.sSeq, DL.sNil, DL.sPass, DL.sBreak, DL.sCont, DL.sExpr, DL.sRet, DL.sRetN, DL.sIf, DL.sAsg, DL.sPar, DL.sAug, DL.sAugS, DL.gSet, DL.gTupD, DL.gsNil, DL.gsCons, DL.gSubD, DL.sFor, DL.iRng1D_eq, DL.mVar, DL.mC, DL.mNil, DL.mCons, DL.mCall, DL.mBin, DL.mNeg, DL.mMt, DL.mSl, DL.oNo, DL.oYes, DL.tOf, DL.tNotD, DL.tAndD, DL.tOrD, DL.tTru, DL.truD, DL.tTrue, DL.vAnd, DL.vOr, DL.vNot, DL.vIf, DL.vChain, DL.tupF, DL.lstF, DL.allD, DL.ev_add, DL.ev_sub, DL.ev_iadd, DL.ev_isub, DL.ev_lt, DL.ev_gt, DL.ev_le, DL.ev_ge, DL.ev_eq, DL.ev_ne, DL.ev_min, DL.ev_max, DL.ev_int, DL.ev_abs, DL.sz1, DL.sz2, DL.sz3, DL.sz4, DL.sz5, DL.sz6, DL.sz7, DL.sz8, DL.szp, isLst, extendF, onL, deref] at hlen ⊢
      simp [hlen]) ⟨none, by simp, by simp⟩
  simp only [Nat.zero_add, List.length_map] at e ⊢
  simp at e
  simp [bFlat, DL.sSeq, DL.sNil, DL.sPass, DL.sBreak, DL.sCont, DL.sExpr, DL.sRet, DL.sRetN, DL.sIf, DL.sAsg, DL.sPar, DL.sAug, DL.sAugS, DL.gSet, DL.gTupD, DL.gsNil, DL.gsCons, DL.gSubD, DL.sFor, DL.iRng1D_eq, DL.mVar, DL.mC, DL.mNil, DL.mCons, DL.mCall, DL.mBin, DL.mNeg, DL.mMt, DL.mSl, DL.oNo, DL.oYes, DL.tOf, DL.tNotD, DL.tAndD, DL.tOrD, DL.tTru, DL.truD, DL.tTrue, DL.vAnd, DL.vOr, DL.vNot, DL.vIf, DL.vChain, DL.tupF, DL.lstF, DL.allD, DL.ev_add, DL.ev_sub, DL.ev_iadd, DL.ev_isub, DL.ev_lt, DL.ev_gt, DL.ev_le, DL.ev_ge, DL.ev_eq, DL.ev_ne, DL.ev_min, DL.ev_max, DL.ev_int, DL.ev_abs, DL.sz1, DL.sz2, DL.sz3, DL.sz4, DL.sz5, DL.sz6, DL.sz7, DL.sz8, DL.szp, lstB, iSeq, mFrz, e, allD_flat]
/-- what the mixing makes of a list: the same things -/
theorem mix_step {c : Nat} {ob : Ob} {acc : List PyData} {x : PyData} {y : Option W} {xs : List PyData} (hb : BagOk c ob) (hc : c + 1 < 2 ^ 1000) (hl : acc.length < sizeLine) :
    ∃ ρ2 S2, ((gSet 3 (.d x) [some (.loc 0), some (.d (.list xs)), some (.loc 1), y] [ob, .lst (acc.map W.d)]).bind fun p => sExpr (mMt insertF (mVar 2) (mCons (mCall (callF fTake) (mCons (mVar 0) (mCons (mBin addA (mCall lenD (mCons (mVar 2) (mNil))) (mC (.int 1))) (mNil)))) (mCons (mVar 3) (mNil)))) p.1 p.2) = some (.nx, ρ2, S2) ∧
    ∃ y ob', ∃ acc' : List PyData, ρ2 = [some (.loc 0), some (.d (.list xs)), some (.loc 1), y] ∧ S2 = [ob', .lst (acc'.map W.d)] ∧ BagOk (c + 1) ob' ∧ acc'.Perm (x :: acc) := by
  obtain ⟨v, ob', e, v0, v1, hb'⟩ := take_ok (S := [ob, .lst (acc.map W.d)]) (n := 0) (upto := (acc.length : Int) + 1) rfl hb hc (by omega) (by have := size_lg (n := acc.length + 1) (by omega); simpa using this)
  refine ⟨[some (.loc 0), some (.d (.list xs)), some (.loc 1), some (.d x)], [ob', .lst ((acc.take v.toNat ++ [x] ++ acc.drop v.toNat).map W.d)], ?_, some (.d x), ob', _, rfl, rfl, hb', ?_⟩
  · have hv : (acc.map W.d).length < sizeLine ∧ 0 ≤ v ∧ v < 2 ^ 63 := by
      refine ⟨by rw [List.length_map]; exact hl, v0, ?_⟩
      have : sizeLine < 2 ^ 62 := by decide
      omega
    have hg : ∀ S, insertF (.loc 1) [.d (.int v), .d x] [ob', .lst (acc.map W.d)] = some (.d .none, S) ↔ S = [ob', .lst ((acc.take v.toNat ++ [x] ++ acc.drop v.toNat).map W.d)] := fun S => by
      simp only [insertF, onL]
      simp only [List.getElem?_cons_succ, List.getElem?_cons_zero, if_pos hv]
      simp [eq_comm]
    have hg' := (hg _).mpr rfl
    simp only [List.set_cons_zero] at e
    simp [DL.sSeq, DL.sNil, DL.sPass, DL.sBreak, DL.sCont, DL.sExpr, DL.sRet, DL.sRetN, DL.sIf, DL.sAsg, DL.sPar, DL.sAug, DL.sAugS, DL.gSet, DL.gTupD, DL.gsNil, DL.gsCons, DL.gSubD, DL.sFor, DL.iRng1D_eq, DL.mVar, DL.mC, DL.mNil, DL.mCons, DL.mCall, DL.mBin, DL.mNeg, DL.mMt, DL.mSl, DL.oNo, DL.oYes, DL.tOf, DL.tNotD, DL.tAndD, DL.tOrD, DL.tTru, DL.truD, DL.tTrue, DL.vAnd, DL.vOr, DL.vNot, DL.vIf, DL.vChain, DL.tupF, DL.lstF, DL.allD, DL.ev_add, DL.ev_sub, DL.ev_iadd, DL.ev_isub, DL.ev_lt, DL.ev_gt, DL.ev_le, DL.ev_ge, DL.ev_eq, DL.ev_ne, DL.ev_min, DL.ev_max, DL.ev_int, DL.ev_abs, DL.sz1, DL.sz2, DL.sz3, DL.sz4, DL.sz5, DL.sz6, DL.sz7, DL.sz8, DL.szp, isLst, lenD, on1, len0, e]
    simp at hg'
    rw [hg']
    rfl
  · have : (acc.take v.toNat ++ [x] ++ acc.drop v.toNat).Perm (x :: (acc.take v.toNat ++ acc.drop v.toNat)) := by
      rw [List.append_assoc]
      exact List.perm_middle
    rwa [List.take_append_drop] at this
theorem mixed_ok {c n : Nat} {ob : Ob} {S : Sto} {xs : List PyData} (hS : S[n]? = some ob) (hb : BagOk c ob) (hc : c + xs.length < 2 ^ 1000) (hx : xs.length ≤ sizeLine) :
    ∃ ys ob', callF fMixed [.loc n, .d (.list xs)] S = some (.d (.list ys), S.set n ob') ∧ ys.Perm xs ∧ BagOk (c + xs.length) ob' := by
  obtain ⟨ρ', S', e, y, ob', acc, rfl, rfl, hb', hp⟩ := forL_J (g := gSet 3) (F := sExpr (mMt insertF (mVar 2) (mCons (mCall (callF fTake) (mCons (mVar 0) (mCons (mBin addA (mCall lenD (mCons (mVar 2) (mNil))) (mC (.int 1))) (mNil)))) (mCons (mVar 3) (mNil))))) (ws := xs.map W.d) (k := 0)
    (J := fun i ρ S => ∃ y ob', ∃ acc : List PyData, ρ = [some (.loc 0), some (.d (.list xs)), some (.loc 1), y] ∧ S = [ob', .lst (acc.map W.d)] ∧ BagOk (c + i) ob' ∧ acc.Perm (xs.take i)) (ρ := [some (.loc 0), some (.d (.list xs)), some (.loc 1), none]) (S := [ob, .lst []]) (fun i w ρ S hw ⟨y, ob', acc, e1, e2, hb', hp⟩ => by
      subst e1 e2
      simp only [List.getElem?_map, Option.map_eq_some_iff, Nat.zero_add] at hw hb' hp ⊢
      obtain ⟨x, hx', rfl⟩ := hw
      have hi := (List.getElem?_eq_some_iff.mp hx').1
      have hl := hp.length_eq
      rw [List.length_take] at hl
      obtain ⟨ρ2, S2, e, y2, ob2, acc2, h1, h2, h3, h4⟩ := mix_step (x := x) (y := y) (xs := xs) hb' (by omega) (acc := acc) (by omega)
      refine ⟨ρ2, S2, e, y2, ob2, acc2, h1, h2, h3, h4.trans ?_⟩
      rw [List.take_succ, hx']
      exact (List.Perm.cons x hp).trans (List.perm_append_comm (l₁ := [x]))) ⟨none, ob, [], rfl, rfl, hb, by simp⟩
  simp only [Nat.zero_add, List.length_map] at e hb' hp
  rw [List.take_length] at hp
  refine ⟨acc, ob', callF_loc (n := n) rfl (by simp [allLoc]) hS hb.obD (runF_ret1 ?_ hb'.obD) hb'.obD, hp, hb'⟩
  simp [bMixed, DL.sSeq, DL.sNil, DL.sPass, DL.sBreak, DL.sCont, DL.sExpr, DL.sRet, DL.sRetN, DL.sIf, DL.sAsg, DL.sPar, DL.sAug, DL.sAugS, DL.gSet, DL.gTupD, DL.gsNil, DL.gsCons, DL.gSubD, DL.sFor, DL.iRng1D_eq, DL.mVar, DL.mC, DL.mNil, DL.mCons, DL.mCall, DL.mBin, DL.mNeg, DL.mMt, DL.mSl, DL.oNo, DL.oYes, DL.tOf, DL.tNotD, DL.tAndD, DL.tOrD, DL.tTru, DL.truD, DL.tTrue, DL.vAnd, DL.vOr, DL.vNot, DL.vIf, DL.vChain, DL.tupF, DL.lstF, DL.allD, DL.ev_add, DL.ev_sub, DL.ev_iadd, DL.ev_isub, DL.ev_lt, DL.ev_gt, DL.ev_le, DL.ev_ge, DL.ev_eq, DL.ev_ne, DL.ev_min, DL.ev_max, DL.ev_int, DL.ev_abs, DL.sz1, DL.sz2, DL.sz3, DL.sz4, DL.sz5, DL.sz6, DL.sz7, DL.sz8, DL.szp, lstB, iSeq, mFrz, toZero, e, allD_map]
theorem lcL_fm {g : MG} {T : MT} {E : ME} {vs : List Nat} {ρ : DEnv} {S : Sto} {P : W → Bool} {F : W → W} : ∀ {ws : List W}, (∀ w ∈ ws, ∃ ρ1, g w (wipeD ρ vs) S = some (ρ1, S) ∧ T ρ1 S = some (P w, S) ∧ (P w = true → E ρ1 S = some (F w, S))) → lcL g T E vs ρ ws S = some ((ws.filter P).map F, S)
  | [], _ => rfl
  | w :: ws, h => by
    obtain ⟨ρ1, e1, e2, e3⟩ := h w (by simp)
    have ih := lcL_fm (ws := ws) fun w hw => h w (by simp [hw])
    cases hP : P w with
    | true => simp [lcL, e1, e2, hP, e3 hP, ih]
    | false => simp [lcL, e1, e2, hP, ih]
/-- [F(x) for x in ds if P(x)] -/
theorem lc_d {it : MI} {g : MG} {T : MT} {E : ME} {vs : List Nat} {ρ : DEnv} {S : Sto} {ds : List PyData} (P : PyData → Bool) (F : PyData → PyData) (hi : it ρ S = some (ds.map W.d, S))
    (h : ∀ x ∈ ds, ∃ ρ1, g (.d x) (wipeD ρ vs) S = some (ρ1, S) ∧ T ρ1 S = some (P x, S) ∧ (P x = true → E ρ1 S = some (.d (F x), S))) (hl : ds.length ≤ sizeLine) : mLc it g T E vs kFrz ρ S = some (.d (.list ((ds.filter P).map F)), S) := by
  have e : lcL g T E vs ρ (ds.map W.d) S = some (((ds.filter P).map F).map W.d, S) := by
    rw [lcL_fm (P := fun w => match w with | .d x => P x | _ => false) (F := fun w => match w with | .d x => .d (F x) | w => w)]
    · rw [List.filter_map, List.map_map, List.map_map]; rfl
    · intro w hw
      obtain ⟨x, hx, rfl⟩ := List.mem_map.mp hw
      exact h x hx
  have hk : ((ds.filter P).map F).length ≤ sizeLine := by
    rw [List.length_map]; exact Nat.le_trans (List.length_filter_le _ _) hl
  simp only [mLc, hi, Option.bind_some, e, kFrz, allD_map, if_pos hk]
theorem lc_all {it : MI} {g : MG} {E : ME} {vs : List Nat} {ρ : DEnv} {S : Sto} {ds : List PyData} (F : PyData → PyData) (hi : it ρ S = some (ds.map W.d, S))
    (h : ∀ x ∈ ds, ∃ ρ1, g (.d x) (wipeD ρ vs) S = some (ρ1, S) ∧ E ρ1 S = some (.d (F x), S)) (hl : ds.length ≤ sizeLine) : mLc it g tTrue E vs kFrz ρ S = some (.d (.list (ds.map F)), S) := by
  have := lc_d (T := tTrue) (E := E) (fun _ => true) F hi (fun x hx => by
    obtain ⟨ρ1, e1, e2⟩ := h x hx
    exact ⟨ρ1, e1, rfl, fun _ => e2⟩) hl
  rwa [List.filter_eq_self.mpr (fun _ _ => rfl)] at this
/-- the bag -/
theorem bag_ok (ns : List Int) (S : Sto) : ∃ ob, callF fBag [.d (.list (ns.map .int))] S = some (.loc S.length, S ++ [ob]) ∧ BagOk 0 ob := by
  have hl : ((cutD (ns.map PyData.int) none (some 63)).length) ≤ 63 := by
    unfold cutD; rw [List.length_take]
    have : HT.sIx (ns.map PyData.int).length (ns.map PyData.int).length (some 63) ≤ 63 := by
      have e := HT.sIx_nat (ns.map PyData.int).length (ns.map PyData.int).length 63
      have e' : ((63 : Nat) : Int) = 63 := rfl
      rw [e'] at e; rw [e]; exact Nat.min_le_left _ _
    omega
  have hm : ∀ x ∈ cutD (ns.map PyData.int) none (some 63), ∃ n : Int, x = .int n := by
    intro x hx
    unfold cutD at hx
    have := List.mem_of_mem_drop (List.mem_of_mem_take hx)
    obtain ⟨n, _, rfl⟩ := List.mem_map.mp this
    exact ⟨n, rfl⟩
  generalize hc : cutD (ns.map PyData.int) none (some 63) = cs at hl hm
  have e := lc_all (it := iSeq (mSl (mVar 0) (oNo) (oYes (mC (.int 63))))) (g := gSet 1) (E := mCall absD (mCons (mVar 1) (mNil))) (vs := [1]) (ρ := [some (.d (.list (ns.map .int))), none]) (S := []) (ds := cs)
    (fun x => match x with | .int i => .int (i.natAbs : Int) | x => x) (by simp [DL.sSeq, DL.sNil, DL.sPass, DL.sBreak, DL.sCont, DL.sExpr, DL.sRet, DL.sRetN, DL.sIf, DL.sAsg, DL.sPar, DL.sAug, DL.sAugS, DL.gSet, DL.gTupD, DL.gsNil, DL.gsCons, DL.gSubD, DL.sFor, DL.iRng1D_eq, DL.mVar, DL.mC, DL.mNil, DL.mCons, DL.mCall, DL.mBin, DL.mNeg, DL.mMt, DL.mSl, DL.oNo, DL.oYes, DL.tOf, DL.tNotD, DL.tAndD, DL.tOrD, DL.tTru, DL.truD, DL.tTrue, DL.vAnd, DL.vOr, DL.vNot, DL.vIf, DL.vChain, DL.tupF, DL.lstF, DL.allD, DL.ev_add, DL.ev_sub, DL.ev_iadd, DL.ev_isub, DL.ev_lt, DL.ev_gt, DL.ev_le, DL.ev_ge, DL.ev_eq, DL.ev_ne, DL.ev_min, DL.ev_max, DL.ev_int, DL.ev_abs, DL.sz1, DL.sz2, DL.sz3, DL.sz4, DL.sz5, DL.sz6, DL.sz7, DL.sz8, DL.szp, iSeq, sliceD, hc]) (fun x hx => by
      obtain ⟨n, rfl⟩ := hm x hx
      exact ⟨[some (.d (.list (ns.map .int))), some (.d (.int n))], by simp [DL.sSeq, DL.sNil, DL.sPass, DL.sBreak, DL.sCont, DL.sExpr, DL.sRet, DL.sRetN, DL.sIf, DL.sAsg, DL.sPar, DL.sAug, DL.sAugS, DL.gSet, DL.gTupD, DL.gsNil, DL.gsCons, DL.gSubD, DL.sFor, DL.iRng1D_eq, DL.mVar, DL.mC, DL.mNil, DL.mCons, DL.mCall, DL.mBin, DL.mNeg, DL.mMt, DL.mSl, DL.oNo, DL.oYes, DL.tOf, DL.tNotD, DL.tAndD, DL.tOrD, DL.tTru, DL.truD, DL.tTrue, DL.vAnd, DL.vOr, DL.vNot, DL.vIf, DL.vChain, DL.tupF, DL.lstF, DL.allD, DL.ev_add, DL.ev_sub, DL.ev_iadd, DL.ev_isub, DL.ev_lt, DL.ev_gt, DL.ev_le, DL.ev_ge, DL.ev_eq, DL.ev_ne, DL.ev_min, DL.ev_max, DL.ev_int, DL.ev_abs, DL.sz1, DL.sz2, DL.sz3, DL.sz4, DL.sz5, DL.sz6, DL.sz7, DL.sz8, DL.szp, wipeD], by simp [DL.sSeq, DL.sNil, DL.sPass, DL.sBreak, DL.sCont, DL.sExpr, DL.sRet, DL.sRetN, DL.sIf, DL.sAsg, DL.sPar, DL.sAug, DL.sAugS, DL.gSet, DL.gTupD, DL.gsNil, DL.gsCons, DL.gSubD, DL.sFor, DL.iRng1D_eq, DL.mVar, DL.mC, DL.mNil, DL.mCons, DL.mCall, DL.mBin, DL.mNeg, DL.mMt, DL.mSl, DL.oNo, DL.oYes, DL.tOf, DL.tNotD, DL.tAndD, DL.tOrD, DL.tTru, DL.truD, DL.tTrue, DL.vAnd, DL.vOr, DL.vNot, DL.vIf, DL.vChain, DL.tupF, DL.lstF, DL.allD, DL.ev_add, DL.ev_sub, DL.ev_iadd, DL.ev_isub, DL.ev_lt, DL.ev_gt, DL.ev_le, DL.ev_ge, DL.ev_eq, DL.ev_ne, DL.ev_min, DL.ev_max, DL.ev_int, DL.ev_abs, DL.sz1, DL.sz2, DL.sz3, DL.sz4, DL.sz5, DL.sz6, DL.sz7, DL.sz8, DL.szp]⟩) (by
      have : 63 ≤ sizeLine := by decide
      omega)
  have hq : ∃ cells : List Nat, cs.map (fun x => match x with | .int i => PyData.int (i.natAbs : Int) | x => x) = cells.map (fun c => .int (c : Nat)) ∧ cells.length = cs.length := by
    clear e hl hc
    induction cs with
    | nil => exact ⟨[], rfl, rfl⟩
    | cons x cs ih =>
      obtain ⟨n, rfl⟩ := hm x (by simp)
      obtain ⟨cells, e1, e2⟩ := ih fun y hy => hm y (by simp [hy])
      exact ⟨n.natAbs :: cells, by rw [List.map_cons, e1]; rfl, by simp [e2]⟩
  obtain ⟨cells, e1, e2⟩ := hq
  rw [e1] at e
  have hb : BagOk 0 (bagOf 0 1234567891 0 cells) := ⟨0, 1234567891, 0, cells, rfl, by decide, by omega, by omega⟩
  refine ⟨_, ?_, hb⟩
  have hr : fBag [.d (.list (ns.map .int))] [] = some (.loc 0, [bagOf 0 1234567891 0 cells]) := by
    have ho := hb.obD
    simp [fBag, runF, bBag, DL.sSeq, DL.sNil, DL.sPass, DL.sBreak, DL.sCont, DL.sExpr, DL.sRet, DL.sRetN, DL.sIf, DL.sAsg, DL.sPar, DL.sAug, DL.sAugS, DL.gSet, DL.gTupD, DL.gsNil, DL.gsCons, DL.gSubD, DL.sFor, DL.iRng1D_eq, DL.mVar, DL.mC, DL.mNil, DL.mCons, DL.mCall, DL.mBin, DL.mNeg, DL.mMt, DL.mSl, DL.oNo, DL.oYes, DL.tOf, DL.tNotD, DL.tAndD, DL.tOrD, DL.tTru, DL.truD, DL.tTrue, DL.vAnd, DL.vOr, DL.vNot, DL.vIf, DL.vChain, DL.tupF, DL.lstF, DL.allD, DL.ev_add, DL.ev_sub, DL.ev_iadd, DL.ev_isub, DL.ev_lt, DL.ev_gt, DL.ev_le, DL.ev_ge, DL.ev_eq, DL.ev_ne, DL.ev_min, DL.ev_max, DL.ev_int, DL.ev_abs, DL.sz1, DL.sz2, DL.sz3, DL.sz4, DL.sz5, DL.sz6, DL.sz7, DL.sz8, DL.szp, e, lstB, leave]
    simp [bagOf] at ho ⊢
    exact ho
  simp [callF, firstLoc, hr, hb.obD]
end DL
end
noncomputable section
namespace DL
open PySem PySem.Spec PyProof.Rows L2 DL
theorem perm_map_ex {α β : Type} {f : α → β} : ∀ {l : List α} {m : List β}, m.Perm (l.map f) → ∃ r : List α, r.Perm l ∧ m = r.map f
  | [], m, h => ⟨[], .refl _, by simpa using h.eq_nil⟩
  | a :: l, m, h => by
    have : f a ∈ m := h.symm.subset (by simp)
    obtain ⟨m1, m2, rfl⟩ := List.append_of_mem this
    have h2 : (m1 ++ m2).Perm (l.map f) := (List.perm_middle.symm.trans h).cons_inv
    obtain ⟨r, hr, e⟩ := perm_map_ex h2
    obtain ⟨r1, r2, rfl, rfl, rfl⟩ := List.map_eq_append_iff.mp e.symm
    exact ⟨r1 ++ a :: r2, List.perm_middle.trans (hr.cons a), by simp⟩
theorem ofPs_map {α : Type} {enc : α → PyData} {encC : α → Cd} : ∀ {l : List α}, (∀ a ∈ l, ofP (enc a) = some (encC a)) → ofPs (l.map enc) = some (l.map encC)
  | [], _ => rfl
  | a :: l, h => by
    simp only [List.map_cons, ofPs, h a (by simp), Option.bind_some, ofPs_map (l := l) fun b hb => h b (by simp [hb]), Option.map_some]
/-- a tuple of whole numbers -/
def tI (l : List Int) : PyData := .tuple (l.map .int)
def cI (l : List Int) : Cd := .tup (l.map .int)
theorem ofP_tI (l : List Int) : ofP (tI l) = some (cI l) := by
  simp only [tI, cI, ofP]
  rw [ofPs_map (encC := Cd.int) (fun a _ => by simp [ofP])]; rfl
theorem kind_ints : ∀ (a b : List Int), kindCs (a.map .int) (b.map .int) = true
  | [], _ => by simp [kindCs]
  | _ :: _, [] => by simp [kindCs]
  | x :: a, y :: b => by simp [kindCs, kindC, kind_ints a b]
theorem kind_cI (a b : List Int) : kindC (cI a) (cI b) = true := by simp only [cI, kindC]; exact kind_ints a b
theorem dep_ints (l : List Int) : PyData.depthAll (l.map .int) = 0 := by
  induction l with
  | nil => rfl
  | cons a l ih => simp [PyData.depthAll, PyData.depth, ih]
theorem dep_tI (l : List Int) : (tI l).depth = 1 := by simp [tI, PyData.depth, dep_ints]
theorem lay_ints (l : List Int) : PyData.canLayAll0 (l.map .int) = true := by
  induction l with
  | nil => rfl
  | cons a l ih => simp [PyData.canLayAll0, PyData.canLay0, ih]
/-- a comprehension over things that are coded -/
theorem lcL_e {α : Type} {g : MG} {T : MT} {E : ME} {vs : List Nat} {ρ : DEnv} {S : Sto} (enc : α → PyData) (P : α → Bool) (F : α → PyData) : ∀ {l : List α}, (∀ a ∈ l, ∃ ρ1, g (.d (enc a)) (wipeD ρ vs) S = some (ρ1, S) ∧ T ρ1 S = some (P a, S) ∧ (P a = true → E ρ1 S = some (.d (F a), S))) →
    lcL g T E vs ρ ((l.map enc).map W.d) S = some ((((l.filter P).map F).map W.d), S)
  | [], _ => rfl
  | a :: l, h => by
    obtain ⟨ρ1, e1, e2, e3⟩ := h a (by simp)
    have ih := lcL_e enc P F (l := l) fun w hw => h w (by simp [hw])
    cases hP : P a with
    | true => simp only [List.map_cons, lcL, e1, e2, hP, e3 hP, ih, Option.bind_some, if_true, List.filter_cons]
    | false => simp only [List.map_cons, lcL, e1, e2, hP, ih, Option.bind_some, List.filter_cons, Bool.false_eq_true, if_false]
theorem lc_e {α : Type} {it : MI} {g : MG} {T : MT} {E : ME} {vs : List Nat} {ρ : DEnv} {S : Sto} {l : List α} (enc : α → PyData) (P : α → Bool) (F : α → PyData) (hi : it ρ S = some ((l.map enc).map W.d, S))
    (h : ∀ a ∈ l, ∃ ρ1, g (.d (enc a)) (wipeD ρ vs) S = some (ρ1, S) ∧ T ρ1 S = some (P a, S) ∧ (P a = true → E ρ1 S = some (.d (F a), S))) (hl : (l.filter P).length ≤ sizeLine) : mLc it g T E vs kFrz ρ S = some (.d (.list ((l.filter P).map F)), S) := by
  have hk : ((l.filter P).map F).length ≤ sizeLine := by rw [List.length_map]; exact hl
  simp only [mLc, hi, Option.bind_some, lcL_e enc P F h, kFrz, allD_map, if_pos hk]
end DL
end
noncomputable section
namespace DL
open PySem PySem.Spec PyProof.Rows L2
structure FrD (D : Addr) (m : List Addr) (H H' : Hp) : Prop where
  st : ∀ a o, H a = some o → a ≠ D → (a ∉ m ∨ Imm o) → (∀ ps, o ≠ .tbl ps) → H' a = some o
  no : ∀ a, H' a = none → H a = none
section
variable {K : PySem.W.Frag} {m e2 ext : List Addr} {S S2 S5 : Sto} {ρ ρ5 : DEnv} {σ σ5 : L2.St} {B H H' H2 H5 : Hp} {D : Addr}
theorem FrD.kp (f : FrD D m B H') (hD : ∀ o, B D = some o → ¬ Imm o) : Kp B H' := fun a o h i => by
  by_cases e : a = D
  · subst e; exact absurd i (hD o h)
  · exact f.st a o h e (.inr i) (imm_tbl i)
theorem FrD.trans (f : FrD D m B H') (fr : Fresh e2 B) (g : FrD D (m ++ e2) H' H5) : FrD D m B H5 := ⟨fun a o h n c nt => by
  refine g.st a o (f.st a o h n c nt) n ?_ nt
  rcases c with c | c
  · refine .inl fun z => ?_
    rcases List.mem_append.mp z with z | z
    · exact c z
    · rw [fr a z] at h; cases h
  · exact .inr c, fun a h => f.no a (g.no a h)⟩
theorem FrD.post (f : FrD D m B H') (k : ∀ a o, H' a = some o → H2 a = some o) : FrD D m B H2 := ⟨fun a o h n c nt => k a o (f.st a o h n c nt), fun a h => f.no a (none_old k h)⟩
theorem FrD.updo {u v : HO} (f : FrD D m B H') (h : B D = some v) : FrD D m B (upd H' D u) := ⟨fun a o h n c nt => by rw [upd_ne n]; exact f.st a o h n c nt, fun a h => by
  by_cases z : a = D
  · subst z; rw [upd_same] at h; cases h
  · rw [upd_ne z] at h; exact f.no a h⟩
end
section
variable {K : PySem.W.Frag} {g g1 : MG} {T T1 : MT} {E : ME} {it it1 : MI} {vs vs1 : List Nat} {m : List Addr} {S S9 : Sto} {ρ : DEnv} {σ : L2.St} {B H : Hp} {D : Addr} {zs0 : List V} {acc0 r ws : List W} {J : It} {k : List W → Sto → Option (W × Sto)} {Q : VK}
def lc2L (g : MG) (T : MT) (it1 : MI) (g1 : MG) (T1 : MT) (E : ME) (vs vs1 : List Nat) (ρ : DEnv) : List W → Sto → Option (List W × Sto)
  | [], S => some ([], S)
  | w :: ws, S => (g w (wipeD ρ vs) S).bind fun p => (T p.1 p.2).bind fun b => if b.1 = true then (it1 p.1 b.2).bind fun q => (lcL g1 T1 E vs1 p.1 q.1 q.2).bind fun y => (lc2L g T it1 g1 T1 E vs vs1 ρ ws y.2).bind fun t => some (y.1 ++ t.1, t.2) else lc2L g T it1 g1 T1 E vs vs1 ρ ws b.2
def mLc2 (it : MI) (g : MG) (T : MT) (it1 : MI) (g1 : MG) (T1 : MT) (E : ME) (vs vs1 : List Nat) (k : List W → Sto → Option (W × Sto)) : ME := fun ρ S => (it ρ S).bind fun p => (lc2L g T it1 g1 T1 E vs vs1 ρ p.1 p.2).bind fun r => k r.1 r.2
end
section
end
end DL
end
noncomputable section
namespace DL
open PySem PySem.Spec PyProof.Rows L2
section
variable {X : Cx}
def repL : W → W → Sto → Option (W × Sto) := fun x y S => (deref S x).bind fun d => match d, y with
  | .list i, .d (.int k) => if k.toNat ≤ sizeLine ∧ (-k).toNat ≤ sizeLine ∧ i.length * k.toNat ≤ sizeLine then some (.d (.list (List.replicate k.toNat i).flatten), S) else none
  | _, _ => none
end
end DL
end
noncomputable section
namespace HT
open PySem PySem.Spec PyProof.Rows
section
end
end HT
namespace DL
open PySem PySem.Spec PyProof.Rows L2
section
end
end DL
end
noncomputable section
namespace DL
open PySem PySem.Spec PyProof.Rows L2
section
end
section
end
end DL
end
noncomputable section
namespace DL
open PySem PySem.Spec PyProof.Rows L2
def DGz (K : PySem.W.Frag) (H : Hp) (a : Addr) (y : V) (r : Option V) : Prop :=
  (∃ kvs k, Rd H a (.dK kvs) ∧ y = kV k ∧ r = valV kvs k) ∨ ∃ kvs k b, Rd H a (.dT kvs) ∧ y = .ref b ∧ SqT K H b (k.map kV) ∧ r = valV kvs k
theorem DGz.k {K : PySem.W.Frag} {H : Hp} {a : Addr} {kvs : List (Key × V)} {k : Key} (e : H a = some (.dK kvs)) : DGz K H a (kV k) (valV kvs k) := .inl ⟨kvs, k, .inl e, rfl, rfl⟩
theorem DGz.t {K : PySem.W.Frag} {H : Hp} {a b : Addr} {kvs : List (List Key × V)} {k : List Key} (e : H a = some (.dT kvs)) (eb : SqT K H b (k.map kV)) : DGz K H a (.ref b) (valV kvs k) := .inr ⟨kvs, k, b, .inl e, rfl, eb, rfl⟩
section
variable {X : Cx} {pins : List (Addr × Obj)} {σ : L2.St} {H : Hp} {s : Shared} {a : Addr} {y v d : V} {u r : Value} {o : Option V} {A : Around} {E : Value → Shared → Prop} {Q : Value → Shared → Prop}
theorem key_z {ks : List Key} {b : Addr} (I : Inv X pins σ H s) (e : SqT X.K H b (ks.map kV)) : (tupleKind (mixKind X.prog X.w)).is s.heap ks b := by
  obtain ⟨its, r, ⟨o, h1, h2, n, h3⟩, _⟩ := I.tuple e
  exact ⟨o, its.toArray, n, h1, h2, h3, by simpa using items_are r⟩
theorem dz_getItem (hu : A.units + 1 < cLine) (I : Inv X pins σ H s) (g : DGz X.K H a y (some v)) (ry : RelV y u) (h : ∀ w' s', Inv X pins σ H s' → RelV v w' → Q w' s') : wpAny (model X.prog X.w) A (getItem (.ref a) u) Q E s := by
  rcases g with g | ⟨kvs, k, b, e, rfl, eb, l⟩
  · exact d_getItem hu I (.inl g) ry h
  · cases (show u = Value.ref b from ry)
    obtain ⟨z, hd, xs, rel, dd⟩ := dt_rd I.hok e
    obtain ⟨w', hw, rw'⟩ := RelO.some_of (v := v) (o := (atKey xs k).map (·.2)) (by rw [l]; exact rel.val k)
    obtain ⟨p, hp, hp2⟩ := Option.map_eq_some_iff.mp hw
    refine wpAny_getItem_heap (tupleKind_room_in1 hu) (key_z I eb) dd hp ?_
    rw [hp2]; exact h w' _ (I.tok _) rw'
theorem dz_typeIs (I : Inv X pins σ H s) (g : DGz X.K H a y o) : s.TypeIs (.ref a) "dict" := by
  rcases g with g | ⟨kvs, k, b, e, _, _, _⟩
  · exact dict_typeIs I (.inl g)
  · obtain ⟨_, _, xs, _, dd⟩ := dt_rd I.hok e
    exact dd.typeIs
end
section
end
theorem _root_.L2.Room.units65 {k : Nat} {A : Around} (r : Room k A) : A.units + 65 < cLine := by have := r.un; omega
def keyD : PyData → Option Key
  | .int i => some (.inl i)
  | .str x => some (.inr x)
  | _ => none
def keysD : List PyData → Option (List Key)
  | [] => some []
  | d :: ds => (keyD d).bind fun k => (keysD ds).map (k :: ·)
theorem keyD_of {K : PySem.W.Frag} {H : Hp} {v : V} {d : PyData} {k : Key} (e : keyD d = some k) (r : Rp K H v d) : v = kV k := by
  cases d with
  | int i => cases e; cases r; rfl
  | str x => cases e; cases r; rfl
  | _ => cases e
/-- the keys that are put: none is empty -/
def keysE (ds : List PyData) : Option (List Key) := if ds.isEmpty = true then none else keysD ds
theorem keysE_of {ds : List PyData} {ks : List Key} (e : keysE ds = some ks) : keysD ds = some ks ∧ ruly ds = false := by
  unfold keysE at e
  cases ds with
  | nil => simp at e
  | cons d ds =>
    simp only [List.isEmpty_cons, Bool.false_eq_true, if_false] at e
    refine ⟨e, ?_⟩
    unfold keysD at e
    obtain ⟨k, e1, _⟩ := Option.bind_eq_some_iff.mp e
    have : rowP d = false := by
      cases d <;> first | rfl | (simp [keyD] at e1)
    simp [ruly, this]
theorem keysD_of {K : PySem.W.Frag} {H : Hp} : ∀ {ds : List PyData} {ks : List Key} {vs : List V}, keysD ds = some ks → RpAll K H vs ds → vs = ks.map kV
  | [], _, _, e, .nil => by cases e; rfl
  | d :: ds, ks, _, e, .cons r t => by
    obtain ⟨k, e1, e2⟩ := Option.bind_eq_some_iff.mp e
    obtain ⟨ks', e3, rfl⟩ := Option.map_eq_some_iff.mp e2
    rw [keyD_of e1 r, keysD_of e3 t]; rfl
def valW {κ : Type} [DecidableEq κ] (kvs : List (κ × W)) (k : κ) : Option W := (kvs.find? fun kv => decide (kv.1 = k)).map (·.2)
theorem valW_of {κ : Type} [DecidableEq κ] {K : PySem.W.Frag} {m : List Addr} {H : Hp} {us : List (κ × V)} {kvs : List (κ × W)} {k : κ} {w : W} (r : Paired (fun (p : κ × V) (q : κ × W) => p.1 = q.1 ∧ RW τ K m H p.2 q.2) us kvs) (e : valW kvs k = some w) :
    ∃ v, valV us k = some v ∧ RW τ K m H v w := by
  induction r with
  | nil => cases e
  | @cons p q ps qs h t ih =>
    by_cases c : q.1 = k
    · have e1 : valW (q :: qs) k = some q.2 := by simp [valW, List.find?_cons, c]
      rw [e1] at e; cases e
      exact ⟨p.2, valV_pos (h.1.trans c), h.2⟩
    · have e1 : valW (q :: qs) k = valW qs k := by simp [valW, List.find?_cons, c]
      rw [e1] at e
      obtain ⟨v, h1, h2⟩ := ih e
      exact ⟨v, by rw [valV_neg (fun z => c (h.1.symm.trans z))]; exact h1, h2⟩
/-- d[k] -/
def dgetF : W → W → Sto → Option (W × Sto)
  | .loc n, .d k, S => match S[n]? with
    | some (.dicK kvs) => (keyD k).bind fun k => (valW kvs k).map fun w => (w, S)
    | some (.dicT kvs) => match k with
      | .tuple ds => (keysD ds).bind fun k => (valW kvs k).map fun w => (w, S)
      | _ => none
    | _ => none
  | _, _, _ => none
section
end
def lcG {β : Type} (g : MG) (T : MT) (E : DEnv → Sto → Option (β × Sto)) (vs : List Nat) (ρ : DEnv) : List W → Sto → Option (List β × Sto)
  | [], S => some ([], S)
  | w :: ws, S => (g w (wipeD ρ vs) S).bind fun p => (T p.1 p.2).bind fun b => if b.1 = true then (E p.1 b.2).bind fun y => (lcG g T E vs ρ ws y.2).bind fun r => some (y.1 :: r.1, r.2) else lcG g T E vs ρ ws b.2
section
end
def pairE (A : ME) : DEnv → Sto → Option ((List Key × Nat) × Sto) := fun ρ S => (A ρ S).bind fun p => match p.1 with
  | .d (.tuple ds) => (keysE ds).map fun k => ((k, p.2.length), p.2 ++ [.lst []])
  | _ => none
def mDicE (it : MI) (g : MG) (T : MT) (A : ME) (vs : List Nat) : ME := fun ρ S => (it ρ S).bind fun p => (lcG g T (pairE A) vs ρ p.1 p.2).bind fun r =>
  @ite _ ((r.1.map (·.1)).Nodup ∧ r.1.length ≤ sizeLine) (gd _) (some (.loc r.2.length, r.2 ++ [.dicT (r.1.map fun q => (q.1, .loc q.2))])) none
section
end
end DL
end
noncomputable section
namespace DL
open PySem PySem.Spec PyProof.Rows L2
def putW {κ : Type} [DecidableEq κ] (kvs : List (κ × W)) (k : κ) (v : W) : List (κ × W) :=
  if (kvs.any fun kv => decide (kv.1 = k)) = true then kvs.map (fun kv => if kv.1 = k then (kv.1, v) else kv) else kvs ++ [(k, v)]
section
variable {κ : Type} [DecidableEq κ] {K : PySem.W.Frag} {m : List Addr} {H : Hp} {us : List (κ × V)} {kvs : List (κ × W)} {k : κ} {v : V} {w : W}
theorem tab_any (r : Paired (fun (p : κ × V) (q : κ × W) => p.1 = q.1 ∧ RW τ K m H p.2 q.2) us kvs) : (us.any fun kv => decide (kv.1 = k)) = kvs.any fun kv => decide (kv.1 = k) := by
  induction r with
  | nil => rfl
  | cons h t ih => rw [List.any_cons, List.any_cons, ih, h.1]
theorem tab_put (r : Paired (fun (p : κ × V) (q : κ × W) => p.1 = q.1 ∧ RW τ K m H p.2 q.2) us kvs) (rv : RW τ K m H v w) : Paired (fun (p : κ × V) (q : κ × W) => p.1 = q.1 ∧ RW τ K m H p.2 q.2) (putK us k v) (putW kvs k w) := by
  unfold putK putW
  rw [tab_any r]
  split
  · rename_i hh
    clear hh
    induction r with
    | nil => exact .nil
    | @cons p q ps qs h t ih =>
      rw [List.map_cons, List.map_cons]
      refine .cons ?_ ih
      by_cases e : q.1 = k
      · rw [if_pos (h.1.trans e), if_pos e]; exact ⟨h.1, rv⟩
      · rw [if_neg (fun z => e (h.1.symm.trans z)), if_neg e]; exact h
  · exact paired_app r (.cons ⟨rfl, rv⟩ .nil)
theorem valW_no (r : Paired (fun (p : κ × V) (q : κ × W) => p.1 = q.1 ∧ RW τ K m H p.2 q.2) us kvs) (e : valW kvs k = none) : valV us k = none := by
  induction r with
  | nil => rfl
  | @cons p q ps qs h t ih =>
    by_cases c : q.1 = k
    · simp [valW, List.find?_cons, c] at e
    · have e1 : valW (q :: qs) k = valW qs k := by simp [valW, List.find?_cons, c]
      rw [e1] at e
      rw [valV_neg (fun z => c (h.1.symm.trans z))]; exact ih e
end
/-- a find on both sides -/
def RelW (τ : Tbs) (K : PySem.W.Frag) (m : List Addr) (H : Hp) : Option W → Option V → Prop
  | some w, ov => ∃ v, ov = some v ∧ RW τ K m H v w
  | none, ov => ov = none
/-- what the dict holds at a key -/
def dlook (S : Sto) : W → W → Option (Option W)
  | .loc n, .d k => match S[n]? with
    | some (.dicK kvs) => (keyD k).map fun k => valW kvs k
    | some (.dicT kvs) => match k with
      | .tuple ds => (keysD ds).map fun k => valW kvs k
      | _ => none
    | _ => none
  | _, _ => none
theorem dlook_of {K : PySem.W.Frag} {m : List Addr} {S : Sto} {ρ : DEnv} {σ : L2.St} {H : Hp} {x y : V} {wx wy : W} {o : Option W} (q : Sim τ K m S ρ σ H) (hx : RW τ K m H x wx) (hy : RW τ K m H y wy) (e : dlook S wx wy = some o) :
    ∃ a ov, x = .ref a ∧ IsD H a ∧ DGz K H a y ov ∧ RelW τ K m H o ov := by
  unfold dlook at e
  split at e
  · obtain ⟨a, hm, rfl⟩ := hx
    split at e
    · rename_i kvs hs
      obtain ⟨k, e1, e2⟩ := Option.map_eq_some_iff.mp e
      obtain ⟨b, hb, us, hv, pr⟩ := q.obs _ _ hs
      rw [hm] at hb; cases hb
      obtain rfl := keyD_of e1 hy
      refine ⟨a, _, rfl, .inl ⟨us, .inl hv⟩, DGz.k hv, ?_⟩
      cases o with
      | none => exact valW_no pr e2
      | some w => exact valW_of pr e2
    · rename_i kvs hs
      split at e
      · obtain ⟨k, e1, e2⟩ := Option.map_eq_some_iff.mp e
        obtain ⟨b, hb, us, hv, pr⟩ := q.obs _ _ hs
        rw [hm] at hb; cases hb
        obtain ⟨c, xs, rfl, hc, rx⟩ := rp_tup hy
        obtain rfl := keysD_of e1 rx
        refine ⟨a, _, rfl, .inr ⟨us, .inl hv⟩, DGz.t hv hc, ?_⟩
        cases o with
        | none => exact valW_no pr e2
        | some w => exact valW_of pr e2
      · cases e
    · cases e
  · cases e
/-- k in d, k not in d -/
def dinF (neg : Bool) : W → W → Sto → Option (W × Sto) := fun x y S => (dlook S y x).map fun o => (.d (.bool (o.isSome ^^ neg)), S)
section
variable {X : Cx} {e a b c : Expr} {rest es : List Expr} {pos : Pos} {A B C : ME} {T U : MT} {R : MA}
/-- d[k] = v -/
def dputF : W → W → W → Sto → Option Sto
  | .loc n, .d k, w, S => match S[n]? with
    | some (.dicK kvs) => (keyD k).bind fun k => if kvs.length < sizeLine then some (S.set n (.dicK (putW kvs k w))) else none
    | some (.dicT kvs) => match k with
      | .tuple ds => (keysE ds).bind fun k => if kvs.length < sizeLine then some (S.set n (.dicT (putW kvs k w))) else none
      | _ => none
    | _ => none
  | _, _, _, _ => none
theorem putD_kp {H : Hp} {a : Addr} {o u : HO} (hv : H a = some u) (hu : ¬ Imm u) : Kp H (upd H a o) := kp_other hv hu
theorem putD_fr {H : Hp} {m : List Addr} {n : Nat} {a : Addr} {o u : HO} (hm : m[n]? = some a) (hv : H a = some u) (hu : ¬ Imm u) : Fr m H (upd H a o) := Fr.chg (List.mem_of_getElem? hm) hv hu
theorem set_dict {k : Nat} (hr : Room k X.A) : PSet X (rSet τ X.K dputF) := by
  intro pins s σ H o i v ov iv u Q I ro ri rv h
  obtain ⟨m, S, ρ, σ', wo, wi, wv, S', q, h1, h2, h3, e, p⟩ := h
  unfold dputF at e
  split at e
  · obtain ⟨a, hm, rfl⟩ := h1
    cases ro
    split at e
    · rename_i kvs hs
      obtain ⟨k, e1, e⟩ := Option.bind_eq_some_iff.mp e
      split at e
      · rename_i hz
        cases e
        obtain ⟨b, hb, us, hv, pr⟩ := q.obs _ _ hs
        rw [hm] at hb; cases hb
        obtain rfl := keyD_of e1 h2
        refine d_setItem (by have := hr.un; omega) I (DPut.k hv (by rw [pr.length]; exact hz)) ri rv fun s' I' => ⟨_, I', ?_⟩
        refine p [] _ (fun _ h => absurd h (by simp)) (by
          rw [List.append_nil]
          exact q.put hm (fun u h => by rw [hv] at h; cases h; exact fun z => z) (List.getElem?_eq_some_iff.mp hs).1 ⟨_, upd_same, Paired.mapP (tab_put pr h3) fun _ _ z => ⟨z.1, z.2.mono0 (putD_kp hv fun z => z)⟩⟩) (putD_fr hm hv fun z => z)
      · cases e
    · rename_i kvs hs
      split at e
      · obtain ⟨k, e1, e⟩ := Option.bind_eq_some_iff.mp e
        split at e
        · rename_i hz
          cases e
          obtain ⟨b, hb, us, hv, pr⟩ := q.obs _ _ hs
          rw [hm] at hb; cases hb
          obtain ⟨e1, e1n⟩ := keysE_of e1
          obtain ⟨c, xs, rfl, hc, rx⟩ := rp_tupH h2 e1n
          obtain rfl := keysD_of e1 rx
          refine d_setItem (by have := hr.un; omega) I (DPut.t hv hc (by rw [pr.length]; exact hz)) ri rv fun s' I' => ⟨_, I', ?_⟩
          refine p [] _ (fun _ h => absurd h (by simp)) (by
            rw [List.append_nil]
            exact q.put hm (fun u h => by rw [hv] at h; cases h; exact fun z => z) (List.getElem?_eq_some_iff.mp hs).1 ⟨_, upd_same, Paired.mapP (tab_put pr h3) fun _ _ z => ⟨z.1, z.2.mono0 (putD_kp hv fun z => z)⟩⟩) (putD_fr hm hv fun z => z)
        · cases e
      · cases e
    · cases e
  · cases e
def isDic (S : Sto) : W → Bool
  | .loc n => match S[n]? with
    | some (.dicK _) => true
    | some (.dicT _) => true
    | _ => false
  | _ => false
def mGet1' (A B : ME) : ME := fun ρ S => (A ρ S).bind fun p => if isDic p.2 p.1 = true then (B ρ p.2).bind fun q => (dlook q.2 p.1 q.1).map fun o => (o.getD (.d .none), q.2) else none
def mGet2' (A B C : ME) : ME := fun ρ S => (A ρ S).bind fun p => if isDic p.2 p.1 = true then (B ρ p.2).bind fun q => (C ρ q.2).bind fun r => (dlook r.2 p.1 q.1).map fun o => (o.getD r.1, r.2) else none
/-- dict(l) of a list of pairs of data, the keys tuples -/
def pairsT : List PyData → Option (List (List Key × W))
  | [] => some []
  | .tuple [.tuple ks, x] :: ds => (keysE ks).bind fun k => (pairsT ds).map fun r => (k, .d x) :: r
  | _ :: _ => none
def dictP := on1 fun w S => (deref S w).bind fun d => match d with
  | .list ds => (pairsT ds).bind fun kvs => @ite _ ((kvs.map (·.1)).Nodup) (gd _) (some (.loc S.length, S ++ [.dicT kvs])) none
  | _ => none
end
end DL
end
noncomputable section
namespace DL
open PySem PySem.Spec PyProof.Rows L2
section
end
def sortT (l : List (List Int)) : List PyData := toPs (sortC (l.map cI))
theorem cI_ok {l : List (List Int)} (h0 : ∀ a ∈ l, a ≠ []) : sortable (l.map cI) = true := by
  simp only [sortable, Bool.and_eq_true, List.all_eq_true, List.mem_map, decide_eq_true_eq]
  refine ⟨?_, ?_⟩
  · rintro _ ⟨a, ha, rfl⟩
    refine ⟨?_, ?_⟩
    · cases a with
      | nil => exact absurd rfl (h0 _ ha)
      | cons x a => rfl
    · have := ofP_eq _ _ (ofP_tI a)
      rw [← this, dep_tI]; decide
  · rintro _ ⟨a, ha, rfl⟩ _ ⟨b, hb, rfl⟩
    exact kind_cI a b
theorem sorted_ev {l : List (List Int)} {S : Sto} {w : W} (h0 : ∀ a ∈ l, a ≠ []) (hd : deref S w = some (.list (l.map tI))) : sortedD [w] S = some (.d (.list (sortT l)), S) := by
  simp only [sortedD, on1, hd, Option.bind_some, ofPs_map (fun a _ => ofP_tI a), cI_ok h0, if_true, sortT]
theorem sortT_ex (l : List (List Int)) : ∃ r : List (List Int), r.Perm l ∧ sortT l = r.map tI := by
  obtain ⟨r, hr, e⟩ := perm_map_ex (sortC_perm (l.map cI))
  refine ⟨r, hr, ?_⟩
  unfold sortT
  rw [e, toPs_map, List.map_map]
  exact List.map_congr_left fun a ha => (ofP_eq _ _ (ofP_tI a)).symm
theorem ev_inI {i : Int} {xs : List Int} {S : Sto} : inA false (.d (.int i)) (.d (.tuple (xs.map .int))) S = some (.d (.bool (decide (i ∈ xs))), S) := by
  have h1 : SeqAt.shaped (.list (xs.map PyData.int)) = true := by
    simp [SeqAt.shaped, PyData.canLay0, lay_ints, PyData.depth, dep_ints]
  have h2 : SeqAt.shaped (.int i) = true := by simp [SeqAt.shaped, PyData.canLay0, PyData.depth]
  have h3 : ((xs.map PyData.int).any fun z => PyData.eqv z (.int i)) = decide (i ∈ xs) := by
    clear h1
    induction xs with
    | nil => simp
    | cons x xs ih =>
      rw [List.map_cons, List.any_cons, ih]
      simp only [PyData.eqv, List.mem_cons]
      by_cases h : x = i
      · subst h; simp
      · have : i ≠ x := fun e => h e.symm
        by_cases h2 : i ∈ xs <;> simp [h, this, h2]
  have h4 : deref S (.d (.int i)) = some (.int i) := rfl
  simp only [inA, h4, seqOf, Option.bind_some, h1, h2, h3, Bool.and_self, if_true, Bool.xor_false]
end DL
end
noncomputable section
namespace DL
open PySem PySem.Spec PyProof.Rows L2
section
variable {X : Cx}
def iaddT : W → W → Sto → Option (W × Sto)
  | .d (.tuple i), .d (.tuple j), S => if i.isEmpty = false ∧ j.isEmpty = false ∧ i.length + j.length ≤ sizeLine then some (.d (.tuple (i ++ j)), S) else none
  | _, _, _ => none
def minLD := on1 fun w S => (deref S w).bind fun d => match d with
  | .list (d :: ds) => @ite _ (PySem.W.AlikeAll (d :: ds) ∧ PyData.depthAll (d :: ds) ≤ 100 ∧ PyData.canLayAll0 (d :: ds) = true) (gd _) (some (.d (PySem.W.minD d ds), S)) none
  | _ => none
end
end DL
end
noncomputable section
namespace DL
open PySem PySem.Spec PyProof.Rows L2
section
variable {X : Cx} {pins : List (Addr × Obj)} {σ : L2.St} {H : Hp} {s : Shared}
/-- keys that are tuples of ints -/
def keyI : List Key → Option (List Int)
  | [] => some []
  | .inl i :: ks => (keyI ks).map (i :: ·)
  | .inr _ :: _ => none
def keysI : List (List Key) → Option (List (List Int))
  | [] => some []
  | k :: ks => if k.isEmpty = true then none else (keyI k).bind fun n => (keysI ks).map (n :: ·)
/-- sorted(d) -/
def sortedKD := on1 fun w S => match w with
  | .loc n => match S[n]? with
    | some (.dicT kvs) => (keysI (kvs.map (·.1))).bind fun ns => if sortable (ns.map cI) = true then some (.d (.list (sortT ns)), S) else none
    | _ => none
  | _ => none
theorem tab_keys {κ : Type} {K : PySem.W.Frag} {m : List Addr} {H : Hp} {us : List (κ × V)} {kvs : List (κ × W)} (r : Paired (fun (p : κ × V) (q : κ × W) => p.1 = q.1 ∧ RW τ K m H p.2 q.2) us kvs) : us.map (·.1) = kvs.map (·.1) := by
  induction r with
  | nil => rfl
  | cons h t ih => rw [List.map_cons, List.map_cons, ih, h.1]
end
end DL
end
noncomputable section
namespace DL
open PySem PySem.Spec PyProof.Rows L2
section
end
def dcL (g : MG) (T : MT) (A B : ME) (vs : List Nat) (ρ : DEnv) : List W → List (List Key × W) → Sto → Option (List (List Key × W) × Sto)
  | [], acc, S => some (acc, S)
  | w :: ws, acc, S => (g w (wipeD ρ vs) S).bind fun p => (T p.1 p.2).bind fun b => if b.1 = true then (A p.1 b.2).bind fun y => match y.1 with
    | .d (.tuple ds) => (keysE ds).bind fun k => (B p.1 y.2).bind fun z => if acc.length < sizeLine then dcL g T A B vs ρ ws (putW acc k z.1) z.2 else none
    | _ => none
    else dcL g T A B vs ρ ws acc b.2
def mDc (it : MI) (g : MG) (T : MT) (A B : ME) (vs : List Nat) : ME := fun ρ S => (it ρ S).bind fun p => (dcL g T A B vs ρ p.1 [] p.2).bind fun r => some (.loc r.2.length, r.2 ++ [.dicT r.1])
section
end
section
variable {X : Cx} {kx vx tg iter : Expr} {ifs : List Expr} {scope : Scope} {own : List (Str × Nat)} {pos : Pos} {it : MI} {g : MG} {T : MT} {A B : ME}
def mDisp1 (A B : ME) : ME := fun ρ S => (A ρ S).bind fun p => match p.1 with
  | .d (.tuple ds) => (keysE ds).bind fun k => (B ρ p.2).bind fun q => some (.loc q.2.length, q.2 ++ [.dicT [(k, q.1)]])
  | _ => none
end
end DL
end
noncomputable section
namespace DL
open PySem PySem.Spec PyProof.Rows L2
section
variable {X : Cx} {a b : Expr} {rest : List Expr} {pos : Pos} {A B : ME}
def vOrT (A B : ME) : ME := fun ρ S => (A ρ S).bind fun p => (truD p.2 p.1).bind fun c => if c = true then some p else B ρ p.2
def vAndT (A B : ME) : ME := fun ρ S => (A ρ S).bind fun p => (truD p.2 p.1).bind fun c => if c = true then B ρ p.2 else some p
theorem de_andT (ha : PE X a (rdE τ X.K A)) (hb : PE X (.BoolOp .And (b :: rest) pos) (rdE τ X.K B)) : PE X (.BoolOp .And (a :: b :: rest) pos) (rdE τ X.K (vAndT A B)) := wkE (pe_andT ha hb) fun σ H Q q => by
  obtain ⟨m, S, ρ, w, S', q, e, p⟩ := q
  obtain ⟨⟨wx, S1⟩, e1, e2⟩ := Option.bind_eq_some_iff.mp e
  obtain ⟨c, e3, e4⟩ := Option.bind_eq_some_iff.mp e2
  refine ⟨m, S, ρ, wx, S1, q, e1, fun ext H1 x f q1 fr r => ⟨c, truD_of q1 r e3, ?_⟩⟩
  cases c with
  | true => exact ⟨_, S1, ρ, w, S', q1, by simpa using e4, p.at f q1 fr⟩
  | false =>
    simp only [Bool.false_eq_true, if_false] at e4
    cases e4
    exact (p.at f q1 fr).now q1 r
end
end DL
end
noncomputable section
namespace DL
open PySem PySem.Spec PyProof.Rows L2
def keyTP : PyData → Option (List Key)
  | .tuple ns => keysD ns
  | _ => none
def atomP : PyData → Bool
  | .tuple _ => false
  | _ => true
/-- what a dict, as data, holds at a key -/
def lookP (ds : List (PyData × PyData)) (x : PyData) : Option (Option PyData) := if atomP x = false then
    (if (ds.all fun q => !atomP q.1) = true then (keyTP x).map fun k => (ds.find? fun q => decide (keyTP q.1 = some k)).map (·.2) else none)
  else if ds.isEmpty = false ∧ (ds.all fun q => atomP q.1) = true then (keyD x).map fun k => (ds.find? fun q => decide (keyD q.1 = some k)).map (·.2) else none
theorem keyD_keyP (k : Key) : keyD (keyP k) = some k := by cases k <;> rfl
theorem keysD_keyP : ∀ ks : List Key, keysD (ks.map keyP) = some ks
  | [] => rfl
  | k :: ks => by rw [List.map_cons, keysD, keyD_keyP, keysD_keyP ks]; rfl
section
variable {K : PySem.W.Frag} {m : List Addr} {H : Hp}
theorem look_T {k : List Key} : ∀ {us : List (List Key × V)} {ds : List (PyData × PyData)}, (ds.map fun q => q.1) = (us.map fun q => PyData.tuple (q.1.map keyP)) → RpAll K H (us.map fun q => q.2) (ds.map fun q => q.2) →
    RelW τ K m H (((ds.find? fun q => decide (keyTP q.1 = some k)).map (·.2)).map W.d) (valV us k)
  | [], [], _, _ => rfl
  | [], q :: ds, e, _ => by simp at e
  | p :: us, [], e, _ => by simp at e
  | p :: us, q :: ds, e, r => by
    simp only [List.map_cons, List.cons.injEq] at e r
    cases r with
    | cons h t =>
      have ek : keyTP q.1 = some p.1 := by rw [e.1]; exact keysD_keyP _
      rw [List.find?_cons, ek]
      by_cases c : p.1 = k
      · rw [valV_pos c]
        simp only [c, decide_true, Option.map_some]
        exact ⟨_, rfl, h⟩
      · rw [valV_neg c]
        simp only [Option.some.injEq, c, decide_false]
        exact look_T e.2 t
theorem look_K {k : Key} : ∀ {us : List (Key × V)} {ds : List (PyData × PyData)}, (ds.map fun q => q.1) = (us.map fun q => keyP q.1) → RpAll K H (us.map fun q => q.2) (ds.map fun q => q.2) →
    RelW τ K m H (((ds.find? fun q => decide (keyD q.1 = some k)).map (·.2)).map W.d) (valV us k)
  | [], [], _, _ => rfl
  | [], q :: ds, e, _ => by simp at e
  | p :: us, [], e, _ => by simp at e
  | p :: us, q :: ds, e, r => by
    simp only [List.map_cons, List.cons.injEq] at e r
    cases r with
    | cons h t =>
      have ek : keyD q.1 = some p.1 := by rw [e.1]; exact keyD_keyP _
      rw [List.find?_cons, ek]
      by_cases c : p.1 = k
      · rw [valV_pos c]
        simp only [c, decide_true, Option.map_some]
        exact ⟨_, rfl, h⟩
      · rw [valV_neg c]
        simp only [Option.some.injEq, c, decide_false]
        exact look_K e.2 t
end
def dlookA (S : Sto) : W → W → Option (Option W)
  | .d (.dict ds), .d k => (lookP ds k).map (Option.map W.d)
  | x, k => dlook S x k
theorem keyTP_of {K : PySem.W.Frag} {H : Hp} {v : V} {d : PyData} {k : List Key} (e : keyTP d = some k) (r : Rp K H v d) : ∃ b, v = .ref b ∧ SqT K H b (k.map kV) := by
  cases d with
  | tuple ns =>
    obtain ⟨b, xs, rfl, hb, rx⟩ := rp_tup r
    obtain rfl := keysD_of e rx
    exact ⟨b, rfl, hb⟩
  | _ => cases e
theorem dlookA_of {K : PySem.W.Frag} {m : List Addr} {S : Sto} {ρ : DEnv} {σ : L2.St} {H : Hp} {x y : V} {wx wy : W} {o : Option W} (q : Sim τ K m S ρ σ H) (hx : RW τ K m H x wx) (hy : RW τ K m H y wy) (e : dlookA S wx wy = some o) :
    ∃ a ov, x = .ref a ∧ IsD H a ∧ DGz K H a y ov ∧ RelW τ K m H o ov := by
  unfold dlookA at e
  split at e
  · rename_i ds k
    obtain ⟨op, e1, rfl⟩ := Option.map_eq_some_iff.mp e
    unfold lookP at e1
    cases hx with
    | dicT f ek nz rk =>
      rename_i a ob us
      split at e1
      · split at e1
        · obtain ⟨kk, e2, rfl⟩ := Option.map_eq_some_iff.mp e1
          obtain ⟨b, rfl, hb⟩ := keyTP_of e2 hy
          exact ⟨a, _, rfl, .inr ⟨us, .inr ⟨ob, f⟩⟩, .inr ⟨us, kk, b, .inr ⟨ob, f⟩, rfl, hb, rfl⟩, look_T ek rk⟩
        · cases e1
      · split at e1
        · rename_i hc
          exfalso
          cases ds with
          | nil => cases hc.1
          | cons p ds =>
            cases us with
            | nil => simp at ek
            | cons u us =>
              simp only [List.map_cons, List.cons.injEq] at ek
              have := hc.2
              simp [ek.1, atomP] at this
        · cases e1
    | dicK f nn ek rk =>
      rename_i a ob us
      split at e1
      · split at e1
        · rename_i hc
          cases ds with
          | cons p ds =>
            exfalso
            cases us with
            | nil => simp at ek
            | cons u us =>
              simp only [List.map_cons, List.cons.injEq] at ek
              have : atomP p.1 = true := by rw [ek.1]; cases u.1 <;> rfl
              simp [this] at hc
          | nil =>
            exfalso
            cases us with
            | nil => exact nn rfl
            | cons u us => simp at ek
        · cases e1
      · split at e1
        · obtain ⟨kk, e2, rfl⟩ := Option.map_eq_some_iff.mp e1
          obtain rfl := keyD_of e2 hy
          exact ⟨a, _, rfl, .inl ⟨us, .inr ⟨ob, f⟩⟩, .inl ⟨us, kk, .inr ⟨ob, f⟩, rfl, rfl⟩, look_K ek rk⟩
        · cases e1
  · obtain ⟨a, ov, h1, h2, h3, h4⟩ := dlook_of q hx hy e
    exact ⟨a, ov, h1, h2, h3, h4⟩
def isDicA (S : Sto) : W → Bool
  | .d (.dict _) => true
  | x => isDic S x
def dgetA : W → W → Sto → Option (W × Sto) := fun x y S => (dlookA S x y).bind fun o => o.map fun w => (w, S)
/-- x[y], whatever x is -/
def ixX : W → W → Sto → Option (W × Sto) := fun x y S => if isDicA S x = true then dgetA x y S else idxD x y S
/-- x in y, whatever y is -/
def inX (neg : Bool) : W → W → Sto → Option (W × Sto) := fun x y S => if isDicA S y = true then (dlookA S y x).map fun o => (.d (.bool (o.isSome ^^ neg)), S) else inA neg x y S
section
variable {X : Cx} {e a b c : Expr} {rest es : List Expr} {pos : Pos} {A B C : ME} {T U : MT} {R : MA}
theorem ix_dict (hu : X.A.units + 1 < cLine) : IxR X (fun x y H Q => ∃ a v, x = .ref a ∧ DGz X.K H a y (some v) ∧ Q v H) := by
  intro value slice pins s σ H x y v u Q I rx ry h hs
  obtain ⟨a, z, rfl, g, q⟩ := h
  cases rx
  have hT := dz_typeIs I g
  unfold subscriptTail
  refine wpAny_bind ?_
  rw [getitemInPython_of_ne hT.not_modules]
  refine wpAny_bind (wpAny_specialOf hT PySem.F.slot_dict_getitem.lookup ?_)
  have fin : wpAny (model X.prog X.w) X.A (subscripted slice false (.ref a) u) (fun r s₃ => wpAny (model X.prog X.w) X.A (letTemporaryGo value (.ref a) r >>= fun _ => pure r) (EP X pins σ Q) X.xe s₃) X.xe s := by
    rw [hs]
    exact wpAny_operating (wpAny_mono (dz_getItem hu I g ry fun w' s' I' rw' => ⟨z, H, I', rw', q⟩) (fun r s₃ h₃ => wpAny_bind (wpAny_letTemporaryGo (wpAny_pure h₃))) fun _ _ x => x)
  first
    | exact wpAny_pure (wpAny_bind fin)
    | exact wpAny_bind (wpAny_pure (wpAny_bind fin))
    | exact wpAny_bind fin
theorem ix_X {k : Nat} (hr : Room k X.A) : IxR X (rOp τ X.K ixX) := by
  intro value slice pins s σ H x y v u Q I rx ry h hs
  obtain ⟨m, S, ρ, σ', wx, wy, w, S', q, hx, hy, e, p⟩ := h
  unfold ixX at e
  split at e
  · obtain ⟨o, e1, e2⟩ := Option.bind_eq_some_iff.mp e
    obtain ⟨w1, rfl, e3⟩ := Option.map_eq_some_iff.mp e2
    cases e3
    obtain ⟨a, ov, rfl, _, g, z, rfl, rz⟩ := dlookA_of q hx hy e1
    exact ix_dict (by have := hr.un; omega) value slice pins s σ H _ _ v u Q I rx ry ⟨a, z, rfl, g, p.now q rz⟩ hs
  · exact ix_D value slice pins s σ H x y v u Q I rx ry ⟨m, S, ρ, σ', wx, wy, w, S', q, hx, hy, e, p⟩ hs
end
section
variable {X : Cx} {e : Expr} {t : TE} {A : ME}
/-- a value made: a new object is locked for ever -/
theorem peFrzA (h : PE X e t) : PE X e (fun σ H Q => t σ H fun v H1 => ∃ a o', v = .ref a ∧ H1 a = some o' ∧ Mut (some o') ∧ ∀ o, Q v (upd H1 a (.frz o o'))) := by
  refine ⟨fun pins s σ H Q I q => thn (h.run pins s σ H _ I q) fun u s1 ⟨v, H1, I1, r, a, o', e, hl, mu, q1⟩ => ?_⟩
  obtain ⟨o, I2⟩ := I1.lock hl mu
  exact ⟨v, _, I2, r, q1 o⟩
/-- an object that nobody else will change, as data -/
def frzO : Ob → Option PyData
  | .lst ws => (allD ws).map .list
  | .dicT kvs => if (kvs.any fun q => q.1.isEmpty) = true then none else (allD (kvs.map (·.2))).map fun ds => .dict ((kvs.map fun q => PyData.tuple (q.1.map keyP)).zip ds)
  | .dicK kvs => if kvs.isEmpty = true then none else (allD (kvs.map (·.2))).map fun ds => .dict ((kvs.map fun q => keyP q.1).zip ds)
  | .dicN _ => none
  | .dead => none
theorem frzO_T {kvs : List (List Key × W)} {d : PyData} (e : frzO (.dicT kvs) = some d) : (∀ q ∈ kvs, q.1 ≠ []) ∧ ((allD (kvs.map (·.2))).map fun ds => PyData.dict ((kvs.map fun q => PyData.tuple (q.1.map keyP)).zip ds)) = some d := by
  simp only [frzO] at e
  split at e
  · cases e
  · rename_i h
    refine ⟨fun q hq z => h (List.any_eq_true.mpr ⟨q, hq, by rw [z]; rfl⟩), e⟩
theorem keys_ne {us : List (List Key × V)} {kvs : List (List Key × W)} (e : us.map (·.1) = kvs.map (·.1)) (h : ∀ q ∈ kvs, q.1 ≠ []) : ∀ u ∈ us, u.1 ≠ [] := fun u hu => by
  have : u.1 ∈ kvs.map (·.1) := by rw [← e]; exact List.mem_map_of_mem hu
  obtain ⟨q, hq, e2⟩ := List.mem_map.mp this
  rw [← e2]; exact h q hq
def mFrzA (A : ME) : ME := fun ρ S => (A ρ S).bind fun p => match p.1 with
  | .loc j => (p.2[j]?).bind fun o => (frzO o).map fun d => (.d d, p.2.set j .dead)
  | .d _ => none
  | .fn => none
theorem paired_vals {κ : Type} {K : PySem.W.Frag} {m : List Addr} {H : Hp} {us : List (κ × V)} {kvs : List (κ × W)} (r : Paired (fun (p : κ × V) (q : κ × W) => p.1 = q.1 ∧ RW τ K m H p.2 q.2) us kvs) : Paired (RW τ K m H) (us.map fun q => q.2) (kvs.map (·.2)) := by
  induction r with
  | nil => exact .nil
  | cons h t ih => exact .cons h.2 ih
theorem zip_fst {α β : Type} : ∀ {l : List α} {r : List β}, l.length = r.length → ((l.zip r).map fun q => q.1) = l ∧ ((l.zip r).map fun q => q.2) = r
  | [], [], _ => ⟨rfl, rfl⟩
  | [], _ :: _, h => by simp at h
  | _ :: _, [], h => by simp at h
  | a :: l, b :: r, h => by
    obtain ⟨h1, h2⟩ := zip_fst (l := l) (r := r) (by simpa using h)
    exact ⟨by rw [List.zip_cons_cons, List.map_cons, h1], by rw [List.zip_cons_cons, List.map_cons, h2]⟩
theorem de_frzA (h : PE X e (rdE τ X.K A)) : PE X e (rdE τ X.K (mFrzA A)) := wkE (peFrzA h) fun σ H Q q => by
  obtain ⟨m, S, ρ, w, S', q, e, p⟩ := q
  obtain ⟨⟨wx, S1⟩, e1, e2⟩ := Option.bind_eq_some_iff.mp e
  refine ⟨m, S, ρ, wx, S1, q, e1, fun ext H1 x f q1 fr r => ?_⟩
  have p1 := p.at f q1 fr
  simp only at e2
  split at e2
  · rename_i j
    obtain ⟨ob, hj, e2⟩ := Option.bind_eq_some_iff.mp e2
    obtain ⟨d, e3, e4⟩ := Option.map_eq_some_iff.mp e2
    cases e4
    obtain ⟨a, ha, rfl⟩ := r
    obtain ⟨a2, ha2, ro⟩ := q1.obs j _ hj
    rw [ha] at ha2; cases ha2
    have hn := (List.getElem?_eq_some_iff.mp hj).1
    have fin : ∀ u : HO, H1 a = some u → ¬ Fix u → Mut (some u) → (∀ o, Rp X.K (upd H1 a (.frz o u)) (.ref a) d) → ∃ a' o', V.ref a = .ref a' ∧ H1 a' = some o' ∧ Mut (some o') ∧ ∀ o, Q (.ref a) (upd H1 a' (.frz o o')) := fun u hu ni mu rp => by
      refine ⟨a, u, rfl, hu, mu, fun o => ?_⟩
      have q2 := q1.put (ob := .dead) (o := .frz o u) ha (fun z h => by rw [hu] at h; cases h; exact ni) hn ⟨_, upd_same⟩
      exact p1 [] _ _ (fun _ h => absurd h (by simp)) (by rw [List.append_nil]; exact q2) (putD_fr ha hu (imm_fix ni)) (rp o)
    cases ob with
    | lst ws =>
      obtain ⟨ds, e5, rfl⟩ := Option.map_eq_some_iff.mp e3
      obtain ⟨vs, hv, pr⟩ := ro
      exact fin _ hv (fun z => z) trivial fun o => Rp.lst (.inl ⟨o, upd_same⟩) (RpAll.mono (put_kp hv) _ _ (allD_of e5 pr))
    | dicT kvs =>
      obtain ⟨e3n, e3⟩ := frzO_T e3
      obtain ⟨ds, e5, rfl⟩ := Option.map_eq_some_iff.mp e3
      obtain ⟨us, hv, pr⟩ := ro
      have hl := allD_len e5
      have hz := zip_fst (l := kvs.map fun q => PyData.tuple (q.1.map keyP)) (r := ds) (by rw [hl, List.length_map, List.length_map])
      refine fin _ hv (fun z => z) trivial fun o => Rp.dicT (o := o) upd_same (hz.1.trans ?_) (keys_ne (tab_keys pr) e3n) (by rw [hz.2]; exact RpAll.mono (putD_kp hv fun z => z) _ _ (allD_of e5 (paired_vals pr)))
      have := tab_keys pr
      rw [show (kvs.map fun q => PyData.tuple (q.1.map keyP)) = (kvs.map (·.1)).map fun k => PyData.tuple (k.map keyP) by rw [List.map_map]; rfl, ← this, List.map_map]; rfl
    | dicK kvs =>
      simp only [frzO] at e3
      split at e3
      · cases e3
      · rename_i hne
        obtain ⟨ds, e5, rfl⟩ := Option.map_eq_some_iff.mp e3
        obtain ⟨us, hv, pr⟩ := ro
        have hl := allD_len e5
        have hz := zip_fst (l := kvs.map fun q => keyP q.1) (r := ds) (by rw [hl, List.length_map, List.length_map])
        refine fin _ hv (fun z => z) trivial fun o => Rp.dicK (o := o) upd_same (fun z => ?_) (hz.1.trans ?_) (by rw [hz.2]; exact RpAll.mono (putD_kp hv fun z => z) _ _ (allD_of e5 (paired_vals pr)))
        · subst z
          cases pr
          exact hne rfl
        · have := tab_keys pr
          rw [show (kvs.map fun q => keyP q.1) = (kvs.map (·.1)).map keyP by rw [List.map_map]; rfl, ← this, List.map_map]; rfl
    | dicN kvs => cases e3
    | dead => cases e3
  · cases e2
  · cases e2
end
end DL
end
noncomputable section
namespace DL
open PySem PySem.Spec PyProof.Rows L2
def NK (k : List (List Int)) : NestedKey := .tup (k.map fun c => .tup (c.map .num))
theorem nums_inj : ∀ {a b : List Int}, a.map NestedKey.num = b.map NestedKey.num → a = b
  | [], [], _ => rfl
  | [], _ :: _, h => by simp at h
  | _ :: _, [], h => by simp at h
  | x :: a, y :: b, h => by
    simp only [List.map_cons, List.cons.injEq, NestedKey.num.injEq] at h
    rw [h.1, nums_inj h.2]
theorem NK_inj {a b : List (List Int)} (h : NK a = NK b) : a = b := by
  simp only [NK, NestedKey.tup.injEq] at h
  induction a generalizing b with
  | nil =>
    cases b with
    | nil => rfl
    | cons y b => simp at h
  | cons x a ih =>
    cases b with
    | nil => simp at h
    | cons y b =>
      simp only [List.map_cons, List.cons.injEq, NestedKey.tup.injEq] at h
      rw [nums_inj h.1, ih h.2]
theorem hashes_num (w : World) : ∀ c : List Int, NestedKey.hashes w (c.map .num) = c.map hashInt
  | [] => rfl
  | x :: c => by rw [List.map_cons, NestedKey.hashes, hashes_num w c]; rfl
theorem hashes_tup (w : World) : ∀ k : List (List Int), NestedKey.hashes w (k.map fun c => .tup (c.map .num)) = k.map fun c => reduceHash (Builtin.Tuple.tupleHashOf (c.map hashInt))
  | [] => rfl
  | c :: k => by rw [List.map_cons, NestedKey.hashes, hashes_tup w k, NestedKey.hash, hashes_num]; rfl
theorem hash_NK (w : World) (k : List (List Int)) : (NK k).hash w = hashN k := by
  rw [NK, NestedKey.hash, hashes_tup]; rfl
theorem dep_nums : ∀ c : List Int, NestedKey.depthAll (c.map .num) = 0
  | [] => rfl
  | x :: c => by rw [List.map_cons, NestedKey.depthAll, dep_nums c]; rfl
theorem dep_NK (k : List (List Int)) : (NK k).depth ≤ 8 := by
  have : NestedKey.depthAll (k.map fun c => NestedKey.tup (c.map .num)) ≤ 1 := by
    induction k with
    | nil => decide
    | cons c k ih =>
      rw [List.map_cons, NestedKey.depthAll]
      refine Nat.max_le.mpr ⟨?_, ih⟩
      rw [NestedKey.depth, dep_nums]; decide
  rw [NK, NestedKey.depth]; omega
section
variable {X : Cx} {pins : List (Addr × Obj)} {σ : L2.St} {H : Hp} {s : Shared}
theorem nest_nums {h : Heap} : ∀ {c : List Int} {us : List Value}, Vals (c.map V.int) us → NestedAll h (c.map .num) us
  | [], _, .nil => .nil
  | x :: c, _, .cons r t => by
    obtain ⟨tk, rfl⟩ := r
    exact .cons (.int x tk) (nest_nums t)
theorem nest_tup (I : Inv X pins σ H s) {c : List Int} {t : Addr} (h : H t = some (.tup (c.map V.int))) : NestedIs s.heap (.tup (c.map .num)) (.ref t) := by
  obtain ⟨its, r, ⟨o, ho, hc, n, hd⟩, _⟩ := I.tuple (.inl (.of h))
  exact .tup ho hc hd (by simpa using nest_nums r)
theorem nest_tups (I : Inv X pins σ H s) : ∀ {k : List (List Int)} {vs : List V} {us : List Value}, Paired (fun v c => ∃ t, v = V.ref t ∧ H t = some (.tup (c.map V.int))) vs k → Vals vs us → NestedAll s.heap (k.map fun c => .tup (c.map .num)) us
  | [], _, _, .nil, .nil => .nil
  | c :: k, _, _, .cons ⟨t, e, ht⟩ p, .cons r rs => by
    subst e
    cases r
    exact .cons (nest_tup I ht) (nest_tups I p rs)
theorem nk_is (I : Inv X pins σ H s) {k : List (List Int)} {b : Addr} (h : NkAt H k b) : (nestedKind X.prog X.w).is s.heap (NK k) b := by
  obtain ⟨_, vs, hb, p⟩ := h
  obtain ⟨its, r, ⟨o, ho, hc, n, hd⟩, _⟩ := I.tuple (.inl (.of hb))
  exact ⟨.tup ho hc hd (by simpa using nest_tups I p r), dep_NK k⟩
abbrev NR : List NRow → List (List (List Int) × Addr × Value) → Prop := Paired fun p q => p.1 = q.1 ∧ p.2.1 = q.2.1 ∧ RelV p.2.2 q.2.2
def fK (x : List (List Int) × Addr × Value) : NestedKey × Addr × Value := (NK x.1, x.2)
theorem atKey_fK {k : List (List Int)} : ∀ {xs : List (List (List Int) × Addr × Value)}, atKey (xs.map fK) (NK k) = atKey xs k
  | [] => rfl
  | x :: xs => by
    have ih := atKey_fK (k := k) (xs := xs)
    unfold atKey at ih ⊢
    rw [List.map_cons, List.find?_cons, List.find?_cons]
    by_cases h : x.1 = k
    · simp [fK, h]
    · have : ¬ (fK x).1 = NK k := fun e => h (NK_inj e)
      simp only [this, h, decide_false]
      exact ih
theorem stored_fK {k : List (List Int)} {b : Addr} {v : Value} {xs : List (List (List Int) × Addr × Value)} : storedH (xs.map fK) (NK k) b v = (storedH xs k b v).map fK := by
  unfold storedH
  rw [atKey_fK]
  split
  · rw [List.map_map, List.map_map]
    refine List.map_congr_left fun x _ => ?_
    simp only [Function.comp, putAt]
    by_cases h : x.1 = k
    · simp [fK, h]
    · have : ¬ (fK x).1 = NK k := fun e => h (NK_inj e)
      simp [this, h]
  · rw [List.map_append]; rfl
theorem rows_fK {w : World} {P : Program} (xs : List (List (List Int) × Addr × Value)) : (xs.map fK).map (entryOfKey (nestedKind P w)) = xs.map fun x => (⟨hashN x.1, .ref x.2.1, x.2.2⟩ : DictEntry) := by
  rw [List.map_map]
  refine List.map_congr_left fun x _ => ?_
  show (⟨(NK x.1).hash w, .ref x.2.1, x.2.2⟩ : DictEntry) = _
  rw [hash_NK]
theorem keys_fK (xs : List (List (List Int) × Addr × Value)) : (xs.map fK).map (·.1) = (xs.map (·.1)).map NK := by rw [List.map_map, List.map_map]; rfl
theorem nd_fK {xs : List (List (List Int) × Addr × Value)} : ((xs.map fK).map (·.1)).Nodup ↔ (xs.map (·.1)).Nodup := by
  rw [keys_fK]
  exact ⟨fun h => List.Pairwise.of_map NK (fun a b hne e => hne (congrArg NK e)) h, fun h => List.Pairwise.map _ (R := fun a b => a ≠ b) (fun a b hab e => hab (NK_inj e)) h⟩
def lookN {α : Type} (kvs : List (List (List Int) × α)) (k : List (List Int)) : Option α := (kvs.find? fun q => decide (q.1 = k)).map (·.2)
theorem NR.val {rows : List NRow} {xs : List (List (List Int) × Addr × Value)} (r : NR rows xs) (k : List (List Int)) : RelO ((lookN rows k).map (·.2)) ((atKey xs k).map (·.2)) := by
  induction r with
  | nil => exact True.intro
  | @cons p q ps qs h t ih =>
    obtain ⟨h1, _, h2⟩ := h
    by_cases e : p.1 = k
    · have e' : q.1 = k := h1.symm.trans e
      have b : atKey (q :: qs) k = some q.2 := by simp [atKey, List.find?_cons, e']
      have b2 : lookN (p :: ps) k = some p.2 := by simp [lookN, List.find?_cons, e]
      rw [b, b2]; exact h2
    · have e' : ¬ q.1 = k := fun z => e (h1.trans z)
      have b : atKey (q :: qs) k = atKey qs k := by simp [atKey, List.find?_cons, e']
      have b2 : lookN (p :: ps) k = lookN ps k := by simp [lookN, List.find?_cons, e]
      rw [b, b2]; exact ih
def putR (rows : List NRow) (k : List (List Int)) (b : Addr) (v : V) : List NRow := if (rows.any fun q => decide (q.1 = k)) = true then rows.map (fun q => if q.1 = k then (q.1, q.2.1, v) else q) else rows ++ [(k, b, v)]
theorem any_look {α : Type} (k : List (List Int)) : ∀ kvs : List (List (List Int) × α), (kvs.any fun q => decide (q.1 = k)) = (lookN kvs k).isSome
  | [] => rfl
  | p :: r => by
    rw [List.any_cons, any_look k r]
    by_cases e : p.1 = k
    · simp [lookN, List.find?_cons, e]
    · simp [lookN, List.find?_cons, e]
theorem NR.put {rows : List NRow} {xs : List (List (List Int) × Addr × Value)} (r : NR rows xs) (k : List (List Int)) {b : Addr} {v : V} {u : Value} (rv : RelV v u) : NR (putR rows k b v) (storedH xs k b u) := by
  have e : (rows.any fun q => decide (q.1 = k)) = (atKey xs k).isSome := by
    have := (r.val k).isSome_eq
    rw [Option.isSome_map, Option.isSome_map] at this
    rw [any_look, this]
  unfold putR storedH
  rw [e]
  by_cases q : (atKey xs k).isSome = true
  · rw [if_pos q, if_pos q]
    clear e q
    induction r with
    | nil => exact .nil
    | @cons p q ps qs h t ih =>
      rw [List.map_cons, List.map_cons]
      refine .cons ?_ ih
      by_cases c : p.1 = k
      · have c' : q.1 = k := h.1.symm.trans c
        rw [if_pos c]
        simp only [putAt, if_pos c']
        exact ⟨h.1, h.2.1, rv⟩
      · have c' : ¬ q.1 = k := fun z => c (h.1.trans z)
        rw [if_neg c]
        simp only [putAt, if_neg c']
        exact h
  · rw [if_neg q, if_neg q]; exact Paired.snoc r ⟨rfl, rfl, rv⟩
theorem putR_len (rows : List NRow) (k : List (List Int)) (b : Addr) (v : V) : (putR rows k b v).length ≤ rows.length + 1 := by
  unfold putR
  split
  · rw [List.length_map]; omega
  · simp
/-- the dict at hand -/
theorem nest_of (I : Inv X pins σ H s) {a : Addr} {rows : List NRow} (e : H a = some (NestO a rows)) (hk : ∀ r ∈ rows, NkAt H r.1 r.2.1) :
    rows.length ≤ sizeLine ∧ (a == sysModules) = false ∧ ∃ xs, NR rows xs ∧ s.heap.DictOfH (nestedKind X.prog X.w) a (xs.map fK) := by
  obtain ⟨⟨z, hd, xs, r, o, es, ep, h1, h2, h3, h4, h5⟩, _⟩ := (show ObjOk X.prog X.w H s.heap a (NestO a rows) from I.hok a _ e)
  refine ⟨z, hd, xs, r, o, es, ep, h1, h2, h3, by rw [rows_fK]; exact h4, fun x hx => ?_, nd_fK.mpr h5⟩
  obtain ⟨y, hy, rfl⟩ := List.mem_map.mp hx
  have : ∀ {rows : List NRow} {xs : List (List (List Int) × Addr × Value)}, NR rows xs → (∀ r ∈ rows, NkAt H r.1 r.2.1) → ∀ y ∈ xs, NkAt H y.1 y.2.1 := by
    intro rows xs r
    induction r with
    | nil => intro _ y hy; cases hy
    | @cons p q ps qs h t ih =>
      intro hk y hy
      rcases List.mem_cons.mp hy with c | c
      · subst c
        have := hk p (by simp)
        rwa [h.1, h.2.1] at this
      · exact ih (fun r hr => hk r (by simp [hr])) y c
  exact nk_is I (this r hk y hy)
theorem nest_ok {h' : Heap} {a : Addr} {H' : Hp} {rows : List NRow} {xs : List (List (List Int) × Addr × Value)} (hz : rows.length ≤ sizeLine) (hd : (a == sysModules) = false) (r : NR rows xs) (dd : h'.DictOfH (nestedKind X.prog X.w) a (xs.map fK)) : ObjOk X.prog X.w H' h' a (NestO a rows) := by
  obtain ⟨o, es, ep, h1, h2, h3, h4, _, h5⟩ := dd
  refine ⟨⟨hz, hd, xs, r, o, es, ep, h1, h2, h3, by rw [← rows_fK (P := X.prog) (w := X.w)]; exact h4, nd_fK.mp h5⟩, ⟨o, h1⟩, fun k1 k2 p kk => ?_⟩
  obtain ⟨z, hd, xs, r, o, es, ep, h1, q⟩ := p
  exact ⟨z, hd, xs, r, o, es, ep, kk o h1, q⟩
end
def putN (kvs : List (List (List Int) × PyData)) (k : List (List Int)) (d : PyData) : List (List (List Int) × PyData) := if (kvs.any fun q => decide (q.1 = k)) = true then kvs.map (fun q => if q.1 = k then (q.1, d) else q) else kvs ++ [(k, d)]
/-- a tuple of tuples of whole numbers -/
def intsP : List PyData → Option (List Int)
  | [] => some []
  | .int i :: ds => (intsP ds).map (i :: ·)
  | _ => none
def tupsP : List PyData → Option (List (List Int))
  | [] => some []
  | .tuple c :: ds => (intsP c).bind fun c => (tupsP ds).map (c :: ·)
  | _ => none
theorem ints_at {K : PySem.W.Frag} {H : Hp} : ∀ {ds : List PyData} {c : List Int} {vs : List V}, intsP ds = some c → RpAll K H vs ds → vs = c.map V.int
  | [], _, _, e, .nil => by cases e; rfl
  | .int i :: ds, _, _, e, .cons r t => by
    simp only [intsP, Option.map_eq_some_iff] at e
    obtain ⟨c, e1, rfl⟩ := e
    cases r
    rw [ints_at e1 t]; rfl
  | .none :: _, _, _, e, _ => by cases e
  | .bool _ :: _, _, _, e, _ => by cases e
  | .str _ :: _, _, _, e, _ => by cases e
  | .list _ :: _, _, _, e, _ => by cases e
  | .tuple _ :: _, _, _, e, _ => by cases e
  | .dict _ :: _, _, _, e, _ => by cases e
theorem ints_rul {c : List PyData} {c' : List Int} (e : intsP c = some c') (h : c' ≠ []) : ruly c = false := by
  cases c with
  | nil => simp only [intsP, Option.some.injEq] at e; exact absurd e.symm h
  | cons d ds => cases d <;> first | rfl | (simp [intsP] at e)
theorem ints_row {c : List PyData} {c' : List Int} (e : intsP c = some c') : rowP (.tuple c) = false := by
  cases c with
  | nil => rfl
  | cons d ds => cases d <;> first | rfl | (simp [intsP] at e)
theorem tups_rul {ds : List PyData} {k : List (List Int)} (e : tupsP ds = some k) (h : k ≠ []) : ruly ds = false := by
  cases ds with
  | nil => simp only [tupsP, Option.some.injEq] at e; exact absurd e.symm h
  | cons d ds =>
    cases d with
    | tuple c =>
      simp only [tupsP] at e
      obtain ⟨c', e1, _⟩ := Option.bind_eq_some_iff.mp e
      simp [ruly, ints_row e1]
    | _ => simp [tupsP] at e
theorem tups_at {K : PySem.W.Frag} {H : Hp} : ∀ {ds : List PyData} {k : List (List Int)} {vs : List V}, tupsP ds = some k → (∀ c ∈ k, c ≠ []) → RpAll K H vs ds → Paired (fun v c => ∃ t, v = V.ref t ∧ H t = some (.tup (c.map V.int))) vs k
  | [], _, _, e, _, .nil => by cases e; exact .nil
  | .tuple c :: ds, _, _, e, hn, .cons r t => by
    simp only [tupsP] at e
    obtain ⟨c', e1, e2⟩ := Option.bind_eq_some_iff.mp e
    obtain ⟨k, e3, rfl⟩ := Option.map_eq_some_iff.mp e2
    obtain ⟨b, xs, rfl, hb, rx⟩ := rp_tupH r (ints_rul e1 (hn _ (by simp)))
    obtain rfl := ints_at e1 rx
    exact .cons ⟨b, rfl, hb⟩ (tups_at e3 (fun c hc => hn c (by simp [hc])) t)
  | .none :: _, _, _, e, _, _ => by cases e
  | .bool _ :: _, _, _, e, _, _ => by cases e
  | .str _ :: _, _, _, e, _, _ => by cases e
  | .list _ :: _, _, _, e, _, _ => by cases e
  | .int _ :: _, _, _, e, _, _ => by cases e
  | .dict _ :: _, _, _, e, _, _ => by cases e
def keyN : W → Option (List (List Int))
  | .d (.tuple ds) => (tupsP ds).bind fun k => if (k.isEmpty || k.any List.isEmpty) = true then none else some k
  | _ => none
theorem keyN_of {K : PySem.W.Frag} {m : List Addr} {H : Hp} {v : V} {w : W} {k : List (List Int)} (e : keyN w = some k) (r : RW τ K m H v w) : ∃ b, v = .ref b ∧ NkAt H k b := by
  unfold keyN at e
  split at e
  · obtain ⟨k', e0, e⟩ := Option.bind_eq_some_iff.mp e
    split at e
    · cases e
    rename_i hk
    cases e
    simp only [Bool.or_eq_true, List.isEmpty_iff, List.any_eq_true, not_or, not_exists, not_and] at hk
    obtain ⟨b, xs, rfl, hb, rx⟩ := rp_tupH r (tups_rul e0 hk.1)
    exact ⟨b, rfl, ⟨hk.1, fun c hc z => hk.2 c hc z⟩, xs, hb, tups_at e0 (fun c hc z => hk.2 c hc z) rx⟩
  · cases e
def isN (S : Sto) : W → Bool
  | .loc n => match S[n]? with
    | some (.dicN _) => true
    | _ => false
  | _ => false
def nlook (S : Sto) : W → W → Option (Option PyData)
  | .loc n, y => match S[n]? with
    | some (.dicN kvs) => (keyN y).map fun k => lookN kvs k
    | _ => none
  | _, _ => none
def nputF : W → W → W → Sto → Option Sto
  | .loc n, y, .d d, S => match S[n]? with
    | some (.dicN kvs) => (keyN y).bind fun k => if kvs.length < sizeLine then some (S.set n (.dicN (putN kvs k d))) else none
    | _ => none
  | _, _, _, _ => none
section
variable {K : PySem.W.Frag} {m : List Addr} {H : Hp}
abbrev NP (K : PySem.W.Frag) (H : Hp) : List NRow → List (List (List Int) × PyData) → Prop := Paired fun p q => p.1 = q.1 ∧ NkAt H p.1 p.2.1 ∧ Rp K H p.2.2 q.2
theorem NP.keys {rows : List NRow} {kvs : List (List (List Int) × PyData)} (r : NP K H rows kvs) : ∀ x ∈ rows, NkAt H x.1 x.2.1 := by
  induction r with
  | nil => intro x hx; cases hx
  | cons h t ih =>
    intro x hx
    rcases List.mem_cons.mp hx with c | c
    · subst c; exact h.2.1
    · exact ih x c
theorem NP.val {rows : List NRow} {kvs : List (List (List Int) × PyData)} (r : NP K H rows kvs) (k : List (List Int)) : match lookN kvs k with
    | some d => ∃ v, (lookN rows k).map (·.2) = some v ∧ Rp K H v d
    | none => (lookN rows k).map (·.2) = none := by
  induction r with
  | nil => rfl
  | @cons p q ps qs h t ih =>
    by_cases e : p.1 = k
    · have e' : q.1 = k := h.1.symm.trans e
      have b : lookN (q :: qs) k = some q.2 := by simp [lookN, List.find?_cons, e']
      have b2 : lookN (p :: ps) k = some p.2 := by simp [lookN, List.find?_cons, e]
      rw [b, b2]; exact ⟨_, rfl, h.2.2⟩
    · have e' : ¬ q.1 = k := fun z => e (h.1.trans z)
      have b : lookN (q :: qs) k = lookN qs k := by simp [lookN, List.find?_cons, e']
      have b2 : lookN (p :: ps) k = lookN ps k := by simp [lookN, List.find?_cons, e]
      rw [b, b2]; exact ih
theorem NP.put {rows : List NRow} {kvs : List (List (List Int) × PyData)} (r : NP K H rows kvs) {k : List (List Int)} {b : Addr} {v : V} {d : PyData} (hb : NkAt H k b) (rd : Rp K H v d) : NP K H (putR rows k b v) (putN kvs k d) := by
  have e : (rows.any fun q => decide (q.1 = k)) = (kvs.any fun q => decide (q.1 = k)) := by
    induction r with
    | nil => rfl
    | cons h t ih => rw [List.any_cons, List.any_cons, ih, h.1]
  unfold putR putN
  rw [e]
  split
  · clear e
    rename_i hh
    clear hh
    induction r with
    | nil => exact .nil
    | @cons p q ps qs h t ih =>
      rw [List.map_cons, List.map_cons]
      refine .cons ?_ ih
      by_cases c : p.1 = k
      · have c' : q.1 = k := h.1.symm.trans c
        rw [if_pos c, if_pos c']
        exact ⟨h.1, h.2.1, rd⟩
      · have c' : ¬ q.1 = k := fun z => c (h.1.trans z)
        rw [if_neg c, if_neg c']
        exact h
  · exact Paired.snoc r ⟨rfl, hb, rd⟩
end
section
variable {X : Cx} {e a b c : Expr} {pos : Pos} {A B C : ME}
theorem set_nest {k : Nat} (hr : Room k X.A) : PSet X (rSet τ X.K nputF) := by
  intro pins s σ H o i v ov iv u Q I ro ri rv h
  obtain ⟨m, S, ρ, σ', wo, wi, wv, S', q, h1, h2, h3, e, p⟩ := h
  unfold nputF at e
  split at e
  · obtain ⟨a, hm, rfl⟩ := h1
    cases ro
    split at e
    · rename_i d S0 kvs hs
      obtain ⟨k, e1, e⟩ := Option.bind_eq_some_iff.mp e
      split at e
      · rename_i hz
        cases e
        obtain ⟨b, hb, rows, hv, pr⟩ := q.obs _ _ hs
        rw [hm] at hb; cases hb
        have pr : NP X.K H rows kvs := pr
        obtain ⟨b, rfl, hk⟩ := keyN_of e1 h2
        cases ri
        obtain ⟨z, hd, xs, r, dd⟩ := nest_of I hv pr.keys
        have hzx : (xs.map fK).length ≤ sizeLine := by rw [List.length_map, ← Paired.length r]; exact z
        have hl : (putR rows k b v).length ≤ sizeLine := by
          have := putR_len rows k b v
          have := Paired.length pr
          omega
        have ni : ¬ Fix (NestO a rows) := fun z => z
        refine wpAny_setItem_heap (knd := nestedKind X.prog X.w) (hsz := hzx) (show X.A.in1.units + 8 < cLine by have := hr.un; show X.A.units + 1 + 8 < cLine; omega) (nk_is I hk) dd fun h' dd' hs' => ?_
        rw [stored_fK] at dd'
        have he : ∃ q, h'.get? a = some q := let ⟨q, _, _, hq, _⟩ := dd'; ⟨q, hq⟩
        refine ⟨_, d_write (ob := NestO a (putR rows k b v)) I (by rw [hv]; exact True.intro) hs' he (nest_ok hl hd (r.put k rv) dd'), ?_⟩
        have kp : Kp H (upd H a (NestO a (putR rows k b v))) := putD_kp hv (imm_fix ni)
        refine p [] _ (fun _ h => absurd h (by simp)) (by
          rw [List.append_nil]
          exact q.put hm (fun u h => by rw [hv] at h; cases h; exact ni) (List.getElem?_eq_some_iff.mp hs).1 ⟨_, upd_same, Paired.mapP (pr.put hk h3) fun _ _ z => ⟨z.1, z.2.1.mono kp, z.2.2.mono' kp⟩⟩) (putD_fr hm hv (imm_fix ni))
      · cases e
    · cases e
  · cases e
/-- {} whose keys will be tuples of tuples -/
def mNewN : ME := fun _ S => some (.loc S.length, S ++ [.dicN []])
/-- x[y], x in y: with these dicts, too -/
def ixY : W → W → Sto → Option (W × Sto) := fun x y S => if isN S x = true then (nlook S x y).bind fun o => o.map fun d => (.d d, S) else ixX x y S
theorem nlook_of {K : PySem.W.Frag} {m : List Addr} {S : Sto} {ρ : DEnv} {σ : L2.St} {H : Hp} {x y : V} {wx wy : W} {o : Option PyData} (q : Sim τ K m S ρ σ H) (hx : RW τ K m H x wx) (hy : RW τ K m H y wy) (e : nlook S wx wy = some o) :
    ∃ a b rows kvs k, x = .ref a ∧ y = .ref b ∧ H a = some (NestO a rows) ∧ NP K H rows kvs ∧ NkAt H k b ∧ o = lookN kvs k := by
  unfold nlook at e
  split at e
  · obtain ⟨a, hm, rfl⟩ := hx
    split at e
    · rename_i kvs hs
      obtain ⟨k, e1, rfl⟩ := Option.map_eq_some_iff.mp e
      obtain ⟨b, hb, rows, hv, pr⟩ := q.obs _ _ hs
      rw [hm] at hb; cases hb
      have pr : NP K H rows kvs := pr
      obtain ⟨b, rfl, hk⟩ := keyN_of e1 hy
      exact ⟨a, b, rows, kvs, k, rfl, rfl, hv, pr, hk, rfl⟩
    · cases e
  · cases e
theorem ix_N {k : Nat} (hr : Room k X.A) : IxR X (rOp τ X.K ixY) := by
  intro value slice pins s σ H x y v u Q I rx ry h hs
  obtain ⟨m, S, ρ, σ', wx, wy, w, S', q, hx, hy, e, p⟩ := h
  unfold ixY at e
  split at e
  · obtain ⟨o, e1, e2⟩ := Option.bind_eq_some_iff.mp e
    obtain ⟨d, rfl, e3⟩ := Option.map_eq_some_iff.mp e2
    cases e3
    obtain ⟨a, b, rows, kvs, k, rfl, rfl, hv, pr, hk, eo⟩ := nlook_of q hx hy e1
    cases rx
    cases ry
    obtain ⟨z, hd, xs, r, dd⟩ := nest_of I hv pr.keys
    have h1 := pr.val k
    rw [← eo] at h1
    obtain ⟨z, hz, rz⟩ := h1
    have h2 := r.val k
    rw [hz] at h2
    obtain ⟨w', hw, rw'⟩ := RelO.some_of (v := z) h2
    obtain ⟨pp, hp, rfl⟩ := Option.map_eq_some_iff.mp hw
    have hT := dd.typeIs
    have get : wpAny (model X.prog X.w) X.A (getItem (.ref a) (.ref b)) (EP X pins σ Q) X.xe s :=
      wpAny_getItem_heap (knd := nestedKind X.prog X.w) (show X.A.in1.units + 8 < cLine by have := hr.un; show X.A.units + 1 + 8 < cLine; omega) (nk_is I hk) dd (by rw [atKey_fK]; exact hp) ⟨z, H, I.tok _, rw', p.now q rz⟩
    unfold subscriptTail
    refine wpAny_bind ?_
    rw [getitemInPython_of_ne hT.not_modules]
    refine wpAny_bind (wpAny_specialOf hT PySem.F.slot_dict_getitem.lookup ?_)
    have fin : wpAny (model X.prog X.w) X.A (subscripted slice false (.ref a) (.ref b)) (fun r s₃ => wpAny (model X.prog X.w) X.A (letTemporaryGo value (.ref a) r >>= fun _ => pure r) (EP X pins σ Q) X.xe s₃) X.xe s := by
      rw [hs]
      exact wpAny_operating (wpAny_mono get (fun r s₃ h₃ => wpAny_bind (wpAny_letTemporaryGo (wpAny_pure h₃))) fun _ _ x => x)
    first
      | exact wpAny_pure (wpAny_bind fin)
      | exact wpAny_bind (wpAny_pure (wpAny_bind fin))
      | exact wpAny_bind fin
  · exact ix_X hr value slice pins s σ H x y v u Q I rx ry ⟨m, S, ρ, σ', wx, wy, w, S', q, hx, hy, e, p⟩ hs
theorem de_ixY {k : Nat} (hr : Room k X.A) (ha : PE X a (rdE τ X.K A)) (hb : PE X b (rdE τ X.K B)) (hs : PlainIx b := by exact fun _ _ => rfl) : PE X (.Subscript a b pos) (rdE τ X.K (mBin ixY A B)) := wkE (pe_ix (ix_N hr) ha hb hs) fun σ H Q q => binE q
end
end DL
end
noncomputable section
namespace DL
open PySem PySem.Spec PyProof.Rows L2
section
variable {X : Cx} {pins : List (Addr × Obj)} {σ : L2.St} {H : Hp} {s : Shared}
theorem keys_rul {ks : List Key} (h : ks ≠ []) : ruly (ks.map keyP) = false := by
  cases ks with
  | nil => exact absurd rfl h
  | cons k ks => cases k <;> rfl
end
/-- the keys of any dict, as data, in their order -/
def keysP (S : Sto) : W → Option (List PyData)
  | .loc n => match S[n]? with
    | some (.dicT kvs) => if (kvs.any fun q => q.1.isEmpty) = true then none else some (kvs.map fun q => .tuple (q.1.map keyP))
    | some (.dicN kvs) => some (kvs.map fun q => .tuple (q.1.map tI))
    | _ => none
  | .d (.dict ds) => some (ds.map fun q => q.1)
  | _ => none
def sortedKX := on1 fun w S => (keysP S w).bind fun ps => (ofPs ps).bind fun cs => if sortable cs = true then some (.d (.list (toPs (sortC cs))), S) else none
section
end
end DL
end
noncomputable section
namespace DL
open PySem PySem.Spec PyProof.Rows L2
section
end
section
end
end DL
end
noncomputable section
namespace DL
open PySem PySem.Spec PyProof.Rows L2
open PpSet (newSet_ok eval_SetComp compTurn_set codeAny_compStart_set compLoopS_any)
section
end
section
end
def dd : List (List Int) → List (List Int)
  | [] => []
  | x :: l => if x ∈ l then dd l else x :: dd l
theorem mem_dd {x : List Int} : ∀ {l : List (List Int)}, x ∈ dd l ↔ x ∈ l
  | [] => Iff.rfl
  | y :: l => by
    unfold dd
    split
    · rename_i h
      rw [mem_dd (l := l), List.mem_cons]
      exact ⟨.inr, fun z => z.elim (fun e => e ▸ h) id⟩
    · rw [List.mem_cons, List.mem_cons, mem_dd (l := l)]
theorem dd_nodup : ∀ l : List (List Int), (dd l).Nodup
  | [] => List.nodup_nil
  | y :: l => by
    unfold dd
    split
    · exact dd_nodup l
    · rename_i h
      exact List.nodup_cons.mpr ⟨fun z => h (mem_dd.mp z), dd_nodup l⟩
def wsT : List W → Option (List (List Int))
  | [] => some []
  | .d (.tuple ds) :: ws => (intsP ds).bind fun c => (wsT ws).map (c :: ·)
  | _ => none
structure SetOk (H : Hp) (L : List (Addr × List Int)) (ks : List (List Int)) : Prop where
  tup : ∀ p ∈ L, H p.1 = some (.tup (p.2.map V.int))
  nd : (L.map (·.2)).Nodup
  iff : ∀ k, k ∈ L.map (·.2) ↔ k ∈ ks
  len : L.length ≤ ks.length
theorem SetOk.nil {H : Hp} : SetOk H [] [] := ⟨fun p h => (by cases h), List.nodup_nil, fun k => Iff.rfl, Nat.le_refl _⟩
theorem SetOk.mono {H H' : Hp} {L : List (Addr × List Int)} {ks : List (List Int)} (x : SetOk H L ks) (k : Kp H H') : SetOk H' L ks := ⟨fun p hp => k _ _ (x.tup p hp) trivial, x.nd, x.iff, x.len⟩
theorem SetOk.perm {H : Hp} {L : List (Addr × List Int)} {ks : List (List Int)} (x : SetOk H L ks) : (L.map (·.2)).Perm (dd ks) := (List.perm_ext_iff_of_nodup x.nd (dd_nodup ks)).mpr fun k => by rw [x.iff, mem_dd]
/-- sorted({E for .. in it if T}) -/
def mSortSetC (it : MI) (g : MG) (T : MT) (E : ME) (vs : List Nat) : ME := fun ρ S => (it ρ S).bind fun p => (lcL g T E vs ρ p.1 p.2).bind fun r => (wsT r.1).bind fun ks => if ks.length < 62 ∧ sortable (ks.map cI) = true then some (.d (.list (sortT (dd ks))), r.2) else none
section
end
section
end
end DL
end
noncomputable section
namespace DL
open PySem PySem.Spec PyProof.Rows L2
/-- sorted(set(x)) -/
def mSortSet (A : ME) : ME := fun ρ S => (A ρ S).bind fun p => (seqOf p.2 p.1).bind fun ds => (tupsP ds).bind fun ks => if ks.length < 62 ∧ sortable (ks.map cI) = true then some (.d (.list (sortT (dd ks))), p.2) else none
end DL
end
noncomputable section
namespace DL
open PySem PySem.Spec PyProof.Rows L2
/-- x[y] = z, whatever x is -/
def setX : W → W → W → Sto → Option Sto := fun x y z S => if isN S x = true then nputF x y z S else if isDic S x = true then dputF x y z S else setF x y z S
section
end
/-- sorted of a tuple, as data -/
def sortedTD := on1 fun w S => match w with
  | .d (.tuple ds) => (ofPs ds).bind fun cs => if sortable cs = true then some (.d (.list (toPs (sortC cs))), S) else none
  | _ => none
def isTupD : W → Bool
  | .d (.tuple _) => true
  | _ => false
/-- sorted(x), whatever x is -/
def isDicN (S : Sto) (x : W) : Bool := isN S x || isDicA S x
def sortedA : List W → Sto → Option (W × Sto) := fun ws S => match ws with
  | [w] => if isDicN S w = true then sortedKX [w] S else if isTupD w = true then sortedTD [w] S else sortedD [w] S
  | _ => none
section
variable {X : Cx} {e a b c : Expr} {pos : Pos} {A B C : ME}
theorem set_X {k : Nat} (hr : Room k X.A) : PSet X (rSet τ X.K setX) := by
  intro pins s σ H o i v ov iv u Q I ro ri rv h
  obtain ⟨m, S, ρ, σ', wo, wi, wv, S', q, h1, h2, h3, e, p⟩ := h
  unfold setX at e
  split at e
  · exact set_nest hr pins s σ H o i v ov iv u Q I ro ri rv ⟨m, S, ρ, σ', wo, wi, wv, S', q, h1, h2, h3, e, p⟩
  · split at e
    · exact set_dict hr pins s σ H o i v ov iv u Q I ro ri rv ⟨m, S, ρ, σ', wo, wi, wv, S', q, h1, h2, h3, e, p⟩
    · exact set_D pins s σ H o i v ov iv u Q I ro ri rv ⟨m, S, ρ, σ', wo, wi, wv, S', q, h1, h2, h3, e, p⟩
/-- {} whose keys will be tuples -/
def mNewT : ME := fun _ S => some (.loc S.length, S ++ [.dicT []])
theorem de_newT : PE X (.Dict [] [] pos) (rdE τ X.K mNewT) := wkE pe_dnewT fun σ H Q h => by
  obtain ⟨m, S, ρ, w, S', q, e, p⟩ := h
  cases e
  intro t ht
  have q2 := q.push (ob := .dicT []) (upd_keeps ht) ht ⟨[], upd_same, .nil⟩
  refine p [t] _ _ (fun b hb => by rw [List.mem_singleton.mp hb]; exact ht) q2 (Fr.of (upd_keeps ht)) ⟨t, ?_, rfl⟩
  rw [← q.len, List.getElem?_append_right (Nat.le_refl _)]; simp
end
/-- a, b, c = x, y, z with plain local names -/
def sPar3 (i j l : Nat) (R : MA) : MS := fun ρ S => (R ρ S).bind fun p => match p.1 with
  | [w, u, z] => if i < ρ.length ∧ j < ρ.length ∧ l < ρ.length then some (.nx, ((ρ.set i (some w)).set j (some u)).set l (some z), p.2) else none
  | _ => none
/-- a, b, .. = x, y, .. by way of a tuple, whatever its members are -/
def sTupA (n : Nat) (gs : MGs) (R : MA) : MS := fun ρ S => (R ρ S).bind fun p => if p.1.length = n ∧ n ≤ sizeLine then (gs p.1 ρ p.2).bind fun q => some (.nx, q.1, q.2) else none
theorem ds_tupA {X : Cx} {n : Nat} {gs : MGs} {R : MA} {ts es : List Expr} {k1 k2} {p1 p2 pos : Pos} {vis : List Nat} (hc : X.calm = true) (ha : PA X es (rdA τ X.K R)) (hg : PGs X ts (rdGs τ X.K vis gs)) (hn : (assignEach ts X.env).length = n := by rfl) (hst : (assignEach ts X.env).findIdx? (·.1) = none := by rfl)
    (hs : swapsWithSole [.Tuple ts k1 p1] (.Tuple es k2 p2) pos.line X.env = pure false := by rfl) (hw : swappedStores [.Tuple ts k1 p1] (.Tuple es k2 p2) X.env = pure none := by rfl)
    (h1 : (assignEach [.Tuple ts k1 p1] X.env).map (·.2) = [assign (.Tuple ts k1 p1) X.env] := by rfl) : PS X (.Assign [.Tuple ts k1 p1] (.Tuple es k2 p2) pos) (rdS τ X.K (sTupA n gs R)) :=
  wkS (ps_asg (pe_tup ha) (pg_tup hc hg hn hst) hs hw h1) fun D σ H q => by
    obtain ⟨m, S, ρ, fl, ρ', S', q, e, p⟩ := q
    obtain ⟨⟨ws, S1⟩, e1, e2⟩ := Option.bind_eq_some_iff.mp e
    split at e2
    · rename_i hl
      obtain ⟨⟨ρ2, S2⟩, e3, e4⟩ := Option.bind_eq_some_iff.mp e2
      cases e4
      refine ⟨m, S, ρ, ws, S1, q, e1, fun ext H1 vs f q1 fr r => ⟨by rw [r.length, hl.1]; exact hl.2, fun t ht => ⟨t, vs, rfl, .inl (.of upd_same), by rw [r.length]; exact hl.1, ?_⟩⟩⟩
      have keep := upd_keeps (o := HO.tup vs) ht
      have p1 := (p.at f q1 fr)
      refine ⟨m ++ ext, S1, ρ, ws, ρ2, S2, q1.same keep, Paired.mapP r fun _ _ z => z.mono0 (upd_kp ht), e3, fun ext2 σ2 H2 hv f2 q2 fr2 => ?_⟩
      have f2' : Fresh ext2 H1 := fresh_old f2 keep
      have fr2' : Fr (m ++ ext) H1 H2 := Fr.pre keep fr2
      exact (p1.at f2' q2 fr2').now q2
    · cases e2
end DL
end
noncomputable section
namespace DL
open PySem PySem.Spec PyProof.Rows L2
/-- the object of slot i locked ahead of F: from now on it is data -/
def sFz (i : Nat) (F : MS) : MS := fun ρ S => match ρ[i]? with
  | some (some (.loc j)) => (S[j]?).bind fun o => (frzO o).bind fun d => F (ρ.set i (some (.d d))) (S.set j .dead)
  | _ => none
/-- an object of the store, locked in the heap -/
theorem lock_ob {K : PySem.W.Frag} {m : List Addr} {S : Sto} {ρ : DEnv} {σ : L2.St} {H : Hp} {j : Nat} {a : Addr} {ob : Ob} {d : PyData} (q : Sim τ K m S ρ σ H) (ha : m[j]? = some a) (hj : S[j]? = some ob) (e3 : frzO ob = some d) :
    ∃ u : HO, H a = some u ∧ Ow u ∧ Mut (some u) ∧ ∀ o, Rp K (upd H a (.frz o u)) (.ref a) d := by
  obtain ⟨a2, ha2, ro⟩ := q.obs j _ hj
  rw [ha] at ha2; cases ha2
  cases ob with
  | lst ws =>
    obtain ⟨ds, e5, rfl⟩ := Option.map_eq_some_iff.mp e3
    obtain ⟨vs, hv, pr⟩ := ro
    exact ⟨_, hv, ⟨fun z => z, fun _ _ z => nomatch z⟩, trivial, fun o => Rp.lst (.inl ⟨o, upd_same⟩) (RpAll.mono (put_kp hv) _ _ (allD_of e5 pr))⟩
  | dicT kvs =>
    obtain ⟨e3n, e3⟩ := frzO_T e3
    obtain ⟨ds, e5, rfl⟩ := Option.map_eq_some_iff.mp e3
    obtain ⟨us, hv, pr⟩ := ro
    have hl := allD_len e5
    have hz := zip_fst (l := kvs.map fun q => PyData.tuple (q.1.map keyP)) (r := ds) (by rw [hl, List.length_map, List.length_map])
    refine ⟨_, hv, ⟨fun z => z, fun _ _ z => nomatch z⟩, trivial, fun o => Rp.dicT (o := o) upd_same (hz.1.trans ?_) (keys_ne (tab_keys pr) e3n) (by rw [hz.2]; exact RpAll.mono (putD_kp hv fun z => z) _ _ (allD_of e5 (paired_vals pr)))⟩
    have := tab_keys pr
    rw [show (kvs.map fun q => PyData.tuple (q.1.map keyP)) = (kvs.map (·.1)).map fun k => PyData.tuple (k.map keyP) by rw [List.map_map]; rfl, ← this, List.map_map]; rfl
  | dicK kvs =>
    simp only [frzO] at e3
    split at e3
    · cases e3
    · rename_i hne
      obtain ⟨ds, e5, rfl⟩ := Option.map_eq_some_iff.mp e3
      obtain ⟨us, hv, pr⟩ := ro
      have hl := allD_len e5
      have hz := zip_fst (l := kvs.map fun q => keyP q.1) (r := ds) (by rw [hl, List.length_map, List.length_map])
      refine ⟨_, hv, ⟨fun z => z, fun _ _ z => nomatch z⟩, trivial, fun o => Rp.dicK (o := o) upd_same (fun z => ?_) (hz.1.trans ?_) (by rw [hz.2]; exact RpAll.mono (putD_kp hv fun z => z) _ _ (allD_of e5 (paired_vals pr)))⟩
      · subst z
        cases pr
        exact hne rfl
      · have := tab_keys pr
        rw [show (kvs.map fun q => keyP q.1) = (kvs.map (·.1)).map keyP by rw [List.map_map]; rfl, ← this, List.map_map]; rfl
  | dicN _ => cases e3
  | dead => cases e3
theorem ds_fz {X : Cx} {st : Stmt} {i : Nat} {F : MS} (h : PS X st (rdS τ X.K F)) : PS X st (rdS τ X.K (sFz i F)) := by
  refine ⟨fun p s σ H D I q => ?_⟩
  obtain ⟨m, S, ρ, fl, ρ', S', q, e, ps⟩ := q
  unfold sFz at e
  split at e
  · rename_i j hi
    obtain ⟨ob, hj, e⟩ := Option.bind_eq_some_iff.mp e
    obtain ⟨d, e3, e4⟩ := Option.bind_eq_some_iff.mp e
    obtain ⟨v, hv, a, ha, rfl⟩ := q.slot i _ hi
    obtain ⟨u, hu, ni, mu, rp⟩ := lock_ob q ha hj e3
    obtain ⟨o, I2⟩ := I.lock hu mu
    have hn := (List.getElem?_eq_some_iff.mp hj).1
    have q2 := q.put (ob := .dead) (o := .frz o u) ha (fun z h => by rw [hu] at h; cases h; exact ni.1) hn ⟨_, upd_same⟩
    have q3 := q2.slotset (i := i) (w := .d d) (v := .ref a) (rp o)
    have hs : σ.set i (some (V.ref a)) = σ := by
      apply List.ext_getElem?
      intro k
      by_cases hk : i = k
      · subst hk
        rw [List.getElem?_set_self (List.getElem?_eq_some_iff.mp hv).1, hv]
      · rw [List.getElem?_set_ne hk]
    rw [hs] at q3
    have q4 := ps.at (ext := []) (fun _ h => absurd h (by simp)) (by rw [List.append_nil]; exact q3) (putD_fr ha hu (imm_fix ni.1))
    rw [List.append_nil] at q4
    exact h.run p s σ _ D I2 ⟨m, _, _, fl, ρ', S', q3, e4, q4⟩
  · cases e
def iSeqK (A : ME) : MI := fun ρ S => (A ρ S).bind fun p => match p.1 with
  | .d (.list ds) => some (ds.map W.d, p.2)
  | .d (.tuple ds) => some (ds.map W.d, p.2)
  | .d (.dict ds) => some ((ds.map fun q => q.1).map W.d, p.2)
  | _ => none
section
variable {X : Cx} {tg e a b c : Expr} {A B C : ME}
theorem rp_keyJ {K : PySem.W.Frag} {H : Hp} (k : Key) : Rp K H (kV k) (keyP k) := by
  cases k with
  | inl i => exact .int i
  | inr x => exact .str x
theorem rp_keysJ {K : PySem.W.Frag} {H : Hp} : ∀ ks : List Key, RpAll K H (ks.map kV) (ks.map keyP)
  | [] => .nil
  | k :: ks => .cons (rp_keyJ k) (rp_keysJ ks)
theorem di_seqK (h : PE X e (rdE τ X.K A)) : PI X tg e (rdI τ X.K (iSeqK A)) := by
  refine ⟨fun pins s σ H R I q => ?_⟩
  obtain ⟨m, S, ρ, ws, S', q, e1, p⟩ := q
  obtain ⟨⟨wx, S1⟩, e2, e3⟩ := Option.bind_eq_some_iff.mp e1
  have h2 : rdE τ X.K A σ H fun x H1 => ∃ a, x = .ref a ∧ ((∃ xs ds, (FzL X.K H1 a xs ∨ SqT X.K H1 a xs) ∧ RpAll X.K H1 xs ds ∧ ∀ J, (∀ m, Yl τ X.K m J (ds.map W.d) H1) → R J H1) ∨
      (∃ o us ds, H1 a = some (.frz o (.dT us)) ∧ ds = (us.map fun q => PyData.tuple (q.1.map keyP)) ∧ (∀ u ∈ us, u.1 ≠ []) ∧ ∀ J, (∀ m, Yl τ X.K m J (ds.map W.d) H1) → R J H1) ∨
      ∃ o us ds, H1 a = some (.frz o (.dK us)) ∧ ds = (us.map fun q => keyP q.1) ∧ ∀ J, (∀ m, Yl τ X.K m J (ds.map W.d) H1) → R J H1) := by
    refine ⟨m, S, ρ, wx, S1, q, e2, fun ext H1 x f q1 fr r => ?_⟩
    simp only at e3
    split at e3
    · cases e3
      obtain ⟨a, xs, rfl, h, r1⟩ := rp_lst r
      exact ⟨a, rfl, .inl ⟨xs, _, .inl h, r1, fun J y => p ext J H1 f q1 fr (y _)⟩⟩
    · cases e3
      obtain ⟨a, xs, rfl, h, r1⟩ := rp_tup r
      exact ⟨a, rfl, .inl ⟨xs, _, .inr h, r1, fun J y => p ext J H1 f q1 fr (y _)⟩⟩
    · cases e3
      cases r with
      | dicT f0 ek nz rk => exact ⟨_, rfl, .inr (.inl ⟨_, _, _, f0, ek, nz, fun J y => p ext J H1 f q1 fr (y _)⟩)⟩
      | dicK f0 hne ek rk => exact ⟨_, rfl, .inr (.inr ⟨_, _, _, f0, ek, fun J y => p ext J H1 f q1 fr (y _)⟩)⟩
    · cases e3
  refine thn (h.run pins s σ H _ I h2) fun v s1 ⟨x, H1, I1, r1, a, ex, hq⟩ => ?_
  subst ex
  cases r1
  have grow : ∀ (o : Obj) b u, s1.heap.get? b = some u → (s1.heap.push o).get? b = some u := fun o b u z => Heap.get?_push_of_some _ z
  have here : ∀ b, b ∈ [s1.heap.objs.size] → FpOk X pins H1 b := fun b hb => by
    have z : b = s1.heap.objs.size := by simpa using hb
    subst z
    exact I1.fpOk (Nat.le_refl _) (I1.hok.fresh (Nat.le_refl _))
  rcases hq with ⟨xs, ds, hq, rp, k⟩ | ⟨o, us, ds, hq, rfl, nz, k⟩ | ⟨o, us, ds, hq, rfl, k⟩
  · rcases hq with hq | hq
    · obtain ⟨its, rv, pl, hz⟩ := I1.list hq.sq
      refine wpAny_pyIter_list pl.isList ⟨s1.heap.objs.size, [s1.heap.objs.size], _, _, H1, rfl, I1.kept (t' := s1.toks) (grow _), turn_list a _, ⟨_, Heap.get?_push_size _ rfl, rfl, rfl⟩, here, k _ fun m => ?_⟩
      refine yl_of (by rw [List.length_map, ← rp.length]; exact walk_list) (fun H' kp => (hq.mono kp).sq) fun i H' x H'' w ew kp y => ?_
      obtain ⟨rfl, hx⟩ := y
      exact ⟨fun _ _ z => z, rpAll_getV (RpAll.mono kp _ _ rp) hx ew⟩
    · obtain ⟨its, rv, pl, hz⟩ := I1.tuple hq
      refine wpAny_pyIter_tuple (show s1.heap.IsTuple a its.toArray from pl) ⟨s1.heap.objs.size, [s1.heap.objs.size], _, _, H1, rfl, I1.kept (t' := s1.toks) (grow _), turn_tuple a _, ⟨_, Heap.get?_push_size _ rfl, rfl, rfl⟩, here, k _ fun m => ?_⟩
      refine yl_of (by rw [List.length_map, ← rp.length]; exact walk_tup) (fun H' kp => sqT_mono hq kp) fun i H' x H'' w ew kp y => ?_
      obtain ⟨rfl, hx⟩ := y
      exact ⟨fun _ _ z => z, rpAll_getV (RpAll.mono kp _ _ rp) hx ew⟩
  · obtain ⟨hs, hgd, hx, es, ep, hdt, hsz, ent⟩ := I1.frzT hq
    refine iter_keys hs hgd hx hdt (pi_one (tk := s1.toks) I1 _ (turn_keysT (d := a) (kvs := us) _ hdt) ⟨_, Heap.get?_push_size _ rfl, rfl, ?_⟩ (k _ fun m => ?_))
    · rw [hsz] <;> rfl
    · refine yl_of (by rw [List.length_map, List.length_map]; exact walk_keysT) (fun H' kp => kp _ _ hq trivial) fun i H' x H'' w ew kp y => ?_
      obtain ⟨rfl, kk, v, qa, e5, rfl, e6⟩ := y
      refine ⟨fun _ _ z => z, ?_⟩
      simp only [List.getElem?_map, Option.map_eq_some_iff] at ew
      obtain ⟨_, ⟨u, hu, rfl⟩, rfl⟩ := ew
      rw [hu] at e5; cases e5
      exact Rp.tup e6 (keys_rul (nz _ (List.mem_of_getElem? hu))) (rp_keysJ _)
  · obtain ⟨hs, hgd, hx, es, ep, vs, hdt, hsz, kv, hm⟩ := I1.frzK hq
    refine iter_keys hs hgd hx hdt (pi_one (tk := s1.toks) I1 _ (turn_keys (d := a) (kvs := us) _ hdt) ⟨_, Heap.get?_push_size _ rfl, rfl, ?_⟩ (k _ fun m => ?_))
    · rw [hsz] <;> rfl
    · refine yl_of (by rw [List.length_map, List.length_map]; exact walk_keys) (fun H' kp => kp _ _ hq trivial) fun i H' x H'' w ew kp y => ?_
      obtain ⟨rfl, kk, v, e5, rfl⟩ := y
      refine ⟨fun _ _ z => z, ?_⟩
      simp only [List.getElem?_map, Option.map_eq_some_iff] at ew
      obtain ⟨_, ⟨u, hu, rfl⟩, rfl⟩ := ew
      rw [hu] at e5; cases e5
      exact rp_keyJ kk
def len0X (S : Sto) : W → Option Nat
  | .d (.dict ds) => some ds.length
  | .loc n => match S[n]? with
    | some (.lst ws) => some ws.length
    | some (.dicT kvs) => some kvs.length
    | some (.dicK kvs) => some kvs.length
    | _ => none
  | w => len0 S w
def lenX := on1 fun w S => (len0X S w).map fun n => (.d (.int (n : Nat)), S)
theorem len_T {pins : List (Addr × Obj)} {σ : L2.St} {H : Hp} {s : Shared} {a : Addr} {kvs : List (List Key × V)} {Q : VK} (I : Inv X pins σ H s) (h : Rd H a (.dT kvs)) (q : Q (.int ((kvs.length : Nat) : Int)) H) :
    wpAny (model X.prog X.w) X.A (call (.builtin "len") [.ref a]) (EP X pins σ Q) X.xe s := by
  obtain ⟨z, hd, ys, rel, dd⟩ := dt_rd I.hok h
  have hl : kvs.length = ys.length := Paired.length rel
  refine call_len_dictH hd dd (by rw [← hl]; rw [sizeLine_eq] at z; omega) ?_
  rw [← hl]
  exact ⟨.int ((kvs.length : Nat) : Int), H, I.tok _, ⟨_, rfl⟩, q⟩
theorem len_K {pins : List (Addr × Obj)} {σ : L2.St} {H : Hp} {s : Shared} {a : Addr} {kvs : List (Key × V)} {Q : VK} (I : Inv X pins σ H s) (h : Rd H a (.dK kvs)) (q : Q (.int ((kvs.length : Nat) : Int)) H) :
    wpAny (model X.prog X.w) X.A (call (.builtin "len") [.ref a]) (EP X pins σ Q) X.xe s :=
  d_len I h fun t s' I' => ⟨.int ((kvs.length : Nat) : Int), H, I', ⟨_, rfl⟩, q⟩
theorem call_lenX : CallR X (.builtin "len") (rC τ X.K lenX) := by
  intro pins s σ H vs us Q I rx h
  obtain ⟨m, S, ρ, σ', w0, w, S', v, rfl, q, r, e, p⟩ := rC1 h
  obtain ⟨n, e1, e2⟩ := Option.map_eq_some_iff.mp e
  cases e2
  have old : len0 S w0 = some n → wpAny (model X.prog X.w) X.A (call (.builtin "len") us) (EP X pins σ Q) X.xe s := fun e0 =>
    call_lenDD pins s σ H _ us Q I rx ⟨m, S, ρ, σ', _, _, _, q, .cons r .nil, by show (len0 S w0).map _ = _; rw [e0]; rfl, p⟩
  have fin := p.now q (.int _)
  unfold len0X at e1
  split at e1
  · cases e1
    cases rx with
    | cons r1 t =>
      cases t
      cases r with
      | dicT f ek nz rk =>
        cases r1
        have hl := congrArg List.length ek
        rw [List.length_map, List.length_map] at hl
        exact len_T I (.inr ⟨_, f⟩) (by rw [← hl]; exact fin)
      | dicK f hne ek rk =>
        cases r1
        have hl := congrArg List.length ek
        rw [List.length_map, List.length_map] at hl
        exact len_K I (.inr ⟨_, f⟩) (by rw [← hl]; exact fin)
  · obtain ⟨a, hm, rfl⟩ := r
    cases rx with
    | cons r1 t =>
      cases t
      cases r1
      split at e1
      · rename_i ws hs
        refine old ?_
        simp only [len0, hs]; exact e1
      · rename_i kvs hs
        cases e1
        obtain ⟨b, hb, us, hv, pr⟩ := q.obs _ _ hs
        rw [hm] at hb; cases hb
        exact len_T I (.of hv) (by rw [Paired.length pr]; exact fin)
      · rename_i kvs hs
        cases e1
        obtain ⟨b, hb, us, hv, pr⟩ := q.obs _ _ hs
        rw [hm] at hb; cases hb
        exact len_K I (.of hv) (by rw [Paired.length pr]; exact fin)
      · cases e1
  · exact old e1
def mGetX1 (A B : ME) : ME := fun ρ S => (A ρ S).bind fun p => if isDicA p.2 p.1 = true then (B ρ p.2).bind fun q => (dlookA q.2 p.1 q.1).map fun o => (o.getD (.d .none), q.2) else none
def mGetX2 (A B C : ME) : ME := fun ρ S => (A ρ S).bind fun p => if isDicA p.2 p.1 = true then (B ρ p.2).bind fun q => (C ρ q.2).bind fun r => (dlookA r.2 p.1 q.1).map fun o => (o.getD r.1, r.2) else none
def inZ (neg : Bool) : W → W → Sto → Option (W × Sto) := fun x y S => if isN S y = true then (nlook S y x).map fun o => (.d (.bool (o.isSome ^^ neg)), S) else inX neg x y S
def rngN (lo : Int) (n : Nat) : List W := (List.range n).map fun i => W.d (.int (lo - (i : Nat)))
def rng3D (ws : List W) (S : Sto) : Option (List W × Sto) := match ws with
  | [.d (.int i), .d (.int j), .d (.int (-1))] => if (i.toNat < 2 ^ 61 ∧ (-i).toNat < 2 ^ 61) ∧ j.toNat < 2 ^ 61 ∧ (-j).toNat < 2 ^ 61 then some (rngN i (i - j).toNat, S) else none
  | _ => none
def iRng3D (R : MA) : MI := fun ρ S => (R ρ S).bind fun p => rng3D p.1 p.2
end
end DL
end
noncomputable section
namespace DL
open PySem PySem.Spec PyProof.Rows L2 StX
section
variable {X : Cx} {e : Expr} {es : List Expr} {A : ME} {R : MA} {p : Pos}
/-- *e, .. -/
def mStar (A : ME) (R : MA) : MA := fun ρ S => (A ρ S).bind fun p => (seqOf p.2 p.1).bind fun ds => (R ρ p.2).bind fun q => some (ds.map W.d ++ q.1, q.2)
end
section
variable {X : Cx}
def cmpX (g : PyData → PyData → Bool) : W → W → Sto → Option (W × Sto) := fun x y S => match x, y with
  | .d d, .d e => if (PySem.W.alike d e && !d.hasDict && !e.hasDict && !isNon d && decide (d.depth ≤ 60)) = true then some (.d (.bool (g d e)), S) else none
  | _, _ => none
def ltX := cmpX fun d e => PySem.W.dataLt d e
def gtX := cmpX fun d e => PySem.W.dataLt e d
def leX := cmpX fun d e => !PySem.W.dataLt e d
def geX := cmpX fun d e => !PySem.W.dataLt d e
theorem cmpX_of {g : PyData → PyData → Bool} {op : CmpOp} {k : Nat} (hr : Room k X.A)
    (ax : ∀ {s : Shared} {a b : Value} {da db : PyData} {as bs : List Addr} {Q : Value → Shared → Prop} {E : Value → Shared → Prop}, Reads s.heap a da as → Reads s.heap b db bs → PySem.W.alike da db = true → da ≠ .none → X.A.units + min da.depth db.depth < cLine → Q (.bool (g da db)) s → wpAny (model X.prog X.w) X.A (compareOp op a b) Q E s) :
    OpR X (compareOp op) (rOp τ X.K (cmpX g)) := by
  intro pins s σ H x y v u Q I rx ry h
  obtain ⟨m, S, ρ, σ', wx, wy, w, S', q, hx, hy, e, p⟩ := h
  unfold cmpX at e
  split at e
  · rename_i d d2
    split at e
    · rename_i hk
      simp only [Bool.and_eq_true, Bool.not_eq_true', decide_eq_true_eq] at hk
      obtain ⟨⟨⟨⟨h1, h2⟩, h3⟩, h4⟩, h5⟩ := hk
      cases e
      obtain ⟨as, r1⟩ := Dp.reads I _ x v (Rp.dp _ _ h2 hx) rx
      obtain ⟨bs, r2⟩ := Dp.reads I _ y u (Rp.dp _ _ h3 hy) ry
      refine ax r1 r2 h1 (fun z => by subst z; cases h4) (by have := hr.un; have := Nat.min_le_left d.depth d2.depth; omega) ⟨.bl _, H, I, rfl, p.now q (.bl _)⟩
    · cases e
  · cases e
theorem op_ltX {k : Nat} (hr : Room k X.A) : OpR X (compareOp .Lt) (rOp τ X.K ltX) := cmpX_of hr fun h1 h2 h3 h4 h5 h6 => PySem.W.lt_data h1 h2 h3 h4 h5 h6
theorem op_gtX {k : Nat} (hr : Room k X.A) : OpR X (compareOp .Gt) (rOp τ X.K gtX) := cmpX_of hr fun h1 h2 h3 h4 h5 h6 => PySem.W.gt_data h1 h2 h3 h4 h5 h6
theorem ev_ltX {i j : Int} {S : Sto} : ltX (.d (.int i)) (.d (.int j)) S = some (.d (.bool (decide (i < j))), S) := by simp [ltX, cmpX, PySem.W.alike, PyData.hasDict, isNon, PyData.depth, PySem.W.dataLt_int]
theorem ev_gtX {i j : Int} {S : Sto} : gtX (.d (.int i)) (.d (.int j)) S = some (.d (.bool (decide (j < i))), S) := by simp [gtX, cmpX, PySem.W.alike, PyData.hasDict, isNon, PyData.depth, PySem.W.dataLt_int]
theorem ev_leX {i j : Int} {S : Sto} : leX (.d (.int i)) (.d (.int j)) S = some (.d (.bool (decide (i ≤ j))), S) := by
  have : (!decide (j < i)) = decide (i ≤ j) := by by_cases h : j < i <;> simp [h] <;> omega
  simp [leX, cmpX, PySem.W.alike, PyData.hasDict, isNon, PyData.depth, PySem.W.dataLt_int, this]
theorem ev_geX {i j : Int} {S : Sto} : geX (.d (.int i)) (.d (.int j)) S = some (.d (.bool (decide (j ≤ i))), S) := by
  have : (!decide (i < j)) = decide (j ≤ i) := by by_cases h : i < j <;> simp [h] <;> omega
  simp [geX, cmpX, PySem.W.alike, PyData.hasDict, isNon, PyData.depth, PySem.W.dataLt_int, this]
end
/-- nothing is promised -/
theorem fnNone {P : Program} {w : World} {K : PySem.W.Frag} {mg : Str → Option Value} {base : Heap} {k n : Nat} {f : Addr} {fd : FuncData} {ps : List Str} : FnG P w K mg base k f fd ps (spD τ K n fun _ _ => none) :=
  ⟨fun _ _ _ _ ⟨_, _, _, _, _, _, _, _, e, _⟩ => (by cases e), fun _ _ _ _ _ _ _ _ _ _ _ _ _ _ ⟨_, _, _, _, _, _, _, _, e, _⟩ => (by cases e)⟩
end DL
end
noncomputable section
namespace DL
open PySem PySem.Spec PyProof.Rows L2
def zipF : List PyData → List PyData → List W
  | d :: ds, e :: es => .d (.tuple [d, e]) :: zipF ds es
  | _, _ => []
theorem zipF_get : ∀ {ds es : List PyData} {i : Nat} {w : W}, (zipF ds es)[i]? = some w → ∃ d e, ds[i]? = some d ∧ es[i]? = some e ∧ w = .d (.tuple [d, e])
  | [], _, _, _, h => by simp [zipF] at h
  | _ :: _, [], _, _, h => by simp [zipF] at h
  | d :: ds, e :: es, 0, w, h => by
    simp only [zipF, List.getElem?_cons_zero, Option.some.injEq] at h
    exact ⟨d, e, rfl, rfl, h.symm⟩
  | d :: ds, e :: es, i + 1, w, h => by
    simp only [zipF, List.getElem?_cons_succ] at h
    obtain ⟨d', e', h1, h2, h3⟩ := zipF_get h
    exact ⟨d', e', by simpa using h1, by simpa using h2, h3⟩
theorem zipF_len : ∀ (ds es : List PyData), (zipF ds es).length = min ds.length es.length
  | [], es => by simp [zipF]
  | _ :: _, [] => by simp [zipF]
  | d :: ds, e :: es => by simp [zipF, zipF_len ds es, Nat.succ_min_succ]
theorem zip_rul {ds es : List PyData} {i : Nat} {d e : PyData} (h : ((ds.zip es).all fun q => !ruly [q.1, q.2]) = true) (hd : ds[i]? = some d) (he : es[i]? = some e) : ruly [d, e] = false := by
  have hm : (d, e) ∈ ds.zip es := by
    refine List.mem_of_getElem? (i := i) ?_
    rw [List.getElem?_zip_eq_some]
    exact ⟨hd, he⟩
  have := List.all_eq_true.mp h _ hm
  simpa using this
/-- zip(t, u) of two tuples -/
def iZipD (R : MA) : MI := fun ρ S => (R ρ S).bind fun p => match p.1 with
  | [.d (.tuple ds), .d (.tuple es)] => if ((ds.zip es).all fun q => !ruly [q.1, q.2]) = true then some (zipF ds es, p.2) else none
  | _ => none
theorem di_zipT {X : Cx} {e e2 : Expr} {p pos tpos : Pos} {elts : List Expr} {kk : Nat} {R : MA} (hg : Gl X "zip") (hm : X.mg "zip" = none) (ha : PA X [e, e2] (rdA τ X.K R))
    (hs : starEach [e, e2] X.env = (false, eval e X.env) :: starEach [e2] X.env := by rfl) (hpl : (backTo pos (starEach [e2] X.env)).any (·.1) = false := by rfl) :
    PI X (.Tuple elts kk tpos) (.Call (.Name "zip" p) [e, e2] [] pos) (rdI τ X.K (iZipD R)) := by
  refine ⟨fun pins s σ H R' I h => ?_⟩
  obtain ⟨m, S, ρ, ws, S', q, e1, p'⟩ := h
  obtain ⟨⟨us, S1⟩, e2', e3⟩ := Option.bind_eq_some_iff.mp e1
  refine (RZ.pi_zipA hg hm ha hs hpl).run pins s σ H R' I ?_
  refine ⟨m, S, ρ, us, S1, q, e2', fun ext H1 vs f q1 fr r => ?_⟩
  simp only at e3
  split at e3
  · rename_i ds es
    split at e3
    case isFalse => cases e3
    rename_i hru
    cases e3
    obtain ⟨v, v', rfl, rv, rv'⟩ := prd2 r
    obtain ⟨a, xs, rfl, h1, r1⟩ := rp_tup rv
    obtain ⟨b, ys, rfl, h2, r2⟩ := rp_tup rv'
    refine ⟨a, b, xs, ys, rfl, .inr ⟨h1, h2, ?_⟩⟩
    refine p' ext _ H1 f q1 fr ⟨?_, ?_, ?_⟩
    · intro i H' hi kp
      rw [zipF_len] at hi
      have hx : i < xs.length := by rw [r1.length]; omega
      have hy : i < ys.length := by rw [r2.length]; omega
      exact ⟨xs, ys, xs[i], ys[i], sqT_mono h1 kp, sqT_mono h2 kp, List.getElem?_eq_getElem hx, List.getElem?_eq_getElem hy⟩
    · intro H' kp
      refine ⟨xs, ys, sqT_mono h1 kp, sqT_mono h2 kp, ?_⟩
      rw [zipF_len, r1.length, r2.length]
      omega
    · rintro i H' x H'' w ew kp ⟨T, y, z, rfl, hT, rfl, hy, hz⟩
      obtain ⟨d, d', hd, hd', rfl⟩ := zipF_get ew
      obtain ⟨v, hv, rd⟩ := r1.get hd
      obtain ⟨v', hv', rd'⟩ := r2.get hd'
      have e := hy xs (sqT_mono h1 kp)
      rw [hv] at e
      cases e
      have e' := hz ys (sqT_mono h2 kp)
      rw [hv'] at e'
      cases e'
      have kk := upd_kp (o := HO.tup [y, z]) hT
      refine ⟨upd_keeps hT, Rp.tup upd_same (zip_rul hru hd hd') ?_⟩
      exact .cons (Rp.mono kk _ _ (Rp.mono kp _ _ rd)) (.cons (Rp.mono kk _ _ (Rp.mono kp _ _ rd')) .nil)
  · cases e3
end DL
end
noncomputable section
namespace DL
open PySem PySem.Spec PyProof.Rows L2
def tyD : PyData → Option String
  | .none => some "NoneType"
  | .bool _ => some "bool"
  | .int _ => some "int"
  | .str _ => some "str"
  | .list _ => some "list"
  | .tuple _ => some "tuple"
  | .dict _ => none
def isiT (a T : String) : Bool := decide (a = T) || (decide (a = "bool") && decide (T = "int"))
def okTy (T : String) : Bool := ["int", "bool", "list", "tuple", "dict", "str"].contains T
def mIsi (T : String) (A : ME) : ME := fun ρ S => (A ρ S).bind fun p => match p.1 with
  | .d d => (tyD d).map fun a => (.d (.bool (isiT a T)), p.2)
  | .loc _ => none
  | .fn => none
theorem ty_rp {K : PySem.W.Frag} {H : Hp} {x : V} {d : PyData} {a : String} (r : Rp K H x d) (e : tyD d = some a) : TyX K H x (.type a) := by
  cases r with
  | non => cases e; exact .base .non
  | bl b => cases e; exact .base (.bl b)
  | int i => cases e; exact .base (.int i)
  | str y => cases e; exact .base (.str y)
  | lst f r =>
    cases e
    rcases f with ⟨o, h⟩ | ⟨h, _⟩
    · exact .base (.frz h)
    · rcases h with h | h
      · rcases h with h | ⟨o, h⟩ <;> cases h
      · obtain ⟨o, its, n, hk, hc, _⟩ := h
        exact .kList hk hc
  | tup h _ _ => cases e; exact .base (.tup h)
  | tupZ h _ _ _ => cases e; exact .fTuple h
  | dicT => cases e
  | dicK => cases e
section
variable {X : Cx}
def dictU : List W → Sto → Option (W × Sto) := fun ws S => match ws with
  | [.d (.tuple ds)] => if ruly ds = true then (pairsT ds).bind fun kvs => @ite _ ((kvs.map (·.1)).Nodup) (gd _) (some (.loc S.length, S ++ [.dicT kvs])) none else none
  | ws => dictP ws S
end
end DL
end
noncomputable section
namespace DL
open PySem PySem.Spec PyProof.Rows L2
section
end
def dropW (kvs : List (List Key × W)) (k : List Key) : List (List Key × W) := kvs.filter fun kv => decide (kv.1 ≠ k)
end DL
end
noncomputable section
namespace DL
open PySem PySem.Spec PyProof.Rows L2
def eraL (ρ : DEnv) : DEnv := ρ.map fun o => match o with
  | some (.loc _) => none
  | some .fn => none
  | o => o
def atomD : PyData → Bool
  | .none => true
  | .bool _ => true
  | .int _ => true
  | .str _ => true
  | _ => false
def borX (S : Sto) : W × Sto → Option (W × Sto) := fun r => match r.1 with
  | .d x => if atomD x = true then some (.d x, S) else none
  | .loc _ => none
  | .fn => none
def mBor (i : Nat) (A : ME) : ME := fun ρ S => match ρ[i]? with
  | some (some (.loc j)) => (S[j]?).bind fun o => (frzO o).bind fun d => (A ((eraL ρ).set i (some (.d d))) []).bind (borX S)
  | _ => A ρ S
end DL
end
noncomputable section
namespace DL
open PySem PySem.Spec PyProof.Rows L2
section
end
end DL
end
noncomputable section
namespace DL
open PySem PySem.Spec PyProof.Rows L2
def dLk (b : List (PyData × PyData)) (k : Option (List Key)) : Option PyData := (b.find? fun q => decide (keyTP q.1 = k)).map (·.2)
def dEq (a b : List (PyData × PyData)) : Bool := a.length == b.length && a.all fun p => match dLk b (keyTP p.1) with
  | some v => PyData.eqv p.2 v
  | none => false
def dOk (a : List (PyData × PyData)) : Bool := a.all fun p => (keyTP p.1).isSome && SeqAt.shaped p.2
section
end
/-- ==, of dicts too -/
def eqE (neg : Bool) : W → W → Sto → Option (W × Sto) := fun x y S => match x, y with
  | .d (.dict a), .d (.dict b) => if (dOk a && dOk b) = true then some (.d (.bool (dEq a b ^^ neg)), S) else none
  | _, _ => eqA neg x y S
section
end
end DL
end
noncomputable section
namespace DL
open PySem PySem.Spec PyProof.Rows L2
def intK (k : List Key) : Bool := k.all fun x => match x with
  | .inl _ => true
  | .inr _ => false
def keyHI : Key → Int
  | .inl i => hashInt i
  | .inr _ => 0
def hashT (k : List Key) : Int := reduceHash (Builtin.Tuple.tupleHashOf (k.map keyHI))
section
end
def keyT (d : PyData) : List Key := (keyTP d).getD []
def gUpd (kvs : List (List Key × W)) (ds : List (PyData × PyData)) : Prop :=
  (∀ q ∈ ds, (keyTP q.1).isSome = true) ∧ kvs.length + ds.length ≤ sizeLine ∧ (kvs ≠ [] ∨ ((∀ q ∈ ds, intK (keyT q.1) = true) ∧ (ds.map fun q => hashT (keyT q.1)).Nodup))
def updT (n : Nat) (ds : List (PyData × PyData)) (S : Sto) : Option (W × Sto) := match S[n]? with
  | some (.dicT kvs) => @ite _ (gUpd kvs ds) (gd _) (some (.d .none, S.set n (.dicT (ds.foldl (fun l q => putW l (keyT q.1) (.d q.2)) kvs)))) none
  | _ => none
def updX (n : Nat) (p : W × Sto) : Option (W × Sto) := match p.1 with
  | .d (.dict ds) => updT n ds p.2
  | _ => none
def mUpdD (A B : ME) : ME := fun ρ S => (A ρ S).bind fun p => match p.1 with
  | .loc n => if isDic p.2 (.loc n) = true then (B ρ p.2).bind (updX n) else none
  | .d _ => none
  | .fn => none
end DL
end
noncomputable section
namespace DL
open PySem PySem.Spec PyProof.Rows L2
section
end
def dShow (ds : List (PyData × PyData)) : Bool := dOk ds && (PyData.dict ds).showable && decide ((PyData.dict ds).depth ≤ 60) && decide ((PyData.dict ds).shown.length ≤ sizeLine)
def reprX (w : W) (S : Sto) : Option (W × Sto) := match w with
  | .d (.dict ds) => if dShow ds = true then some (.d (.str (PyData.dict ds).shown), S) else none
  | w => reprD [w] S
def reprE := on1 reprX
end DL
end
noncomputable section
namespace DL
open PySem PySem.Spec PyProof.Rows L2
section
variable {P : Program} {w : World} {κ : Type} [DecidableEq κ]
/-- what a set asks of a kind of keys -/
structure SetK (kd : HeapKind P w κ) : Prop where
  st : kd.Stays
  cls : ∀ {A : Around} {E : Value → Shared → Prop} {s : Shared} {k : κ} {b : Addr} {Q : Bool → Shared → Prop}, kd.is s.heap k b → Q false s → wpAny (model P w) A (ofAClassStatement 8 (.ref b)) Q E s
  byv : ∀ {A : Around} {E : Value → Shared → Prop} {s : Shared} {k : κ} {b : Addr} {Q : Bool → Shared → Prop}, kd.is s.heap k b → Q true s → wpAny (model P w) A (hashByValue 8 (.ref b)) Q E s
variable {kd : HeapKind P w κ} {A : Around} {E : Value → Shared → Prop} {s : Shared}
def rowsG (kd : HeapKind P w κ) (L : List (Addr × κ)) : List (Int × Value) := L.map fun p => (kd.hash p.2, Value.ref p.1)
def hsG (kd : HeapKind P w κ) (L : List (Addr × κ)) : List Int := L.map fun p => kd.hash p.2
theorem rowsG_len (L : List (Addr × κ)) : (rowsG kd L).length = L.length := by simp [rowsG]
theorem hsG_len (L : List (Addr × κ)) : (hsG kd L).length = L.length := by simp [hsG]
structure SetG (kd : HeapKind P w κ) (h : Heap) (a : Addr) (L : List (Addr × κ)) (es : Array (Int × Value)) (ep : Nat) (t : SetTable) : Prop where
  ob : ∃ o, h.get? a = some o ∧ o.ExactSet ∧ o.data = .set es ep t
  rows : es.toList = rowsG kd L
  tab : TabOk t (hsG kd L)
  nd : (L.map (·.2)).Nodup
  tup : ∀ p ∈ L, kd.is h p.2 p.1
  plain : t.plain = true
  led : w.params.followText "set-order" = true ∨ t.led = true
  room : L.length * 5 < t.mask * 3
  few : L.length < 64
variable {a : Addr} {L : List (Addr × κ)} {es : Array (Int × Value)} {ep : Nat} {t : SetTable}
theorem rows_size (hr : es.toList = rowsG kd L) : es.size = L.length := by
  have h := congrArg List.length hr
  rwa [Array.length_toList, rowsG_len] at h
theorem SetG.fits (R : SetG kd s.heap a L es ep t) : t.fits es.size = true := by
  have h1 := R.tab.sz
  have h2 := rows_size R.rows
  have h3 := R.room
  rw [hsG_len] at h1
  unfold SetTable.fits SetTable.fill
  rw [R.tab.dm, Bool.and_eq_true, beq_iff_eq, decide_eq_true_eq]
  show t.place.size = es.size ∧ t.place.size + 0 ≤ t.mask
  omega
theorem SetK.same (sk : SetK kd) {h h' : Heap} {k : κ} {b : Addr} {o : Obj} (hb : kd.is h k b) (ho : h.get? a = some o) (hd : o.data = .set es ep t) (hs : Heap.SameBut a h h') : kd.is h' k b :=
  sk.st.stays (fun c u vs n hu hv => (hs.2 c fun z => by
    subst z
    rw [ho] at hu; cases hu
    rw [hd] at hv; cases hv).trans hu) hb
end
end DL
end
noncomputable section
namespace DL
open PySem PySem.Spec PyProof.Rows L2
section
variable {P : Program} {w : World} {κ : Type} [DecidableEq κ]
variable {kd : HeapKind P w κ} {A : Around} {E : Value → Shared → Prop} {s : Shared}
theorem SetK.keep (sk : SetK kd) {h h' : Heap} {k : κ} {b : Addr} (x : kd.is h k b) (hk : ∀ c o, h.get? c = some o → h'.get? c = some o) : kd.is h' k b := sk.st.stays (fun c o _ _ ho _ => hk c o ho) x
theorem SetG.keep {h h' : Heap} {a : Addr} {L : List (Addr × κ)} {es : Array (Int × Value)} {ep : Nat} {t : SetTable} (R : SetG kd h a L es ep t) (ha : ∀ o, h.get? a = some o → h'.get? a = some o) (ht : ∀ p ∈ L, kd.is h' p.2 p.1) : SetG kd h' a L es ep t :=
  let ⟨o, ho, r⟩ := R.ob
  ⟨⟨o, ha o ho, r⟩, R.rows, R.tab, R.nd, ht, R.plain, R.led, R.room, R.few⟩
end
end DL
end
noncomputable section
namespace DL
open PySem PySem.Spec PyProof.Rows L2
section
end
end DL
end
noncomputable section
namespace DL
open PySem PySem.Spec PyProof.Rows L2
section
end
def ddN : List (List (List Int)) → List (List (List Int))
  | [] => []
  | x :: l => if x ∈ l then ddN l else x :: ddN l
theorem mem_ddN {x : List (List Int)} : ∀ {l : List (List (List Int))}, x ∈ ddN l ↔ x ∈ l
  | [] => Iff.rfl
  | y :: l => by
    unfold ddN
    split
    · rename_i h
      rw [mem_ddN (l := l), List.mem_cons]
      exact ⟨.inr, fun z => z.elim (fun e => e ▸ h) id⟩
    · rw [List.mem_cons, List.mem_cons, mem_ddN (l := l)]
theorem ddN_nodup : ∀ l : List (List (List Int)), (ddN l).Nodup
  | [] => List.nodup_nil
  | y :: l => by
    unfold ddN
    split
    · exact ddN_nodup l
    · rename_i h
      exact List.nodup_cons.mpr ⟨fun z => h (mem_ddN.mp z), ddN_nodup l⟩
structure SetOkN (H : Hp) (L : List (Addr × List (List Int))) (ks : List (List (List Int))) : Prop where
  tup : ∀ p ∈ L, NkAt H p.2 p.1
  nd : (L.map (·.2)).Nodup
  iff : ∀ k, k ∈ L.map (·.2) ↔ k ∈ ks
  len : L.length ≤ ks.length
theorem SetOkN.mono {H H' : Hp} {L : List (Addr × List (List Int))} {ks : List (List (List Int))} (x : SetOkN H L ks) (k : Kp H H') : SetOkN H' L ks := ⟨fun p hp => (x.tup p hp).mono k, x.nd, x.iff, x.len⟩
theorem SetOkN.perm {H : Hp} {L : List (Addr × List (List Int))} {ks : List (List (List Int))} (x : SetOkN H L ks) : (L.map (·.2)).Perm (ddN ks) := (List.perm_ext_iff_of_nodup x.nd (ddN_nodup ks)).mpr fun k => by rw [x.iff, mem_ddN]
end DL
end
noncomputable section
namespace DL
open PySem PySem.Spec PyProof.Rows L2
section
end
section
end
/-- an own class over ValueError, without own __init__ -/
structure ExcT (K : PySem.W.Frag) (mg : Str → Option Value) (x : Str) (C : Addr) : Prop where
  gP : mg x = some (.ref C)
  xP : PySem.W.excIn K C [.type "ValueError", .type "Exception", .type "BaseException", .type "object"] "ValueError.__new__" = true
  kP : PySem.W.keepIn K (.ref C) = true
  bP : PySem.W.subIn K (.ref C) (.type "BaseException") = some true
  tP : PySem.W.typeIn K (.ref C) = some (.type "type")
  eP : PySem.W.exmOne K (.ref C) (.ref C) = some true
end DL
end
noncomputable section
namespace DL
open PySem PySem.Spec PyProof.Rows L2
section
variable {X : Cx} {pins : List (Addr × Obj)} {σ : L2.St} {H : Hp} {s : Shared} {τ : Tbs}
theorem lam_makeM {nm : Nat → Nat → Str} {c P : Addr} {params : Arguments} {body : Expr} {scope : Scope} {pos : Pos} {E : Value → Shared → Prop} {Q : Value → Shared → Prop} (I : Inv X pins σ H s) (TB : LamX.TabB X.base X.mg c P) (hcode : X.env.code = .ref c)
    (hm : (P, nm) ∈ τ.tabs) (hn : nm pos.line pos.col = X.env.qual ++ "<lambda>") (hu : ∀ p ∈ τ.tabs, p.1 = P → p.2 = nm) (hT : TabsM τ X.K H) (hdef : defaultsOf params X.env = ([], [])) (hfree : ∀ y ∈ scope.names, y.2 = .free → ∃ c, X.env.cells.lookup y.1 = some c)
    (h : ∀ (f c' : Addr) (pm ctv : Value) (oc : Obj) (H1 : Hp) (s' : Shared), Inv X pins σ H1 s' → Fr [] H H1 → TabsM τ X.K H1 →
      s'.heap.get? f = some (PySem.W.kla_obj "<lambda>" (X.env.qual ++ "<lambda>") params body scope (cloFrom X.env.cells scope.names []) pm c' ctv) → H1 f = none → f ∉ frs X.stack → H1 c' = some (.frz oc (LamX.CodeO c' (X.env.qual ++ "<lambda>"))) → Q (.ref f) s') :
    wpAny (model X.prog X.w) X.A (eval (.Lambda params body scope pos) X.env) Q E s := by
  obtain ⟨ps, hP, ht, ha⟩ := hT.tabs _ hm
  refine PySem.W.kla_eval hdef ?_
  have bP : s.heap.BuiltinsAt X.mg P := TB.bm.keeps I.bk
  have hP' : s.heap.get? P = some { cls := .none, data := .fields ps } := I.hok P _ hP
  have nofr : ∀ f, s.heap.objs.size ≤ f → f ∉ frs X.stack := fun f hf z => by
    rcases List.mem_cons.mp (I.stkSub _ z) with e | e
    · have h1 := I.lt
      rw [← e] at h1
      exact Nat.lt_irrefl _ (Nat.lt_of_lt_of_le h1 hf)
    · exact I.nofs hf e
  cases hc : codeAmong pos ps.toList with
  | none =>
    refine PySem.W.kla_makeFunction (mg := X.mg) (c := c) (P := P) (ps := ps) (closure_ok hfree) I.ok.glob (I.mod.glob.keeps I.bk) hcode (TB.code.keeps I.bk) hP' ht hc TB.gP bP fun c' ctv h' tk hx hge hlt hrec htb => ?_
    obtain ⟨c2, oc, vs, t, e2, hoc, hd, hv⟩ := hrec
    cases e2
    have hsz : s.heap.objs.size ≤ h'.objs.size := Nat.le_trans hge (Nat.le_of_lt hlt)
    have nC : H c' = none := I.hok.fresh hge
    have nPc : P ≠ c' := ne_of_none hP nC
    have I1 := LamX.inv_table (t' := tk) (more := #[rawInt pos.line, rawInt pos.col, .ref c']) (h' := h'.push (PySem.W.kla_obj "<lambda>" (X.env.qual ++ "<lambda>") params body scope (cloFrom X.env.cells scope.names []) ((X.mg "__name__").getD .none) c' ctv)) I hP
      (fun b o hb e => Heap.get?_push_of_some _ (hx b o hb e)) (Heap.get?_push_of_some _ htb) hge ⟨oc, vs, t, Heap.get?_push_of_some _ hoc, hd, hv⟩
    obtain ⟨od, I2⟩ := I1.lock upd_same trivial
    rw [upd_upd] at I2
    have hF : Fr [] H (upd (upd H P (.tbl (ps ++ #[rawInt pos.line, rawInt pos.col, .ref c']))) c' (.frz od (LamX.CodeO c' (X.env.qual ++ "<lambda>")))) := ⟨fun b o e _ n => by
      rw [upd_ne (ne_of_none e nC), upd_ne (fun z => n ps (Option.some.inj (e.symm.trans (by rw [z]; exact hP))))]
      exact e, fun b e => by
      by_cases z : b = c'
      · subst z; exact nC
      · rw [upd_ne z] at e
        by_cases z2 : b = P
        · subst z2; rw [upd_same] at e; cases e
        · rw [upd_ne z2] at e; exact e⟩
    have eL : (ps ++ #[rawInt pos.line, rawInt pos.col, .ref c']).toList = ps.toList ++ [rawInt pos.line, rawInt pos.col, .ref c'] := by simp
    have kp := hF.kp
    refine h h'.objs.size c' ((X.mg "__name__").getD .none) ctv od _ _ I2 hF ⟨fun p hp => ?_, fun p hp => (hT.codes p hp).elim fun o h => ⟨o, kp _ _ h trivial⟩, fun p hp => Rp.mono kp _ _ (hT.caps p hp)⟩ (Heap.get?_push_size _ rfl) ?_ (nofr _ hsz) upd_same
    · by_cases hb : p.1 = P
      · rw [hu p hp hb, hb]
        refine ⟨_, by rw [upd_ne nPc, upd_same], by rw [eL]; exact PySem.TriplesOk_snoc _ _ _ _ ht, fun p' cv hcv => ?_⟩
        rw [eL] at hcv
        rcases NdefX.among_app2 _ ht hcv with z | ⟨z, z1, z2⟩
        · obtain ⟨c0, o0, e1, e2⟩ := ha p' cv z
          exact ⟨c0, o0, e1, kp _ _ e2 trivial⟩
        · refine ⟨c', od, z, ?_⟩
          show _ = some (HO.frz od (LamX.CodeO c' (nm p'.line p'.col)))
          rw [← z1, ← z2, hn]
          exact upd_same
      · exact (hT.tabs p hp).kp kp fun ps' a1 => by rw [upd_ne (ne_of_none a1 nC), upd_ne hb]; exact a1
    · have n1 : h'.objs.size ≠ c' := Nat.ne_of_gt hlt
      have n2 : h'.objs.size ≠ P := Nat.ne_of_gt (Nat.lt_of_lt_of_le (Heap.lt_size hP') hsz)
      rw [upd_ne n1, upd_ne n2]
      exact I.hok.fresh hsz
  | some cv =>
    obtain ⟨c', oc, e, hco⟩ := ha pos cv hc
    subst e
    simp only [hn] at hco
    refine PySem.W.kla_makeFunctionHit (mg := X.mg) (c := c) (P := P) (ps := ps) (closure_ok hfree) I.ok.glob (I.mod.glob.keeps I.bk) hcode (TB.code.keeps I.bk) hP' ht hc bP fun ctv h' tk hx hsz => ?_
    have I1 : Inv X pins σ H { s with heap := h'.push (PySem.W.kla_obj "<lambda>" (X.env.qual ++ "<lambda>") params body scope (cloFrom X.env.cells scope.names []) ((X.mg "__name__").getD .none) c' ctv), toks := tk } := I.kept fun b o e => Heap.get?_push_of_some _ (hx b o e)
    exact h h'.objs.size c' ((X.mg "__name__").getD .none) ctv oc H _ I1 Fr.refl hT (Heap.get?_push_size _ rfl) (I.hok.fresh hsz) (nofr _ hsz) hco
end
end DL
end
noncomputable section
namespace DL
open PySem PySem.Spec PyProof.Rows L2
/-- what is tracked, and the frames -/
def marked (l : List Env) (H : Hp) : Hp := fun b => if b ∈ frs l then some (.tup []) else H b
def raised (l : List Env) (s : Shared) (H : Hp) : Heap := hidT s.heap (marked l H)
section
variable {X : Cx} {pins : List (Addr × Obj)} {σ : L2.St} {H : Hp} {s : Shared} {l : List Env} {b : Addr} {o : Obj}
theorem marked_none (h : marked l H b = none) : b ∉ frs l ∧ H b = none := by
  unfold marked at h
  split at h
  · cases h
  · exact ⟨by assumption, h⟩
theorem raised_get (e : s.heap.get? b = some o) (n : H b = none) (hf : b ∉ frs l) : (raised l s H).get? b = some o := hidT_get e (by unfold marked; rw [if_neg hf]; exact n)
theorem of_raised (e : (raised l s H).get? b = some o) : s.heap.get? b = some o ∧ H b = none ∧ b ∉ frs l := by
  obtain ⟨h1, h2⟩ := of_hidT e
  exact ⟨h1, (marked_none h2).2, (marked_none h2).1⟩
theorem raised_base (I : Inv X pins σ H s) (e : X.base.get? b = some o) : (raised X.stack s H).get? b = some o := by
  obtain ⟨h1, h2⟩ := I.bs b o e
  refine raised_get h1 h2 fun hb => ?_
  have := (I.stack.mem hb).1
  rw [e] at this; cases this
theorem raised_mod (I : Inv X pins σ H s) : Mod X.K X.mg (raised X.stack s H) := by
  have k : ∀ b o, X.base.get? b = some o → (raised X.stack s H).get? b = some o := fun b o e => raised_base I e
  obtain ⟨mb, h1, h2⟩ := I.mod.blt
  exact ⟨I.mod.kin.keeps k, I.mod.glob.keeps k, ⟨mb, h1.keeps k, h2⟩, I.mod.nolimit.keeps k⟩
theorem raised_env0 (I : Inv X pins σ H s) : Env0 X.prog X.w X.K X.mg (raised X.stack s H) X.A X.stack s H := by
  refine ⟨I.ok.frames, raised_mod I, fun b o e => ⟨(of_raised e).1, (of_raised e).2.1⟩, Nat.le_of_eq (hidT_size _ _), funFrames_none I.stack fun L hL => ?_, I.stkFree, I.hok, I.bare⟩
  cases e : (raised X.stack s H).get? L with
  | none => rfl
  | some o => exact absurd hL (of_raised e).2.2
end
end DL
end
noncomputable section
namespace DL
open PySem PySem.Spec PyProof.Rows L2
/-- the lambda's names: its parameter p, the captured ones -/
structure LamP (p : Str) (cl : List (Str × Addr)) (scope : Scope) : Prop where
  kind : scope.kind = .function
  co : scope.isCoroutine = false
  gen : scope.isGenerator = false
  noc : ∀ y ∈ scope.names, y.2 ≠ .cell
  par : scope.names.lookup p = some .local
  free : ∀ y, scope.names.lookup y = some .free → ∃ c, cl.lookup y = some c
abbrev lamEnvY (q : Str) (cl : List (Str × Addr)) (scope : Scope) (L f c' : Addr) : Env := PySem.W.envX q scope L f (.ref c') cl
/-- the context of the lambda's body, entered at s from Y -/
def lamCy (Y : Cx) (N : List Str) (q : Str) (cl : List (Str × Addr)) (s : Shared) (H : Hp) (scope : Scope) (f c' : Addr) : Cx where
  prog := Y.prog
  w := Y.w
  K := Y.K
  mg := Y.mg
  base := Y.base
  A := Y.A.deeper (lamEnvY q cl scope s.heap.objs.size f c')
  N := N
  s_0 := s
  H_0 := H
  env := lamEnvY q cl scope s.heap.objs.size f c'
  outer := Y.stack
  stack := lamEnvY q cl scope s.heap.objs.size f c' :: Y.stack
  ex := []
  fn := fun _ => false
  calm := true
  pn := []
  xe := fun _ _ => False
section
variable {Y : Cx} {H : Hp} {s : Shared}
theorem lam_startY {p q : Str} {cs : List Str} {cl : List (Str × Addr)} {cv : List (Option V)} {v : V} {u : Value} {scope : Scope} {f c' : Addr} {h₁ : Heap} {tk : Nat} (L : LamP p cl scope) (e0 : Env0 Y.prog Y.w Y.K Y.mg Y.base Y.A Y.stack s H) (hd : Y.A.handled = none)
    (inj : ∀ x y c, cl.lookup x = some c → cl.lookup y = some c → x = y) (hcell : ∀ y c, cl.lookup y = some c → ∃ w, Y.base.IsCell c w)
    (hl : cv.length = cs.length) (hcap : ∀ (i : Nat) (y : Str) (x : V), cs[i]? = some y → cv[i]? = some (some x) → scope.names.lookup y = some .free ∧ ∃ c u, cl.lookup y = some c ∧ Y.base.IsCell c (some u) ∧ RelV x u) (r : RelV v u)
    (hns : h₁.Ns s.heap.objs.size fun y => ([(p, u)] : List (Str × Value)).reverse.lookup y) (kp : ∀ b o, s.heap.get? b = some o → h₁.get? b = some o) :
    Inv (lamCy Y (p :: cs) q cl s H scope f c') [] (some v :: cv) H { s with heap := h₁, toks := tk } := by
  have cellK : ∀ {c : Addr} {w : Option Value}, Y.base.IsCell c w → h₁.IsCell c w := fun {c w} ⟨o, ho, hd⟩ => ⟨o, kp _ _ (e0.bs _ _ ho).1, hd⟩
  have cellN : ∀ {c : Addr} {w : Option Value}, Y.base.IsCell c w → H c = none := fun {c w} ⟨o, ho, hd⟩ => (e0.bs _ _ ho).2
  have noA : ∀ b : Addr, b ∉ (lamCy Y (p :: cs) q cl s H scope f c').ex := fun b z => absurd (show b ∈ ([] : List Addr) from z) (by simp)
  refine ⟨⟨e0.mod, L.kind, rfl, rfl, Nat.le_refl _, fun y z c e1 e2 => inj y z c e1 e2, fun y hy => ?_, fun y c z _ => ?_, fun _ => hd, Around.frames_deeper e0.frames, .inr ⟨rfl, rfl⟩, fun b z => absurd z (noA b), e0.bs, e0.bsz, fun b _ _ => noA b,
      fun b z => absurd z (noA b), e0.funs, e0.frf⟩,
    rfl, e0.bare, Un.kept kp, ⟨_, hns, fun i y x e1 e2 e3 => ?_⟩, fun y c e => ?_, e0.hok.fresh (Nat.le_refl _), fun y c e => ?_, fun q hq => absurd (show q ∈ ([] : List (Addr × Obj)) ++ [] from hq) (by simp), e0.hok.kept kp, by simp [lamCy, hl]⟩
  · have hy : scope.names.lookup y = some .cell ∨ scope.names.lookup y = some .free := hy
    rcases hy with hy | hy
    · exact absurd rfl (L.noc _ (PySem.mem_of_lookup hy))
    · exact L.free y hy
  · have z : false = true := z
    cases z
  · cases i with
    | zero =>
      have e1 : some p = some y := e1
      have e2 : some (some v) = some (some x) := e2
      cases e1
      cases e2
      exact ⟨u, r, .inl ⟨L.par, by simp⟩⟩
    | succ i =>
      have e1 : cs[i]? = some y := e1
      have e2 : cv[i]? = some (some x) := e2
      obtain ⟨h1, c, u', h2, h3, h4⟩ := hcap i y x e1 e2
      exact ⟨u', h4, .inr ⟨.inr h1, c, h2, cellK h3⟩⟩
  · obtain ⟨w, z⟩ := hcell y c e
    exact ⟨w, cellK z⟩
  · obtain ⟨w, z⟩ := hcell y c e
    exact cellN z
end
end DL
end
noncomputable section
namespace DL
open PySem PySem.Spec PyProof.Rows L2
/-- the call of slot i's function on A's value: g answers -/
def actX (g : PyData → Option PyData) (p : W × Sto) : Option (W × Sto) := match p.1 with
  | .d x => (g x).map fun y => (.d y, p.2)
  | _ => none
def actV (g : PyData → Option PyData) (A : ME) (ρ : DEnv) (S : Sto) : Option (Option W) → Option (W × Sto)
  | some (some .fn) => (A ρ S).bind (actX g)
  | _ => none
def mAct (g : PyData → Option PyData) (i : Nat) (A : ME) : ME := fun ρ S => actV g A ρ S ρ[i]?
/-- what a def that gets a lambda is told of it -/
def Act (τ : Tbs) (P : Program) (w : World) (K : PySem.W.Frag) (mg : Str → Option Value) (base : Heap) (k : Nat) (g : PyData → Option PyData) : Prop :=
  ∀ (Y : Cx) (a : Str) (i : Nat) (e : Expr) (A : ME) (p1 p2 : Pos), Y.prog = P → Y.w = w → Y.K = K → Y.mg = mg → Y.base = base → Room k Y.A → Y.A.guards = some [] →
    PE Y (.Name a p1) (rdE τ Y.K (mVar i)) → PE Y e (rdE τ Y.K A) → starEach [e] Y.env = (false, eval e Y.env) :: starEach [] Y.env →
    PE Y (.Call (.Name a p1) [e] [] p2) (rdE τ Y.K (mAct g i A))
theorem sim_lam {τ : Tbs} {K : PySem.W.Frag} {H : Hp} {v : V} {x : PyData} {xs : List V} {ds : List PyData} (tb : TabsM τ K H) (r : Rp K H v x) (hl : xs.length = ds.length) (hc : ∀ (j : Nat) (d : PyData), ds[j]? = some d → ∃ y, xs[j]? = some y ∧ (y, d) ∈ τ.caps) :
    Sim τ K [] [] (some (W.d x) :: ds.map fun d => some (W.d d)) (some v :: xs.map some) H := by
  refine ⟨fun i w e => ?_, rfl, List.nodup_nil, fun n ob h => by simp at h, by simp [hl], tb⟩
  cases i with
  | zero =>
    have e : some (some (W.d x)) = some (some w) := e
    cases e
    exact ⟨v, rfl, r⟩
  | succ j =>
    have e : (ds.map fun d => some (W.d d))[j]? = some (some w) := e
    rw [List.getElem?_map] at e
    obtain ⟨d, h1, h2⟩ := Option.map_eq_some_iff.mp e
    cases h2
    obtain ⟨y, h3, h4⟩ := hc j d h1
    refine ⟨y, ?_, tb.caps _ h4⟩
    show (xs.map some)[j]? = some (some y)
    rw [List.getElem?_map, h3]; rfl
theorem act_of {τ : Tbs} {P : Program} {w : World} {K : PySem.W.Frag} {mg : Str → Option Value} {base : Heap} {k : Nat} {g : PyData → Option PyData} {f c' : Addr} {pm ctv : Value} {q p : Str} {params : Arguments} {body : Expr} {scope : Scope} {cl : List (Str × Addr)} {cs : List Str} {xs : List V} {ds : List PyData} {F : ME}
    (hf : base.get? f = some (PySem.W.kla_obj "<lambda>" q params body scope cl pm c' ctv)) (hfn : τ.fn = some f) (hcode : (c', q) ∈ τ.codes) (L : LamP p cl scope) (inj : ∀ x y c, cl.lookup x = some c → cl.lookup y = some c → x = y) (hcell : ∀ y c, cl.lookup y = some c → ∃ w, base.IsCell c w)
    (hl : xs.length = cs.length) (hl2 : xs.length = ds.length) (hcap : ∀ (i : Nat) (y : Str) (x : V), cs[i]? = some y → xs[i]? = some x → scope.names.lookup y = some .free ∧ ∃ c u, cl.lookup y = some c ∧ base.IsCell c (some u) ∧ RelV x u) (hc : ∀ (j : Nat) (d : PyData), ds[j]? = some d → ∃ y, xs[j]? = some y ∧ (y, d) ∈ τ.caps)
    (hbind : ∀ u, bindArgs (PySem.W.kla_fn "<lambda>" q params body scope cl pm (.ref c') ctv) ⟨[u], []⟩ = pure [(p, u)])
    (hbody : ∀ (Y : Cx) (s : Shared) (H : Hp), Y.prog = P → Y.w = w → Y.K = K → Y.mg = mg → Y.base = base → Room k (lamCy Y (p :: cs) q cl s H scope f c').A → (lamCy Y (p :: cs) q cl s H scope f c').A.guards = some [] → PE (lamCy Y (p :: cs) q cl s H scope f c') body (rdE τ K F))
    (hg : ∀ x y, g x = some y → F (some (W.d x) :: ds.map fun d => some (W.d d)) [] = some (.d y, [])) : Act τ P w K mg base (k + 1) g := by
  intro Y a i e A p1 p2 eP ew eK em eb room hgd hn he hs
  subst eP ew eK em eb
  refine ⟨fun pins s σ H Q I h => ?_⟩
  obtain ⟨m, S, ρ, w', S', q0, e0, po⟩ := h
  unfold mAct at e0
  generalize hi : ρ[i]? = o at e0
  unfold actV at e0
  split at e0
  · obtain ⟨⟨wx, S1⟩, e1, e2⟩ := Option.bind_eq_some_iff.mp e0
    unfold actX at e2
    split at e2
    · rename_i x hx
      have hx : wx = .d x := hx
      subst hx
      obtain ⟨y, hy, e3⟩ := Option.map_eq_some_iff.mp e2
      cases e3
      refine wpAny_Call_Name_kw (thn (hn.run pins s σ H (fun v H1 => ∃ ext, Fresh ext H ∧ Sim τ Y.K (m ++ ext) S ρ σ H1 ∧ Fr m H H1 ∧ v = .ref f) I ⟨m, S, ρ, .fn, S, q0, by unfold mVar; rw [hi], fun ext H' v hf' q' fr' r => ⟨ext, hf', q', fr', ?_⟩⟩) fun u s1 ⟨v, H1, I1, r1, ext, hf1, q1, fr1, ev⟩ => ?_)
      · obtain ⟨f', h1, h2⟩ := r
        rw [hfn] at h1; cases h1
        exact h2
      subst ev
      obtain rfl : u = Value.ref f := r1
      have p1' := po.at hf1 q1 fr1
      refine PySem.W.callWith_F ⟨_, _, _, _, I1.bk _ _ hf⟩ (thn ((da_cons he da_nil hs).run p2 pins s1 σ H1 (fun vs H2 => ∃ ext2 v, vs = [v] ∧ Rp Y.K H2 v x ∧ Sim τ Y.K (m ++ ext ++ ext2) S1 ρ σ H2 ∧ Post τ Y.K (m ++ ext ++ ext2) S1 ρ σ H2 (.d y) Q) I1
        ⟨_, S, ρ, [.d x], S1, q1, by simp [mCons, mNil, e1], fun ext2 H2 vs hf2 q2 fr2 r2 => ?_⟩) fun us s2 ⟨vs, H2, I2, rv, ext2, v, ev, rx, q2, p2'⟩ => ⟨⟨_, _, _, _, I2.bk _ _ hf⟩, ?_⟩) hs rfl
      · cases r2 with
        | cons r2 t2 =>
          cases t2
          exact ⟨ext2, _, rfl, r2, q2, p1'.at hf2 q2 fr2⟩
      subst ev
      obtain ⟨u, rfl, ru⟩ := vals1 rv
      obtain ⟨oc, hco⟩ := q2.tb.codes _ hcode
      have rc : codeAny (model Y.prog Y.w) Y.A (.call (.ref f) ⟨[u], []⟩) (CR C8.CX0 Y.stack Y.prog Y.w H2 s2 Q C8.E0) s2 := by
        obtain ⟨hoc0, hcc⟩ := I2.hok c' _ hco
        obtain ⟨⟨ob, vs2, t2, h1, h2, h3⟩, _, _⟩ := hcc
        refine PySem.W.kla_callFunE room.depth (I2.bk _ _ hf) rfl L.co L.gen rfl ⟨c', ob, vs2, t2, rfl, h1, h2, h3⟩ ?_
        rw [hbind]
        refine wpAny_pure (wpAny_newFunctionEnv L.noc (fun y hy => by simp at hy; subst hy; exact L.par) (fun h₁ hns hsb => ⟨I2.nolimit.fresh _ hsb, ?_⟩) L.kind)
        show codeAny _ _ (.expr body (lamEnvY q cl scope s2.heap.objs.size f c')) _ _
        have kp : ∀ b o, s2.heap.get? b = some o → h₁.get? b = some o := fun b o e => hsb.extBut b o (Nat.ne_of_lt (Heap.lt_size e)) (Heap.get?_push_of_some _ e)
        have J : Inv (lamCy Y (p :: cs) q cl s2 H2 scope f c') [] (some v :: xs.map some) H2 { s2 with heap := h₁, toks := s2.toks + ([(p, u)] : List (Str × Value)).length } :=
          lam_startY L I2.env0 room.hd inj hcell (by rw [List.length_map, hl]) (fun i y x h1 h2 => by
            rw [List.getElem?_map] at h2
            obtain ⟨x', h3, h4⟩ := Option.map_eq_some_iff.mp h2
            cases h4
            exact hcap i y x h1 h3) ru hns kp
        refine PySem.W.kla_codeExpr (wpAny_mono ((hbody Y s2 H2 rfl rfl rfl rfl rfl (room.deeper _) hgd).run [] _ _ H2 Q J ⟨[], [], _, .d y, [], sim_lam q2.tb rx hl2 hc, hg x y hy, fun ext3 H3 v3 hf3 q3 fr3 r3 => ?_⟩) (fun v s' hq => ?_) fun e s' hq => hq.elim)
        · exact p2' [] H3 v3 (fun _ h => absurd h (by simp)) (by rw [List.append_nil]; exact q2.call fr3 q3.tb) fr3.wk r3
        · obtain ⟨w', H', J', rv, qq⟩ := hq
          exact ⟨w', H', J'.os, J'.bare, J'.base, J'.hok, rv, qq⟩
      refine wpAny_call (codeAny_mono rc fun r s' hq => ?_)
      cases r with
      | error e => exact False.elim hq
      | ok fl =>
        cases fl with
        | ret u => exact I2.after hq
        | next => exact False.elim hq
        | brk => exact False.elim hq
        | cont => exact False.elim hq
    · cases e2
  · cases e0
end DL
end
noncomputable section
namespace DL
open PySem PySem.Spec PyProof.Rows L2
section
variable {X : Cx} {pins : List (Addr × Obj)} {σ : L2.St} {H : Hp} {s : Shared}
/-- a cell made at the entry of the def stands in the raised base -/
theorem cell_raised {y : Str} {c : Addr} {v : Option Value} (I : Inv X pins σ H s) (hfn : X.fn y = true) (hc : X.env.cells.lookup y = some c) (hv : s.heap.IsCell c v) : (raised X.stack s H).IsCell c v := by
  obtain ⟨o, ho, hd⟩ := hv
  refine ⟨o, raised_get ho (I.freeC y c hc) fun hb => ?_, hd⟩
  rcases List.mem_cons.mp (I.stkSub c hb) with e | e
  · obtain ⟨m, ⟨o', es, ep, h1, h2, _⟩, _⟩ := I.loc
    rw [e] at ho
    rw [ho] at h1
    cases h1
    rw [hd] at h2
    cases h2
  · obtain ⟨_, o', h1, _⟩ := I.ok.funs.mem e
    exact Nat.lt_irrefl _ (Nat.lt_of_lt_of_le (Heap.lt_size h1) (I.ok.cab y c hfn hc))
/-- a captured name's value, in the raised base -/
theorem cap_raised {y : Str} {i : Nat} {x : V} (I : Inv X pins σ H s) (hfn : X.fn y = true) (hi : X.N[i]? = some y) (hs : σ[i]? = some (some x)) (hk : X.env.scope.names.lookup y = some .cell) : ∃ c u, X.env.cells.lookup y = some c ∧ (raised X.stack s H).IsCell c (some u) ∧ RelV x u := by
  obtain ⟨m, hn, hl⟩ := I.loc
  obtain ⟨u, r, q⟩ := hl i y x hi hs (.inr (.inl hk))
  rcases q with ⟨k', _⟩ | ⟨_, c, h1, h2⟩
  · rw [show X.env.kindOf y = some .cell from hk] at k'
    cases k'
  · exact ⟨c, u, h1, cell_raised I hfn h1 h2, r⟩
/-- any cell of the def, in the raised base -/
theorem cell_there {y : Str} {c : Addr} (I : Inv X pins σ H s) (hfn : X.fn y = true) (hc : X.env.cells.lookup y = some c) : ∃ w, (raised X.stack s H).IsCell c w := by
  obtain ⟨v, h⟩ := I.cell y c hc
  exact ⟨v, cell_raised I hfn hc h⟩
/-- the callee's tables, the caller's -/
def Tbs.lam (τ : Tbs) (c : Addr) (q : Str) (caps : List (V × PyData)) (f : Addr) : Tbs := ⟨τ.tabs, (c, q) :: τ.codes, caps ++ τ.caps, some f⟩
theorem TabsM.into {τ : Tbs} {K : PySem.W.Frag} {H : Hp} {c f : Addr} {q : Str} {caps : List (V × PyData)} {o : Obj} (t : TabsM τ K H) (h : H c = some (.frz o (LamX.CodeO c q))) (hc : ∀ p ∈ caps, Rp K H p.1 p.2) : TabsM (τ.lam c q caps f) K H :=
  ⟨t.tabs, fun p hp => by
    rcases List.mem_cons.mp hp with e | e
    · subst e; exact ⟨o, h⟩
    · exact t.codes p e, fun p hp => by
    rcases List.mem_append.mp hp with e | e
    · exact hc p e
    · exact t.caps p e⟩
theorem TabsM.back {τ : Tbs} {K : PySem.W.Frag} {H : Hp} {c f : Addr} {q : Str} {caps : List (V × PyData)} (t : TabsM (τ.lam c q caps f) K H) : TabsM τ K H :=
  ⟨t.tabs, fun p hp => t.codes p (List.mem_cons_of_mem _ hp), fun p hp => t.caps p (List.mem_append_right _ hp)⟩
/-- the call's meaning -/
def lamG (F : ME) (ds : List PyData) (x : PyData) : Option PyData := match F (some (W.d x) :: ds.map fun d => some (W.d d)) [] with
  | some (.d y, []) => some y
  | _ => none
theorem lamG_ok {F : ME} {ds : List PyData} {x y : PyData} (h : lamG F ds x = some y) : F (some (W.d x) :: ds.map fun d => some (W.d d)) [] = some (.d y, []) := by
  unfold lamG at h
  split at h
  · rename_i e; cases h; exact e
  · cases h
def capD (ρ : DEnv) : List Nat → Option (List PyData)
  | [] => some []
  | i :: is => match ρ[i]? with
    | some (some (.d d)) => (capD ρ is).map (d :: ·)
    | _ => none
def lamX (fs : (PyData → Option PyData) → FS) (F : ME) (ds : List PyData) (p : W × Sto) : Option (W × Sto) := match p.1 with
  | .d x => (fs (lamG F ds) [.d x, .fn] []).bind fun r => match r.1, r.2 with
    | .d y, [] => some (.d y, p.2)
    | _, _ => none
  | _ => none
def mLam (fs : (PyData → Option PyData) → FS) (F : ME) (caps : List Nat) (A : ME) : ME := fun ρ S => (A ρ S).bind fun p => (capD ρ caps).bind fun ds => lamX fs F ds p
/-- the captured slots hold data of the heap -/
theorem capD_of {τ : Tbs} {K : PySem.W.Frag} {m : List Addr} {S : Sto} {ρ : DEnv} (q : Sim τ K m S ρ σ H) : ∀ {caps : List Nat} {ds : List PyData}, capD ρ caps = some ds → ∃ xs : List V, xs.length = ds.length ∧ xs.length = caps.length ∧ (∀ (j i : Nat) (x : V), caps[j]? = some i → xs[j]? = some x → σ[i]? = some (some x)) ∧ ∀ p ∈ xs.zip ds, Rp K H p.1 p.2
  | [], _, e => by cases e; exact ⟨[], rfl, rfl, fun j i x h => by simp at h, fun p hp => by simp at hp⟩
  | i :: is, _, e => by
    simp only [capD] at e
    split at e
    · rename_i d hi
      obtain ⟨ds, e1, rfl⟩ := Option.map_eq_some_iff.mp e
      obtain ⟨xs, h1, h2, h3, h4⟩ := capD_of q e1
      obtain ⟨v, hv, r⟩ := q.slot i _ hi
      refine ⟨v :: xs, by simp [h1], by simp [h2], fun j k x hj hx => ?_, fun p hp => ?_⟩
      · cases j with
        | zero =>
          simp at hj hx
          subst hj; subst hx
          exact hv
        | succ j => exact h3 j k x (by simpa using hj) (by simpa using hx)
      · rw [List.zip_cons_cons] at hp
        rcases List.mem_cons.mp hp with z | z
        · subst z; exact r
        · exact h4 p z
    · cases e
end
end DL
end
noncomputable section
namespace DL
open PySem PySem.Spec PyProof.Rows L2
/-- the tables of the defs that make lambdas: code object, table, the lambdas' name -/
abbrev TL := List (Addr × Addr × Str)
structure Bs (tl : TL) (τ : Tbs) (K : PySem.W.Frag) (mg : Str → Option Value) (B : Heap) : Prop where
  kin : K.In B
  ns : B.Ns mainGlobals mg
  tb : ∀ p ∈ tl, LamX.TabB B mg p.1 p.2.1
  tt : τ.tabs = tl.map fun p => (p.2.1, fun _ _ => p.2.2)
  un : ∀ p ∈ tl, ∀ q ∈ tl, p.2.1 = q.2.1 → p.2.2 = q.2.2
  sm : ∃ mm, B.Ns PySem.sysModules mm
theorem tabB_keeps {B B' : Heap} {mg : Str → Option Value} {c P : Addr} (t : LamX.TabB B mg c P) (k : ∀ b o, B.get? b = some o → B'.get? b = some o) : LamX.TabB B' mg c P := ⟨t.code.keeps k, t.bm.keeps k, t.gP⟩
theorem Bs.lam {tl : TL} {τ : Tbs} {X : Cx} {pins : List (Addr × Obj)} {σ : L2.St} {H : Hp} {s : Shared} {c g : Addr} {q : Str} {caps : List (V × PyData)} (b : Bs tl τ X.K X.mg X.base) (I : Inv X pins σ H s) : Bs tl (τ.lam c q caps g) X.K X.mg (raised X.stack s H) :=
  ⟨(raised_mod I).kin, (raised_mod I).glob, fun p hp => tabB_keeps (b.tb p hp) fun _ _ e => raised_base I e, b.tt, b.un, b.sm.imp fun _ z => z.keeps fun _ _ e => raised_base I e⟩
/-- a def told of by name, for every base -/
def CalA (tl : TL) (P : Program) (w : World) (K : PySem.W.Frag) (mg : Str → Option Value) (x : Str) (k : Nat) (ps : List Str) (fs : FS) : Prop := ∀ {τ : Tbs} {base : Heap}, Bs tl τ K mg base → Cal τ P w K mg base x k ps fs
/-- a def that gets a lambda as its second argument -/
structure CalL (tl : TL) (P : Program) (w : World) (K : PySem.W.Frag) (mg : Str → Option Value) (x : Str) (ps : List Str) (fs : (PyData → Option PyData) → FS) : Prop where
  ex : ∃ (f : Addr) (fd : FuncData), (∀ {τ : Tbs} {base : Heap} (g : PyData → Option PyData) (j : Nat), Bs tl τ K mg base → Act τ P w K mg base j g → FnG P w K mg base (j + 1) f fd ps (spD τ K 2 (fs g))) ∧ mg x = some (.ref f) ∧ PySem.W.keepIn K (.ref f) = true ∧ Binds K fd ps []
theorem calL_mk {tl : TL} {P : Program} {w : World} {K : PySem.W.Frag} {mg : Str → Option Value} {x qual : Str} {ps : List Str} {fs : (PyData → Option PyData) → FS} {st : Stmt} {f : Addr} {fd : FuncData} (F : Fun K x qual st f fd) (hm : mg x = some (.ref f))
    (h : ∀ (kV doc pm : Value) (an : Option Addr) (cdv ct : Value) (us : List Value), us.length = ps.length → bindArgs (PySem.W.fnOf x qual (defArgs st) (defBody st) (defScope st) .none kV doc pm an cdv ct) ⟨us, []⟩ = pure (ps.zip us))
    (G : ∀ {τ : Tbs} {base : Heap} (g : PyData → Option PyData) (j : Nat), Bs tl τ K mg base → Act τ P w K mg base j g → FnG P w K mg base (j + 1) f fd ps (spD τ K 2 (fs g))) : CalL tl P w K mg x ps fs := ⟨f, fd, G, hm, F.kp, F.binds h⟩
/-- the context of a lambda's body, by its parts -/
def lamCz (P : Program) (w : World) (K : PySem.W.Frag) (mg : Str → Option Value) (B : Heap) (A : Around) (outer : List Env) (N : List Str) (q : Str) (cl : List (Str × Addr)) (s : Shared) (H : Hp) (scope : Scope) (f c' : Addr) : Cx where
  prog := P
  w := w
  K := K
  mg := mg
  base := B
  A := A.deeper (lamEnvY q cl scope s.heap.objs.size f c')
  N := N
  s_0 := s
  H_0 := H
  env := lamEnvY q cl scope s.heap.objs.size f c'
  outer := outer
  stack := lamEnvY q cl scope s.heap.objs.size f c' :: outer
  ex := []
  fn := fun _ => false
  calm := true
  pn := []
  xe := fun _ _ => False
/-- the lambda's scope, the def's scope, what is captured and where it stands -/
def lamPB (sc scope : Scope) (p : Str) (N cs : List Str) (caps : List Nat) : Bool :=
  decide (scope.kind = .function) && !scope.isCoroutine && !scope.isGenerator && decide (scope.names.lookup p = some .local) && scope.names.all (fun y => !decide (y.2 = .cell) && (!decide (y.2 = .free) || decide (sc.names.lookup y.1 = some .cell))) &&
    decide (caps.length = cs.length) && (caps.zip cs).all fun z => decide (N[z.1]? = some z.2) && decide (scope.names.lookup z.2 = some .free) && decide (sc.names.lookup z.2 = some .cell)
section
variable {X : Cx} {τ : Tbs} {tl : TL}
theorem cz_of {P : Program} {w : World} {K : PySem.W.Frag} {mg : Str → Option Value} {B : Heap} {Y : Cx} {N : List Str} {q : Str} {cl : List (Str × Addr)} {s : Shared} {H : Hp} {scope : Scope} {f c' : Addr} (h1 : Y.prog = P) (h2 : Y.w = w) (h3 : Y.K = K) (h4 : Y.mg = mg) (h5 : Y.base = B) : lamCy Y N q cl s H scope f c' = lamCz P w K mg B Y.A Y.stack N q cl s H scope f c' := by
  subst h1; subst h2; subst h3; subst h4; subst h5; rfl
theorem de_lamC {x p : Str} {sc : Scope} {c P : Addr} {q0 : Str} {ps : List Str} {j k : Nat} {fs : (PyData → Option PyData) → FS} {F A : ME} {N cs : List Str} {caps : List Nat} {e1 body : Expr} {params : Arguments} {scope : Scope} {lpos px pos : Pos}
    (C : CalL tl X.prog X.w X.K X.mg x ps fs) (bs : Bs tl τ X.K X.mg X.base) (hm : (c, P, q0) ∈ tl) (hcode : X.env.code = .ref c) (hq : q0 = X.env.qual ++ "<lambda>") (hN : X.N = N) (hfn : X.fn = fun _ => true)
    (room : Room k X.A) (hk : j + 2 ≤ k) (hgd : X.A.guards = some []) (hg : Gl X x) (hps : ps.length = 2) (hsc : X.env.scope = sc) (hL : lamPB sc scope p N cs caps = true) (hdef : defaultsOf params X.env = ([], [])) (ha : PE X e1 (rdE τ X.K A))
    (hbind : ∀ (q : Str) (cl : List (Str × Addr)) (pm cv ctv u : Value), bindArgs (PySem.W.kla_fn "<lambda>" q params body scope cl pm cv ctv) ⟨[u], []⟩ = pure [(p, u)])
    (hbody : ∀ (τ : Tbs) (B : Heap) (bs : Bs tl τ X.K X.mg B) (A : Around) (outer : List Env) (g c' : Addr) (s : Shared) (H : Hp) (cl : List (Str × Addr)) (hr : Room j (A.deeper (lamEnvY q0 cl scope s.heap.objs.size g c'))) (hg : (A.deeper (lamEnvY q0 cl scope s.heap.objs.size g c')).guards = some []), PE (lamCz X.prog X.w X.K X.mg B A outer (p :: cs) q0 cl s H scope g c') body (rdE τ X.K F))
    (hdb : (x == ("__debug__" : Str)) = false := by decide) (hst : starEach [e1, .Lambda params body scope lpos] X.env = (false, eval e1 X.env) :: (false, eval (.Lambda params body scope lpos) X.env) :: [] := by rfl) (hpl : (backTo pos (starEach [.Lambda params body scope lpos] X.env)).any (·.1) = false := by rfl)
    (hst1 : starEach [e1, .Lambda params body scope lpos] X.env = (false, eval e1 X.env) :: starEach [.Lambda params body scope lpos] X.env := by rfl) :
    PE X (.Call (.Name x px) [e1, .Lambda params body scope lpos] [] pos) (rdE τ X.K (mLam fs F caps A)) := by
  obtain ⟨f, fd, hF, hmx, hkp, hb⟩ := C.ex
  subst hN
  subst hsc
  unfold lamPB at hL
  simp only [Bool.and_eq_true, Bool.or_eq_true, Bool.not_eq_true', decide_eq_true_eq, decide_eq_false_iff_not, List.all_eq_true] at hL
  obtain ⟨⟨⟨⟨⟨⟨l1, l2⟩, l3⟩, l4⟩, l5⟩, l6⟩, l7⟩ := hL
  have hu : ∀ p ∈ τ.tabs, p.1 = P → p.2 = fun _ _ => q0 := fun p hp e => by
    rw [bs.tt] at hp
    obtain ⟨t, ht, rfl⟩ := List.mem_map.mp hp
    exact funext fun _ => funext fun _ => bs.un t ht (c, P, q0) hm e
  have hmT : (P, fun (_ _ : Nat) => q0) ∈ τ.tabs := by
    rw [bs.tt]; exact List.mem_map.mpr ⟨_, hm, rfl⟩
  have fr : ∀ y ∈ scope.names, y.2 = .free → X.env.scope.names.lookup y.1 = some .cell := fun y hy e => by
    rcases (l5 y hy).2 with z | z
    · exact absurd e z
    · exact z
  refine ⟨fun pins s σ H Q I h => ?_⟩
  have hfree : ∀ y ∈ scope.names, y.2 = .free → ∃ c, X.env.cells.lookup y.1 = some c := fun y hy e => I.ok.has _ (.inl (fr y hy e))
  have hallc : ∀ y c, (cloFrom X.env.cells scope.names []).lookup y = some c → X.env.cells.lookup y = some c := fun y c e => by
    rcases cloFrom_mem (PySem.mem_of_lookup e) with z | ⟨z1, z2⟩
    · cases z
    · obtain ⟨c1, hc⟩ := hfree _ z1 rfl
      have hc : X.env.cells.lookup y = some c1 := hc
      rw [z2, hc]; rfl
  have L : LamP p (cloFrom X.env.cells scope.names []) scope := ⟨l1, l2, l3, fun y hy => (l5 y hy).1, l4, fun y hl => mem_lookup (cloFrom_has (cells := X.env.cells) (acc := []) (PySem.mem_of_lookup hl))⟩
  have hcs : ∀ (n : Nat) (y : Str), cs[n]? = some y → ∃ i, caps[n]? = some i ∧ X.N[i]? = some y ∧ scope.names.lookup y = some .free ∧ X.env.scope.names.lookup y = some .cell := fun n y hy => by
    have hn : n < caps.length := by rw [l6]; exact (List.getElem?_eq_some_iff.mp hy).1
    have := l7 (caps[n], y) (List.mem_of_getElem? (i := n) (by rw [List.getElem?_zip_eq_some]; exact ⟨List.getElem?_eq_getElem hn, hy⟩))
    exact ⟨caps[n], List.getElem?_eq_getElem hn, this.1.1, this.1.2, this.2⟩
  obtain ⟨m, S, ρ, w', S', q0', e0, po⟩ := h
  obtain ⟨⟨wx, S1⟩, e2, e3⟩ := Option.bind_eq_some_iff.mp e0
  obtain ⟨ds, e4, e5⟩ := Option.bind_eq_some_iff.mp e3
  unfold lamX at e5
  split at e5
  · rename_i d hx
    have hx : wx = .d d := hx
    subst hx
    obtain ⟨⟨wr, Sr⟩, e6, e7⟩ := Option.bind_eq_some_iff.mp e5
    simp only at e7
    split at e7
    · rename_i y
      cases e7
      refine wpAny_Call_Name_kw (ld_glob I hg hmx ?_ hdb)
      refine PySem.W.callWith_K (h₀ := X.base) I.ok.mod.kin hkp ?_ hst1 hpl
      rw [hst]
      show wpAny _ _ (spliced ((false, eval e1 X.env) :: (false, eval (.Lambda params body scope lpos) X.env) :: [])) _ _ s
      refine Calls.spliced_cons (thn (ha.run pins s σ H (fun v H1 => ∃ ext, Rp X.K H1 v d ∧ Sim τ X.K (m ++ ext) S' ρ σ H1 ∧ Post τ X.K (m ++ ext) S' ρ σ H1 (.d y) Q) I ⟨m, S, ρ, .d d, S', q0', e2, fun ext H1 v hf q1 fr r => ⟨ext, r, q1, po.at hf q1 fr⟩⟩) fun u1 s1 ⟨v, H1, I1, r1, ext, rx, q1, p1⟩ => ?_)
      refine Calls.spliced_cons (lam_makeM (nm := fun _ _ => q0) I1 (bs.tb _ hm) hcode hmT hq hu q1.tb hdef hfree fun g c' pm ctv oc H2 s2 I2 fr2 tb2 hgf hgn hgr hco => ?_)
      rw [← hq] at hgf hco
      refine Calls.spliced_nil ⟨I2.kIn, ?_⟩
      have q2 : Sim τ X.K (m ++ ext) S' ρ σ H2 := q1.call fr2 tb2
      obtain ⟨xs, x1, x2, x3, x4⟩ := capD_of q2 e4
      have b2 : Bs tl (τ.lam c' q0 (xs.zip ds) g) X.K X.mg (raised X.stack s2 H2) := bs.lam I2
      have act : Act (τ.lam c' q0 (xs.zip ds) g) X.prog X.w X.K X.mg (raised X.stack s2 H2) (j + 1) (lamG F ds) := by
        refine act_of (cs := cs) (xs := xs) (ds := ds) (raised_get hgf hgn hgr) rfl (List.mem_cons_self ..) L (fun y z c h1 h2 => I2.ok.inj y z c (hallc _ _ h1) (hallc _ _ h2)) (fun y c h => cell_there I2 (by rw [hfn]) (hallc _ _ h)) (by rw [x2, l6]) x1 (fun i y x h1 h2 => ?_) (fun n d hd => ?_) (fun u => hbind _ _ _ _ _ u) (fun Y s H a b c d e r1 r2 => ?_) fun x y h => lamG_ok h
        · obtain ⟨i', h3, h4, h5, h6⟩ := hcs i y h1
          obtain ⟨c2, h7⟩ := L.free y h5
          obtain ⟨c3, u3, k1, k2, k3⟩ := cap_raised I2 (by rw [hfn]) h4 (x3 i i' x h3 h2) h6
          rw [hallc _ _ h7] at k1; cases k1
          exact ⟨h5, c2, u3, h7, k2, k3⟩
        · have hn' : n < xs.length := by
            rw [x1]; exact (List.getElem?_eq_some_iff.mp hd).1
          refine ⟨xs[n], List.getElem?_eq_getElem hn', List.mem_append_left _ ?_⟩
          refine List.mem_of_getElem? (i := n) ?_
          rw [List.getElem?_zip_eq_some]
          exact ⟨List.getElem?_eq_getElem hn', hd⟩
        · rw [cz_of a b c d e]
          exact hbody _ _ b2 Y.A Y.stack g c' s H _ r1 r2
      have G := (hF (lamG F ds) (j + 1) b2 act).up hk
      have want : spD (τ.lam c' q0 (xs.zip ds) g) X.K 2 (fs (lamG F ds)) [v, .ref g] H2 Q (fun _ _ _ => False) := by
        refine ⟨[], [], [.d d, .fn], _, _, ⟨fun i w h => by simp at h, rfl, by simp, fun n ob h => by simp at h, Nat.le_refl _, tb2.into hco x4⟩, .cons (Rp.mono fr2.kp _ _ rx) (.cons ⟨g, rfl, rfl⟩ .nil), rfl, e6, fun ext3 H3 v3 hf3 q3 fr3 r3 => ?_⟩
        exact p1 [] H3 v3 (fun _ h => absurd h (by simp)) (by rw [List.append_nil]; exact q2.call fr3 q3.tb.back) (fr2.wk.comp fr3.wk) r3
      have bb := hb s2 [u1, .ref g] I2.kIn (by rw [List.append_nil]; exact hps.symm)
      rw [List.append_nil] at bb
      refine wpAny_call (codeAny_mono (G.run X.A X.stack s2 H2 ⟨[u1, .ref g], []⟩ [u1, .ref g] [v, .ref g] Q _ room hgd (raised_env0 I2) bb (.cons r1 (.cons rfl .nil)) want) fun r s' hq => ?_)
      cases r with
      | error e => exact False.elim hq
      | ok fl =>
        cases fl with
        | ret u => exact I2.after hq
        | next => exact hq.elim
        | brk => exact hq.elim
        | cont => exact hq.elim
    · cases e7
  · cases e5
end
end DL
end
noncomputable section
namespace DL
open PySem PySem.Spec PyProof.Rows L2
def exP : PyData → Option (Str × List PyData)
  | .dict [(.none, .list (.str k :: xs))] => some (k, xs)
  | _ => none
def exW : W → Option (Str × List PyData)
  | .d x => exP x
  | _ => none
def exFl : Fl → Option (Str × List PyData)
  | .rt w => exW w
  | _ => none
/-- the classes of exceptions, and their fields -/
abbrev ExT := Str → Option (Addr × List Str)
/-- what stands in the heap of an exception that is in the air -/
def ExcR (K : PySem.W.Frag) (Ξ : ExT) (H : Hp) (cls : Value) (d : Option Addr) (k : Str) (xs : List PyData) : Prop :=
  ∃ C fs, Ξ k = some (C, fs) ∧ cls = .ref C ∧ xs.length = fs.length ∧ ∀ (i : Nat) (f : Str) (x : PyData), fs[i]? = some f → xs[i]? = some x → ∃ dd L v, d = some dd ∧ H dd = some (.xd L) ∧ L.lookup f = some v ∧ Rp K H v x
def PostZ (τ : Tbs) (K : PySem.W.Frag) (Ξ : ExT) (m : List Addr) (S' : Sto) (ρ : DEnv) (σ : L2.St) (H : Hp) (w : W) (Q : VK) (W : WX) : Prop :=
  (exW w = none → Post τ K m S' ρ σ H w Q) ∧ ∀ k xs, exW w = some (k, xs) → ∀ ext H' cls d, Fresh ext H → Sim τ K (m ++ ext) S' ρ σ H' → Fr m H H' → ExcR K Ξ H' cls d k xs → W cls d σ H'
def PostSZ (τ : Tbs) (K : PySem.W.Frag) (Ξ : ExT) (W : WX) (m : List Addr) (S' : Sto) (ρ' : DEnv) (σ : L2.St) (H : Hp) (fl : Fl) (D : Ends) : Prop :=
  ∀ ext σ' H', Fresh ext H → Sim τ K (m ++ ext) S' ρ' σ' H' → Fr m H H' → (exFl fl = none → EndsOk τ K D (m ++ ext) σ' H' fl) ∧ ∀ k xs, exFl fl = some (k, xs) → ∀ cls d, ExcR K Ξ H' cls d k xs → W cls d σ' H'
section
variable {τ : Tbs} {Ξ : ExT} {W' : WX} {K : PySem.W.Frag} {H H1 : Hp} {m ext : List Addr} {S S1 S' : Sto} {ρ ρ1 ρ' : DEnv} {σ σ1 : L2.St} {w : W} {D : Ends} {fl : Fl} {Q : VK}
theorem PostSZ.at (p : PostSZ τ K Ξ W' m S' ρ' σ H fl D) (f : Fresh ext H) (q : Sim τ K (m ++ ext) S1 ρ1 σ1 H1) (fr : Fr m H H1) : PostSZ τ K Ξ W' (m ++ ext) S' ρ' σ1 H1 fl D := fun e2 σ2 H2 f2 q2 fr2 => by
  have := p (ext ++ e2) σ2 H2 (f.append fr q f2) (by rwa [← List.append_assoc]) (fr.trans f fr2)
  rwa [← List.append_assoc] at this
theorem PostSZ.now (p : PostSZ τ K Ξ W' m S' ρ' σ H fl D) (q : Sim τ K m S' ρ' σ1 H) : (exFl fl = none → EndsOk τ K D m σ1 H fl) ∧ ∀ k xs, exFl fl = some (k, xs) → ∀ cls d, ExcR K Ξ H cls d k xs → W' cls d σ1 H := by
  have := p [] σ1 H (fun _ h => absurd h (by simp)) (by rwa [List.append_nil]) Fr.refl
  rwa [List.append_nil] at this
theorem PostZ.at (p : PostZ τ K Ξ m S' ρ σ H w Q W') (f : Fresh ext H) (q : Sim τ K (m ++ ext) S1 ρ σ H1) (fr : Fr m H H1) : PostZ τ K Ξ (m ++ ext) S' ρ σ H1 w Q W' :=
  ⟨fun e => (p.1 e).at f q fr, fun k xs e e2 H2 cls d f2 q2 fr2 x => p.2 k xs e (ext ++ e2) H2 cls d (f.append fr q f2) (by rwa [← List.append_assoc]) (fr.trans f fr2) x⟩
end
section
end
end DL
end
noncomputable section
namespace DL
open PySem PySem.Spec PyProof.Rows L2
section
end
section
end
section
end
def spI (C : Addr) (fs : List Str) : Sp := fun vs H Q _ => ∃ (a : Addr) (ws : List V), vs = .ref a :: ws ∧ ws.length = fs.length ∧ H a = some (exo a C none) ∧
  ∀ (d : Addr) (L : List (Str × V)) (H2 : Hp), H d = none → d ≠ a → H2 a = some (exo a C (some d)) → H2 d = some (exd d L) → (∀ b, b ≠ a → b ≠ d → H2 b = H b) → (∀ (i : Nat) (f : Str) (v : V), fs[i]? = some f → ws[i]? = some v → L.lookup f = some v) → Q .non H2
section
end
section
variable {P : Program} {w : World} {K : PySem.W.Frag} {mg : Str → Option Value} {base : Heap}
/-- an own class of exceptions with its own __init__ -/
structure ExF (P : Program) (w : World) (K : PySem.W.Frag) (mg : Str → Option Value) (base : Heap) (Ξ : ExT) (j : Nat) (x : Str) (C : Addr) (fs : List Str) : Prop where
  gP : mg x = some (.ref C)
  ix : Ξ x = some (C, fs)
  T : OexC K C
  init : ∃ (fI : Addr) (fd : FuncData) (ps : List Str), PySem.W.findIn K (.ref C) "__init__" = some (some (.ref fI)) ∧ PySem.W.typeIn K (.ref fI) = some (.type "function") ∧ FnOk P w K mg base (L2.CX P w) j fI fd ps (spI C fs) ∧ Binds K fd ps []
end
section
end
end DL
end
noncomputable section
namespace DL
open PySem PySem.Spec PyProof.Rows L2
section
end
/-- whether a class of exceptions is caught by a clause -/
def mtc (k c : Str) : Bool := k == c || c == "OnError"
section
end
end DL
end
noncomputable section
namespace DL
open PySem PySem.Spec PyProof.Rows L2
/-- a def whose code object is known -/
structure FunC (K : PySem.W.Frag) (x qual : Str) (st : Stmt) (f : Addr) (fd : FuncData) (c : Addr) : Prop where
  ex : ∃ (oc : Value) (od : Option Addr) (kV doc pm : Value) (an : Option Addr) (ct : Value) (osl : Array (Option Value)),
    fd = PySem.W.fnOf x qual (defArgs st) (defBody st) (defScope st) .none kV doc pm an (.ref c) ct ∧ K.lookup f = some ⟨oc, od, .func fd, osl⟩ ∧ PySem.W.codeIn K (.ref c) qual = true
  kp : PySem.W.keepIn K (.ref f) = true
theorem funC_mk {K : PySem.W.Frag} {x qual : Str} {st : Stmt} {f c : Addr} {kV doc pm ct oc : Value} {an od : Option Addr} {osl : Array (Option Value)} (lk : K.lookup f = some ⟨oc, od, .func (PySem.W.fnOf x qual (defArgs st) (defBody st) (defScope st) .none kV doc pm an (.ref c) ct), osl⟩) (hcd : PySem.W.codeIn K (.ref c) qual = true) (kp : PySem.W.keepIn K (.ref f) = true) :
    FunC K x qual st f (PySem.W.fnOf x qual (defArgs st) (defBody st) (defScope st) .none kV doc pm an (.ref c) ct) c := ⟨⟨oc, od, kV, doc, pm, an, ct, osl, rfl, lk, hcd⟩, kp⟩
theorem fnGC {τ : Tbs} {P : Program} {w : World} {K : PySem.W.Frag} {mg : Str → Option Value} {base : Heap} {x qual : Str} {st : Stmt} {f c : Addr} {fd : FuncData} {N ps : List Str} {k : Nat} {b : MS} (F : FunC K x qual st f fd c) (sc : FnScope N ps (defScope st))
    (body : ∀ (A : Around) (outer : List Env) (s : Shared) (H : Hp) (E : XK), Room k (A.deeper (envOfC qual (defScope st) s.heap.objs.size f (.ref c))) → (A.deeper (envOfC qual (defScope st) s.heap.objs.size f (.ref c))).guards = some [] →
      PSs (cxOf CX0 P w K mg base N qual (defScope st) f (.ref c) A outer s H E).nox (defBody st) (rdS τ K b)) : FnG P w K mg base (k + 1) f fd ps (spD τ K ps.length (runF N.length b)) := by
  obtain ⟨oc, od, kV, doc, pm, an, ct, osl, e, lk, hcd⟩ := F.ex
  subst e
  exact fnGcd lk hcd sc body
theorem TabM.empty {H : Hp} {P : Addr} {nm : Nat → Nat → Str} (h : H P = some (.tbl #[])) : TabM H P nm := ⟨#[], h, True.intro, fun pos cv hc => by
  have z : codeAmong pos [] = some cv := hc
  simp [codeAmong] at z⟩
def TL.tbs (tl : TL) : Tbs := ⟨tl.map fun p => (p.2.1, fun _ _ => p.2.2), [], [], none⟩
def EmptyT (h : Heap) (P : Addr) : Prop := h.get? P = some { cls := .none, data := .fields #[] }
theorem lawT {P : Program} {w : World} {K : PySem.W.Frag} {mg mb : Str → Option Value} {k : Nat} {fa a : Addr} {fd : FuncData} {x : Str} {f : FS} {s₁ : Shared} {vs : List Value} {ns : List Int} {tl : TL}
    (inK : K.In s₁.heap) (gl : s₁.heap.Ns mainGlobals mg) (bl : s₁.heap.Ns builtinsNs mb) (bb : ∀ x : Str, x ≠ "__name__" → mb x = bootBuiltins x) (nl : s₁.heap.NoLimit) (ng : s₁.gens = #[]) (sy : ∃ mm, s₁.heap.Ns PySem.sysModules mm)
    (hT : ∀ p ∈ tl, EmptyT s₁.heap p.2.1) (nT : ∀ p ∈ tl, K.lookup p.2.1 = none) (C : ∀ p ∈ tl, PySem.W.CodeHd s₁.heap p.1 p.2.1) (un : ∀ p ∈ tl, ∀ q ∈ tl, p.2.1 = q.2.1 → p.2.2 = q.2.2)
    (hbm : ∃ (bm : Addr) (ob : Obj), mg "__builtins__" = some (.ref bm) ∧ bm ≠ builtinsNs ∧ s₁.heap.get? bm = some ob ∧ ob.cls = .type "module" ∧ ob.dict = some builtinsNs ∧ ob.data = .plain)
    (obj : s₁.heap.get? a = some { cls := .type "list", data := .seq vs.toArray }) (hi : IntsAre vs ns) (few : ns.length ≤ sizeLine) (room : Room k callerA)
    (F : ∀ {τ : Tbs} {base : Heap}, Bs tl τ K mg base → FnG P w K mg base k fa fd [x] (spD τ K 1 f)) (bind : ∀ (s : Shared) (u : Value), BindsTo s fd ⟨[u], []⟩ [(x, u)])
    (hf : f [.d (.list (ns.map .int))] [] = some (.d (.bool true), [])) :
    codeAny (model P w) callerA (.call (.ref fa) ⟨[.ref a], []⟩) (fun r s' => r = .ok (.ret (.bool true)) ∧ OldK s₁.heap s'.heap ∧ s'.os = s₁.os ∧ AllBare s'.gens) s₁ := by
  have rel := vals_ints hi
  have len := hi.length
  -- the tables' addresses
  obtain ⟨ts, hts⟩ : ∃ ts : List Addr, ts = tl.map (·.2.1) := ⟨_, rfl⟩
  have tin : ∀ p ∈ tl, p.2.1 ∈ ts := fun p hp => by rw [hts]; exact List.mem_map_of_mem (f := fun z : Addr × Addr × Str => z.2.1) hp
  have tab : ∀ b ∈ ts, EmptyT s₁.heap b := fun b hb => by
    rw [hts] at hb
    obtain ⟨p, hp, rfl⟩ := List.mem_map.mp hb
    exact hT p hp
  have tabK : ∀ b ∈ ts, K.lookup b = none := fun b hb => by
    rw [hts] at hb
    obtain ⟨p, hp, rfl⟩ := List.mem_map.mp hb
    exact nT p hp
  have aT : a ∉ ts := fun z => by
    have := tab a z
    unfold EmptyT at this
    rw [obj] at this
    cases this
  let HT : Hp := fun b => if b ∈ ts then some (.tbl #[]) else none
  have HTin : ∀ b ∈ ts, HT b = some (.tbl #[]) := fun b hb => if_pos hb
  have HTout : ∀ b, b ∉ ts → HT b = none := fun b hb => if_neg hb
  suffices main : ∀ H : Hp, (∀ b ∈ ts, H b = some (.tbl #[])) → (∀ b, b ∉ ts → H b = none ∨ (b = a ∧ K.lookup a = none ∧ ∃ o xs, H b = some (.frz o (.lst xs)))) → FzL K H a (ns.map V.int) → HOk P w H s₁.heap →
      codeAny (model P w) callerA (.call (.ref fa) ⟨[.ref a], []⟩) (fun r s' => r = .ok (.ret (.bool true)) ∧ OldK s₁.heap s'.heap ∧ s'.os = s₁.os ∧ AllBare s'.gens) s₁ by
    have okT : ∀ b u, HT b = some u → s₁.heap.get? b = some { cls := .none, data := .fields #[] } ∧ u = .tbl #[] := fun b u z => by
      by_cases c : b ∈ ts
      · rw [HTin b c] at z; cases z; exact ⟨tab b c, rfl⟩
      · rw [HTout b c] at z; cases z
    cases lk : K.lookup a with
    | some o =>
      have e := inK a o lk
      rw [obj] at e
      cases e
      refine main HT HTin (fun b hb => .inl (HTout b hb)) (.inr ⟨.inr ⟨_, vs.toArray, _, lk, rfl, rfl, rfl, ?_, by simpa using rel⟩, fun x hx => by
        obtain ⟨i, _, rfl⟩ := List.mem_map.mp hx
        exact ⟨i, rfl⟩⟩) fun b u z => ?_
      · rw [List.size_toArray, len]; exact few
      · obtain ⟨h1, rfl⟩ := okT b u z
        exact h1
    | none =>
      refine main (upd HT a (.frz { cls := .type "list", data := .seq vs.toArray } (.lst (ns.map V.int)))) (fun b hb => by rw [upd_ne (fun z => by subst z; exact aT hb)]; exact HTin b hb) (fun b hb => ?_) (.inl ⟨_, upd_same⟩) fun b u z => ?_
      · by_cases c : b = a
        · exact .inr ⟨c, lk, _, _, by rw [c]; exact upd_same⟩
        · exact .inl (by rw [upd_ne c]; exact HTout b hb)
      · by_cases c : b = a
        · subst c
          rw [upd_same] at z
          cases z
          exact ⟨obj, by rw [List.length_map]; exact few, vs, _, rel, obj⟩
        · rw [upd_ne c] at z
          obtain ⟨h1, rfl⟩ := okT b u z
          exact h1
  intro H inT only isL hok
  have plain : ∀ {b : Addr} {o : Obj}, s₁.heap.get? b = some o → o.data ≠ .fields #[] → (∀ vs n, o.data ≠ .seq vs n) → H b = none := by
    intro b o e d1 d2
    have hb : b ∉ ts := fun z => by
      have := tab b z
      unfold EmptyT at this
      rw [this] at e
      cases e
      exact d1 rfl
    rcases only b hb with z | ⟨rfl, _⟩
    · exact z
    · rw [obj] at e
      cases e
      exact absurd rfl (d2 _ _)
  have nsH : ∀ {b : Addr} {m : Str → Option Value}, s₁.heap.Ns b m → (hidT s₁.heap H).Ns b m := by
    rintro b m ⟨o, es, ep, e, d, r⟩
    exact ⟨o, es, ep, hidT_get e (plain e (by rw [d]; intro z; cases z) (fun _ _ => by rw [d]; intro z; cases z)), d, r⟩
  have inB : K.In (hidT s₁.heap H) := by
    intro b o e
    refine hidT_get (inK b o e) ?_
    have hb : b ∉ ts := fun z => by rw [tabK b z] at e; cases e
    rcases only b hb with z | ⟨rfl, z, _⟩
    · exact z
    · rw [z] at e; cases e
  have md : Mod K mg (hidT s₁.heap H) := by
    obtain ⟨mc, c1, c2⟩ := nl
    exact ⟨inB, nsH gl, ⟨mb, nsH bl, bb⟩, ⟨mc, nsH c1, c2⟩⟩
  have e0 : Env0 P w K mg (hidT s₁.heap H) callerA [] s₁ H := by
    refine ⟨rfl, md, fun b o e => of_hidT e, Nat.le_of_eq (hidT_size _ _), trivial, ?_, hok, .of_eq ng⟩
    intro b hb
    simp [frs] at hb
  have tbB : ∀ p ∈ tl, LamX.TabB (hidT s₁.heap H) mg p.1 p.2.1 := fun p hp => by
    have tp := hT p hp
    unfold EmptyT at tp
    have noG : mainGlobals ≠ p.2.1 := fun z => by
      obtain ⟨o, es, ep, e, d, _⟩ := gl
      rw [z, tp] at e
      cases e
      cases d
    refine ⟨?_, ?_, noG⟩
    · obtain ⟨o, us, h1, h2, h3, h4, h5, h6, h7, e, r1, r2, r3, rest⟩ := C p hp
      have z : H p.1 = none := plain e (fun z => by rw [r2] at z; cases z; simp at r3) fun _ _ z => by rw [r2] at z; cases z
      exact ⟨o, us, h1, h2, h3, h4, h5, h6, h7, hidT_get e z, r1, r2, r3, rest⟩
    · obtain ⟨bm, ob, b1, b2, b3, b4, b5, b6⟩ := hbm
      have z : H bm = none := plain b3 (fun z => by rw [b6] at z; cases z) fun _ _ z => by rw [b6] at z; cases z
      have n1 : bm ≠ mainGlobals := fun z => by
        obtain ⟨o, es, ep, e, d, _⟩ := gl
        rw [z] at b3
        cases b3.symm.trans e
        rw [d] at b6; cases b6
      have n2 : bm ≠ p.2.1 := fun z => by
        rw [z] at b3
        cases b3.symm.trans tp
        cases b6
      exact ⟨bm, ob, b1, b2, n1, n2, hidT_get b3 z, b4, b5, b6⟩
  have bsB : Bs tl tl.tbs K mg (hidT s₁.heap H) := ⟨inB, nsH gl, tbB, rfl, un, sy.imp fun _ z => nsH z⟩
  have tb0 : TabsM tl.tbs K H := ⟨fun p hp => by
    obtain ⟨q, hq, rfl⟩ := List.mem_map.mp hp
    exact TabM.empty (inT _ (tin q hq)), fun p hp => (by cases hp), fun p hp => (by cases hp)⟩
  have want : spD tl.tbs K 1 f [.ref a] H (fun v _ => v = .bl true) fun _ _ _ => False := by
    refine ⟨[], [], [.d (.list (ns.map .int))], _, _, ⟨fun i w h => by simp at h, rfl, by simp, fun n ob h => by simp at h, Nat.le_refl _, tb0⟩, .cons ?_ .nil, rfl, hf, fun ext H' v _ _ _ r => rp_bl r⟩
    refine Rp.lst isL ?_
    clear hf len rel hi few isL
    induction ns with
    | nil => exact .nil
    | cons n ns ih => exact .cons (.int n) ih
  refine codeAny_mono ((F bsB).run callerA [] s₁ H ⟨[.ref a], []⟩ [.ref a] [.ref a] _ _ room rfl e0 (bind s₁ (.ref a)) (.cons rfl .nil) want) fun r s' h => ?_
  cases r with
  | error e => exact False.elim h
  | ok fl =>
    cases fl with
    | next => exact False.elim h
    | brk => exact False.elim h
    | cont => exact False.elim h
    | ret u =>
      obtain ⟨v, H', os, bare, ulm, hok', rv, q⟩ := h
      obtain rfl : v = .bl true := q
      obtain rfl : u = Value.bool true := rv
      have still : ∀ b o, b ∉ ts → s₁.heap.get? b = some o → s'.heap.get? b = some o := fun b o hb e => by
        rcases only b hb with z | ⟨_, _, ob, xs, z⟩
        · exact ulm.keep b o e z (by simp [frs]) (by simp)
        · have z2 := ulm.frzs b ob _ z
          obtain ⟨e1, _⟩ := hok b _ z
          obtain ⟨e2, _⟩ := hok' b _ z2
          rw [e] at e1
          cases e1
          exact e2
      have more : ∀ p ∈ tl, ∃ us : Array Value, s'.heap.get? p.2.1 = some { cls := .none, data := .fields us } := fun p hp => by
        obtain ⟨us, z⟩ := ulm.tbls p.2.1 #[] (inT _ (tin p hp))
        exact ⟨_, hok' _ _ z⟩
      refine ⟨rfl, ⟨fun b o e => ?_, fun b o e => ?_⟩, os, bare⟩
      · by_cases hb : b ∈ ts
        · rw [hts] at hb
          obtain ⟨p, hp, rfl⟩ := List.mem_map.mp hb
          obtain ⟨us, hus⟩ := more p hp
          have tp := hT p hp
          unfold EmptyT at tp
          rw [tp] at e
          cases e
          exact .inr (.inl ⟨((C p hp).tab tp).isCodeTable, rfl, #[], us, rfl, by rw [Array.empty_append]; exact hus⟩)
        · exact .inl (still b o hb e)
      · by_cases hb : b ∈ ts
        · rw [hts] at hb
          obtain ⟨p, hp, rfl⟩ := List.mem_map.mp hb
          obtain ⟨us, hus⟩ := more p hp
          exact ⟨_, hus⟩
        · exact ⟨o, still b o hb e⟩
/-- the tables are no part of what is written -/
theorem no_tab {K : PySem.W.Frag} {h : Heap} {P : Addr} (X : K.In h) (nt : PySem.W.noTabs K = true) (e : EmptyT h P) : K.lookup P = none := by
  cases z : K.lookup P with
  | none => rfl
  | some o =>
    have e1 := X P o z
    unfold EmptyT at e
    rw [e] at e1
    cases e1
    have := List.all_eq_true.mp nt _ (PySem.W.mem_of_lookupK z)
    simp at this
/-- what k_head leaves, from the law's function of data; ts: the tables -/
theorem walkT {l : PySem.W.OpenLaw} {n k : Nat} {q : Program} {loose : List Str} {XP : (Str → Option Value) → Heap → Prop} {YP : World → Heap → Prop} {d : DefRec} {K : Params → PySem.W.Frag} {f : FS} {x : Str} {ts : List Addr}
    (hn : l.most = some n) (hn2 : n ≤ sizeLine) (hdf : d.params.defaults = []) (room : Room k callerA)
    (hY : ∀ (w : World) (h : Heap), YP w h → (K w.params).In h ∧ ∀ P ∈ ts, h.get? P = some (PySem.W.tabObj #[]))
    (F : ∀ (w : World) (mg : Str → Option Value) (fa : Addr) (h : Heap), (K w.params).In h → h.Ns mainGlobals mg → mg d.name = some (.ref fa) →
      ∃ (fd : FuncData) (tl : TL), (∀ (s : Shared) (u : Value), BindsTo s fd ⟨[u], []⟩ [(x, u)]) ∧ (∀ p ∈ tl, p.2.1 ∈ ts ∧ PySem.W.codeHdIn (K w.params) p.1 p.2.1 = true) ∧ PySem.W.noTabs (K w.params) = true ∧ (∀ p ∈ tl, ∀ q ∈ tl, p.2.1 = q.2.1 → p.2.2 = q.2.2) ∧
        ∀ {τ : Tbs} {base : Heap}, Bs tl τ (K w.params) mg base → FnG l.prog w (K w.params) mg base k fa fd [x] (spD τ (K w.params) 1 f))
    (hf : ∀ ns : List Int, ns.length ≤ n → f [.d (.list (ns.map .int))] [] = some (.d (.bool true), [])) (hi : PyProof.Rows.importsNone q = true := by decide +kernel) :
    PySem.W.WalkO q loose XP YP l.row.toRowW d [] (fun f vs => PySem.call f vs) := by
  refine Att.attach_call hn hdf fun w s₀ s₁ mg mb fa o pm cd doc a vs ns G Y ho hd hcd hmg obj isI hlen hg => ?_
  obtain ⟨inK, hE⟩ := hY w _ Y
  obtain ⟨fd, tl, hb, h1, h2, h3, hF⟩ := F w mg fa _ inK G.T.g hmg
  exact lawT (tl := tl) inK G.T.g G.T.b G.T.builtins G.T.nolimit hg (let ⟨mm, e, _⟩ := (G.T.seer hi).mods; ⟨mm, e⟩) (fun p hp => hE _ (h1 p hp).1) (fun p hp => no_tab inK h2 (hE _ (h1 p hp).1)) (fun p hp => PySem.W.codeHd_of_K inK (h1 p hp).2) h3 G.T.bmain obj isI (Nat.le_trans hlen hn2) room hF hb (hf ns hlen)
theorem tl_un : ∀ {tl : TL}, (tl.map (·.2.1)).Nodup → ∀ p ∈ tl, ∀ q ∈ tl, p.2.1 = q.2.1 → p.2.2 = q.2.2
  | [], _, p, hp, _, _, _ => absurd hp (by simp)
  | t :: tl, nd, p, hp, q, hq, e => by
    rw [List.map_cons, List.nodup_cons] at nd
    rcases List.mem_cons.mp hp with rfl | h1 <;> rcases List.mem_cons.mp hq with rfl | h2
    · rfl
    · exact absurd (List.mem_map.mpr ⟨q, h2, e.symm⟩) nd.1
    · exact absurd (List.mem_map.mpr ⟨p, h1, e⟩) nd.1
    · exact tl_un nd.2 p h1 q h2 e
end DL
end
noncomputable section
namespace DL
open PySem PySem.Spec PyProof.Rows L2
section
end
section
end
section
end
end DL
end
noncomputable section
namespace DL
open PySem PySem.Spec PyProof.Rows L2
structure ExA (P : Program) (w : World) (K : PySem.W.Frag) (mg : Str → Option Value) (Ξ : ExT) (x : Str) (C : Addr) (fs : List Str) : Prop where
  gP : mg x = some (.ref C)
  mt : ∀ k Ck fs', Ξ k = some (Ck, fs') → PySem.W.exmOne K (.ref Ck) (.ref C) = some (mtc k x)
  ix : x ≠ "OnError" → Ξ x = some (C, fs)
  xf : fs ≠ [] → XfC K C
  nf : ∀ f ∈ fs, PySem.W.findIn K (.ref C) f = some none
  mk1 : fs ≠ [] → ∀ base, ExF P w K mg base Ξ 1 x C fs
  mk0 : fs = [] → x ≠ "OnError" → ExcT K mg x C
section
end
theorem ExA.names {X : Cx} {P : Program} {w : World} {Ξ : ExT} {x : Str} {C : Addr} {fs : List Str} (h : ExA P w X.K X.mg Ξ x C fs) (hg : Gl X x) (hd : (x == ("__debug__" : Str)) = false := by decide) : Names X x (.ref C) := ⟨hg, hd, .inl h.gP⟩
end DL
end
noncomputable section
namespace DL
open PySem PySem.Spec PyProof.Rows L2
section
end
section
end
section
end
section
variable {K : PySem.W.Frag} {g g1 : MG} {T T1 : MT} {A V : ME} {it it1 : MI} {vs vs1 : List Nat} {m : List Addr} {S S9 : Sto} {ρ : DEnv} {σ : L2.St} {B H : Hp} {D : Addr} {us0 : List (List Key × L2.V)} {acc0 accN : List (List Key × W)} {ws : List W} {J : It} {Q : VK}
def dc2L (g : MG) (T : MT) (it1 : MI) (g1 : MG) (T1 : MT) (A V : ME) (vs vs1 : List Nat) (ρ : DEnv) : List W → List (List Key × W) → Sto → Option (List (List Key × W) × Sto)
  | [], acc, S => some (acc, S)
  | w :: ws, acc, S => (g w (wipeD ρ vs) S).bind fun p => (T p.1 p.2).bind fun b => if b.1 = true then (it1 p.1 b.2).bind fun q => (dcL g1 T1 A V vs1 p.1 q.1 acc q.2).bind fun y => dc2L g T it1 g1 T1 A V vs vs1 ρ ws y.1 y.2 else dc2L g T it1 g1 T1 A V vs vs1 ρ ws acc b.2
def mDc2 (it : MI) (g : MG) (T : MT) (it1 : MI) (g1 : MG) (T1 : MT) (A V : ME) (vs vs1 : List Nat) : ME := fun ρ S => (it ρ S).bind fun p => (dc2L g T it1 g1 T1 A V vs vs1 ρ p.1 [] p.2).bind fun r => some (.loc r.2.length, r.2 ++ [.dicT r.1])
end
section
end
end DL
end
noncomputable section
namespace DL
open PySem PySem.Spec PyProof.Rows L2
section
end
def popT2 (n : Nat) (w d : W) (S : Sto) : Option (W × Sto) := match S[n]? with
  | some (.dicT kvs) => match w with
    | .d (.tuple ds) => (keysE ds).bind fun k => match valW kvs k with
      | some v => some (v, S.set n (.dicT (dropW kvs k)))
      | none => some (d, S)
    | _ => none
  | _ => none
def mPopD2 (A B C : ME) : ME := fun ρ S => (A ρ S).bind fun p => match p.1 with
  | .loc n => if isDic p.2 (.loc n) = true then (B ρ p.2).bind fun q => (C ρ q.2).bind fun r => popT2 n q.1 r.1 r.2 else none
  | .d _ => none
  | .fn => none
/-- dict(d), the keys tuples of numbers whose hashes differ -/
def gCpy (ds : List (PyData × PyData)) : Prop := (∀ q ∈ ds, (keyTP q.1).isSome = true) ∧ (∀ q ∈ ds, intK (keyT q.1) = true) ∧ (ds.map fun q => hashT (keyT q.1)).Nodup
def dictC : List W → Sto → Option (W × Sto) := fun ws S => match ws with
  | [.d (.dict ds)] => @ite _ (gCpy ds) (gd _) (some (.loc S.length, S ++ [.dicT (ds.map fun q => (keyT q.1, .d q.2))])) none
  | ws => dictU ws S
def lockWs : List W → Sto → Option (List PyData × Sto)
  | [], S => some ([], S)
  | .d x :: ws, S => (lockWs ws S).map fun p => (x :: p.1, p.2)
  | .loc n :: ws, S => match S[n]? with
    | some (.lst us) => (allD us).bind fun ds => (lockWs ws (S.set n .dead)).map fun p => (.list ds :: p.1, p.2)
    | _ => none
  | .fn :: _, _ => none
def frz2O (S : Sto) : Ob → Option (PyData × Sto)
  | .lst ws => (lockWs ws S).map fun p => (.list p.1, p.2)
  | .dicT kvs => if (kvs.any fun q => q.1.isEmpty) = true then none else (lockWs (kvs.map (·.2)) S).map fun p => (.dict ((kvs.map fun q => PyData.tuple (q.1.map keyP)).zip p.1), p.2)
  | _ => none
def frz2X (p : W × Sto) : Option (W × Sto) := match p.1 with
  | .loc j => (p.2[j]?).bind fun o => (frz2O (p.2.set j .dead) o).map fun r => (.d r.1, r.2)
  | .d _ => none
  | .fn => none
def mFrz2 (A : ME) : ME := fun ρ S => (A ρ S).bind frz2X
end DL
end
noncomputable section
namespace DL
open PySem PySem.Spec PyProof.Rows L2
section
end
/-- the pairs of a dict, as tuples -/
def prI (ds : List (PyData × PyData)) : List PyData := ds.map fun q => PyData.tuple [q.1, q.2]
/-- no key a plain one, no pair a row -/
def gItm (ds : List (PyData × PyData)) : Bool := ds.all fun q => !atomP q.1 && !ruly [q.1, q.2]
/-- sorted(d.items()) -/
def mSortIt (A : ME) : ME := fun ρ S => (A ρ S).bind fun p => match p.1 with
  | .d (.dict ds) => (ofPs (prI ds)).bind fun cs => if gItm ds = true ∧ sortable cs = true then some (.d (.list (toPs (sortC cs))), p.2) else none
  | _ => none
/-- whole numbers -/
def intsE : List PyData → Option (List Int)
  | [] => some []
  | .int i :: ds => (intsE ds).map (i :: ·)
  | _ :: _ => none
def maxI : List Int → Option Int
  | [] => none
  | i :: is => some (is.foldl max i)
/-- max(d.values()) -/
def mMaxV (A : ME) : ME := fun ρ S => (A ρ S).bind fun p => match p.1 with
  | .d (.dict ds) => if (ds.all fun q => !atomP q.1) = true then (intsE (ds.map (·.2))).bind fun ns => (maxI ns).map fun i => (.d (.int i), p.2) else none
  | _ => none
section
end
def clearT (n : Nat) (S : Sto) : Option (W × Sto) := match S[n]? with
  | some (.dicT _) => some (.d .none, S.set n (.dicT []))
  | _ => none
def mClearD (A : ME) : ME := fun ρ S => (A ρ S).bind fun p => match p.1 with
  | .loc n => clearT n p.2
  | .d _ => none
  | .fn => none
theorem rdE.imp {K : PySem.W.Frag} {A : ME} {σ : L2.St} {H : Hp} {Q Q' : VK} (q : rdE τ K A σ H Q) (h : ∀ v H, Q v H → Q' v H) : rdE τ K A σ H Q' := by
  obtain ⟨m, S, ρ, w, S', q, e, p⟩ := q
  exact ⟨m, S, ρ, w, S', q, e, fun ext H' v f q fr r => h _ _ (p ext H' v f q fr r)⟩
section
end
end DL
end
noncomputable section
namespace DL
open PySem PySem.Spec PyProof.Rows L2
section
end
section
end
end DL
end
noncomputable section
namespace DL
open PySem PySem.Spec PyProof.Rows L2
section
end
end DL
end
noncomputable section
namespace DL
open PySem PySem.Spec PyProof.Rows L2
open PySem.W (KdxIt kdx_alive)
/-- two tuples' iterators at one place, as a zip has them -/
structure TwoT (h : Heap) (TI i1 i2 l1 l2 : Addr) (k : Nat) (xs ys : Array Value) : Prop where
  p : IsPair h TI (.ref i1) (.ref i2)
  a : h.IsTupleIter i1 l1 k
  b : h.IsTupleIter i2 l2 k
  u : h.IsTuple l1 xs
  v : h.IsTuple l2 ys
section
variable {prog : Program} {w : World} {A : Around} {E : Value → Shared → Prop} {s : Shared} {z TI TO T i1 i2 l1 l2 : Addr} {f : Bool} {oT : Obj} {k : Nat} {xs ys : Array Value} {x y : Value}
theorem isTuple_at {h h' : Heap} {t : Addr} {its : Array Value} (x : h.IsTuple t its) (e : ∀ o, h.get? t = some o → h'.get? t = some o) : h'.IsTuple t its := by
  obtain ⟨o, ho, r⟩ := x
  exact ⟨o, e _ ho, r⟩
theorem TwoT.at {h h' : Heap} (t : TwoT h TI i1 i2 l1 l2 k xs ys) (e : ∀ c o, h.get? c = some o → h'.get? c = some o) : TwoT h' TI i1 i2 l1 l2 k xs ys :=
  ⟨e _ _ t.p, t.a.at fun o q => e _ o q, t.b.at fun o q => e _ o q, isTuple_at t.u fun o q => e _ o q, isTuple_at t.v fun o q => e _ o q⟩
end
end DL
end
noncomputable section
namespace DL
open PySem PySem.Spec PyProof.Rows L2
section
end
section
end
end DL
end
noncomputable section
namespace DL
open PySem PySem.Spec PyProof.Rows L2
section
end
end DL
end
noncomputable section
namespace DL
open PySem PySem.Spec PyProof.Rows L2
open PpSet (newSet_ok eval_SetComp compTurn_set codeAny_compStart_set compLoopS_any)
section
end
end DL
end
noncomputable section
namespace DL
open PySem PySem.Spec PyProof.Rows L2
end DL
end
noncomputable section
namespace DL
open PySem PySem.Spec PyProof.Rows L2
section
end
section
end
section
end
end DL
end
noncomputable section
namespace DL
open PySem PySem.Spec PyProof.Rows L2
section
end
theorem NP.mono {K : PySem.W.Frag} {H H' : Hp} {rows : List NRow} {kvs : List (List (List Int) × PyData)} (r : NP K H rows kvs) (k : Kp H H') : NP K H' rows kvs := Paired.mapP r fun _ _ z => ⟨z.1, z.2.1.mono k, z.2.2.mono' k⟩
section
end
section
end
def dropR {α : Type} (rows : List (List (List Int) × α)) (k : List (List Int)) : List (List (List Int) × α) := rows.filter fun q => decide (q.1 ≠ k)
theorem NR.drop {rows : List NRow} {xs : List (List (List Int) × Addr × Value)} (r : NR rows xs) (k : List (List Int)) : NR (dropR rows k) (DT.dropH xs k) := by
  unfold dropR DT.dropH
  induction r with
  | nil => exact .nil
  | @cons p q _ _ h t ih =>
    by_cases e : p.1 = k
    · have e2 : q.1 = k := by rw [← h.1]; exact e
      rw [List.filter_cons_of_neg (by simp [e]), List.filter_cons_of_neg (by simp [e2])]
      exact ih
    · have e2 : q.1 ≠ k := by rw [← h.1]; exact e
      rw [List.filter_cons_of_pos (by simp [e]), List.filter_cons_of_pos (by simp [e2])]
      exact .cons h ih
theorem NP.drop {K : PySem.W.Frag} {H : Hp} {rows : List NRow} {kvs : List (List (List Int) × PyData)} (r : NP K H rows kvs) (k : List (List Int)) : NP K H (dropR rows k) (dropR kvs k) := by
  unfold dropR
  induction r with
  | nil => exact .nil
  | @cons p q _ _ h t ih =>
    by_cases e : p.1 = k
    · have e2 : q.1 = k := by rw [← h.1]; exact e
      rw [List.filter_cons_of_neg (by simp [e]), List.filter_cons_of_neg (by simp [e2])]
      exact ih
    · have e2 : q.1 ≠ k := by rw [← h.1]; exact e
      rw [List.filter_cons_of_pos (by simp [e]), List.filter_cons_of_pos (by simp [e2])]
      exact .cons h ih
section
end
end DL
end
noncomputable section
namespace DL
open PySem PySem.Spec PyProof.Rows L2
open PySem.W
end DL
end
noncomputable section
namespace DL
open PySem PySem.Spec PyProof.Rows L2
section
end
end DL
end
noncomputable section
namespace DL
open PySem PySem.Spec PyProof.Rows L2
section
end
end DL
end
noncomputable section
namespace DL
open PySem PySem.Spec PyProof.Rows L2
def tyE : PyData → String
  | .none => "NoneType"
  | .bool _ => "bool"
  | .int _ => "int"
  | .str _ => "str"
  | .list _ => "list"
  | .tuple _ => "tuple"
  | .dict _ => "dict"
/-- a class of a value, a locked dict with tuple keys too -/
def TyY (K : PySem.W.Frag) (H : Hp) (x : V) (t : Value) : Prop := TyX K H x t ∨ ∃ a o us, x = .ref a ∧ t = .type "dict" ∧ H a = some (.frz o (.dT us))
theorem tyD_E {d : PyData} {a : String} (e : tyD d = some a) : a = tyE d := by
  cases d <;> simp only [tyD, Option.some.injEq, reduceCtorEq] at e <;> exact e.symm
theorem ty_rpE {K : PySem.W.Frag} {H : Hp} {x : V} {d : PyData} (r : Rp K H x d) : TyY K H x (.type (tyE d)) := by
  cases e : tyD d with
  | some a =>
    obtain rfl := tyD_E e
    exact .inl (ty_rp r e)
  | none =>
    cases r with
    | non => cases e
    | bl b => cases e
    | int i => cases e
    | str y => cases e
    | lst => cases e
    | tup => cases e
    | tupZ => cases e
    | dicT f _ _ _ => exact .inr ⟨_, _, _, rfl, rfl, f⟩
    | dicK f _ _ _ => exact .inl (.fDict f)
section
variable {X : Cx} {pins : List (Addr × Obj)} {σ : L2.St} {H : Hp} {s : Shared}
theorem kit_ofY {x : V} {u t : Value} (I : Inv X pins σ H s) (rx : RelV x u) (ty : TyY X.K H x t) : ∃ P : Heap → Prop, PySem.W.KitX X.K u t P ∧ P s.heap ∧ u ≠ .builtin "__main__.__loader__#opaque" := by
  rcases ty with ty | ⟨a, o, us, rfl, rfl, e⟩
  · exact kit_of I rx ty
  · cases rx
    obtain ⟨_, _, _, _, o, _, _, h1, h2, _⟩ := dt_rd I.hok (.inr ⟨_, e⟩)
    exact ⟨_, PySem.W.kitx_dict, ⟨o, h1, h2.1⟩, fun z => nomatch z⟩
end
def rIsiY (K : PySem.W.Frag) : List V → Hp → VK → Prop := fun xs H Q => ∃ (x c : V) (t u : Value) (b : Bool), xs = [x, c] ∧ ClsV c u ∧ TyY K H x t ∧ PySem.W.kitOne K t u = some b ∧ Q (.bl b) H
def rIsiTY (K : PySem.W.Frag) : List V → Hp → VK → Prop := fun xs H Q => ∃ (x : V) (tp : Addr) (cs : List V) (t : Value) (us : List Value) (b : Bool), xs = [x, .ref tp] ∧ H tp = some (.tup cs) ∧ Paired ClsV cs us ∧ TyY K H x t ∧ PySem.W.kitAny K t us = some b ∧ Q (.bl b) H
section
variable {X : Cx}
theorem call_isiY : CallR X (.builtin "isinstance") (rIsiY X.K) := by
  intro pins s σ H xs us Q I r h
  obtain ⟨x, c, t, u, b, rfl, k, ty, e, q⟩ := h
  obtain ⟨u1, u2, rfl, r1, r2⟩ := vals2 r
  have e2 := k.eq r2
  subst e2
  obtain ⟨P, Z, p, hx⟩ := kit_ofY I r1 ty
  exact PySem.W.kia_one Z I.kIn p e hx fun tk => ⟨.bl b, H, I.tok tk, rfl, q⟩
theorem call_isiTY : CallR X (.builtin "isinstance") (rIsiTY X.K) := by
  intro pins s σ H xs us Q I r h
  obtain ⟨x, tp, cs, t, ws, b, rfl, hT, k, ty, e, q⟩ := h
  obtain ⟨u1, u2, rfl, r1, r2⟩ := vals2 r
  cases (show u2 = Value.ref tp from r2)
  obtain ⟨P, Z, p, hx⟩ := kit_ofY I r1 ty
  obtain ⟨_, its, rv, o, h1, h2, n, h3⟩ := (show ObjOk X.prog X.w H s.heap tp (.tup cs) from I.hok tp _ hT)
  have e3 := ClsV.all k rv
  subst e3
  obtain ⟨oc, od, dt, sl⟩ := o
  simp only at h2 h3
  subst h2 h3
  exact PySem.W.kia_tup Z I.kIn p h1 e hx fun tk => ⟨.bl b, H, I.tok tk, rfl, q⟩
end
theorem isi_okE {K : PySem.W.Frag} (d : PyData) {T : String} (h : okTy T = true) : PySem.W.kitOne K (.type (tyE d)) (.type T) = some (isiT (tyE d) T) := by
  have hT : T = "int" ∨ T = "bool" ∨ T = "list" ∨ T = "tuple" ∨ T = "dict" ∨ T = "str" := by
    simpa [okTy] using h
  refine kit_ty ?_
  cases d <;> simp only [tyE] <;> rcases hT with rfl | rfl | rfl | rfl | rfl | rfl <;> decide +kernel
theorem isi_okE2 {K : PySem.W.Frag} (d : PyData) {T U : String} (h : okTy T = true) (h2 : okTy U = true) : PySem.W.kitAny K (.type (tyE d)) [.type T, .type U] = some (isiT (tyE d) T || isiT (tyE d) U) := by
  refine kitAny_cons (isi_okE d h) (fun z => ?_) (fun z => by rw [z, Bool.true_or])
  rw [z, Bool.false_or]
  refine kitAny_cons (isi_okE d h2) (fun z => ?_) (fun z => z)
  rw [z]
  rfl
/-- isinstance(x, T), of any data -/
def mIsiE (T : String) (A : ME) : ME := fun ρ S => (A ρ S).bind fun p => match p.1 with
  | .d d => some (.d (.bool (isiT (tyE d) T)), p.2)
  | .loc _ => none
  | .fn => none
/-- isinstance(x, (T, U)), of any data -/
def mIsiE2 (T U : String) (A : ME) : ME := fun ρ S => (A ρ S).bind fun p => match p.1 with
  | .d d => some (.d (.bool (isiT (tyE d) T || isiT (tyE d) U)), p.2)
  | .loc _ => none
  | .fn => none
theorem de_isiE {X : Cx} {e : Expr} {A : ME} {T : String} {x y : Str} {p p2 pos : Pos} (hok : okTy T = true) (hg : Gl X y) (hm : X.mg y = none) (hv : bootBuiltins y = some (.builtin "isinstance")) (hgT : Gl X x) (hmT : X.mg x = none) (hvT : bootBuiltins x = some (.type T)) (ha : PE X e (rdE τ X.K A))
    (hn : y ≠ "__name__" := by decide) (hdb : (y == ("__debug__" : Str)) = false := by decide) (hnT : x ≠ "__name__" := by decide) (hdT : (x == ("__debug__" : Str)) = false := by decide)
    (he : starEach [e, .Name x p2] X.env = (false, eval e X.env) :: starEach [.Name x p2] X.env := by rfl) (hpl : (backTo pos (starEach [.Name x p2] X.env)).any (·.1) = false := by rfl) : PE X (.Call (.Name y p) [e, .Name x p2] [] pos) (rdE τ X.K (mIsiE T A)) :=
  wkE (pe_callB call_isiY hg hm hv (pa_cons ha (pa_cons (pe_bltn (v := .ty T) hgT hmT hvT rfl hnT hdT) pa_nil) he) hn hdb (he := he) (hpl := hpl)) fun σ H Q h => by
    obtain ⟨m, S, ρ, w, S', q, e1, pp⟩ := h
    obtain ⟨⟨wx, S1⟩, e2, e3⟩ := Option.bind_eq_some_iff.mp e1
    refine ⟨m, S, ρ, wx, S1, q, e2, fun ext H1 x f q1 fr r => ?_⟩
    simp only at e3
    split at e3
    · cases e3
      exact ⟨x, .ty T, _, .type T, _, rfl, .ty T, ty_rpE r, isi_okE _ hok, (pp.at f q1 fr).now q1 (.bl _)⟩
    · cases e3
    · cases e3
theorem de_isiE2 {X : Cx} {e : Expr} {A : ME} {T U : String} {x z y : Str} {p p2 p3 p4 pos : Pos} {c : Nat} (hok : okTy T = true) (hok2 : okTy U = true) (hg : Gl X y) (hm : X.mg y = none) (hv : bootBuiltins y = some (.builtin "isinstance")) (hgT : Gl X x) (hmT : X.mg x = none) (hvT : bootBuiltins x = some (.type T))
    (hgU : Gl X z) (hmU : X.mg z = none) (hvU : bootBuiltins z = some (.type U)) (ha : PE X e (rdE τ X.K A))
    (hn : y ≠ "__name__" := by decide) (hdb : (y == ("__debug__" : Str)) = false := by decide) (hnT : x ≠ "__name__" := by decide) (hdT : (x == ("__debug__" : Str)) = false := by decide) (hnU : z ≠ "__name__" := by decide) (hdU : (z == ("__debug__" : Str)) = false := by decide)
    (he : starEach [e, .Tuple [.Name x p2, .Name z p3] c p4] X.env = (false, eval e X.env) :: starEach [.Tuple [.Name x p2, .Name z p3] c p4] X.env := by rfl) (hpl : (backTo pos (starEach [.Tuple [.Name x p2, .Name z p3] c p4] X.env)).any (·.1) = false := by rfl) : PE X (.Call (.Name y p) [e, .Tuple [.Name x p2, .Name z p3] c p4] [] pos) (rdE τ X.K (mIsiE2 T U A)) :=
  wkE (pe_callB call_isiTY hg hm hv (pa_cons ha (pa_cons (pe_tup (pa_cons (pe_bltn (v := .ty T) hgT hmT hvT rfl hnT hdT) (pa_cons (pe_bltn (v := .ty U) hgU hmU hvU rfl hnU hdU) pa_nil))) pa_nil) he) hn hdb (he := he) (hpl := hpl)) fun σ H Q h => by
    obtain ⟨m, S, ρ, w, S', q, e1, pp⟩ := h
    obtain ⟨⟨wx, S1⟩, e2, e3⟩ := Option.bind_eq_some_iff.mp e1
    refine ⟨m, S, ρ, wx, S1, q, e2, fun ext H1 x f q1 fr r => ?_⟩
    simp only at e3
    split at e3
    · cases e3
      refine ⟨(by decide : (2 : Nat) ≤ sizeLine), fun t ht => ?_⟩
      have q2 := q1.same (upd_keeps (o := HO.tup [V.ty T, V.ty U]) ht)
      have p2 : Post τ X.K (m ++ ext) S' ρ σ H1 _ Q := pp.at f q1 fr
      exact ⟨x, t, [.ty T, .ty U], _, [.type T, .type U], _, rfl, upd_same, .cons (.ty T) (.cons (.ty U) .nil), ty_rpE (Rp.mono (upd_kp ht) _ _ r), isi_okE2 _ hok hok2, p2.grown q1 (upd_keeps ht) (.bl _)⟩
    · cases e3
    · cases e3
end DL
end
noncomputable section
namespace DL
open PySem PySem.Spec PyProof.Rows L2
section
variable {X : Cx} {pins : List (Addr × Obj)} {σ : L2.St} {H : Hp} {s : Shared}
/-- what stands at sys.modules' address is a dict: no list lies there -/
theorem no_sys {h : Heap} (hm : ∃ mm, h.Ns sysModules mm) {a : Addr} {o : Obj} {vs : Array Value} {n : Nat} (e : h.get? a = some o) (d : o.data = .seq vs n) : sysModules ≠ a := fun z => by
  subst z
  obtain ⟨mm, o2, es, ep, e2, d2, _⟩ := hm
  rw [e] at e2
  cases e2
  rw [d] at d2
  cases d2
theorem reads_ks {h : Heap} : ∀ {ks : List Key} {us : List Value}, Vals (ks.map kV) us → ReadsAll h us (ks.map keyP) []
  | [], _, .nil => .nil
  | .inl i :: ks, _, .cons r t => by
    obtain ⟨t', rfl⟩ := r
    exact .cons (.int i t') (reads_ks t)
  | .inr x :: ks, _, .cons r t => by
    obtain ⟨t', rfl⟩ := r
    exact .cons (.str x t') (reads_ks t)
theorem reads_kT (I : Inv X pins σ H s) : ∀ {us : List (List Key × V)} {xs : List (List Key × Addr × Value)}, KT H us xs → ReadsAll s.heap (xs.map fun x => Value.ref x.2.1) (us.map fun q => PyData.tuple (q.1.map keyP)) [] ∧ Vals (us.map fun q => q.2) (xs.map fun x => x.2.2)
  | [], _, .nil => ⟨.nil, .nil⟩
  | u :: us, _, .cons (b := x) h t => by
    obtain ⟨h1, h2, h3⟩ := h
    obtain ⟨k1, k2⟩ := reads_kT I t
    obtain ⟨_, its, rv, o, e1, e2, n, e3⟩ := (show ObjOk X.prog X.w H s.heap x.2.1 (.tup (u.1.map kV)) from I.hok _ _ h2)
    exact ⟨.cons (.tuple e1 e2 e3 (reads_ks rv)) k1, .cons h3 k2⟩
theorem reads_kK {P : Program} {w : World} (hp : Heap) : ∀ {us : List (Key × V)} {vs : List (Key × Value)} {es : List DictEntry}, KV us vs → PySem.Pairs (mixKind P w) es vs → ReadsAll hp (es.map (·.key)) (us.map fun q => keyP q.1) [] ∧ Vals (us.map fun q => q.2) (es.map (·.val))
  | [], _, _, .nil, .nil => ⟨.nil, .nil⟩
  | (k, v) :: us, _, _, .cons h t, .cons (e := e) p1 p2 p3 => by
    obtain ⟨k1, k2⟩ := reads_kK hp t p3
    obtain ⟨h1, h2⟩ := h
    refine ⟨?_, .cons (by show RelV v e.val; rw [p2]; exact h2) k2⟩
    rcases keyIs_shape p1 with ⟨i, t, e1, e2⟩ | ⟨x, t, e1, e2⟩
    · have h3 : k = .inl i := h1.trans e1
      subst h3
      rw [List.map_cons, e2]
      exact .cons (.int i t) k1
    · have h3 : k = .inr x := h1.trans e1
      subst h3
      rw [List.map_cons, e2]
      exact .cons (.str x t) k1
mutual
theorem Rp.reads (hm : ∃ mm, s.heap.Ns sysModules mm) (I : Inv X pins σ H s) : ∀ {v : V} {d : PyData}, Rp X.K H v d → ∀ {u : Value}, RelV v u → ∃ as, Reads s.heap u d as ∧ sysModules ∉ as
  | _, _, .non, _, r => by cases r; exact ⟨_, Reads.none, by simp⟩
  | _, _, .bl b, _, r => by cases r; exact ⟨_, Reads.bool b, by simp⟩
  | _, _, .int i, _, r => by
    obtain ⟨t, rfl⟩ := r
    exact ⟨_, Reads.int i t, by simp⟩
  | _, _, .str x, _, r => by
    obtain ⟨t, rfl⟩ := r
    exact ⟨_, Reads.str x t, by simp⟩
  | _, _, .lst f ra, _, r => by
    cases r
    obtain ⟨its, rv, ⟨o, n, ho, hc, _, hd⟩, _⟩ := I.list f.sq
    obtain ⟨as, hr, ns⟩ := RpAll.reads hm I ra rv
    exact ⟨_, Reads.list ho hc hd hr, by
      simp only [List.mem_cons, not_or]
      exact ⟨no_sys hm ho hd, ns⟩⟩
  | _, _, .tup f _ ra, _, r => by
    cases r
    obtain ⟨_, its, rv, o, ho, hc, n, hd⟩ := (show ObjOk X.prog X.w H s.heap _ (.tup _) from I.hok _ _ f)
    obtain ⟨as, hr, ns⟩ := RpAll.reads hm I ra rv
    exact ⟨_, Reads.tuple ho hc hd hr, ns⟩
  | _, _, .tupZ f _ _ ra, _, r => by
    cases r
    obtain ⟨_, _, its, rv, o, ho, hc, n, hd⟩ := (show ObjOk X.prog X.w H s.heap _ (.frz _ (.tup _)) from I.hok _ _ f)
    obtain ⟨as, hr, ns⟩ := RpAll.reads hm I ra rv
    exact ⟨_, Reads.tuple ho hc hd hr, ns⟩
  | _, _, .dicT (us := us) (ds := ds) f ek _ ra, _, r => by
    cases r
    obtain ⟨_, hz, xs, kt, o, es, ep, ho, hex, hd, he, _, _⟩ := dt_rd I.hok (.inr ⟨_, f⟩)
    obtain ⟨k1, k2⟩ := reads_kT I kt
    obtain ⟨as, hr, ns⟩ := RpAll.reads hm I ra k2
    have e1 : es.toList.map (·.key) = xs.map fun x => Value.ref x.2.1 := by rw [he, List.map_map]; rfl
    have e2 : es.toList.map (·.val) = xs.map fun x => x.2.2 := by rw [he, List.map_map]; rfl
    rw [← ek] at k1
    refine ⟨_, Reads.dict ho hex.1 hd (by rw [e1]; exact k1) (by rw [e2]; exact hr), ?_⟩
    simp only [List.append_nil, List.cons_append, List.nil_append, List.mem_cons, not_or]
    exact ⟨fun z => by rw [z] at hz; simp at hz, ns⟩
  | _, _, .dicK (us := us) (ds := ds) f _ ek ra, _, r => by
    cases r
    obtain ⟨_, hz, vs, kv, o, es, ep, ho, hex, hd, _, pr, _⟩ := dk_rd I.hok (.inr ⟨_, f⟩)
    obtain ⟨k1, k2⟩ := reads_kK s.heap kv pr
    obtain ⟨as, hr, ns⟩ := RpAll.reads hm I ra k2
    rw [← ek] at k1
    refine ⟨_, Reads.dict ho hex.1 hd k1 hr, ?_⟩
    simp only [List.append_nil, List.cons_append, List.nil_append, List.mem_cons, not_or]
    exact ⟨fun z => by rw [z] at hz; simp at hz, ns⟩
theorem RpAll.reads (hm : ∃ mm, s.heap.Ns sysModules mm) (I : Inv X pins σ H s) : ∀ {vs : List V} {ds : List PyData}, RpAll X.K H vs ds → ∀ {us : List Value}, Vals vs us → ∃ as, ReadsAll s.heap us ds as ∧ sysModules ∉ as
  | _, _, .nil, _, .nil => ⟨_, .nil, by simp⟩
  | _, _, .cons h t, _, .cons rv tv => by
    obtain ⟨as, h1, n1⟩ := Rp.reads hm I h rv
    obtain ⟨bs, h2, n2⟩ := RpAll.reads hm I t tv
    exact ⟨_, .cons h1 h2, by
      rw [List.mem_append, not_or]
      exact ⟨n1, n2⟩⟩
end
end
def reprOkS (d : PyData) : Bool := d.showable && decide (d.depth ≤ 64) && decide (d.shown.length ≤ sizeLine)
def reprS := on1 fun w S => match w with
  | .d d => if reprOkS d = true then some (.d (.str d.shown), S) else none
  | w => reprD [w] S
theorem call_reprS {X : Cx} {k : Nat} {tl : TL} {τ' : Tbs} (bs : Bs tl τ' X.K X.mg X.base) (hr : Room k X.A) (hg : X.A.guards = some []) : CallR X (.builtin "repr") (rC τ X.K reprS) := by
  intro pins s σ H vs us Q I rx h
  obtain ⟨m, S, ρ, σ', w0, w, S', v, rfl, q, r, e, p⟩ := rC1 h
  split at e
  · rename_i d
    split at e
    · rename_i hok
      cases e
      simp only [reprOkS, Bool.and_eq_true, decide_eq_true_eq] at hok
      obtain ⟨⟨h1, h3⟩, h4⟩ := hok
      have q2 := p.now q (v := .str d.shown) (.str _)
      have hun := hr.un
      have hm : ∃ mm, s.heap.Ns sysModules mm := bs.sm.imp fun _ z => z.keeps I.bk
      cases rx with
      | cons rv t =>
        cases t
        obtain ⟨as, rd, ns⟩ := Rp.reads hm I r rv
        have big : ∀ a, (∃ u, RelV v u ∧ u = Value.ref a ∧ Reads s.heap u d as) → wpAny (model X.prog X.w) X.A (call (.builtin "repr") [.ref a]) (EP X pins σ Q) X.xe s := fun a ⟨u, _, e, rd⟩ => by
          subst e
          exact repr_of_reads' rd h1 (fun _ => ns) hg (by omega) (fun _ _ z => z) (fun h' u tk kp => ⟨.str _, H, I.kept (t' := tk) kp, ⟨_, rfl⟩, q2⟩) h4
        cases rd with
        | none => exact P.repr_of_none ⟨.str _, H, I.tok _, ⟨_, rfl⟩, q2⟩
        | bool b => exact P.repr_of_bool ⟨.str _, H, I.tok _, ⟨_, rfl⟩, q2⟩
        | int i t => exact P.repr_of_int (by simpa [PyData.showable] using h1) ⟨.str _, H, I.tok _, ⟨_, rfl⟩, q2⟩
        | str z t => exact P.repr_of_str ⟨.str _, H, I.tok _, ⟨_, rfl⟩, q2⟩ h4
        | list a1 a2 a3 a4 => exact big _ ⟨_, rv, rfl, .list a1 a2 a3 a4⟩
        | tuple a1 a2 a3 a4 => exact big _ ⟨_, rv, rfl, .tuple a1 a2 a3 a4⟩
        | dict a1 a2 a3 a4 a5 => exact big _ ⟨_, rv, rfl, .dict a1 a2 a3 a4 a5⟩
    · cases e
  · exact call_reprDD hr hg pins s σ H _ us Q I rx ⟨m, S, ρ, σ', _, w, S', q, .cons r .nil, e, p⟩
def keyE : PyData → Option Key
  | .int i => some (.inl i)
  | .str x => some (.inr x)
  | _ => none
def mDispK (A B : ME) : ME := fun ρ S => (A ρ S).bind fun p => match p.1 with
  | .d d => (keyE d).bind fun k => (B ρ p.2).bind fun q => some (.loc q.2.length, q.2 ++ [.dicK [(k, q.1)]])
  | _ => none
theorem keyE_rp {K : PySem.W.Frag} {H : Hp} {x : V} {d : PyData} {k : Key} (e : keyE d = some k) (r : Rp K H x d) : x = kV k := by
  cases d with
  | int i => cases e; cases r; rfl
  | str y => cases e; cases r; rfl
  | _ => cases e
theorem de_dispK {X : Cx} {pos : Pos} {A B : ME} {a b : Expr} (ha : PE X a (rdE τ X.K A)) (hb : PE X b (rdE τ X.K B)) : PE X (.Dict [some a] [b] pos) (rdE τ X.K (mDispK A B)) :=
  wkE (pe_disp (pps_cons ha hb pps_nil) rfl rfl (by simp) (by decide : 1 ≤ 15)) fun σ H Q h => by
    obtain ⟨m, S, ρ, w, S', q, e, p⟩ := h
    obtain ⟨⟨wx, S1⟩, e1, e⟩ := Option.bind_eq_some_iff.mp e
    simp only at e
    split at e
    · rename_i d
      obtain ⟨k, ek, e⟩ := Option.bind_eq_some_iff.mp e
      obtain ⟨⟨wy, S2⟩, e2, e3⟩ := Option.bind_eq_some_iff.mp e
      cases e3
      intro t ht
      have keepT := upd_keeps (o := HO.dK []) ht
      have nT := q.nomem ht
      refine ⟨m, S, ρ, .d d, S1, q.same keepT, e1, fun ext H1 x f q1 fr r => ⟨_, S1, ρ, wy, S2, q1, e2, fun ext2 H2 y f2 q2 fr2 r2 => ?_⟩⟩
      obtain rfl := keyE_rp ek r
      have hT1 : H1 t = some (.dK []) := fr.st t _ upd_same (.inl nT) (fun _ z => nomatch z)
      have nT1 : t ∉ m ++ ext := fun z => by
        rcases List.mem_append.mp z with z | z
        · exact nT z
        · have := f t z; rw [upd_same] at this; cases this
      have hT2 : H2 t = some (.dK []) := fr2.st t _ hT1 (.inl nT1) (fun _ z => nomatch z)
      have nT2 : t ∉ m ++ ext ++ ext2 := fun z => by
        rcases List.mem_append.mp z with z | z
        · exact nT1 z
        · have := f2 t z; rw [hT1] at this; cases this
      refine ⟨hT2, [(k, y)], rfl, (by decide : (1 : Nat) ≤ 15), ?_⟩
      show Q (.ref t) (upd H2 t (.dK [(k, y)]))
      have kk : Kp H2 (upd H2 t (.dK [(k, y)])) := kp_other hT2 fun z => z
      have q3 := (q2.other (o := .dK [(k, y)]) nT2 hT2 fun z => z).adopt (ob := .dicK [(k, wy)]) nT2 ⟨[(k, y)], upd_same, .cons ⟨rfl, (r2.mono0 kk).mono (Kp.refl _)⟩ .nil⟩
      refine p (ext ++ ext2 ++ [t]) _ _ (fun a ha => ?_) (by rw [← List.append_assoc, ← List.append_assoc]; exact q3) ((Fr.pre keepT (fr.trans f fr2)).updo ht) ⟨t, ?_, rfl⟩
      · rcases List.mem_append.mp ha with z | z
        · have f12 : Fresh (ext ++ ext2) (upd H t (.dK [])) := f.append fr q1 f2
          have := f12 a z
          cases e : H a with
          | none => rfl
          | some o => rw [keepT a o e] at this; cases this
        · rw [List.mem_singleton.mp z]; exact ht
      · rw [← List.append_assoc, ← List.append_assoc, ← q2.len, List.getElem?_append_right (Nat.le_refl _)]; simp
    · cases e
end DL
end
noncomputable section
namespace DL
open PySem PySem.Spec PyProof.Rows L2
section
variable {X : Cx} {pins : List (Addr × Obj)} {σ : L2.St} {H : Hp} {s : Shared}
theorem rp_tup_at (I : Inv X pins σ H s) {x : V} {ds : List PyData} {v : Value} (r : Rp X.K H x (.tuple ds)) (rv : RelV x v) : ∃ (a : Addr) (its : List Value), v = .ref a ∧ s.heap.IsTuple a its.toArray ∧ its.length = ds.length := by
  cases r with
  | tup f _ ra =>
    cases rv
    obtain ⟨_, its, rr, p⟩ := (show ObjOk X.prog X.w H s.heap _ (.tup _) from I.hok _ _ f)
    exact ⟨_, its, rfl, p, by rw [← rr.length, ra.length]⟩
  | tupZ f _ _ ra =>
    cases rv
    obtain ⟨_, _, its, rr, p⟩ := (show ObjOk X.prog X.w H s.heap _ (.frz _ (.tup _)) from I.hok _ _ f)
    exact ⟨_, its, rfl, p, by rw [← rr.length, ra.length]⟩
end
def neT0 : W → W → Sto → Option (W × Sto) := fun x y S => match x, y with
  | .d (.tuple ds), .d (.tuple []) => some (.d (.bool (!ds.isEmpty)), S)
  | _, _ => eqA true x y S
section
variable {X : Cx}
theorem size0 {its : List Value} {ds : List PyData} (h : its.length = ds.length) : ((List.range (min its.toArray.size (#[] : Array Value).size)).all (fun _ => true) && its.toArray.size == (#[] : Array Value).size) = ds.isEmpty := by
  cases ds with
  | nil => cases its with
    | nil => rfl
    | cons => simp at h
  | cons => cases its with
    | nil => simp at h
    | cons => simp
theorem op_neT0 (hu : X.A.units + 64 < cLine) : OpR X (compareOp .NotEq) (rOp τ X.K neT0) := by
  intro pins s σ H x y v u Q I rx ry h
  obtain ⟨m, S, ρ, σ', wx, wy, w, S', q, hx, hy, e, p⟩ := h
  unfold neT0 at e
  split at e
  · rename_i ds
    cases e
    obtain ⟨a, is, rfl, ha, hl⟩ := rp_tup_at I hx rx
    obtain ⟨b, js, rfl, hb, hk⟩ := rp_tup_at I hy ry
    obtain rfl : js = [] := by
      cases js with
      | nil => rfl
      | cons => simp at hk
    have := SeqAt.RcNeAt.tuples (A := X.A) (e := fun _ => true) ha hb (by omega) (fun j h1 h2 => absurd h2 (by simp)) X.prog X.w X.xe (EP X pins σ Q)
    rw [size0 hl] at this
    exact this ⟨.bl _, H, I, rfl, p.now q (.bl _)⟩
  · exact op_neA hu pins s σ H x y v u Q I rx ry ⟨m, S, ρ, σ', _, _, w, S', q, hx, hy, e, p⟩
end
end DL
end
noncomputable section
namespace DL
open PySem PySem.Spec PyProof.Rows L2
section
variable {X : Cx} {τ : Tbs} {e a b : Expr} {A B : ME} {R : MA}
def isBD (neg : Bool) : W → W → Sto → Option (W × Sto)
  | .d (.bool a), .d (.bool b), S => some (.d (.bool (decide (a = b) ^^ neg)), S)
  | _, _, _ => none
theorem rp_bool {K : PySem.W.Frag} {H : Hp} {v : V} {b : Bool} (h : Rp K H v (.bool b)) : v = .bl b := by cases h; rfl
theorem op_notBD : OpR X (compareOp .IsNot) (rOp τ X.K (isBD true)) := by
  intro pins s σ H x y v u Q I rx ry h
  obtain ⟨m, S, ρ, σ', wx, wy, w, S', q, hx, hy, e, p⟩ := h
  unfold isBD at e
  split at e
  · cases e
    obtain rfl := rp_bool hx
    obtain rfl := rp_bool hy
    exact op_isnot_bl pins s σ H _ _ v u Q I rx ry ⟨_, _, rfl, rfl, p.now q (by rw [Bool.xor_true]; exact .bl _)⟩
  · cases e
end
end DL
end
noncomputable section
namespace Z3
open PySem PySem.Spec PyProof.Rows L2
open PySem.Sem (wp)
/-- a zip object that may have told a tuple that is still held -/
abbrev ZipB (h : Heap) (z TI TO : Addr) (f0 f1 : Value) : Prop :=
  h.get? z = some { cls := .type "zip", dict := none, data := .fields #[f0, f1, .bool false, .ref TI, .ref TO], slots := #[] }
def Own (f0 : Value) : Prop := f0 = .none ∨ ∃ n t, f0 = .int n t
section
end
def Tn3 (z TI TO y UI UO j1 j2 i2 a b c : Addr) (i : Nat) (h : Heap) : Prop :=
  IsZip h z TI TO .none ∧ IsPair h TI (.ref y) (.ref i2) ∧ (∃ u v, IsPair h TO u v) ∧ (∃ f0 f1, Own f0 ∧ ZipB h y UI UO f0 f1) ∧ IsPair h UI (.ref j1) (.ref j2) ∧ (∃ u v, IsPair h UO u v) ∧ h.IsTupleIter j1 a i ∧ h.IsTupleIter j2 b i ∧ h.IsTupleIter i2 c i
theorem mem9 {c z TI TO y UI UO j1 j2 i2 : Addr} (h : c ∈ [z, TI, TO, y, UI, UO, j1, j2, i2]) : c = z ∨ c = TI ∨ c = TO ∨ c = y ∨ c = UI ∨ c = UO ∨ c = j1 ∨ c = j2 ∨ c = i2 := by simpa using h
theorem Tn3.get {z TI TO y UI UO j1 j2 i2 a b c : Addr} {i : Nat} {h : Heap} (t : Tn3 z TI TO y UI UO j1 j2 i2 a b c i h) {d : Addr} (hd : d ∈ [z, TI, TO, y, UI, UO, j1, j2, i2]) : ∃ o, h.get? d = some o ∧ ∀ v, o.data ≠ .cell v := by
  obtain ⟨h1, h2, ⟨_, _, h3⟩, ⟨_, _, _, h4⟩, h5, ⟨_, _, h6⟩, ⟨o7, h7, _, d7⟩, ⟨o8, h8, _, d8⟩, ⟨o9, h9, _, d9⟩⟩ := t
  rcases mem9 hd with q | q | q | q | q | q | q | q | q
  · rw [q]; exact ⟨_, h1, fun v q => nomatch q⟩
  · rw [q]; exact ⟨_, h2, fun v q => nomatch q⟩
  · rw [q]; exact ⟨_, h3, fun v q => nomatch q⟩
  · rw [q]; exact ⟨_, h4, fun v q => nomatch q⟩
  · rw [q]; exact ⟨_, h5, fun v q => nomatch q⟩
  · rw [q]; exact ⟨_, h6, fun v q => nomatch q⟩
  · rw [q]; exact ⟨o7, h7, fun v q => by rw [d7] at q; cases q⟩
  · rw [q]; exact ⟨o8, h8, fun v q => by rw [d8] at q; cases q⟩
  · rw [q]; exact ⟨o9, h9, fun v q => by rw [d9] at q; cases q⟩
section
end
end Z3
namespace DL
open PySem PySem.Spec PyProof.Rows L2
end DL
end
noncomputable section
namespace L2
open PySem PySem.Spec PyProof PyProof.Rows
section
end
end L2
namespace DL
open PySem PySem.Spec PyProof PyProof.Rows L2
section
end
end DL
end
noncomputable section
namespace DL
open PySem PySem.Spec PyProof.Rows L2
section
end
end DL
end
noncomputable section
namespace K11
open PySem PySem.Spec PyProof.Rows L2 DL
def top (i : Nat) : Stmt := PySem.Challenge.pw_onorback_k11_places_and_benches_judged.main.body.getD i (.Pass ⟨0, 0, 0, 0⟩)
/-- the built-ins by their names -/
structure Txt (mg : Str → Option Value) : Prop where
  n_abs : mg "abs" = none
  n_all : mg "all" = none
  n_bool : mg "bool" = none
  n_int : mg "int" = none
  n_isinstance : mg "isinstance" = none
  n_len : mg "len" = none
  n_list : mg "list" = none
  n_range : mg "range" = none
  n_repr : mg "repr" = none
  n_sorted : mg "sorted" = none
  n_tuple : mg "tuple" = none
  n_zip : mg "zip" = none
abbrev s_is_integer : Stmt := top 1
abbrev N_is_integer : List Str := ["thing"]
theorem sc_is_integer : FnScope N_is_integer ["thing"] (defScope s_is_integer) := ⟨rfl, rfl, rfl, by decide +kernel, rfl, by decide +kernel, by decide +kernel⟩
def b_is_integer : MS := sRet (vAndT (mIsiE "int" (mVar 0)) (vNot (mIsiE "bool" (mVar 0))))
def f_is_integer : FS := runF 1 b_is_integer
theorem ok_is_integer {tl : TL} {P : Program} {w : World} {K : PySem.W.Frag} {mg : Str → Option Value} {fa : Addr} {fd : FuncData} (F : Fun K "is_integer" "is_integer" s_is_integer fa fd) (T : Txt mg)  : ∀ {τ : Tbs} {base : Heap}, Bs tl τ K mg base → FnG P w K mg base 1 fa fd ["thing"] (spD τ K 1 f_is_integer) :=
  fun bs => fnG (k := 0) (N := N_is_integer) (ps := ["thing"]) (b := b_is_integer) F sc_is_integer fun cdv A outer s H E hr hg => dss_one (ds_ret (de_andT (de_isiE (by decide) rfl T.n_isinstance (by decide +kernel) rfl T.n_int (by decide +kernel) (de_var (pv 0))) (de_one (de_not (de_isiE (by decide) rfl T.n_isinstance (by decide +kernel) rfl T.n_bool (by decide +kernel) (de_var (pv 0)))))))
abbrev s_is_ascending : Stmt := top 2
abbrev N_is_ascending : List Str := ["thing", "is_member", "one", "other"]
theorem sc_is_ascending : FnScope N_is_ascending ["thing", "is_member"] (defScope s_is_ascending) := ⟨rfl, rfl, rfl, by decide +kernel, rfl, by decide +kernel, by decide +kernel⟩
def b_is_ascending (g : PyData → Option PyData) : MS := sSeq (sIf (tOrD (tNotD (tTru (mIsiE "tuple" (mVar 0)))) (tNotD (tTru (mCall allDD (mCons (mLc (iSeqK (mVar 0)) (gSet 2) (tTrue) (mAct g 1 (mVar 2)) [2] kFrz) (mNil)))))) (sRet (mC (.bool false))) (sNil))
    (sRet (mCall allDD (mCons (mLc (iZipD (mCons (mVar 0) (mCons (mSl (mVar 0) (oYes (mC (.int 1))) (oNo)) (mNil)))) (gTupD 2 (gsCons (gSet 2) (gsCons (gSet 3) (gsNil)))) (tTrue) (mBin ltX (mVar 2) (mVar 3)) [2, 3] kFrz) (mNil))))
def f_is_ascending (g : PyData → Option PyData) : FS := runF 4 (b_is_ascending g)
theorem ok_is_ascending {tl : TL} {P : Program} {w : World} {K : PySem.W.Frag} {mg : Str → Option Value} {fa : Addr} {fd : FuncData} (F : Fun K "is_ascending" "is_ascending" s_is_ascending fa fd) (T : Txt mg) : ∀ {τ : Tbs} {base : Heap} (g : PyData → Option PyData) (j : Nat), Bs tl τ K mg base → Act τ P w K mg base j g → FnG P w K mg base (j + 1) fa fd ["thing", "is_member"] (spD τ K 2 (f_is_ascending g)) :=
  fun g j bs act => fnG (k := j) (N := N_is_ascending) (ps := ["thing", "is_member"]) (b := b_is_ascending g) F sc_is_ascending fun cdv A outer s H E hr hg => dss_cons (ds_if (PW.pt (dw_or (dt_not (dt_tru (de_isiE (by decide) rfl T.n_isinstance (by decide +kernel) rfl T.n_tuple (by decide +kernel) (de_var (pv 0))))) (dw_or1 (dt_not (dt_tru (de_callB (call_allDD rfl) rfl T.n_all (by decide +kernel) (da_cons (de_lc (own := [("one", 2)]) rfl sc_is_ascending.nd (di_seqK (de_var (pv 0))) (blkOk_by (own := [("one", 2)]) (N := N_is_ascending) (sc := defScope s_is_ascending) (by decide +kernel)) (fun _ _ _ _ _ => dg_name (i := 2) sc_is_ascending.nd rfl (Or.inl rfl)) (fun _ _ _ _ _ => dts_nil) (fun _ _ _ _ _ => act _ "is_member" 1 _ _ _ _ rfl rfl rfl rfl rfl hr hg (de_var (pv 1)) (de_var (pv 2)) rfl)) (da_nil)))))))) (dss_one (ds_ret (de_bl))) (dss_nil))
    (dss_one (ds_ret (de_callB (call_allDD rfl) rfl T.n_all (by decide +kernel) (da_cons (de_lc (own := [("one", 2), ("other", 3)]) rfl sc_is_ascending.nd (di_zipT rfl T.n_zip (da_cons (de_var (pv 0)) (da_cons (de_sl (de_var (pv 0)) (do_yes (de_int)) (do_no)) (da_nil)))) (blkOk_by (own := [("one", 2), ("other", 3)]) (N := N_is_ascending) (sc := defScope s_is_ascending) (by decide +kernel)) (fun _ _ _ _ _ => dg_tup rfl (dgs_cons (dg_name (i := 2) sc_is_ascending.nd rfl (Or.inl rfl)) (dgs_cons (dg_name (i := 3) sc_is_ascending.nd rfl (Or.inl rfl)) (dgs_nil)))) (fun _ _ _ _ _ => dts_nil) (fun _ _ _ _ _ => de_cmp (op_ltX hr) (de_var (pv 2)) (de_var (pv 3)))) (da_nil)))))
abbrev s_l_bag : Stmt := top 7
abbrev N_l_bag : List Str := ["_law_script", "_law_cell"]
theorem sc_l_bag : FnScope N_l_bag ["_law_script"] (defScope s_l_bag) := ⟨rfl, rfl, rfl, by decide +kernel, rfl, by decide +kernel, by decide +kernel⟩
def b_l_bag : MS := sRet (mCall lstB (mCons (mC (.int 0)) (mCons (mC (.int 1234567891)) (mCons (mC (.int 0)) (mCons (mLc (iSeq (mSl (mVar 0) (oNo) (oYes (mC (.int 63))))) (gSet 1) (tTrue) (mCall absD (mCons (mVar 1) (mNil))) [1] kFrz) (mNil))))))
def f_l_bag : FS := runF 2 b_l_bag
theorem ok_l_bag {tl : TL} {P : Program} {w : World} {K : PySem.W.Frag} {mg : Str → Option Value} {fa : Addr} {fd : FuncData} (F : Fun K "_law_bag" "_law_bag" s_l_bag fa fd) (T : Txt mg)  : ∀ {τ : Tbs} {base : Heap}, Bs tl τ K mg base → FnG P w K mg base 1 fa fd ["_law_script"] (spD τ K 1 f_l_bag) :=
  fun bs => fnG (k := 0) (N := N_l_bag) (ps := ["_law_script"]) (b := b_l_bag) F sc_l_bag fun cdv A outer s H E hr hg => dss_one (ds_ret (de_lstB (da_cons (de_int) (da_cons (de_int) (da_cons (de_int) (da_cons (de_lc (own := [("_law_cell", 1)]) rfl sc_l_bag.nd (di_seq (de_sl (de_var (pv 0)) (do_no) (do_yes (de_int)))) (blkOk_by (own := [("_law_cell", 1)]) (N := N_l_bag) (sc := defScope s_l_bag) (by decide +kernel)) (fun _ _ _ _ _ => dg_name (i := 1) sc_l_bag.nd rfl (Or.inl rfl)) (fun _ _ _ _ _ => dts_nil) (fun _ _ _ _ _ => de_callB call_absDD rfl T.n_abs (by decide +kernel) (da_cons (de_var (pv 1)) (da_nil)))) (da_nil)))))))
abbrev s_l_take : Stmt := top 8
abbrev N_l_take : List Str := ["_law_bag_here", "_law_upto", "_law_begin", "_law_second", "_law_cell", "_law_stirred", "_law_value"]
theorem sc_l_take : FnScope N_l_take ["_law_bag_here", "_law_upto"] (defScope s_l_take) := ⟨rfl, rfl, rfl, by decide +kernel, rfl, by decide +kernel, by decide +kernel⟩
def b_l_take : MS := sSeq (sIf (tOf (mBin (eqA false) (mBin idxD (mVar 0) (mC (.int 0))) (mC (.int 0)))) (sSeq (sAsg (mBin idxD (mBin addA (mSl (mBin idxD (mVar 0) (mC (.int 3))) (oYes (mBin idxD (mVar 0) (mC (.int 2)))) (oNo)) (mCall lstF (mCons (mC (.int 0)) (mNil)))) (mC (.int 0))) (gSet 4))
    (sSeq (sAugS (mVar 0) (mC (.int 2)) (mC (.int 1)) getF iaddI setF)
    (sSeq (sIf (tOf (mBin geD (mVar 4) (mBin powD (mC (.int 10)) (mC (.int 18))))) (sAsg (mVar 4) (gSubD (mVar 0) (mC (.int 0)) setF)) (sNil))
    (sSeq (sAsg (mBin addA (mBin addA (mBin mulD (mBin idxD (mVar 0) (mC (.int 1))) (mC (.int 48271))) (mBin modD (mCall intD (mCons (mVar 4) (mNil))) (mC (.int 2147483647)))) (mBin mulD (mC (.int 7919)) (mBin idxD (mVar 0) (mC (.int 2))))) (gSet 5))
    (sAsg (mBin modD (mCall intD (mCons (mVar 5) (mNil))) (mC (.int 2147483647))) (gSubD (mVar 0) (mC (.int 1)) setF)))))) (sNil))
    (sSeq (sIf (tOf (mBin gtD (mBin idxD (mVar 0) (mC (.int 0))) (mC (.int 0)))) (sSeq (sAsg (mBin modD (mCall intD (mCons (mBin idxD (mVar 0) (mC (.int 0))) (mNil))) (mVar 1)) (gSet 6))
    (sSeq (sAsg (mBin fdivD (mCall intD (mCons (mBin idxD (mVar 0) (mC (.int 0))) (mNil))) (mVar 1)) (gSubD (mVar 0) (mC (.int 0)) setF))
    (sRet (mVar 6)))) (sNil))
    (sSeq (sAsg (mBin modD (mCall intD (mCons (mBin mulD (mBin addA (mBin idxD (mVar 0) (mC (.int 1))) (mC (.int 1))) (mC (.int 39373))) (mNil))) (mC (.int 1000000007))) (gSet 2))
    (sSeq (sAsg (mBin modD (mCall intD (mCons (mBin mulD (mBin modD (mCall intD (mCons (mBin mulD (mVar 2) (mVar 2)) (mNil))) (mC (.int 998244353))) (mC (.int 30011))) (mNil))) (mC (.int 998244353))) (gSet 3))
    (sRet (mBin modD (mCall intD (mCons (mBin fdivD (mVar 3) (mC (.int 7))) (mNil))) (mVar 1))))))
def f_l_take : FS := runF 7 b_l_take
theorem ok_l_take {tl : TL} {P : Program} {w : World} {K : PySem.W.Frag} {mg : Str → Option Value} {fa : Addr} {fd : FuncData} (F : Fun K "_law_take" "_law_take" s_l_take fa fd) (T : Txt mg)  : ∀ {τ : Tbs} {base : Heap}, Bs tl τ K mg base → FnG P w K mg base 1 fa fd ["_law_bag_here", "_law_upto"] (spD τ K 2 f_l_take) :=
  fun bs => fnG (k := 0) (N := N_l_take) (ps := ["_law_bag_here", "_law_upto"]) (b := b_l_take) F sc_l_take fun cdv A outer s H E hr hg => dss_cons (ds_if (dt_cmp (op_eqA hr.units) (de_ix (de_var (pv 0)) (de_int)) (de_int)) (dss_cons (ds_set (i := 4) sc_l_take.nd rfl (Or.inl rfl) (de_ix (de_bin op_addA (de_sl (de_ix (de_var (pv 0)) (de_int)) (do_yes (de_ix (de_var (pv 0)) (de_int))) (do_no)) (de_lst (da_cons (de_int) (da_nil)))) (de_int)))
    (dss_cons (ds_augS (de_var (pv 0)) (de_int) get_D (de_int) ip_addI set_D)
    (dss_cons (ds_if (dt_cmp op_geD (de_var (pv 4)) (de_bin op_powD (de_int) (de_int))) (dss_one (ds_asg (vis := []) (de_var (pv 4)) (dg_sub (vis := []) (de_var (pv 0)) (de_int) set_D))) (dss_nil))
    (dss_cons (ds_set (i := 5) sc_l_take.nd rfl (Or.inl rfl) (de_bin op_addA (de_bin op_addA (de_bin op_mulD (de_ix (de_var (pv 0)) (de_int)) (de_int)) (de_bin op_modD (de_callTy call_intDD rfl T.n_int (by decide +kernel) (da_cons (de_var (pv 4)) (da_nil))) (de_int))) (de_bin op_mulD (de_int) (de_ix (de_var (pv 0)) (de_int)))))
    (dss_one (ds_asg (vis := []) (de_bin op_modD (de_callTy call_intDD rfl T.n_int (by decide +kernel) (da_cons (de_var (pv 5)) (da_nil))) (de_int)) (dg_sub (vis := []) (de_var (pv 0)) (de_int) set_D))))))) (dss_nil))
    (dss_cons (ds_if (dt_cmp op_gtD (de_ix (de_var (pv 0)) (de_int)) (de_int)) (dss_cons (ds_set (i := 6) sc_l_take.nd rfl (Or.inl rfl) (de_bin op_modD (de_callTy call_intDD rfl T.n_int (by decide +kernel) (da_cons (de_ix (de_var (pv 0)) (de_int)) (da_nil))) (de_var (pv 1))))
    (dss_cons (ds_asg (vis := []) (de_bin op_fdivD (de_callTy call_intDD rfl T.n_int (by decide +kernel) (da_cons (de_ix (de_var (pv 0)) (de_int)) (da_nil))) (de_var (pv 1))) (dg_sub (vis := []) (de_var (pv 0)) (de_int) set_D))
    (dss_one (ds_ret (de_var (pv 6)))))) (dss_nil))
    (dss_cons (ds_set (i := 2) sc_l_take.nd rfl (Or.inl rfl) (de_bin op_modD (de_callTy call_intDD rfl T.n_int (by decide +kernel) (da_cons (de_bin op_mulD (de_bin op_addA (de_ix (de_var (pv 0)) (de_int)) (de_int)) (de_int)) (da_nil))) (de_int)))
    (dss_cons (ds_set (i := 3) sc_l_take.nd rfl (Or.inl rfl) (de_bin op_modD (de_callTy call_intDD rfl T.n_int (by decide +kernel) (da_cons (de_bin op_mulD (de_bin op_modD (de_callTy call_intDD rfl T.n_int (by decide +kernel) (da_cons (de_bin op_mulD (de_var (pv 2)) (de_var (pv 2))) (da_nil))) (de_int)) (de_int)) (da_nil))) (de_int)))
    (dss_one (ds_ret (de_bin op_modD (de_callTy call_intDD rfl T.n_int (by decide +kernel) (da_cons (de_bin op_fdivD (de_var (pv 3)) (de_int)) (da_nil))) (de_var (pv 1))))))))
abbrev s_l_alike : Stmt := top 10
abbrev N_l_alike : List Str := ["_law_found", "_law_due"]
theorem sc_l_alike : FnScope N_l_alike ["_law_found", "_law_due"] (defScope s_l_alike) := ⟨rfl, rfl, rfl, by decide +kernel, rfl, by decide +kernel, by decide +kernel⟩
def b_l_alike : MS := sRet (vAnd (mBin (eqA false) (mVar 0) (mVar 1)) (mBin (eqA false) (mCall reprD (mCons (mVar 0) (mNil))) (mCall reprD (mCons (mVar 1) (mNil)))))
def f_l_alike : FS := runF 2 b_l_alike
theorem ok_l_alike {tl : TL} {P : Program} {w : World} {K : PySem.W.Frag} {mg : Str → Option Value} {fa : Addr} {fd : FuncData} (F : Fun K "_law_alike" "_law_alike" s_l_alike fa fd) (T : Txt mg)  : ∀ {τ : Tbs} {base : Heap}, Bs tl τ K mg base → FnG P w K mg base 1 fa fd ["_law_found", "_law_due"] (spD τ K 2 f_l_alike) :=
  fun bs => fnG (k := 0) (N := N_l_alike) (ps := ["_law_found", "_law_due"]) (b := b_l_alike) F sc_l_alike fun cdv A outer s H E hr hg => dss_one (ds_ret (de_and (de_cmp (op_eqA hr.units) (de_var (pv 0)) (de_var (pv 1))) (de_one (de_cmp (op_eqA hr.units) (de_callB (call_reprDD hr hg) rfl T.n_repr (by decide +kernel) (da_cons (de_var (pv 0)) (da_nil))) (de_callB (call_reprDD hr hg) rfl T.n_repr (by decide +kernel) (da_cons (de_var (pv 1)) (da_nil)))))))
abbrev s_l_is_int : Stmt := top 13
abbrev N_l_is_int : List Str := ["_law_thing", "_law_low", "_law_high"]
theorem sc_l_is_int : FnScope N_l_is_int ["_law_thing", "_law_low", "_law_high"] (defScope s_l_is_int) := ⟨rfl, rfl, rfl, by decide +kernel, rfl, by decide +kernel, by decide +kernel⟩
def b_l_is_int : MS := sRet (vAndT (mIsiE "int" (mVar 0)) (vAnd (vNot (mIsiE "bool" (mVar 0))) (vChain leD leD (mVar 1) (mVar 0) (mVar 2))))
def f_l_is_int : FS := runF 3 b_l_is_int
theorem ok_l_is_int {tl : TL} {P : Program} {w : World} {K : PySem.W.Frag} {mg : Str → Option Value} {fa : Addr} {fd : FuncData} (F : Fun K "_law_is_int" "_law_is_int" s_l_is_int fa fd) (T : Txt mg)  : ∀ {τ : Tbs} {base : Heap}, Bs tl τ K mg base → FnG P w K mg base 1 fa fd ["_law_thing", "_law_low", "_law_high"] (spD τ K 3 f_l_is_int) :=
  fun bs => fnG (k := 0) (N := N_l_is_int) (ps := ["_law_thing", "_law_low", "_law_high"]) (b := b_l_is_int) F sc_l_is_int fun cdv A outer s H E hr hg => dss_one (ds_ret (de_andT (de_isiE (by decide) rfl T.n_isinstance (by decide +kernel) rfl T.n_int (by decide +kernel) (de_var (pv 0))) (de_and (de_not (de_isiE (by decide) rfl T.n_isinstance (by decide +kernel) rfl T.n_bool (by decide +kernel) (de_var (pv 0)))) (de_one (de_chain op_leD op_leD (de_var (pv 1)) (de_var (pv 0)) (de_var (pv 2)))))))
abbrev s_l_rises : Stmt := top 14
abbrev N_l_rises : List Str := ["_law_things", "_law_k"]
theorem sc_l_rises : FnScope N_l_rises ["_law_things"] (defScope s_l_rises) := ⟨rfl, rfl, rfl, by decide +kernel, rfl, by decide +kernel, by decide +kernel⟩
def b_l_rises : MS := sRet (mCall allDD (mCons (mLc (iRng1D (mCons (mBin subD (mCall lenX (mCons (mVar 0) (mNil))) (mC (.int 1))) (mNil))) (gSet 1) (tTrue) (mBin ltX (mBin ixY (mVar 0) (mVar 1)) (mBin ixY (mVar 0) (mBin addA (mVar 1) (mC (.int 1))))) [1] kFrz) (mNil)))
def f_l_rises : FS := runF 2 b_l_rises
theorem ok_l_rises {tl : TL} {P : Program} {w : World} {K : PySem.W.Frag} {mg : Str → Option Value} {fa : Addr} {fd : FuncData} (F : Fun K "_law_rises" "_law_rises" s_l_rises fa fd) (T : Txt mg)  : ∀ {τ : Tbs} {base : Heap}, Bs tl τ K mg base → FnG P w K mg base 1 fa fd ["_law_things"] (spD τ K 1 f_l_rises) :=
  fun bs => fnG (k := 0) (N := N_l_rises) (ps := ["_law_things"]) (b := b_l_rises) F sc_l_rises fun cdv A outer s H E hr hg => dss_one (ds_ret (de_callB (call_allDD rfl) rfl T.n_all (by decide +kernel) (da_cons (de_lc (own := [("_law_k", 1)]) rfl sc_l_rises.nd (di_rng1 rfl T.n_range (da_cons (de_bin op_subD (de_callB call_lenX rfl T.n_len (by decide +kernel) (da_cons (de_var (pv 0)) (da_nil))) (de_int)) (da_nil))) (blkOk_by (own := [("_law_k", 1)]) (N := N_l_rises) (sc := defScope s_l_rises) (by decide +kernel)) (fun _ _ _ _ _ => dg_name (i := 1) sc_l_rises.nd rfl (Or.inl rfl)) (fun _ _ _ _ _ => dts_nil) (fun _ _ _ _ _ => de_cmp (op_ltX hr) (de_ixY hr (de_var (pv 0)) (de_var (pv 1))) (de_ixY hr (de_var (pv 0)) (de_bin op_addA (de_var (pv 1)) (de_int))))) (da_nil))))
abbrev s_l_flat : Stmt := top 19
abbrev N_l_flat : List Str := ["_law_rows", "_law_found", "_law_row"]
theorem sc_l_flat : FnScope N_l_flat ["_law_rows"] (defScope s_l_flat) := ⟨rfl, rfl, rfl, by decide +kernel, rfl, by decide +kernel, by decide +kernel⟩
def L_l_flat_1 : MS := sExpr (mMt extendF (mVar 1) (mCons (mVar 2) (mNil)))
def b_l_flat : MS := sSeq (sAsg (mCall lstB (mNil)) (gSet 1))
    (sSeq (sFor (iSeq (mVar 0)) (gSet 2) (L_l_flat_1))
    (sRet (mFrz (mVar 1))))
def f_l_flat : FS := runF 3 b_l_flat
theorem ok_l_flat {tl : TL} {P : Program} {w : World} {K : PySem.W.Frag} {mg : Str → Option Value} {fa : Addr} {fd : FuncData} (F : Fun K "_law_flat" "_law_flat" s_l_flat fa fd) (T : Txt mg)  : ∀ {τ : Tbs} {base : Heap}, Bs tl τ K mg base → FnG P w K mg base 1 fa fd ["_law_rows"] (spD τ K 1 f_l_flat) :=
  fun bs => fnG (k := 0) (N := N_l_flat) (ps := ["_law_rows"]) (b := b_l_flat) F sc_l_flat fun cdv A outer s H E hr hg => dss_cons (ds_set (i := 1) sc_l_flat.nd rfl (Or.inl rfl) (de_lstB (da_nil)))
    (dss_cons (ds_for (vis := [2]) PassesOwn.never rfl (di_seq (de_var (pv 0))) (dg_name (i := 2) sc_l_flat.nd rfl (Or.inl rfl)) (dss_one (ds_expr (de_bm PySem.F.slot_list_extend PySem.F.type_list_extend mt_extendD (de_var (pv 1)) (da_cons (de_var (pv 2)) (da_nil))))))
    (dss_one (ds_ret (de_frz (de_var (pv 1))))))
abbrev s_is_move : Stmt := top 4
abbrev N_is_move : List Str := ["values", "thing", "one"]
theorem sc_is_move : FnScope N_is_move ["values", "thing"] (defScope s_is_move) := ⟨rfl, rfl, rfl, by decide +kernel, rfl, by decide +kernel, by decide +kernel⟩
def b_is_move : MS := sSeq (sIf (tOrD (tNotD (tTru (mIsiE "tuple" (mVar 1)))) (tOrD (tOf (mBin (eqA true) (mCall lenX (mCons (mVar 1) (mNil))) (mC (.int 2)))) (tNotD (tTru (mCall allDD (mCons (mLc (iSeqK (mVar 1)) (gSet 2) (tTrue) (mCall (callF f_is_integer) (mCons (mVar 2) (mNil))) [2] kFrz) (mNil))))))) (sRet (mC (.bool false))) (sNil))
    (sRet (vAnd (mBin (eqA true) (mBin ixY (mVar 1) (mC (.int 0))) (mBin ixY (mVar 1) (mC (.int 1)))) (mCall allDD (mCons (mLc (iSeqK (mVar 1)) (gSet 2) (tTrue) (vChain leD ltD (mC (.int 0)) (mVar 2) (mVar 0)) [2] kFrz) (mNil)))))
def f_is_move : FS := runF 3 b_is_move
theorem ok_is_move {tl : TL} {P : Program} {w : World} {K : PySem.W.Frag} {mg : Str → Option Value} {fa : Addr} {fd : FuncData} (F : Fun K "is_move" "is_move" s_is_move fa fd) (T : Txt mg) (c_is_integer : CalA tl P w K mg "is_integer" 1 ["thing"] f_is_integer) : ∀ {τ : Tbs} {base : Heap}, Bs tl τ K mg base → FnG P w K mg base 2 fa fd ["values", "thing"] (spD τ K 2 f_is_move) :=
  fun bs => fnG (k := 1) (N := N_is_move) (ps := ["values", "thing"]) (b := b_is_move) F sc_is_move fun cdv A outer s H E hr hg => dss_cons (ds_if (PW.pt (dw_or (dt_not (dt_tru (de_isiE (by decide) rfl T.n_isinstance (by decide +kernel) rfl T.n_tuple (by decide +kernel) (de_var (pv 1))))) (dw_or (dt_cmp (op_neA hr.units) (de_callB call_lenX rfl T.n_len (by decide +kernel) (da_cons (de_var (pv 1)) (da_nil))) (de_int)) (dw_or1 (dt_not (dt_tru (de_callB (call_allDD rfl) rfl T.n_all (by decide +kernel) (da_cons (de_lc (own := [("one", 2)]) rfl sc_is_move.nd (di_seqK (de_var (pv 1))) (blkOk_by (own := [("one", 2)]) (N := N_is_move) (sc := defScope s_is_move) (by decide +kernel)) (fun _ _ _ _ _ => dg_name (i := 2) sc_is_move.nd rfl (Or.inl rfl)) (fun _ _ _ _ _ => dts_nil) (fun _ _ _ _ _ => de_callC (c_is_integer bs) hr hg (by decide) rfl (da_cons (de_var (pv 2)) (da_nil)) (ArgN.cons ArgN.nil) rfl)) (da_nil))))))))) (dss_one (ds_ret (de_bl))) (dss_nil))
    (dss_one (ds_ret (de_and (de_cmp (op_neA hr.units) (de_ixY hr (de_var (pv 1)) (de_int)) (de_ixY hr (de_var (pv 1)) (de_int))) (de_one (de_callB (call_allDD rfl) rfl T.n_all (by decide +kernel) (da_cons (de_lc (own := [("one", 2)]) rfl sc_is_move.nd (di_seqK (de_var (pv 1))) (blkOk_by (own := [("one", 2)]) (N := N_is_move) (sc := defScope s_is_move) (by decide +kernel)) (fun _ _ _ _ _ => dg_name (i := 2) sc_is_move.nd rfl (Or.inl rfl)) (fun _ _ _ _ _ => dts_nil) (fun _ _ _ _ _ => de_chain op_leD (op_ltDD hr) (de_int) (de_var (pv 2)) (de_var (pv 0)))) (da_nil)))))))
abbrev s_l_some : Stmt := top 9
abbrev N_l_some : List Str := ["_law_bag_here", "_law_things"]
theorem sc_l_some : FnScope N_l_some ["_law_bag_here", "_law_things"] (defScope s_l_some) := ⟨rfl, rfl, rfl, by decide +kernel, rfl, by decide +kernel, by decide +kernel⟩
def b_l_some : MS := sRet (mBin idxD (mVar 1) (mCall (callF f_l_take) (mCons (mVar 0) (mCons (mCall lenD (mCons (mVar 1) (mNil))) (mNil)))))
def f_l_some : FS := runF 2 b_l_some
theorem ok_l_some {tl : TL} {P : Program} {w : World} {K : PySem.W.Frag} {mg : Str → Option Value} {fa : Addr} {fd : FuncData} (F : Fun K "_law_some" "_law_some" s_l_some fa fd) (T : Txt mg) (c_l_take : CalA tl P w K mg "_law_take" 1 ["_law_bag_here", "_law_upto"] f_l_take) : ∀ {τ : Tbs} {base : Heap}, Bs tl τ K mg base → FnG P w K mg base 2 fa fd ["_law_bag_here", "_law_things"] (spD τ K 2 f_l_some) :=
  fun bs => fnG (k := 1) (N := N_l_some) (ps := ["_law_bag_here", "_law_things"]) (b := b_l_some) F sc_l_some fun cdv A outer s H E hr hg => dss_one (ds_ret (de_ix (de_var (pv 1)) (de_callC (c_l_take bs) hr hg (by decide) rfl (da_cons (de_var (pv 0)) (da_cons (de_callB call_lenDD rfl T.n_len (by decide +kernel) (da_cons (de_var (pv 1)) (da_nil))) (da_nil))) (ArgN.cons (ArgN.cons ArgN.nil)) rfl)))
abbrev s_l_mixed : Stmt := top 11
abbrev N_l_mixed : List Str := ["_law_bag_here", "_law_things", "_law_found", "_law_thing"]
theorem sc_l_mixed : FnScope N_l_mixed ["_law_bag_here", "_law_things"] (defScope s_l_mixed) := ⟨rfl, rfl, rfl, by decide +kernel, rfl, by decide +kernel, by decide +kernel⟩
def L_l_mixed_1 : MS := sExpr (mMt insertF (mVar 2) (mCons (mCall (callF f_l_take) (mCons (mVar 0) (mCons (mBin addA (mCall lenD (mCons (mVar 2) (mNil))) (mC (.int 1))) (mNil)))) (mCons (mVar 3) (mNil))))
def b_l_mixed : MS := sSeq (sAsg (mCall lstB (mNil)) (gSet 2))
    (sSeq (sFor (iSeq (mVar 1)) (gSet 3) (L_l_mixed_1))
    (sRet (mFrz (mVar 2))))
def f_l_mixed : FS := runF 4 b_l_mixed
theorem ok_l_mixed {tl : TL} {P : Program} {w : World} {K : PySem.W.Frag} {mg : Str → Option Value} {fa : Addr} {fd : FuncData} (F : Fun K "_law_mixed" "_law_mixed" s_l_mixed fa fd) (T : Txt mg) (c_l_take : CalA tl P w K mg "_law_take" 1 ["_law_bag_here", "_law_upto"] f_l_take) : ∀ {τ : Tbs} {base : Heap}, Bs tl τ K mg base → FnG P w K mg base 2 fa fd ["_law_bag_here", "_law_things"] (spD τ K 2 f_l_mixed) :=
  fun bs => fnG (k := 1) (N := N_l_mixed) (ps := ["_law_bag_here", "_law_things"]) (b := b_l_mixed) F sc_l_mixed fun cdv A outer s H E hr hg => dss_cons (ds_set (i := 2) sc_l_mixed.nd rfl (Or.inl rfl) (de_lstB (da_nil)))
    (dss_cons (ds_for (vis := [3]) PassesOwn.never rfl (di_seq (de_var (pv 1))) (dg_name (i := 3) sc_l_mixed.nd rfl (Or.inl rfl)) (dss_one (ds_expr (de_bm PySem.F.slot_list_insert PySem.F.type_list_insert mt_insertD (de_var (pv 2)) (da_cons (de_callC (c_l_take bs) hr hg (by decide) rfl (da_cons (de_var (pv 0)) (da_cons (de_bin op_addA (de_callB call_lenDD rfl T.n_len (by decide +kernel) (da_cons (de_var (pv 2)) (da_nil))) (de_int)) (da_nil))) (ArgN.cons (ArgN.cons ArgN.nil)) rfl) (da_cons (de_var (pv 3)) (da_nil)))))))
    (dss_one (ds_ret (de_frz (de_var (pv 2))))))
abbrev s_l_is_place : Stmt := top 15
abbrev N_l_is_place : List Str := ["_law_thing", "_law_move"]
theorem sc_l_is_place : FnScope N_l_is_place ["_law_thing"] (defScope s_l_is_place) := ⟨rfl, rfl, rfl, by decide +kernel, rfl, by decide +kernel, by decide +kernel⟩
def L_l_is_place_1 : MS := sSeq (sIf (tOrD (tNotD (tTru (mIsiE "tuple" (mVar 1)))) (tOrD (tOf (mBin (eqA true) (mCall lenX (mCons (mVar 1) (mNil))) (mC (.int 2)))) (tNotD (tTru (mCall (callF f_l_is_int) (mCons (mBin ixY (mVar 1) (mC (.int 0))) (mCons (mC (.int 0)) (mCons (mBin subD (mBin ixY (mVar 0) (mC (.int 0))) (mC (.int 1))) (mNil))))))))) (sRet (mC (.bool false))) (sNil))
    (sIf (tOrD (tNotD (tTru (mCall (callF f_l_is_int) (mCons (mBin ixY (mVar 1) (mC (.int 1))) (mCons (mC (.int 0)) (mCons (mBin subD (mBin ixY (mVar 0) (mC (.int 0))) (mC (.int 1))) (mNil))))))) (tOf (mBin (eqA false) (mBin ixY (mVar 1) (mC (.int 0))) (mBin ixY (mVar 1) (mC (.int 1)))))) (sRet (mC (.bool false))) (sNil))
def b_l_is_place : MS := sSeq (sIf (tOrD (tNotD (tTru (mIsiE "tuple" (mVar 0)))) (tOrD (tOf (mBin (eqA true) (mCall lenX (mCons (mVar 0) (mNil))) (mC (.int 2)))) (tNotD (tTru (mCall (callF f_l_is_int) (mCons (mBin ixY (mVar 0) (mC (.int 0))) (mCons (mC (.int 2)) (mCons (mC (.int 6)) (mNil))))))))) (sRet (mC (.bool false))) (sNil))
    (sSeq (sIf (tNotD (tTru (mIsiE "tuple" (mBin ixY (mVar 0) (mC (.int 1)))))) (sRet (mC (.bool false))) (sNil))
    (sSeq (sFor (iSeqK (mBin ixY (mVar 0) (mC (.int 1)))) (gSet 1) (L_l_is_place_1))
    (sRet (mCall (callF f_l_rises) (mCons (mBin ixY (mVar 0) (mC (.int 1))) (mNil))))))
def f_l_is_place : FS := runF 2 b_l_is_place
theorem ok_l_is_place {tl : TL} {P : Program} {w : World} {K : PySem.W.Frag} {mg : Str → Option Value} {fa : Addr} {fd : FuncData} (F : Fun K "_law_is_place" "_law_is_place" s_l_is_place fa fd) (T : Txt mg) (c_l_is_int : CalA tl P w K mg "_law_is_int" 1 ["_law_thing", "_law_low", "_law_high"] f_l_is_int) (c_l_rises : CalA tl P w K mg "_law_rises" 1 ["_law_things"] f_l_rises) : ∀ {τ : Tbs} {base : Heap}, Bs tl τ K mg base → FnG P w K mg base 2 fa fd ["_law_thing"] (spD τ K 1 f_l_is_place) :=
  fun bs => fnG (k := 1) (N := N_l_is_place) (ps := ["_law_thing"]) (b := b_l_is_place) F sc_l_is_place fun cdv A outer s H E hr hg => dss_cons (ds_if (PW.pt (dw_or (dt_not (dt_tru (de_isiE (by decide) rfl T.n_isinstance (by decide +kernel) rfl T.n_tuple (by decide +kernel) (de_var (pv 0))))) (dw_or (dt_cmp (op_neA hr.units) (de_callB call_lenX rfl T.n_len (by decide +kernel) (da_cons (de_var (pv 0)) (da_nil))) (de_int)) (dw_or1 (dt_not (dt_tru (de_callC (c_l_is_int bs) hr hg (by decide) rfl (da_cons (de_ixY hr (de_var (pv 0)) (de_int)) (da_cons (de_int) (da_cons (de_int) (da_nil)))) (ArgN.cons (ArgN.cons (ArgN.cons ArgN.nil))) rfl))))))) (dss_one (ds_ret (de_bl))) (dss_nil))
    (dss_cons (ds_if (dt_not (dt_tru (de_isiE (by decide) rfl T.n_isinstance (by decide +kernel) rfl T.n_tuple (by decide +kernel) (de_ixY hr (de_var (pv 0)) (de_int))))) (dss_one (ds_ret (de_bl))) (dss_nil))
    (dss_cons (ds_for (vis := [1]) PassesOwn.never rfl (di_seqK (de_ixY hr (de_var (pv 0)) (de_int))) (dg_name (i := 1) sc_l_is_place.nd rfl (Or.inl rfl)) (dss_cons (ds_if (PW.pt (dw_or (dt_not (dt_tru (de_isiE (by decide) rfl T.n_isinstance (by decide +kernel) rfl T.n_tuple (by decide +kernel) (de_var (pv 1))))) (dw_or (dt_cmp (op_neA hr.units) (de_callB call_lenX rfl T.n_len (by decide +kernel) (da_cons (de_var (pv 1)) (da_nil))) (de_int)) (dw_or1 (dt_not (dt_tru (de_callC (c_l_is_int bs) hr hg (by decide) rfl (da_cons (de_ixY hr (de_var (pv 1)) (de_int)) (da_cons (de_int) (da_cons (de_bin op_subD (de_ixY hr (de_var (pv 0)) (de_int)) (de_int)) (da_nil)))) (ArgN.cons (ArgN.cons (ArgN.cons ArgN.nil))) rfl))))))) (dss_one (ds_ret (de_bl))) (dss_nil))
    (dss_one (ds_if (PW.pt (dw_or (dt_not (dt_tru (de_callC (c_l_is_int bs) hr hg (by decide) rfl (da_cons (de_ixY hr (de_var (pv 1)) (de_int)) (da_cons (de_int) (da_cons (de_bin op_subD (de_ixY hr (de_var (pv 0)) (de_int)) (de_int)) (da_nil)))) (ArgN.cons (ArgN.cons (ArgN.cons ArgN.nil))) rfl))) (dw_or1 (dt_cmp (op_eqA hr.units) (de_ixY hr (de_var (pv 1)) (de_int)) (de_ixY hr (de_var (pv 1)) (de_int)))))) (dss_one (ds_ret (de_bl))) (dss_nil)))))
    (dss_one (ds_ret (de_callC (c_l_rises bs) hr hg (by decide) rfl (da_cons (de_ixY hr (de_var (pv 0)) (de_int)) (da_nil)) (ArgN.cons ArgN.nil) rfl)))))
abbrev s_l_place : Stmt := top 12
abbrev N_l_place : List Str := ["_law_bag_here", "_law_most", "_law_many", "_law_way", "_law_every", "_law_v", "_law_w"]
theorem sc_l_place : FnScope N_l_place ["_law_bag_here", "_law_most"] (defScope s_l_place) := ⟨rfl, rfl, rfl, by decide +kernel, rfl, by decide +kernel, by decide +kernel⟩
def b_l_place : MS := sSeq (sAsg (mBin addA (mC (.int 2)) (mCall (callF f_l_take) (mCons (mVar 0) (mCons (mBin subD (mVar 1) (mC (.int 1))) (mNil))))) (gSet 2))
    (sSeq (sAsg (mCall (callF f_l_some) (mCons (mVar 0) (mCons (mCall lstF (mCons (mC (.int 0)) (mCons (mC (.int 0)) (mCons (mC (.int 0)) (mCons (mC (.int 2)) (mCons (mC (.int 2)) (mCons (mC (.int 4)) (mCons (mC (.int 4)) (mCons (mC (.int 2)) (mCons (mC (.int 5)) (mCons (mC (.int 6)) (mCons (mC (.int 7)) (mNil))))))))))))) (mNil)))) (gSet 3))
    (sSeq (sAsg (mCall (callF f_l_flat) (mCons (mLc (iRng1D (mCons (mVar 2) (mNil))) (gSet 5) (tTrue) (mLc (iRng1D (mCons (mVar 2) (mNil))) (gSet 6) (tOf (mBin (eqA true) (mVar 6) (mVar 5))) (mCall tupF (mCons (mVar 5) (mCons (mVar 6) (mNil)))) [6] kFrz) [5] kFrz) (mNil))) (gSet 4))
    (sSeq (sIf (tOf (mBin ltD (mVar 3) (mC (.int 2)))) (sRet (mCall tupF (mCons (mVar 2) (mCons (mCall tupleD (mCons (mVar 4) (mNil))) (mNil))))) (sNil))
    (sSeq (sIf (tOrD (tOf (mBin ltD (mVar 3) (mC (.int 4)))) (tAndD (tOf (mBin (eqA false) (mVar 3) (mC (.int 4)))) (tOf (mBin ltD (mVar 2) (mC (.int 3)))))) (sRet (mCall tupF (mCons (mVar 2) (mCons (mCall tupleD (mCons (mLc (iSeq (mVar 4)) (gTupD 2 (gsCons (gSet 5) (gsCons (gSet 6) (gsNil)))) (tOf (mBin (inA false) (mBin subD (mVar 5) (mVar 6)) (mCall tupF (mCons (mC (.int 1)) (mCons (mNeg (mC (.int 1))) (mNil)))))) (mCall tupF (mCons (mVar 5) (mCons (mVar 6) (mNil)))) [5, 6] kFrz) (mNil))) (mNil))))) (sNil))
    (sSeq (sIf (tOf (mBin (eqA false) (mVar 3) (mC (.int 4)))) (sRet (mCall tupF (mCons (mVar 2) (mCons (mCall tupleD (mCons (mLc (iSeq (mVar 4)) (gTupD 2 (gsCons (gSet 5) (gsCons (gSet 6) (gsNil)))) (tOf (mBin (inA false) (mBin modD (mCall intD (mCons (mBin subD (mVar 5) (mVar 6)) (mNil))) (mVar 2)) (mCall tupF (mCons (mC (.int 1)) (mCons (mBin subD (mVar 2) (mC (.int 1))) (mNil)))))) (mCall tupF (mCons (mVar 5) (mCons (mVar 6) (mNil)))) [5, 6] kFrz) (mNil))) (mNil))))) (sNil))
    (sSeq (sIf (tOf (mBin (inA false) (mVar 3) (mCall tupF (mCons (mC (.int 5)) (mCons (mC (.int 7)) (mNil)))))) (sRet (mCall tupF (mCons (mVar 2) (mCons (mCall tupleD (mCons (mLc (iSeq (mVar 4)) (gTupD 2 (gsCons (gSet 5) (gsCons (gSet 6) (gsNil)))) (tAndD (tOf (mBin ltD (mVar 5) (mVar 6))) (tOrD (tOf (mBin (eqA false) (mVar 3) (mC (.int 5)))) (tOf (mBin (eqA false) (mVar 6) (mBin addA (mVar 5) (mC (.int 1))))))) (mCall tupF (mCons (mVar 5) (mCons (mVar 6) (mNil)))) [5, 6] kFrz) (mNil))) (mNil))))) (sNil))
    (sRet (mCall tupF (mCons (mVar 2) (mCons (mCall tupleD (mCons (mCall sortedD (mCons (mSl (mCall (callF f_l_mixed) (mCons (mVar 0) (mCons (mVar 4) (mNil)))) (oNo) (oYes (mCall (callF f_l_take) (mCons (mVar 0) (mCons (mBin addA (mCall lenD (mCons (mVar 4) (mNil))) (mC (.int 1))) (mNil)))))) (mNil))) (mNil))) (mNil)))))))))))
def f_l_place : FS := runF 7 b_l_place
theorem ok_l_place {tl : TL} {P : Program} {w : World} {K : PySem.W.Frag} {mg : Str → Option Value} {fa : Addr} {fd : FuncData} (F : Fun K "_law_place" "_law_place" s_l_place fa fd) (T : Txt mg) (c_l_take : CalA tl P w K mg "_law_take" 1 ["_law_bag_here", "_law_upto"] f_l_take) (c_l_some : CalA tl P w K mg "_law_some" 2 ["_law_bag_here", "_law_things"] f_l_some) (c_l_flat : CalA tl P w K mg "_law_flat" 1 ["_law_rows"] f_l_flat) (c_l_mixed : CalA tl P w K mg "_law_mixed" 2 ["_law_bag_here", "_law_things"] f_l_mixed) : ∀ {τ : Tbs} {base : Heap}, Bs tl τ K mg base → FnG P w K mg base 3 fa fd ["_law_bag_here", "_law_most"] (spD τ K 2 f_l_place) :=
  fun bs => fnG (k := 2) (N := N_l_place) (ps := ["_law_bag_here", "_law_most"]) (b := b_l_place) F sc_l_place fun cdv A outer s H E hr hg => dss_cons (ds_set (i := 2) sc_l_place.nd rfl (Or.inr rfl) (de_bin op_addA (de_int) (de_callC (c_l_take bs) hr hg (by decide) rfl (da_cons (de_var (pv 0)) (da_cons (de_bin op_subD (de_var (pv 1)) (de_int)) (da_nil))) (ArgN.cons (ArgN.cons ArgN.nil)) rfl)))
    (dss_cons (ds_set (i := 3) sc_l_place.nd rfl (Or.inr rfl) (de_callC (c_l_some bs) hr hg (by decide) rfl (da_cons (de_var (pv 0)) (da_cons (de_lst (da_cons (de_int) (da_cons (de_int) (da_cons (de_int) (da_cons (de_int) (da_cons (de_int) (da_cons (de_int) (da_cons (de_int) (da_cons (de_int) (da_cons (de_int) (da_cons (de_int) (da_cons (de_int) (da_nil))))))))))))) (da_nil))) (ArgN.cons (ArgN.cons ArgN.nil)) rfl))
    (dss_cons (ds_set (i := 4) sc_l_place.nd rfl (Or.inl rfl) (de_callC (c_l_flat bs) hr hg (by decide) rfl (da_cons (de_lc (own := [("_law_v", 5)]) rfl sc_l_place.nd (di_rng1 rfl T.n_range (da_cons (de_var (pv 2)) (da_nil))) (blkOk_by (own := [("_law_v", 5)]) (N := N_l_place) (sc := defScope s_l_place) (by decide +kernel)) (fun _ _ _ _ _ => dg_name (i := 5) sc_l_place.nd rfl (Or.inr rfl)) (fun _ _ _ _ _ => dts_nil) (fun _ _ _ _ _ => de_lc (own := [("_law_w", 6)]) rfl sc_l_place.nd (di_rng1 rfl T.n_range (da_cons (de_var (pv 2)) (da_nil))) (blkOk_by (own := [("_law_w", 6)]) (N := N_l_place) (sc := { kind := .function, names := [(".0", .local), ("_law_v", .cell), ("range", .globalImplicit), ("_law_many", .cell)], isGenerator := false, isCoroutine := false }) (by decide +kernel)) (fun _ _ _ _ _ => dg_name (i := 6) sc_l_place.nd rfl (Or.inl rfl)) (fun _ _ _ _ _ => dts_one (dt_cmp (op_neA hr.units) (de_var (pv 6)) (de_var (pv 5)))) (fun _ _ _ _ _ => de_tup (da_cons (de_var (pv 5)) (da_cons (de_var (pv 6)) (da_nil)))))) (da_nil)) (ArgN.cons ArgN.nil) rfl))
    (dss_cons (ds_if (dt_cmp (op_ltDD hr) (de_var (pv 3)) (de_int)) (dss_one (ds_ret (de_tup (da_cons (de_var (pv 2)) (da_cons (de_callTy call_tupleDD rfl T.n_tuple (by decide +kernel) (da_cons (de_var (pv 4)) (da_nil))) (da_nil)))))) (dss_nil))
    (dss_cons (ds_if (PW.pt (dw_or (dt_cmp (op_ltDD hr) (de_var (pv 3)) (de_int)) (dw_or1 (PW.pt (dw_and (dt_cmp (op_eqA hr.units) (de_var (pv 3)) (de_int)) (dw_and1 (dt_cmp (op_ltDD hr) (de_var (pv 2)) (de_int)))))))) (dss_one (ds_ret (de_tup (da_cons (de_var (pv 2)) (da_cons (de_callTy call_tupleDD rfl T.n_tuple (by decide +kernel) (da_cons (de_lc (own := [("_law_v", 5), ("_law_w", 6)]) rfl sc_l_place.nd (di_seq (de_var (pv 4))) (blkOk_by (own := [("_law_v", 5), ("_law_w", 6)]) (N := N_l_place) (sc := defScope s_l_place) (by decide +kernel)) (fun _ _ _ _ _ => dg_tup rfl (dgs_cons (dg_name (i := 5) sc_l_place.nd rfl (Or.inl rfl)) (dgs_cons (dg_name (i := 6) sc_l_place.nd rfl (Or.inl rfl)) (dgs_nil)))) (fun _ _ _ _ _ => dts_one (dt_cmp (op_inA hr.units65) (de_bin op_subD (de_var (pv 5)) (de_var (pv 6))) (de_tup (da_cons (de_int) (da_cons (de_neg (de_int)) (da_nil)))))) (fun _ _ _ _ _ => de_tup (da_cons (de_var (pv 5)) (da_cons (de_var (pv 6)) (da_nil))))) (da_nil))) (da_nil)))))) (dss_nil))
    (dss_cons (ds_if (dt_cmp (op_eqA hr.units) (de_var (pv 3)) (de_int)) (dss_one (ds_ret (de_tup (da_cons (de_var (pv 2)) (da_cons (de_callTy call_tupleDD rfl T.n_tuple (by decide +kernel) (da_cons (de_lc (own := [("_law_v", 5), ("_law_w", 6)]) rfl sc_l_place.nd (di_seq (de_var (pv 4))) (blkOk_by (own := [("_law_v", 5), ("_law_w", 6)]) (N := N_l_place) (sc := defScope s_l_place) (by decide +kernel)) (fun _ _ _ _ _ => dg_tup rfl (dgs_cons (dg_name (i := 5) sc_l_place.nd rfl (Or.inl rfl)) (dgs_cons (dg_name (i := 6) sc_l_place.nd rfl (Or.inl rfl)) (dgs_nil)))) (fun _ _ _ _ _ => dts_one (dt_cmp (op_inA hr.units65) (de_bin op_modD (de_callTy call_intDD rfl T.n_int (by decide +kernel) (da_cons (de_bin op_subD (de_var (pv 5)) (de_var (pv 6))) (da_nil))) (de_var (pv 2))) (de_tup (da_cons (de_int) (da_cons (de_bin op_subD (de_var (pv 2)) (de_int)) (da_nil)))))) (fun _ _ _ _ _ => de_tup (da_cons (de_var (pv 5)) (da_cons (de_var (pv 6)) (da_nil))))) (da_nil))) (da_nil)))))) (dss_nil))
    (dss_cons (ds_if (dt_cmp (op_inA hr.units65) (de_var (pv 3)) (de_tup (da_cons (de_int) (da_cons (de_int) (da_nil))))) (dss_one (ds_ret (de_tup (da_cons (de_var (pv 2)) (da_cons (de_callTy call_tupleDD rfl T.n_tuple (by decide +kernel) (da_cons (de_lc (own := [("_law_v", 5), ("_law_w", 6)]) rfl sc_l_place.nd (di_seq (de_var (pv 4))) (blkOk_by (own := [("_law_v", 5), ("_law_w", 6)]) (N := N_l_place) (sc := defScope s_l_place) (by decide +kernel)) (fun _ _ _ _ _ => dg_tup rfl (dgs_cons (dg_name (i := 5) sc_l_place.nd rfl (Or.inl rfl)) (dgs_cons (dg_name (i := 6) sc_l_place.nd rfl (Or.inl rfl)) (dgs_nil)))) (fun _ _ _ _ _ => dts_one (PW.pt (dw_and (dt_cmp (op_ltDD hr) (de_var (pv 5)) (de_var (pv 6))) (dw_and1 (PW.pt (dw_or (dt_cmp (op_eqA hr.units) (de_var (pv 3)) (de_int)) (dw_or1 (dt_cmp (op_eqA hr.units) (de_var (pv 6)) (de_bin op_addA (de_var (pv 5)) (de_int)))))))))) (fun _ _ _ _ _ => de_tup (da_cons (de_var (pv 5)) (da_cons (de_var (pv 6)) (da_nil))))) (da_nil))) (da_nil)))))) (dss_nil))
    (dss_one (ds_ret (de_tup (da_cons (de_var (pv 2)) (da_cons (de_callTy call_tupleDD rfl T.n_tuple (by decide +kernel) (da_cons (de_callB (call_sortedDD hr) rfl T.n_sorted (by decide +kernel) (da_cons (de_sl (de_callC (c_l_mixed bs) hr hg (by decide) rfl (da_cons (de_var (pv 0)) (da_cons (de_var (pv 4)) (da_nil))) (ArgN.cons (ArgN.cons ArgN.nil)) rfl) (do_no) (do_yes (de_callC (c_l_take bs) hr hg (by decide) rfl (da_cons (de_var (pv 0)) (da_cons (de_bin op_addA (de_callB call_lenDD rfl T.n_len (by decide +kernel) (da_cons (de_var (pv 4)) (da_nil))) (de_int)) (da_nil))) (ArgN.cons (ArgN.cons ArgN.nil)) rfl))) (da_nil))) (da_nil))) (da_nil))))))))))))
abbrev s_l_is_bench : Stmt := top 16
abbrev N_l_is_bench : List Str := ["_law_thing", "_law_place_here"]
theorem sc_l_is_bench : FnScope N_l_is_bench ["_law_thing"] (defScope s_l_is_bench) := ⟨rfl, rfl, rfl, by decide +kernel, rfl, by decide +kernel, by decide +kernel⟩
def b_l_is_bench : MS := sRet (vAndT (mIsiE "tuple" (mVar 0)) (vAnd (mBin gtX (mCall lenX (mCons (mVar 0) (mNil))) (mC (.int 0))) (mCall allDD (mCons (mLc (iSeqK (mVar 0)) (gSet 1) (tTrue) (mCall (callF f_l_is_place) (mCons (mVar 1) (mNil))) [1] kFrz) (mNil)))))
def f_l_is_bench : FS := runF 2 b_l_is_bench
theorem ok_l_is_bench {tl : TL} {P : Program} {w : World} {K : PySem.W.Frag} {mg : Str → Option Value} {fa : Addr} {fd : FuncData} (F : Fun K "_law_is_bench" "_law_is_bench" s_l_is_bench fa fd) (T : Txt mg) (c_l_is_place : CalA tl P w K mg "_law_is_place" 2 ["_law_thing"] f_l_is_place) : ∀ {τ : Tbs} {base : Heap}, Bs tl τ K mg base → FnG P w K mg base 3 fa fd ["_law_thing"] (spD τ K 1 f_l_is_bench) :=
  fun bs => fnG (k := 2) (N := N_l_is_bench) (ps := ["_law_thing"]) (b := b_l_is_bench) F sc_l_is_bench fun cdv A outer s H E hr hg => dss_one (ds_ret (de_andT (de_isiE (by decide) rfl T.n_isinstance (by decide +kernel) rfl T.n_tuple (by decide +kernel) (de_var (pv 0))) (de_and (de_cmp (op_gtX hr) (de_callB call_lenX rfl T.n_len (by decide +kernel) (da_cons (de_var (pv 0)) (da_nil))) (de_int)) (de_one (de_callB (call_allDD rfl) rfl T.n_all (by decide +kernel) (da_cons (de_lc (own := [("_law_place_here", 1)]) rfl sc_l_is_bench.nd (di_seqK (de_var (pv 0))) (blkOk_by (own := [("_law_place_here", 1)]) (N := N_l_is_bench) (sc := defScope s_l_is_bench) (by decide +kernel)) (fun _ _ _ _ _ => dg_name (i := 1) sc_l_is_bench.nd rfl (Or.inl rfl)) (fun _ _ _ _ _ => dts_nil) (fun _ _ _ _ _ => de_callC (c_l_is_place bs) hr hg (by decide) rfl (da_cons (de_var (pv 1)) (da_nil)) (ArgN.cons ArgN.nil) rfl)) (da_nil)))))))
abbrev s_l_odd : Stmt := top 17
abbrev N_l_odd : List Str := ["_law_bag_here", "_law_some_here"]
theorem sc_l_odd : FnScope N_l_odd ["_law_bag_here"] (defScope s_l_odd) := ⟨rfl, rfl, rfl, by decide +kernel, rfl, by decide +kernel, by decide +kernel⟩
def b_l_odd : MS := sSeq (sAsg (mCall lstF (mCons (mC .none) (mCons (mC (.bool true)) (mCons (mC (.bool false)) (mCons (mC (.int 0)) (mCons (mC (.int 1)) (mCons (mNeg (mC (.int 1))) (mCons (mC (.int 6)) (mCons (mC (.int 7)) (mCons (mBin powD (mC (.int 10)) (mC (.int 39))) (mCons (mC (.str "")) (mCons (mC (.str "0")) (mCons (mCall tupF (mNil)) (mCons (mCall lstF (mNil)) (mCons (mFrzA (mNewT)) (mCons (mCall tupF (mCons (mC (.int 0)) (mNil))) (mCons (mCall lstF (mCons (mC (.int 0)) (mNil))) (mCons (mCall tupF (mCons (mCall tupF (mNil)) (mNil))) (mCons (mFrzA (mDispK (mC (.int 0)) (mC (.int 1)))) (mCons (mCall tupF (mCons (mCall tupF (mCons (mC (.int 0)) (mCons (mC (.int 1)) (mNil)))) (mNil))) (mNil))))))))))))))))))))) (gSet 1))
    (sRet (mCall (callF f_l_some) (mCons (mVar 0) (mCons (mBin addA (mVar 1) (mCall lstF (mCons (mCall tupF (mCons (mC (.int 0)) (mCons (mC (.int 0)) (mNil)))) (mCons (mCall tupF (mCons (mC (.bool true)) (mNil))) (mCons (mCall tupF (mCons (mC (.int 0)) (mCons (mC (.int 0)) (mCons (mC (.int 0)) (mNil))))) (mCons (mCall tupF (mCons (mCall tupF (mCons (mC (.int 0)) (mCons (mC (.int 0)) (mNil)))) (mCons (mCall tupF (mCons (mC (.int 1)) (mCons (mC (.int 0)) (mNil)))) (mNil)))) (mCons (mC (.str "free")) (mNil)))))))) (mNil)))))
def f_l_odd : FS := runF 2 b_l_odd
theorem ok_l_odd {tl : TL} {P : Program} {w : World} {K : PySem.W.Frag} {mg : Str → Option Value} {fa : Addr} {fd : FuncData} (F : Fun K "_law_odd" "_law_odd" s_l_odd fa fd) (T : Txt mg) (c_l_some : CalA tl P w K mg "_law_some" 2 ["_law_bag_here", "_law_things"] f_l_some) : ∀ {τ : Tbs} {base : Heap}, Bs tl τ K mg base → FnG P w K mg base 3 fa fd ["_law_bag_here"] (spD τ K 1 f_l_odd) :=
  fun bs => fnG (k := 2) (N := N_l_odd) (ps := ["_law_bag_here"]) (b := b_l_odd) F sc_l_odd fun cdv A outer s H E hr hg => dss_cons (ds_set (i := 1) sc_l_odd.nd rfl (Or.inl rfl) (de_lst (da_cons (de_non) (da_cons (de_bl) (da_cons (de_bl) (da_cons (de_int) (da_cons (de_int) (da_cons (de_neg (de_int)) (da_cons (de_int) (da_cons (de_int) (da_cons (de_bin op_powD (de_int) (de_int)) (da_cons (de_str) (da_cons (de_str) (da_cons (de_tup (da_nil)) (da_cons (de_lst (da_nil)) (da_cons (de_frzA (de_newT)) (da_cons (de_tup (da_cons (de_int) (da_nil))) (da_cons (de_lst (da_cons (de_int) (da_nil))) (da_cons (de_tup (da_cons (de_tup (da_nil)) (da_nil))) (da_cons (de_frzA (de_dispK (de_int) (de_int))) (da_cons (de_tup (da_cons (de_tup (da_cons (de_int) (da_cons (de_int) (da_nil)))) (da_nil))) (da_nil))))))))))))))))))))))
    (dss_one (ds_ret (de_callC (c_l_some bs) hr hg (by decide) rfl (da_cons (de_var (pv 0)) (da_cons (de_bin op_addA (de_var (pv 1)) (de_lst (da_cons (de_tup (da_cons (de_int) (da_cons (de_int) (da_nil)))) (da_cons (de_tup (da_cons (de_bl) (da_nil))) (da_cons (de_tup (da_cons (de_int) (da_cons (de_int) (da_cons (de_int) (da_nil))))) (da_cons (de_tup (da_cons (de_tup (da_cons (de_int) (da_cons (de_int) (da_nil)))) (da_cons (de_tup (da_cons (de_int) (da_cons (de_int) (da_nil)))) (da_nil)))) (da_cons (de_str) (da_nil)))))))) (da_nil))) (ArgN.cons (ArgN.cons ArgN.nil)) rfl)))
abbrev s_is_place : Stmt := top 3
abbrev N_is_place : List Str := ["thing"]
theorem sc_is_place : FnScope N_is_place ["thing"] (defScope s_is_place) := ⟨rfl, rfl, rfl, by decide +kernel, rfl, by decide +kernel, by decide +kernel⟩
def m_is_place_1 : ME := mCall (callF f_is_move) (mCons (mBin ixY (mVar 1) (mC (.int 0))) (mCons (mVar 0) (mNil)))
def b_is_place : MS := sSeq (sIf (tOrD (tNotD (tTru (mIsiE "tuple" (mVar 0)))) (tOrD (tOf (mBin (eqA true) (mCall lenX (mCons (mVar 0) (mNil))) (mC (.int 2)))) (tOrD (tNotD (tTru (mCall (callF f_is_integer) (mCons (mBin ixY (mVar 0) (mC (.int 0))) (mNil))))) (tNotD (tOf (vChain leD leD (mC (.int 2)) (mBin ixY (mVar 0) (mC (.int 0))) (mC (.int 6)))))))) (sRet (mC (.bool false))) (sNil))
    (sRet (mLam f_is_ascending m_is_place_1 [0] (mBin ixY (mVar 0) (mC (.int 1)))))
def f_is_place : FS := runF 1 b_is_place
theorem ok_is_place {tl : TL} {P : Program} {w : World} {K : PySem.W.Frag} {mg : Str → Option Value} {fa : Addr} {fd : FuncData} {co Pt : Addr} (F : FunC K "is_place" "is_place" s_is_place fa fd co) (tm_is_place : (co, Pt, ("is_place.<locals>.<lambda>" : Str)) ∈ tl) (T : Txt mg) (c_is_integer : CalA tl P w K mg "is_integer" 1 ["thing"] f_is_integer) (c_is_move : CalA tl P w K mg "is_move" 2 ["values", "thing"] f_is_move) (c_is_ascending : CalL tl P w K mg "is_ascending" ["thing", "is_member"] f_is_ascending) : ∀ {τ : Tbs} {base : Heap}, Bs tl τ K mg base → FnG P w K mg base 5 fa fd ["thing"] (spD τ K 1 f_is_place) :=
  fun bs => fnGC (k := 4) (N := N_is_place) (ps := ["thing"]) (b := b_is_place) F sc_is_place fun A outer s H E hr hg => dss_cons (ds_if (PW.pt (dw_or (dt_not (dt_tru (de_isiE (by decide) rfl T.n_isinstance (by decide +kernel) rfl T.n_tuple (by decide +kernel) (de_var (pv 0))))) (dw_or (dt_cmp (op_neA hr.units) (de_callB call_lenX rfl T.n_len (by decide +kernel) (da_cons (de_var (pv 0)) (da_nil))) (de_int)) (dw_or (dt_not (dt_tru (de_callC (c_is_integer bs) hr hg (by decide) rfl (da_cons (de_ixY hr (de_var (pv 0)) (de_int)) (da_nil)) (ArgN.cons ArgN.nil) rfl))) (dw_or1 (dt_not (dt_chain op_leD op_leD (de_int) (de_ixY hr (de_var (pv 0)) (de_int)) (de_int)))))))) (dss_one (ds_ret (de_bl))) (dss_nil))
    (dss_one (ds_ret (de_lamC (p := ("move" : Str)) (sc := defScope s_is_place) (j := 2) (N := N_is_place) (cs := ["thing"]) (caps := [0]) (F := m_is_place_1) c_is_ascending bs tm_is_place rfl rfl rfl rfl hr (by decide) hg rfl rfl rfl (by decide +kernel) rfl (de_ixY hr (de_var (pv 0)) (de_int)) (fun _ _ _ _ _ _ => rfl) (fun _ _ bs _ _ _ _ _ _ _ hr hg => de_callC (c_is_move bs) hr hg (by decide) rfl (da_cons (de_ixY hr (de_var (pv 1)) (de_int)) (da_cons (de_var (pv 0)) (da_nil))) (ArgN.cons (ArgN.cons ArgN.nil)) rfl))))
abbrev s_is_bench : Stmt := top 5
abbrev N_is_bench : List Str := ["thing", "place"]
theorem sc_is_bench : FnScope N_is_bench ["thing"] (defScope s_is_bench) := ⟨rfl, rfl, rfl, by decide +kernel, rfl, by decide +kernel, by decide +kernel⟩
def b_is_bench : MS := sRet (vAndT (mIsiE "tuple" (mVar 0)) (vAnd (mBin neT0 (mVar 0) (mCall tupF (mNil))) (mCall allDD (mCons (mLc (iSeqK (mVar 0)) (gSet 1) (tTrue) (mCall (callF f_is_place) (mCons (mVar 1) (mNil))) [1] kFrz) (mNil)))))
def f_is_bench : FS := runF 2 b_is_bench
theorem ok_is_bench {tl : TL} {P : Program} {w : World} {K : PySem.W.Frag} {mg : Str → Option Value} {fa : Addr} {fd : FuncData} (F : Fun K "is_bench" "is_bench" s_is_bench fa fd) (T : Txt mg) (c_is_place : CalA tl P w K mg "is_place" 5 ["thing"] f_is_place) : ∀ {τ : Tbs} {base : Heap}, Bs tl τ K mg base → FnG P w K mg base 6 fa fd ["thing"] (spD τ K 1 f_is_bench) :=
  fun bs => fnG (k := 5) (N := N_is_bench) (ps := ["thing"]) (b := b_is_bench) F sc_is_bench fun cdv A outer s H E hr hg => dss_one (ds_ret (de_andT (de_isiE (by decide) rfl T.n_isinstance (by decide +kernel) rfl T.n_tuple (by decide +kernel) (de_var (pv 0))) (de_and (de_cmp (op_neT0 hr.units) (de_var (pv 0)) (de_tup (da_nil))) (de_one (de_callB (call_allDD rfl) rfl T.n_all (by decide +kernel) (da_cons (de_lc (own := [("place", 1)]) rfl sc_is_bench.nd (di_seqK (de_var (pv 0))) (blkOk_by (own := [("place", 1)]) (N := N_is_bench) (sc := defScope s_is_bench) (by decide +kernel)) (fun _ _ _ _ _ => dg_name (i := 1) sc_is_bench.nd rfl (Or.inl rfl)) (fun _ _ _ _ _ => dts_nil) (fun _ _ _ _ _ => de_callC (c_is_place bs) hr hg (by decide) rfl (da_cons (de_var (pv 1)) (da_nil)) (ArgN.cons ArgN.nil) rfl)) (da_nil)))))))
abbrev s_l_bent : Stmt := top 18
abbrev N_l_bent : List Str := ["_law_bag_here", "_law_thing", "_law_at", "_law_by", "_law_row", "_law_way"]
theorem sc_l_bent : FnScope N_l_bent ["_law_bag_here", "_law_thing"] (defScope s_l_bent) := ⟨rfl, rfl, rfl, by decide +kernel, rfl, by decide +kernel, by decide +kernel⟩
def b_l_bent (self : FS) : MS := sSeq (sIf (tAndD (tTru (mCall (callF f_l_is_int) (mCons (mVar 1) (mCons (mNeg (mC (.int 9))) (mCons (mC (.int 9)) (mNil)))))) (tOf (mBin (eqA false) (mCall (callF f_l_take) (mCons (mVar 0) (mCons (mC (.int 2)) (mNil)))) (mC (.int 0))))) (sRet (mBin addA (mVar 1) (mCall (callF f_l_some) (mCons (mVar 0) (mCons (mCall lstF (mCons (mC (.int 1)) (mCons (mNeg (mC (.int 1))) (mCons (mC (.int 2)) (mNil))))) (mNil)))))) (sNil))
    (sSeq (sIf (tOrD (tNotD (tTru (mIsiE2 "tuple" "list" (mVar 1)))) (tOrD (tOf (mBin (eqA false) (mCall lenX (mCons (mVar 1) (mNil))) (mC (.int 0)))) (tOf (mBin (eqA false) (mCall (callF f_l_take) (mCons (mVar 0) (mCons (mC (.int 7)) (mNil)))) (mC (.int 0)))))) (sRet (mCall (callF f_l_odd) (mCons (mVar 0) (mNil)))) (sNil))
    (sSeq (sTupA 4 (gsCons (gSet 2) (gsCons (gSet 3) (gsCons (gSet 4) (gsCons (gSet 5) (gsNil))))) (mCons (mCall (callF f_l_take) (mCons (mVar 0) (mCons (mCall lenX (mCons (mVar 1) (mNil))) (mNil)))) (mCons (mCall (callF f_l_take) (mCons (mVar 0) (mCons (mCall lenX (mCons (mVar 1) (mNil))) (mNil)))) (mCons (mCall listB (mCons (mVar 1) (mNil))) (mCons (mCall (callF f_l_take) (mCons (mVar 0) (mCons (mC (.int 12)) (mNil)))) (mNil))))))
    (sSeq (sIf (tOf (mBin (eqA false) (mVar 5) (mC (.int 0)))) (sRet (vIf (tTru (mIsiE "tuple" (mVar 1))) (mFrzA (mVar 4)) (mCall tupleD (mCons (mVar 4) (mNil))))) (sNil))
    (sSeq (sIf (tOf (mBin (eqA false) (mVar 5) (mC (.int 1)))) (sExpr (mMt popAtF (mVar 4) (mCons (mVar 2) (mNil)))) (sIf (tOf (mBin (eqA false) (mVar 5) (mC (.int 2)))) (sExpr (mMt insertF (mVar 4) (mCons (mVar 2) (mCons (mBin ixY (mVar 4) (mVar 3)) (mNil))))) (sIf (tOf (mBin (eqA false) (mVar 5) (mC (.int 3)))) (sAsg (mCall tupF (mCons (mBin ixY (mVar 4) (mVar 3)) (mCons (mBin ixY (mVar 4) (mVar 2)) (mNil)))) (gTupD 2 (gsCons (gSubD (mVar 4) (mVar 2) setX) (gsCons (gSubD (mVar 4) (mVar 3) setX) (gsNil))))) (sIf (tOf (mBin (eqA false) (mVar 5) (mC (.int 4)))) (sExpr (mMt insertF (mVar 4) (mCons (mCall (callF f_l_take) (mCons (mVar 0) (mCons (mBin addA (mCall lenX (mCons (mVar 4) (mNil))) (mC (.int 1))) (mNil)))) (mCons (mCall (callF f_l_odd) (mCons (mVar 0) (mNil))) (mNil))))) (sAsg (mCall (callF self) (mCons (mVar 0) (mCons (mBin ixY (mVar 4) (mVar 2)) (mNil)))) (gSubD (mVar 4) (mVar 2) setX))))))
    (sFz 4 (sRet (vIf (tTru (mIsiE "tuple" (mVar 1))) (mCall tupleD (mCons (mVar 4) (mNil))) (mVar 4))))))))
def f_l_bent : Nat → FS
  | 0 => fun _ _ => none
  | n + 1 => runF 6 (b_l_bent (f_l_bent n))
theorem ok_l_bent {tl : TL} {P : Program} {w : World} {K : PySem.W.Frag} {mg : Str → Option Value} {fa : Addr} {fd : FuncData} (F : Fun K "_law_bent" "_law_bent" s_l_bent fa fd) (hm : mg "_law_bent" = some (.ref fa)) (T : Txt mg) (c_l_take : CalA tl P w K mg "_law_take" 1 ["_law_bag_here", "_law_upto"] f_l_take) (c_l_is_int : CalA tl P w K mg "_law_is_int" 1 ["_law_thing", "_law_low", "_law_high"] f_l_is_int) (c_l_some : CalA tl P w K mg "_law_some" 2 ["_law_bag_here", "_law_things"] f_l_some) (c_l_odd : CalA tl P w K mg "_law_odd" 3 ["_law_bag_here"] f_l_odd) : ∀ (n : Nat) {τ : Tbs} {base : Heap}, Bs tl τ K mg base → FnG P w K mg base (3 + n) fa fd ["_law_bag_here", "_law_thing"] (spD τ K 2 (f_l_bent n))
  | 0, _, _, _ => fnNone
  | n + 1, _, _, bs =>
    have c_l_bent : CalA tl P w K mg "_law_bent" (3 + n) ["_law_bag_here", "_law_thing"] (f_l_bent n) := fun bs => cal_mk F hm (fun _ _ _ _ _ _ us hl => match us, hl with | [_, _], _ => rfl) (ok_l_bent F hm T c_l_take c_l_is_int c_l_some c_l_odd n bs)
    fnG (k := 3 + n) (N := N_l_bent) (ps := ["_law_bag_here", "_law_thing"]) (b := b_l_bent (f_l_bent n)) F sc_l_bent fun cdv A outer s H E hr hg => dss_cons (ds_if (PW.pt (dw_and (dt_tru (de_callC (c_l_is_int bs) hr hg (by omega) rfl (da_cons (de_var (pv 1)) (da_cons (de_neg (de_int)) (da_cons (de_int) (da_nil)))) (ArgN.cons (ArgN.cons (ArgN.cons ArgN.nil))) rfl)) (dw_and1 (dt_cmp (op_eqA hr.units) (de_callC (c_l_take bs) hr hg (by omega) rfl (da_cons (de_var (pv 0)) (da_cons (de_int) (da_nil))) (ArgN.cons (ArgN.cons ArgN.nil)) rfl) (de_int))))) (dss_one (ds_ret (de_bin op_addA (de_var (pv 1)) (de_callC (c_l_some bs) hr hg (by omega) rfl (da_cons (de_var (pv 0)) (da_cons (de_lst (da_cons (de_int) (da_cons (de_neg (de_int)) (da_cons (de_int) (da_nil))))) (da_nil))) (ArgN.cons (ArgN.cons ArgN.nil)) rfl)))) (dss_nil))
    (dss_cons (ds_if (PW.pt (dw_or (dt_not (dt_tru (de_isiE2 (by decide) (by decide) rfl T.n_isinstance (by decide +kernel) rfl T.n_tuple (by decide +kernel) rfl T.n_list (by decide +kernel) (de_var (pv 1))))) (dw_or (dt_cmp (op_eqA hr.units) (de_callB call_lenX rfl T.n_len (by decide +kernel) (da_cons (de_var (pv 1)) (da_nil))) (de_int)) (dw_or1 (dt_cmp (op_eqA hr.units) (de_callC (c_l_take bs) hr hg (by omega) rfl (da_cons (de_var (pv 0)) (da_cons (de_int) (da_nil))) (ArgN.cons (ArgN.cons ArgN.nil)) rfl) (de_int)))))) (dss_one (ds_ret (de_callC (c_l_odd bs) hr hg (by omega) rfl (da_cons (de_var (pv 0)) (da_nil)) (ArgN.cons ArgN.nil) rfl))) (dss_nil))
    (dss_cons (ds_tupA (vis := [2, 3, 4, 5]) rfl (da_cons (de_callC (c_l_take bs) hr hg (by omega) rfl (da_cons (de_var (pv 0)) (da_cons (de_callB call_lenX rfl T.n_len (by decide +kernel) (da_cons (de_var (pv 1)) (da_nil))) (da_nil))) (ArgN.cons (ArgN.cons ArgN.nil)) rfl) (da_cons (de_callC (c_l_take bs) hr hg (by omega) rfl (da_cons (de_var (pv 0)) (da_cons (de_callB call_lenX rfl T.n_len (by decide +kernel) (da_cons (de_var (pv 1)) (da_nil))) (da_nil))) (ArgN.cons (ArgN.cons ArgN.nil)) rfl) (da_cons (de_callTy call_listBB rfl T.n_list (by decide +kernel) (da_cons (de_var (pv 1)) (da_nil))) (da_cons (de_callC (c_l_take bs) hr hg (by omega) rfl (da_cons (de_var (pv 0)) (da_cons (de_int) (da_nil))) (ArgN.cons (ArgN.cons ArgN.nil)) rfl) (da_nil))))) (dgs_cons (dg_name (i := 2) sc_l_bent.nd rfl (Or.inl rfl)) (dgs_cons (dg_name (i := 3) sc_l_bent.nd rfl (Or.inl rfl)) (dgs_cons (dg_name (i := 4) sc_l_bent.nd rfl (Or.inl rfl)) (dgs_cons (dg_name (i := 5) sc_l_bent.nd rfl (Or.inl rfl)) (dgs_nil))))))
    (dss_cons (ds_if (dt_cmp (op_eqA hr.units) (de_var (pv 5)) (de_int)) (dss_one (ds_ret (de_if (dt_tru (de_isiE (by decide) rfl T.n_isinstance (by decide +kernel) rfl T.n_tuple (by decide +kernel) (de_var (pv 1)))) (de_frzA (de_var (pv 4))) (de_callTy call_tupleDD rfl T.n_tuple (by decide +kernel) (da_cons (de_var (pv 4)) (da_nil)))))) (dss_nil))
    (dss_cons (ds_if (dt_cmp (op_eqA hr.units) (de_var (pv 5)) (de_int)) (dss_one (ds_expr (de_bm PySem.F.slot_list_pop PySem.F.type_list_pop mt_popAtD (de_var (pv 4)) (da_cons (de_var (pv 2)) (da_nil))))) (dss_one (ds_if (dt_cmp (op_eqA hr.units) (de_var (pv 5)) (de_int)) (dss_one (ds_expr (de_bm PySem.F.slot_list_insert PySem.F.type_list_insert mt_insertD (de_var (pv 4)) (da_cons (de_var (pv 2)) (da_cons (de_ixY hr (de_var (pv 4)) (de_var (pv 3))) (da_nil)))))) (dss_one (ds_if (dt_cmp (op_eqA hr.units) (de_var (pv 5)) (de_int)) (dss_one (ds_asg (vis := []) (de_tup (da_cons (de_ixY hr (de_var (pv 4)) (de_var (pv 3))) (da_cons (de_ixY hr (de_var (pv 4)) (de_var (pv 2))) (da_nil)))) (dg_tup rfl (dgs_cons (dg_sub (vis := []) (de_var (pv 4)) (de_var (pv 2)) (set_X hr)) (dgs_cons (dg_sub (vis := []) (de_var (pv 4)) (de_var (pv 3)) (set_X hr)) (dgs_nil)))))) (dss_one (ds_if (dt_cmp (op_eqA hr.units) (de_var (pv 5)) (de_int)) (dss_one (ds_expr (de_bm PySem.F.slot_list_insert PySem.F.type_list_insert mt_insertD (de_var (pv 4)) (da_cons (de_callC (c_l_take bs) hr hg (by omega) rfl (da_cons (de_var (pv 0)) (da_cons (de_bin op_addA (de_callB call_lenX rfl T.n_len (by decide +kernel) (da_cons (de_var (pv 4)) (da_nil))) (de_int)) (da_nil))) (ArgN.cons (ArgN.cons ArgN.nil)) rfl) (da_cons (de_callC (c_l_odd bs) hr hg (by omega) rfl (da_cons (de_var (pv 0)) (da_nil)) (ArgN.cons ArgN.nil) rfl) (da_nil)))))) (dss_one (ds_asg (vis := []) (de_callC (c_l_bent bs) hr hg (by omega) rfl (da_cons (de_var (pv 0)) (da_cons (de_ixY hr (de_var (pv 4)) (de_var (pv 2))) (da_nil))) (ArgN.cons (ArgN.cons ArgN.nil)) rfl) (dg_sub (vis := []) (de_var (pv 4)) (de_var (pv 2)) (set_X hr)))))))))))
    (dss_one (ds_fz (ds_ret (de_if (dt_tru (de_isiE (by decide) rfl T.n_isinstance (by decide +kernel) rfl T.n_tuple (by decide +kernel) (de_var (pv 1)))) (de_callTy call_tupleDD rfl T.n_tuple (by decide +kernel) (da_cons (de_var (pv 4)) (da_nil))) (de_var (pv 4))))))))))
abbrev s_law : Stmt := top 20
abbrev N_law : List Str := ["_law_script", "_law_bag_here", "_law_turn", "_law_places", "_law_bench", "_law_things", "_law_deep", "_law_k", "_law_thing", "_law_number", "_law_bent_here", "_law_shown", "_law_told", "_law_due"]
theorem sc_law : FnScope N_law ["_law_script"] (defScope s_law) := ⟨rfl, rfl, rfl, by decide +kernel, rfl, by decide +kernel, by decide +kernel⟩
def L_law_1 : MS := sAsg (mCall tupF (mCons (mVar 6) (mNil))) (gSet 6)
def L_law_2 : MS := sSeq (sAsg (mCall (callF (f_l_bent 16)) (mCons (mVar 1) (mCons (mCall (callF f_l_some) (mCons (mVar 1) (mCons (mCall lstF (mCons (mVar 4) (mCons (mBin ixY (mVar 3) (mC (.int 0))) (mCons (mVar 4) (mCons (mBin ixY (mVar 3) (mNeg (mC (.int 1)))) (mNil)))))) (mNil)))) (mNil)))) (gSet 10))
    (sExpr (mMt appendF (mVar 5) (mCons (vIf (tOf (mBin (eqA false) (mCall (callF f_l_take) (mCons (mVar 1) (mCons (mC (.int 3)) (mNil)))) (mC (.int 0)))) (mCall (callF (f_l_bent 16)) (mCons (mVar 1) (mCons (mVar 10) (mNil)))) (mVar 10)) (mNil))))
def L_law_3 : MS := sSeq (sAsg (mCall reprS (mCons (mVar 8) (mNil))) (gSet 11))
    (sSeq (sAsg (mCall lstF (mCons (mCall (callF f_is_place) (mCons (mVar 8) (mNil))) (mCons (mCall (callF f_is_bench) (mCons (mVar 8) (mNil))) (mCons (mCall (callF f_is_integer) (mCons (mVar 8) (mNil))) (mNil))))) (gSet 12))
    (sSeq (sAsg (mCall lstF (mCons (mCall (callF f_l_is_place) (mCons (mVar 8) (mNil))) (mCons (mCall (callF f_l_is_bench) (mCons (mVar 8) (mNil))) (mCons (vAndT (mIsiE "int" (mVar 8)) (vNot (mIsiE "bool" (mVar 8)))) (mNil))))) (gSet 13))
    (sIf (tOrD (tNotD (tTru (mCall (callF f_l_alike) (mCons (mVar 12) (mCons (mVar 13) (mNil)))))) (tOf (mBin (eqA true) (mCall reprS (mCons (mVar 8) (mNil))) (mVar 11)))) (sRet (mC (.bool false))) (sNil))))
def L_law_4 : MS := sSeq (sAsg (mLc (iRng1D (mCons (mBin addA (mC (.int 1)) (mCall (callF f_l_take) (mCons (mVar 1) (mCons (mC (.int 5)) (mNil))))) (mNil))) (gSet 7) (tTrue) (mCall (callF f_l_place) (mCons (mVar 1) (mCons (mC (.int 6)) (mNil)))) [7] kFrz) (gSet 3))
    (sSeq (sAsg (mCall tupleD (mCons (mVar 3) (mNil))) (gSet 4))
    (sSeq (sAsg (mCall lstB (mCons (mVar 4) (mCons (mBin ixY (mVar 3) (mC (.int 0))) (mCons (mVar 3) (mCons (mCall (callF f_l_odd) (mCons (mVar 1) (mNil))) (mCons (mBin addA (mVar 4) (mCall (callF f_l_place) (mCons (mVar 1) (mCons (mC (.int 6)) (mNil))))) (mCons (mCall tupF (mCons (mC (.int 1)) (mCons (mCall tupF (mNil)) (mNil)))) (mCons (mCall tupF (mCons (mC (.int 2)) (mCons (mCall tupF (mNil)) (mNil)))) (mCons (mCall tupF (mCons (mC (.int 7)) (mCons (mCall tupF (mNil)) (mNil)))) (mNil)))))))))) (gSet 5))
    (sSeq (sAsg (mCall tupF (mNil)) (gSet 6))
    (sSeq (sFor (iRng1D (mCons (mBin addA (mC (.int 56)) (mCall (callF f_l_take) (mCons (mVar 1) (mCons (mC (.int 4)) (mNil))))) (mNil))) (gSet 7) (L_law_1))
    (sSeq (sExpr (mMt extendF (mVar 5) (mCons (mCall lstF (mCons (mCall tupF (mCons (mCall tupF (mCons (mC (.int 1)) (mCons (mCall tupF (mNil)) (mNil)))) (mNil))) (mCons (mBin addA (mVar 4) (mCall tupF (mCons (mCall tupF (mCons (mC (.int 2)) (mCons (mCall tupF (mNil)) (mNil)))) (mNil)))) (mCons (mBin addA (mVar 4) (mCall tupF (mCons (mCall tupF (mCons (mC (.int 7)) (mCons (mCall tupF (mNil)) (mNil)))) (mNil)))) (mCons (mVar 6) (mCons (mBin addA (mVar 4) (mVar 6)) (mNil))))))) (mNil))))
    (sSeq (sFor (iRng1D (mCons (mC (.int 8)) (mNil))) (gSet 7) (L_law_2))
    (sSeq (sFz 5 (sFor (iSeqK (mVar 5)) (gSet 8) (L_law_3)))
    (sSeq (sIf (tOrD (tOf (mBin (isBD true) (mCall (callF f_is_bench) (mCons (mVar 4) (mNil))) (mC (.bool true)))) (tOf (mBin (isBD true) (mCall (callF f_is_place) (mCons (mBin ixY (mVar 3) (mC (.int 0))) (mNil))) (mC (.bool true))))) (sRet (mC (.bool false))) (sNil))
    (sSeq (sAsg (mCall (callF f_l_some) (mCons (mVar 1) (mCons (mCall lstF (mCons (mC (.int 0)) (mCons (mNeg (mC (.int 1))) (mCons (mC (.bool true)) (mCons (mC (.bool false)) (mCons (mBin powD (mC (.int 10)) (mC (.int 39))) (mCons (mCall (callF f_l_take) (mCons (mVar 1) (mCons (mC (.int 99)) (mNil)))) (mCons (mC (.str "1")) (mCons (mC .none) (mNil)))))))))) (mNil)))) (gSet 9))
    (sIf (tNotD (tTru (mCall (callF f_l_alike) (mCons (mCall (callF f_is_integer) (mCons (mVar 9) (mNil))) (mCons (vAndT (mIsiE "int" (mVar 9)) (vNot (mIsiE "bool" (mVar 9)))) (mNil)))))) (sRet (mC (.bool false))) (sNil)))))))))))
def b_law : MS := sSeq (sAsg (mCall (callF f_l_bag) (mCons (mVar 0) (mNil))) (gSet 1))
    (sSeq (sFor (iRng1D (mCons (mC (.int 4)) (mNil))) (gSet 2) (L_law_4))
    (sRet (mC (.bool true))))
def f_law : FS := runF 14 b_law
theorem ok_law {tl : TL} {P : Program} {w : World} {K : PySem.W.Frag} {mg : Str → Option Value} {fa : Addr} {fd : FuncData} (F : Fun K "law" "law" s_law fa fd) (T : Txt mg) (c_l_bag : CalA tl P w K mg "_law_bag" 1 ["_law_script"] f_l_bag) (c_l_take : CalA tl P w K mg "_law_take" 1 ["_law_bag_here", "_law_upto"] f_l_take) (c_l_place : CalA tl P w K mg "_law_place" 3 ["_law_bag_here", "_law_most"] f_l_place) (c_l_odd : CalA tl P w K mg "_law_odd" 3 ["_law_bag_here"] f_l_odd) (c_l_bent : CalA tl P w K mg "_law_bent" 19 ["_law_bag_here", "_law_thing"] (f_l_bent 16)) (c_l_some : CalA tl P w K mg "_law_some" 2 ["_law_bag_here", "_law_things"] f_l_some) (c_is_integer : CalA tl P w K mg "is_integer" 1 ["thing"] f_is_integer) (c_is_bench : CalA tl P w K mg "is_bench" 6 ["thing"] f_is_bench) (c_is_place : CalA tl P w K mg "is_place" 5 ["thing"] f_is_place) (c_l_is_bench : CalA tl P w K mg "_law_is_bench" 3 ["_law_thing"] f_l_is_bench) (c_l_is_place : CalA tl P w K mg "_law_is_place" 2 ["_law_thing"] f_l_is_place) (c_l_alike : CalA tl P w K mg "_law_alike" 1 ["_law_found", "_law_due"] f_l_alike) : ∀ {τ : Tbs} {base : Heap}, Bs tl τ K mg base → FnG P w K mg base 20 fa fd ["_law_script"] (spD τ K 1 f_law) :=
  fun bs => fnG (k := 19) (N := N_law) (ps := ["_law_script"]) (b := b_law) F sc_law fun cdv A outer s H E hr hg => dss_cons (ds_set (i := 1) sc_law.nd rfl (Or.inr rfl) (de_callC (c_l_bag bs) hr hg (by decide) rfl (da_cons (de_var (pv 0)) (da_nil)) (ArgN.cons ArgN.nil) rfl))
    (dss_cons (ds_for (vis := [2]) PassesOwn.never rfl (di_rng1 rfl T.n_range (da_cons (de_int) (da_nil))) (dg_name (i := 2) sc_law.nd rfl (Or.inl rfl)) (dss_cons (ds_setLc (own := [("_law_k", 7)]) rfl sc_law.nd rfl rfl (sw_true rfl rfl rfl (by decide +kernel)) (di_rng1 rfl T.n_range (da_cons (de_bin op_addA (de_int) (de_callC (c_l_take bs) hr hg (by decide) rfl (da_cons (de_var (pv 1)) (da_cons (de_int) (da_nil))) (ArgN.cons (ArgN.cons ArgN.nil)) rfl)) (da_nil))) (blkOk_by (own := [("_law_k", 7)]) (N := N_law) (sc := defScope s_law) (by decide +kernel)) (fun _ _ _ _ _ => dg_name (i := 7) sc_law.nd rfl (Or.inl rfl)) (fun _ _ _ _ _ => dts_nil) (fun _ _ _ _ _ => de_callC (c_l_place bs) hr hg (by decide) rfl (da_cons (de_var (pv 1)) (da_cons (de_int) (da_nil))) (ArgN.cons (ArgN.cons ArgN.nil)) rfl))
    (dss_cons (ds_set (i := 4) sc_law.nd rfl (Or.inl rfl) (de_callTy call_tupleDD rfl T.n_tuple (by decide +kernel) (da_cons (de_var (pv 3)) (da_nil))))
    (dss_cons (ds_set (i := 5) sc_law.nd rfl (Or.inl rfl) (de_lstB (da_cons (de_var (pv 4)) (da_cons (de_ixY hr (de_var (pv 3)) (de_int)) (da_cons (de_var (pv 3)) (da_cons (de_callC (c_l_odd bs) hr hg (by decide) rfl (da_cons (de_var (pv 1)) (da_nil)) (ArgN.cons ArgN.nil) rfl) (da_cons (de_bin op_addA (de_var (pv 4)) (de_callC (c_l_place bs) hr hg (by decide) rfl (da_cons (de_var (pv 1)) (da_cons (de_int) (da_nil))) (ArgN.cons (ArgN.cons ArgN.nil)) rfl)) (da_cons (de_tup (da_cons (de_int) (da_cons (de_tup (da_nil)) (da_nil)))) (da_cons (de_tup (da_cons (de_int) (da_cons (de_tup (da_nil)) (da_nil)))) (da_cons (de_tup (da_cons (de_int) (da_cons (de_tup (da_nil)) (da_nil)))) (da_nil)))))))))))
    (dss_cons (ds_set (i := 6) sc_law.nd rfl (Or.inl rfl) (de_tup (da_nil)))
    (dss_cons (ds_for (vis := [7]) PassesOwn.never rfl (di_rng1 rfl T.n_range (da_cons (de_bin op_addA (de_int) (de_callC (c_l_take bs) hr hg (by decide) rfl (da_cons (de_var (pv 1)) (da_cons (de_int) (da_nil))) (ArgN.cons (ArgN.cons ArgN.nil)) rfl)) (da_nil))) (dg_name (i := 7) sc_law.nd rfl (Or.inl rfl)) (dss_one (ds_set (i := 6) sc_law.nd rfl (Or.inl rfl) (de_tup (da_cons (de_var (pv 6)) (da_nil))))))
    (dss_cons (ds_expr (de_bm PySem.F.slot_list_extend PySem.F.type_list_extend mt_extendD (de_var (pv 5)) (da_cons (de_lst (da_cons (de_tup (da_cons (de_tup (da_cons (de_int) (da_cons (de_tup (da_nil)) (da_nil)))) (da_nil))) (da_cons (de_bin op_addA (de_var (pv 4)) (de_tup (da_cons (de_tup (da_cons (de_int) (da_cons (de_tup (da_nil)) (da_nil)))) (da_nil)))) (da_cons (de_bin op_addA (de_var (pv 4)) (de_tup (da_cons (de_tup (da_cons (de_int) (da_cons (de_tup (da_nil)) (da_nil)))) (da_nil)))) (da_cons (de_var (pv 6)) (da_cons (de_bin op_addA (de_var (pv 4)) (de_var (pv 6))) (da_nil))))))) (da_nil))))
    (dss_cons (ds_for (vis := [7]) PassesOwn.never rfl (di_rng1 rfl T.n_range (da_cons (de_int) (da_nil))) (dg_name (i := 7) sc_law.nd rfl (Or.inl rfl)) (dss_cons (ds_set (i := 10) sc_law.nd rfl (Or.inl rfl) (de_callC (c_l_bent bs) hr hg (by decide) rfl (da_cons (de_var (pv 1)) (da_cons (de_callC (c_l_some bs) hr hg (by decide) rfl (da_cons (de_var (pv 1)) (da_cons (de_lst (da_cons (de_var (pv 4)) (da_cons (de_ixY hr (de_var (pv 3)) (de_int)) (da_cons (de_var (pv 4)) (da_cons (de_ixY hr (de_var (pv 3)) (de_neg (de_int))) (da_nil)))))) (da_nil))) (ArgN.cons (ArgN.cons ArgN.nil)) rfl) (da_nil))) (ArgN.cons (ArgN.cons ArgN.nil)) rfl))
    (dss_one (ds_expr (de_bm PySem.F.slot_list_append PySem.F.type_list_append mt_appendD (de_var (pv 5)) (da_cons (de_if (dt_cmp (op_eqA hr.units) (de_callC (c_l_take bs) hr hg (by decide) rfl (da_cons (de_var (pv 1)) (da_cons (de_int) (da_nil))) (ArgN.cons (ArgN.cons ArgN.nil)) rfl) (de_int)) (de_callC (c_l_bent bs) hr hg (by decide) rfl (da_cons (de_var (pv 1)) (da_cons (de_var (pv 10)) (da_nil))) (ArgN.cons (ArgN.cons ArgN.nil)) rfl) (de_var (pv 10))) (da_nil)))))))
    (dss_cons (ds_fz (ds_for (vis := [8]) PassesOwn.never rfl (di_seqK (de_var (pv 5))) (dg_name (i := 8) sc_law.nd rfl (Or.inl rfl)) (dss_cons (ds_set (i := 11) sc_law.nd rfl (Or.inl rfl) (de_callB (call_reprS bs hr hg) rfl T.n_repr (by decide +kernel) (da_cons (de_var (pv 8)) (da_nil))))
    (dss_cons (ds_set (i := 12) sc_law.nd rfl (Or.inl rfl) (de_lst (da_cons (de_callC (c_is_place bs) hr hg (by decide) rfl (da_cons (de_var (pv 8)) (da_nil)) (ArgN.cons ArgN.nil) rfl) (da_cons (de_callC (c_is_bench bs) hr hg (by decide) rfl (da_cons (de_var (pv 8)) (da_nil)) (ArgN.cons ArgN.nil) rfl) (da_cons (de_callC (c_is_integer bs) hr hg (by decide) rfl (da_cons (de_var (pv 8)) (da_nil)) (ArgN.cons ArgN.nil) rfl) (da_nil))))))
    (dss_cons (ds_set (i := 13) sc_law.nd rfl (Or.inl rfl) (de_lst (da_cons (de_callC (c_l_is_place bs) hr hg (by decide) rfl (da_cons (de_var (pv 8)) (da_nil)) (ArgN.cons ArgN.nil) rfl) (da_cons (de_callC (c_l_is_bench bs) hr hg (by decide) rfl (da_cons (de_var (pv 8)) (da_nil)) (ArgN.cons ArgN.nil) rfl) (da_cons (de_andT (de_isiE (by decide) rfl T.n_isinstance (by decide +kernel) rfl T.n_int (by decide +kernel) (de_var (pv 8))) (de_one (de_not (de_isiE (by decide) rfl T.n_isinstance (by decide +kernel) rfl T.n_bool (by decide +kernel) (de_var (pv 8)))))) (da_nil))))))
    (dss_one (ds_if (PW.pt (dw_or (dt_not (dt_tru (de_callC (c_l_alike bs) hr hg (by decide) rfl (da_cons (de_var (pv 12)) (da_cons (de_var (pv 13)) (da_nil))) (ArgN.cons (ArgN.cons ArgN.nil)) rfl))) (dw_or1 (dt_cmp (op_neA hr.units) (de_callB (call_reprS bs hr hg) rfl T.n_repr (by decide +kernel) (da_cons (de_var (pv 8)) (da_nil))) (de_var (pv 11)))))) (dss_one (ds_ret (de_bl))) (dss_nil))))))))
    (dss_cons (ds_if (PW.pt (dw_or (dt_cmp op_notBD (de_callC (c_is_bench bs) hr hg (by decide) rfl (da_cons (de_var (pv 4)) (da_nil)) (ArgN.cons ArgN.nil) rfl) (de_bl)) (dw_or1 (dt_cmp op_notBD (de_callC (c_is_place bs) hr hg (by decide) rfl (da_cons (de_ixY hr (de_var (pv 3)) (de_int)) (da_nil)) (ArgN.cons ArgN.nil) rfl) (de_bl))))) (dss_one (ds_ret (de_bl))) (dss_nil))
    (dss_cons (ds_set (i := 9) sc_law.nd rfl (Or.inl rfl) (de_callC (c_l_some bs) hr hg (by decide) rfl (da_cons (de_var (pv 1)) (da_cons (de_lst (da_cons (de_int) (da_cons (de_neg (de_int)) (da_cons (de_bl) (da_cons (de_bl) (da_cons (de_bin op_powD (de_int) (de_int)) (da_cons (de_callC (c_l_take bs) hr hg (by decide) rfl (da_cons (de_var (pv 1)) (da_cons (de_int) (da_nil))) (ArgN.cons (ArgN.cons ArgN.nil)) rfl) (da_cons (de_str) (da_cons (de_non) (da_nil)))))))))) (da_nil))) (ArgN.cons (ArgN.cons ArgN.nil)) rfl))
    (dss_one (ds_if (dt_not (dt_tru (de_callC (c_l_alike bs) hr hg (by decide) rfl (da_cons (de_callC (c_is_integer bs) hr hg (by decide) rfl (da_cons (de_var (pv 9)) (da_nil)) (ArgN.cons ArgN.nil) rfl) (da_cons (de_andT (de_isiE (by decide) rfl T.n_isinstance (by decide +kernel) rfl T.n_int (by decide +kernel) (de_var (pv 9))) (de_one (de_not (de_isiE (by decide) rfl T.n_isinstance (by decide +kernel) rfl T.n_bool (by decide +kernel) (de_var (pv 9)))))) (da_nil))) (ArgN.cons (ArgN.cons ArgN.nil)) rfl))) (dss_one (ds_ret (de_bl))) (dss_nil))))))))))))))
    (dss_one (ds_ret (de_bl))))
theorem all_mk {l : PySem.W.OpenLaw} {w : World} {K : PySem.W.Frag} {h : Heap} {mg : Str → Option Value} {fa : Addr} {ts : List Addr} (X : K.In h) (G : h.Ns mainGlobals mg) (hfa : mg "law" = some (.ref fa))
    {g_is_integer g_is_ascending g_l_bag g_l_take g_l_alike g_l_is_int g_l_rises g_l_flat g_is_move g_l_some g_l_mixed g_l_is_place g_l_place g_l_is_bench g_l_odd g_is_place g_is_bench g_l_bent g_law : Addr} {od0 an0 od1 an1 od2 an2 od3 an3 od4 an4 od5 an5 od6 an6 od7 an7 od8 an8 od9 an9 od10 an10 od11 an11 od12 an12 od13 an13 od14 an14 od15 an15 od16 an16 od17 an17 od18 an18 : Option Addr} {sl0 sl1 sl2 sl3 sl4 sl5 sl6 sl7 sl8 sl9 sl10 sl11 sl12 sl13 sl14 sl15 sl16 sl17 sl18 : Array (Option Value)} {oc0 kV0 dc0 pm0 cd0 ct0 oc1 kV1 dc1 pm1 cd1 ct1 oc2 kV2 dc2 pm2 cd2 ct2 oc3 kV3 dc3 pm3 cd3 ct3 oc4 kV4 dc4 pm4 cd4 ct4 oc5 kV5 dc5 pm5 cd5 ct5 oc6 kV6 dc6 pm6 cd6 ct6 oc7 kV7 dc7 pm7 cd7 ct7 oc8 kV8 dc8 pm8 cd8 ct8 oc9 kV9 dc9 pm9 cd9 ct9 oc10 kV10 dc10 pm10 cd10 ct10 oc11 kV11 dc11 pm11 cd11 ct11 oc12 kV12 dc12 pm12 cd12 ct12 oc13 kV13 dc13 pm13 cd13 ct13 oc14 kV14 dc14 pm14 cd14 ct14 oc15 kV15 dc15 pm15 ct15 oc16 kV16 dc16 pm16 cd16 ct16 oc17 kV17 dc17 pm17 cd17 ct17 oc18 kV18 dc18 pm18 cd18 ct18 : Value}
    (a_is_integer : PySem.W.nsIn K mainGlobals "is_integer" = some (some (.ref g_is_integer))) (l_is_integer : K.lookup g_is_integer = some ⟨oc0, od0, .func (PySem.W.fnOf "is_integer" "is_integer" (defArgs s_is_integer) (defBody s_is_integer) (defScope s_is_integer) .none kV0 dc0 pm0 an0 cd0 ct0), sl0⟩) (k_is_integer : PySem.W.codeIn K cd0 "is_integer" = true) (p_is_integer : PySem.W.keepIn K (.ref g_is_integer) = true)
    (a_is_ascending : PySem.W.nsIn K mainGlobals "is_ascending" = some (some (.ref g_is_ascending))) (l_is_ascending : K.lookup g_is_ascending = some ⟨oc1, od1, .func (PySem.W.fnOf "is_ascending" "is_ascending" (defArgs s_is_ascending) (defBody s_is_ascending) (defScope s_is_ascending) .none kV1 dc1 pm1 an1 cd1 ct1), sl1⟩) (k_is_ascending : PySem.W.codeIn K cd1 "is_ascending" = true) (p_is_ascending : PySem.W.keepIn K (.ref g_is_ascending) = true)
    (a_l_bag : PySem.W.nsIn K mainGlobals "_law_bag" = some (some (.ref g_l_bag))) (l_l_bag : K.lookup g_l_bag = some ⟨oc2, od2, .func (PySem.W.fnOf "_law_bag" "_law_bag" (defArgs s_l_bag) (defBody s_l_bag) (defScope s_l_bag) .none kV2 dc2 pm2 an2 cd2 ct2), sl2⟩) (k_l_bag : PySem.W.codeIn K cd2 "_law_bag" = true) (p_l_bag : PySem.W.keepIn K (.ref g_l_bag) = true)
    (a_l_take : PySem.W.nsIn K mainGlobals "_law_take" = some (some (.ref g_l_take))) (l_l_take : K.lookup g_l_take = some ⟨oc3, od3, .func (PySem.W.fnOf "_law_take" "_law_take" (defArgs s_l_take) (defBody s_l_take) (defScope s_l_take) .none kV3 dc3 pm3 an3 cd3 ct3), sl3⟩) (k_l_take : PySem.W.codeIn K cd3 "_law_take" = true) (p_l_take : PySem.W.keepIn K (.ref g_l_take) = true)
    (a_l_alike : PySem.W.nsIn K mainGlobals "_law_alike" = some (some (.ref g_l_alike))) (l_l_alike : K.lookup g_l_alike = some ⟨oc4, od4, .func (PySem.W.fnOf "_law_alike" "_law_alike" (defArgs s_l_alike) (defBody s_l_alike) (defScope s_l_alike) .none kV4 dc4 pm4 an4 cd4 ct4), sl4⟩) (k_l_alike : PySem.W.codeIn K cd4 "_law_alike" = true) (p_l_alike : PySem.W.keepIn K (.ref g_l_alike) = true)
    (a_l_is_int : PySem.W.nsIn K mainGlobals "_law_is_int" = some (some (.ref g_l_is_int))) (l_l_is_int : K.lookup g_l_is_int = some ⟨oc5, od5, .func (PySem.W.fnOf "_law_is_int" "_law_is_int" (defArgs s_l_is_int) (defBody s_l_is_int) (defScope s_l_is_int) .none kV5 dc5 pm5 an5 cd5 ct5), sl5⟩) (k_l_is_int : PySem.W.codeIn K cd5 "_law_is_int" = true) (p_l_is_int : PySem.W.keepIn K (.ref g_l_is_int) = true)
    (a_l_rises : PySem.W.nsIn K mainGlobals "_law_rises" = some (some (.ref g_l_rises))) (l_l_rises : K.lookup g_l_rises = some ⟨oc6, od6, .func (PySem.W.fnOf "_law_rises" "_law_rises" (defArgs s_l_rises) (defBody s_l_rises) (defScope s_l_rises) .none kV6 dc6 pm6 an6 cd6 ct6), sl6⟩) (k_l_rises : PySem.W.codeIn K cd6 "_law_rises" = true) (p_l_rises : PySem.W.keepIn K (.ref g_l_rises) = true)
    (a_l_flat : PySem.W.nsIn K mainGlobals "_law_flat" = some (some (.ref g_l_flat))) (l_l_flat : K.lookup g_l_flat = some ⟨oc7, od7, .func (PySem.W.fnOf "_law_flat" "_law_flat" (defArgs s_l_flat) (defBody s_l_flat) (defScope s_l_flat) .none kV7 dc7 pm7 an7 cd7 ct7), sl7⟩) (k_l_flat : PySem.W.codeIn K cd7 "_law_flat" = true) (p_l_flat : PySem.W.keepIn K (.ref g_l_flat) = true)
    (a_is_move : PySem.W.nsIn K mainGlobals "is_move" = some (some (.ref g_is_move))) (l_is_move : K.lookup g_is_move = some ⟨oc8, od8, .func (PySem.W.fnOf "is_move" "is_move" (defArgs s_is_move) (defBody s_is_move) (defScope s_is_move) .none kV8 dc8 pm8 an8 cd8 ct8), sl8⟩) (k_is_move : PySem.W.codeIn K cd8 "is_move" = true) (p_is_move : PySem.W.keepIn K (.ref g_is_move) = true)
    (a_l_some : PySem.W.nsIn K mainGlobals "_law_some" = some (some (.ref g_l_some))) (l_l_some : K.lookup g_l_some = some ⟨oc9, od9, .func (PySem.W.fnOf "_law_some" "_law_some" (defArgs s_l_some) (defBody s_l_some) (defScope s_l_some) .none kV9 dc9 pm9 an9 cd9 ct9), sl9⟩) (k_l_some : PySem.W.codeIn K cd9 "_law_some" = true) (p_l_some : PySem.W.keepIn K (.ref g_l_some) = true)
    (a_l_mixed : PySem.W.nsIn K mainGlobals "_law_mixed" = some (some (.ref g_l_mixed))) (l_l_mixed : K.lookup g_l_mixed = some ⟨oc10, od10, .func (PySem.W.fnOf "_law_mixed" "_law_mixed" (defArgs s_l_mixed) (defBody s_l_mixed) (defScope s_l_mixed) .none kV10 dc10 pm10 an10 cd10 ct10), sl10⟩) (k_l_mixed : PySem.W.codeIn K cd10 "_law_mixed" = true) (p_l_mixed : PySem.W.keepIn K (.ref g_l_mixed) = true)
    (a_l_is_place : PySem.W.nsIn K mainGlobals "_law_is_place" = some (some (.ref g_l_is_place))) (l_l_is_place : K.lookup g_l_is_place = some ⟨oc11, od11, .func (PySem.W.fnOf "_law_is_place" "_law_is_place" (defArgs s_l_is_place) (defBody s_l_is_place) (defScope s_l_is_place) .none kV11 dc11 pm11 an11 cd11 ct11), sl11⟩) (k_l_is_place : PySem.W.codeIn K cd11 "_law_is_place" = true) (p_l_is_place : PySem.W.keepIn K (.ref g_l_is_place) = true)
    (a_l_place : PySem.W.nsIn K mainGlobals "_law_place" = some (some (.ref g_l_place))) (l_l_place : K.lookup g_l_place = some ⟨oc12, od12, .func (PySem.W.fnOf "_law_place" "_law_place" (defArgs s_l_place) (defBody s_l_place) (defScope s_l_place) .none kV12 dc12 pm12 an12 cd12 ct12), sl12⟩) (k_l_place : PySem.W.codeIn K cd12 "_law_place" = true) (p_l_place : PySem.W.keepIn K (.ref g_l_place) = true)
    (a_l_is_bench : PySem.W.nsIn K mainGlobals "_law_is_bench" = some (some (.ref g_l_is_bench))) (l_l_is_bench : K.lookup g_l_is_bench = some ⟨oc13, od13, .func (PySem.W.fnOf "_law_is_bench" "_law_is_bench" (defArgs s_l_is_bench) (defBody s_l_is_bench) (defScope s_l_is_bench) .none kV13 dc13 pm13 an13 cd13 ct13), sl13⟩) (k_l_is_bench : PySem.W.codeIn K cd13 "_law_is_bench" = true) (p_l_is_bench : PySem.W.keepIn K (.ref g_l_is_bench) = true)
    (a_l_odd : PySem.W.nsIn K mainGlobals "_law_odd" = some (some (.ref g_l_odd))) (l_l_odd : K.lookup g_l_odd = some ⟨oc14, od14, .func (PySem.W.fnOf "_law_odd" "_law_odd" (defArgs s_l_odd) (defBody s_l_odd) (defScope s_l_odd) .none kV14 dc14 pm14 an14 cd14 ct14), sl14⟩) (k_l_odd : PySem.W.codeIn K cd14 "_law_odd" = true) (p_l_odd : PySem.W.keepIn K (.ref g_l_odd) = true)
    {co15 Pt15 : Addr}
    (a_is_place : PySem.W.nsIn K mainGlobals "is_place" = some (some (.ref g_is_place))) (l_is_place : K.lookup g_is_place = some ⟨oc15, od15, .func (PySem.W.fnOf "is_place" "is_place" (defArgs s_is_place) (defBody s_is_place) (defScope s_is_place) .none kV15 dc15 pm15 an15 (.ref co15) ct15), sl15⟩) (k_is_place : PySem.W.codeIn K (.ref co15) "is_place" = true) (p_is_place : PySem.W.keepIn K (.ref g_is_place) = true)
    {tc15 : Value} {td15 : Option Addr} {tf15 : Array Value} {tg15 : Array (Option Value)} (ta_is_place : K.lookup co15 = some ⟨tc15, td15, .fields tf15, tg15⟩) (tp_is_place : tf15[11]? = some (.ref Pt15)) (th_is_place : PySem.W.codeHdIn K co15 Pt15 = true) (ti_is_place : Pt15 ∈ ts)
    (a_is_bench : PySem.W.nsIn K mainGlobals "is_bench" = some (some (.ref g_is_bench))) (l_is_bench : K.lookup g_is_bench = some ⟨oc16, od16, .func (PySem.W.fnOf "is_bench" "is_bench" (defArgs s_is_bench) (defBody s_is_bench) (defScope s_is_bench) .none kV16 dc16 pm16 an16 cd16 ct16), sl16⟩) (k_is_bench : PySem.W.codeIn K cd16 "is_bench" = true) (p_is_bench : PySem.W.keepIn K (.ref g_is_bench) = true)
    (a_l_bent : PySem.W.nsIn K mainGlobals "_law_bent" = some (some (.ref g_l_bent))) (l_l_bent : K.lookup g_l_bent = some ⟨oc17, od17, .func (PySem.W.fnOf "_law_bent" "_law_bent" (defArgs s_l_bent) (defBody s_l_bent) (defScope s_l_bent) .none kV17 dc17 pm17 an17 cd17 ct17), sl17⟩) (k_l_bent : PySem.W.codeIn K cd17 "_law_bent" = true) (p_l_bent : PySem.W.keepIn K (.ref g_l_bent) = true)
    (a_law : PySem.W.nsIn K mainGlobals "law" = some (some (.ref g_law))) (l_law : K.lookup g_law = some ⟨oc18, od18, .func (PySem.W.fnOf "law" "law" (defArgs s_law) (defBody s_law) (defScope s_law) .none kV18 dc18 pm18 an18 cd18 ct18), sl18⟩) (k_law : PySem.W.codeIn K cd18 "law" = true) (p_law : PySem.W.keepIn K (.ref g_law) = true)
    (nt : PySem.W.noTabs K = true) (un : [Pt15].Nodup)
    (z_abs : PySem.W.nsIn K mainGlobals "abs" = some none)
    (z_all : PySem.W.nsIn K mainGlobals "all" = some none)
    (z_bool : PySem.W.nsIn K mainGlobals "bool" = some none)
    (z_int : PySem.W.nsIn K mainGlobals "int" = some none)
    (z_isinstance : PySem.W.nsIn K mainGlobals "isinstance" = some none)
    (z_len : PySem.W.nsIn K mainGlobals "len" = some none)
    (z_list : PySem.W.nsIn K mainGlobals "list" = some none)
    (z_range : PySem.W.nsIn K mainGlobals "range" = some none)
    (z_repr : PySem.W.nsIn K mainGlobals "repr" = some none)
    (z_sorted : PySem.W.nsIn K mainGlobals "sorted" = some none)
    (z_tuple : PySem.W.nsIn K mainGlobals "tuple" = some none)
    (z_zip : PySem.W.nsIn K mainGlobals "zip" = some none)
    : ∃ (fd : FuncData) (tl : TL), (∀ (s : Shared) (v : Value), BindsTo s fd ⟨[v], []⟩ [("_law_script", v)]) ∧ (∀ p ∈ tl, p.2.1 ∈ ts ∧ PySem.W.codeHdIn K p.1 p.2.1 = true) ∧ PySem.W.noTabs K = true ∧ (∀ p ∈ tl, ∀ q ∈ tl, p.2.1 = q.2.1 → p.2.2 = q.2.2) ∧ ∀ {τ : Tbs} {base : Heap}, Bs tl τ K mg base → FnG l.prog w K mg base 20 fa fd ["_law_script"] (spD τ K 1 f_law) := by
  have e := hfa.symm.trans (PySem.W.mg_of X G a_law)
  cases e
  have T : Txt mg := ⟨PySem.W.mg_none_of X G z_abs, PySem.W.mg_none_of X G z_all, PySem.W.mg_none_of X G z_bool, PySem.W.mg_none_of X G z_int, PySem.W.mg_none_of X G z_isinstance, PySem.W.mg_none_of X G z_len, PySem.W.mg_none_of X G z_list, PySem.W.mg_none_of X G z_range, PySem.W.mg_none_of X G z_repr, PySem.W.mg_none_of X G z_sorted, PySem.W.mg_none_of X G z_tuple, PySem.W.mg_none_of X G z_zip⟩
  obtain ⟨tl, htl⟩ : ∃ tl : TL, tl = [(co15, Pt15, ("is_place.<locals>.<lambda>" : Str))] := ⟨_, rfl⟩
  have tm_is_place : (co15, Pt15, ("is_place.<locals>.<lambda>" : Str)) ∈ tl := by rw [htl]; simp only [List.mem_cons, true_or, or_true]
  refine ⟨PySem.W.fnOf "law" "law" (defArgs s_law) (defBody s_law) (defScope s_law) .none kV18 dc18 pm18 an18 cd18 ct18, tl, fun s v => .of_eq rfl, ?_, nt, ?_, fun {τ base} bs => ?_⟩
  · rw [htl]; intro p hp; simp only [List.mem_cons, List.not_mem_nil, or_false] at hp; rcases hp with rfl
    · exact ⟨ti_is_place, th_is_place⟩
  · rw [htl]; exact tl_un un
  have c_is_integer : CalA tl l.prog w K mg "is_integer" 1 ["thing"] f_is_integer := fun bs => cal_mk (fun_mk (st := s_is_integer) l_is_integer k_is_integer p_is_integer) (PySem.W.mg_of X G a_is_integer) (fun _ _ _ _ _ _ us hl => match us, hl with | [_], _ => rfl) (ok_is_integer (fun_mk (st := s_is_integer) l_is_integer k_is_integer p_is_integer) T  bs)
  have c_is_ascending : CalL tl l.prog w K mg "is_ascending" ["thing", "is_member"] f_is_ascending := calL_mk (fun_mk (st := s_is_ascending) l_is_ascending k_is_ascending p_is_ascending) (PySem.W.mg_of X G a_is_ascending) (fun _ _ _ _ _ _ us hl => match us, hl with | [_, _], _ => rfl) (ok_is_ascending (fun_mk (st := s_is_ascending) l_is_ascending k_is_ascending p_is_ascending) T)
  have c_l_bag : CalA tl l.prog w K mg "_law_bag" 1 ["_law_script"] f_l_bag := fun bs => cal_mk (fun_mk (st := s_l_bag) l_l_bag k_l_bag p_l_bag) (PySem.W.mg_of X G a_l_bag) (fun _ _ _ _ _ _ us hl => match us, hl with | [_], _ => rfl) (ok_l_bag (fun_mk (st := s_l_bag) l_l_bag k_l_bag p_l_bag) T  bs)
  have c_l_take : CalA tl l.prog w K mg "_law_take" 1 ["_law_bag_here", "_law_upto"] f_l_take := fun bs => cal_mk (fun_mk (st := s_l_take) l_l_take k_l_take p_l_take) (PySem.W.mg_of X G a_l_take) (fun _ _ _ _ _ _ us hl => match us, hl with | [_, _], _ => rfl) (ok_l_take (fun_mk (st := s_l_take) l_l_take k_l_take p_l_take) T  bs)
  have c_l_alike : CalA tl l.prog w K mg "_law_alike" 1 ["_law_found", "_law_due"] f_l_alike := fun bs => cal_mk (fun_mk (st := s_l_alike) l_l_alike k_l_alike p_l_alike) (PySem.W.mg_of X G a_l_alike) (fun _ _ _ _ _ _ us hl => match us, hl with | [_, _], _ => rfl) (ok_l_alike (fun_mk (st := s_l_alike) l_l_alike k_l_alike p_l_alike) T  bs)
  have c_l_is_int : CalA tl l.prog w K mg "_law_is_int" 1 ["_law_thing", "_law_low", "_law_high"] f_l_is_int := fun bs => cal_mk (fun_mk (st := s_l_is_int) l_l_is_int k_l_is_int p_l_is_int) (PySem.W.mg_of X G a_l_is_int) (fun _ _ _ _ _ _ us hl => match us, hl with | [_, _, _], _ => rfl) (ok_l_is_int (fun_mk (st := s_l_is_int) l_l_is_int k_l_is_int p_l_is_int) T  bs)
  have c_l_rises : CalA tl l.prog w K mg "_law_rises" 1 ["_law_things"] f_l_rises := fun bs => cal_mk (fun_mk (st := s_l_rises) l_l_rises k_l_rises p_l_rises) (PySem.W.mg_of X G a_l_rises) (fun _ _ _ _ _ _ us hl => match us, hl with | [_], _ => rfl) (ok_l_rises (fun_mk (st := s_l_rises) l_l_rises k_l_rises p_l_rises) T  bs)
  have c_l_flat : CalA tl l.prog w K mg "_law_flat" 1 ["_law_rows"] f_l_flat := fun bs => cal_mk (fun_mk (st := s_l_flat) l_l_flat k_l_flat p_l_flat) (PySem.W.mg_of X G a_l_flat) (fun _ _ _ _ _ _ us hl => match us, hl with | [_], _ => rfl) (ok_l_flat (fun_mk (st := s_l_flat) l_l_flat k_l_flat p_l_flat) T  bs)
  have c_is_move : CalA tl l.prog w K mg "is_move" 2 ["values", "thing"] f_is_move := fun bs => cal_mk (fun_mk (st := s_is_move) l_is_move k_is_move p_is_move) (PySem.W.mg_of X G a_is_move) (fun _ _ _ _ _ _ us hl => match us, hl with | [_, _], _ => rfl) (ok_is_move (fun_mk (st := s_is_move) l_is_move k_is_move p_is_move) T c_is_integer bs)
  have c_l_some : CalA tl l.prog w K mg "_law_some" 2 ["_law_bag_here", "_law_things"] f_l_some := fun bs => cal_mk (fun_mk (st := s_l_some) l_l_some k_l_some p_l_some) (PySem.W.mg_of X G a_l_some) (fun _ _ _ _ _ _ us hl => match us, hl with | [_, _], _ => rfl) (ok_l_some (fun_mk (st := s_l_some) l_l_some k_l_some p_l_some) T c_l_take bs)
  have c_l_mixed : CalA tl l.prog w K mg "_law_mixed" 2 ["_law_bag_here", "_law_things"] f_l_mixed := fun bs => cal_mk (fun_mk (st := s_l_mixed) l_l_mixed k_l_mixed p_l_mixed) (PySem.W.mg_of X G a_l_mixed) (fun _ _ _ _ _ _ us hl => match us, hl with | [_, _], _ => rfl) (ok_l_mixed (fun_mk (st := s_l_mixed) l_l_mixed k_l_mixed p_l_mixed) T c_l_take bs)
  have c_l_is_place : CalA tl l.prog w K mg "_law_is_place" 2 ["_law_thing"] f_l_is_place := fun bs => cal_mk (fun_mk (st := s_l_is_place) l_l_is_place k_l_is_place p_l_is_place) (PySem.W.mg_of X G a_l_is_place) (fun _ _ _ _ _ _ us hl => match us, hl with | [_], _ => rfl) (ok_l_is_place (fun_mk (st := s_l_is_place) l_l_is_place k_l_is_place p_l_is_place) T c_l_is_int c_l_rises bs)
  have c_l_place : CalA tl l.prog w K mg "_law_place" 3 ["_law_bag_here", "_law_most"] f_l_place := fun bs => cal_mk (fun_mk (st := s_l_place) l_l_place k_l_place p_l_place) (PySem.W.mg_of X G a_l_place) (fun _ _ _ _ _ _ us hl => match us, hl with | [_, _], _ => rfl) (ok_l_place (fun_mk (st := s_l_place) l_l_place k_l_place p_l_place) T c_l_take c_l_some c_l_flat c_l_mixed bs)
  have c_l_is_bench : CalA tl l.prog w K mg "_law_is_bench" 3 ["_law_thing"] f_l_is_bench := fun bs => cal_mk (fun_mk (st := s_l_is_bench) l_l_is_bench k_l_is_bench p_l_is_bench) (PySem.W.mg_of X G a_l_is_bench) (fun _ _ _ _ _ _ us hl => match us, hl with | [_], _ => rfl) (ok_l_is_bench (fun_mk (st := s_l_is_bench) l_l_is_bench k_l_is_bench p_l_is_bench) T c_l_is_place bs)
  have c_l_odd : CalA tl l.prog w K mg "_law_odd" 3 ["_law_bag_here"] f_l_odd := fun bs => cal_mk (fun_mk (st := s_l_odd) l_l_odd k_l_odd p_l_odd) (PySem.W.mg_of X G a_l_odd) (fun _ _ _ _ _ _ us hl => match us, hl with | [_], _ => rfl) (ok_l_odd (fun_mk (st := s_l_odd) l_l_odd k_l_odd p_l_odd) T c_l_some bs)
  have c_is_place : CalA tl l.prog w K mg "is_place" 5 ["thing"] f_is_place := fun bs => cal_mk (fun_mk (st := s_is_place) l_is_place k_is_place p_is_place) (PySem.W.mg_of X G a_is_place) (fun _ _ _ _ _ _ us hl => match us, hl with | [_], _ => rfl) (ok_is_place (funC_mk (st := s_is_place) l_is_place k_is_place p_is_place) tm_is_place T c_is_integer c_is_move c_is_ascending bs)
  have c_is_bench : CalA tl l.prog w K mg "is_bench" 6 ["thing"] f_is_bench := fun bs => cal_mk (fun_mk (st := s_is_bench) l_is_bench k_is_bench p_is_bench) (PySem.W.mg_of X G a_is_bench) (fun _ _ _ _ _ _ us hl => match us, hl with | [_], _ => rfl) (ok_is_bench (fun_mk (st := s_is_bench) l_is_bench k_is_bench p_is_bench) T c_is_place bs)
  have c_l_bent : CalA tl l.prog w K mg "_law_bent" 19 ["_law_bag_here", "_law_thing"] (f_l_bent 16) := fun bs => cal_mk (fun_mk (st := s_l_bent) l_l_bent k_l_bent p_l_bent) (PySem.W.mg_of X G a_l_bent) (fun _ _ _ _ _ _ us hl => match us, hl with | [_, _], _ => rfl) (ok_l_bent (fun_mk (st := s_l_bent) l_l_bent k_l_bent p_l_bent) (PySem.W.mg_of X G a_l_bent) T c_l_take c_l_is_int c_l_some c_l_odd 16 bs)
  exact ok_law (fun_mk (st := s_law) l_law k_law p_law) T c_l_bag c_l_take c_l_place c_l_odd c_l_bent c_l_some c_is_integer c_is_bench c_is_place c_l_is_bench c_l_is_place c_l_alike bs
end K11
end
noncomputable section
namespace DL
open PySem PySem.Spec PyProof.Rows L2 DL
def Wp {α : Type} (x : Option α) (Φ : α → Prop) : Prop := ∃ a, x = some a ∧ Φ a
section
variable {α β : Type} {x y : Option α} {Φ Ψ : α → Prop}
theorem Wp_some {a : α} : Wp (some a) Φ = Φ a := by simp [Wp]
theorem Wp_bind {z : Option β} {f : β → Option α} : Wp (z.bind f) Φ = Wp z fun b => Wp (f b) Φ := by
  cases z with
  | none => simp [Wp]
  | some b => simp [Wp]
theorem Wp_map {z : Option β} {f : β → α} : Wp (z.map f) Φ = Wp z fun b => Φ (f b) := by
  cases z with
  | none => simp [Wp]
  | some b => simp [Wp]
theorem Wp.mono (h : Wp x Ψ) (k : ∀ a, Ψ a → Φ a) : Wp x Φ := by
  obtain ⟨a, e, p⟩ := h; exact ⟨a, e, k a p⟩
theorem Wp.of_eq {a : α} (h : x = some a) (p : Φ a) : Wp x Φ := ⟨a, h, p⟩
theorem Wp.eq (h : Wp x Φ) : ∃ a, x = some a ∧ Φ a := h
theorem Wp_if {c : Prop} [Decidable c] : Wp (if c then x else y) Φ = if c then Wp x Φ else Wp y Φ := by split <;> rfl
theorem Wp_pos {c : Prop} [Decidable c] (h : c) : Wp (if c then x else y) Φ = Wp x Φ := by rw [if_pos h]
end
section
variable {S : Sto} {ρ : DEnv} {A B C : ME} {R : MA} {F G : MS} {T U : MT} {g : MG} {gs : MGs} {it : MI} {i j k n : Nat} {w : W} {ws : List W} {x : PyData} {a : Option W}
  {Φ : W × Sto → Prop} {ΦA : List W × Sto → Prop} {ΦS : Fl × DEnv × Sto → Prop} {ΦT : Bool × Sto → Prop} {ΦG : DEnv × Sto → Prop} {ΦO : Option Int × Sto → Prop}
def seqK (G : MS) (Φ : Fl × DEnv × Sto → Prop) : Fl × DEnv × Sto → Prop
  | (.nx, ρ, S) => Wp (G ρ S) Φ
  | r => Φ r
theorem seqK_nx : seqK G ΦS (.nx, ρ, S) = Wp (G ρ S) ΦS := rfl
theorem seqK_rt : seqK G ΦS (.rt w, ρ, S) = ΦS (.rt w, ρ, S) := rfl
theorem seqK_bk : seqK G ΦS (.bk, ρ, S) = ΦS (.bk, ρ, S) := rfl
theorem seqK_ct : seqK G ΦS (.ct, ρ, S) = ΦS (.ct, ρ, S) := rfl
theorem Wp_seq : Wp (sSeq F G ρ S) ΦS = Wp (F ρ S) (seqK G ΦS) := by
  unfold sSeq
  rw [Wp_bind]
  congr 1; funext p
  obtain ⟨f, ρ', S'⟩ := p
  cases f <;> simp [seqK, Wp_some]
theorem Wp_nil : Wp (sNil ρ S) ΦS = ΦS (.nx, ρ, S) := Wp_some
theorem Wp_pass : Wp (sPass ρ S) ΦS = ΦS (.nx, ρ, S) := Wp_some
theorem Wp_break : Wp (sBreak ρ S) ΦS = ΦS (.bk, ρ, S) := Wp_some
theorem Wp_cont : Wp (sCont ρ S) ΦS = ΦS (.ct, ρ, S) := Wp_some
theorem Wp_retN : Wp (sRetN ρ S) ΦS = ΦS (.rt (.d .none), ρ, S) := Wp_some
theorem Wp_expr : Wp (sExpr A ρ S) ΦS = Wp (A ρ S) fun p => ΦS (.nx, ρ, p.2) := by unfold sExpr; rw [Wp_bind]; congr 1; funext p; rw [Wp_some]
theorem Wp_ret : Wp (sRet A ρ S) ΦS = Wp (A ρ S) fun p => ΦS (.rt p.1, ρ, p.2) := by unfold sRet; rw [Wp_bind]; congr 1; funext p; rw [Wp_some]
def ifK (F G : MS) (ρ : DEnv) (Φ : Fl × DEnv × Sto → Prop) : Bool × Sto → Prop := fun p => if p.1 = true then Wp (F ρ p.2) Φ else Wp (G ρ p.2) Φ
theorem ifK_t : ifK F G ρ ΦS (true, S) = Wp (F ρ S) ΦS := rfl
theorem ifK_f : ifK F G ρ ΦS (false, S) = Wp (G ρ S) ΦS := rfl
theorem ifK_nt {c : Bool} : ifK F G ρ ΦS (!c, S) = ifK G F ρ ΦS (c, S) := by cases c <;> rfl
theorem Wp_sif : Wp (sIf T F G ρ S) ΦS = Wp (T ρ S) (ifK F G ρ ΦS) := by
  unfold sIf; rw [Wp_bind]; congr 1; funext p; unfold ifK; rw [Wp_if]
theorem Wp_asg : Wp (sAsg A g ρ S) ΦS = Wp (A ρ S) fun p => Wp (g p.1 ρ p.2) fun q => ΦS (.nx, q.1, q.2) := by
  unfold sAsg; rw [Wp_bind]; congr 1; funext p; rw [Wp_bind]; congr 1; funext q; rw [Wp_some]
def parX (i j : Nat) (ρ : DEnv) (p : List W × Sto) : Option (Fl × DEnv × Sto) := match p.1 with
  | [w, u] => if i < ρ.length ∧ j < ρ.length then some (.nx, (ρ.set i (some w)).set j (some u), p.2) else none
  | _ => none
theorem Wp_par : Wp (sPar i j R ρ S) ΦS = Wp (R ρ S) fun p => Wp (parX i j ρ p) ΦS := by unfold sPar; rw [Wp_bind]; rfl
theorem parX_ok {u : W} (h : i < ρ.length ∧ j < ρ.length) : parX i j ρ ([w, u], S) = some (.nx, (ρ.set i (some w)).set j (some u), S) := by unfold parX; simp only; rw [if_pos h]
def parY (i j l : Nat) (ρ : DEnv) (p : List W × Sto) : Option (Fl × DEnv × Sto) := match p.1 with
  | [w, u, z] => if i < ρ.length ∧ j < ρ.length ∧ l < ρ.length then some (.nx, ((ρ.set i (some w)).set j (some u)).set l (some z), p.2) else none
  | _ => none
theorem Wp_par3 : Wp (sPar3 i j k R ρ S) ΦS = Wp (R ρ S) fun p => Wp (parY i j k ρ p) ΦS := by unfold sPar3; rw [Wp_bind]; rfl
theorem parY_ok {u z : W} (h : i < ρ.length ∧ j < ρ.length ∧ k < ρ.length) : parY i j k ρ ([w, u, z], S) = some (.nx, ((ρ.set i (some w)).set j (some u)).set k (some z), S) := by unfold parY; simp only; rw [if_pos h]
theorem Wp_tupA : Wp (sTupA n gs R ρ S) ΦS = Wp (R ρ S) fun p => Wp (if p.1.length = n ∧ n ≤ sizeLine then gs p.1 ρ p.2 else none) fun q => ΦS (.nx, q.1, q.2) := by
  unfold sTupA; rw [Wp_bind]; congr 1; funext p; rw [Wp_if, Wp_if]
  split
  · rw [Wp_bind]; congr 1; funext q; rw [Wp_some]
  · simp [Wp]
def augK (i : Nat) (f : W → W → Sto → Option (W × Sto)) (A : ME) (ρ : DEnv) (S : Sto) (Φ : Fl × DEnv × Sto → Prop) : Option (Option W) → Prop
  | some (some w) => Wp (A ρ S) fun p => Wp (f w p.1 p.2) fun q => Φ (.nx, ρ.set i (some q.1), q.2)
  | _ => False
theorem augK_ok {f : W → W → Sto → Option (W × Sto)} : augK i f A ρ S ΦS (some (some w)) = Wp (A ρ S) fun p => Wp (f w p.1 p.2) fun q => ΦS (.nx, ρ.set i (some q.1), q.2) := rfl
theorem Wp_aug {f : W → W → Sto → Option (W × Sto)} : Wp (sAug i f A ρ S) ΦS = augK i f A ρ S ΦS ρ[i]? := by
  unfold sAug
  rcases ρ[i]? with _ | _ | w
  · simp [Wp, augK]
  · simp [Wp, augK]
  · simp only [augK, Wp_bind, Wp_some]
theorem Wp_augS {f g : W → W → Sto → Option (W × Sto)} {t : W → W → W → Sto → Option Sto} : Wp (sAugS A B C g f t ρ S) ΦS = Wp (A ρ S) fun p => Wp (B ρ p.2) fun q => Wp (g p.1 q.1 q.2) fun x => Wp (C ρ x.2) fun y => Wp (f x.1 y.1 y.2) fun z => Wp (t p.1 q.1 z.1 z.2) fun S' => ΦS (.nx, ρ, S') := by
  unfold sAugS; simp only [Wp_bind, Wp_some]
theorem Wp_for : Wp (sFor it g F ρ S) ΦS = Wp (it ρ S) fun p => Wp (forL g F p.1 ρ p.2) ΦS := by unfold sFor; rw [Wp_bind]
theorem Wp_set (h : i < ρ.length) : Wp (gSet i w ρ S) ΦG = ΦG (ρ.set i (some w), S) := by unfold gSet; rw [Wp_pos h, Wp_some]
theorem Wp_gtup {ds : List PyData} : Wp (gTupD n gs (.d (.tuple ds)) ρ S) ΦG = Wp (if ds.length = n then gs (ds.map W.d) ρ S else none) ΦG := rfl
theorem Wp_gnil : Wp (gsNil [] ρ S) ΦG = ΦG (ρ, S) := Wp_some
theorem Wp_gcons : Wp (gsCons g gs (w :: ws) ρ S) ΦG = Wp (g w ρ S) fun p => Wp (gs ws p.1 p.2) ΦG := Wp_bind
theorem Wp_gsub {f : W → W → W → Sto → Option Sto} : Wp (gSubD A B f w ρ S) ΦG = Wp (A ρ S) fun p => Wp (B ρ p.2) fun q => Wp (f p.1 q.1 w q.2) fun S' => ΦG (ρ, S') := by
  unfold gSubD; simp only [Wp_bind, Wp_some]
def varK (Φ : W × Sto → Prop) (S : Sto) : Option (Option W) → Prop
  | some (some w) => Φ (w, S)
  | _ => False
theorem varK_ok : varK Φ S (some (some w)) = Φ (w, S) := rfl
theorem Wp_var : Wp (mVar i ρ S) Φ = varK Φ S ρ[i]? := by
  unfold mVar
  rcases ρ[i]? with _ | _ | w
  · simp [Wp, varK]
  · simp [Wp, varK]
  · simp only [varK, Wp_some]
theorem Wp_c : Wp (mC x ρ S) Φ = Φ (.d x, S) := Wp_some
theorem Wp_mnil : Wp (mNil ρ S) ΦA = ΦA ([], S) := Wp_some
theorem Wp_mcons : Wp (mCons A R ρ S) ΦA = Wp (A ρ S) fun p => Wp (R ρ p.2) fun q => ΦA (p.1 :: q.1, q.2) := by unfold mCons; simp only [Wp_bind, Wp_some]
theorem Wp_call {f : List W → Sto → Option (W × Sto)} : Wp (mCall f R ρ S) Φ = Wp (R ρ S) fun p => Wp (f p.1 p.2) Φ := Wp_bind
theorem Wp_bin {f : W → W → Sto → Option (W × Sto)} : Wp (mBin f A B ρ S) Φ = Wp (A ρ S) fun p => Wp (B ρ p.2) fun q => Wp (f p.1 q.1 q.2) Φ := by unfold mBin; simp only [Wp_bind]
theorem Wp_mt {f : W → List W → Sto → Option (W × Sto)} : Wp (mMt f A R ρ S) Φ = Wp (A ρ S) fun p => isLst p.2 p.1 = true ∧ Wp (R ρ p.2) fun q => Wp (f p.1 q.1 q.2) Φ := by
  unfold mMt; simp only [Wp_bind]
  congr 1; funext p
  cases isLst p.2 p.1
  · simp [Wp]
  · simp only [if_true, true_and, Wp_bind]
def toB : W × Sto → Option (Bool × Sto)
  | (.d (.bool b), S) => some (b, S)
  | _ => none
theorem toB_ok {b : Bool} : toB (.d (.bool b), S) = some (b, S) := rfl
theorem Wp_tof : Wp (tOf A ρ S) ΦT = Wp (A ρ S) fun p => Wp (toB p) ΦT := by
  unfold tOf; rw [Wp_bind]; congr 1; funext p
  obtain ⟨w, S'⟩ := p
  rcases w with (_ | _ | _ | _ | _ | _ | _) | _ <;> rfl
theorem Wp_ttru : Wp (tTru A ρ S) ΦT = Wp (A ρ S) fun p => Wp (truD p.2 p.1) fun b => ΦT (b, p.2) := by unfold tTru; simp only [Wp_bind, Wp_some]
theorem Wp_tnot : Wp (tNotD T ρ S) ΦT = Wp (T ρ S) fun p => ΦT (!p.1, p.2) := by unfold tNotD; simp only [Wp_bind, Wp_some]
def andK (T : MT) (ρ : DEnv) (Φ : Bool × Sto → Prop) : Bool × Sto → Prop := fun p => if p.1 = true then Wp (T ρ p.2) Φ else Φ (false, p.2)
def orK (T : MT) (ρ : DEnv) (Φ : Bool × Sto → Prop) : Bool × Sto → Prop := fun p => if p.1 = true then Φ (true, p.2) else Wp (T ρ p.2) Φ
theorem andK_t : andK T ρ ΦT (true, S) = Wp (T ρ S) ΦT := rfl
theorem andK_f : andK T ρ ΦT (false, S) = ΦT (false, S) := rfl
theorem orK_t : orK T ρ ΦT (true, S) = ΦT (true, S) := rfl
theorem orK_f : orK T ρ ΦT (false, S) = Wp (T ρ S) ΦT := rfl
theorem Wp_tand : Wp (tAndD T U ρ S) ΦT = Wp (T ρ S) (andK U ρ ΦT) := by
  unfold tAndD; rw [Wp_bind]; congr 1; funext p; unfold andK; rw [Wp_if]; simp only [Wp_some]
theorem Wp_tor : Wp (tOrD T U ρ S) ΦT = Wp (T ρ S) (orK U ρ ΦT) := by
  unfold tOrD; rw [Wp_bind]; congr 1; funext p; unfold orK; rw [Wp_if]; simp only [Wp_some]
theorem Wp_tTrue : Wp (tTrue ρ S) ΦT = ΦT (true, S) := Wp_some
def vifK (A B : ME) (ρ : DEnv) (Φ : W × Sto → Prop) : Bool × Sto → Prop := fun p => if p.1 = true then Wp (A ρ p.2) Φ else Wp (B ρ p.2) Φ
theorem vifK_t : vifK A B ρ Φ (true, S) = Wp (A ρ S) Φ := rfl
theorem vifK_f : vifK A B ρ Φ (false, S) = Wp (B ρ S) Φ := rfl
theorem Wp_vif : Wp (vIf T A B ρ S) Φ = Wp (T ρ S) (vifK A B ρ Φ) := by
  unfold vIf; rw [Wp_bind]; congr 1; funext p; unfold vifK; rw [Wp_if]
def vandK (B : ME) (ρ : DEnv) (Φ : W × Sto → Prop) : Bool × Sto → Prop := fun p => if p.1 = true then Wp (B ρ p.2) Φ else Φ (.d (.bool false), p.2)
def vorK (B : ME) (ρ : DEnv) (Φ : W × Sto → Prop) : Bool × Sto → Prop := fun p => if p.1 = true then Φ (.d (.bool true), p.2) else Wp (B ρ p.2) Φ
theorem vandK_t : vandK B ρ Φ (true, S) = Wp (B ρ S) Φ := rfl
theorem vandK_f : vandK B ρ Φ (false, S) = Φ (.d (.bool false), S) := rfl
theorem vorK_t : vorK B ρ Φ (true, S) = Φ (.d (.bool true), S) := rfl
theorem vorK_f : vorK B ρ Φ (false, S) = Wp (B ρ S) Φ := rfl
theorem Wp_vand : Wp (vAnd A B ρ S) Φ = Wp (A ρ S) fun p => Wp (toB p) (vandK B ρ Φ) := by
  unfold vAnd; rw [Wp_bind]; congr 1; funext p
  obtain ⟨w, S'⟩ := p
  rcases w with (_ | b | _ | _ | _ | _ | _) | _ <;> first
    | (simp [toB, Wp]; done)
    | (cases b <;> simp [toB, Wp_some, vandK])
theorem Wp_vor : Wp (vOr A B ρ S) Φ = Wp (A ρ S) fun p => Wp (toB p) (vorK B ρ Φ) := by
  unfold vOr; rw [Wp_bind]; congr 1; funext p
  obtain ⟨w, S'⟩ := p
  rcases w with (_ | b | _ | _ | _ | _ | _) | _ <;> first
    | (simp [toB, Wp]; done)
    | (cases b <;> simp [toB, Wp_some, vorK])
theorem Wp_vnot : Wp (vNot A ρ S) Φ = Wp (A ρ S) fun p => Wp (toB p) fun q => Φ (.d (.bool (!q.1)), q.2) := by
  unfold vNot; rw [Wp_bind]; congr 1; funext p
  obtain ⟨w, S'⟩ := p
  rcases w with (_ | b | _ | _ | _ | _ | _) | _ <;> first
    | (simp [toB, Wp]; done)
    | (simp [toB, Wp_some])
theorem Wp_sl {L U : MO} : Wp (mSl A L U ρ S) Φ = Wp (A ρ S) fun p => Wp (L ρ p.2) fun l => Wp (U ρ l.2) fun u => Wp (sliceD p.1 l.1 u.1 u.2) Φ := by unfold mSl; simp only [Wp_bind]
theorem Wp_ono : Wp (oNo ρ S) ΦO = ΦO (none, S) := Wp_some
def toO : W × Sto → Option (Option Int × Sto)
  | (.d (.int i), S) => some (some i, S)
  | _ => none
theorem toO_ok {i : Int} : toO (.d (.int i), S) = some (some i, S) := rfl
theorem Wp_oyes : Wp (oYes A ρ S) ΦO = Wp (A ρ S) fun p => Wp (toO p) ΦO := by
  unfold oYes; rw [Wp_bind]; congr 1; funext p
  obtain ⟨w, S'⟩ := p
  rcases w with (_ | _ | _ | _ | _ | _ | _) | _ <;> rfl
def frzX (p : W × Sto) : Option (W × Sto) := match p.1 with
  | .loc j => match p.2[j]? with
    | some (.lst ws) => (allD ws).map fun ds => (.d (.list ds), p.2.set j .dead)
    | _ => none
  | .d _ => none
  | .fn => none
theorem Wp_frz : Wp (mFrz A ρ S) Φ = Wp (A ρ S) fun p => Wp (frzX p) Φ := by unfold mFrz; rw [Wp_bind]; rfl
def frzY (p : W × Sto) : Option (W × Sto) := match p.1 with
  | .loc j => (p.2[j]?).bind fun o => (frzO o).map fun d => (.d d, p.2.set j .dead)
  | .d _ => none
  | .fn => none
theorem Wp_frzA : Wp (mFrzA A ρ S) Φ = Wp (A ρ S) fun p => Wp (frzY p) Φ := by unfold mFrzA; rw [Wp_bind]; rfl
theorem frzY_ok {ds : List PyData} (h : S[n]? = some (.lst (ds.map W.d))) : frzY (.loc n, S) = some (.d (.list ds), S.set n .dead) := by
  simp only [frzY, h, frzO, allD_map, Option.map_some, Option.bind_some]
def toI (p : W × Sto) : Option (List W × Sto) := match p.1 with
  | .d (.list ds) => some (ds.map W.d, p.2)
  | .d (.tuple ds) => some (ds.map W.d, p.2)
  | _ => none
theorem toI_l {ds : List PyData} : toI (.d (.list ds), S) = some (ds.map W.d, S) := rfl
theorem toI_t {ds : List PyData} : toI (.d (.tuple ds), S) = some (ds.map W.d, S) := rfl
theorem Wp_iseq {ΦI : List W × Sto → Prop} : Wp (iSeq A ρ S) ΦI = Wp (A ρ S) fun p => Wp (toI p) ΦI := by
  unfold iSeq; rw [Wp_bind]; rfl
theorem Wp_rng1 {ΦI : List W × Sto → Prop} : Wp (iRng1D R ρ S) ΦI = Wp (R ρ S) fun p => Wp (rng1D p.1 p.2) ΦI := by rw [iRng1D_eq, Wp_bind]
def rng2D (ws : List W) (S : Sto) : Option (List W × Sto) := match ws with
  | [.d (.int lo), .d (.int hi)] => if (lo.toNat < 2 ^ 61 ∧ (-lo).toNat < 2 ^ 61) ∧ hi.toNat < 2 ^ 61 ∧ (-hi).toNat < 2 ^ 61 then some (rngD lo (hi - lo).toNat, S) else none
  | _ => none
theorem Wp_rng2 {ΦI : List W × Sto → Prop} : Wp (iRng2D R ρ S) ΦI = Wp (R ρ S) fun p => Wp (rng2D p.1 p.2) ΦI := by unfold iRng2D; rw [Wp_bind]; rfl
def isLstO : Option Ob → Bool
  | some (.lst _) => true
  | _ => false
theorem isLst_loc : isLst S (.loc n) = isLstO S[n]? := rfl
theorem isLstO_ok {us : List W} : isLstO (some (.lst us)) = true := rfl
theorem get_end {ob : Ob} : (S ++ [ob])[S.length]? = some ob := by rw [List.getElem?_append_right (Nat.le_refl _)]; simp
theorem set_end {ob o2 : Ob} : (S ++ [ob]).set S.length o2 = S ++ [o2] := by rw [List.set_append_right _ _ (Nat.le_refl _)]; simp
def frzXo (j : Nat) (S : Sto) : Option Ob → Option (W × Sto)
  | some (.lst ws) => (allD ws).map fun ds => (.d (.list ds), S.set j .dead)
  | _ => none
theorem frzX_loc : frzX (.loc n, S) = frzXo n S S[n]? := by
  rfl
theorem frzXo_ok {ds : List PyData} : frzXo n S (some (.lst (ds.map W.d))) = some (.d (.list ds), S.set n .dead) := by simp only [frzXo, allD_map, Option.map_some]
theorem frzXo_nil : frzXo n S (some (.lst [])) = some (.d (.list []), S.set n .dead) := rfl
theorem frzXo_one : frzXo n S (some (.lst [.d x])) = some (.d (.list [x]), S.set n .dead) := rfl
def frzYo (j : Nat) (S : Sto) : Option Ob → Option (W × Sto)
  | some ob => (frzO ob).map fun d => (.d d, S.set j .dead)
  | none => none
theorem frzY_loc : frzY (.loc n, S) = frzYo n S S[n]? := by
  unfold frzY frzYo
  simp only
  cases S[n]? <;> rfl
theorem frzYo_ok {ds : List PyData} : frzYo n S (some (.lst (ds.map W.d))) = some (.d (.list ds), S.set n .dead) := by simp only [frzYo, frzO, allD_map, Option.map_some]
theorem frzYo_nil : frzYo n S (some (.lst [])) = some (.d (.list []), S.set n .dead) := rfl
theorem frzYo_one : frzYo n S (some (.lst [.d x])) = some (.d (.list [x]), S.set n .dead) := rfl
/-- a for: J i holds ahead of the i-th turn -/
theorem wp_forG {ws : List W} (J : Nat → DEnv → Sto → Prop) (h0 : J 0 ρ S)
    (st : ∀ i w ρ S, ws[i]? = some w → J i ρ S → Wp (g w ρ S) fun p => Wp (F p.1 p.2) fun q => ((q.1 = .nx ∨ q.1 = .ct) ∧ J (i + 1) q.2.1 q.2.2) ∨ (q.1 = .bk ∧ ΦS (.nx, q.2.1, q.2.2)) ∨ (∃ w, q.1 = .rt w ∧ ΦS q))
    (fin : ∀ ρ S, J ws.length ρ S → ΦS (.nx, ρ, S)) : Wp (forL g F ws ρ S) ΦS := by
  suffices h : ∀ (us : List W) (k : Nat) (ρ : DEnv) (S : Sto), ws.drop k = us → k ≤ ws.length → J k ρ S → Wp (forL g F us ρ S) ΦS from h ws 0 ρ S rfl (Nat.zero_le _) h0
  intro us
  induction us with
  | nil =>
    intro k ρ S e hk j
    have : k = ws.length := by
      have := congrArg List.length e
      rw [List.length_drop] at this
      simp at this; omega
    subst this
    exact ⟨_, rfl, fin _ _ j⟩
  | cons w us ih =>
    intro k ρ S e hk j
    have hw : ws[k]? = some w := by
      have := congrArg (fun l => l[0]?) e
      simpa [List.getElem?_drop] using this
    have hk1 : k + 1 ≤ ws.length := (List.getElem?_eq_some_iff.mp hw).1
    have hd : ws.drop (k + 1) = us := by
      rw [← List.drop_drop, e]; rfl
    obtain ⟨⟨ρ1, S1⟩, e1, ⟨⟨f, ρ2, S2⟩, e2, c⟩⟩ := st k w ρ S hw j
    simp only at e2 c
    rcases c with ⟨c, j2⟩ | ⟨c, p⟩ | ⟨v, c, p⟩
    · have := ih (k + 1) ρ2 S2 hd hk1 j2
      rcases c with rfl | rfl <;> simpa only [forL, e1, e2, Option.bind_some] using this
    · subst c
      exact ⟨(.nx, ρ2, S2), by simp only [forL, e1, e2, Option.bind_some], p⟩
    · subst c
      exact ⟨(.rt v, ρ2, S2), by simp only [forL, e1, e2, Option.bind_some], p⟩
/-- a for that is walked to its end; J is told of the entry -/
theorem wp_for {ws : List W} (J : DEnv → Sto → Nat → DEnv → Sto → Prop) (h0 : J ρ S 0 ρ S)
    (st : ∀ i w ρ1 S1, ws[i]? = some w → J ρ S i ρ1 S1 → Wp (g w ρ1 S1) fun p => Wp (F p.1 p.2) fun q => q.1 = .nx ∧ J ρ S (i + 1) q.2.1 q.2.2)
    (fin : ∀ ρ1 S1, J ρ S ws.length ρ1 S1 → ΦS (.nx, ρ1, S1)) : Wp (forL g F ws ρ S) ΦS :=
  wp_forG (J ρ S) h0 (fun i w ρ S hw j => (st i w ρ S hw j).mono fun p h => h.mono fun q c => .inl ⟨.inl c.1, c.2⟩) fin
/-- over things that are coded -/
theorem wp_forE {α : Type} {l : List α} {enc : α → PyData} (J : DEnv → Sto → Nat → DEnv → Sto → Prop) (h0 : J ρ S 0 ρ S)
    (st : ∀ i a ρ1 S1, l[i]? = some a → J ρ S i ρ1 S1 → Wp (g (.d (enc a)) ρ1 S1) fun p => Wp (F p.1 p.2) fun q => q.1 = .nx ∧ J ρ S (i + 1) q.2.1 q.2.2)
    (fin : ∀ ρ1 S1, J ρ S l.length ρ1 S1 → ΦS (.nx, ρ1, S1)) : Wp (forL g F ((l.map enc).map W.d) ρ S) ΦS :=
  wp_for J h0 (fun i w ρ1 S1 hw j => by
    simp only [List.getElem?_map, Option.map_eq_some_iff] at hw
    obtain ⟨_, ⟨a, ha, rfl⟩, rfl⟩ := hw
    exact st i a ρ1 S1 ha j) (by rw [List.length_map, List.length_map]; exact fin)
/-- with an end ahead of time -/
theorem wp_forX {α : Type} {l : List α} {enc : α → PyData} (J : DEnv → Sto → Nat → DEnv → Sto → Prop) (h0 : J ρ S 0 ρ S)
    (st : ∀ i a ρ1 S1, l[i]? = some a → J ρ S i ρ1 S1 → Wp (g (.d (enc a)) ρ1 S1) fun p => Wp (F p.1 p.2) fun q => ((q.1 = .nx ∨ q.1 = .ct) ∧ J ρ S (i + 1) q.2.1 q.2.2) ∨ (q.1 = .bk ∧ ΦS (.nx, q.2.1, q.2.2)) ∨ (∃ w, q.1 = .rt w ∧ ΦS q))
    (fin : ∀ ρ1 S1, J ρ S l.length ρ1 S1 → ΦS (.nx, ρ1, S1)) : Wp (forL g F ((l.map enc).map W.d) ρ S) ΦS :=
  wp_forG (J ρ S) h0 (fun i w ρ1 S1 hw j => by
    simp only [List.getElem?_map, Option.map_eq_some_iff] at hw
    obtain ⟨_, ⟨a, ha, rfl⟩, rfl⟩ := hw
    exact st i a ρ1 S1 ha j) (by rw [List.length_map, List.length_map]; exact fin)
theorem wp_rng {lo : Int} {n : Nat} (J : DEnv → Sto → Nat → DEnv → Sto → Prop) (h0 : J ρ S 0 ρ S)
    (st : ∀ i ρ1 S1, i < n → J ρ S i ρ1 S1 → Wp (g (.d (.int (lo + i))) ρ1 S1) fun p => Wp (F p.1 p.2) fun q => q.1 = .nx ∧ J ρ S (i + 1) q.2.1 q.2.2)
    (fin : ∀ ρ1 S1, J ρ S n ρ1 S1 → ΦS (.nx, ρ1, S1)) : Wp (forL g F (rngD lo n) ρ S) ΦS :=
  wp_for J h0 (fun i w ρ1 S1 hw j => by
    obtain ⟨h1, rfl⟩ := rngD_get hw
    exact st i ρ1 S1 h1 j) (by rw [rngD_len]; exact fin)
theorem wp_append {us : List W} (hS : S[n]? = some (.lst us)) (hl : us.length < sizeLine) (k : Φ (.d .none, S.set n (.lst (us ++ [w])))) : Wp (appendF (.loc n) [w] S) Φ := by
  refine ⟨_, ?_, k⟩
  simp only [appendF, onL, hS, if_pos hl, Option.bind_some]
theorem wp_extend {us : List W} {ds : List PyData} (hS : S[n]? = some (.lst us)) (hl : us.length + ds.length ≤ sizeLine) (k : Φ (.d .none, S.set n (.lst (us ++ ds.map W.d)))) : Wp (extendF (.loc n) [.d (.list ds)] S) Φ := by
  refine ⟨_, ?_, k⟩
  simp only [extendF, onL, hS, deref, if_pos hl, Option.bind_some]
/-- [F(x) for x in l if P(x)], nothing changed -/
theorem wp_lcL {α : Type} {l : List α} {vs : List Nat} {enc : α → PyData} {P : α → Bool} {H : α → PyData} (h : ∀ a ∈ l, Wp (g (.d (enc a)) (wipeD ρ vs) S) fun p => Wp (T p.1 p.2) fun q => q = (P a, S) ∧ p.2 = S ∧ (P a = true → Wp (A p.1 S) fun r => r = (.d (H a), S))) :
    lcL g T A vs ρ ((l.map enc).map W.d) S = some ((((l.filter P).map H).map W.d), S) := lcL_e enc P H fun a ha => by
  obtain ⟨⟨ρ1, S1⟩, e1, ⟨q, e2, rfl, h2, k⟩⟩ := h a ha
  simp only at h2 e2; subst h2
  refine ⟨ρ1, e1, e2, fun hp => ?_⟩
  obtain ⟨_, e3, rfl⟩ := k hp
  exact e3
theorem wp_lc {α : Type} {l : List α} {vs : List Nat} {enc : α → PyData} {P : α → Bool} {H : α → PyData} {S1 : Sto} (hi : Wp (it ρ S) fun p => p = ((l.map enc).map W.d, S1))
    (h : ∀ a ∈ l, Wp (g (.d (enc a)) (wipeD ρ vs) S1) fun p => Wp (T p.1 p.2) fun q => q = (P a, S1) ∧ p.2 = S1 ∧ (P a = true → Wp (A p.1 S1) fun r => r = (.d (H a), S1))) (hl : (l.filter P).length ≤ sizeLine)
    (fin : Φ (.d (.list ((l.filter P).map H)), S1)) : Wp (mLc it g T A vs kFrz ρ S) Φ := by
  obtain ⟨_, e, rfl⟩ := hi
  have hk : ((l.filter P).map H).length ≤ sizeLine := by rw [List.length_map]; exact hl
  exact ⟨_, by simp only [mLc, e, Option.bind_some, wp_lcL h, kFrz, allD_map, if_pos hk], fin⟩
/-- without a test -/
theorem wp_lcA {α : Type} {l : List α} {vs : List Nat} {enc : α → PyData} {H : α → PyData} {S1 : Sto} (hi : Wp (it ρ S) fun p => p = ((l.map enc).map W.d, S1))
    (h : ∀ a ∈ l, Wp (g (.d (enc a)) (wipeD ρ vs) S1) fun p => p.2 = S1 ∧ Wp (A p.1 S1) fun r => r = (.d (H a), S1)) (hl : l.length ≤ sizeLine)
    (fin : Φ (.d (.list (l.map H)), S1)) : Wp (mLc it g tTrue A vs kFrz ρ S) Φ := by
  have e : l.filter (fun _ => true) = l := List.filter_eq_self.mpr fun _ _ => rfl
  refine wp_lc (P := fun _ => true) (H := H) hi (fun a ha => (h a ha).mono fun p hp => ?_) (by rw [e]; exact hl) (by rw [e]; exact fin)
  exact ⟨_, rfl, by rw [hp.1], hp.1, fun _ => hp.2⟩
theorem wp_call0 {f : MS} {N : Nat} {vs : List W} {ΨF : PyData → Prop} (h0 : firstLoc vs = none) (h : Wp (f (vs.map some ++ List.replicate (N - vs.length) none) []) fun r => ∃ x, r.1 = .rt (.d x) ∧ ΨF x) :
    Wp (callF (runF N f) vs S) fun r => ∃ x, r = (.d x, S) ∧ ΨF x := by
  obtain ⟨⟨_, ρ', S'⟩, e, x, rfl, p⟩ := h
  exact ⟨_, callF_pure h0 (runF_ret0 ⟨ρ', S', e⟩), x, rfl, p⟩
theorem wp_call1 {f : MS} {N : Nat} {vs : List W} {ob : Ob} {ΨF : PyData → Ob → Prop} (h0 : firstLoc vs = some n) (h1 : allLoc n vs = true) (h2 : S[n]? = some ob) (h3 : obD ob = true)
    (h : Wp (f ((vs.map toZero).map some ++ List.replicate (N - vs.length) none) [ob]) fun r => ∃ x ob' S', r.1 = .rt (.d x) ∧ r.2.2 = ob' :: S' ∧ obD ob' = true ∧ ΨF x ob') :
    Wp (callF (runF N f) vs S) fun r => ∃ x ob', r = (.d x, S.set n ob') ∧ ΨF x ob' := by
  obtain ⟨⟨_, ρ', _⟩, e, x, ob', S', rfl, rfl, h4, p⟩ := h
  refine ⟨_, callF_loc h0 h1 h2 h3 (runF_ret1 ⟨ρ', S', ?_⟩ h4) h4, x, ob', rfl, p⟩
  rw [List.length_map]; exact e
section
variable {x0 x1 x2 x3 x4 x5 x6 x7 x8 x9 x10 : PyData} {w0 w1 w2 w3 w4 : W}
theorem tupF_0 : tupF [] S = some (.d (.tuple []), S) := by unfold tupF; simp only [allD, Option.map_some, Option.bind_some, List.length_cons, List.length_nil]; rw [if_pos (by decide)]
theorem lstF_0 : lstF [] S = some (.d (.list []), S) := by unfold lstF; simp only [allD, Option.map_some, Option.bind_some, List.length_cons, List.length_nil]; rw [if_pos (by decide)]
theorem lstB_0 : lstB [] S = some (.loc S.length, S ++ [.lst []]) := by unfold lstB; simp only [List.length_cons, List.length_nil]; rw [if_pos (by decide)]
theorem tupF_1 : tupF [.d x0] S = some (.d (.tuple [x0]), S) := by unfold tupF; simp only [allD, Option.map_some, Option.bind_some, List.length_cons, List.length_nil]; rw [if_pos (by decide)]
theorem lstF_1 : lstF [.d x0] S = some (.d (.list [x0]), S) := by unfold lstF; simp only [allD, Option.map_some, Option.bind_some, List.length_cons, List.length_nil]; rw [if_pos (by decide)]
theorem lstB_1 : lstB [w0] S = some (.loc S.length, S ++ [.lst [w0]]) := by unfold lstB; simp only [List.length_cons, List.length_nil]; rw [if_pos (by decide)]
theorem tupF_2 : tupF [.d x0, .d x1] S = some (.d (.tuple [x0, x1]), S) := by unfold tupF; simp only [allD, Option.map_some, Option.bind_some, List.length_cons, List.length_nil]; rw [if_pos (by decide)]
theorem lstF_2 : lstF [.d x0, .d x1] S = some (.d (.list [x0, x1]), S) := by unfold lstF; simp only [allD, Option.map_some, Option.bind_some, List.length_cons, List.length_nil]; rw [if_pos (by decide)]
theorem lstB_2 : lstB [w0, w1] S = some (.loc S.length, S ++ [.lst [w0, w1]]) := by unfold lstB; simp only [List.length_cons, List.length_nil]; rw [if_pos (by decide)]
theorem tupF_3 : tupF [.d x0, .d x1, .d x2] S = some (.d (.tuple [x0, x1, x2]), S) := by unfold tupF; simp only [allD, Option.map_some, Option.bind_some, List.length_cons, List.length_nil]; rw [if_pos (by decide)]
theorem lstF_3 : lstF [.d x0, .d x1, .d x2] S = some (.d (.list [x0, x1, x2]), S) := by unfold lstF; simp only [allD, Option.map_some, Option.bind_some, List.length_cons, List.length_nil]; rw [if_pos (by decide)]
theorem lstB_3 : lstB [w0, w1, w2] S = some (.loc S.length, S ++ [.lst [w0, w1, w2]]) := by unfold lstB; simp only [List.length_cons, List.length_nil]; rw [if_pos (by decide)]
theorem tupF_4 : tupF [.d x0, .d x1, .d x2, .d x3] S = some (.d (.tuple [x0, x1, x2, x3]), S) := by unfold tupF; simp only [allD, Option.map_some, Option.bind_some, List.length_cons, List.length_nil]; rw [if_pos (by decide)]
theorem lstF_4 : lstF [.d x0, .d x1, .d x2, .d x3] S = some (.d (.list [x0, x1, x2, x3]), S) := by unfold lstF; simp only [allD, Option.map_some, Option.bind_some, List.length_cons, List.length_nil]; rw [if_pos (by decide)]
theorem lstB_4 : lstB [w0, w1, w2, w3] S = some (.loc S.length, S ++ [.lst [w0, w1, w2, w3]]) := by unfold lstB; simp only [List.length_cons, List.length_nil]; rw [if_pos (by decide)]
theorem tupF_5 : tupF [.d x0, .d x1, .d x2, .d x3, .d x4] S = some (.d (.tuple [x0, x1, x2, x3, x4]), S) := by unfold tupF; simp only [allD, Option.map_some, Option.bind_some, List.length_cons, List.length_nil]; rw [if_pos (by decide)]
theorem lstF_5 : lstF [.d x0, .d x1, .d x2, .d x3, .d x4] S = some (.d (.list [x0, x1, x2, x3, x4]), S) := by unfold lstF; simp only [allD, Option.map_some, Option.bind_some, List.length_cons, List.length_nil]; rw [if_pos (by decide)]
theorem lstB_5 : lstB [w0, w1, w2, w3, w4] S = some (.loc S.length, S ++ [.lst [w0, w1, w2, w3, w4]]) := by unfold lstB; simp only [List.length_cons, List.length_nil]; rw [if_pos (by decide)]
theorem tupF_6 : tupF [.d x0, .d x1, .d x2, .d x3, .d x4, .d x5] S = some (.d (.tuple [x0, x1, x2, x3, x4, x5]), S) := by unfold tupF; simp only [allD, Option.map_some, Option.bind_some, List.length_cons, List.length_nil]; rw [if_pos (by decide)]
theorem lstF_6 : lstF [.d x0, .d x1, .d x2, .d x3, .d x4, .d x5] S = some (.d (.list [x0, x1, x2, x3, x4, x5]), S) := by unfold lstF; simp only [allD, Option.map_some, Option.bind_some, List.length_cons, List.length_nil]; rw [if_pos (by decide)]
theorem tupF_7 : tupF [.d x0, .d x1, .d x2, .d x3, .d x4, .d x5, .d x6] S = some (.d (.tuple [x0, x1, x2, x3, x4, x5, x6]), S) := by unfold tupF; simp only [allD, Option.map_some, Option.bind_some, List.length_cons, List.length_nil]; rw [if_pos (by decide)]
theorem lstF_7 : lstF [.d x0, .d x1, .d x2, .d x3, .d x4, .d x5, .d x6] S = some (.d (.list [x0, x1, x2, x3, x4, x5, x6]), S) := by unfold lstF; simp only [allD, Option.map_some, Option.bind_some, List.length_cons, List.length_nil]; rw [if_pos (by decide)]
theorem lstF_8 : lstF [.d x0, .d x1, .d x2, .d x3, .d x4, .d x5, .d x6, .d x7] S = some (.d (.list [x0, x1, x2, x3, x4, x5, x6, x7]), S) := by unfold lstF; simp only [allD, Option.map_some, Option.bind_some, List.length_cons, List.length_nil]; rw [if_pos (by decide)]
theorem lstF_9 : lstF [.d x0, .d x1, .d x2, .d x3, .d x4, .d x5, .d x6, .d x7, .d x8] S = some (.d (.list [x0, x1, x2, x3, x4, x5, x6, x7, x8]), S) := by unfold lstF; simp only [allD, Option.map_some, Option.bind_some, List.length_cons, List.length_nil]; rw [if_pos (by decide)]
theorem lstF_10 : lstF [.d x0, .d x1, .d x2, .d x3, .d x4, .d x5, .d x6, .d x7, .d x8, .d x9] S = some (.d (.list [x0, x1, x2, x3, x4, x5, x6, x7, x8, x9]), S) := by unfold lstF; simp only [allD, Option.map_some, Option.bind_some, List.length_cons, List.length_nil]; rw [if_pos (by decide)]
theorem lstF_11 : lstF [.d x0, .d x1, .d x2, .d x3, .d x4, .d x5, .d x6, .d x7, .d x8, .d x9, .d x10] S = some (.d (.list [x0, x1, x2, x3, x4, x5, x6, x7, x8, x9, x10]), S) := by unfold lstF; simp only [allD, Option.map_some, Option.bind_some, List.length_cons, List.length_nil]; rw [if_pos (by decide)]
end
def fzO (i j : Nat) (F : MS) (ρ : DEnv) (S : Sto) (Φ : Fl × DEnv × Sto → Prop) : Option Ob → Prop
  | some ob => Wp (frzO ob) fun d => Wp (F (ρ.set i (some (.d d))) (S.set j .dead)) Φ
  | none => False
theorem fzO_ok {j : Nat} {ob : Ob} {F : MS} {ΦS : Fl × DEnv × Sto → Prop} : fzO i j F ρ S ΦS (some ob) = Wp (frzO ob) fun d => Wp (F (ρ.set i (some (.d d))) (S.set j .dead)) ΦS := rfl
def fzV (i : Nat) (F : MS) (ρ : DEnv) (S : Sto) (Φ : Fl × DEnv × Sto → Prop) : Option (Option W) → Prop
  | some (some (.loc j)) => fzO i j F ρ S Φ S[j]?
  | _ => False
theorem fzV_ok {j : Nat} {F : MS} {ΦS : Fl × DEnv × Sto → Prop} : fzV i F ρ S ΦS (some (some (.loc j))) = fzO i j F ρ S ΦS S[j]? := rfl
theorem Wp_fz {F : MS} {ΦS : Fl × DEnv × Sto → Prop} : Wp (sFz i F ρ S) ΦS = fzV i F ρ S ΦS ρ[i]? := by
  unfold sFz
  rcases ρ[i]? with _ | _ | w
  · simp [Wp, fzV]
  · simp [Wp, fzV]
  · cases w with
    | d x => simp [Wp, fzV]
    | fn => simp [Wp, fzV]
    | loc j =>
      simp only [fzV]
      cases S[j]? with
      | none => simp [Wp, fzO]
      | some ob => simp only [fzO, Option.bind_some, Wp_bind]
theorem frzO_l {ds : List PyData} : frzO (.lst (ds.map W.d)) = some (.list ds) := by simp only [frzO, allD_map, Option.map_some]
theorem frzO_nil : frzO (.lst []) = some (.list []) := rfl
theorem frzO_one {x : PyData} : frzO (.lst [.d x]) = some (.list [x]) := rfl
def toK (p : W × Sto) : Option (List W × Sto) := match p.1 with
  | .d (.list ds) => some (ds.map W.d, p.2)
  | .d (.tuple ds) => some (ds.map W.d, p.2)
  | .d (.dict ds) => some ((ds.map fun q => q.1).map W.d, p.2)
  | _ => none
theorem toK_l {ds : List PyData} : toK (.d (.list ds), S) = some (ds.map W.d, S) := rfl
theorem toK_t {ds : List PyData} : toK (.d (.tuple ds), S) = some (ds.map W.d, S) := rfl
theorem toK_d {ds : List (PyData × PyData)} : toK (.d (.dict ds), S) = some ((ds.map fun q => q.1).map W.d, S) := rfl
theorem Wp_iseqK {ΦI : List W × Sto → Prop} : Wp (iSeqK A ρ S) ΦI = Wp (A ρ S) fun p => Wp (toK p) ΦI := by
  unfold iSeqK; rw [Wp_bind]; rfl
theorem Wp_rng3 {R : MA} {ΦI : List W × Sto → Prop} : Wp (iRng3D R ρ S) ΦI = Wp (R ρ S) fun p => Wp (rng3D p.1 p.2) ΦI := by unfold iRng3D; rw [Wp_bind]
theorem Wp_star {R : MA} {ΦA : List W × Sto → Prop} : Wp (mStar A R ρ S) ΦA = Wp (A ρ S) fun p => Wp (seqOf p.2 p.1) fun ds => Wp (R ρ p.2) fun q => ΦA (ds.map W.d ++ q.1, q.2) := by unfold mStar; simp only [Wp_bind, Wp_some]
theorem seqOf_t {ds : List PyData} : seqOf S (.d (.tuple ds)) = some ds := rfl
theorem seqOf_l {ds : List PyData} : seqOf S (.d (.list ds)) = some ds := rfl
theorem Wp_mneg {Φ : W × Sto → Prop} : Wp (mNeg A ρ S) Φ = Wp (A ρ S) fun p => Wp (toO p) fun q => Φ (.d (.int (-(q.1.getD 0))), q.2) := by
  unfold mNeg; rw [Wp_bind]; congr 1; funext p
  obtain ⟨w, S'⟩ := p
  rcases w with (_ | b | _ | _ | _ | _ | _) | _ <;> first
    | (simp [toO, Wp]; done)
    | (simp [toO, Wp_some])
theorem getD_s {i j : Int} : (some i).getD j = i := rfl
theorem lenX_l {ds : List PyData} : lenX [.d (.list ds)] S = some (.d (.int (ds.length : Nat)), S) := by simp [lenX, on1, len0X, len0]
theorem lenX_t {ds : List PyData} : lenX [.d (.tuple ds)] S = some (.d (.int (ds.length : Nat)), S) := by simp [lenX, on1, len0X, len0]
theorem lenX_d {ds : List (PyData × PyData)} : lenX [.d (.dict ds)] S = some (.d (.int (ds.length : Nat)), S) := by simp [lenX, on1, len0X]
theorem inZ_d {neg : Bool} {w : W} {x : PyData} : inZ neg w (.d x) S = inX neg w (.d x) S := by
  simp [inZ, isN]
theorem Wp_getX1 {B : ME} {Φ : W × Sto → Prop} : Wp (mGetX1 A B ρ S) Φ = Wp (A ρ S) fun p => isDicA p.2 p.1 = true ∧ Wp (B ρ p.2) fun q => Wp (dlookA q.2 p.1 q.1) fun o => Φ (o.getD (.d .none), q.2) := by
  unfold mGetX1; simp only [Wp_bind]
  congr 1; funext p
  cases isDicA p.2 p.1
  · simp [Wp]
  · simp only [if_true, true_and, Wp_bind, Wp_map]
theorem Wp_getX2 {B C : ME} {Φ : W × Sto → Prop} : Wp (mGetX2 A B C ρ S) Φ = Wp (A ρ S) fun p => isDicA p.2 p.1 = true ∧ Wp (B ρ p.2) fun q => Wp (C ρ q.2) fun r => Wp (dlookA r.2 p.1 q.1) fun o => Φ (o.getD r.1, r.2) := by
  unfold mGetX2; simp only [Wp_bind]
  congr 1; funext p
  cases isDicA p.2 p.1
  · simp [Wp]
  · simp only [if_true, true_and, Wp_bind, Wp_map]
theorem truD_b {b : Bool} : truD S (.d (.bool b)) = some b := rfl
theorem lenD_l {ds : List PyData} : lenD [.d (.list ds)] S = some (.d (.int (ds.length : Nat)), S) := by simp [lenD, on1, len0]
theorem lenD_t {ds : List PyData} : lenD [.d (.tuple ds)] S = some (.d (.int (ds.length : Nat)), S) := by simp [lenD, on1, len0]
theorem tupleD_l {ds : List PyData} : tupleD [.d (.list ds)] S = some (.d (.tuple ds), S) := rfl
theorem listD_l {ds : List PyData} : listD [.d (.list ds)] S = some (.d (.list ds), S) := rfl
theorem listD_t {ds : List PyData} : listD [.d (.tuple ds)] S = some (.d (.list ds), S) := rfl
theorem isND_d {y : PyData} {neg : Bool} : isND neg (.d y) (.d .none) S = some (.d (.bool (isNon y ^^ neg)), S) := rfl
theorem ixY_lit0 {a : PyData} {l : List PyData} : ixY (.d (.tuple (a :: l))) (.d (.int 0)) S = some (.d a, S) := by
  have h : atI (a :: l) 0 = some a := atI_nat (j := 0) rfl
  simp only [ixY, isN, Bool.false_eq_true, if_false, ixX, isDicA, isDic, idxD, h, Option.map_some]
theorem ixY_lit1 {a b : PyData} {l : List PyData} : ixY (.d (.tuple (a :: b :: l))) (.d (.int 1)) S = some (.d b, S) := by
  have h : atI (a :: b :: l) 1 = some b := atI_nat (j := 1) rfl
  simp only [ixY, isN, Bool.false_eq_true, if_false, ixX, isDicA, isDic, idxD, h, Option.map_some]
theorem ixY_lit2 {a b c : PyData} {l : List PyData} : ixY (.d (.tuple (a :: b :: c :: l))) (.d (.int 2)) S = some (.d c, S) := by
  have h : atI (a :: b :: c :: l) 2 = some c := atI_nat (j := 2) rfl
  simp only [ixY, isN, Bool.false_eq_true, if_false, ixX, isDicA, isDic, idxD, h, Option.map_some]
theorem ixY_lst0 {a : PyData} {l : List PyData} : ixY (.d (.list (a :: l))) (.d (.int 0)) S = some (.d a, S) := by
  have h : atI (a :: l) 0 = some a := atI_nat (j := 0) rfl
  simp only [ixY, isN, Bool.false_eq_true, if_false, ixX, isDicA, isDic, idxD, h, Option.map_some]
theorem ixY_lst1 {a b : PyData} {l : List PyData} : ixY (.d (.list (a :: b :: l))) (.d (.int 1)) S = some (.d b, S) := by
  have h : atI (a :: b :: l) 1 = some b := atI_nat (j := 1) rfl
  simp only [ixY, isN, Bool.false_eq_true, if_false, ixX, isDicA, isDic, idxD, h, Option.map_some]
theorem ixY_t {l : List PyData} {a : PyData} {k : Nat} (h : l[k]? = some a) : ixY (.d (.tuple l)) (.d (.int (k : Nat))) S = some (.d a, S) := by
  simp only [ixY, isN, Bool.false_eq_true, if_false, ixX, isDicA, isDic, idxD, atI_nat h, Option.map_some]
end
end DL
end
noncomputable section
namespace DL
open PySem PySem.Spec PyProof.Rows L2 DL
section
variable {c n : Nat} {ob : Ob} {S : Sto} {upto : Int} {xs : List PyData}
theorem take_wp (hS : S[n]? = some ob) (hb : BagOk c ob) (hc : c + 1 < 2 ^ 1000) (hu : 0 < upto) (hl : upto ≤ 2 ^ 60) :
    Wp (callF fTake [.loc n, .d (.int upto)] S) fun r => ∃ v ob', r = (.d (.int v), S.set n ob') ∧ 0 ≤ v ∧ v < upto ∧ BagOk (c + 1) ob' := by
  obtain ⟨v, ob', e, h⟩ := take_ok hS hb hc hu (Nat.lt_of_le_of_lt (lg_le (k := 61) (by omega)) (by decide))
  exact ⟨_, e, v, ob', rfl, h⟩
theorem some_wp (hS : S[n]? = some ob) (hb : BagOk c ob) (hc : c + 1 < 2 ^ 1000) (h0 : xs ≠ []) (hx : xs.length ≤ sizeLine) :
    Wp (callF fSome [.loc n, .d (.list xs)] S) fun r => ∃ x ob', r = (.d x, S.set n ob') ∧ x ∈ xs ∧ BagOk (c + 1) ob' := by
  obtain ⟨x, hx, ob', e, h⟩ := some_ok hS hb hc h0 hx
  exact ⟨_, e, x, ob', rfl, hx, h⟩
end
end DL
end
noncomputable section
namespace KB
open PySem PySem.Spec PyProof.Rows L2 DL
def b_is_integer : MS := sRet (vAndT (mIsiE "int" (mVar 0)) (vNot (mIsiE "bool" (mVar 0))))
def f_is_integer : FS := runF 1 b_is_integer
def b_l_is_int : MS := sRet (vAndT (mIsiE "int" (mVar 0)) (vAnd (vNot (mIsiE "bool" (mVar 0))) (vChain leD leD (mVar 1) (mVar 0) (mVar 2))))
def f_l_is_int : FS := runF 3 b_l_is_int
def b_l_odd : MS := sSeq (sAsg (mCall lstF (mCons (mC .none) (mCons (mC (.bool true)) (mCons (mC (.bool false)) (mCons (mC (.int 0)) (mCons (mC (.int 1)) (mCons (mNeg (mC (.int 1))) (mCons (mC (.int 6)) (mCons (mC (.int 7)) (mCons (mBin powD (mC (.int 10)) (mC (.int 39))) (mCons (mC (.str "")) (mCons (mC (.str "0")) (mCons (mCall tupF (mNil)) (mCons (mCall lstF (mNil)) (mCons (mFrzA (mNewT)) (mCons (mCall tupF (mCons (mC (.int 0)) (mNil))) (mCons (mCall lstF (mCons (mC (.int 0)) (mNil))) (mCons (mCall tupF (mCons (mCall tupF (mNil)) (mNil))) (mCons (mFrzA (mDispK (mC (.int 0)) (mC (.int 1)))) (mCons (mCall tupF (mCons (mCall tupF (mCons (mC (.int 0)) (mCons (mC (.int 1)) (mNil)))) (mNil))) (mNil))))))))))))))))))))) (gSet 1))
    (sRet (mCall (callF fSome) (mCons (mVar 0) (mCons (mBin addA (mVar 1) (mCall lstF (mCons (mCall tupF (mCons (mC (.int 0)) (mCons (mC (.int 0)) (mNil)))) (mCons (mCall tupF (mCons (mC (.bool true)) (mNil))) (mCons (mCall tupF (mCons (mC (.int 0)) (mCons (mC (.int 0)) (mCons (mC (.int 0)) (mNil))))) (mCons (mCall tupF (mCons (mCall tupF (mCons (mC (.int 0)) (mCons (mC (.int 0)) (mNil)))) (mCons (mCall tupF (mCons (mC (.int 1)) (mCons (mC (.int 0)) (mNil)))) (mNil)))) (mCons (mC (.str "free")) (mNil)))))))) (mNil)))))
def f_l_odd : FS := runF 2 b_l_odd
def b_l_bent (self : FS) : MS := sSeq (sIf (tAndD (tTru (mCall (callF f_l_is_int) (mCons (mVar 1) (mCons (mNeg (mC (.int 9))) (mCons (mC (.int 9)) (mNil)))))) (tOf (mBin (eqA false) (mCall (callF fTake) (mCons (mVar 0) (mCons (mC (.int 2)) (mNil)))) (mC (.int 0))))) (sRet (mBin addA (mVar 1) (mCall (callF fSome) (mCons (mVar 0) (mCons (mCall lstF (mCons (mC (.int 1)) (mCons (mNeg (mC (.int 1))) (mCons (mC (.int 2)) (mNil))))) (mNil)))))) (sNil))
    (sSeq (sIf (tOrD (tNotD (tTru (mIsiE2 "tuple" "list" (mVar 1)))) (tOrD (tOf (mBin (eqA false) (mCall lenX (mCons (mVar 1) (mNil))) (mC (.int 0)))) (tOf (mBin (eqA false) (mCall (callF fTake) (mCons (mVar 0) (mCons (mC (.int 7)) (mNil)))) (mC (.int 0)))))) (sRet (mCall (callF f_l_odd) (mCons (mVar 0) (mNil)))) (sNil))
    (sSeq (sTupA 4 (gsCons (gSet 2) (gsCons (gSet 3) (gsCons (gSet 4) (gsCons (gSet 5) (gsNil))))) (mCons (mCall (callF fTake) (mCons (mVar 0) (mCons (mCall lenX (mCons (mVar 1) (mNil))) (mNil)))) (mCons (mCall (callF fTake) (mCons (mVar 0) (mCons (mCall lenX (mCons (mVar 1) (mNil))) (mNil)))) (mCons (mCall listB (mCons (mVar 1) (mNil))) (mCons (mCall (callF fTake) (mCons (mVar 0) (mCons (mC (.int 12)) (mNil)))) (mNil))))))
    (sSeq (sIf (tOf (mBin (eqA false) (mVar 5) (mC (.int 0)))) (sRet (vIf (tTru (mIsiE "tuple" (mVar 1))) (mFrzA (mVar 4)) (mCall tupleD (mCons (mVar 4) (mNil))))) (sNil))
    (sSeq (sIf (tOf (mBin (eqA false) (mVar 5) (mC (.int 1)))) (sExpr (mMt popAtF (mVar 4) (mCons (mVar 2) (mNil)))) (sIf (tOf (mBin (eqA false) (mVar 5) (mC (.int 2)))) (sExpr (mMt insertF (mVar 4) (mCons (mVar 2) (mCons (mBin ixY (mVar 4) (mVar 3)) (mNil))))) (sIf (tOf (mBin (eqA false) (mVar 5) (mC (.int 3)))) (sAsg (mCall tupF (mCons (mBin ixY (mVar 4) (mVar 3)) (mCons (mBin ixY (mVar 4) (mVar 2)) (mNil)))) (gTupD 2 (gsCons (gSubD (mVar 4) (mVar 2) setX) (gsCons (gSubD (mVar 4) (mVar 3) setX) (gsNil))))) (sIf (tOf (mBin (eqA false) (mVar 5) (mC (.int 4)))) (sExpr (mMt insertF (mVar 4) (mCons (mCall (callF fTake) (mCons (mVar 0) (mCons (mBin addA (mCall lenX (mCons (mVar 4) (mNil))) (mC (.int 1))) (mNil)))) (mCons (mCall (callF f_l_odd) (mCons (mVar 0) (mNil))) (mNil))))) (sAsg (mCall (callF self) (mCons (mVar 0) (mCons (mBin ixY (mVar 4) (mVar 2)) (mNil)))) (gSubD (mVar 4) (mVar 2) setX))))))
    (sFz 4 (sRet (vIf (tTru (mIsiE "tuple" (mVar 1))) (mCall tupleD (mCons (mVar 4) (mNil))) (mVar 4))))))))
def f_l_bent : Nat → FS
  | 0 => fun _ _ => none
  | n + 1 => runF 6 (b_l_bent (f_l_bent n))
def pB1 : MS := sIf (tAndD (tTru (mCall (callF f_l_is_int) (mCons (mVar 1) (mCons (mNeg (mC (.int 9))) (mCons (mC (.int 9)) (mNil)))))) (tOf (mBin (eqA false) (mCall (callF fTake) (mCons (mVar 0) (mCons (mC (.int 2)) (mNil)))) (mC (.int 0))))) (sRet (mBin addA (mVar 1) (mCall (callF fSome) (mCons (mVar 0) (mCons (mCall lstF (mCons (mC (.int 1)) (mCons (mNeg (mC (.int 1))) (mCons (mC (.int 2)) (mNil))))) (mNil)))))) (sNil)
def pB2 : MS := sIf (tOrD (tNotD (tTru (mIsiE2 "tuple" "list" (mVar 1)))) (tOrD (tOf (mBin (eqA false) (mCall lenX (mCons (mVar 1) (mNil))) (mC (.int 0)))) (tOf (mBin (eqA false) (mCall (callF fTake) (mCons (mVar 0) (mCons (mC (.int 7)) (mNil)))) (mC (.int 0)))))) (sRet (mCall (callF f_l_odd) (mCons (mVar 0) (mNil)))) (sNil)
def pB3 : MS := sTupA 4 (gsCons (gSet 2) (gsCons (gSet 3) (gsCons (gSet 4) (gsCons (gSet 5) (gsNil))))) (mCons (mCall (callF fTake) (mCons (mVar 0) (mCons (mCall lenX (mCons (mVar 1) (mNil))) (mNil)))) (mCons (mCall (callF fTake) (mCons (mVar 0) (mCons (mCall lenX (mCons (mVar 1) (mNil))) (mNil)))) (mCons (mCall listB (mCons (mVar 1) (mNil))) (mCons (mCall (callF fTake) (mCons (mVar 0) (mCons (mC (.int 12)) (mNil)))) (mNil)))))
def pB4 : MS := sIf (tOf (mBin (eqA false) (mVar 5) (mC (.int 0)))) (sRet (vIf (tTru (mIsiE "tuple" (mVar 1))) (mFrzA (mVar 4)) (mCall tupleD (mCons (mVar 4) (mNil))))) (sNil)
def pB5 (self : FS) : MS := sIf (tOf (mBin (eqA false) (mVar 5) (mC (.int 1)))) (sExpr (mMt popAtF (mVar 4) (mCons (mVar 2) (mNil)))) (sIf (tOf (mBin (eqA false) (mVar 5) (mC (.int 2)))) (sExpr (mMt insertF (mVar 4) (mCons (mVar 2) (mCons (mBin ixY (mVar 4) (mVar 3)) (mNil))))) (sIf (tOf (mBin (eqA false) (mVar 5) (mC (.int 3)))) (sAsg (mCall tupF (mCons (mBin ixY (mVar 4) (mVar 3)) (mCons (mBin ixY (mVar 4) (mVar 2)) (mNil)))) (gTupD 2 (gsCons (gSubD (mVar 4) (mVar 2) setX) (gsCons (gSubD (mVar 4) (mVar 3) setX) (gsNil))))) (sIf (tOf (mBin (eqA false) (mVar 5) (mC (.int 4)))) (sExpr (mMt insertF (mVar 4) (mCons (mCall (callF fTake) (mCons (mVar 0) (mCons (mBin addA (mCall lenX (mCons (mVar 4) (mNil))) (mC (.int 1))) (mNil)))) (mCons (mCall (callF f_l_odd) (mCons (mVar 0) (mNil))) (mNil))))) (sAsg (mCall (callF self) (mCons (mVar 0) (mCons (mBin ixY (mVar 4) (mVar 2)) (mNil)))) (gSubD (mVar 4) (mVar 2) setX)))))
def pB6 : MS := sFz 4 (sRet (vIf (tTru (mIsiE "tuple" (mVar 1))) (mCall tupleD (mCons (mVar 4) (mNil))) (mVar 4)))
theorem b_l_bent_eq (self : FS) : b_l_bent self = sSeq pB1 (sSeq pB2 (sSeq pB3 (sSeq pB4 (sSeq (pB5 self) (pB6))))) := rfl
end KB
end
noncomputable section
namespace K17
open PySem PySem.Spec PyProof.Rows L2 DL
def L_steps_from_1 : MS := sSeq (sAsg (mLc (iSeq (mVar 6)) (gTupD 2 (gsCons (gSet 7) (gsCons (gSet 8) (gsNil)))) (tOf (mBin (eqA false) (mVar 7) (mBin idxD (mVar 1) (mVar 3)))) (mVar 8) [7, 8] kFrz) (gSet 4))
    (sExpr (mMt extendF (mVar 2) (mCons (mLc (iSeq (mVar 4)) (gSet 8) (tTrue) (mBin addA (mBin addA (mSl (mVar 1) (oNo) (oYes (mVar 3))) (mCall tupF (mCons (mVar 8) (mNil)))) (mSl (mVar 1) (oYes (mBin addA (mVar 3) (mC (.int 1)))) (oNo))) [8] kFrz) (mNil))))
def b_steps_from : MS := sSeq (sAsg (mCall lstB (mNil)) (gSet 2))
    (sSeq (sFor (iEnumD (mCons (mVar 0) (mNil))) (gTupD 2 (gsCons (gSet 3) (gsCons (gTupD 2 (gsCons (gSet 5) (gsCons (gSet 6) (gsNil)))) (gsNil)))) (L_steps_from_1))
    (sRet (mCall sortedD (mCons (mVar 2) (mNil)))))
def f_steps_from : FS := runF 9 b_steps_from
def L_steps_to_1 : MS := sSeq (sAsg (mLc (iSeq (mVar 6)) (gTupD 2 (gsCons (gSet 7) (gsCons (gSet 8) (gsNil)))) (tOf (mBin (eqA false) (mVar 8) (mBin idxD (mVar 1) (mVar 3)))) (mVar 7) [7, 8] kFrz) (gSet 4))
    (sExpr (mMt extendF (mVar 2) (mCons (mLc (iSeq (mVar 4)) (gSet 7) (tTrue) (mBin addA (mBin addA (mSl (mVar 1) (oNo) (oYes (mVar 3))) (mCall tupF (mCons (mVar 7) (mNil)))) (mSl (mVar 1) (oYes (mBin addA (mVar 3) (mC (.int 1)))) (oNo))) [7] kFrz) (mNil))))
def b_steps_to : MS := sSeq (sAsg (mCall lstB (mNil)) (gSet 2))
    (sSeq (sFor (iEnumD (mCons (mVar 0) (mNil))) (gTupD 2 (gsCons (gSet 3) (gsCons (gTupD 2 (gsCons (gSet 5) (gsCons (gSet 6) (gsNil)))) (gsNil)))) (L_steps_to_1))
    (sRet (mCall sortedD (mCons (mVar 2) (mNil)))))
def f_steps_to : FS := runF 9 b_steps_to
def b_l_bag : MS := sRet (mCall lstB (mCons (mC (.int 0)) (mCons (mC (.int 1234567891)) (mCons (mC (.int 0)) (mCons (mLc (iSeq (mSl (mVar 0) (oNo) (oYes (mC (.int 63))))) (gSet 1) (tTrue) (mCall absD (mCons (mVar 1) (mNil))) [1] kFrz) (mNil))))))
def f_l_bag : FS := runF 2 b_l_bag
def b_l_take : MS := sSeq (sIf (tOf (mBin (eqA false) (mBin idxD (mVar 0) (mC (.int 0))) (mC (.int 0)))) (sSeq (sAsg (mBin idxD (mBin addA (mSl (mBin idxD (mVar 0) (mC (.int 3))) (oYes (mBin idxD (mVar 0) (mC (.int 2)))) (oNo)) (mCall lstF (mCons (mC (.int 0)) (mNil)))) (mC (.int 0))) (gSet 4))
    (sSeq (sAugS (mVar 0) (mC (.int 2)) (mC (.int 1)) getF iaddI setF)
    (sSeq (sIf (tOf (mBin geD (mVar 4) (mBin powD (mC (.int 10)) (mC (.int 18))))) (sAsg (mVar 4) (gSubD (mVar 0) (mC (.int 0)) setF)) (sNil))
    (sSeq (sAsg (mBin addA (mBin addA (mBin mulD (mBin idxD (mVar 0) (mC (.int 1))) (mC (.int 48271))) (mBin modD (mCall intD (mCons (mVar 4) (mNil))) (mC (.int 2147483647)))) (mBin mulD (mC (.int 7919)) (mBin idxD (mVar 0) (mC (.int 2))))) (gSet 5))
    (sAsg (mBin modD (mCall intD (mCons (mVar 5) (mNil))) (mC (.int 2147483647))) (gSubD (mVar 0) (mC (.int 1)) setF)))))) (sNil))
    (sSeq (sIf (tOf (mBin gtD (mBin idxD (mVar 0) (mC (.int 0))) (mC (.int 0)))) (sSeq (sAsg (mBin modD (mCall intD (mCons (mBin idxD (mVar 0) (mC (.int 0))) (mNil))) (mVar 1)) (gSet 6))
    (sSeq (sAsg (mBin fdivD (mCall intD (mCons (mBin idxD (mVar 0) (mC (.int 0))) (mNil))) (mVar 1)) (gSubD (mVar 0) (mC (.int 0)) setF))
    (sRet (mVar 6)))) (sNil))
    (sSeq (sAsg (mBin modD (mCall intD (mCons (mBin mulD (mBin addA (mBin idxD (mVar 0) (mC (.int 1))) (mC (.int 1))) (mC (.int 39373))) (mNil))) (mC (.int 1000000007))) (gSet 2))
    (sSeq (sAsg (mBin modD (mCall intD (mCons (mBin mulD (mBin modD (mCall intD (mCons (mBin mulD (mVar 2) (mVar 2)) (mNil))) (mC (.int 998244353))) (mC (.int 30011))) (mNil))) (mC (.int 998244353))) (gSet 3))
    (sRet (mBin modD (mCall intD (mCons (mBin fdivD (mVar 3) (mC (.int 7))) (mNil))) (mVar 1))))))
def f_l_take : FS := runF 7 b_l_take
def b_l_alike : MS := sRet (vAnd (mBin (eqA false) (mVar 0) (mVar 1)) (mBin (eqA false) (mCall reprD (mCons (mVar 0) (mNil))) (mCall reprD (mCons (mVar 1) (mNil)))))
def f_l_alike : FS := runF 2 b_l_alike
def L_l_steps_1 : MS := sExpr (mMt extendF (mVar 2) (mCons (mBin repL (mCall lstF (mCons (mBin addA (mBin addA (mSl (mVar 1) (oNo) (oYes (mVar 3))) (mCall tupF (mCons (mVar 5) (mNil)))) (mSl (mVar 1) (oYes (mBin addA (mVar 3) (mC (.int 1)))) (oNo))) (mNil))) (mCall intD (mCons (mBin (eqA false) (mVar 4) (mBin idxD (mVar 1) (mVar 3))) (mNil)))) (mNil)))
def L_l_steps_2 : MS := sFor (iSeq (mBin idxD (mBin idxD (mVar 0) (mVar 3)) (mC (.int 1)))) (gTupD 2 (gsCons (gSet 4) (gsCons (gSet 5) (gsNil)))) (L_l_steps_1)
def b_l_steps : MS := sSeq (sAsg (mCall lstB (mNil)) (gSet 2))
    (sSeq (sFor (iRng1D (mCons (mCall lenD (mCons (mVar 0) (mNil))) (mNil))) (gSet 3) (L_l_steps_2))
    (sRet (mCall sortedD (mCons (mVar 2) (mNil)))))
def f_l_steps : FS := runF 6 b_l_steps
def L_l_least_way_1 : MS := sIf (tAndD (tOf (mBin (dinF true) (mVar 8) (mVar 4))) (tOrD (tOf (mBin (eqA false) (mVar 8) (mVar 2))) (tOf (mBin (inA true) (mVar 8) (mVar 3))))) (sSeq (sAsg (mBin addA (mBin dgetF (mVar 4) (mVar 7)) (mCall tupF (mCons (mVar 8) (mNil)))) (gSubD (mVar 4) (mVar 8) dputF))
    (sExpr (mMt appendF (mVar 6) (mCons (mVar 8) (mNil))))) (sNil)
def L_l_least_way_2 : MS := sIf (tOrD (tOf (mBin (eqA false) (mVar 7) (mVar 1))) (tOf (mBin (inA true) (mVar 7) (mVar 3)))) (sFor (iSeq (mBin dgetF (mVar 0) (mVar 7))) (gSet 8) (L_l_least_way_1)) (sNil)
def b_l_least_way : MS := sSeq (sPar 4 5 (mCons (mDisp1 (mVar 1) (mCall tupF (mCons (mVar 1) (mNil)))) (mCons (mCall lstF (mCons (mVar 1) (mNil))) mNil)))
    (sSeq (whileL (tAndD (tOf (mBin (eqA true) (mVar 5) (mCall lstF (mNil)))) (tOf (mBin (dinF true) (mVar 2) (mVar 4)))) (sSeq (sAsg (mCall lstB (mNil)) (gSet 6))
    (sSeq (sFor (iSeq (mVar 5)) (gSet 7) (L_l_least_way_2))
    (sAsg (mFrz (mVar 6)) (gSet 5)))) FUEL)
    (sRet (mGet2' (mVar 4) (mVar 2) (mC .none))))
def f_l_least_way : FS := runF 9 b_l_least_way
def L_l_flat_1 : MS := sExpr (mMt extendF (mVar 1) (mCons (mVar 2) (mNil)))
def b_l_flat : MS := sSeq (sAsg (mCall lstB (mNil)) (gSet 1))
    (sSeq (sFor (iSeq (mVar 0)) (gSet 2) (L_l_flat_1))
    (sRet (mFrz (mVar 1))))
def f_l_flat : FS := runF 3 b_l_flat
def L_steps_left_1 : MS := sIf (tOf (mBin (dinF true) (mVar 7) (mVar 4))) (sSeq (sAsg (mBin addA (mBin dgetF (mVar 4) (mVar 6)) (mC (.int 1))) (gSubD (mVar 4) (mVar 7) dputF))
    (sExpr (mMt appendF (mVar 5) (mCons (mVar 7) (mNil))))) (sNil)
def L_steps_left_2 : MS := sFor (iSeq (mCall (callF f_steps_to) (mCons (mVar 0) (mCons (mVar 6) (mNil))))) (gSet 7) (L_steps_left_1)
def b_steps_left : MS := sSeq (sPar 4 3 (mCons (mDisp1 (mVar 1) (mC (.int 0))) (mCons (mCall lstF (mCons (mVar 1) (mNil))) mNil)))
    (sSeq (whileL (tTru (mVar 3)) (sSeq (sAsg (mCall lstB (mNil)) (gSet 5))
    (sSeq (sFor (iSeq (mLc (iSeq (mVar 3)) (gSet 8) (tOrD (tOf (mBin (eqA false) (mVar 8) (mVar 1))) (tOf (mBin (dinF true) (mVar 8) (mVar 2)))) (mVar 8) [8] kFrz)) (gSet 6) (L_steps_left_2))
    (sAsg (mFrz (mVar 5)) (gSet 3)))) FUEL)
    (sRet (mVar 4)))
def f_steps_left : FS := runF 9 b_steps_left
def b_l_some : MS := sRet (mBin idxD (mVar 1) (mCall (callF f_l_take) (mCons (mVar 0) (mCons (mCall lenD (mCons (mVar 1) (mNil))) (mNil)))))
def f_l_some : FS := runF 2 b_l_some
def L_l_mixed_1 : MS := sExpr (mMt insertF (mVar 2) (mCons (mCall (callF f_l_take) (mCons (mVar 0) (mCons (mBin addA (mCall lenD (mCons (mVar 2) (mNil))) (mC (.int 1))) (mNil)))) (mCons (mVar 3) (mNil))))
def b_l_mixed : MS := sSeq (sAsg (mCall lstB (mNil)) (gSet 2))
    (sSeq (sFor (iSeq (mVar 1)) (gSet 3) (L_l_mixed_1))
    (sRet (mFrz (mVar 2))))
def f_l_mixed : FS := runF 4 b_l_mixed
def L_l_contents_1 : MS := sAsg (mCall (callF f_l_flat) (mCons (mLc (iSeq (mVar 1)) (gSet 3) (tTrue) (mLc (iRng1D (mCons (mBin idxD (mVar 2) (mC (.int 0))) (mNil))) (gSet 4) (tTrue) (mBin addA (mVar 3) (mCall tupF (mCons (mVar 4) (mNil)))) [4] kFrz) [3] kFrz) (mNil))) (gSet 1)
def b_l_contents : MS := sSeq (sAsg (mCall lstF (mCons (mCall tupF (mNil)) (mNil))) (gSet 1))
    (sSeq (sFor (iSeq (mVar 0)) (gSet 2) (L_l_contents_1))
    (sRet (mVar 1)))
def f_l_contents : FS := runF 5 b_l_contents
def b_shortest_way : MS := sSeq (sAsg (mCall (callF f_steps_left) (mCons (mVar 0) (mCons (mVar 2) (mCons (mDc (iSeq (mVar 3)) (gSet 8) (tTrue) (mVar 8) (mC (.bool true)) [8]) (mNil))))) (gSet 4))
    (sSeq (sIf (tOf (mBin (dinF true) (mVar 1) (mVar 4))) (sRet (mC .none)) (sNil))
    (sSeq (sAsg (mCall tupF (mCons (mVar 1) (mNil))) (gSet 5))
    (sSeq (whileL (tOf (mBin (eqA true) (mBin idxD (mVar 5) (mNeg (mC (.int 1)))) (mVar 2))) (sSeq (sAsg (mBin idxD (mVar 5) (mNeg (mC (.int 1)))) (gSet 6))
    (sSeq (sAsg (mLc (iSeq (mCall (callF f_steps_from) (mCons (mVar 0) (mCons (mVar 6) (mNil))))) (gSet 8) (tOf (mBin (eqA false) (mGet1' (mVar 4) (mVar 8)) (mBin subD (mBin dgetF (mVar 4) (mVar 6)) (mC (.int 1))))) (mVar 8) [8] kFrz) (gSet 7))
    (sAug 5 iaddT (mCall tupF (mCons (mCall minLD (mCons (mLc (iSeq (mVar 7)) (gSet 8) (tOrD (tOf (mBin (eqA false) (mVar 8) (mVar 2))) (tOf (mBin (inA true) (mVar 8) (mVar 3)))) (mVar 8) [8] kFrz) (mNil))) (mNil)))))) FUEL)
    (sRet (mVar 5)))))
def f_shortest_way : FS := runF 9 b_shortest_way
def b_distance : MS := sRet (mGet1' (mCall (callF f_steps_left) (mCons (mVar 0) (mCons (mVar 2) (mCons (mDc (iSeq (mVar 3)) (gSet 4) (tTrue) (mVar 4) (mC (.bool true)) [4]) (mNil))))) (mVar 1))
def f_distance : FS := runF 5 b_distance
def b_l_place : MS := sSeq (sAsg (mBin addA (mC (.int 2)) (mCall (callF f_l_take) (mCons (mVar 0) (mCons (mBin subD (mVar 1) (mC (.int 1))) (mNil))))) (gSet 2))
    (sSeq (sAsg (mCall (callF f_l_some) (mCons (mVar 0) (mCons (mCall lstF (mCons (mC (.int 0)) (mCons (mC (.int 0)) (mCons (mC (.int 0)) (mCons (mC (.int 2)) (mCons (mC (.int 2)) (mCons (mC (.int 4)) (mCons (mC (.int 4)) (mCons (mC (.int 2)) (mCons (mC (.int 5)) (mCons (mC (.int 6)) (mCons (mC (.int 7)) (mNil))))))))))))) (mNil)))) (gSet 3))
    (sSeq (sAsg (mCall (callF f_l_flat) (mCons (mLc (iRng1D (mCons (mVar 2) (mNil))) (gSet 5) (tTrue) (mLc (iRng1D (mCons (mVar 2) (mNil))) (gSet 6) (tOf (mBin (eqA true) (mVar 6) (mVar 5))) (mCall tupF (mCons (mVar 5) (mCons (mVar 6) (mNil)))) [6] kFrz) [5] kFrz) (mNil))) (gSet 4))
    (sSeq (sIf (tOf (mBin ltD (mVar 3) (mC (.int 2)))) (sRet (mCall tupF (mCons (mVar 2) (mCons (mCall tupleD (mCons (mVar 4) (mNil))) (mNil))))) (sNil))
    (sSeq (sIf (tOrD (tOf (mBin ltD (mVar 3) (mC (.int 4)))) (tAndD (tOf (mBin (eqA false) (mVar 3) (mC (.int 4)))) (tOf (mBin ltD (mVar 2) (mC (.int 3)))))) (sRet (mCall tupF (mCons (mVar 2) (mCons (mCall tupleD (mCons (mLc (iSeq (mVar 4)) (gTupD 2 (gsCons (gSet 5) (gsCons (gSet 6) (gsNil)))) (tOf (mBin (inA false) (mBin subD (mVar 5) (mVar 6)) (mCall tupF (mCons (mC (.int 1)) (mCons (mNeg (mC (.int 1))) (mNil)))))) (mCall tupF (mCons (mVar 5) (mCons (mVar 6) (mNil)))) [5, 6] kFrz) (mNil))) (mNil))))) (sNil))
    (sSeq (sIf (tOf (mBin (eqA false) (mVar 3) (mC (.int 4)))) (sRet (mCall tupF (mCons (mVar 2) (mCons (mCall tupleD (mCons (mLc (iSeq (mVar 4)) (gTupD 2 (gsCons (gSet 5) (gsCons (gSet 6) (gsNil)))) (tOf (mBin (inA false) (mBin modD (mCall intD (mCons (mBin subD (mVar 5) (mVar 6)) (mNil))) (mVar 2)) (mCall tupF (mCons (mC (.int 1)) (mCons (mBin subD (mVar 2) (mC (.int 1))) (mNil)))))) (mCall tupF (mCons (mVar 5) (mCons (mVar 6) (mNil)))) [5, 6] kFrz) (mNil))) (mNil))))) (sNil))
    (sSeq (sIf (tOf (mBin (inA false) (mVar 3) (mCall tupF (mCons (mC (.int 5)) (mCons (mC (.int 7)) (mNil)))))) (sRet (mCall tupF (mCons (mVar 2) (mCons (mCall tupleD (mCons (mLc (iSeq (mVar 4)) (gTupD 2 (gsCons (gSet 5) (gsCons (gSet 6) (gsNil)))) (tAndD (tOf (mBin ltD (mVar 5) (mVar 6))) (tOrD (tOf (mBin (eqA false) (mVar 3) (mC (.int 5)))) (tOf (mBin (eqA false) (mVar 6) (mBin addA (mVar 5) (mC (.int 1))))))) (mCall tupF (mCons (mVar 5) (mCons (mVar 6) (mNil)))) [5, 6] kFrz) (mNil))) (mNil))))) (sNil))
    (sRet (mCall tupF (mCons (mVar 2) (mCons (mCall tupleD (mCons (mCall sortedD (mCons (mSl (mCall (callF f_l_mixed) (mCons (mVar 0) (mCons (mVar 4) (mNil)))) (oNo) (oYes (mCall (callF f_l_take) (mCons (mVar 0) (mCons (mBin addA (mCall lenD (mCons (mVar 4) (mNil))) (mC (.int 1))) (mNil)))))) (mNil))) (mNil))) (mNil)))))))))))
def f_l_place : FS := runF 7 b_l_place
def b_l_graph : MS := sRet (mCall dictP (mCons (mLc (iSeq (mCall (callF f_l_contents) (mCons (mVar 0) (mNil)))) (gSet 1) (tTrue) (mCall tupF (mCons (mVar 1) (mCons (mCall (callF f_l_steps) (mCons (mVar 0) (mCons (mVar 1) (mNil)))) (mNil)))) [1] kFrz) (mNil)))
def f_l_graph : FS := runF 2 b_l_graph
def b_l_drawn_contents : MS := sSeq (sAsg (mCall (callF f_l_take) (mCons (mVar 0) (mCons (mC (.int 4)) (mNil)))) (gSet 2))
    (sSeq (sIf (tOf (mBin (eqA false) (mVar 2) (mC (.int 0)))) (sRet (mCall lstF (mNil))) (sNil))
    (sRet (mCall (callF f_l_mixed) (mCons (mVar 0) (mCons (mLc (iSeq (mVar 1)) (gSet 3) (tOf (mBin (eqA false) (mCall (callF f_l_take) (mCons (mVar 0) (mCons (mBin addA (mC (.int 1)) (mVar 2)) (mNil)))) (mC (.int 0)))) (mVar 3) [3] kFrz) (mNil))))))
def f_l_drawn_contents : FS := runF 4 b_l_drawn_contents
def L_l_bench_1 : MS := sIf (tOf (mBin leD (mBin mulD (mVar 4) (mC (.int 2))) (mVar 1))) (sSeq (sExpr (mMt appendF (mVar 3) (mCons (mCall (callF f_l_place) (mCons (mVar 0) (mCons (mCall min2D (mCons (mCall (callF f_l_some) (mCons (mVar 0) (mCons (mCall lstF (mCons (mC (.int 6)) (mCons (mC (.int 4)) (mCons (mC (.int 3)) (mCons (mC (.int 3)) (mCons (mC (.int 2)) (mNil))))))) (mNil)))) (mCons (mBin fdivD (mVar 1) (mVar 4)) (mNil)))) (mNil)))) (mNil))))
    (sAsg (mBin mulD (mVar 4) (mBin idxD (mBin idxD (mVar 3) (mNeg (mC (.int 1)))) (mC (.int 0)))) (gSet 4))) (sNil)
def b_l_bench : MS := sSeq (sPar 3 4 (mCons (mCall lstB (mNil)) (mCons (mC (.int 1)) mNil)))
    (sSeq (sFor (iRng1D (mCons (mCall (callF f_l_some) (mCons (mVar 0) (mCons (mCall lstF (mCons (mC (.int 1)) (mCons (mC (.int 2)) (mCons (mC (.int 2)) (mCons (mC (.int 3)) (mCons (mC (.int 3)) (mCons (mC (.int 4)) (mCons (mC (.int 5)) (mNil))))))))) (mNil)))) (mNil))) (gSet 2) (L_l_bench_1))
    (sRet (mCall tupleD (mCons (mVar 3) (mNil)))))
def f_l_bench : FS := runF 5 b_l_bench
def L_law_1 : MS := sSeq (sAsg (mBin addA (mVar 10) (mSl (mVar 10) (oNo) (oYes (mCall (callF f_l_take) (mCons (mVar 1) (mCons (mC (.int 2)) (mNil))))))) (gSet 12))
    (sSeq (sAsg (vIf (tOf (mBin (eqA false) (mCall (callF f_l_take) (mCons (mVar 1) (mCons (mC (.int 2)) (mNil)))) (mC (.int 0)))) (mCall tupleD (mCons (mVar 12) (mNil))) (mCall listD (mCons (mVar 12) (mNil)))) (gSet 13))
    (sSeq (sPar 15 16 (mCons (mCall (callF f_l_least_way) (mCons (mVar 4) (mCons (mVar 8) (mCons (mVar 9) (mCons (mVar 10) (mNil)))))) (mCons (mCall reprD (mCons (mVar 13) (mNil))) mNil)))
    (sSeq (sAsg (mCall lstF (mCons (mCall (callF f_shortest_way) (mCons (mVar 3) (mCons (mVar 8) (mCons (mVar 9) (mCons (mVar 13) (mNil)))))) (mCons (mCall (callF f_distance) (mCons (mVar 3) (mCons (mVar 8) (mCons (mVar 9) (mCons (mVar 13) (mNil)))))) (mNil)))) (gSet 14))
    (sSeq (sIf (tOrD (tNotD (tTru (mCall (callF f_l_alike) (mCons (mVar 14) (mCons (mCall lstF (mCons (mVar 15) (mCons (vIf (tOf (mBin (isND false) (mVar 15) (mC .none))) (mC .none) (mBin subD (mCall lenD (mCons (mVar 15) (mNil))) (mC (.int 1)))) (mNil)))) (mNil)))))) (tOf (mBin (eqA true) (mCall reprD (mCons (mVar 13) (mNil))) (mVar 16)))) (sRet (mC (.bool false))) (sNil))
    (sSeq (sIf (tAndD (tOf (mBin (isND true) (mVar 11) (mC .none))) (tOrD (tOf (mBin (isND false) (mVar 15) (mC .none))) (tOf (mBin gtD (mCall lenD (mCons (mVar 15) (mNil))) (mVar 11))))) (sRet (mC (.bool false))) (sNil))
    (sSeq (sIf (tOf (mBin (isND true) (mVar 15) (mC .none))) (sSeq (sPar 11 17 (mCons (mCall lenD (mCons (mVar 15) (mNil))) (mCons (mCall (callF f_l_take) (mCons (mVar 1) (mCons (mCall lenD (mCons (mVar 15) (mNil))) (mNil)))) mNil)))
    (sIf (tNotD (tTru (mCall (callF f_l_alike) (mCons (mCall (callF f_shortest_way) (mCons (mVar 3) (mCons (mBin idxD (mVar 15) (mVar 17)) (mCons (mVar 9) (mCons (mVar 13) (mNil)))))) (mCons (mSl (mVar 15) (oYes (mVar 17)) (oNo)) (mNil)))))) (sRet (mC (.bool false))) (sNil))) (sNil))
    (sAsg (mSl (mVar 10) (oYes (mC (.int 1))) (oNo)) (gSet 10))))))))
def L_law_2 : MS := sSeq (sPar 8 9 (mCons (mCall (callF f_l_some) (mCons (mVar 1) (mCons (mVar 5) (mNil)))) (mCons (mCall (callF f_l_some) (mCons (mVar 1) (mCons (mVar 5) (mNil)))) mNil)))
    (sSeq (sPar 10 11 (mCons (mCall (callF f_l_drawn_contents) (mCons (mVar 1) (mCons (mVar 5) (mNil)))) (mCons (mC .none) mNil)))
    (sSeq (sIf (tOf (mBin (eqA false) (mCall (callF f_l_take) (mCons (mVar 1) (mCons (mC (.int 3)) (mNil)))) (mC (.int 0)))) (sAsg (mSl (mCall listD (mCons (vOrT (mCall (callF f_l_least_way) (mCons (mVar 4) (mCons (mVar 8) (mCons (mVar 9) (mCons (mCall lstF (mNil)) (mNil)))))) (mCall lstF (mNil))) (mNil))) (oYes (mCall (callF f_l_take) (mCons (mVar 1) (mCons (mC (.int 3)) (mNil))))) (oNo)) (gSet 10)) (sNil))
    (sFor (iRng1D (mCons (mC (.int 4)) (mNil))) (gSet 7) (L_law_1))))
def L_law_3 : MS := sSeq (sAsg (mCall (callF f_l_bench) (mCons (mVar 1) (mCons (mC (.int 36)) (mNil)))) (gSet 3))
    (sSeq (sAsg (mCall (callF f_l_graph) (mCons (mVar 3) (mNil))) (gSet 4))
    (sSeq (sAsg (mCall sortedKD (mCons (mVar 4) (mNil))) (gSet 5))
    (sFor (iRng1D (mCons (mC (.int 5)) (mNil))) (gSet 6) (L_law_2))))
def b_law : MS := sSeq (sAsg (mCall (callF f_l_bag) (mCons (mVar 0) (mNil))) (gSet 1))
    (sSeq (sFor (iRng1D (mCons (mC (.int 3)) (mNil))) (gSet 2) (L_law_3))
    (sRet (mC (.bool true))))
def f_law : FS := runF 18 b_law
end K17
end
noncomputable section
namespace K17
open PySem PySem.Spec PyProof.Rows L2 DL
abbrev Mv := Int × Int
abbrev Pl := Nat × List Mv
def mv (m : Mv) : PyData := .tuple [.int m.1, .int m.2]
def pl (p : Pl) : PyData := .tuple [.int (p.1 : Nat), .tuple (p.2.map mv)]
def bn (b : List Pl) : PyData := .tuple (b.map pl)
structure GoodP (p : Pl) : Prop where
  lo : 2 ≤ p.1
  hi : p.1 ≤ 6
  len : p.2.length ≤ 36
  mv : ∀ m ∈ p.2, (0 ≤ m.1 ∧ m.1 < p.1) ∧ (0 ≤ m.2 ∧ m.2 < p.1)
  asc : p.2.Pairwise fun a b => ltC (cI [a.1, a.2]) (cI [b.1, b.2]) = true
  irr : ∀ m ∈ p.2, m.1 ≠ m.2
structure Good (b : List Pl) : Prop where
  ne : b ≠ []
  len : b.length ≤ 5
  pl : ∀ p ∈ b, GoodP p
def ext1 (acc : List (List Int)) (n : Nat) : List (List Int) := (acc.map fun c => (List.range n).map fun v : Nat => c ++ [(v : Int)]).flatten
def conts (b : List Pl) : List (List Int) := b.foldl (fun acc p => ext1 acc p.1) [[]]
theorem conts_snoc (b : List Pl) (p : Pl) : conts (b ++ [p]) = ext1 (conts b) p.1 := by simp [conts, List.foldl_append]
def Fits : List Int → List Pl → Prop
  | [], [] => True
  | x :: c, p :: b => (0 ≤ x ∧ x < p.1) ∧ Fits c b
  | _, _ => False
theorem fits_len : ∀ {c : List Int} {b : List Pl}, Fits c b → c.length = b.length
  | [], [], _ => rfl
  | x :: c, p :: b, h => by simp [fits_len h.2]
  | [], _ :: _, h => h.elim
  | _ :: _, [], h => h.elim
theorem fits_set : ∀ {c : List Int} {b : List Pl} {k : Nat} {p : Pl} {w : Int}, Fits c b → b[k]? = some p → 0 ≤ w → w < p.1 → Fits (c.set k w) b
  | x :: c, q :: b, 0, p, w, h, e, h0, h1 => by
    simp at e; subst e
    exact ⟨⟨h0, h1⟩, h.2⟩
  | x :: c, q :: b, k + 1, p, w, h, e, h0, h1 => ⟨h.1, fits_set h.2 (by simpa using e) h0 h1⟩
  | [], [], _, _, _, _, e, _, _ => by simp at e
  | [], _ :: _, _, _, _, h, _, _, _ => h.elim
  | _ :: _, [], _, _, _, h, _, _, _ => h.elim
theorem fits_snoc : ∀ {c : List Int} {b : List Pl} {x : Int} {p : Pl}, c.length = b.length → (Fits (c ++ [x]) (b ++ [p]) ↔ Fits c b ∧ 0 ≤ x ∧ x < p.1)
  | [], [], x, p, _ => by simp [Fits]
  | y :: c, q :: b, x, p, h => by
    have := fits_snoc (c := c) (b := b) (x := x) (p := p) (by simpa using h)
    simp only [List.cons_append, Fits, this]
    constructor
    · rintro ⟨a, b, c⟩; exact ⟨⟨a, b⟩, c⟩
    · rintro ⟨⟨a, b⟩, c⟩; exact ⟨a, b, c⟩
  | [], _ :: _, _, _, h => by simp at h
  | _ :: _, [], _, _, h => by simp at h
theorem snoc_ex {α : Type} : ∀ {b : List α}, b ≠ [] → ∃ b' p, b = b' ++ [p] := fun {b} h => ⟨b.dropLast, b.getLast h, (List.dropLast_concat_getLast h).symm⟩
theorem mem_ext1 {acc : List (List Int)} {n : Nat} {d : List Int} : d ∈ ext1 acc n ↔ ∃ c ∈ acc, ∃ x : Int, d = c ++ [x] ∧ 0 ≤ x ∧ x < n := by
  unfold ext1
  rw [List.mem_flatten]
  constructor
  · rintro ⟨l, hl, hd⟩
    obtain ⟨c, hc, rfl⟩ := List.mem_map.mp hl
    obtain ⟨v, hv, rfl⟩ := List.mem_map.mp hd
    have := List.mem_range.mp hv
    exact ⟨c, hc, v, rfl, by omega, by omega⟩
  · rintro ⟨c, hc, x, rfl, h0, h1⟩
    refine ⟨_, List.mem_map.mpr ⟨c, hc, rfl⟩, List.mem_map.mpr ⟨x.toNat, List.mem_range.mpr (by omega), ?_⟩⟩
    rw [Int.toNat_of_nonneg h0]
theorem mem_conts (n : Nat) : ∀ {b : List Pl} {c : List Int}, b.length = n → (c ∈ conts b ↔ Fits c b) := by
  induction n with
  | zero =>
    intro b c h
    have : b = [] := List.eq_nil_of_length_eq_zero h
    subst this
    simp only [conts, List.foldl_nil, List.mem_singleton]
    constructor
    · rintro rfl; exact True.intro
    · intro h2; exact List.eq_nil_of_length_eq_zero (fits_len h2)
  | succ n ih =>
    intro b c h
    obtain ⟨b', p, rfl⟩ := snoc_ex (b := b) (by rintro rfl; simp at h)
    have hb : b'.length = n := by simpa using h
    rw [conts_snoc, mem_ext1]
    constructor
    · rintro ⟨c', hc, x, rfl, h0, h1⟩
      have hf := (ih hb).mp hc
      exact (fits_snoc (fits_len hf)).mpr ⟨hf, h0, h1⟩
    · intro hf
      have hl := fits_len hf
      obtain ⟨c', x, rfl⟩ := snoc_ex (b := c) (by rintro rfl; simp at hl)
      obtain ⟨h1, h2, h3⟩ := (fits_snoc (by simpa using hl)).mp hf
      exact ⟨c', (ih hb).mpr h1, x, rfl, h2, h3⟩
theorem conts_nodup (n : Nat) : ∀ {b : List Pl}, b.length = n → (conts b).Nodup := by
  induction n with
  | zero =>
    intro b h
    have : b = [] := List.eq_nil_of_length_eq_zero h
    subst this
    simp [conts]
  | succ n ih =>
    intro b h
    obtain ⟨b', p, rfl⟩ := snoc_ex (b := b) (by rintro rfl; simp at h)
    have hb : b'.length = n := by simpa using h
    rw [conts_snoc]
    unfold ext1
    unfold List.Nodup
    rw [List.pairwise_flatten]
    refine ⟨fun l hl => ?_, ?_⟩
    · obtain ⟨c, hc, rfl⟩ := List.mem_map.mp hl
      refine List.Pairwise.map _ (R := fun a b => a ≠ b) (fun a b hab e => hab ?_) List.nodup_range
      have := List.append_inj_right' e rfl
      simp at this; omega
    · refine List.Pairwise.map _ (R := fun a b => a ≠ b) (fun a b hab => ?_) (ih hb)
      intro x h1 y h2 e
      obtain ⟨v, _, rfl⟩ := List.mem_map.mp h1
      obtain ⟨u, _, rfl⟩ := List.mem_map.mp h2
      exact hab (List.append_inj_left' e rfl)
theorem ext1_len (acc : List (List Int)) (n : Nat) : (ext1 acc n).length = acc.length * n := by
  unfold ext1
  induction acc with
  | nil => simp
  | cons a l ih => simp only [List.map_cons, List.flatten_cons, List.length_append, List.length_map, List.length_range, ih, List.length_cons]; rw [Nat.succ_mul, Nat.add_comm]
theorem conts_len (n : Nat) : ∀ {b : List Pl}, b.length = n → (∀ p ∈ b, p.1 ≤ 6) → (conts b).length ≤ 6 ^ n := by
  induction n with
  | zero =>
    intro b h _
    have : b = [] := List.eq_nil_of_length_eq_zero h
    subst this
    simp [conts]
  | succ n ih =>
    intro b h hp
    obtain ⟨b', p, rfl⟩ := snoc_ex (b := b) (by rintro rfl; simp at h)
    have hb : b'.length = n := by simpa using h
    rw [conts_snoc, ext1_len, Nat.pow_succ]
    exact Nat.mul_le_mul (ih hb fun q hq => hp q (by simp [hq])) (hp p (by simp))
theorem Good.take {b : List Pl} (g : Good b) (i : Nat) : (conts (b.take i)).length ≤ 7776 :=
  Nat.le_trans (conts_len (b.take i).length rfl fun p hp => (g.pl p (List.mem_of_mem_take hp)).hi) (Nat.pow_le_pow_right (n := 6) (by decide) (Nat.le_trans (by rw [List.length_take]; omega) g.len))
def part (c : List Int) (k : Nat) (p : Pl) : List (List Int) := (p.2.filter fun m => decide (m.1 = c.getD k 0)).map fun m => c.set k m.2
def stp (c : List Int) : Nat → List Pl → List (List Int)
  | _, [] => []
  | k, p :: b => part c k p ++ stp c (k + 1) b
theorem stp_mem {c d : List Int} : ∀ {k : Nat} {b : List Pl}, d ∈ stp c k b → ∃ i p m, b[i]? = some p ∧ m ∈ p.2 ∧ d = c.set (k + i) m.2
  | _, [], h => by simp [stp] at h
  | k, p :: b, h => by
    rcases List.mem_append.mp h with h | h
    · obtain ⟨m, hm, rfl⟩ := List.mem_map.mp h
      exact ⟨0, p, m, rfl, (List.mem_filter.mp hm).1, rfl⟩
    · obtain ⟨i, q, m, h1, h2, h3⟩ := stp_mem h
      exact ⟨i + 1, q, m, by simpa using h1, h2, by rw [h3, show k + 1 + i = k + (i + 1) by omega]⟩
theorem stp_fits {b : List Pl} {c d : List Int} (g : Good b) (hc : Fits c b) (h : d ∈ stp c 0 b) : Fits d b := by
  obtain ⟨i, p, m, h1, h2, rfl⟩ := stp_mem h
  have := ((g.pl p (List.mem_of_getElem? h1)).mv m h2).2
  rw [Nat.zero_add]
  exact fits_set hc h1 this.1 this.2
end K17
end
noncomputable section
namespace K17
open PySem PySem.Spec PyProof.Rows L2 DL
theorem e_take : f_l_take = fTake := rfl
theorem e_some : f_l_some = fSome := rfl
theorem e_flat : f_l_flat = fFlat := rfl
theorem e_mixed : f_l_mixed = fMixed := rfl
theorem rng_e (n : Nat) : rngD 0 n = ((List.range n).map fun v : Nat => PyData.int v).map W.d := by
  unfold rngD
  rw [List.map_map]
  refine List.map_congr_left fun v _ => ?_
  simp
theorem sz_of {n : Nat} (h : n ≤ 1000000) : n ≤ sizeLine := Nat.le_trans h (by decide)
theorem take_snoc {α : Type} {b : List α} {i : Nat} {p : α} (h : b[i]? = some p) : b.take (i + 1) = b.take i ++ [p] := by rw [List.take_succ, h]; rfl
theorem cut_take {α : Type} (xs : List α) (k : Nat) : DL.cutD xs none (some (k : Int)) = xs.take k := by
  have h : HT.sIx xs.length 0 none = 0 := rfl
  unfold DL.cutD
  rw [h, HT.sIx_nat, List.drop_zero, Nat.sub_zero]
  by_cases hk : k ≤ xs.length
  · rw [Nat.min_eq_left hk]
  · rw [Nat.min_eq_right (by omega), List.take_length, List.take_of_length_le (by omega)]
end K17
end
noncomputable section
namespace K17
open PySem PySem.Spec PyProof.Rows L2 DL
end K17
end
noncomputable section
namespace K17
open PySem PySem.Spec PyProof.Rows L2 DL
def kc (c : List Int) : List Key := c.map Sum.inl
def every (n : Nat) : List Mv := ((List.range n).map fun v : Nat => ((List.range n).filter fun w : Nat => !decide (w = v)).map fun w : Nat => ((v : Int), (w : Int))).flatten
abbrev SM (a b : Mv) : Prop := ltC (cI [a.1, a.2]) (cI [b.1, b.2]) = true
theorem lex_SM {a b : Mv} (h : a.1 < b.1 ∨ a.1 = b.1 ∧ a.2 < b.2) : SM a b := by
  have e : cmpC (cI [a.1, a.2]) (cI [b.1, b.2]) = .lt := by
    simp only [cI, List.map_cons, List.map_nil, cmpC, cmpCs]
    rcases h with h | ⟨h, k⟩
    · rw [cmpI2_lt.mpr h]
    · rw [cmpI2_eq.mpr h, cmpI2_lt.mpr k]
  exact ltC_iff.mpr e
theorem cI_inj0 {a b : List Int} (h : cI a = cI b) : a = b := by
  have : a.map Cd.int = b.map Cd.int := by injection h
  exact (List.map_inj_right (fun x y e => by injection e)).mp this
theorem sortT_asc {l r : List (List Int)} (hr : r.Perm l) (e : sortT l = r.map tI) (hn : l.Nodup) : r.Pairwise fun x y => ltC (cI x) (cI y) = true := by
  obtain ⟨r2, hr2, e2⟩ := perm_map_ex (sortC_perm (l.map cI))
  have h2 : sortT l = r2.map tI := by
    unfold sortT
    rw [e2, toPs_map, List.map_map]
    exact List.map_congr_left fun a ha => (ofP_eq _ _ (ofP_tI a)).symm
  have h3 : r = r2 := by
    have := e.symm.trans h2
    refine (List.map_inj_right (fun x y z => ?_)).mp this
    have : x.map PyData.int = y.map PyData.int := by
      have z : PyData.tuple (x.map .int) = .tuple (y.map .int) := z
      injection z
    exact (List.map_inj_right (fun x y e => by injection e)).mp this
  subst h3
  have hs := sortC_srtd (l.map cI)
  rw [e2, List.pairwise_map] at hs
  have hn2 : r.Nodup := hr.nodup_iff.mpr hn
  refine (List.Pairwise.and hn2 hs).imp fun {x y} ⟨h1, h2⟩ => ?_
  rcases ltC_tot h2 with c | c
  · exact absurd (cI_inj0 c).symm h1
  · exact c
theorem good_sub {n : Nat} {l : List Mv} (h1 : 2 ≤ n) (h2 : n ≤ 6) (hl : l.length ≤ 36) (h : ∀ m ∈ l, m ∈ every n) (ha : l.Pairwise SM) : GoodP (n, l) := by
  suffices k : ∀ m ∈ l, ((0 ≤ m.1 ∧ m.1 < (n : Int)) ∧ (0 ≤ m.2 ∧ m.2 < (n : Int))) ∧ m.1 ≠ m.2 from ⟨h1, h2, hl, fun m hm => (k m hm).1, ha, fun m hm => (k m hm).2⟩
  intro m hm
  have := h m hm
  unfold every at this
  obtain ⟨a, ha, hb⟩ := List.mem_flatten.mp this
  obtain ⟨v, hv, rfl⟩ := List.mem_map.mp ha
  obtain ⟨w, hw, rfl⟩ := List.mem_map.mp hb
  have := List.mem_range.mp hv
  have := List.mem_range.mp (List.mem_filter.mp hw).1
  have : ¬ w = v := by simpa using (List.mem_filter.mp hw).2
  simp only
  omega
theorem every_len {n : Nat} (h : n ≤ 6) : (every n).length ≤ 36 := by
  have : n = 0 ∨ n = 1 ∨ n = 2 ∨ n = 3 ∨ n = 4 ∨ n = 5 ∨ n = 6 := by omega
  rcases this with rfl | rfl | rfl | rfl | rfl | rfl | rfl <;> decide +kernel
theorem every_asc {n : Nat} (h : n ≤ 6) : (every n).Pairwise SM := by
  have k : (every n).Pairwise fun a b => a.1 < b.1 ∨ a.1 = b.1 ∧ a.2 < b.2 := by
    have : n = 0 ∨ n = 1 ∨ n = 2 ∨ n = 3 ∨ n = 4 ∨ n = 5 ∨ n = 6 := by omega
    rcases this with rfl | rfl | rfl | rfl | rfl | rfl | rfl <;> decide +kernel
  exact k.imp lex_SM
theorem every_nd {n : Nat} (h : n ≤ 6) : ((every n).map fun q => [q.1, q.2]).Nodup := by
  rw [List.nodup_iff_pairwise_ne, List.pairwise_map]
  exact (every_asc h).imp fun {a b} k e => by
    unfold SM at k
    rw [e, ltC_irr] at k; cases k
theorem mvs_tI (l : List Mv) : l.map mv = (l.map fun q => [q.1, q.2]).map tI := by rw [List.map_map]; rfl
theorem ev_in2 {i a b : Int} {S : Sto} : inA false (.d (.int i)) (.d (.tuple [.int a, .int b])) S = some (.d (.bool (decide (i ∈ [a, b]))), S) := ev_inI (xs := [a, b])
/-- [(v, w) for v, w in every if ..] -/
theorem pick_ok {l : List Mv} {T : MT} {P : Mv → Bool} {ρ : DEnv} {S : Sto} {z0 z1 z2 z3 z5 z6 : Option W} (hl : l.length ≤ 1000) (hρ : ρ = [z0, z1, z2, z3, some (.d (.list (l.map mv))), z5, z6])
    (hT : ∀ m ∈ l, T [z0, z1, z2, z3, some (.d (.list (l.map mv))), some (.d (.int m.1)), some (.d (.int m.2))] S = some (P m, S)) :
    mLc (iSeq (mVar 4)) (gTupD 2 (gsCons (gSet 5) (gsCons (gSet 6) (gsNil)))) T (mCall tupF (mCons (mVar 5) (mCons (mVar 6) (mNil)))) [5, 6] kFrz ρ S = some (.d (.list ((l.filter P).map mv)), S) := by
  subst hρ
  refine lc_e mv P mv (l := l) (by simp [iSeq, mVar]) (fun m hm => ⟨[z0, z1, z2, z3, some (.d (.list (l.map mv))), some (.d (.int m.1)), some (.d (.int m.2))], by simp [DL.sSeq, DL.sNil, DL.sPass, DL.sBreak, DL.sCont, DL.sExpr, DL.sRet, DL.sRetN, DL.sIf, DL.sAsg, DL.sPar, DL.sAug, DL.sAugS, DL.gSet, DL.gTupD, DL.gsNil, DL.gsCons, DL.gSubD, DL.sFor, DL.iRng1D_eq, DL.mVar, DL.mC, DL.mNil, DL.mCons, DL.mCall, DL.mBin, DL.mNeg, DL.mMt, DL.mSl, DL.oNo, DL.oYes, DL.tOf, DL.tNotD, DL.tAndD, DL.tOrD, DL.tTru, DL.truD, DL.tTrue, DL.vAnd, DL.vOr, DL.vNot, DL.vIf, DL.vChain, DL.tupF, DL.lstF, DL.allD, DL.ev_add, DL.ev_sub, DL.ev_iadd, DL.ev_isub, DL.ev_lt, DL.ev_gt, DL.ev_le, DL.ev_ge, DL.ev_eq, DL.ev_ne, DL.ev_min, DL.ev_max, DL.ev_int, DL.ev_abs, DL.sz1, DL.sz2, DL.sz3, DL.sz4, DL.sz5, DL.sz6, DL.sz7, DL.sz8, DL.szp, wipeD, mv], hT m hm, fun _ => by simp [DL.sSeq, DL.sNil, DL.sPass, DL.sBreak, DL.sCont, DL.sExpr, DL.sRet, DL.sRetN, DL.sIf, DL.sAsg, DL.sPar, DL.sAug, DL.sAugS, DL.gSet, DL.gTupD, DL.gsNil, DL.gsCons, DL.gSubD, DL.sFor, DL.iRng1D_eq, DL.mVar, DL.mC, DL.mNil, DL.mCons, DL.mCall, DL.mBin, DL.mNeg, DL.mMt, DL.mSl, DL.oNo, DL.oYes, DL.tOf, DL.tNotD, DL.tAndD, DL.tOrD, DL.tTru, DL.truD, DL.tTrue, DL.vAnd, DL.vOr, DL.vNot, DL.vIf, DL.vChain, DL.tupF, DL.lstF, DL.allD, DL.ev_add, DL.ev_sub, DL.ev_iadd, DL.ev_isub, DL.ev_lt, DL.ev_gt, DL.ev_le, DL.ev_ge, DL.ev_eq, DL.ev_ne, DL.ev_min, DL.ev_max, DL.ev_int, DL.ev_abs, DL.sz1, DL.sz2, DL.sz3, DL.sz4, DL.sz5, DL.sz6, DL.sz7, DL.sz8, DL.szp, mv]⟩) (Nat.le_trans (List.length_filter_le _ _) (sz_of (by omega)))
theorem every_ok {n : Nat} {z0 z1 z3 z4 z5 z6 : Option W} (hn : n ≤ 6) (S : Sto) :
    sAsg (mCall (callF f_l_flat) (mCons (mLc (iRng1D (mCons (mVar 2) (mNil))) (gSet 5) (tTrue) (mLc (iRng1D (mCons (mVar 2) (mNil))) (gSet 6) (tOf (mBin (eqA true) (mVar 6) (mVar 5))) (mCall tupF (mCons (mVar 5) (mCons (mVar 6) (mNil)))) [6] kFrz) [5] kFrz) (mNil))) (gSet 4) [z0, z1, some (.d (.int n)), z3, z4, z5, z6] S =
      some (.nx, [z0, z1, some (.d (.int n)), z3, some (.d (.list ((every n).map mv))), z5, z6], S) := by
  have hr := fun S => rng1_ok (n := n) (S := S) (by omega)
  have hi : ∀ (z5 z6 : Option W) S, iRng1D (mCons (mVar 2) (mNil)) [z0, z1, some (.d (.int n)), z3, z4, z5, z6] S = some (((List.range n).map fun v : Nat => PyData.int v).map W.d, S) := fun z5 z6 S => by
    rw [← rng_e, iRng1D_eq]
    simp [mCons, mVar, mNil, hr]
  have e := lc_e (it := iRng1D (mCons (mVar 2) (mNil))) (g := gSet 5) (T := tTrue) (E := mLc (iRng1D (mCons (mVar 2) (mNil))) (gSet 6) (tOf (mBin (eqA true) (mVar 6) (mVar 5))) (mCall tupF (mCons (mVar 5) (mCons (mVar 6) (mNil)))) [6] kFrz) (vs := [5]) (ρ := [z0, z1, some (.d (.int n)), z3, z4, z5, z6]) (S := S) (fun v : Nat => PyData.int v) (fun _ => true)
    (fun v => .list ((((List.range n).filter fun w : Nat => !decide (w = v)).map fun w : Nat => ((v : Int), (w : Int))).map mv)) (l := List.range n) (hi z5 z6 S) (fun v _ => by
      refine ⟨[z0, z1, some (.d (.int n)), z3, z4, some (.d (.int v)), z6], by simp [DL.sSeq, DL.sNil, DL.sPass, DL.sBreak, DL.sCont, DL.sExpr, DL.sRet, DL.sRetN, DL.sIf, DL.sAsg, DL.sPar, DL.sAug, DL.sAugS, DL.gSet, DL.gTupD, DL.gsNil, DL.gsCons, DL.gSubD, DL.sFor, DL.iRng1D_eq, DL.mVar, DL.mC, DL.mNil, DL.mCons, DL.mCall, DL.mBin, DL.mNeg, DL.mMt, DL.mSl, DL.oNo, DL.oYes, DL.tOf, DL.tNotD, DL.tAndD, DL.tOrD, DL.tTru, DL.truD, DL.tTrue, DL.vAnd, DL.vOr, DL.vNot, DL.vIf, DL.vChain, DL.tupF, DL.lstF, DL.allD, DL.ev_add, DL.ev_sub, DL.ev_iadd, DL.ev_isub, DL.ev_lt, DL.ev_gt, DL.ev_le, DL.ev_ge, DL.ev_eq, DL.ev_ne, DL.ev_min, DL.ev_max, DL.ev_int, DL.ev_abs, DL.sz1, DL.sz2, DL.sz3, DL.sz4, DL.sz5, DL.sz6, DL.sz7, DL.sz8, DL.szp, wipeD], rfl, fun _ => ?_⟩
      have := lc_e (it := iRng1D (mCons (mVar 2) (mNil))) (g := gSet 6) (T := tOf (mBin (eqA true) (mVar 6) (mVar 5))) (E := mCall tupF (mCons (mVar 5) (mCons (mVar 6) (mNil)))) (vs := [6]) (ρ := [z0, z1, some (.d (.int n)), z3, z4, some (.d (.int v)), z6]) (S := S) (fun w : Nat => PyData.int w) (fun w => !decide (w = v)) (fun w => mv ((v : Int), (w : Int))) (l := List.range n) (hi _ z6 S) (fun w _ => by
        refine ⟨[z0, z1, some (.d (.int n)), z3, z4, some (.d (.int v)), some (.d (.int w))], by simp [DL.sSeq, DL.sNil, DL.sPass, DL.sBreak, DL.sCont, DL.sExpr, DL.sRet, DL.sRetN, DL.sIf, DL.sAsg, DL.sPar, DL.sAug, DL.sAugS, DL.gSet, DL.gTupD, DL.gsNil, DL.gsCons, DL.gSubD, DL.sFor, DL.iRng1D_eq, DL.mVar, DL.mC, DL.mNil, DL.mCons, DL.mCall, DL.mBin, DL.mNeg, DL.mMt, DL.mSl, DL.oNo, DL.oYes, DL.tOf, DL.tNotD, DL.tAndD, DL.tOrD, DL.tTru, DL.truD, DL.tTrue, DL.vAnd, DL.vOr, DL.vNot, DL.vIf, DL.vChain, DL.tupF, DL.lstF, DL.allD, DL.ev_add, DL.ev_sub, DL.ev_iadd, DL.ev_isub, DL.ev_lt, DL.ev_gt, DL.ev_le, DL.ev_ge, DL.ev_eq, DL.ev_ne, DL.ev_min, DL.ev_max, DL.ev_int, DL.ev_abs, DL.sz1, DL.sz2, DL.sz3, DL.sz4, DL.sz5, DL.sz6, DL.sz7, DL.sz8, DL.szp, wipeD], ?_, fun _ => by simp [DL.sSeq, DL.sNil, DL.sPass, DL.sBreak, DL.sCont, DL.sExpr, DL.sRet, DL.sRetN, DL.sIf, DL.sAsg, DL.sPar, DL.sAug, DL.sAugS, DL.gSet, DL.gTupD, DL.gsNil, DL.gsCons, DL.gSubD, DL.sFor, DL.iRng1D_eq, DL.mVar, DL.mC, DL.mNil, DL.mCons, DL.mCall, DL.mBin, DL.mNeg, DL.mMt, DL.mSl, DL.oNo, DL.oYes, DL.tOf, DL.tNotD, DL.tAndD, DL.tOrD, DL.tTru, DL.truD, DL.tTrue, DL.vAnd, DL.vOr, DL.vNot, DL.vIf, DL.vChain, DL.tupF, DL.lstF, DL.allD, DL.ev_add, DL.ev_sub, DL.ev_iadd, DL.ev_isub, DL.ev_lt, DL.ev_gt, DL.ev_le, DL.ev_ge, DL.ev_eq, DL.ev_ne, DL.ev_min, DL.ev_max, DL.ev_int, DL.ev_abs, DL.sz1, DL.sz2, DL.sz3, DL.sz4, DL.sz5, DL.sz6, DL.sz7, DL.sz8, DL.szp, mv]⟩
        simp [DL.sSeq, DL.sNil, DL.sPass, DL.sBreak, DL.sCont, DL.sExpr, DL.sRet, DL.sRetN, DL.sIf, DL.sAsg, DL.sPar, DL.sAug, DL.sAugS, DL.gSet, DL.gTupD, DL.gsNil, DL.gsCons, DL.gSubD, DL.sFor, DL.iRng1D_eq, DL.mVar, DL.mC, DL.mNil, DL.mCons, DL.mCall, DL.mBin, DL.mNeg, DL.mMt, DL.mSl, DL.oNo, DL.oYes, DL.tOf, DL.tNotD, DL.tAndD, DL.tOrD, DL.tTru, DL.truD, DL.tTrue, DL.vAnd, DL.vOr, DL.vNot, DL.vIf, DL.vChain, DL.tupF, DL.lstF, DL.allD, DL.ev_add, DL.ev_sub, DL.ev_iadd, DL.ev_isub, DL.ev_lt, DL.ev_gt, DL.ev_le, DL.ev_ge, DL.ev_eq, DL.ev_ne, DL.ev_min, DL.ev_max, DL.ev_int, DL.ev_abs, DL.sz1, DL.sz2, DL.sz3, DL.sz4, DL.sz5, DL.sz6, DL.sz7, DL.sz8, DL.szp]; omega) (Nat.le_trans (List.length_filter_le _ _) (by rw [List.length_range]; exact sz_of (by omega)))
      rw [this, List.map_map]; rfl) (by
      rw [List.filter_eq_self.mpr fun _ _ => rfl, List.length_range]
      exact sz_of (by omega))
  rw [List.filter_eq_self.mpr fun _ _ => rfl] at e
  have hm : ((List.range n).map fun v : Nat => (((List.range n).filter fun w : Nat => !decide (w = v)).map fun w : Nat => ((v : Int), (w : Int))).map mv).flatten = (every n).map mv := by
    unfold every
    rw [List.map_flatten, List.map_map]; rfl
  have hf := flat_ok ((List.range n).map fun v : Nat => (((List.range n).filter fun w : Nat => !decide (w = v)).map fun w : Nat => ((v : Int), (w : Int))).map mv) (by
    rw [hm, List.length_map]; exact sz_of (by have := every_len hn; omega)) S
  rw [hm, List.map_map] at hf
  simp only [Function.comp_def] at hf
  simp only [sAsg, mCall, mCons, mNil, e, Option.bind_some, e_flat, hf]
  simp [gSet]
/-- the places' end -/
theorem tup_ok {n : Nat} {l : List Mv} {A : ME} {ρ : DEnv} {S S1 : Sto} (h2 : ρ[2]? = some (some (.d (.int n)))) (h : A ρ S = some (.d (.list (l.map mv)), S1)) :
    sRet (mCall tupF (mCons (mVar 2) (mCons (mCall tupleD (mCons A (mNil))) (mNil)))) ρ S = some (.rt (.d (pl (n, l))), ρ, S1) := by
  simp only [sRet, mCall, mCons, mNil, mVar, h2, Option.bind_some, h, tupleD, on1, deref, tupF, allD, Option.map_some, List.length_cons, List.length_nil]
  rw [if_pos (show 0 + 1 + 1 ≤ sizeLine from sz2)]
  rfl
theorem if_t {T : MT} {F G : MS} {ρ : DEnv} {S : Sto} (h : T ρ S = some (true, S)) : sIf T F G ρ S = F ρ S := by simp [sIf, h]
theorem if_f {T : MT} {F G : MS} {ρ : DEnv} {S : Sto} (h : T ρ S = some (false, S)) : sIf T F G ρ S = G ρ S := by simp [sIf, h]
def ways : List Int := [0, 0, 0, 2, 2, 4, 4, 2, 5, 6, 7]
theorem at_last {α : Type} (xs : List α) (x : α) : atI (xs ++ [x]) (-1) = some x := by
  have h : ixN (xs ++ [x]).length (-1) = some xs.length := by
    unfold ixN
    rw [if_neg (by decide), if_pos (by rw [List.length_append]; simp; omega)]
    congr 1
    rw [List.length_append]; simp; omega
  unfold atI
  rw [h]; simp
end K17
end
noncomputable section
namespace K17
section
variable {α : Type} [DecidableEq α] (adj : α → List α) (t : α) (B : α → Bool)
def okN (y : α) : Bool := decide (y = t) || !B y
/-- t is come to from x by n steps -/
def Dn : Nat → α → Bool
  | 0, x => decide (x = t)
  | n + 1, x => (adj x).any fun y => okN t B y && Dn n y
structure IsD (n : Nat) (x : α) : Prop where
  is : Dn adj t B n x = true
  no : ∀ m, m < n → Dn adj t B m x = false
def nxt (n : Nat) (x : α) : Option α := ((adj x).filter fun y => okN t B y && Dn adj t B n y).head?
/-- the way by the first of the next ones -/
def gp : Nat → α → List α
  | 0, x => [x]
  | n + 1, x => match nxt adj t B n x with
    | some y => x :: gp n y
    | none => [x]
variable {adj t B}
theorem Dn_step {x y : α} {n : Nat} (h : y ∈ adj x) (ok : okN t B y = true) (d : Dn adj t B n y = true) : Dn adj t B (n + 1) x = true := by
  simp only [Dn, List.any_eq_true, Bool.and_eq_true]
  exact ⟨y, h, ok, d⟩
theorem IsD.uniq {n m : Nat} {x : α} (h : IsD adj t B n x) (k : IsD adj t B m x) : n = m := by
  rcases Nat.lt_trichotomy n m with z | z | z
  · have := k.no n z; rw [h.is] at this; cases this
  · exact z
  · have := h.no m z; rw [k.is] at this; cases this
theorem least : ∀ (n : Nat) {x : α}, Dn adj t B n x = true → ∃ m, m ≤ n ∧ IsD adj t B m x := by
  intro n
  induction n using Nat.strongRecOn with
  | ind n ih =>
    intro x h
    by_cases c : ∃ m, m < n ∧ Dn adj t B m x = true
    · obtain ⟨m, hm, hd⟩ := c
      obtain ⟨k, hk, hi⟩ := ih m hm hd
      exact ⟨k, by omega, hi⟩
    · refine ⟨n, Nat.le_refl _, h, fun m hm => ?_⟩
      cases e : Dn adj t B m x with
      | false => rfl
      | true => exact absurd ⟨m, hm, e⟩ c
theorem isD_zero : IsD adj t B 0 t := ⟨by simp [Dn], fun m h => by omega⟩
/-- the first of the next ones, and what stands ahead of it -/
theorem nxt_ex {n : Nat} {x : α} (h : IsD adj t B (n + 1) x) : ∃ y X Y, nxt adj t B n x = some y ∧ adj x = X ++ y :: Y ∧ (∀ z ∈ X, okN t B z = true → Dn adj t B n z = false) ∧ okN t B y = true ∧ IsD adj t B n y := by
  have hd := h.is
  simp only [Dn, List.any_eq_true, Bool.and_eq_true] at hd
  obtain ⟨z, hz, oz, dz⟩ := hd
  cases e : (adj x).filter (fun y => okN t B y && Dn adj t B n y) with
  | nil =>
    have : z ∈ (adj x).filter (fun y => okN t B y && Dn adj t B n y) := List.mem_filter.mpr ⟨hz, by rw [oz, dz]; rfl⟩
    rw [e] at this; cases this
  | cons y ys =>
    obtain ⟨X, Y, e1, hX, hy, _⟩ := List.filter_eq_cons_iff.mp e
    rw [Bool.and_eq_true] at hy
    refine ⟨y, X, Y, by simp [nxt, e], e1, fun z hz oz => ?_, hy.1, hy.2, fun m hm => ?_⟩
    · have := hX z hz
      rw [oz, Bool.true_and] at this
      simpa using this
    · cases e2 : Dn adj t B m y with
      | false => rfl
      | true =>
        have := Dn_step (x := x) (by rw [e1]; simp) hy.1 e2
        rw [h.no (m + 1) (by omega)] at this; cases this
structure LInv (V : List α) (k : Nat) (found : List (α × Nat)) (line : List α) : Prop where
  nd : (found.map (·.1)).Nodup
  inV : ∀ q ∈ found, q.1 ∈ V
  val : ∀ q ∈ found, IsD adj t B q.2 q.1 ∧ q.2 ≤ k
  all : ∀ x d, x ∈ V → IsD adj t B d x → d ≤ k → (x, d) ∈ found
  ln : ∀ x, x ∈ line ↔ (x, k) ∈ found
  lnd : line.Nodup
/-- within a level: done tells which are seen to -/
structure MInv (V : List α) (k : Nat) (found : List (α × Nat)) (done : α → Prop) (found' : List (α × Nat)) (further : List α) : Prop where
  ex : ∃ ext, found' = found ++ ext ∧ further = ext.map (·.1) ∧ ∀ q ∈ ext, q.2 = k + 1 ∧ IsD adj t B (k + 1) q.1 ∧ q.1 ∈ V
  nd : (found'.map (·.1)).Nodup
  dn : ∀ x, done x → x ∈ found'.map (·.1)
variable {V : List α} {k : Nat} {found found' : List (α × Nat)} {line further : List α} {done : α → Prop}
theorem LInv.start (L : LInv (adj := adj) (t := t) (B := B) V k found line) : MInv (adj := adj) (t := t) (B := B) V k found (fun _ => False) found [] :=
  ⟨⟨[], by simp, rfl, fun q h => by simp at h⟩, L.nd, fun x h => h.elim⟩
variable {one : α} {fnd fnd' : List (α × List α)} {front later : List α}
def Fw (adj : α → List α) (t : α) (B : α → Bool) (one : α) (j : Nat) (v : α) : Prop := ∀ m, Dn adj t B m v = true → Dn adj t B (j + m) one = true
structure FInv (adj : α → List α) (t : α) (B : α → Bool) (V : List α) (one : α) (k : Nat) (fnd : List (α × List α)) (front : List α) : Prop where
  nd : (fnd.map (·.1)).Nodup
  inV : ∀ q ∈ fnd, q.1 ∈ V
  fw : ∀ q ∈ fnd, ∃ j, j ≤ k ∧ Fw adj t B one j q.1
  fr : ∀ v ∈ front, v ∈ fnd.map (·.1) ∧ Fw adj t B one k v ∧ (v = one ∨ okN t B v = true)
  good : ∀ n, IsD adj t B n one → k ≤ n ∧ ∃ g A C, (gp adj t B n one)[k]? = some g ∧ front = A ++ g :: C ∧ (g, (gp adj t B n one).take (k + 1)) ∈ fnd ∧ ∀ a ∈ A, Dn adj t B (n - k) a = false
/-- which of the new ones are good: none yet, or the way's next one ahead of all other good ones -/
def NG (adj : α → List α) (t : α) (B : α → Bool) (one : α) (k n : Nat) (ext : List (α × List α)) : Prop := ∀ q ∈ ext, Dn adj t B (n - (k + 1)) q.1 = false
def GG (adj : α → List α) (t : α) (B : α → Bool) (one : α) (k n : Nat) (ext : List (α × List α)) : Prop :=
  ∃ g A C, (gp adj t B n one)[k + 1]? = some g ∧ ext.map (·.1) = A ++ g :: C ∧ (g, (gp adj t B n one).take (k + 2)) ∈ ext ∧ ∀ a ∈ A, Dn adj t B (n - (k + 1)) a = false
structure NInv (adj : α → List α) (t : α) (B : α → Bool) (V : List α) (one : α) (k : Nat) (fnd : List (α × List α)) (P : Nat → Bool) (fnd' : List (α × List α)) (later : List α) : Prop where
  ex : ∃ ext, fnd' = fnd ++ ext ∧ later = ext.map (·.1) ∧ (∀ q ∈ ext, q.1 ∈ V ∧ Fw adj t B one (k + 1) q.1 ∧ okN t B q.1 = true) ∧
    ∀ n, IsD adj t B n one → if P n = true then GG adj t B one k n ext else NG adj t B one k n ext
  nd : (fnd'.map (·.1)).Nodup
variable {P P' : Nat → Bool}
theorem FInv.start (L : FInv adj t B V one k fnd front) : NInv adj t B V one k fnd (fun _ => false) fnd [] :=
  ⟨⟨[], by simp, rfl, fun q h => by simp at h, fun n hn => by simp [NG]⟩, L.nd⟩
theorem NInv.mono (M : NInv adj t B V one k fnd P fnd' later) (h : ∀ n, IsD adj t B n one → P' n = P n) : NInv adj t B V one k fnd P' fnd' later := by
  obtain ⟨ext, e1, e2, e3, e4⟩ := M.ex
  exact ⟨⟨ext, e1, e2, e3, fun n hn => by rw [h n hn]; exact e4 n hn⟩, M.nd⟩
end
end K17
end
noncomputable section
namespace K17
open PySem PySem.Spec PyProof.Rows L2 DL
section
end
theorem sortL_ex (l : List (List Int)) : ∃ r : List (List Int), r.Perm l ∧ sortC (l.map cI) = r.map cI := by
  obtain ⟨r, hr, e⟩ := perm_map_ex (sortC_perm (l.map cI))
  exact ⟨r, hr, e⟩
def sortL (l : List (List Int)) : List (List Int) := Classical.choose (sortL_ex l)
theorem sortL_perm (l : List (List Int)) : (sortL l).Perm l := (Classical.choose_spec (sortL_ex l)).1
theorem sortL_cI (l : List (List Int)) : sortC (l.map cI) = (sortL l).map cI := (Classical.choose_spec (sortL_ex l)).2
theorem sortL_srtd (l : List (List Int)) : (sortL l).Pairwise fun x y => ltC (cI y) (cI x) = false := by
  have := sortC_srtd (l.map cI)
  rw [sortL_cI, List.pairwise_map] at this
  exact this
def adjC (b : List Pl) (x : List Int) : List (List Int) := sortL (stp x 0 b)
theorem adj_fits {b : List Pl} {x y : List Int} (g : Good b) (hx : Fits x b) (h : y ∈ adjC b x) : Fits y b := stp_fits g hx ((sortL_perm _).subset h)
theorem inV {b : List Pl} {x : List Int} : x ∈ conts b ↔ Fits x b := mem_conts _ rfl
def fI (d : Nat) : W := .d (.int d)
end K17
end
noncomputable section
namespace K17
open PySem PySem.Spec PyProof.Rows L2 DL
theorem placeM_ok {c n : Nat} {most : Int} {ob : Ob} {S : Sto} (hS : S[n]? = some ob) (hb : BagOk c ob) (hc : c + 100 < 2 ^ 1000) (h2 : 2 ≤ most) (h6 : most ≤ 6) :
    ∃ p ob', callF f_l_place [.loc n, .d (.int most)] S = some (.d (pl p), S.set n ob') ∧ GoodP p ∧ (p.1 : Int) ≤ most ∧ BagOk (c + 50) ob' := by
  obtain ⟨v, ob1, e1, v0, v1, hb1⟩ := take_ok (S := [ob]) (n := 0) (upto := most - 1) rfl hb (by omega) (by omega) (by
    have : (most - 1).natAbs.log2 ≤ 3 := lg_le (by omega)
    omega)
  obtain ⟨x, hx, ob2, e2, hb2⟩ := some_ok (S := [ob1]) (n := 0) (xs := ways.map .int) rfl hb1 (by omega) (by decide) (by decide)
  obtain ⟨way, hway, rfl⟩ := List.mem_map.mp hx
  obtain ⟨m, hm⟩ : ∃ m : Nat, 2 + v = m := ⟨(2 + v).toNat, by omega⟩
  have hm2 : 2 ≤ m := by omega
  have hm6 : m ≤ 6 := by omega
  have el := every_len hm6
  have hlw : ([PyData.int 0, .int 0, .int 0, .int 2, .int 2, .int 4, .int 4, .int 2, .int 5, .int 6, .int 7] : List PyData) = ways.map .int := rfl
  have hend : ∀ (l : List Mv) (ob3 : Ob), BagOk (c + 50) ob3 → GoodP (m, l) → (∃ ρ' S', b_l_place [some (.loc 0), some (.d (.int most)), none, none, none, none, none] [ob] = some (.rt (.d (pl (m, l))), ρ', ob3 :: S')) →
      ∃ p ob', callF f_l_place [.loc n, .d (.int most)] S = some (.d (pl p), S.set n ob') ∧ GoodP p ∧ (p.1 : Int) ≤ most ∧ BagOk (c + 50) ob' := fun l ob3 h3 hg ⟨ρ', S', h⟩ =>
    ⟨(m, l), ob3, callF_loc (n := n) rfl (by simp [allLoc]) hS hb.obD (runF_ret1 ⟨ρ', S', h⟩ h3.obD) h3.obD, hg, by show (m : Int) ≤ most; omega, h3⟩
  have st : ∀ R : MS, sSeq (sAsg (mBin addA (mC (.int 2)) (mCall (callF f_l_take) (mCons (mVar 0) (mCons (mBin subD (mVar 1) (mC (.int 1))) (mNil))))) (gSet 2))
      (sSeq (sAsg (mCall (callF f_l_some) (mCons (mVar 0) (mCons (mCall lstF (mCons (mC (.int 0)) (mCons (mC (.int 0)) (mCons (mC (.int 0)) (mCons (mC (.int 2)) (mCons (mC (.int 2)) (mCons (mC (.int 4)) (mCons (mC (.int 4)) (mCons (mC (.int 2)) (mCons (mC (.int 5)) (mCons (mC (.int 6)) (mCons (mC (.int 7)) (mNil))))))))))))) (mNil)))) (gSet 3))
      (sSeq (sAsg (mCall (callF f_l_flat) (mCons (mLc (iRng1D (mCons (mVar 2) (mNil))) (gSet 5) (tTrue) (mLc (iRng1D (mCons (mVar 2) (mNil))) (gSet 6) (tOf (mBin (eqA true) (mVar 6) (mVar 5))) (mCall tupF (mCons (mVar 5) (mCons (mVar 6) (mNil)))) [6] kFrz) [5] kFrz) (mNil))) (gSet 4)) R)) [some (.loc 0), some (.d (.int most)), none, none, none, none, none] [ob] =
      R [some (.loc 0), some (.d (.int most)), some (.d (.int m)), some (.d (.int way)), some (.d (.list ((every m).map mv))), none, none] [ob2] := fun R => by
    simp only [List.set_cons_zero] at e1 e2
    rw [seq_nx (ρ1 := [some (.loc 0), some (.d (.int most)), some (.d (.int m)), none, none, none, none]) (S1 := [ob1]) (by
      simp [DL.sSeq, DL.sNil, DL.sPass, DL.sBreak, DL.sCont, DL.sExpr, DL.sRet, DL.sRetN, DL.sIf, DL.sAsg, DL.sPar, DL.sAug, DL.sAugS, DL.gSet, DL.gTupD, DL.gsNil, DL.gsCons, DL.gSubD, DL.sFor, DL.iRng1D_eq, DL.mVar, DL.mC, DL.mNil, DL.mCons, DL.mCall, DL.mBin, DL.mNeg, DL.mMt, DL.mSl, DL.oNo, DL.oYes, DL.tOf, DL.tNotD, DL.tAndD, DL.tOrD, DL.tTru, DL.truD, DL.tTrue, DL.vAnd, DL.vOr, DL.vNot, DL.vIf, DL.vChain, DL.tupF, DL.lstF, DL.allD, DL.ev_add, DL.ev_sub, DL.ev_iadd, DL.ev_isub, DL.ev_lt, DL.ev_gt, DL.ev_le, DL.ev_ge, DL.ev_eq, DL.ev_ne, DL.ev_min, DL.ev_max, DL.ev_int, DL.ev_abs, DL.sz1, DL.sz2, DL.sz3, DL.sz4, DL.sz5, DL.sz6, DL.sz7, DL.sz8, DL.szp, e_take, e1, hm])]
    rw [seq_nx (ρ1 := [some (.loc 0), some (.d (.int most)), some (.d (.int m)), some (.d (.int way)), none, none, none]) (S1 := [ob2]) (by
      have h11 : (11 : Nat) ≤ sizeLine := by decide
      simp only [sAsg, mCall, mCons, mNil, mC, mVar, List.getElem?_cons_zero, Option.bind_some, lstF, allD, Option.map_some, hlw, e_some]
      rw [if_pos (show (ways.map PyData.int).length ≤ sizeLine by decide)]
      simp only [Option.bind_some, e2]
      simp [gSet])]
    rw [seq_nx (every_ok hm6 _)]
  have c1 := hb2.up (d := c + 50) (by omega)
  have hsub : ∀ P : Mv → Bool, GoodP (m, (every m).filter P) := fun P => good_sub hm2 hm6 (Nat.le_trans (List.length_filter_le _ _) el) (fun q hq => (List.mem_filter.mp hq).1) ((every_asc hm6).filter _)
  have hmod := fun (z : Int) S => ev_mod (S := S) (i := z) (j := (m : Int)) (by omega)
  have near := pick_ok (l := every m) (T := tOf (mBin (inA false) (mBin subD (mVar 5) (mVar 6)) (mCall tupF (mCons (mC (.int 1)) (mCons (mNeg (mC (.int 1))) (mNil)))))) (P := fun q => decide (q.1 - q.2 ∈ [(1 : Int), -1])) (z0 := some (.loc 0)) (z1 := some (.d (.int most))) (z2 := some (.d (.int m))) (z3 := some (.d (.int way))) (z5 := none) (z6 := none) (S := [ob2]) (by omega) rfl (fun q _ => by simp [DL.sSeq, DL.sNil, DL.sPass, DL.sBreak, DL.sCont, DL.sExpr, DL.sRet, DL.sRetN, DL.sIf, DL.sAsg, DL.sPar, DL.sAug, DL.sAugS, DL.gSet, DL.gTupD, DL.gsNil, DL.gsCons, DL.gSubD, DL.sFor, DL.iRng1D_eq, DL.mVar, DL.mC, DL.mNil, DL.mCons, DL.mCall, DL.mBin, DL.mNeg, DL.mMt, DL.mSl, DL.oNo, DL.oYes, DL.tOf, DL.tNotD, DL.tAndD, DL.tOrD, DL.tTru, DL.truD, DL.tTrue, DL.vAnd, DL.vOr, DL.vNot, DL.vIf, DL.vChain, DL.tupF, DL.lstF, DL.allD, DL.ev_add, DL.ev_sub, DL.ev_iadd, DL.ev_isub, DL.ev_lt, DL.ev_gt, DL.ev_le, DL.ev_ge, DL.ev_eq, DL.ev_ne, DL.ev_min, DL.ev_max, DL.ev_int, DL.ev_abs, DL.sz1, DL.sz2, DL.sz3, DL.sz4, DL.sz5, DL.sz6, DL.sz7, DL.sz8, DL.szp, ev_in2])
  have round := pick_ok (l := every m) (T := tOf (mBin (inA false) (mBin modD (mCall DL.intD (mCons (mBin subD (mVar 5) (mVar 6)) (mNil))) (mVar 2)) (mCall tupF (mCons (mC (.int 1)) (mCons (mBin subD (mVar 2) (mC (.int 1))) (mNil)))))) (P := fun q => decide ((q.1 - q.2) % (m : Int) ∈ [(1 : Int), (m : Int) - 1])) (z0 := some (.loc 0)) (z1 := some (.d (.int most))) (z2 := some (.d (.int m))) (z3 := some (.d (.int way))) (z5 := none) (z6 := none) (S := [ob2]) (by omega) rfl (fun q _ => by simp [DL.sSeq, DL.sNil, DL.sPass, DL.sBreak, DL.sCont, DL.sExpr, DL.sRet, DL.sRetN, DL.sIf, DL.sAsg, DL.sPar, DL.sAug, DL.sAugS, DL.gSet, DL.gTupD, DL.gsNil, DL.gsCons, DL.gSubD, DL.sFor, DL.iRng1D_eq, DL.mVar, DL.mC, DL.mNil, DL.mCons, DL.mCall, DL.mBin, DL.mNeg, DL.mMt, DL.mSl, DL.oNo, DL.oYes, DL.tOf, DL.tNotD, DL.tAndD, DL.tOrD, DL.tTru, DL.truD, DL.tTrue, DL.vAnd, DL.vOr, DL.vNot, DL.vIf, DL.vChain, DL.tupF, DL.lstF, DL.allD, DL.ev_add, DL.ev_sub, DL.ev_iadd, DL.ev_isub, DL.ev_lt, DL.ev_gt, DL.ev_le, DL.ev_ge, DL.ev_eq, DL.ev_ne, DL.ev_min, DL.ev_max, DL.ev_int, DL.ev_abs, DL.sz1, DL.sz2, DL.sz3, DL.sz4, DL.sz5, DL.sz6, DL.sz7, DL.sz8, DL.szp, ev_in2, hmod])
  have rise := pick_ok (l := every m) (T := tAndD (tOf (mBin ltD (mVar 5) (mVar 6))) (tOrD (tOf (mBin (eqA false) (mVar 3) (mC (.int 5)))) (tOf (mBin (eqA false) (mVar 6) (mBin addA (mVar 5) (mC (.int 1))))))) (P := fun q => decide (q.1 < q.2) && (decide (way = 5) || decide (q.2 = q.1 + 1))) (z0 := some (.loc 0)) (z1 := some (.d (.int most))) (z2 := some (.d (.int m))) (z3 := some (.d (.int way))) (z5 := none) (z6 := none) (S := [ob2]) (by omega) rfl (fun q _ => by
    by_cases h1 : q.1 < q.2 <;> by_cases h2 : way = 5 <;> simp [DL.sSeq, DL.sNil, DL.sPass, DL.sBreak, DL.sCont, DL.sExpr, DL.sRet, DL.sRetN, DL.sIf, DL.sAsg, DL.sPar, DL.sAug, DL.sAugS, DL.gSet, DL.gTupD, DL.gsNil, DL.gsCons, DL.gSubD, DL.sFor, DL.iRng1D_eq, DL.mVar, DL.mC, DL.mNil, DL.mCons, DL.mCall, DL.mBin, DL.mNeg, DL.mMt, DL.mSl, DL.oNo, DL.oYes, DL.tOf, DL.tNotD, DL.tAndD, DL.tOrD, DL.tTru, DL.truD, DL.tTrue, DL.vAnd, DL.vOr, DL.vNot, DL.vIf, DL.vChain, DL.tupF, DL.lstF, DL.allD, DL.ev_add, DL.ev_sub, DL.ev_iadd, DL.ev_isub, DL.ev_lt, DL.ev_gt, DL.ev_le, DL.ev_ge, DL.ev_eq, DL.ev_ne, DL.ev_min, DL.ev_max, DL.ev_int, DL.ev_abs, DL.sz1, DL.sz2, DL.sz3, DL.sz4, DL.sz5, DL.sz6, DL.sz7, DL.sz8, DL.szp, h1, h2])
  have ρ2 : ([some (.loc 0), some (.d (.int most)), some (.d (.int m)), some (.d (.int way)), some (.d (.list ((every m).map mv))), none, none] : DEnv)[2]? = some (some (.d (.int m))) := rfl
  obtain ⟨ρ, hρ⟩ : ∃ ρ : DEnv, [some (.loc 0), some (.d (.int most)), some (.d (.int m)), some (.d (.int way)), some (.d (.list ((every m).map mv))), none, none] = ρ := ⟨_, rfl⟩
  have t1 : tOf (mBin ltD (mVar 3) (mC (.int 2))) ρ [ob2] = some (decide (way < 2), [ob2]) := by subst hρ; simp [DL.sSeq, DL.sNil, DL.sPass, DL.sBreak, DL.sCont, DL.sExpr, DL.sRet, DL.sRetN, DL.sIf, DL.sAsg, DL.sPar, DL.sAug, DL.sAugS, DL.gSet, DL.gTupD, DL.gsNil, DL.gsCons, DL.gSubD, DL.sFor, DL.iRng1D_eq, DL.mVar, DL.mC, DL.mNil, DL.mCons, DL.mCall, DL.mBin, DL.mNeg, DL.mMt, DL.mSl, DL.oNo, DL.oYes, DL.tOf, DL.tNotD, DL.tAndD, DL.tOrD, DL.tTru, DL.truD, DL.tTrue, DL.vAnd, DL.vOr, DL.vNot, DL.vIf, DL.vChain, DL.tupF, DL.lstF, DL.allD, DL.ev_add, DL.ev_sub, DL.ev_iadd, DL.ev_isub, DL.ev_lt, DL.ev_gt, DL.ev_le, DL.ev_ge, DL.ev_eq, DL.ev_ne, DL.ev_min, DL.ev_max, DL.ev_int, DL.ev_abs, DL.sz1, DL.sz2, DL.sz3, DL.sz4, DL.sz5, DL.sz6, DL.sz7, DL.sz8, DL.szp]
  have t2 : tOrD (tOf (mBin ltD (mVar 3) (mC (.int 4)))) (tAndD (tOf (mBin (eqA false) (mVar 3) (mC (.int 4)))) (tOf (mBin ltD (mVar 2) (mC (.int 3))))) ρ [ob2] = some (decide (way < 4) || (decide (way = 4) && decide ((m : Int) < 3)), [ob2]) := by
    subst hρ
    by_cases h1 : way < 4 <;> by_cases h2 : way = 4 <;> simp [DL.sSeq, DL.sNil, DL.sPass, DL.sBreak, DL.sCont, DL.sExpr, DL.sRet, DL.sRetN, DL.sIf, DL.sAsg, DL.sPar, DL.sAug, DL.sAugS, DL.gSet, DL.gTupD, DL.gsNil, DL.gsCons, DL.gSubD, DL.sFor, DL.iRng1D_eq, DL.mVar, DL.mC, DL.mNil, DL.mCons, DL.mCall, DL.mBin, DL.mNeg, DL.mMt, DL.mSl, DL.oNo, DL.oYes, DL.tOf, DL.tNotD, DL.tAndD, DL.tOrD, DL.tTru, DL.truD, DL.tTrue, DL.vAnd, DL.vOr, DL.vNot, DL.vIf, DL.vChain, DL.tupF, DL.lstF, DL.allD, DL.ev_add, DL.ev_sub, DL.ev_iadd, DL.ev_isub, DL.ev_lt, DL.ev_gt, DL.ev_le, DL.ev_ge, DL.ev_eq, DL.ev_ne, DL.ev_min, DL.ev_max, DL.ev_int, DL.ev_abs, DL.sz1, DL.sz2, DL.sz3, DL.sz4, DL.sz5, DL.sz6, DL.sz7, DL.sz8, DL.szp, h1, h2]
  have t3 : tOf (mBin (eqA false) (mVar 3) (mC (.int 4))) ρ [ob2] = some (decide (way = 4), [ob2]) := by subst hρ; simp [DL.sSeq, DL.sNil, DL.sPass, DL.sBreak, DL.sCont, DL.sExpr, DL.sRet, DL.sRetN, DL.sIf, DL.sAsg, DL.sPar, DL.sAug, DL.sAugS, DL.gSet, DL.gTupD, DL.gsNil, DL.gsCons, DL.gSubD, DL.sFor, DL.iRng1D_eq, DL.mVar, DL.mC, DL.mNil, DL.mCons, DL.mCall, DL.mBin, DL.mNeg, DL.mMt, DL.mSl, DL.oNo, DL.oYes, DL.tOf, DL.tNotD, DL.tAndD, DL.tOrD, DL.tTru, DL.truD, DL.tTrue, DL.vAnd, DL.vOr, DL.vNot, DL.vIf, DL.vChain, DL.tupF, DL.lstF, DL.allD, DL.ev_add, DL.ev_sub, DL.ev_iadd, DL.ev_isub, DL.ev_lt, DL.ev_gt, DL.ev_le, DL.ev_ge, DL.ev_eq, DL.ev_ne, DL.ev_min, DL.ev_max, DL.ev_int, DL.ev_abs, DL.sz1, DL.sz2, DL.sz3, DL.sz4, DL.sz5, DL.sz6, DL.sz7, DL.sz8, DL.szp]
  have t4 : tOf (mBin (inA false) (mVar 3) (mCall tupF (mCons (mC (.int 5)) (mCons (mC (.int 7)) (mNil))))) ρ [ob2] = some (decide (way ∈ [5, 7]), [ob2]) := by subst hρ; simp [DL.sSeq, DL.sNil, DL.sPass, DL.sBreak, DL.sCont, DL.sExpr, DL.sRet, DL.sRetN, DL.sIf, DL.sAsg, DL.sPar, DL.sAug, DL.sAugS, DL.gSet, DL.gTupD, DL.gsNil, DL.gsCons, DL.gSubD, DL.sFor, DL.iRng1D_eq, DL.mVar, DL.mC, DL.mNil, DL.mCons, DL.mCall, DL.mBin, DL.mNeg, DL.mMt, DL.mSl, DL.oNo, DL.oYes, DL.tOf, DL.tNotD, DL.tAndD, DL.tOrD, DL.tTru, DL.truD, DL.tTrue, DL.vAnd, DL.vOr, DL.vNot, DL.vIf, DL.vChain, DL.tupF, DL.lstF, DL.allD, DL.ev_add, DL.ev_sub, DL.ev_iadd, DL.ev_isub, DL.ev_lt, DL.ev_gt, DL.ev_le, DL.ev_ge, DL.ev_eq, DL.ev_ne, DL.ev_min, DL.ev_max, DL.ev_int, DL.ev_abs, DL.sz1, DL.sz2, DL.sz3, DL.sz4, DL.sz5, DL.sz6, DL.sz7, DL.sz8, DL.szp, ev_in2]
  rw [hρ] at near round rise ρ2 st
  by_cases h1 : way < 2
  · refine hend (every m) ob2 c1 (good_sub hm2 hm6 el (fun q hq => hq) (every_asc hm6)) ⟨ρ, [], ?_⟩
    unfold b_l_place
    rw [st, seq_rt ((if_t (t1.trans (by rw [decide_eq_true h1]))).trans (tup_ok (A := mVar 4) (l := every m) ρ2 (by subst hρ; rfl)))]
  have t1' := t1.trans (by rw [decide_eq_false h1])
  by_cases h2 : (decide (way < 4) || (decide (way = 4) && decide ((m : Int) < 3))) = true
  · refine hend ((every m).filter (fun q => decide (q.1 - q.2 ∈ [(1 : Int), -1]))) ob2 c1 (hsub _) ⟨ρ, [], ?_⟩
    unfold b_l_place
    rw [st, seq_nx ((if_f (G := sNil) t1').trans rfl), seq_rt ((if_t (t2.trans (by rw [h2]))).trans (tup_ok ρ2 near))]
  have t2' := t2.trans (by rw [Bool.eq_false_iff.mpr h2])
  by_cases h3 : way = 4
  · refine hend ((every m).filter (fun q => decide ((q.1 - q.2) % (m : Int) ∈ [(1 : Int), (m : Int) - 1]))) ob2 c1 (hsub _) ⟨ρ, [], ?_⟩
    unfold b_l_place
    rw [st, seq_nx ((if_f (G := sNil) t1').trans rfl), seq_nx ((if_f (G := sNil) t2').trans rfl), seq_rt ((if_t (t3.trans (by rw [decide_eq_true h3]))).trans (tup_ok ρ2 round))]
  have t3' := t3.trans (by rw [decide_eq_false h3])
  by_cases h4 : way ∈ [(5 : Int), 7]
  · refine hend ((every m).filter (fun q => decide (q.1 < q.2) && (decide (way = 5) || decide (q.2 = q.1 + 1)))) ob2 c1 (hsub _) ⟨ρ, [], ?_⟩
    unfold b_l_place
    rw [st, seq_nx ((if_f (G := sNil) t1').trans rfl), seq_nx ((if_f (G := sNil) t2').trans rfl), seq_nx ((if_f (G := sNil) t3').trans rfl), seq_rt ((if_t (t4.trans (by rw [decide_eq_true h4]))).trans (tup_ok ρ2 rise))]
  have t4' := t4.trans (by rw [decide_eq_false h4])
  obtain ⟨ys, ob3, e3, hp, hb3⟩ := mixed_ok (S := [ob2]) (n := 0) (xs := (every m).map mv) rfl hb2 (by rw [List.length_map]; omega) (by rw [List.length_map]; exact sz_of (by omega))
  obtain ⟨r, hr, rfl⟩ := perm_map_ex hp
  obtain ⟨k, ob4, e4, k0, k1, hb4⟩ := take_ok (S := [ob3]) (n := 0) (upto := ((every m).length : Int) + 1) rfl hb3 (by rw [List.length_map]; omega) (by omega) (by
    have := size_lg (n := (every m).length + 1) (sz_of (by omega)); simpa using this)
  obtain ⟨j, rfl⟩ := Int.eq_ofNat_of_zero_le k0
  obtain ⟨r2, hr2, er2⟩ := sortT_ex ((r.take j).map fun q => [q.1, q.2])
  obtain ⟨r3, hr3, rfl⟩ := perm_map_ex hr2
  have hs := sorted_ev (l := (r.take j).map fun q => [q.1, q.2]) (S := [ob4]) (w := .d (.list ((r.take j).map mv))) (fun a ha => by
    obtain ⟨q, _, rfl⟩ := List.mem_map.mp ha
    simp) (by simp only [deref, mvs_tI])
  rw [er2, ← mvs_tI] at hs
  rw [List.length_map] at hb4
  have hgood : GoodP (m, r3) := good_sub hm2 hm6 (by
    rw [hr3.length_eq, List.length_take]; have := hr.length_eq; omega) (fun q hq => hr.subset (List.mem_of_mem_take (hr3.subset hq))) (by
    have := sortT_asc hr2 er2 ((((hr.map _).nodup_iff).mpr (every_nd hm6)).sublist ((List.take_sublist j r).map _))
    rw [List.pairwise_map] at this
    exact this)
  refine hend r3 ob4 (hb4.up (by omega)) hgood ⟨ρ, [], ?_⟩
  unfold b_l_place
  rw [st, seq_nx ((if_f (G := sNil) t1').trans rfl), seq_nx ((if_f (G := sNil) t2').trans rfl), seq_nx ((if_f (G := sNil) t3').trans rfl), seq_nx ((if_f (G := sNil) t4').trans rfl)]
  refine tup_ok ρ2 ?_
  subst hρ
  simp only [List.set_cons_zero] at e3 e4
  have hcut : DL.cutD (r.map mv) none (some (j : Int)) = (r.take j).map mv := by rw [cut_take, List.map_take]
  simp only [mCall, mCons, mNil, mVar, mSl, oNo, oYes, mBin, mC, List.getElem?_cons_succ, List.getElem?_cons_zero, Option.bind_some, e_mixed, e3, e_take, lenD, on1, len0, List.length_map, Option.map_some, ev_add, e4, sliceD, hcut, hs]
end K17
end
noncomputable section
namespace K62
open PySem PySem.Spec PyProof.Rows L2 DL
def L_steps_from_1 : MS := sSeq (sAsg (mLc (iSeq (mVar 6)) (gTupD 2 (gsCons (gSet 7) (gsCons (gSet 8) (gsNil)))) (tOf (mBin (eqA false) (mVar 7) (mBin idxD (mVar 1) (mVar 3)))) (mVar 8) [7, 8] kFrz) (gSet 4))
    (sExpr (mMt extendF (mVar 2) (mCons (mLc (iSeq (mVar 4)) (gSet 8) (tTrue) (mBin addA (mBin addA (mSl (mVar 1) (oNo) (oYes (mVar 3))) (mCall tupF (mCons (mVar 8) (mNil)))) (mSl (mVar 1) (oYes (mBin addA (mVar 3) (mC (.int 1)))) (oNo))) [8] kFrz) (mNil))))
def b_steps_from : MS := sSeq (sAsg (mCall lstB (mNil)) (gSet 2))
    (sSeq (sFor (iEnumD (mCons (mVar 0) (mNil))) (gTupD 2 (gsCons (gSet 3) (gsCons (gTupD 2 (gsCons (gSet 5) (gsCons (gSet 6) (gsNil)))) (gsNil)))) (L_steps_from_1))
    (sRet (mCall sortedD (mCons (mVar 2) (mNil)))))
def f_steps_from : FS := runF 9 b_steps_from
def b_l_bag : MS := sRet (mCall lstB (mCons (mC (.int 0)) (mCons (mC (.int 1234567891)) (mCons (mC (.int 0)) (mCons (mLc (iSeq (mSl (mVar 0) (oNo) (oYes (mC (.int 63))))) (gSet 1) (tTrue) (mCall absD (mCons (mVar 1) (mNil))) [1] kFrz) (mNil))))))
def f_l_bag : FS := runF 2 b_l_bag
def b_l_take : MS := sSeq (sIf (tOf (mBin (eqA false) (mBin idxD (mVar 0) (mC (.int 0))) (mC (.int 0)))) (sSeq (sAsg (mBin idxD (mBin addA (mSl (mBin idxD (mVar 0) (mC (.int 3))) (oYes (mBin idxD (mVar 0) (mC (.int 2)))) (oNo)) (mCall lstF (mCons (mC (.int 0)) (mNil)))) (mC (.int 0))) (gSet 4))
    (sSeq (sAugS (mVar 0) (mC (.int 2)) (mC (.int 1)) getF iaddI setF)
    (sSeq (sIf (tOf (mBin geD (mVar 4) (mBin powD (mC (.int 10)) (mC (.int 18))))) (sAsg (mVar 4) (gSubD (mVar 0) (mC (.int 0)) setF)) (sNil))
    (sSeq (sAsg (mBin addA (mBin addA (mBin mulD (mBin idxD (mVar 0) (mC (.int 1))) (mC (.int 48271))) (mBin modD (mCall intD (mCons (mVar 4) (mNil))) (mC (.int 2147483647)))) (mBin mulD (mC (.int 7919)) (mBin idxD (mVar 0) (mC (.int 2))))) (gSet 5))
    (sAsg (mBin modD (mCall intD (mCons (mVar 5) (mNil))) (mC (.int 2147483647))) (gSubD (mVar 0) (mC (.int 1)) setF)))))) (sNil))
    (sSeq (sIf (tOf (mBin gtD (mBin idxD (mVar 0) (mC (.int 0))) (mC (.int 0)))) (sSeq (sAsg (mBin modD (mCall intD (mCons (mBin idxD (mVar 0) (mC (.int 0))) (mNil))) (mVar 1)) (gSet 6))
    (sSeq (sAsg (mBin fdivD (mCall intD (mCons (mBin idxD (mVar 0) (mC (.int 0))) (mNil))) (mVar 1)) (gSubD (mVar 0) (mC (.int 0)) setF))
    (sRet (mVar 6)))) (sNil))
    (sSeq (sAsg (mBin modD (mCall intD (mCons (mBin mulD (mBin addA (mBin idxD (mVar 0) (mC (.int 1))) (mC (.int 1))) (mC (.int 39373))) (mNil))) (mC (.int 1000000007))) (gSet 2))
    (sSeq (sAsg (mBin modD (mCall intD (mCons (mBin mulD (mBin modD (mCall intD (mCons (mBin mulD (mVar 2) (mVar 2)) (mNil))) (mC (.int 998244353))) (mC (.int 30011))) (mNil))) (mC (.int 998244353))) (gSet 3))
    (sRet (mBin modD (mCall intD (mCons (mBin fdivD (mVar 3) (mC (.int 7))) (mNil))) (mVar 1))))))
def f_l_take : FS := runF 7 b_l_take
def b_l_alike : MS := sRet (vAnd (mBin (eqA false) (mVar 0) (mVar 1)) (mBin (eqA false) (mCall reprD (mCons (mVar 0) (mNil))) (mCall reprD (mCons (mVar 1) (mNil)))))
def f_l_alike : FS := runF 2 b_l_alike
def L_l_flat_1 : MS := sExpr (mMt extendF (mVar 1) (mCons (mVar 2) (mNil)))
def b_l_flat : MS := sSeq (sAsg (mCall lstB (mNil)) (gSet 1))
    (sSeq (sFor (iSeq (mVar 0)) (gSet 2) (L_l_flat_1))
    (sRet (mFrz (mVar 1))))
def f_l_flat : FS := runF 3 b_l_flat
def L_l_steps_1 : MS := sExpr (mMt extendF (mVar 2) (mCons (mBin repL (mCall lstF (mCons (mBin addA (mBin addA (mSl (mVar 1) (oNo) (oYes (mVar 3))) (mCall tupF (mCons (mVar 5) (mNil)))) (mSl (mVar 1) (oYes (mBin addA (mVar 3) (mC (.int 1)))) (oNo))) (mNil))) (mCall intD (mCons (mBin (eqA false) (mVar 4) (mBin idxD (mVar 1) (mVar 3))) (mNil)))) (mNil)))
def L_l_steps_2 : MS := sFor (iSeq (mBin idxD (mBin idxD (mVar 0) (mVar 3)) (mC (.int 1)))) (gTupD 2 (gsCons (gSet 4) (gsCons (gSet 5) (gsNil)))) (L_l_steps_1)
def b_l_steps : MS := sSeq (sAsg (mCall lstB (mNil)) (gSet 2))
    (sSeq (sFor (iRng1D (mCons (mCall lenD (mCons (mVar 0) (mNil))) (mNil))) (gSet 3) (L_l_steps_2))
    (sRet (mCall sortedD (mCons (mVar 2) (mNil)))))
def f_l_steps : FS := runF 6 b_l_steps
def L_l_reached_1 : MS := sIf (tAndD (tOf (mBin (inX true) (mVar 7) (mVar 3))) (tOf (mBin (inX true) (mVar 7) (mVar 2)))) (sSeq (sAsg (mC (.bool true)) (gSubD (mVar 3) (mVar 7) setX))
    (sExpr (mMt appendF (mVar 5) (mCons (mVar 7) (mNil))))) (sNil)
def L_l_reached_2 : MS := sFor (iSeq (mBin ixY (mVar 0) (mVar 6))) (gSet 7) (L_l_reached_1)
def b_l_reached : MS := sSeq (sPar 3 4 (mCons (mCall dictP (mCons (mLc (iSeq (mVar 1)) (gSet 6) (tTrue) (mCall tupF (mCons (mVar 6) (mCons (mC (.bool true)) (mNil)))) [6] kFrz) (mNil))) (mCons (mCall listD (mCons (mVar 1) (mNil))) mNil)))
    (sSeq (whileL (tOf (mBin (eqA true) (mVar 4) (mCall lstF (mNil)))) (sSeq (sAsg (mCall lstB (mNil)) (gSet 5))
    (sSeq (sFor (iSeq (mVar 4)) (gSet 6) (L_l_reached_2))
    (sAsg (mFrzA (mVar 5)) (gSet 4)))) FUEL)
    (sRet (mCall sortedA (mCons (mVar 3) (mNil)))))
def f_l_reached : FS := runF 8 b_l_reached
def L_reached_from_1 : MS := sIf (tAndD (tOf (mBin (inX true) (mVar 5) (mVar 4))) (tOf (mBin (inX true) (mVar 5) (mVar 2)))) (sSeq (sAsg (mC (.bool true)) (gSubD (mVar 4) (mVar 5) setX))
    (sExpr (mMt appendF (mVar 3) (mCons (mVar 5) (mNil))))) (sNil)
def b_reached_from : MS := sSeq (sPar 4 3 (mCons (mDc (iSeq (mVar 1)) (gSet 5) (tTrue) (mVar 5) (mC (.bool true)) [5]) (mCons (mCall listB (mCons (mVar 1) (mNil))) mNil)))
    (sSeq (whileL (tTru (mVar 3)) (sFor (iSeq (mCall (callF f_steps_from) (mCons (mVar 0) (mCons (mMt popF (mVar 3) mNil) (mNil))))) (gSet 5) (L_reached_from_1)) FUEL)
    (sRet (mCall sortedA (mCons (mVar 4) (mNil)))))
def f_reached_from : FS := runF 6 b_reached_from
def b_l_some : MS := sRet (mBin idxD (mVar 1) (mCall (callF f_l_take) (mCons (mVar 0) (mCons (mCall lenD (mCons (mVar 1) (mNil))) (mNil)))))
def f_l_some : FS := runF 2 b_l_some
def L_l_mixed_1 : MS := sExpr (mMt insertF (mVar 2) (mCons (mCall (callF f_l_take) (mCons (mVar 0) (mCons (mBin addA (mCall lenD (mCons (mVar 2) (mNil))) (mC (.int 1))) (mNil)))) (mCons (mVar 3) (mNil))))
def b_l_mixed : MS := sSeq (sAsg (mCall lstB (mNil)) (gSet 2))
    (sSeq (sFor (iSeq (mVar 1)) (gSet 3) (L_l_mixed_1))
    (sRet (mFrz (mVar 2))))
def f_l_mixed : FS := runF 4 b_l_mixed
def L_l_contents_1 : MS := sAsg (mCall (callF f_l_flat) (mCons (mLc (iSeq (mVar 1)) (gSet 3) (tTrue) (mLc (iRng1D (mCons (mBin idxD (mVar 2) (mC (.int 0))) (mNil))) (gSet 4) (tTrue) (mBin addA (mVar 3) (mCall tupF (mCons (mVar 4) (mNil)))) [4] kFrz) [3] kFrz) (mNil))) (gSet 1)
def b_l_contents : MS := sSeq (sAsg (mCall lstF (mCons (mCall tupF (mNil)) (mNil))) (gSet 1))
    (sSeq (sFor (iSeq (mVar 0)) (gSet 2) (L_l_contents_1))
    (sRet (mVar 1)))
def f_l_contents : FS := runF 5 b_l_contents
def b_l_ends : MS := sSeq (sAsg (mCall (callF f_l_take) (mCons (mVar 0) (mCons (mC (.int 8)) (mNil)))) (gSet 4))
    (sSeq (sAsg (mCall lstF (mCons (mCall lstF (mCons (mVar 2) (mCons (mVar 3) (mNil)))) (mCons (mCall lstF (mCons (mVar 2) (mCons (mVar 3) (mNil)))) (mCons (mCall lstF (mCons (mVar 2) (mCons (mVar 3) (mNil)))) (mCons (mCall lstF (mCons (mVar 3) (mNil))) (mCons (mCall lstF (mCons (mVar 2) (mNil))) (mCons (mCall lstF (mNil)) (mCons (mCall listD (mCons (mVar 1) (mNil))) (mNil))))))))) (gSet 5))
    (sSeq (sIf (tOf (mBin ltD (mVar 4) (mC (.int 7)))) (sRet (mCall tupleD (mCons (mCall sortedA (mCons (mBin ixY (mVar 5) (mVar 4)) (mNil))) (mNil)))) (sNil))
    (sRet (mCall tupleD (mCons (mLc (iSeq (mVar 1)) (gSet 6) (tOf (mBin (eqA false) (mCall (callF f_l_take) (mCons (mVar 0) (mCons (mC (.int 2)) (mNil)))) (mC (.int 0)))) (mVar 6) [6] kFrz) (mNil))))))
def f_l_ends : FS := runF 7 b_l_ends
def L_crossing_orders_1 : MS := sAsg (vIf (tOf (mBin (inX false) (mVar 3) (mVar 1))) (mCall lstF (mNil)) (mCall (callF f_reached_from) (mCons (mBin ixY (mVar 0) (mC (.int 0))) (mCons (mCall lstF (mCons (mVar 3) (mNil))) (mCons (mVar 1) (mNil)))))) (gSubD (mVar 2) (mVar 3) setX)
def b_crossing_orders : MS := sSeq (sAsg (mNewT) (gSet 2))
    (sSeq (sFor (iSeq (mSortSetC (iSeq (mBin ixY (mVar 0) (mC (.int 2)))) (gSet 4) (tTrue) (mBin ixY (mVar 4) (mC (.int 0))) [4])) (gSet 3) (L_crossing_orders_1))
    (sRet (mLc (iEnumD (mCons (mBin ixY (mVar 0) (mC (.int 2))) (mNil))) (gTupD 2 (gsCons (gSet 5) (gsCons (gSet 4) (gsNil)))) (tOf (mBin (inX true) (mBin ixY (mVar 4) (mC (.int 1))) (mBin ixY (mVar 2) (mBin ixY (mVar 4) (mC (.int 0)))))) (mVar 5) [5, 4] kBox)))
def f_crossing_orders : FS := runF 6 b_crossing_orders
def b_l_place : MS := sSeq (sAsg (mBin addA (mC (.int 2)) (mCall (callF f_l_take) (mCons (mVar 0) (mCons (mBin subD (mVar 1) (mC (.int 1))) (mNil))))) (gSet 2))
    (sSeq (sAsg (mCall (callF f_l_some) (mCons (mVar 0) (mCons (mCall lstF (mCons (mC (.int 0)) (mCons (mC (.int 0)) (mCons (mC (.int 0)) (mCons (mC (.int 2)) (mCons (mC (.int 2)) (mCons (mC (.int 4)) (mCons (mC (.int 4)) (mCons (mC (.int 2)) (mCons (mC (.int 5)) (mCons (mC (.int 6)) (mCons (mC (.int 7)) (mNil))))))))))))) (mNil)))) (gSet 3))
    (sSeq (sAsg (mCall (callF f_l_flat) (mCons (mLc (iRng1D (mCons (mVar 2) (mNil))) (gSet 5) (tTrue) (mLc (iRng1D (mCons (mVar 2) (mNil))) (gSet 6) (tOf (mBin (eqA true) (mVar 6) (mVar 5))) (mCall tupF (mCons (mVar 5) (mCons (mVar 6) (mNil)))) [6] kFrz) [5] kFrz) (mNil))) (gSet 4))
    (sSeq (sIf (tOf (mBin ltD (mVar 3) (mC (.int 2)))) (sRet (mCall tupF (mCons (mVar 2) (mCons (mCall tupleD (mCons (mVar 4) (mNil))) (mNil))))) (sNil))
    (sSeq (sIf (tOrD (tOf (mBin ltD (mVar 3) (mC (.int 4)))) (tAndD (tOf (mBin (eqA false) (mVar 3) (mC (.int 4)))) (tOf (mBin ltD (mVar 2) (mC (.int 3)))))) (sRet (mCall tupF (mCons (mVar 2) (mCons (mCall tupleD (mCons (mLc (iSeq (mVar 4)) (gTupD 2 (gsCons (gSet 5) (gsCons (gSet 6) (gsNil)))) (tOf (mBin (inA false) (mBin subD (mVar 5) (mVar 6)) (mCall tupF (mCons (mC (.int 1)) (mCons (mNeg (mC (.int 1))) (mNil)))))) (mCall tupF (mCons (mVar 5) (mCons (mVar 6) (mNil)))) [5, 6] kFrz) (mNil))) (mNil))))) (sNil))
    (sSeq (sIf (tOf (mBin (eqA false) (mVar 3) (mC (.int 4)))) (sRet (mCall tupF (mCons (mVar 2) (mCons (mCall tupleD (mCons (mLc (iSeq (mVar 4)) (gTupD 2 (gsCons (gSet 5) (gsCons (gSet 6) (gsNil)))) (tOf (mBin (inA false) (mBin modD (mCall intD (mCons (mBin subD (mVar 5) (mVar 6)) (mNil))) (mVar 2)) (mCall tupF (mCons (mC (.int 1)) (mCons (mBin subD (mVar 2) (mC (.int 1))) (mNil)))))) (mCall tupF (mCons (mVar 5) (mCons (mVar 6) (mNil)))) [5, 6] kFrz) (mNil))) (mNil))))) (sNil))
    (sSeq (sIf (tOf (mBin (inA false) (mVar 3) (mCall tupF (mCons (mC (.int 5)) (mCons (mC (.int 7)) (mNil)))))) (sRet (mCall tupF (mCons (mVar 2) (mCons (mCall tupleD (mCons (mLc (iSeq (mVar 4)) (gTupD 2 (gsCons (gSet 5) (gsCons (gSet 6) (gsNil)))) (tAndD (tOf (mBin ltD (mVar 5) (mVar 6))) (tOrD (tOf (mBin (eqA false) (mVar 3) (mC (.int 5)))) (tOf (mBin (eqA false) (mVar 6) (mBin addA (mVar 5) (mC (.int 1))))))) (mCall tupF (mCons (mVar 5) (mCons (mVar 6) (mNil)))) [5, 6] kFrz) (mNil))) (mNil))))) (sNil))
    (sRet (mCall tupF (mCons (mVar 2) (mCons (mCall tupleD (mCons (mCall sortedD (mCons (mSl (mCall (callF f_l_mixed) (mCons (mVar 0) (mCons (mVar 4) (mNil)))) (oNo) (oYes (mCall (callF f_l_take) (mCons (mVar 0) (mCons (mBin addA (mCall lenD (mCons (mVar 4) (mNil))) (mC (.int 1))) (mNil)))))) (mNil))) (mNil))) (mNil)))))))))))
def f_l_place : FS := runF 7 b_l_place
def b_l_graph : MS := sRet (mFrzA (mCall dictP (mCons (mLc (iSeq (mCall (callF f_l_contents) (mCons (mVar 0) (mNil)))) (gSet 1) (tTrue) (mCall tupF (mCons (mVar 1) (mCons (mCall (callF f_l_steps) (mCons (mVar 0) (mCons (mVar 1) (mNil)))) (mNil)))) [1] kFrz) (mNil))))
def f_l_graph : FS := runF 2 b_l_graph
def L_l_way_by_1 : MS := sIf (tAndD (tOf (mBin (inX true) (mVar 10) (mVar 7))) (tOrD (tOf (mBin (eqA false) (mVar 10) (mVar 3))) (tOf (mBin (inX true) (mVar 10) (mVar 4))))) (sSeq (sAsg (mVar 9) (gSubD (mVar 7) (mVar 10) setX))
    (sExpr (mMt appendF (mVar 8) (mCons (mVar 10) (mNil))))) (sNil)
def L_l_way_by_2 : MS := sFor (iSeq (mCall (callF f_l_mixed) (mCons (mVar 0) (mCons (mBin ixY (mVar 1) (mVar 9)) (mNil))))) (gSet 10) (L_l_way_by_1)
def b_l_way_by : MS := sSeq (sPar 6 7 (mCons (mCall lstF (mCons (mVar 2) (mNil))) (mCons (mDisp1 (mVar 2) (mC .none)) mNil)))
    (sSeq (whileL (tAndD (tOf (mBin (eqA true) (mVar 6) (mCall lstF (mNil)))) (tOf (mBin (inX true) (mVar 3) (mVar 7)))) (sSeq (sAsg (mCall lstB (mNil)) (gSet 8))
    (sSeq (sFor (iSeq (mVar 6)) (gSet 9) (L_l_way_by_2))
    (sAsg (mFrzA (mVar 8)) (gSet 6)))) FUEL)
    (sSeq (sIf (tOrD (tOf (mBin (inX true) (mVar 3) (mVar 7))) (tOf (mBin (eqA false) (mVar 2) (mVar 3)))) (sRet (mC .none)) (sNil))
    (sSeq (sAsg (mCall lstB (mCons (mVar 3) (mNil))) (gSet 5))
    (sSeq (whileL (tOf (mBin (eqA true) (mBin ixY (mVar 5) (mC (.int 0))) (mVar 2))) (sExpr (mMt insertF (mVar 5) (mCons (mC (.int 0)) (mCons (mBin ixY (mVar 7) (mBin ixY (mVar 5) (mC (.int 0)))) (mNil))))) FUEL)
    (sRet (mCall tupleD (mCons (mVar 5) (mNil))))))))
def f_l_way_by : FS := runF 11 b_l_way_by
def b_l_rests : MS := sSeq (sAsg (mCall (callF f_l_some) (mCons (mVar 0) (mCons (mCall lstF (mCons (mC (.int 2)) (mCons (mC (.int 3)) (mCons (mC (.int 2)) (mCons (mC (.int 3)) (mCons (mVar 2) (mCons (mBin addA (mC (.int 1)) (mCall (callF f_l_take) (mCons (mVar 0) (mCons (mVar 2) (mNil))))) (mCons (mC (.int 2)) (mCons (mC (.int 4)) (mNil)))))))))) (mNil)))) (gSet 3))
    (sRet (mCall tupleD (mCons (mCall sortedA (mCons (mSl (mCall (callF f_l_mixed) (mCons (mVar 0) (mCons (mVar 1) (mNil)))) (oNo) (oYes (mCall min2D (mCons (mVar 3) (mCons (mVar 2) (mNil)))))) (mNil))) (mNil))))
def f_l_rests : FS := runF 4 b_l_rests
def L_l_couple_1 : MS := sAsg (vIf (tOf (mBin (inX false) (mBin ixY (mVar 3) (mC (.int 1))) (mBin ixY (mVar 1) (mBin ixY (mVar 3) (mC (.int 0)))))) (mSl (mCall (callF f_l_mixed) (mCons (mVar 0) (mCons (mVar 2) (mNil)))) (oNo) (oYes (mC (.int 2)))) (mVar 3)) (gSet 3)
def b_l_couple : MS := sSeq (sAsg (mSl (mCall (callF f_l_mixed) (mCons (mVar 0) (mCons (mVar 2) (mNil)))) (oNo) (oYes (mC (.int 2)))) (gSet 3))
    (sSeq (sFor (iRng1D (mCons (mC (.int 3)) (mNil))) (gSet 4) (L_l_couple_1))
    (sRet (mCall tupF (mCons (mBin ixY (mVar 3) (mC (.int 0))) (mCons (mBin ixY (mVar 3) (mC (.int 1))) (mNil))))))
def f_l_couple : FS := runF 5 b_l_couple
def L_l_crowded_1 : MS := sExpr (mMt extendF (mVar 6) (mCons (mLc (iSeq (mVar 3)) (gSet 9) (tOf (mBin (eqA true) (mVar 9) (mVar 4))) (mCall tupF (mCons (mVar 4) (mCons (mVar 9) (mNil)))) [9] kFrz) (mNil)))
def L_l_crowded_2 : MS := sSeq (sAsg (mBin ixY (mCall lstF (mCons (mCall tupF (mCons (mVar 4) (mCons (mVar 9) (mNil)))) (mCons (mCall tupF (mCons (mVar 9) (mNil))) (mCons (mCall tupF (mCons (mVar 4) (mNil))) (mCons (mCall tupF (mCons (mVar 4) (mCons (mVar 9) (mNil)))) (mCons (mCall (callF f_l_ends) (mCons (mVar 0) (mCons (mVar 3) (mCons (mVar 4) (mCons (mVar 9) (mNil)))))) (mNil))))))) (mVar 7)) (gSet 10))
    (sExpr (mMt appendF (mVar 5) (mCons (mCall tupF (mCons (mVar 4) (mCons (mVar 9) (mCons (mCall tupleD (mCons (mCall sortedA (mCons (mVar 10) (mNil))) (mNil))) (mNil))))) (mNil))))
def b_l_crowded : MS := sSeq (sAsg (mCall tupleD (mCons (mCall sortedA (mCons (mSl (mCall (callF f_l_mixed) (mCons (mVar 0) (mCons (mCall (callF f_l_contents) (mCons (mVar 1) (mNil))) (mNil)))) (oNo) (oYes (mBin addA (mC (.int 2)) (mCall (callF f_l_take) (mCons (mVar 0) (mCons (mBin subD (mVar 2) (mC (.int 1))) (mNil))))))) (mNil))) (mNil))) (gSet 3))
    (sSeq (sTupA 3 (gsCons (gSet 6) (gsCons (gSet 7) (gsCons (gSet 8) (gsNil)))) (mCons (mCall lstB (mNil)) (mCons (mCall (callF f_l_take) (mCons (mVar 0) (mCons (mC (.int 5)) (mNil)))) (mCons (mCall (callF f_l_some) (mCons (mVar 0) (mCons (mVar 3) (mNil)))) (mNil)))))
    (sSeq (sFor (iSeq (mVar 3)) (gSet 4) (L_l_crowded_1))
    (sSeq (sIf (tOf (mBin (eqA false) (mVar 7) (mC (.int 1)))) (sAsg (mLc (iSeq (mFrz (mVar 6))) (gSet 11) (tOf (mBin (eqA false) (mBin ixY (mVar 11) (mC (.int 0))) (mVar 8))) (mVar 11) [11] kBox) (gSet 6)) (sNil))
    (sSeq (sIf (tOf (mBin (eqA false) (mVar 7) (mC (.int 2)))) (sAsg (mLc (iSeq (mFrz (mVar 6))) (gSet 11) (tOf (mBin (eqA false) (mBin ixY (mVar 11) (mC (.int 1))) (mVar 8))) (mVar 11) [11] kBox) (gSet 6)) (sNil))
    (sSeq (sAsg (mCall lstB (mNil)) (gSet 5))
    (sSeq (sFor (iSeq (mFrz (mVar 6))) (gTupD 2 (gsCons (gSet 4) (gsCons (gSet 9) (gsNil)))) (L_l_crowded_2))
    (sSeq (sAsg (mSl (mCall (callF f_l_mixed) (mCons (mVar 0) (mCons (mFrzA (mVar 5)) (mNil)))) (oNo) (oYes (vIf (tOf (mBin gtD (mCall (callF f_l_take) (mCons (mVar 0) (mCons (mC (.int 3)) (mNil)))) (mC (.int 0)))) (mC (.int 20)) (mC (.int 5))))) (gSet 5))
    (sRet (mCall tupF (mCons (mVar 1) (mCons (mVar 3) (mCons (mCall tupleD (mCons (mCall sortedA (mCons (mVar 5) (mNil))) (mNil))) (mNil)))))))))))))
def f_l_crowded : FS := runF 12 b_l_crowded
def b_l_cut : MS := sRet (mCall tupleD (mCons (mCall sortedA (mCons (mSl (mCall (callF f_l_mixed) (mCons (mVar 0) (mCons (mCall (callF f_l_contents) (mCons (mVar 1) (mNil))) (mNil)))) (oNo) (oYes (mCall (callF f_l_take) (mCons (mVar 0) (mCons (mBin addA (mVar 2) (mC (.int 1))) (mNil)))))) (mNil))) (mNil)))
def f_l_cut : FS := runF 3 b_l_cut
def L_l_bench_1 : MS := sIf (tOf (mBin leD (mBin mulD (mVar 4) (mC (.int 2))) (mVar 1))) (sSeq (sExpr (mMt appendF (mVar 3) (mCons (mCall (callF f_l_place) (mCons (mVar 0) (mCons (mCall min2D (mCons (mCall (callF f_l_some) (mCons (mVar 0) (mCons (mCall lstF (mCons (mC (.int 6)) (mCons (mC (.int 4)) (mCons (mC (.int 3)) (mCons (mC (.int 3)) (mCons (mC (.int 2)) (mNil))))))) (mNil)))) (mCons (mBin fdivD (mVar 1) (mVar 4)) (mNil)))) (mNil)))) (mNil))))
    (sAsg (mBin mulD (mVar 4) (mBin idxD (mBin idxD (mVar 3) (mNeg (mC (.int 1)))) (mC (.int 0)))) (gSet 4))) (sNil)
def b_l_bench : MS := sSeq (sPar 3 4 (mCons (mCall lstB (mNil)) (mCons (mC (.int 1)) mNil)))
    (sSeq (sFor (iRng1D (mCons (mCall (callF f_l_some) (mCons (mVar 0) (mCons (mCall lstF (mCons (mC (.int 1)) (mCons (mC (.int 2)) (mCons (mC (.int 2)) (mCons (mC (.int 3)) (mCons (mC (.int 3)) (mCons (mC (.int 4)) (mCons (mC (.int 5)) (mNil))))))))) (mNil)))) (mNil))) (gSet 2) (L_l_bench_1))
    (sRet (mCall tupleD (mCons (mVar 3) (mNil)))))
def f_l_bench : FS := runF 5 b_l_bench
def L_l_any_task_1 : MS := sSeq (sAsg (mCall (callF f_l_couple) (mCons (mVar 0) (mCons (mVar 4) (mCons (mVar 6) (mNil))))) (gTupD 2 (gsCons (gSet 8) (gsCons (gSet 9) (gsNil)))))
    (sIf (tOf (mBin (isND true) (mCall (callF f_l_way_by) (mCons (mVar 0) (mCons (mVar 4) (mCons (mVar 8) (mCons (mVar 9) (mCons (mCall lstF (mNil)) (mNil))))))) (mC .none))) (sAsg (mCall (callF f_l_ends) (mCons (mVar 0) (mCons (mVar 6) (mCons (mVar 8) (mCons (mVar 9) (mNil)))))) (gSubD (mVar 7) (mCall tupF (mCons (mVar 8) (mCons (mVar 9) (mNil)))) setX)) (sNil))
def b_l_any_task : MS := sSeq (sAsg (mCall (callF f_l_graph) (mCons (mVar 1) (mNil))) (gSet 4))
    (sSeq (sTupA 2 (gsCons (gSet 6) (gsCons (gSet 7) (gsNil))) (mCons (mCall (callF f_l_rests) (mCons (mVar 0) (mCons (mCall sortedA (mCons (mVar 4) (mNil))) (mCons (mVar 2) (mNil))))) (mCons (mNewN) (mNil))))
    (sSeq (sFor (iRng1D (mCons (mBin mulD (mVar 3) (mCall intD (mCons (mBin gtD (mCall lenD (mCons (mVar 6) (mNil))) (mC (.int 1))) (mNil)))) (mNil))) (gSet 5) (L_l_any_task_1))
    (sRet (mCall tupF (mCons (mVar 1) (mCons (mVar 6) (mCons (mCall tupleD (mCons (mLc (iSeq (mCall sortedA (mCons (mVar 7) (mNil)))) (gSet 10) (tTrue) (mBin addA (mVar 10) (mCall tupF (mCons (mBin ixY (mVar 7) (mVar 10)) (mNil)))) [10] kFrz) (mNil))) (mNil))))))))
def f_l_any_task : FS := runF 11 b_l_any_task
def L_l_crossing_1 : MS := sSeq (sAsg (mSl (mVar 5) (oNo) (oYes (mC (.int 2)))) (gTupD 2 (gsCons (gSet 6) (gsCons (gSet 7) (gsNil)))))
    (sIf (tOrD (tOf (mBin (inX false) (mVar 6) (mVar 1))) (tOrD (tOf (mBin (inX false) (mVar 7) (mVar 1))) (tOf (mBin (inX true) (mVar 7) (mCall (callF f_l_reached) (mCons (mVar 3) (mCons (mCall lstF (mCons (mVar 6) (mNil))) (mCons (mVar 1) (mNil))))))))) (sExpr (mMt appendF (mVar 2) (mCons (mVar 4) (mNil)))) (sNil))
def b_l_crossing : MS := sSeq (sPar 3 2 (mCons (mCall (callF f_l_graph) (mCons (mBin ixY (mVar 0) (mC (.int 0))) (mNil))) (mCons (mCall lstB (mNil)) mNil)))
    (sSeq (sFor (iEnumD (mCons (mBin ixY (mVar 0) (mC (.int 2))) (mNil))) (gTupD 2 (gsCons (gSet 4) (gsCons (gSet 5) (gsNil)))) (L_l_crossing_1))
    (sRet (mFrzA (mVar 2))))
def f_l_crossing : FS := runF 8 b_l_crossing
def L_l_right_1 : MS := sSeq (sAsg (mCall (callF f_crossing_orders) (mCons (mVar 1) (mCons (mVar 4) (mNil)))) (gSet 8))
    (sSeq (sIf (tNotD (tTru (mCall (callF f_l_alike) (mCons (mVar 8) (mCons (mVar 5) (mNil)))))) (sRet (mC (.bool false))) (sNil))
    (sSeq (sExpr (mMt appendF (mVar 8) (mCons (mC .none) (mNil))))
    (sExpr (mMt reverseF (mVar 8) mNil))))
def L_l_right_2 : MS := sSeq (sAsg (mCall (callF f_l_crossing) (mCons (mVar 1) (mCons (mVar 4) (mNil)))) (gSet 5))
    (sSeq (sFor (iRng1D (mCons (mC (.int 2)) (mNil))) (gSet 6) (L_l_right_1))
    (sSeq (sAsg (mCall tupleD (mCons (mSortSet (mBin addA (mVar 4) (mCall tupF (mCons (mCall (callF f_l_some) (mCons (mVar 0) (mCons (mVar 2) (mNil)))) (mNil))))) (mNil))) (gSet 7))
    (sIf (tOf (mBin (eqA true) (mLc (iSeq (mVar 5)) (gSet 10) (tOf (mBin (inX true) (mVar 10) (mFrzA (mCall (callF f_crossing_orders) (mCons (mVar 1) (mCons (mVar 7) (mNil))))))) (mVar 10) [10] kFrz) (mCall lstF (mNil)))) (sRet (mC (.bool false))) (sNil))))
def b_l_right : MS := sSeq (sAsg (mCall tupleD (mCons (mCall (callF f_l_contents) (mCons (mBin ixY (mVar 1) (mC (.int 0))) (mNil))) (mNil))) (gSet 2))
    (sSeq (sAsg (mBin addA (mCall lstF (mCons (mCall tupF (mNil)) (mCons (mVar 2) (mCons (mBin ixY (mVar 1) (mC (.int 1))) (mNil))))) (mLc (iRng1D (mCons (mC (.int 5)) (mNil))) (gSet 9) (tTrue) (mCall (callF f_l_cut) (mCons (mVar 0) (mCons (mBin ixY (mVar 1) (mC (.int 0))) (mCons (mCall (callF f_l_some) (mCons (mVar 0) (mCons (mCall lstF (mCons (mC (.int 1)) (mCons (mC (.int 3)) (mCons (mC (.int 8)) (mNil))))) (mNil)))) (mNil))))) [9] kFrz)) (gSet 3))
    (sSeq (sFor (iSeq (mVar 3)) (gSet 4) (L_l_right_2))
    (sRet (mC (.bool true)))))
def f_l_right : FS := runF 11 b_l_right
def L_law_1 : MS := sSeq (sAsg (mCall (callF f_l_bench) (mCons (mVar 1) (mCons (mCall (callF f_l_some) (mCons (mVar 1) (mCons (mCall lstF (mCons (mC (.int 36)) (mCons (mC (.int 12)) (mCons (mC (.int 24)) (mCons (mC (.int 6)) (mNil)))))) (mNil)))) (mNil)))) (gSet 3))
    (sSeq (sAsg (vIf (tOf (mBin ltD (mVar 2) (mC (.int 2)))) (mCall (callF f_l_crowded) (mCons (mVar 1) (mCons (mVar 3) (mCons (mC (.int 8)) (mNil))))) (mCall (callF f_l_any_task) (mCons (mVar 1) (mCons (mVar 3) (mCons (mC (.int 8)) (mCons (mC (.int 12)) (mNil))))))) (gSet 4))
    (sSeq (sAsg (mCall reprD (mCons (mVar 4) (mNil))) (gSet 5))
    (sIf (tOrD (tNotD (tTru (mCall (callF f_l_right) (mCons (mVar 1) (mCons (mVar 4) (mNil)))))) (tOf (mBin (eqA true) (mCall reprD (mCons (mVar 4) (mNil))) (mVar 5)))) (sRet (mC (.bool false))) (sNil))))
def b_law : MS := sSeq (sAsg (mCall (callF f_l_bag) (mCons (mVar 0) (mNil))) (gSet 1))
    (sSeq (sFor (iRng1D (mCons (mC (.int 4)) (mNil))) (gSet 2) (L_law_1))
    (sRet (mC (.bool true))))
def f_law : FS := runF 6 b_law
end K62
end
noncomputable section
namespace K62
open PySem PySem.Spec PyProof.Rows L2 DL K17
theorem e_take : K62.f_l_take = fTake := rfl
theorem e_some : K62.f_l_some = fSome := rfl
theorem e_mixed : K62.f_l_mixed = fMixed := rfl
def Holds (w : PyData) (bs : List (List Int)) : Prop := w = .list (bs.map tI) ∨ w = .tuple (bs.map tI)
theorem lay_l (l : List (List Int)) : PyData.canLayAll0 (l.map tI) = true ∧ PyData.depthAll (l.map tI) ≤ 1 := by
  induction l with
  | nil => exact ⟨rfl, by decide⟩
  | cons x l ih =>
    refine ⟨by simp only [List.map_cons, PyData.canLayAll0, ih.1, Bool.and_true]; simp [tI, PyData.canLay0, lay_ints], ?_⟩
    simp only [List.map_cons, PyData.depthAll, dep_tI]
    exact Nat.max_le.mpr ⟨Nat.le_refl _, ih.2⟩
section
end
end K62
end
noncomputable section
namespace K62
open PySem PySem.Spec PyProof.Rows L2 DL K17
structure WInv (b : List Pl) (s : List Int) (found : List (List Int × Option (List Int))) : Prop where
  nd : (found.map (·.1)).Nodup
  fits : ∀ q ∈ found, Fits q.1 b
  par : ∀ i x p, found[i]? = some (x, p) → (i = 0 ∧ x = s) ∨ ∃ j y q, j < i ∧ p = some y ∧ found[j]? = some (y, q)
theorem WInv.len {b : List Pl} {s : List Int} {found : List (List Int × Option (List Int))} (h : WInv b s found) : found.length ≤ (conts b).length := by
  have h1 : (found.map (·.1)).length ≤ (conts b).length := List.Nodup.length_le_of_subset h.nd fun x hx => by
    obtain ⟨q, hq, rfl⟩ := List.mem_map.mp hx
    exact inV.mpr (h.fits q hq)
  rwa [List.length_map] at h1
section
end
end K62
end
noncomputable section
namespace K62
open PySem PySem.Spec PyProof.Rows L2 DL K17
end K62
end
noncomputable section
namespace K62
open PySem PySem.Spec PyProof.Rows L2 DL K17
abbrev Od := List Int × List Int × List (List Int)
def od (o : Od) : PyData := .tuple [tI o.1, tI o.2.1, .tuple (o.2.2.map tI)]
def tk (b : List Pl) (R : List (List Int)) (os : List Od) : PyData := .tuple [bn b, .tuple (R.map tI), .tuple (os.map od)]
def kv (fo : List Od) : List (List (List Int) × PyData) := fo.map fun o => ([o.1, o.2.1], .tuple (o.2.2.map tI))
/-- keys of keys, sorted -/
def cK (k : List (List Int)) : Cd := .tup (k.map cI)
def tK (k : List (List Int)) : PyData := .tuple (k.map tI)
end K62
end
local macro_rules | `(tactic| simp! only [$ts,*]) => `(tactic| simp -failIfUnchanged only [$ts,*, ↓DL.Wp_seq, ↓DL.Wp_nil, ↓DL.Wp_pass, ↓DL.Wp_break, ↓DL.Wp_cont, ↓DL.Wp_retN, ↓DL.Wp_expr, ↓DL.Wp_ret, ↓DL.Wp_sif, ↓DL.Wp_asg, ↓DL.Wp_par, ↓DL.Wp_par3, ↓DL.Wp_tupA, ↓DL.Wp_aug, ↓DL.Wp_augS, ↓DL.Wp_for, ↓DL.Wp_set, ↓DL.Wp_gtup, ↓DL.Wp_gnil, ↓DL.Wp_gcons, ↓DL.Wp_gsub, ↓DL.Wp_var, ↓DL.Wp_c, ↓DL.Wp_mnil, ↓DL.Wp_mcons, ↓DL.Wp_call, ↓DL.Wp_bin, ↓DL.Wp_mt, ↓DL.Wp_tof, ↓DL.Wp_ttru, ↓DL.Wp_tnot, ↓DL.Wp_tand, ↓DL.Wp_tor, ↓DL.Wp_tTrue, ↓DL.Wp_vif, ↓DL.Wp_vand, ↓DL.Wp_vor, ↓DL.Wp_vnot, ↓DL.Wp_sl, ↓DL.Wp_ono, ↓DL.Wp_oyes, ↓DL.Wp_frz, ↓DL.Wp_frzA, ↓DL.Wp_iseq, ↓DL.Wp_rng1, ↓DL.Wp_rng2, DL.Wp_some, DL.Wp_bind, DL.Wp_map, DL.seqK_nx, DL.seqK_rt, DL.seqK_bk, DL.seqK_ct, DL.ifK_t, DL.ifK_f, DL.ifK_nt, DL.augK_ok, DL.varK_ok, DL.parX_ok, DL.parY_ok, and_self, DL.toB_ok, DL.andK_t, DL.andK_f, DL.orK_t, DL.orK_f, DL.vifK_t, DL.vifK_f, DL.vandK_t, DL.vandK_f, DL.vorK_t, DL.vorK_f, DL.toO_ok, DL.toI_l, DL.toI_t, List.getElem?_cons_succ, List.getElem?_cons_zero, List.set_cons_succ, List.set_cons_zero, List.length_cons, List.length_nil, List.map_cons, List.map_nil, List.cons_append, List.nil_append, ↓reduceIte, DL.wipeD, DL.toZero, DL.ev_add, DL.ev_sub, DL.ev_iadd, DL.ev_isub, DL.ev_lt, DL.ev_gt, DL.ev_le, DL.ev_ge, DL.ev_eq, DL.ev_ne, DL.ev_min, DL.ev_max, DL.ev_int, DL.ev_abs, DL.lenD_l, DL.lenD_t, DL.tupleD_l, DL.listD_l, DL.listD_t, DL.isND_d, DL.ixY_lit0, DL.ixY_lit1, DL.ixY_lit2, DL.ixY_lst0, DL.ixY_lst1, Nat.zero_add, Int.zero_add, Nat.reduceAdd, Nat.reduceLT, Nat.reduceSub, Nat.reduceEqDiff, Nat.reduceBEq, Nat.reduceLeDiff, Nat.succ_eq_add_one, Int.reduceAdd, Int.reduceSub, Int.reduceNeg, true_and, and_true, DL.get_end, DL.set_end, DL.isLst_loc, DL.isLstO_ok, DL.frzX_loc, DL.frzXo_ok, DL.frzXo_nil, DL.frzXo_one, DL.frzY_loc, DL.frzYo_ok, DL.frzYo_nil, DL.frzYo_one, DL.sz1, DL.sz2, DL.sz3, DL.sz4, DL.sz5, DL.sz6, DL.sz7, DL.sz8, DL.tupF_0, DL.tupF_1, DL.tupF_2, DL.tupF_3, DL.tupF_4, DL.tupF_5, DL.tupF_6, DL.tupF_7, DL.lstF_0, DL.lstF_1, DL.lstF_2, DL.lstF_3, DL.lstF_4, DL.lstF_5, DL.lstF_6, DL.lstF_7, DL.lstF_8, DL.lstF_9, DL.lstF_10, DL.lstF_11, DL.lstB_0, DL.lstB_1, DL.lstB_2, DL.lstB_3, DL.lstB_4, DL.lstB_5, DL.truD_b, Bool.not_true, Bool.not_false, ↓DL.Wp_fz, DL.fzV_ok, DL.fzO_ok, DL.frzO_l, DL.frzO_nil, DL.frzO_one, ↓DL.Wp_iseqK, DL.toK_l, DL.toK_t, DL.toK_d, ↓DL.Wp_rng3, ↓DL.Wp_star, DL.seqOf_t, DL.seqOf_l, ↓DL.Wp_mneg, DL.getD_s, DL.lenX_l, DL.lenX_t, DL.lenX_d, DL.inZ_d, ↓DL.Wp_getX1, ↓DL.Wp_getX2, DL.ev_ltX, DL.ev_gtX, DL.ev_leX, DL.ev_geX, List.append_nil, true_or])
local macro_rules | `(tactic| simp! only) => `(tactic| simp -failIfUnchanged only [↓DL.Wp_seq, ↓DL.Wp_nil, ↓DL.Wp_pass, ↓DL.Wp_break, ↓DL.Wp_cont, ↓DL.Wp_retN, ↓DL.Wp_expr, ↓DL.Wp_ret, ↓DL.Wp_sif, ↓DL.Wp_asg, ↓DL.Wp_par, ↓DL.Wp_par3, ↓DL.Wp_tupA, ↓DL.Wp_aug, ↓DL.Wp_augS, ↓DL.Wp_for, ↓DL.Wp_set, ↓DL.Wp_gtup, ↓DL.Wp_gnil, ↓DL.Wp_gcons, ↓DL.Wp_gsub, ↓DL.Wp_var, ↓DL.Wp_c, ↓DL.Wp_mnil, ↓DL.Wp_mcons, ↓DL.Wp_call, ↓DL.Wp_bin, ↓DL.Wp_mt, ↓DL.Wp_tof, ↓DL.Wp_ttru, ↓DL.Wp_tnot, ↓DL.Wp_tand, ↓DL.Wp_tor, ↓DL.Wp_tTrue, ↓DL.Wp_vif, ↓DL.Wp_vand, ↓DL.Wp_vor, ↓DL.Wp_vnot, ↓DL.Wp_sl, ↓DL.Wp_ono, ↓DL.Wp_oyes, ↓DL.Wp_frz, ↓DL.Wp_frzA, ↓DL.Wp_iseq, ↓DL.Wp_rng1, ↓DL.Wp_rng2, DL.Wp_some, DL.Wp_bind, DL.Wp_map, DL.seqK_nx, DL.seqK_rt, DL.seqK_bk, DL.seqK_ct, DL.ifK_t, DL.ifK_f, DL.ifK_nt, DL.augK_ok, DL.varK_ok, DL.parX_ok, DL.parY_ok, and_self, DL.toB_ok, DL.andK_t, DL.andK_f, DL.orK_t, DL.orK_f, DL.vifK_t, DL.vifK_f, DL.vandK_t, DL.vandK_f, DL.vorK_t, DL.vorK_f, DL.toO_ok, DL.toI_l, DL.toI_t, List.getElem?_cons_succ, List.getElem?_cons_zero, List.set_cons_succ, List.set_cons_zero, List.length_cons, List.length_nil, List.map_cons, List.map_nil, List.cons_append, List.nil_append, ↓reduceIte, DL.wipeD, DL.toZero, DL.ev_add, DL.ev_sub, DL.ev_iadd, DL.ev_isub, DL.ev_lt, DL.ev_gt, DL.ev_le, DL.ev_ge, DL.ev_eq, DL.ev_ne, DL.ev_min, DL.ev_max, DL.ev_int, DL.ev_abs, DL.lenD_l, DL.lenD_t, DL.tupleD_l, DL.listD_l, DL.listD_t, DL.isND_d, DL.ixY_lit0, DL.ixY_lit1, DL.ixY_lit2, DL.ixY_lst0, DL.ixY_lst1, Nat.zero_add, Int.zero_add, Nat.reduceAdd, Nat.reduceLT, Nat.reduceSub, Nat.reduceEqDiff, Nat.reduceBEq, Nat.reduceLeDiff, Nat.succ_eq_add_one, Int.reduceAdd, Int.reduceSub, Int.reduceNeg, true_and, and_true, DL.get_end, DL.set_end, DL.isLst_loc, DL.isLstO_ok, DL.frzX_loc, DL.frzXo_ok, DL.frzXo_nil, DL.frzXo_one, DL.frzY_loc, DL.frzYo_ok, DL.frzYo_nil, DL.frzYo_one, DL.sz1, DL.sz2, DL.sz3, DL.sz4, DL.sz5, DL.sz6, DL.sz7, DL.sz8, DL.tupF_0, DL.tupF_1, DL.tupF_2, DL.tupF_3, DL.tupF_4, DL.tupF_5, DL.tupF_6, DL.tupF_7, DL.lstF_0, DL.lstF_1, DL.lstF_2, DL.lstF_3, DL.lstF_4, DL.lstF_5, DL.lstF_6, DL.lstF_7, DL.lstF_8, DL.lstF_9, DL.lstF_10, DL.lstF_11, DL.lstB_0, DL.lstB_1, DL.lstB_2, DL.lstB_3, DL.lstB_4, DL.lstB_5, DL.truD_b, Bool.not_true, Bool.not_false, ↓DL.Wp_fz, DL.fzV_ok, DL.fzO_ok, DL.frzO_l, DL.frzO_nil, DL.frzO_one, ↓DL.Wp_iseqK, DL.toK_l, DL.toK_t, DL.toK_d, ↓DL.Wp_rng3, ↓DL.Wp_star, DL.seqOf_t, DL.seqOf_l, ↓DL.Wp_mneg, DL.getD_s, DL.lenX_l, DL.lenX_t, DL.lenX_d, DL.inZ_d, ↓DL.Wp_getX1, ↓DL.Wp_getX2, DL.ev_ltX, DL.ev_gtX, DL.ev_leX, DL.ev_geX, List.append_nil, true_or])
noncomputable section
namespace K62
open PySem PySem.Spec PyProof.Rows L2 DL K17
end K62
end
noncomputable section
namespace DL
open PySem PySem.Spec PyProof.Rows L2 DL K17
section
variable {S : Sto} {n : Nat} {c k : PyData} {w : W} {neg : Bool} {ob : Ob} {ks : List (List Int)} {x : List Int}
def ixYb (c : PyData) (S : Sto) (ob : Ob) : Option (W × Sto) := (ixY (.loc 0) (.d c) [ob]).map fun r => (r.1, S)
theorem ixY_loc : ixY (.loc n) (.d c) S = (S[n]?).bind (ixYb c S) := by
  unfold ixYb
  cases h : S[n]? with
  | none => cases c <;> simp [ixY, isN, isDicA, isDic, h, ixX, idxD]
  | some ob => cases ob <;> cases c <;> simp [ixY, isN, nlook, isDicA, isDic, h, ixX, idxD, dgetA, dlookA, dlook, Option.map_map, Option.map_bind] <;> rfl
def setXb (n : Nat) (c : PyData) (w : W) (S : Sto) : Ob → Option Sto
  | .dicT kvs => match c with
    | .tuple ds => (keysE ds).bind fun k => if kvs.length < sizeLine then some (S.set n (.dicT (putW kvs k w))) else none
    | _ => none
  | .dicK kvs => (keyD c).bind fun k => if kvs.length < sizeLine then some (S.set n (.dicK (putW kvs k w))) else none
  | .dicN kvs => match w with
    | .d d => (keyN (.d c)).bind fun k => if kvs.length < sizeLine then some (S.set n (.dicN (putN kvs k d))) else none
    | _ => none
  | .lst ws => match c with
    | .int i => (ixN ws.length i).map fun j => S.set n (.lst (ws.set j w))
    | _ => none
  | .dead => none
theorem setX_loc : setX (.loc n) (.d c) w S = (S[n]?).bind (setXb n c w S) := by
  cases h : S[n]? with
  | none => cases c <;> simp [setX, isN, isDic, h, setF]
  | some ob =>
    cases ob with
    | dicN kvs => cases w <;> simp [setX, isN, h, nputF, setXb]
    | dicT kvs => cases c <;> simp [setX, isN, isDic, h, dputF, setXb]
    | dicK kvs => simp [setX, isN, isDic, h, dputF, setXb]
    | lst ws => cases c <;> simp [setX, isN, isDic, h, setF, setXb]
    | dead => cases c <;> simp [setX, isN, isDic, h, setF, setXb]
end
section
end
section
end
section
end
/-- a comprehension that changes the store -/
theorem wp_lcJ {ρ : DEnv} {S S1 : Sto} {it : MI} {g : MG} {T : MT} {A : ME} {vs : List Nat} {ws : List W} {Φ : W × Sto → Prop} (J : Sto → Nat → List PyData → Sto → Prop) (hi : Wp (it ρ S) fun p => p = (ws, S1)) (h0 : J S1 0 [] S1)
    (st : ∀ i w acc S, ws[i]? = some w → J S1 i acc S → Wp (g w (wipeD ρ vs) S) fun p => Wp (T p.1 p.2) fun q => (q.1 = true ∧ Wp (A p.1 q.2) fun r => ∃ x, r.1 = .d x ∧ J S1 (i + 1) (acc ++ [x]) r.2) ∨ (q.1 = false ∧ J S1 (i + 1) acc q.2))
    (fin : ∀ acc S, J S1 ws.length acc S → acc.length ≤ sizeLine ∧ Φ (.d (.list acc), S)) : Wp (mLc it g T A vs kFrz ρ S) Φ := by
  obtain ⟨_, e, rfl⟩ := hi
  suffices h : ∀ (us : List W) (k : Nat) (acc : List PyData) (S : Sto), ws.drop k = us → k ≤ ws.length → J S1 k acc S → ∃ acc2 S2, lcL g T A vs ρ us S = some (acc2.map W.d, S2) ∧ J S1 ws.length (acc ++ acc2) S2 by
    obtain ⟨acc, S2, e2, j⟩ := h ws 0 [] S1 rfl (Nat.zero_le _) h0
    obtain ⟨f1, f2⟩ := fin _ _ j
    rw [List.nil_append] at f1 f2
    exact ⟨_, by simp only [mLc, e, Option.bind_some, e2, kFrz, allD_map, if_pos f1], f2⟩
  intro us
  induction us with
  | nil =>
    intro k acc S e hk j
    have : k = ws.length := by
      have := congrArg List.length e
      rw [List.length_drop] at this
      simp at this; omega
    subst this
    exact ⟨[], S, rfl, by rw [List.append_nil]; exact j⟩
  | cons w us ih =>
    intro k acc S e hk j
    have hw : ws[k]? = some w := by
      have := congrArg (fun l => l[0]?) e
      simpa [List.getElem?_drop] using this
    have hk1 : k + 1 ≤ ws.length := (List.getElem?_eq_some_iff.mp hw).1
    have hd : ws.drop (k + 1) = us := by
      rw [← List.drop_drop, e]; rfl
    obtain ⟨⟨ρ1, S2⟩, e1, ⟨⟨t, S3⟩, e2, c⟩⟩ := st k w acc S hw j
    simp only at e2 c
    rcases c with ⟨rfl, ⟨v, S4⟩, e3, x, hv, j2⟩ | ⟨rfl, j2⟩
    · simp only at hv j2; subst hv
      obtain ⟨acc2, S5, e4, j3⟩ := ih (k + 1) _ S4 hd hk1 j2
      exact ⟨x :: acc2, S5, by simp only [lcL, e1, e2, e3, e4, Option.bind_some, if_true, List.map_cons], by simpa using j3⟩
    · obtain ⟨acc2, S5, e4, j3⟩ := ih (k + 1) _ S3 hd hk1 j2
      exact ⟨acc2, S5, by simp only [lcL, e1, e2, e4, Option.bind_some, Bool.false_eq_true, if_false], j3⟩
end DL
end
noncomputable section
namespace K62
open PySem PySem.Spec PyProof.Rows L2 DL K17
inductive Rch (b : List Pl) (bar ss : List (List Int)) : List Int → Prop
  | base {x : List Int} : x ∈ ss → Rch b bar ss x
  | step {x y : List Int} : Rch b bar ss x → y ∈ adjC b x → y ∉ bar → Rch b bar ss y
/-- the new ones of some are told -/
def vis (bar : List (List Int)) (p : List (List Int) × List (List Int)) (y : List Int) : List (List Int) × List (List Int) := if y ∉ p.1 ∧ y ∉ bar then (p.1 ++ [y], p.2 ++ [y]) else p
structure RI (b : List Pl) (bar ss M open_ : List (List Int)) : Prop where
  nd : M.Nodup
  fits : ∀ x ∈ M, Fits x b
  rch : ∀ x ∈ M, Rch b bar ss x
  base : ∀ x ∈ ss, x ∈ M
  sub : ∀ x ∈ open_, x ∈ M
  cl : ∀ x ∈ M, x ∈ open_ ∨ ∀ y ∈ adjC b x, y ∉ bar → y ∈ M
theorem RI.len {b : List Pl} {bar ss M o : List (List Int)} (h : RI b bar ss M o) : M.length ≤ (conts b).length :=
  List.Nodup.length_le_of_subset h.nd fun x hx => inV.mpr (h.fits x hx)
theorem lt_sz {n : Nat} (h : n ≤ 1000000) : n < sizeLine := Nat.lt_of_le_of_lt h (by decide)
end K62
end
noncomputable section
namespace K62
open PySem PySem.Spec PyProof.Rows L2 DL K17
end K62
end
noncomputable section
namespace K62
open PySem PySem.Spec PyProof.Rows L2 DL K17
end K62
end
noncomputable section
namespace KH
open PySem PySem.Spec PyProof.Rows L2 DL K17 K62
def SLt (a b : List Int) : Prop := ltC (cI a) (cI b) = true
theorem cI_inj {a b : List Int} (h : cI a = cI b) : a = b := by
  have : a.map Cd.int = b.map Cd.int := by injection h
  exact (List.map_inj_right (fun x y e => by injection e)).mp this
theorem SLt.irr {a : List Int} (h : SLt a a) : False := by unfold SLt at h; rw [ltC_irr] at h; cases h
theorem SLt.trans {a b c : List Int} (h : SLt a b) (k : SLt b c) : SLt a c := ltC_trans h k
theorem SLt.asym {a b : List Int} (h : SLt a b) : ¬ SLt b a := fun k => (h.trans k).irr
theorem sortL_asc {l : List (List Int)} (h : l.Nodup) : (sortL l).Pairwise SLt := by
  have hn : (sortL l).Nodup := (sortL_perm l).nodup_iff.mpr h
  have hs := sortL_srtd l
  have : (sortL l).Pairwise fun x y => x ≠ y ∧ ltC (cI y) (cI x) = false := List.Pairwise.and hn hs
  refine this.imp fun {x y} ⟨h1, h2⟩ => ?_
  rcases ltC_tot h2 with e | e
  · exact absurd (cI_inj e).symm h1
  · exact e
theorem asc_nodup {l : List (List Int)} (h : l.Pairwise SLt) : l.Nodup := h.imp fun {a b} k e => by subst e; exact k.irr
theorem asc_uniq : ∀ {l m : List (List Int)}, l.Pairwise SLt → m.Pairwise SLt → (∀ x, x ∈ l ↔ x ∈ m) → l = m
  | [], [], _, _, _ => rfl
  | [], y :: m, _, _, h => absurd ((h y).mpr (by simp)) (by simp)
  | x :: l, [], _, _, h => absurd ((h x).mp (by simp)) (by simp)
  | x :: l, y :: m, hl, hm, h => by
    obtain ⟨h1, h2⟩ := List.pairwise_cons.mp hl
    obtain ⟨k1, k2⟩ := List.pairwise_cons.mp hm
    have e : x = y := by
      rcases List.mem_cons.mp ((h x).mp (by simp)) with e | e
      · exact e
      · rcases List.mem_cons.mp ((h y).mpr (by simp)) with e2 | e2
        · exact e2.symm
        · exact absurd (h1 y e2) (k1 x e).asym
    subst e
    rw [asc_uniq h2 k2 fun z => ?_]
    have nx : z ∈ l → z ≠ x := fun hz e => by subst e; exact (h1 z hz).irr
    have ny : z ∈ m → z ≠ x := fun hz e => by subst e; exact (k1 z hz).irr
    constructor
    · intro hz
      rcases List.mem_cons.mp ((h z).mp (by simp [hz])) with e | e
      · exact absurd e (nx hz)
      · exact e
    · intro hz
      rcases List.mem_cons.mp ((h z).mpr (by simp [hz])) with e | e
      · exact absurd e (ny hz)
      · exact e
def ky (o : Od) : List (List Int) := [o.1, o.2.1]
structure OrdOk (R : List (List Int)) (o : Od) : Prop where
  s : o.1 ∈ R
  t : o.2.1 ∈ R
  ne : o.1 ≠ o.2.1
  e : ∀ x ∈ o.2.2, x ∈ R
  asc : o.2.2.Pairwise SLt
structure TskOk (b : List Pl) (R : List (List Int)) (os : List Od) : Prop where
  rf : ∀ x ∈ R, Fits x b
  rs : R.Pairwise SLt
  r0 : R ≠ []
  rl : R.length ≤ 8
  of : ∀ o ∈ os, OrdOk R o
  oa : os.Pairwise fun a b => ltC (cK (ky a)) (cK (ky b)) = true
  ol : os.length ≤ 40
end KH
end
noncomputable section
namespace KH
open PySem PySem.Spec PyProof.Rows L2 DL K17 K62
end KH
end
noncomputable section
namespace KH
open PySem PySem.Spec PyProof.Rows L2 DL K17 K62
theorem cutDr {α : Type} (xs : List α) (k : Nat) : DL.cutD xs (some (k : Int)) none = xs.drop k := by
  have h : HT.sIx xs.length xs.length none = xs.length := rfl
  unfold DL.cutD
  rw [h, HT.sIx_nat]
  by_cases hk : k ≤ xs.length
  · rw [Nat.min_eq_left hk, List.take_of_length_le (by rw [List.length_drop]; exact Nat.le_refl _)]
  · rw [Nat.min_eq_right (by omega), List.drop_length, List.drop_eq_nil_of_le (by omega)]; simp
theorem slice_dr {α : Type} {enc : α → PyData} {l : List α} {k : Nat} {S : Sto} : sliceD (.d (.tuple (l.map enc))) (some (k : Int)) none S = some (.d (.tuple ((l.drop k).map enc)), S) := by
  simp only [sliceD, cutDr, List.map_drop]
end KH
end
noncomputable section
namespace KH
open PySem PySem.Spec PyProof.Rows L2 DL K17 K62
/-- step by step -/
def Wlk (b : List Pl) : List (List Int) → Prop
  | x :: y :: l => y ∈ adjC b x ∧ Wlk b (y :: l)
  | _ => True
/-- a way from s to t whose inner contents are not barred -/
structure WayP (b : List Pl) (bs : List (List Int)) (s t : List Int) (m : List (List Int)) : Prop where
  wk : Wlk b (s :: (m ++ [t]))
  ok : ∀ x ∈ m, x ∉ bs
theorem Wlk.tail {b : List Pl} {x : List Int} {l : List (List Int)} (h : Wlk b (x :: l)) : Wlk b l := by
  cases l with
  | nil => trivial
  | cons y l => exact h.2
theorem Wlk.fits {b : List Pl} (g : Good b) : ∀ {l : List (List Int)} {x : List Int}, Wlk b (x :: l) → Fits x b → ∀ y ∈ l, Fits y b
  | [], _, _, _, _, hy => by cases hy
  | z :: l, x, h, hx, y, hy => by
    have hz := adj_fits g hx h.1
    rcases List.mem_cons.mp hy with e | e
    · rw [e]; exact hz
    · exact Wlk.fits g h.2 hz y e
/-- found: each with who came ahead of it -/
structure WJ (b : List Pl) (bs : List (List Int)) (s t : List Int) (found : List (List Int × Option (List Int))) : Prop where
  nd : (found.map (·.1)).Nodup
  fits : ∀ q ∈ found, Fits q.1 b
  par : ∀ i x p, found[i]? = some (x, p) → (i = 0 ∧ x = s) ∨ ∃ j y q, j < i ∧ p = some y ∧ found[j]? = some (y, q) ∧ x ∈ adjC b y ∧ (x = t ∨ x ∉ bs)
theorem WJ.len {b : List Pl} {bs : List (List Int)} {s t : List Int} {found : List (List Int × Option (List Int))} (h : WJ b bs s t found) : found.length ≤ (conts b).length := by
  have h1 : (found.map (·.1)).length ≤ (conts b).length := List.Nodup.length_le_of_subset h.nd fun x hx => by
    obtain ⟨q, hq, rfl⟩ := List.mem_map.mp hx
    exact inV.mpr (h.fits q hq)
  rwa [List.length_map] at h1
theorem WJ.one {b : List Pl} {bs : List (List Int)} {s t : List Int} (hs : Fits s b) : WJ b bs s t [(s, none)] :=
  ⟨by simp, fun q hq => by rw [List.mem_singleton.mp hq]; exact hs, fun i x p hi => by
    cases i with
    | zero => have : (s, (none : Option (List Int))) = (x, p) := by simpa using hi
              cases this; exact .inl ⟨rfl, rfl⟩
    | succ i => simp at hi⟩
theorem WJ.idx {b : List Pl} {bs : List (List Int)} {s t x : List Int} {found : List (List Int × Option (List Int))} (h : WJ b bs s t found) {i j : Nat} {p q : Option (List Int)} (hi : found[i]? = some (x, p)) (hj : found[j]? = some (x, q)) : i = j := by
  obtain ⟨h1, e1⟩ := List.getElem?_eq_some_iff.mp hi
  obtain ⟨h2, e2⟩ := List.getElem?_eq_some_iff.mp hj
  have h3 : i < (found.map (·.1)).length := by rw [List.length_map]; exact h1
  have h4 : j < (found.map (·.1)).length := by rw [List.length_map]; exact h2
  exact (List.getElem_inj (h₀ := h3) (h₁ := h4) h.nd).mp (by simp [e1, e2])
/-- on the way back -/
structure WB (b : List Pl) (bs : List (List Int)) (s t : List Int) (found : List (List Int × Option (List Int))) (i0 i : Nat) (u : List Int) (r : List (List Int)) : Prop where
  at_ : ∃ p, found[i]? = some (u, p)
  wk : Wlk b (u :: r)
  sh : (u = t ∧ r = [] ∧ i = i0) ∨ ∃ m, r = m ++ [t] ∧ (∀ x ∈ m, x ∉ bs) ∧ (u = s ∨ u ∉ bs) ∧ i < i0
  ln : r.length + i ≤ i0
theorem WB.step {b : List Pl} {bs : List (List Int)} {s t : List Int} {found : List (List Int × Option (List Int))} {i0 i : Nat} {u : List Int} {r : List (List Int)} (hj : WJ b bs s t found) (h0 : ∃ p, found[i0]? = some (t, p)) (h : WB b bs s t found i0 i u r) (hu : u ≠ s) :
    ∃ j y, (u, some y) ∈ found ∧ j < i ∧ WB b bs s t found i0 j y (u :: r) := by
  obtain ⟨p, hp⟩ := h.at_
  rcases hj.par i u p hp with ⟨_, c⟩ | ⟨j, y, q, h1, rfl, h3, h4, h5⟩
  · exact absurd c hu
  · refine ⟨j, y, List.mem_of_getElem? hp, h1, ⟨_, h3⟩, ⟨h4, h.wk⟩, .inr ?_, by have := h.ln; simp only [List.length_cons]; omega⟩
    have hji : j < i0 := by
      rcases h.sh with ⟨_, _, rfl⟩ | ⟨_, _, _, _, k⟩ <;> omega
    have hy : y = s ∨ y ∉ bs := by
      rcases hj.par j y q h3 with ⟨_, c⟩ | ⟨_, _, _, _, _, _, _, c | c⟩
      · exact .inl c
      · subst c
        obtain ⟨p0, h0⟩ := h0
        have := hj.idx h3 h0
        omega
      · exact .inr c
    rcases h.sh with ⟨rfl, rfl, rfl⟩ | ⟨m, rfl, k1, k2, k3⟩
    · exact ⟨[], rfl, fun x hx => (by cases hx), hy, hji⟩
    · refine ⟨u :: m, rfl, fun x hx => ?_, hy, hji⟩
      rcases List.mem_cons.mp hx with rfl | hx
      · exact k2.resolve_left hu
      · exact k1 x hx
/-- all that can be come to from xs by a step stands in K -/
def Cls (b : List Pl) (bs : List (List Int)) (t : List Int) (xs K : List (List Int)) : Prop := ∀ x ∈ xs, ∀ y ∈ adjC b x, (y = t ∨ y ∉ bs) → y ∈ K
theorem Cls.mono {b : List Pl} {bs xs K K2 : List (List Int)} {t : List Int} (h : Cls b bs t xs K) (k : ∀ x ∈ K, x ∈ K2) : Cls b bs t xs K2 := fun x hx y hy c => k y (h x hx y hy c)
end KH
end
noncomputable section
namespace KP
open PySem PySem.Spec PyProof.Rows L2 DL
end KP
end
noncomputable section
namespace KH
open PySem PySem.Spec PyProof.Rows L2 DL K17 K62
section
end
theorem Wlk.pre {b : List Pl} : ∀ {l r : List (List Int)}, Wlk b (l ++ r) → Wlk b l
  | [], _, _ => trivial
  | [x], _, _ => trivial
  | x :: y :: l, r, h => ⟨h.1, Wlk.pre (l := y :: l) (r := r) h.2⟩
theorem dia {R : List (List Int)} : (R.map fun r => (r, r)).map (·.1) = R := by rw [List.map_map]; simp [Function.comp_def]
/-- homes and rows that are grown row by row -/
inductive Grown (b : List Pl) (R : List (List Int)) : List (List Int × List Int) → List (List Int × List Int) → Prop
  | base : Grown b R (R.map fun r => (r, r)) []
  | step {hm rw : List (List Int × List Int)} {x y h : List Int} : Grown b R hm rw → x ∉ hm.map (·.1) → Fits x b → y ∈ adjC b x → (y, h) ∈ hm → Grown b R (hm ++ [(x, h)]) (rw ++ [(x, y)])
theorem Grown.keys {b : List Pl} {R : List (List Int)} {hm rw : List (List Int × List Int)} (h : Grown b R hm rw) : hm.map (·.1) = R ++ rw.map (·.1) := by
  induction h with
  | base => rw [dia]; simp
  | step h _ _ _ _ ih => simp [ih]
theorem Grown.nd {b : List Pl} {R : List (List Int)} {hm rw : List (List Int × List Int)} (h : Grown b R hm rw) (hR : R.Nodup) : (hm.map (·.1)).Nodup := by
  induction h with
  | base => rw [dia]; exact hR
  | step h hx _ _ _ ih =>
    rw [List.map_append, List.nodup_append]
    refine ⟨ih, by simp, fun a ha c hc => ?_⟩
    rw [List.map_singleton] at hc
    rw [List.mem_singleton.mp hc]; rintro rfl; exact hx ha
theorem Grown.fits {b : List Pl} {R : List (List Int)} {hm rw : List (List Int × List Int)} (h : Grown b R hm rw) (hR : ∀ x ∈ R, Fits x b) : ∀ q ∈ hm, Fits q.1 b ∧ q.2 ∈ R := by
  induction h with
  | base =>
    intro q hq
    obtain ⟨r, hr, rfl⟩ := List.mem_map.mp hq
    exact ⟨hR r hr, hr⟩
  | step h hx hf _ hy ih =>
    intro q hq
    rcases List.mem_append.mp hq with c | c
    · exact ih q c
    · rw [List.mem_singleton.mp c]
      exact ⟨hf, (ih _ hy).2⟩
theorem Grown.rows {b : List Pl} {R : List (List Int)} {hm rw : List (List Int × List Int)} (h : Grown b R hm rw) : ∀ q ∈ rw, q.2 ∈ adjC b q.1 ∧ Fits q.1 b := by
  induction h with
  | base => intro q hq; cases hq
  | step h hx hf hy _ ih =>
    intro q hq
    rcases List.mem_append.mp hq with c | c
    · exact ih q c
    · rw [List.mem_singleton.mp c]; exact ⟨hy, hf⟩
theorem Grown.len {b : List Pl} {R : List (List Int)} {hm rw : List (List Int × List Int)} (h : Grown b R hm rw) (hR : R.Nodup) (hf : ∀ x ∈ R, Fits x b) : hm.length ≤ (conts b).length ∧ rw.length ≤ hm.length := by
  have h1 : (hm.map (·.1)).length ≤ (conts b).length := List.Nodup.length_le_of_subset (h.nd hR) fun x hx => by
    obtain ⟨q, hq, rfl⟩ := List.mem_map.mp hx
    exact inV.mpr (h.fits hf q hq).1
  have h2 := congrArg List.length h.keys
  simp at h1 h2
  omega
end KH
end
noncomputable section
namespace KH
open PySem PySem.Spec PyProof.Rows L2 DL K17 K62
section
end
structure RuleOk (b : List Pl) (R : List (List Int)) (rws : List (List Int × List Int)) : Prop where
  asc : (rws.map (·.1)).Pairwise SLt
  ok : ∀ q ∈ rws, Fits q.1 b ∧ q.1 ∉ R ∧ q.2 ∈ adjC b q.1
/-- an order, and the inner contents of its way -/
abbrev Oe : Type := Od × List (List Int)
def wayL (e : Oe) : List (List Int) := e.1.1 :: (e.2 ++ [e.1.2.1])
/-- the ways fit the orders -/
structure WaysL (b : List Pl) (L : Nat) (es : List Oe) : Prop where
  wk : ∀ e ∈ es, Wlk b (wayL e)
  ln : ∀ e ∈ es, e.2.length ≤ L
abbrev WaysOk (b : List Pl) (es : List Oe) : Prop := WaysL b ((conts b).length + 10) es
def kP (e : Oe) : List (List Int) := ky e.1
end KH
end
noncomputable section
namespace KQ
open PySem PySem.Spec PyProof.Rows L2 DL
end KQ
end
noncomputable section
namespace KH
open PySem PySem.Spec PyProof.Rows L2 DL K17 K62
section
end
theorem RuleOk.nd {b : List Pl} {R : List (List Int)} {rws : List (List Int × List Int)} (h : RuleOk b R rws) : (rws.map (·.1)).Nodup := asc_nodup h.asc
theorem RuleOk.len {b : List Pl} {R : List (List Int)} {rws : List (List Int × List Int)} (h : RuleOk b R rws) : rws.length ≤ (conts b).length := by
  have : (rws.map (·.1)).length ≤ (conts b).length := List.Nodup.length_le_of_subset h.nd fun x hx => by
    obtain ⟨q, hq, rfl⟩ := List.mem_map.mp hx
    exact inV.mpr (h.ok q hq).1
  rwa [List.length_map] at this
def Rbl (b : List Pl) (s t : List Int) : Prop := ∃ m, WayP b [] s t m
end KH
end
noncomputable section
namespace KH
open PySem PySem.Spec PyProof.Rows L2 DL K17 K62
end KH
end
noncomputable section
namespace KH
open PySem PySem.Spec PyProof.Rows L2 DL K17 K62
structure World (b : List Pl) (R : List (List Int)) (es : List Oe) (rws : List (List Int × List Int)) : Prop where
  t : TskOk b R (es.map (·.1))
  r : ∀ e ∈ es, Rbl b e.1.1 e.1.2.1
  ru : RuleOk b R rws
  w : WaysOk b es
end KH
end
noncomputable section
namespace KH
open PySem PySem.Spec PyProof.Rows L2 DL K17 K62
def isiW (T : String) (p : W × Sto) : Option (W × Sto) := match p.1 with
  | .d d => (tyD d).map fun a => (.d (.bool (isiT a T)), p.2)
  | .loc _ => none
  | .fn => none
def nxt (rws : List (List Int × List Int)) (x : List Int) : Option (List Int) := (rws.find? fun q => decide (q.1 = x)).map (·.2)
def hby (R : List (List Int)) (rws : List (List Int × List Int)) : Nat → List Int → Option (List Int)
  | 0, _ => none
  | n + 1, x => if x ∈ R then some x else match nxt rws x with
    | none => none
    | some y => hby R rws n y
def home (R : List (List Int)) (rws : List (List Int × List Int)) (x : List Int) : Option (List Int) := hby R rws (rws.length + 1) x
theorem hby_next {R : List (List Int)} {rws : List (List Int × List Int)} {n : Nat} {x y : List Int} (h : x ∉ R) (k : nxt rws x = some y) : hby R rws (n + 1) x = hby R rws n y := by simp only [hby, if_neg h, k]
end KH
end
noncomputable section
namespace KH
open PySem PySem.Spec PyProof.Rows L2 DL K17 K62
section
end
/-- on the way home -/
structure HJv (R : List (List Int)) (rws : List (List Int × List Int)) (x : List Int) (seen : List (List Int)) (here : List Int) : Prop where
  nd : seen.Nodup
  sn : ∀ y ∈ seen, y ∈ rws.map (·.1) ∧ y ∉ R ∧ ∃ z, nxt rws y = some z ∧ (z ∈ seen ∨ z = here)
  hm : home R rws x = hby R rws (rws.length + 1 - seen.length) here
theorem HJv.len {R : List (List Int)} {rws : List (List Int × List Int)} {x here : List Int} {seen : List (List Int)} (h : HJv R rws x seen here) : seen.length ≤ rws.length := by
  have := List.Nodup.length_le_of_subset h.nd (fun y hy => (h.sn y hy).1)
  rwa [List.length_map] at this
theorem HJv.step {R : List (List Int)} {rws : List (List Int × List Int)} {x here z : List Int} {seen : List (List Int)} (h : HJv R rws x seen here) (hn : (rws.map (·.1)).Nodup) (h1 : here ∉ R) (h2 : here ∈ rws.map (·.1)) (h3 : here ∉ seen) (hz : nxt rws here = some z) : HJv R rws x (seen ++ [here]) z := by
  have hl := h.len
  refine ⟨?_, fun y hy => ?_, ?_⟩
  · rw [List.nodup_append]
    refine ⟨h.nd, by simp, fun a ha c hc => ?_⟩
    rw [List.mem_singleton.mp hc]; rintro rfl; exact h3 ha
  · rcases List.mem_append.mp hy with c | c
    · obtain ⟨k1, k2, w, k3, k4⟩ := h.sn y c
      refine ⟨k1, k2, w, k3, ?_⟩
      rcases k4 with k4 | k4
      · exact .inl (List.mem_append_left _ k4)
      · rw [k4]; exact .inl (by simp)
    · rw [List.mem_singleton.mp c]
      exact ⟨h2, h1, z, hz, .inr rfl⟩
  · have e : rws.length + 1 - seen.length = (rws.length - seen.length) + 1 := by omega
    have e2 : rws.length + 1 - (seen ++ [here]).length = rws.length - seen.length := by rw [List.length_append, List.length_singleton]; omega
    rw [h.hm, e, hby_next h1 hz, e2]
end KH
end
noncomputable section
namespace KH
open PySem PySem.Spec PyProof.Rows L2 DL K17 K62
def inO (o : Option (List Int)) (E : List (List Int)) : Bool := match o with
  | some x => decide (x ∈ E)
  | none => false
def atW (way : List (List Int)) (i : Nat) : List Int := way[i]?.getD []
def brk (hm : List Int → Option (List Int)) (E way : List (List Int)) : List Nat := (List.range (way.length - 2)).filter fun i => !inO (hm (atW way (i + 1))) E
section
end
end KH
end
noncomputable section
namespace KH
open PySem PySem.Spec PyProof.Rows L2 DL K17 K62
section
variable {us : List W} {w : W} {n k : Nat} {S : Sto}
theorem atI_natW {l : List W} (h : l[k]? = some w) : atI l (k : Int) = some w := by
  have hk := (List.getElem?_eq_some_iff.mp h).1
  have : ixN l.length (k : Int) = some k := by
    simp [ixN]; omega
  unfold atI
  rw [this, Option.bind_some, h]
theorem ixY_lst (h : S[n]? = some (.lst us)) (hk : us[k]? = some w) : ixY (.loc n) (.d (.int (k : Nat))) S = some (w, S) := by
  simp only [ixY_loc, h, Option.bind_some, ixYb, ixY, isN, List.getElem?_cons_zero, Bool.false_eq_true, if_false, ixX, isDicA, isDic, idxD, atI_natW hk, Option.map_some]
theorem setX_lst (h : S[n]? = some (.lst us)) (hk : k < us.length) : setX (.loc n) (.d (.int (k : Nat))) w S = some (S.set n (.lst (us.set k w))) := by
  have : ixN us.length (k : Int) = some k := by
    simp [ixN]; omega
  simp only [setX_loc, h, Option.bind_some, setXb, this, Option.map_some]
end
end KH
end
noncomputable section
namespace KH
open PySem PySem.Spec PyProof.Rows L2 DL K17 K62
end KH
end
noncomputable section
namespace KH
open PySem PySem.Spec PyProof.Rows L2 DL K17 K62
def chK (g : W → W → Sto → Option (W × Sto)) (C : ME) (ρ : DEnv) (y : W) (Φ : W × Sto → Prop) : Bool × Sto → Prop := fun p => if p.1 = true then Wp (C ρ p.2) fun r => Wp (g y r.1 r.2) Φ else Φ (.d (.bool false), p.2)
theorem Wp_chain {f g : W → W → Sto → Option (W × Sto)} {A B C : ME} {ρ : DEnv} {S : Sto} {Φ : W × Sto → Prop} : Wp (vChain f g A B C ρ S) Φ = Wp (A ρ S) fun p => Wp (B ρ p.2) fun q => Wp (f p.1 q.1 q.2) fun z => Wp (toB z) (chK g C ρ q.1 Φ) := by
  unfold vChain
  rw [Wp_bind]; congr 1; funext p
  rw [Wp_bind]; congr 1; funext q
  rw [Wp_bind]; congr 1; funext z
  obtain ⟨w, S1⟩ := z
  rcases w with (_ | k | _ | _ | _ | _ | _) | _ | _ <;> first
    | (simp [toB, Wp]; done)
    | (cases k <;> simp [toB, Wp_some, chK, Wp_bind])
theorem chK_t {g : W → W → Sto → Option (W × Sto)} {C : ME} {ρ : DEnv} {y : W} {Φ : W × Sto → Prop} {S : Sto} : chK g C ρ y Φ (true, S) = Wp (C ρ S) fun r => Wp (g y r.1 r.2) Φ := rfl
theorem chK_f {g : W → W → Sto → Option (W × Sto)} {C : ME} {ρ : DEnv} {y : W} {Φ : W × Sto → Prop} {S : Sto} : chK g C ρ y Φ (false, S) = Φ (.d (.bool false), S) := rfl
section
end
end KH
end
noncomputable section
namespace KH
open PySem PySem.Spec PyProof.Rows L2 DL K17 K62
def H5 : Nat := 2870177450012600261
section
end
end KH
end
noncomputable section
namespace KH
open PySem PySem.Spec PyProof.Rows L2 DL K17 K62
end KH
end
noncomputable section
namespace KJ
open PySem PySem.Spec PyProof.Rows L2 DL
def b_is_integer : MS := sRet (vAndT (mIsi "int" (mVar 0)) (vNot (mIsi "bool" (mVar 0))))
def f_is_integer : FS := runF 1 b_is_integer
def b_is_ascending (g : PyData → Option PyData) : MS := sSeq (sIf (tOrD (tNotD (tTru (mIsi "tuple" (mVar 0)))) (tNotD (tTru (mCall allDD (mCons (mLc (iSeqK (mVar 0)) (gSet 2) (tTrue) (mAct g 1 (mVar 2)) [2] kFrz) (mNil)))))) (sRet (mC (.bool false))) (sNil))
    (sRet (mCall allDD (mCons (mLc (iZipD (mCons (mVar 0) (mCons (mSl (mVar 0) (oYes (mC (.int 1))) (oNo)) (mNil)))) (gTupD 2 (gsCons (gSet 2) (gsCons (gSet 3) (gsNil)))) (tTrue) (mBin ltX (mVar 2) (mVar 3)) [2, 3] kFrz) (mNil))))
def f_is_ascending (g : PyData → Option PyData) : FS := runF 4 (b_is_ascending g)
def b_is_move : MS := sSeq (sIf (tOrD (tNotD (tTru (mIsi "tuple" (mVar 1)))) (tOrD (tOf (mBin (eqA true) (mCall lenX (mCons (mVar 1) (mNil))) (mC (.int 2)))) (tNotD (tTru (mCall allDD (mCons (mLc (iSeqK (mVar 1)) (gSet 2) (tTrue) (mCall (callF f_is_integer) (mCons (mVar 2) (mNil))) [2] kFrz) (mNil))))))) (sRet (mC (.bool false))) (sNil))
    (sRet (vAnd (mBin (eqA true) (mBin ixY (mVar 1) (mC (.int 0))) (mBin ixY (mVar 1) (mC (.int 1)))) (mCall allDD (mCons (mLc (iSeqK (mVar 1)) (gSet 2) (tTrue) (vChain leD ltD (mC (.int 0)) (mVar 2) (mVar 0)) [2] kFrz) (mNil)))))
def f_is_move : FS := runF 3 b_is_move
def m_is_place_1 : ME := mCall (callF f_is_move) (mCons (mBin ixY (mVar 1) (mC (.int 0))) (mCons (mVar 0) (mNil)))
def b_is_place : MS := sSeq (sIf (tOrD (tNotD (tTru (mIsi "tuple" (mVar 0)))) (tOrD (tOf (mBin (eqA true) (mCall lenX (mCons (mVar 0) (mNil))) (mC (.int 2)))) (tOrD (tNotD (tTru (mCall (callF f_is_integer) (mCons (mBin ixY (mVar 0) (mC (.int 0))) (mNil))))) (tNotD (tOf (vChain leD leD (mC (.int 2)) (mBin ixY (mVar 0) (mC (.int 0))) (mC (.int 6)))))))) (sRet (mC (.bool false))) (sNil))
    (sRet (mLam f_is_ascending m_is_place_1 [0] (mBin ixY (mVar 0) (mC (.int 1)))))
def f_is_place : FS := runF 1 b_is_place
def b_is_bench : MS := sRet (vAndT (mIsi "tuple" (mVar 0)) (vAnd (mBin (eqA true) (mVar 0) (mCall tupF (mNil))) (mCall allDD (mCons (mLc (iSeqK (mVar 0)) (gSet 1) (tTrue) (mCall (callF f_is_place) (mCons (mVar 1) (mNil))) [1] kFrz) (mNil)))))
def f_is_bench : FS := runF 2 b_is_bench
end KJ
end
noncomputable section
namespace KJ
open PySem PySem.Spec PyProof.Rows L2 DL K17 K62 KH
theorem wp_lam {fs : (PyData → Option PyData) → FS} {F A : ME} {caps : List Nat} {ρ : DEnv} {S S1 : Sto} {Φ : W × Sto → Prop} {x y : PyData} {ds : List PyData} (hA : A ρ S = some (.d x, S1)) (hc : capD ρ caps = some ds)
    (h : fs (lamG F ds) [.d x, .fn] [] = some (.d y, [])) (k : Φ (.d y, S1)) : Wp (mLam fs F caps A ρ S) Φ := by
  refine ⟨_, ?_, k⟩
  unfold mLam
  rw [hA, Option.bind_some, hc, Option.bind_some]
  simp only [lamX, h, Option.bind_some]
theorem lamG_of {F : ME} {ds : List PyData} {x y : PyData} (h : F (some (W.d x) :: ds.map fun d => some (W.d d)) [] = some (.d y, [])) : lamG F ds x = some y := by
  unfold lamG; rw [h]
theorem wp_act {g : PyData → Option PyData} {i : Nat} {A : ME} {ρ : DEnv} {S S1 : Sto} {Φ : W × Sto → Prop} {x y : PyData} (hi : ρ[i]? = some (some .fn)) (hA : A ρ S = some (.d x, S1)) (h : g x = some y) (k : Φ (.d y, S1)) : Wp (mAct g i A ρ S) Φ := by
  refine ⟨_, ?_, k⟩
  unfold mAct actV
  rw [hi]
  simp only [hA, Option.bind_some, actX, h, Option.map_some]
/-- a body that takes what it gets, and gives data -/
theorem wp_runL {f : MS} {N : Nat} {vs : List W} {y : PyData} (h : Wp (f (vs.map some ++ List.replicate (N - vs.length) none) []) fun r => r.1 = .rt (.d y)) : runF N f vs [] = some (.d y, []) := by
  obtain ⟨⟨_, ρ', S'⟩, e, rfl⟩ := h
  exact runF_ret0 ⟨ρ', S', e⟩
theorem lex_int (x y : Int) (l m : List (Int ⊕ List Nat)) : PyProof.Rows.lexLt itemOrd (Sum.inl x :: l) (Sum.inl y :: m) = if x = y then PyProof.Rows.lexLt itemOrd l m else decide (x < y) := by
  by_cases h : x = y
  · subst h
    rw [if_pos rfl, lex_self]
  · rw [if_neg h, PySem.W.lex_atom (by simpa using h)]
    have := PySem.W.dataLt_int x y
    simpa [PySem.W.dataLt, PySem.W.keyToks] using this
mutual
theorem lexC : ∀ (c d : Cd) (s t : List (Int ⊕ List Nat)), kindC c d = true → PyProof.Rows.lexLt itemOrd (PySem.W.keyToks (toP c) ++ s) (PySem.W.keyToks (toP d) ++ t) = (match cmpC c d with | .lt => true | .gt => false | .eq => PyProof.Rows.lexLt itemOrd s t)
  | .int x, .int y, s, t, _ => by
    simp only [toP, PySem.W.keyToks, List.singleton_append, cmpC, cmpI2]
    rw [lex_int]
    by_cases h : x = y
    · subst h; simp
    · by_cases h2 : x < y <;> simp [h, h2]
  | .tup cs, .tup ds, s, t, h => by
    simp only [toP, PySem.W.keyToks, cmpC]
    exact lexCs cs ds s t (by simpa [kindC] using h)
  | .int _, .tup _, _, _, h => by simp [kindC] at h
  | .tup _, .int _, _, _, h => by simp [kindC] at h
theorem lexCs : ∀ (cs ds : List Cd) (s t : List (Int ⊕ List Nat)), kindCs cs ds = true → PyProof.Rows.lexLt itemOrd (PySem.W.keyToksAll (toPs cs) ++ s) (PySem.W.keyToksAll (toPs ds) ++ t) = (match cmpCs cs ds with | .lt => true | .gt => false | .eq => PyProof.Rows.lexLt itemOrd s t)
  | [], [], s, t, _ => by
    simp only [toPs, PySem.W.keyToksAll, cmpCs]
    show PyProof.Rows.lexLt itemOrd (Sum.inl 0 :: s) (Sum.inl 0 :: t) = _
    rw [lex_int, if_pos rfl]
  | [], d :: ds, s, t, _ => by
    simp only [toPs, PySem.W.keyToksAll, List.cons_append, cmpCs]
    rw [lex_int, if_neg (by decide)]
    decide
  | c :: cs, [], s, t, _ => by
    simp only [toPs, PySem.W.keyToksAll, List.cons_append, cmpCs]
    rw [lex_int, if_neg (by decide)]
    decide
  | c :: cs, d :: ds, s, t, h => by
    simp only [kindCs, Bool.and_eq_true] at h
    simp only [toPs, PySem.W.keyToksAll, List.cons_append, List.append_assoc, cmpCs]
    rw [lex_int, if_pos rfl, lexC c d _ _ h.1]
    cases e : cmpC c d with
    | lt => rfl
    | gt => rfl
    | eq => exact lexCs cs ds s t h.2
end
theorem dltC {c d : Cd} (h : kindC c d = true) : PySem.W.dataLt (toP c) (toP d) = ltC c d := by
  have := lexC c d [] [] h
  rw [List.append_nil, List.append_nil] at this
  unfold PySem.W.dataLt ltC
  rw [this]
  cases cmpC c d <;> first | rfl | decide
mutual
theorem alikeC : ∀ c d : Cd, kindC c d = true → PySem.W.alike (toP c) (toP d) = true
  | .int _, .int _, _ => rfl
  | .tup cs, .tup ds, h => by
    simp only [toP, PySem.W.alike]
    exact alikeCs cs ds (by simpa [kindC] using h)
  | .int _, .tup _, h => by simp [kindC] at h
  | .tup _, .int _, h => by simp [kindC] at h
theorem alikeCs : ∀ cs ds : List Cd, kindCs cs ds = true → PySem.W.alikeAll (toPs cs) (toPs ds) = true
  | [], _, _ => by simp [toPs, PySem.W.alikeAll]
  | _ :: _, [], _ => by simp [toPs, PySem.W.alikeAll]
  | c :: cs, d :: ds, h => by
    simp only [kindCs, Bool.and_eq_true] at h
    simp only [toPs, PySem.W.alikeAll, alikeC c d h.1, alikeCs cs ds h.2, Bool.and_true]
end
theorem ltX_C {c d : Cd} {S : Sto} (h : kindC c d = true) (hd : (toP c).depth ≤ 60) : ltX (.d (toP c)) (.d (toP d)) S = some (.d (.bool (ltC c d)), S) := by
  unfold ltX cmpX
  have hn : isNon (toP c) = false := by cases c <;> rfl
  simp only [alikeC c d h, hd_toP, hn, hd, decide_true, Bool.and_true, Bool.not_false, if_true, dltC h]
theorem ltX_enc {α : Type} {enc : α → PyData} {κ : α → Cd} (he : ∀ a, enc a = toP (κ a)) (hk : ∀ a b : α, kindC (κ a) (κ b) = true) (hd : ∀ a, (enc a).depth ≤ 60) (a b : α) (S : Sto) : ltX (.d (enc a)) (.d (enc b)) S = some (.d (.bool (ltC (κ a) (κ b))), S) := by
  rw [he a, he b]
  exact ltX_C (hk a b) (by rw [← he]; exact hd a)
theorem n2 : decide (((2 : Nat) : Int) = 2) = true := rfl
def andTK (B : ME) (ρ : DEnv) (Φ : W × Sto → Prop) (p : W × Sto) : Prop := Wp (truD p.2 p.1) fun c => if c = true then Wp (B ρ p.2) Φ else Φ p
theorem Wp_vAndT {A B : ME} {ρ : DEnv} {S : Sto} {Φ : W × Sto → Prop} : Wp (vAndT A B ρ S) Φ = Wp (A ρ S) (andTK B ρ Φ) := by
  unfold vAndT
  rw [Wp_bind]; congr 1; funext p
  unfold andTK
  rw [Wp_bind]; congr 1; funext c
  rw [Wp_if, Wp_some]
theorem andTK_t {B : ME} {ρ : DEnv} {S : Sto} {Φ : W × Sto → Prop} : andTK B ρ Φ (.d (.bool true), S) = Wp (B ρ S) Φ := by
  show Wp (some true) _ = _
  rw [Wp_some]; rfl
theorem andTK_f {B : ME} {ρ : DEnv} {S : Sto} {Φ : W × Sto → Prop} : andTK B ρ Φ (.d (.bool false), S) = Φ (.d (.bool false), S) := by
  show Wp (some false) _ = _
  rw [Wp_some]; rfl
theorem eqof {f : FS} {ws : List W} {S : Sto} {y : PyData} (h : Wp (callF f ws S) fun r => ∃ x, r = (.d x, S) ∧ x = y) : callF f ws S = some (.d y, S) := by
  obtain ⟨r, e, x, rfl, rfl⟩ := h
  exact e
def adj {α : Type} (lt : α → α → Bool) (l : List α) : Bool := (l.zip l.tail).all fun p => lt p.1 p.2
theorem adj_of {α : Type} {lt : α → α → Bool} : ∀ {l : List α}, l.Pairwise (fun a b => lt a b = true) → adj lt l = true
  | [], _ => rfl
  | [_], _ => rfl
  | a :: b :: l, h => by
    have h2 := List.pairwise_cons.mp h
    have ih := adj_of (lt := lt) (l := b :: l) h2.2
    unfold adj at ih ⊢
    simp only [List.tail_cons, List.zip_cons_cons, List.all_cons, h2.1 b (by simp), Bool.true_and] at ih ⊢
    exact ih
theorem zipF_map {α β : Type} {f : α → PyData} {g : β → PyData} : ∀ (l : List α) (m : List β), zipF (l.map f) (m.map g) = ((l.zip m).map fun q => PyData.tuple [f q.1, g q.2]).map W.d
  | [], m => by simp [zipF]
  | _ :: _, [] => by simp [zipF]
  | x :: l, y :: m => by simp only [List.map_cons, zipF, List.zip_cons_cons, zipF_map l m]
theorem wp_zipG {α β : Type} {f : α → PyData} {g : β → PyData} {l : List α} {m : List β} {R : MA} {ρ : DEnv} {S S1 : Sto} (hr : ∀ a ∈ l, ∀ b, rowP (f a) = false ∨ rowP (g b) = false) (h : Wp (R ρ S) fun p => p = ([.d (.tuple (l.map f)), .d (.tuple (m.map g))], S1)) : Wp (iZipD R ρ S) fun p => p = (((l.zip m).map fun q => PyData.tuple [f q.1, g q.2]).map W.d, S1) := by
  obtain ⟨_, e, rfl⟩ := h
  have hz : (((l.map f).zip (m.map g)).all fun q => !ruly [q.1, q.2]) = true := by
    rw [List.all_eq_true]
    intro q hq
    rw [List.zip_map] at hq
    obtain ⟨p, hp, rfl⟩ := List.mem_map.mp hq
    simp only [Prod.map, ruly, List.all_cons, List.all_nil, Bool.and_true]
    rcases hr p.1 (List.of_mem_zip hp).1 p.2 with h | h <;> simp [h]
  refine ⟨_, ?_, rfl⟩
  simp only [iZipD, e, Option.bind_some, hz, if_true, zipF_map]
theorem ix0 {a : PyData} {l : List PyData} {S : Sto} : ixY (.d (.tuple (a :: l))) (.d (.int 0)) S = some (.d a, S) := ixY_lit0
theorem rowP_tI (c : List Int) : rowP (tI c) = false := by
  cases c with
  | nil => rfl
  | cons x c => cases c with
    | nil => rfl
    | cons y c => cases c <;> rfl
theorem tI_toP (a : List Int) : tI a = toP (cI a) := (ofP_eq _ _ (ofP_tI a))
theorem dep_tI (a : List Int) : (tI a).depth ≤ 60 := by
  have := (lay_l [a]).2
  simp only [List.map_cons, List.map_nil, PyData.depthAll] at this
  omega
theorem ltX_c (a b : List Int) (S : Sto) : ltX (.d (tI a)) (.d (tI b)) S = some (.d (.bool (ltC (cI a) (cI b))), S) := ltX_enc tI_toP kind_cI dep_tI a b S
end KJ
end
noncomputable section
namespace KB
open PySem PySem.Spec PyProof.Rows L2 DL K17 KH KJ
/-- data as these laws draw it -/
def fine (d : PyData) : Prop := d.showable = true ∧ d.leavesShort 50 = true
def fineA (ds : List PyData) : Prop := ∀ d ∈ ds, fine d
theorem fine_l {ds : List PyData} : fine (.list ds) ↔ fineA ds := by
  have h : ∀ ds : List PyData, (PyData.showableAll ds = true ∧ PyData.leavesShortAll 50 ds = true) ↔ fineA ds := fun ds => by
    induction ds with
    | nil => simp [PyData.showableAll, PyData.leavesShortAll, fineA]
    | cons d ds ih =>
      unfold fineA at ih ⊢
      rw [List.forall_mem_cons, ← ih]
      simp only [PyData.showableAll, PyData.leavesShortAll, Bool.and_eq_true, fine]
      constructor
      · rintro ⟨⟨a, b⟩, c, e⟩; exact ⟨⟨a, c⟩, b, e⟩
      · rintro ⟨⟨a, c⟩, b, e⟩; exact ⟨⟨a, b⟩, c, e⟩
  rw [← h]
  simp only [fine, PyData.showable, PyData.leavesShort]
theorem fine_t {ds : List PyData} : fine (.tuple ds) ↔ fineA ds := by
  rw [← fine_l]
  simp only [fine, PyData.showable, PyData.leavesShort]
theorem dA_iff {k : Nat} : ∀ {ds : List PyData}, PyData.depthAll ds ≤ k ↔ ∀ d ∈ ds, d.depth ≤ k
  | [] => by simp [PyData.depthAll]
  | d :: ds => by
    have h := dA_iff (k := k) (ds := ds)
    simp only [PyData.depthAll, List.forall_mem_cons, Nat.max_le, h]
theorem wA_len : ∀ ds : List PyData, ds.length ≤ PyData.weightAll ds
  | [] => by simp [PyData.weightAll]
  | d :: ds => by
    have := wA_len ds
    simp only [PyData.weightAll, List.length_cons]
    omega
theorem wA_append : ∀ ds es : List PyData, PyData.weightAll (ds ++ es) = PyData.weightAll ds + PyData.weightAll es
  | [], es => by simp [PyData.weightAll]
  | d :: ds, es => by
    have := wA_append ds es
    simp only [List.cons_append, PyData.weightAll, this]
    omega
theorem wA_mem {d : PyData} : ∀ {ds : List PyData}, d ∈ ds → d.weight + 1 ≤ PyData.weightAll ds
  | [], h => absurd h (by simp)
  | e :: ds, h => by
    simp only [PyData.weightAll]
    rcases List.mem_cons.mp h with rfl | h
    · omega
    · have := wA_mem h
      omega
theorem wA_set {x : PyData} : ∀ {ds : List PyData} {i : Nat} (h : i < ds.length), PyData.weightAll (ds.set i x) + ds[i].weight = PyData.weightAll ds + x.weight
  | [], _, h => absurd h (by simp)
  | d :: ds, 0, _ => by simp only [List.set_cons_zero, PyData.weightAll, List.getElem_cons_zero]; omega
  | d :: ds, i + 1, h => by
    have := wA_set (x := x) (ds := ds) (i := i) (by simpa using h)
    simp only [List.set_cons_succ, PyData.weightAll, List.getElem_cons_succ]
    omega
theorem wA_erase : ∀ (ds : List PyData) (i : Nat), PyData.weightAll (ds.eraseIdx i) ≤ PyData.weightAll ds
  | [], _ => by simp [PyData.weightAll]
  | d :: ds, 0 => by simp only [List.eraseIdx_cons_zero, PyData.weightAll]; omega
  | d :: ds, i + 1 => by
    have := wA_erase ds i
    simp only [List.eraseIdx_cons_succ, PyData.weightAll]
    omega
theorem wA_ins (ds : List PyData) (i : Nat) (x : PyData) : PyData.weightAll (ds.take i ++ [x] ++ ds.drop i) = PyData.weightAll ds + x.weight + 1 := by
  have h := wA_append (ds.take i) (ds.drop i)
  rw [List.take_append_drop] at h
  rw [wA_append, wA_append]
  simp only [PyData.weightAll]
  omega
/-- data of a known size -/
structure Fn (k w : Nat) (d : PyData) : Prop where
  fn : fine d
  dp : d.depth ≤ k
  wt : d.weight ≤ w
structure FnA (k w : Nat) (ds : List PyData) : Prop where
  fn : fineA ds
  dp : ∀ x ∈ ds, x.depth ≤ k
  wt : PyData.weightAll ds ≤ w
theorem Fn.up {k w k' w' : Nat} {d : PyData} (h : Fn k w d) (a : k ≤ k') (b : w ≤ w') : Fn k' w' d := ⟨h.fn, Nat.le_trans h.dp a, Nat.le_trans h.wt b⟩
theorem FnA.l {k w : Nat} {ds : List PyData} (h : FnA k w ds) : Fn (k + 1) w (.list ds) := ⟨fine_l.mpr h.fn, by simp only [PyData.depth]; exact Nat.succ_le_succ (dA_iff.mpr h.dp), by simpa only [PyData.weight] using h.wt⟩
theorem FnA.t {k w : Nat} {ds : List PyData} (h : FnA k w ds) : Fn (k + 1) w (.tuple ds) := ⟨fine_t.mpr h.fn, by simp only [PyData.depth]; exact Nat.succ_le_succ (dA_iff.mpr h.dp), by simpa only [PyData.weight] using h.wt⟩
theorem Fn.il {k w : Nat} {ds : List PyData} (h : Fn (k + 1) w (.list ds)) : FnA k w ds := ⟨fine_l.mp h.fn, dA_iff.mp (by have := h.dp; simp only [PyData.depth] at this; omega), by simpa only [PyData.weight] using h.wt⟩
theorem Fn.it {k w : Nat} {ds : List PyData} (h : Fn (k + 1) w (.tuple ds)) : FnA k w ds := ⟨fine_t.mp h.fn, dA_iff.mp (by have := h.dp; simp only [PyData.depth] at this; omega), by simpa only [PyData.weight] using h.wt⟩
theorem Fn.repr {k w : Nat} {d : PyData} (h : Fn k w d) (hk : k ≤ 64) (hw : w ≤ 300000) : reprOkS d = true := by
  have h1 := PyData.shown_le 50 (by decide) d h.fn.2
  have h2 := h.wt
  have h3 := h.dp
  have h4 : (50 + 2) * d.weight + 50 ≤ 16777216 := by omega
  simp only [reprOkS, Bool.and_eq_true, decide_eq_true_eq]
  exact ⟨⟨h.fn.1, by omega⟩, by rw [sizeLine_eq]; omega⟩
theorem Fn_i {i : Int} (h : i.natAbs < 10 ^ 3) : Fn 0 13 (.int i) := by
  have := niceInt (B := 50) (dp := 0) h (by decide) (by decide) (by decide)
  exact ⟨⟨this.sh, this.ls⟩, this.dep, this.wt⟩
def isI (lo hi : Int) : PyData → Bool
  | .int i => decide (lo ≤ i) && decide (i ≤ hi)
  | _ => false
def isiW (T : String) (p : W × Sto) : Option (W × Sto) := match p.1 with
  | .d d => some (.d (.bool (isiT (tyE d) T)), p.2)
  | .loc _ => none
  | .fn => none
theorem Wp_isiE {T : String} {A : ME} {ρ : DEnv} {S : Sto} {Φ : W × Sto → Prop} : Wp (mIsiE T A ρ S) Φ = Wp (A ρ S) fun p => Wp (isiW T p) Φ := by unfold mIsiE; rw [Wp_bind]; rfl
def isiW2 (T U : String) (p : W × Sto) : Option (W × Sto) := match p.1 with
  | .d d => some (.d (.bool (isiT (tyE d) T || isiT (tyE d) U)), p.2)
  | .loc _ => none
  | .fn => none
theorem Wp_isiE2 {T U : String} {A : ME} {ρ : DEnv} {S : Sto} {Φ : W × Sto → Prop} : Wp (mIsiE2 T U A ρ S) Φ = Wp (A ρ S) fun p => Wp (isiW2 T U p) Φ := by unfold mIsiE2; rw [Wp_bind]; rfl
theorem isiW_d {T : String} {d : PyData} {S : Sto} : isiW T (.d d, S) = some (.d (.bool (isiT (tyE d) T)), S) := rfl
theorem isiW2_d {T U : String} {d : PyData} {S : Sto} : isiW2 T U (.d d, S) = some (.d (.bool (isiT (tyE d) T || isiT (tyE d) U)), S) := rfl
theorem isi_i : ∀ d : PyData, isiT (tyE d) "int" = (match d with | .int _ => true | .bool _ => true | _ => false)
  | .none => by decide
  | .bool _ => by simp [tyE, isiT]
  | .int _ => by simp [tyE, isiT]
  | .str _ => by simp [tyE, isiT]
  | .list _ => by simp [tyE, isiT]
  | .tuple _ => by simp [tyE, isiT]
  | .dict _ => by simp [tyE, isiT]
theorem isi_b : ∀ d : PyData, isiT (tyE d) "bool" = (match d with | .bool _ => true | _ => false)
  | .none => by decide
  | .bool _ => by simp [tyE, isiT]
  | .int _ => by simp [tyE, isiT]
  | .str _ => by simp [tyE, isiT]
  | .list _ => by simp [tyE, isiT]
  | .tuple _ => by simp [tyE, isiT]
  | .dict _ => by simp [tyE, isiT]
theorem isi_t : ∀ d : PyData, isiT (tyE d) "tuple" = (match d with | .tuple _ => true | _ => false)
  | .none => by decide
  | .bool _ => by simp [tyE, isiT]
  | .int _ => by simp [tyE, isiT]
  | .str _ => by simp [tyE, isiT]
  | .list _ => by simp [tyE, isiT]
  | .tuple _ => by simp [tyE, isiT]
  | .dict _ => by simp [tyE, isiT]
theorem is_int_ok {d : PyData} {lo hi : Int} {S : Sto} : callF f_l_is_int [.d d, .d (.int lo), .d (.int hi)] S = some (.d (.bool (isI lo hi d)), S) := by
  refine KJ.eqof (wp_call0 rfl ?_)
  unfold b_l_is_int
  cases d with
  | int i =>
    by_cases h : lo ≤ i
    · by_cases h2 : i ≤ hi
      · simp! only [List.replicate, Wp_vAndT, Wp_isiE, isiW_d, isi_i, isi_b, andTK_t, andTK_f, Wp_chain, h, h2, isI, decide_true, chK_t, Bool.not_false]
        exact ⟨_, rfl, rfl⟩
      · simp! only [List.replicate, Wp_vAndT, Wp_isiE, isiW_d, isi_i, isi_b, andTK_t, andTK_f, Wp_chain, h, h2, isI, decide_true, chK_t, Bool.not_false]
        exact ⟨_, rfl, by simp⟩
    · simp! only [List.replicate, Wp_vAndT, Wp_isiE, isiW_d, isi_i, isi_b, andTK_t, andTK_f, Wp_chain, h, isI, decide_true, chK_f, Bool.not_false]
      exact ⟨_, rfl, by simp⟩
  | bool b =>
    simp! only [List.replicate, Wp_vAndT, Wp_isiE, isiW_d, isi_i, isi_b, andTK_t, andTK_f, isI]
    exact ⟨_, rfl, rfl⟩
  | none => simp! only [List.replicate, Wp_vAndT, Wp_isiE, isiW_d, isi_i, isi_b, andTK_t, andTK_f, isI]; exact ⟨_, rfl, rfl⟩
  | str x => simp! only [List.replicate, Wp_vAndT, Wp_isiE, isiW_d, isi_i, isi_b, andTK_t, andTK_f, isI]; exact ⟨_, rfl, rfl⟩
  | list x => simp! only [List.replicate, Wp_vAndT, Wp_isiE, isiW_d, isi_i, isi_b, andTK_t, andTK_f, isI]; exact ⟨_, rfl, rfl⟩
  | tuple x => simp! only [List.replicate, Wp_vAndT, Wp_isiE, isiW_d, isi_i, isi_b, andTK_t, andTK_f, isI]; exact ⟨_, rfl, rfl⟩
  | dict x => simp! only [List.replicate, Wp_vAndT, Wp_isiE, isiW_d, isi_i, isi_b, andTK_t, andTK_f, isI]; exact ⟨_, rfl, rfl⟩
end KB
end
noncomputable section
namespace KB
open PySem PySem.Spec PyProof.Rows L2 DL K17 KH KJ
def odds1 : List PyData := [.none, .bool true, .bool false, .int 0, .int 1, .int (-1), .int 6, .int 7, .int (10 ^ 39), .str "", .str "0", .tuple [], .list [], .dict [], .tuple [.int 0], .list [.int 0], .tuple [.tuple []], .dict [(.int 0, .int 1)], .tuple [.tuple [.int 0, .int 1]]]
def odds2 : List PyData := [.tuple [.int 0, .int 0], .tuple [.bool true], .tuple [.int 0, .int 0, .int 0], .tuple [.tuple [.int 0, .int 0], .tuple [.int 1, .int 0]], .str "free"]
def fnB (d : PyData) : Bool := d.showable && d.leavesShort 50 && decide (d.depth ≤ 2) && decide (d.weight ≤ 200)
theorem fnB_fn {d : PyData} (h : fnB d = true) : Fn 2 200 d := by
  simp only [fnB, Bool.and_eq_true, decide_eq_true_eq] at h
  exact ⟨⟨h.1.1.1, h.1.1.2⟩, h.1.2, h.2⟩
theorem odds_fn : ∀ d ∈ odds1 ++ odds2, Fn 2 200 d := by
  have h : (odds1 ++ odds2).all fnB = true := by decide +kernel
  exact fun d hd => fnB_fn (List.all_eq_true.mp h d hd)
theorem odd_wp {c m : Nat} {ob : Ob} {S : Sto} (hS : S[m]? = some ob) (hb : BagOk c ob) (hc : c + 1 < 2 ^ 1000) :
    Wp (callF f_l_odd [.loc m] S) fun r => ∃ d ob', r = (.d d, S.set m ob') ∧ BagOk (c + 1) ob' ∧ Fn 2 200 d := by
  refine wp_call1 rfl (by simp [allLoc]) hS hb.obD ?_
  unfold b_l_odd
  rw [Wp_seq]
  refine Wp.of_eq (a := (.nx, [some (.loc 0), some (.d (.list odds1))], [ob, .dead, .dead])) rfl ?_
  have ha : ∀ S : Sto, addA (.d (.list odds1)) (.d (.list odds2)) S = some (.d (.list (odds1 ++ odds2)), S) := fun S => rfl
  unfold odds2 at ha
  simp! only [ha]
  refine (some_wp (n := 0) rfl hb hc (by simp [odds1]) (by simp [odds1]; decide)).mono fun r hr => ?_
  obtain ⟨x, ob', rfl, hx, hb'⟩ := hr
  exact ⟨x, ob', _, rfl, rfl, hb'.obD, hb', odds_fn x hx⟩
end KB
end
noncomputable section
namespace KB
open PySem PySem.Spec PyProof.Rows L2 DL K17 KH KJ
section
variable {ob : Ob} {d : PyData} {ds us : List PyData} {r0 r2 r3 : Option W} {way : Int} {c k w : Nat}
abbrev E6 (r0 : Option W) (d : PyData) (r2 r3 r4 r5 : Option W) : DEnv := [r0, some (.d d), r2, r3, r4, r5]
/-- the end: a tuple again, or a list -/
theorem end_wp {r5 : Option W} (hd : d = .tuple ds ∨ d = .list ds) {Φ : Fl × DEnv × Sto → Prop} (h : ∀ x ρ S', (x = .tuple us ∨ x = .list us) → Φ (.rt (.d x), ρ, ob :: S')) : Wp (pB6 (E6 r0 d r2 r3 (some (.loc 1)) r5) [ob, .lst (us.map .d)]) Φ := by
  unfold pB6
  rcases hd with rfl | rfl
  · simp! only [Wp_isiE, isiW_d, isi_t, fzV_ok, fzO_ok, frzO_l]
    exact h _ _ [.dead] (.inl rfl)
  · simp! only [Wp_isiE, isiW_d, isi_t, fzV_ok, fzO_ok, frzO_l]
    exact h _ _ [.dead] (.inr rfl)
theorem map_erase {α β : Type} (f : α → β) : ∀ (l : List α) (i : Nat), (l.map f).eraseIdx i = (l.eraseIdx i).map f
  | [], _ => rfl
  | _ :: _, 0 => rfl
  | a :: l, i + 1 => by simp [map_erase f l i]
theorem pop_at {i n : Nat} {x : PyData} {S : Sto} (hS : S[n]? = some (.lst (ds.map W.d))) (hx : ds[i]? = some x) (hl : ds.length ≤ 1000000) : popAtF (.loc n) [.d (.int (i : Nat))] S = some (.d x, S.set n (.lst ((ds.eraseIdx i).map W.d))) := by
  have hi : i < ds.length := (List.getElem?_eq_some_iff.mp hx).1
  have h1 : -(2 ^ 63) ≤ ((i : Nat) : Int) ∧ ((i : Nat) : Int) < 2 ^ 63 := by omega
  have h2 : seqIndex? ((i : Nat) : Int) (ds.map W.d).length = some i := by
    unfold seqIndex?
    rw [List.length_map]
    have h3 : ¬ ((i : Nat) : Int) < 0 := by omega
    have h4 : (0 ≤ ((i : Nat) : Int) && ((i : Nat) : Int) < ds.length) = true := by
      simp only [Bool.and_eq_true, decide_eq_true_eq]; omega
    simp only [h3, if_false]
    rw [if_pos h4]; simp
  simp only [popAtF, onL, hS]
  rw [if_pos h1, h2]
  simp [hx, map_erase]
theorem ins_at {i n : Nat} {x : PyData} {S : Sto} (hS : S[n]? = some (.lst (ds.map W.d))) (hi : i ≤ ds.length) (hl : ds.length ≤ 1000000) : insertF (.loc n) [.d (.int (i : Nat)), .d x] S = some (.d .none, S.set n (.lst ((ds.take i ++ [x] ++ ds.drop i).map W.d))) := by
  have h1 : (ds.map W.d).length < sizeLine ∧ 0 ≤ ((i : Nat) : Int) ∧ ((i : Nat) : Int) < 2 ^ 63 := ⟨by rw [List.length_map, sizeLine_eq]; omega, by omega, by omega⟩
  simp only [insertF, onL, hS]
  rw [if_pos h1]
  simp
theorem ix1 {j : Nat} {x : PyData} (hx : ds[j]? = some x) : ixY (.loc 1) (.d (.int (j : Nat))) [ob, .lst (ds.map W.d)] = some (.d x, [ob, .lst (ds.map W.d)]) := KH.ixY_lst rfl (by simp [hx])
theorem set1 {j : Nat} {x : PyData} (hj : j < ds.length) : setX (.loc 1) (.d (.int (j : Nat))) (.d x) [ob, .lst (ds.map W.d)] = some [ob, .lst ((ds.set j x).map W.d)] := by
  rw [KH.setX_lst (us := ds.map W.d) rfl (by simpa using hj)]
  simp [List.map_set]
/-- what is done to the row -/
theorem ways_wp {n i j : Nat} (hi : i < ds.length) (hj : j < ds.length) (hn : k < n) (hf : FnA k w ds) (hw : w ≤ 100000) (hb : BagOk c ob) (hc : c + 10 * n + 5 < 2 ^ 1000)
    (ih : ∀ {x : PyData} {c m : Nat} {ob : Ob} {S : Sto}, Fn k w x → S[m]? = some ob → BagOk c ob → c + 10 * n < 2 ^ 1000 → Wp (callF (f_l_bent n) [.loc m, .d x] S) fun r => ∃ d' ob', r = (.d d', S.set m ob') ∧ BagOk (c + 10 * n) ob' ∧ Fn (k + 3) (2 * x.weight + 300) d') :
    Wp (pB5 (f_l_bent n) (E6 (some (.loc 0)) d (some (.d (.int (i : Nat)))) (some (.d (.int (j : Nat)))) (some (.loc 1)) (some (.d (.int way)))) [ob, .lst (ds.map W.d)]) fun q => ∃ us ob', q = (.nx, E6 (some (.loc 0)) d (some (.d (.int (i : Nat)))) (some (.d (.int (j : Nat)))) (some (.loc 1)) (some (.d (.int way))), [ob', .lst (us.map W.d)]) ∧ BagOk (c + 10 * n) ob' ∧ FnA (k + 3) (2 * w + 300) us := by
  have hl : ds.length ≤ 100000 := Nat.le_trans (wA_len ds) (Nat.le_trans hf.wt hw)
  have xi : ds[i]? = some ds[i] := List.getElem?_eq_getElem hi
  have xj : ds[j]? = some ds[j] := List.getElem?_eq_getElem hj
  have wi := wA_mem (List.getElem_mem hi)
  have wj := wA_mem (List.getElem_mem hj)
  have hwt := hf.wt
  have dpI : ∀ x ∈ ds, x.depth ≤ k + 3 := fun x hx => Nat.le_trans (hf.dp x hx) (by omega)
  have set_fn : ∀ {us : List PyData} {a : Nat} {x : PyData}, fineA us → (∀ y ∈ us, y.depth ≤ k + 3) → fine x → x.depth ≤ k + 3 → fineA (us.set a x) ∧ ∀ y ∈ us.set a x, y.depth ≤ k + 3 := fun {us a x} h1 h2 h3 h4 => ⟨fun y hy => by
    rcases List.mem_or_eq_of_mem_set hy with z | rfl
    · exact h1 y z
    · exact h3, fun y hy => by
    rcases List.mem_or_eq_of_mem_set hy with z | rfl
    · exact h2 y z
    · exact h4⟩
  have ins_fn : ∀ {a : Nat} {x : PyData}, fine x → x.depth ≤ k + 3 → x.weight ≤ w + 299 → FnA (k + 3) (2 * w + 300) (ds.take a ++ [x] ++ ds.drop a) := fun {a x} h1 h2 h3 => ⟨fun y hy => by
    simp only [List.mem_append, List.mem_singleton] at hy
    rcases hy with (z | rfl) | z
    · exact hf.fn y (List.mem_of_mem_take z)
    · exact h1
    · exact hf.fn y (List.mem_of_mem_drop z), fun y hy => by
    simp only [List.mem_append, List.mem_singleton] at hy
    rcases hy with (z | rfl) | z
    · exact dpI y (List.mem_of_mem_take z)
    · exact h2
    · exact dpI y (List.mem_of_mem_drop z), by rw [wA_ins]; omega⟩
  have l1 : ∀ o : Ob, deref [o, .lst (ds.map W.d)] (.loc 1) = some (.list ds) := fun o => by simp [deref, allD_map]
  unfold pB5
  by_cases h1 : way = 1
  · subst h1
    simp! only [pop_at (n := 1) (S := [ob, .lst (ds.map W.d)]) rfl xi (by omega), decide_true]
    exact ⟨ds.eraseIdx i, ob, rfl, hb.up (by omega), fun y hy => hf.fn y (List.mem_of_mem_eraseIdx hy), fun y hy => dpI y (List.mem_of_mem_eraseIdx hy), by have := wA_erase ds i; omega⟩
  have e1 : decide (way = 1) = false := by simp [h1]
  by_cases h2 : way = 2
  · subst h2
    simp! only [ix1 xj, ins_at (x := ds[j]) (n := 1) (S := [ob, .lst (ds.map W.d)]) rfl (Nat.le_of_lt hi) (by omega), decide_true, e1]
    exact ⟨_, ob, rfl, hb.up (by omega), ins_fn (hf.fn _ (List.getElem_mem hj)) (dpI _ (List.getElem_mem hj)) (by omega)⟩
  have e2 : decide (way = 2) = false := by simp [h2]
  by_cases h3 : way = 3
  · subst h3
    have hi2 : i < (ds.set i ds[j]).length := by simpa using hi
    have hj2 : j < (ds.set i ds[j]).length := by simpa using hj
    simp! only [ix1 xj, ix1 xi, set1 (x := ds[j]) hi, set1 (ob := ob) (x := ds[i]) hj2, decide_true, e1, e2]
    have g := set_fn (a := i) (us := ds) hf.fn dpI (hf.fn _ (List.getElem_mem hj)) (dpI _ (List.getElem_mem hj))
    have g2 := set_fn (a := j) (us := ds.set i ds[j]) g.1 g.2 (hf.fn _ (List.getElem_mem hi)) (dpI _ (List.getElem_mem hi))
    refine ⟨_, ob, rfl, hb.up (by omega), g2.1, g2.2, ?_⟩
    have q1 := wA_set (x := ds[j]) hi
    have q2 := wA_set (x := ds[i]) hj2
    have q3 : (ds.set i ds[j])[j] = ds[j] := by
      rw [List.getElem_set]
      split
      · rfl
      · rfl
    rw [q3] at q2
    omega
  have e3 : decide (way = 3) = false := by simp [h3]
  by_cases h4 : way = 4
  · subst h4
    have hln : lenX [.loc 1] [ob, .lst (ds.map W.d)] = some (.d (.int (ds.length : Nat)), [ob, .lst (ds.map W.d)]) := by simp [lenX, on1, len0X]
    simp! only [e1, e2, e3, decide_true, hln]
    refine (take_wp (n := 0) (upto := (ds.length : Nat) + 1) rfl hb (by omega) (by omega) (by omega)).mono fun r hr => ?_
    obtain ⟨v, ob1, rfl, v0, v1, hb1⟩ := hr
    obtain ⟨a, rfl⟩ := Int.eq_ofNat_of_zero_le v0
    refine (odd_wp (m := 0) rfl hb1 (by omega)).mono fun r hr => ?_
    obtain ⟨x, ob2, rfl, hb2, hx⟩ := hr
    simp! only [ins_at (ds := ds) (x := x) (n := 1) (i := a) (S := [ob2, .lst (ds.map W.d)]) rfl (by omega) (by omega)]
    exact ⟨_, ob2, rfl, hb2.up (by omega), ins_fn hx.fn (by have := hx.dp; omega) (by have := hx.wt; omega)⟩
  have e4 : decide (way = 4) = false := by simp [h4]
  simp! only [e1, e2, e3, e4, ix1 xi]
  refine (ih (x := ds[i]) (m := 0) ⟨hf.fn _ (List.getElem_mem hi), hf.dp _ (List.getElem_mem hi), by omega⟩ rfl hb (by omega)).mono fun r hr => ?_
  obtain ⟨x, ob1, rfl, hb1, hx⟩ := hr
  simp! only [set1 (ob := ob1) (x := x) hi]
  have g := set_fn (a := i) (us := ds) hf.fn dpI hx.fn hx.dp
  refine ⟨_, ob1, rfl, hb1, g.1, g.2, ?_⟩
  have q1 := wA_set (x := x) hi
  have q2 := hx.wt
  omega
end
end KB
end
noncomputable section
namespace KB
open PySem PySem.Spec PyProof.Rows L2 DL K17 KH KJ
section
variable {ob : Ob} {d : PyData} {ds us : List PyData} {r0 r2 r3 : Option W} {way : Int} {c k w : Nat}
abbrev E0 (d : PyData) : DEnv := [some (.loc 0), some (.d d), none, none, none, none]
def EndB (c k w : Nat) (r : Fl × DEnv × Sto) : Prop := ∃ x ob' S', r.1 = .rt (.d x) ∧ r.2.2 = ob' :: S' ∧ obD ob' = true ∧ BagOk c ob' ∧ Fn (k + 3) (2 * w + 300) x
/-- a row: drawn places, a drawn way -/
theorem row_wp {n : Nat} (h0 : ds ≠ []) (hd : d = .tuple ds ∨ d = .list ds) (hn : k < n) (hf : FnA k w ds) (hw : w ≤ 100000) (hb : BagOk c ob) (hc : c + 10 * n + 8 < 2 ^ 1000)
    (ih : ∀ {x : PyData} {c m : Nat} {ob : Ob} {S : Sto}, Fn k w x → S[m]? = some ob → BagOk c ob → c + 10 * n < 2 ^ 1000 → Wp (callF (f_l_bent n) [.loc m, .d x] S) fun r => ∃ d' ob', r = (.d d', S.set m ob') ∧ BagOk (c + 10 * n) ob' ∧ Fn (k + 3) (2 * x.weight + 300) d') :
    Wp (sSeq pB3 (sSeq pB4 (sSeq (pB5 (f_l_bent n)) pB6)) (E0 d) [ob]) (EndB (c + 10 * n + 3) (k + 1) w) := by
  have hl : ds.length ≤ 100000 := Nat.le_trans (wA_len ds) (Nat.le_trans hf.wt hw)
  have hlp : 0 < ds.length := List.length_pos_iff.mpr h0
  have hln : ∀ S, lenX [.d d] S = some (.d (.int (ds.length : Nat)), S) := fun S => by
    rcases hd with rfl | rfl <;> rfl
  have hlb : ∀ S : Sto, listB [.d d] S = some (.loc S.length, S ++ [.lst (ds.map W.d)]) := fun S => by
    rcases hd with rfl | rfl <;> rfl
  rw [Wp_seq]
  unfold pB3
  simp! only [hln]
  refine (take_wp (n := 0) (upto := (ds.length : Nat)) rfl hb (by omega) (by omega) (by omega)).mono fun r hr => ?_
  obtain ⟨v, ob1, rfl, v0, v1, hb1⟩ := hr
  obtain ⟨i, rfl⟩ := Int.eq_ofNat_of_zero_le v0
  simp! only [hln]
  refine (take_wp (n := 0) (upto := (ds.length : Nat)) rfl hb1 (by omega) (by omega) (by omega)).mono fun r hr => ?_
  obtain ⟨v, ob2, rfl, u0, u1, hb2⟩ := hr
  obtain ⟨j, rfl⟩ := Int.eq_ofNat_of_zero_le u0
  simp! only [hlb]
  refine (take_wp (n := 0) (upto := 12) rfl hb2 (by omega) (by omega) (by omega)).mono fun r hr => ?_
  obtain ⟨way, ob3, rfl, w0, w1, hb3⟩ := hr
  show Wp (pB4 (E6 (some (.loc 0)) d (some (.d (.int (i : Nat)))) (some (.d (.int (j : Nat)))) (some (.loc 1)) (some (.d (.int way)))) [ob3, .lst (ds.map W.d)]) (seqK (sSeq (pB5 (f_l_bent n)) pB6) (EndB (c + 10 * n + 3) (k + 1) w))
  have fin : ∀ {x : PyData} {us : List PyData} {w' : Nat}, (x = .tuple us ∨ x = .list us) → FnA (k + 3) w' us → w' ≤ 2 * w + 300 → Fn (k + 1 + 3) (2 * w + 300) x := fun {x us w'} h h2 h3 => by
    rcases h with rfl | rfl
    · exact h2.t.up (by omega) h3
    · exact h2.l.up (by omega) h3
  unfold pB4
  by_cases hw0 : way = 0
  · subst hw0
    have hfA : FnA (k + 3) w ds := ⟨hf.fn, fun x hx => Nat.le_trans (hf.dp x hx) (by omega), hf.wt⟩
    have hb4 : BagOk (c + 10 * n + 3) ob3 := hb3.up (by omega)
    rcases hd with rfl | rfl
    · simp! only [decide_true, Wp_isiE, isiW_d, isi_t]
      simp! only [frzY_ok (n := 1) (S := [ob3, .lst (ds.map W.d)]) (ds := ds) rfl]
      exact ⟨_, _, _, rfl, rfl, hb4.obD, hb4, fin (.inr rfl) hfA (by omega)⟩
    · have htu : tupleD [.loc 1] [ob3, .lst (ds.map W.d)] = some (.d (.tuple ds), [ob3, .lst (ds.map W.d)]) := by simp [tupleD, on1, deref, allD_map]
      simp! only [decide_true, Wp_isiE, isiW_d, isi_t, htu]
      exact ⟨_, _, _, rfl, rfl, hb4.obD, hb4, fin (.inl rfl) hfA (by omega)⟩
  · have e0 : decide (way = 0) = false := by simp [hw0]
    simp! only [e0]
    refine (ways_wp (i := i) (j := j) (by omega) (by omega) hn hf hw hb3 (by omega) ih).mono fun q hq => ?_
    obtain ⟨us, ob4, rfl, hb4, hus⟩ := hq
    rw [seqK_nx]
    refine end_wp hd fun x ρ S' hx => ?_
    have hb5 : BagOk (c + 10 * n + 3) ob4 := hb4.up (by omega)
    exact ⟨_, _, _, rfl, rfl, hb5.obD, hb5, fin hx hus (by omega)⟩
theorem bent_wp : ∀ (n : Nat) {d : PyData} {k w c m : Nat} {ob : Ob} {S : Sto}, Fn k w d → k ≤ n → w ≤ 100000 → S[m]? = some ob → BagOk c ob → c + 10 * (n + 1) < 2 ^ 1000 →
    Wp (callF (f_l_bent (n + 1)) [.loc m, .d d] S) fun r => ∃ d' ob', r = (.d d', S.set m ob') ∧ BagOk (c + 10 * (n + 1)) ob' ∧ Fn (k + 3) (2 * w + 300) d'
  | n, d, k, w, c, m, ob, S, hf, hk, hw, hS, hb, hc => by
    refine (wp_call1 (ΨF := fun x ob' => BagOk (c + 10 * (n + 1)) ob' ∧ Fn (k + 3) (2 * w + 300) x) rfl (by simp [allLoc]) hS hb.obD ?_)
    have hb0 : BagOk (c + 10 * (n + 1)) ob := hb.up (by omega)
    show Wp (b_l_bent (f_l_bent n) (E0 d) [ob]) _
    rw [b_l_bent_eq, Wp_seq]
    -- from the second statement on
    have rest : ∀ {ob1 : Ob}, BagOk (c + 1) ob1 → Wp (sSeq pB2 (sSeq pB3 (sSeq pB4 (sSeq (pB5 (f_l_bent n)) pB6))) (E0 d) [ob1]) fun r => ∃ x ob' S', r.1 = .rt (.d x) ∧ r.2.2 = ob' :: S' ∧ obD ob' = true ∧ BagOk (c + 10 * (n + 1)) ob' ∧ Fn (k + 3) (2 * w + 300) x := fun {ob1} hb1 => by
      have odd : ∀ {ob2 : Ob} (ρ : DEnv), BagOk (c + 2) ob2 → Wp (callF f_l_odd [.loc 0] [ob2]) fun p => ∃ x ob' S', Fl.rt p.1 = .rt (.d x) ∧ p.2 = ob' :: S' ∧ obD ob' = true ∧ BagOk (c + 10 * (n + 1)) ob' ∧ Fn (k + 3) (2 * w + 300) x := fun {ob2} ρ hb2 => by
        refine (odd_wp (m := 0) rfl hb2 (by omega)).mono fun r hr => ?_
        obtain ⟨x, ob3, rfl, hb3, hx⟩ := hr
        have hb4 : BagOk (c + 10 * (n + 1)) ob3 := hb3.up (by omega)
        exact ⟨x, ob3, _, rfl, rfl, hb4.obD, hb4, hx.up (by omega) (by omega)⟩
      rw [Wp_seq]
      unfold pB2
      by_cases hsq : ∃ ds, d = .tuple ds ∨ d = .list ds
      · obtain ⟨ds, hd⟩ := hsq
        have hln : ∀ S, lenX [.d d] S = some (.d (.int (ds.length : Nat)), S) := fun S => by
          rcases hd with rfl | rfl <;> rfl
        have hty : (isiT (tyE d) "tuple" || isiT (tyE d) "list") = true := by
          rcases hd with rfl | rfl <;> simp [tyE, isiT]
        by_cases h0 : ds = []
        · have hz : decide (((ds.length : Nat) : Int) = 0) = true := by simp [h0]
          simp! only [Wp_isiE2, isiW2_d, hty, hln, hz]
          exact odd [] (hb1.up (by omega))
        · have hz : decide (((ds.length : Nat) : Int) = 0) = false := by simp [h0]
          simp! only [Wp_isiE2, isiW2_d, hty, hln, hz]
          refine (take_wp (n := 0) (upto := 7) rfl hb1 (by omega) (by omega) (by omega)).mono fun r hr => ?_
          obtain ⟨v, ob2, rfl, v0, v1, hb2⟩ := hr
          by_cases hv : v = 0
          · subst hv
            simp! only [decide_true]
            exact odd [] hb2
          · have e0 : decide (v = 0) = false := by simp [hv]
            simp! only [e0]
            obtain ⟨n', rfl⟩ : ∃ n', n = n' + 1 := ⟨n - 1, by
              have := hf.dp
              rcases hd with rfl | rfl <;> simp only [PyData.depth] at this <;> omega⟩
            obtain ⟨k', rfl⟩ : ∃ k', k = k' + 1 := ⟨k - 1, by
              have := hf.dp
              rcases hd with rfl | rfl <;> simp only [PyData.depth] at this <;> omega⟩
            have hA : FnA k' w ds := by
              rcases hd with rfl | rfl
              · exact hf.it
              · exact hf.il
            rw [← Wp_seq]
            refine (row_wp (n := n' + 1) h0 hd (by omega) hA hw hb2 (by omega) fun {x c m ob S} a1 a2 a3 a4 => ?_).mono fun r hr => ?_
            · have := bent_wp n' (k := k') (w := x.weight) ⟨a1.fn, a1.dp, Nat.le_refl _⟩ (by omega) (Nat.le_trans a1.wt hw) a2 a3 a4
              exact this
            · obtain ⟨x, ob', S', e1, e2, e3, e4, e5⟩ := hr
              have hb4 : BagOk (c + 10 * (n' + 1 + 1)) ob' := e4.up (by omega)
              exact ⟨x, ob', S', e1, e2, hb4.obD, hb4, e5⟩
      · have hty : (isiT (tyE d) "tuple" || isiT (tyE d) "list") = false := by
          cases d with
          | list x => exact absurd ⟨x, .inr rfl⟩ hsq
          | tuple x => exact absurd ⟨x, .inl rfl⟩ hsq
          | _ => simp [tyE, isiT]
        simp! only [Wp_isiE2, isiW2_d, hty]
        exact odd [] (hb1.up (by omega))
    unfold pB1
    cases hi : isI (-9) 9 d with
    | false =>
      simp! only [is_int_ok, hi]
      rw [← Wp_seq]
      exact rest (hb.up (by omega))
    | true =>
      simp! only [is_int_ok, hi]
      refine (take_wp (n := 0) (upto := 2) rfl hb (by omega) (by omega) (by omega)).mono fun r hr => ?_
      obtain ⟨v, ob2, rfl, v0, v1, hb2⟩ := hr
      by_cases hv : v = 0
      · subst hv
        cases d with
        | int i =>
          simp only [isI, Bool.and_eq_true, decide_eq_true_eq] at hi
          simp! only [decide_true]
          refine (some_wp (n := 0) rfl hb2 (by omega) (by simp) (by decide)).mono fun r hr => ?_
          obtain ⟨x, ob3, rfl, hx, hb3⟩ := hr
          have hb4 : BagOk (c + 10 * (n + 1)) ob3 := hb3.up (by omega)
          simp only [List.mem_cons, List.not_mem_nil, or_false] at hx
          rcases hx with rfl | rfl | rfl
          · simp! only [decide_true]
            exact ⟨_, ob3, _, rfl, rfl, hb4.obD, hb4, (Fn_i (by omega)).up (by omega) (by omega)⟩
          · simp! only [decide_true]
            exact ⟨_, ob3, _, rfl, rfl, hb4.obD, hb4, (Fn_i (by omega)).up (by omega) (by omega)⟩
          · simp! only [decide_true]
            exact ⟨_, ob3, _, rfl, rfl, hb4.obD, hb4, (Fn_i (by omega)).up (by omega) (by omega)⟩
        | _ => simp [isI] at hi
      · have e0 : decide (v = 0) = false := by simp [hv]
        simp! only [e0]
        rw [← Wp_seq]
        exact rest hb2
end
end KB
end
noncomputable section
namespace KJ
open PySem PySem.Spec PyProof.Rows L2 DL
end KJ
end
noncomputable section
namespace K17
open PySem PySem.Spec PyProof.Rows L2 DL
theorem nodup_len {α : Type} [DecidableEq α] : ∀ {l m : List α}, l.Nodup → (∀ x ∈ l, x ∈ m) → l.length ≤ m.length
  | [], _, _, _ => Nat.zero_le _
  | a :: l, m, hn, h => by
    have hn' := List.nodup_cons.mp hn
    have ha : a ∈ m := h a (by simp)
    have := nodup_len (l := l) (m := m.erase a) hn'.2 (fun x hx => by
      have : x ≠ a := fun e => hn'.1 (e ▸ hx)
      exact (List.mem_erase_of_ne this).mpr (h x (by simp [hx])))
    rw [List.length_erase_of_mem ha] at this
    have : 0 < m.length := List.length_pos_of_mem ha
    rw [List.length_cons]; omega
def bB (ks : List (List Int)) (x : List Int) : Bool := decide (x ∈ ks)
section
variable {b : List Pl} {t : List Int} {ks : List (List Int)} {k : Nat} {found found' : List (List Int × Nat)} {line further : List (List Int)} {junk : Sto} {done : List Int → Prop}
abbrev LI (b : List Pl) (t : List Int) (ks : List (List Int)) := LInv (adj := adjC b) (t := t) (B := bB ks) (conts b)
abbrev MI' (b : List Pl) (t : List Int) (ks : List (List Int)) := MInv (adj := adjC b) (t := t) (B := bB ks) (conts b)
theorem LI.len (L : LI b t ks k found line) : found.length ≤ (conts b).length := by
  have := nodup_len (m := conts b) L.nd fun x hx => by
    obtain ⟨q, hq, rfl⟩ := List.mem_map.mp hx
    exact L.inV q hq
  rwa [List.length_map] at this
theorem MI'.len (L : LI b t ks k found line) (M : MI' b t ks k found done found' further) : found'.length ≤ (conts b).length ∧ further.length ≤ (conts b).length ∧ found'.length = found.length + further.length := by
  have h1 := nodup_len (m := conts b) M.nd fun x hx => by
    obtain ⟨q, hq, rfl⟩ := List.mem_map.mp hx
    obtain ⟨ext, e1, _, he⟩ := M.ex
    rw [e1] at hq
    rcases List.mem_append.mp hq with z | z
    · exact L.inV q z
    · exact (he q z).2.2
  rw [List.length_map] at h1
  obtain ⟨ext, rfl, rfl, _⟩ := M.ex
  rw [List.length_append] at h1
  refine ⟨by rw [List.length_append]; exact h1, by rw [List.length_map]; omega, by rw [List.length_append, List.length_map]⟩
end
end K17
end
noncomputable section
namespace KS
open PySem PySem.Spec PyProof.Rows L2 DL K17 K62
section
end
end KS
end
noncomputable section
namespace KV
open PySem PySem.Spec PyProof.Rows L2 DL
def L_contents_of_1 : MS := sAsg (mLc2 (iSeq (mVar 1)) (gSet 4) (tTrue) (iRng1D (mCons (mVar 2) (mNil))) (gSet 5) (tTrue) (mBin addA (mVar 4) (mCall tupF (mCons (mVar 5) (mNil)))) [4, 5] [5] kFrz) (gSet 1)
def b_contents_of : MS := sSeq (sAsg (mCall lstF (mCons (mCall tupF (mNil)) (mNil))) (gSet 1))
    (sSeq (sFor (iSeq (mVar 0)) (gTupD 2 (gsCons (gSet 2) (gsCons (gSet 3) (gsNil)))) (L_contents_of_1))
    (sRet (mVar 1)))
def f_contents_of : FS := runF 6 b_contents_of
def L_steps_from_1 : MS := sSeq (sAsg (mLc (iSeq (mVar 6)) (gTupD 2 (gsCons (gSet 7) (gsCons (gSet 8) (gsNil)))) (tOf (mBin (eqA false) (mVar 7) (mBin idxD (mVar 1) (mVar 3)))) (mVar 8) [7, 8] kFrz) (gSet 4))
    (sExpr (mMt extendF (mVar 2) (mCons (mLc (iSeq (mVar 4)) (gSet 8) (tTrue) (mBin addA (mBin addA (mSl (mVar 1) (oNo) (oYes (mVar 3))) (mCall tupF (mCons (mVar 8) (mNil)))) (mSl (mVar 1) (oYes (mBin addA (mVar 3) (mC (.int 1)))) (oNo))) [8] kFrz) (mNil))))
def b_steps_from : MS := sSeq (sAsg (mCall lstB (mNil)) (gSet 2))
    (sSeq (sFor (iEnumD (mCons (mVar 0) (mNil))) (gTupD 2 (gsCons (gSet 3) (gsCons (gTupD 2 (gsCons (gSet 5) (gsCons (gSet 6) (gsNil)))) (gsNil)))) (L_steps_from_1))
    (sRet (mCall sortedD (mCons (mVar 2) (mNil)))))
def f_steps_from : FS := runF 9 b_steps_from
def L_steps_to_1 : MS := sSeq (sAsg (mLc (iSeq (mVar 6)) (gTupD 2 (gsCons (gSet 7) (gsCons (gSet 8) (gsNil)))) (tOf (mBin (eqA false) (mVar 8) (mBin idxD (mVar 1) (mVar 3)))) (mVar 7) [7, 8] kFrz) (gSet 4))
    (sExpr (mMt extendF (mVar 2) (mCons (mLc (iSeq (mVar 4)) (gSet 7) (tTrue) (mBin addA (mBin addA (mSl (mVar 1) (oNo) (oYes (mVar 3))) (mCall tupF (mCons (mVar 7) (mNil)))) (mSl (mVar 1) (oYes (mBin addA (mVar 3) (mC (.int 1)))) (oNo))) [7] kFrz) (mNil))))
def b_steps_to : MS := sSeq (sAsg (mCall lstB (mNil)) (gSet 2))
    (sSeq (sFor (iEnumD (mCons (mVar 0) (mNil))) (gTupD 2 (gsCons (gSet 3) (gsCons (gTupD 2 (gsCons (gSet 5) (gsCons (gSet 6) (gsNil)))) (gsNil)))) (L_steps_to_1))
    (sRet (mCall sortedD (mCons (mVar 2) (mNil)))))
def f_steps_to : FS := runF 9 b_steps_to
def b_lots_known : MS := sRet (mFrzA (mDc2 (iZipD (mCons (mBin ixY (mVar 0) (mC (.int 1))) (mCons (mVar 1) (mNil)))) (gTupD 2 (gsCons (gSet 2) (gsCons (gSet 3) (gsNil)))) (tTrue) (iSeqK (mVar 3)) (gSet 4) (tTrue) (mVar 4) (mVar 2) [2, 3, 4] [4]))
def f_lots_known : FS := runF 5 b_lots_known
def b_l_bag : MS := sRet (mCall lstB (mCons (mC (.int 0)) (mCons (mC (.int 1234567891)) (mCons (mC (.int 0)) (mCons (mLc (iSeq (mSl (mVar 0) (oNo) (oYes (mC (.int 63))))) (gSet 1) (tTrue) (mCall absD (mCons (mVar 1) (mNil))) [1] kFrz) (mNil))))))
def f_l_bag : FS := runF 2 b_l_bag
def b_l_take : MS := sSeq (sIf (tOf (mBin (eqA false) (mBin idxD (mVar 0) (mC (.int 0))) (mC (.int 0)))) (sSeq (sAsg (mBin idxD (mBin addA (mSl (mBin idxD (mVar 0) (mC (.int 3))) (oYes (mBin idxD (mVar 0) (mC (.int 2)))) (oNo)) (mCall lstF (mCons (mC (.int 0)) (mNil)))) (mC (.int 0))) (gSet 4))
    (sSeq (sAugS (mVar 0) (mC (.int 2)) (mC (.int 1)) getF iaddI setF)
    (sSeq (sIf (tOf (mBin geD (mVar 4) (mBin powD (mC (.int 10)) (mC (.int 18))))) (sAsg (mVar 4) (gSubD (mVar 0) (mC (.int 0)) setF)) (sNil))
    (sSeq (sAsg (mBin addA (mBin addA (mBin mulD (mBin idxD (mVar 0) (mC (.int 1))) (mC (.int 48271))) (mBin modD (mCall intD (mCons (mVar 4) (mNil))) (mC (.int 2147483647)))) (mBin mulD (mC (.int 7919)) (mBin idxD (mVar 0) (mC (.int 2))))) (gSet 5))
    (sAsg (mBin modD (mCall intD (mCons (mVar 5) (mNil))) (mC (.int 2147483647))) (gSubD (mVar 0) (mC (.int 1)) setF)))))) (sNil))
    (sSeq (sIf (tOf (mBin gtD (mBin idxD (mVar 0) (mC (.int 0))) (mC (.int 0)))) (sSeq (sAsg (mBin modD (mCall intD (mCons (mBin idxD (mVar 0) (mC (.int 0))) (mNil))) (mVar 1)) (gSet 6))
    (sSeq (sAsg (mBin fdivD (mCall intD (mCons (mBin idxD (mVar 0) (mC (.int 0))) (mNil))) (mVar 1)) (gSubD (mVar 0) (mC (.int 0)) setF))
    (sRet (mVar 6)))) (sNil))
    (sSeq (sAsg (mBin modD (mCall intD (mCons (mBin mulD (mBin addA (mBin idxD (mVar 0) (mC (.int 1))) (mC (.int 1))) (mC (.int 39373))) (mNil))) (mC (.int 1000000007))) (gSet 2))
    (sSeq (sAsg (mBin modD (mCall intD (mCons (mBin mulD (mBin modD (mCall intD (mCons (mBin mulD (mVar 2) (mVar 2)) (mNil))) (mC (.int 998244353))) (mC (.int 30011))) (mNil))) (mC (.int 998244353))) (gSet 3))
    (sRet (mBin modD (mCall intD (mCons (mBin fdivD (mVar 3) (mC (.int 7))) (mNil))) (mVar 1))))))
def f_l_take : FS := runF 7 b_l_take
def b_l_alike : MS := sRet (vAnd (mBin (eqA false) (mVar 0) (mVar 1)) (mBin (eqA false) (mCall reprD (mCons (mVar 0) (mNil))) (mCall reprD (mCons (mVar 1) (mNil)))))
def f_l_alike : FS := runF 2 b_l_alike
def L_l_flat_1 : MS := sExpr (mMt extendF (mVar 1) (mCons (mVar 2) (mNil)))
def b_l_flat : MS := sSeq (sAsg (mCall lstB (mNil)) (gSet 1))
    (sSeq (sFor (iSeq (mVar 0)) (gSet 2) (L_l_flat_1))
    (sRet (mFrz (mVar 1))))
def f_l_flat : FS := runF 3 b_l_flat
def L_l_steps_1 : MS := sExpr (mMt extendF (mVar 2) (mCons (mBin repL (mCall lstF (mCons (mBin addA (mBin addA (mSl (mVar 1) (oNo) (oYes (mVar 3))) (mCall tupF (mCons (mVar 5) (mNil)))) (mSl (mVar 1) (oYes (mBin addA (mVar 3) (mC (.int 1)))) (oNo))) (mNil))) (mCall intD (mCons (mBin (eqA false) (mVar 4) (mBin idxD (mVar 1) (mVar 3))) (mNil)))) (mNil)))
def L_l_steps_2 : MS := sFor (iSeq (mBin idxD (mBin idxD (mVar 0) (mVar 3)) (mC (.int 1)))) (gTupD 2 (gsCons (gSet 4) (gsCons (gSet 5) (gsNil)))) (L_l_steps_1)
def b_l_steps : MS := sSeq (sAsg (mCall lstB (mNil)) (gSet 2))
    (sSeq (sFor (iRng1D (mCons (mCall lenD (mCons (mVar 0) (mNil))) (mNil))) (gSet 3) (L_l_steps_2))
    (sRet (mCall sortedD (mCons (mVar 2) (mNil)))))
def f_l_steps : FS := runF 6 b_l_steps
def L_l_turned_1 : MS := sExpr (mMt appendF (mBin ixY (mVar 1) (mVar 3)) (mCons (mVar 2) (mNil)))
def L_l_turned_2 : MS := sFor (iSeqK (mBin ixY (mVar 0) (mVar 2))) (gSet 3) (L_l_turned_1)
def b_l_turned : MS := sSeq (sAsg (mDicE (iSeqK (mVar 0)) (gSet 2) (tTrue) (mVar 2) [2]) (gSet 1))
    (sSeq (sFor (iSeqK (mVar 0)) (gSet 2) (L_l_turned_2))
    (sRet (mFrz2 (mVar 1))))
def f_l_turned : FS := runF 4 b_l_turned
def L_l_come_to_1 : MS := sIf (tAndD (tOf (mBin (inZ false) (mVar 8) (mVar 2))) (tOf (mBin (inZ true) (mVar 8) (mVar 3)))) (sSeq (sAsg (mVar 5) (gSubD (mVar 3) (mVar 8) setX))
    (sExpr (mMt appendF (mVar 7) (mCons (mVar 8) (mNil))))) (sNil)
def L_l_come_to_2 : MS := sFor (iSeqK (mBin ixY (mVar 0) (mVar 6))) (gSet 8) (L_l_come_to_1)
def b_l_come_to : MS := sSeq (sPar 4 5 (mCons (mLc (iSeqK (mVar 1)) (gSet 6) (tOf (mBin (inZ false) (mVar 6) (mVar 2))) (mVar 6) [6] kFrz) (mCons (mC (.int 0)) mNil)))
    (sSeq (sAsg (mCall dictP (mCons (mLc (iSeqK (mVar 4)) (gSet 6) (tTrue) (mCall tupF (mCons (mVar 6) (mCons (mC (.int 0)) (mNil)))) [6] kFrz) (mNil))) (gSet 3))
    (sSeq (whileL (tOf (mBin (eqA true) (mVar 4) (mCall lstF (mNil)))) (sSeq (sPar 7 5 (mCons (mCall lstB (mNil)) (mCons (mBin addA (mVar 5) (mC (.int 1))) mNil)))
    (sSeq (sFor (iSeqK (mVar 4)) (gSet 6) (L_l_come_to_2))
    (sFz 7 (sAsg (mVar 7) (gSet 4))))) FUEL)
    (sFz 3 (sRet (mVar 3)))))
def f_l_come_to : FS := runF 9 b_l_come_to
def L_l_lots_1 : MS := sExpr (mUpdD (mVar 2) (mFrzA (mCall dictP (mCons (mLc (iSeqK (mVar 4)) (gSet 5) (tTrue) (mCall tupF (mCons (mVar 5) (mCons (mVar 3) (mNil)))) [5] kFrz) (mNil)))))
def b_l_lots : MS := sSeq (sAsg (mNewT) (gSet 2))
    (sSeq (sFor (iZipD (mCons (mBin ixY (mVar 0) (mC (.int 1))) (mCons (mVar 1) (mNil)))) (gTupD 2 (gsCons (gSet 3) (gsCons (gSet 4) (gsNil)))) (L_l_lots_1))
    (sFz 2 (sRet (mVar 2))))
def f_l_lots : FS := runF 6 b_l_lots
def b_l_model_by : MS := sRet (mCall tupleD (mCons (mLc (iSeqK (mBin ixY (mVar 0) (mC (.int 1)))) (gSet 2) (tTrue) (mCall tupleD (mCons (mCall sortedA (mCons (mLc (iSeqK (mVar 1)) (gSet 3) (tOf (mBin (eqA false) (mBin ixY (mVar 1) (mVar 3)) (mVar 2))) (mVar 3) [3] kFrz) (mNil))) (mNil))) [2] kFrz) (mNil)))
def f_l_model_by : FS := runF 4 b_l_model_by
def L_steps_left_1 : MS := sIf (tOf (mBin (dinF true) (mVar 7) (mVar 4))) (sSeq (sAsg (mBin addA (mBin dgetF (mVar 4) (mVar 6)) (mC (.int 1))) (gSubD (mVar 4) (mVar 7) dputF))
    (sExpr (mMt appendF (mVar 5) (mCons (mVar 7) (mNil))))) (sNil)
def L_steps_left_2 : MS := sFor (iSeq (mCall (callF f_steps_to) (mCons (mVar 0) (mCons (mVar 6) (mNil))))) (gSet 7) (L_steps_left_1)
def b_steps_left : MS := sSeq (sPar 4 3 (mCons (mDisp1 (mVar 1) (mC (.int 0))) (mCons (mCall lstF (mCons (mVar 1) (mNil))) mNil)))
    (sSeq (whileL (tTru (mVar 3)) (sSeq (sAsg (mCall lstB (mNil)) (gSet 5))
    (sSeq (sFor (iSeq (mLc (iSeq (mVar 3)) (gSet 8) (tOrD (tOf (mBin (eqA false) (mVar 8) (mVar 1))) (tOf (mBin (dinF true) (mVar 8) (mVar 2)))) (mVar 8) [8] kFrz)) (gSet 6) (L_steps_left_2))
    (sAsg (mFrz (mVar 5)) (gSet 3)))) FUEL)
    (sRet (mVar 4)))
def f_steps_left : FS := runF 9 b_steps_left
def b_l_some : MS := sRet (mBin idxD (mVar 1) (mCall (callF f_l_take) (mCons (mVar 0) (mCons (mCall lenD (mCons (mVar 1) (mNil))) (mNil)))))
def f_l_some : FS := runF 2 b_l_some
def L_l_mixed_1 : MS := sExpr (mMt insertF (mVar 2) (mCons (mCall (callF f_l_take) (mCons (mVar 0) (mCons (mBin addA (mCall lenD (mCons (mVar 2) (mNil))) (mC (.int 1))) (mNil)))) (mCons (mVar 3) (mNil))))
def b_l_mixed : MS := sSeq (sAsg (mCall lstB (mNil)) (gSet 2))
    (sSeq (sFor (iSeq (mVar 1)) (gSet 3) (L_l_mixed_1))
    (sRet (mFrz (mVar 2))))
def f_l_mixed : FS := runF 4 b_l_mixed
def L_l_contents_1 : MS := sAsg (mCall (callF f_l_flat) (mCons (mLc (iSeq (mVar 1)) (gSet 3) (tTrue) (mLc (iRng1D (mCons (mBin idxD (mVar 2) (mC (.int 0))) (mNil))) (gSet 4) (tTrue) (mBin addA (mVar 3) (mCall tupF (mCons (mVar 4) (mNil)))) [4] kFrz) [3] kFrz) (mNil))) (gSet 1)
def b_l_contents : MS := sSeq (sAsg (mCall lstF (mCons (mCall tupF (mNil)) (mNil))) (gSet 1))
    (sSeq (sFor (iSeq (mVar 0)) (gSet 2) (L_l_contents_1))
    (sRet (mVar 1)))
def f_l_contents : FS := runF 5 b_l_contents
def b_l_ends : MS := sSeq (sAsg (mCall (callF f_l_take) (mCons (mVar 0) (mCons (mC (.int 8)) (mNil)))) (gSet 4))
    (sSeq (sAsg (mCall lstF (mCons (mCall lstF (mCons (mVar 2) (mCons (mVar 3) (mNil)))) (mCons (mCall lstF (mCons (mVar 2) (mCons (mVar 3) (mNil)))) (mCons (mCall lstF (mCons (mVar 2) (mCons (mVar 3) (mNil)))) (mCons (mCall lstF (mCons (mVar 3) (mNil))) (mCons (mCall lstF (mCons (mVar 2) (mNil))) (mCons (mCall lstF (mNil)) (mCons (mCall listD (mCons (mVar 1) (mNil))) (mNil))))))))) (gSet 5))
    (sSeq (sIf (tOf (mBin ltD (mVar 4) (mC (.int 7)))) (sRet (mCall tupleD (mCons (mCall sortedA (mCons (mBin ixY (mVar 5) (mVar 4)) (mNil))) (mNil)))) (sNil))
    (sRet (mCall tupleD (mCons (mLc (iSeq (mVar 1)) (gSet 6) (tOf (mBin (eqA false) (mCall (callF f_l_take) (mCons (mVar 0) (mCons (mC (.int 2)) (mNil)))) (mC (.int 0)))) (mVar 6) [6] kFrz) (mNil))))))
def f_l_ends : FS := runF 7 b_l_ends
def L_l_are_lots_1 : MS := sSeq (sAsg (mFrzA (mCall dictP (mCons (mLc (iSeqK (mVar 2)) (gSet 6) (tOf (mBin (eqA false) (mBin ixY (mVar 2) (mVar 6)) (mVar 4))) (mCall tupF (mCons (mVar 6) (mCons (mC (.bool true)) (mNil)))) [6] kFrz) (mNil)))) (gSet 5))
    (sIf (tOf (mBin (eqA true) (mCall lenX (mCons (mCall (callF f_l_come_to) (mCons (mVar 3) (mCons (mCall lstF (mCons (mVar 4) (mNil))) (mCons (mVar 5) (mNil))))) (mNil))) (mCall lenX (mCons (mVar 5) (mNil))))) (sRet (mC (.bool false))) (sNil))
def b_l_are_lots : MS := sSeq (sAsg (mCall (callF f_l_turned) (mCons (mVar 1) (mNil))) (gSet 3))
    (sSeq (sFor (iSeqK (mBin ixY (mVar 0) (mC (.int 1)))) (gSet 4) (L_l_are_lots_1))
    (sRet (mC (.bool true))))
def f_l_are_lots : FS := runF 7 b_l_are_lots
def L_l_least_way_1 : MS := sIf (tAndD (tOf (mBin (inZ true) (mVar 12) (mVar 6))) (tOrD (tOf (mBin (inZ false) (mVar 12) (mVar 3))) (tOf (mBin (eqA false) (mVar 12) (mVar 1))))) (sSeq (sAsg (mVar 8) (gSubD (mVar 6) (mVar 12) setX))
    (sExpr (mMt appendF (mVar 10) (mCons (mVar 12) (mNil))))) (sNil)
def L_l_least_way_2 : MS := sFor (iSeqK (mBin ixY (mVar 5) (mVar 9))) (gSet 12) (L_l_least_way_1)
def b_l_least_way : MS := sSeq (sTupA 4 (gsCons (gSet 5) (gsCons (gSet 6) (gsCons (gSet 7) (gsCons (gSet 8) (gsNil))))) (mCons (mCall (callF f_l_turned) (mCons (mVar 0) (mNil))) (mCons (mDisp1 (mVar 2) (mC (.int 0))) (mCons (mCall lstF (mCons (mVar 2) (mNil))) (mCons (mC (.int 0)) (mNil))))))
    (sSeq (whileL (tAndD (tOf (mBin (eqA true) (mVar 7) (mCall lstF (mNil)))) (tOf (mBin (inZ true) (mVar 1) (mVar 6)))) (sSeq (sPar 10 8 (mCons (mCall lstB (mNil)) (mCons (mBin addA (mVar 8) (mC (.int 1))) mNil)))
    (sSeq (sFor (iSeqK (mVar 7)) (gSet 9) (L_l_least_way_2))
    (sFz 10 (sAsg (mVar 10) (gSet 7))))) FUEL)
    (sSeq (sFz 6 (sIf (tOf (mBin (inZ true) (mVar 1) (mVar 6))) (sRet (mC .none)) (sNil)))
    (sSeq (sAsg (mCall lstB (mCons (mVar 1) (mNil))) (gSet 4))
    (sSeq (whileL (tOf (mBin (eqA true) (mBin ixY (mVar 4) (mNeg (mC (.int 1)))) (mVar 2))) (sSeq (sAsg (mLc (iSeqK (mBin ixY (mVar 0) (mBin ixY (mVar 4) (mNeg (mC (.int 1)))))) (gSet 13) (tAndD (tOf (mBin (eqA false) (mGetX2 (mVar 6) (mVar 13) (mNeg (mC (.int 1)))) (mBin subD (mBin ixY (mVar 6) (mBin ixY (mVar 4) (mNeg (mC (.int 1))))) (mC (.int 1))))) (tOrD (tOf (mBin (eqA false) (mVar 13) (mVar 2))) (tOf (mBin (inZ false) (mVar 13) (mVar 3))))) (mVar 13) [13] kFrz) (gSet 11))
    (sExpr (mMt appendF (mVar 4) (mCons (mCall minLD (mCons (mVar 11) (mNil))) (mNil))))) FUEL)
    (sFz 4 (sRet (mCall tupleD (mCons (mVar 4) (mNil)))))))))
def f_l_least_way : FS := runF 14 b_l_least_way
def b_shortest_way : MS := sSeq (sAsg (mCall (callF f_steps_left) (mCons (mVar 0) (mCons (mVar 2) (mCons (mDc (iSeq (mVar 3)) (gSet 8) (tTrue) (mVar 8) (mC (.bool true)) [8]) (mNil))))) (gSet 4))
    (sSeq (sIf (tOf (mBin (dinF true) (mVar 1) (mVar 4))) (sRet (mC .none)) (sNil))
    (sSeq (sAsg (mCall tupF (mCons (mVar 1) (mNil))) (gSet 5))
    (sSeq (whileL (tOf (mBin (eqA true) (mBin idxD (mVar 5) (mNeg (mC (.int 1)))) (mVar 2))) (sSeq (sAsg (mBin idxD (mVar 5) (mNeg (mC (.int 1)))) (gSet 6))
    (sSeq (sAsg (mLc (iSeq (mCall (callF f_steps_from) (mCons (mVar 0) (mCons (mVar 6) (mNil))))) (gSet 8) (tOf (mBin (eqA false) (mGet1' (mVar 4) (mVar 8)) (mBin subD (mBin dgetF (mVar 4) (mVar 6)) (mC (.int 1))))) (mVar 8) [8] kFrz) (gSet 7))
    (sAug 5 iaddT (mCall tupF (mCons (mCall minLD (mCons (mLc (iSeq (mVar 7)) (gSet 8) (tOrD (tOf (mBin (eqA false) (mVar 8) (mVar 2))) (tOf (mBin (inA true) (mVar 8) (mVar 3)))) (mVar 8) [8] kFrz) (mNil))) (mNil)))))) FUEL)
    (sRet (mVar 5)))))
def f_shortest_way : FS := runF 9 b_shortest_way
def b_l_place : MS := sSeq (sAsg (mBin addA (mC (.int 2)) (mCall (callF f_l_take) (mCons (mVar 0) (mCons (mBin subD (mVar 1) (mC (.int 1))) (mNil))))) (gSet 2))
    (sSeq (sAsg (mCall (callF f_l_some) (mCons (mVar 0) (mCons (mCall lstF (mCons (mC (.int 0)) (mCons (mC (.int 0)) (mCons (mC (.int 0)) (mCons (mC (.int 2)) (mCons (mC (.int 2)) (mCons (mC (.int 4)) (mCons (mC (.int 4)) (mCons (mC (.int 2)) (mCons (mC (.int 5)) (mCons (mC (.int 6)) (mCons (mC (.int 7)) (mNil))))))))))))) (mNil)))) (gSet 3))
    (sSeq (sAsg (mCall (callF f_l_flat) (mCons (mLc (iRng1D (mCons (mVar 2) (mNil))) (gSet 5) (tTrue) (mLc (iRng1D (mCons (mVar 2) (mNil))) (gSet 6) (tOf (mBin (eqA true) (mVar 6) (mVar 5))) (mCall tupF (mCons (mVar 5) (mCons (mVar 6) (mNil)))) [6] kFrz) [5] kFrz) (mNil))) (gSet 4))
    (sSeq (sIf (tOf (mBin ltD (mVar 3) (mC (.int 2)))) (sRet (mCall tupF (mCons (mVar 2) (mCons (mCall tupleD (mCons (mVar 4) (mNil))) (mNil))))) (sNil))
    (sSeq (sIf (tOrD (tOf (mBin ltD (mVar 3) (mC (.int 4)))) (tAndD (tOf (mBin (eqA false) (mVar 3) (mC (.int 4)))) (tOf (mBin ltD (mVar 2) (mC (.int 3)))))) (sRet (mCall tupF (mCons (mVar 2) (mCons (mCall tupleD (mCons (mLc (iSeq (mVar 4)) (gTupD 2 (gsCons (gSet 5) (gsCons (gSet 6) (gsNil)))) (tOf (mBin (inA false) (mBin subD (mVar 5) (mVar 6)) (mCall tupF (mCons (mC (.int 1)) (mCons (mNeg (mC (.int 1))) (mNil)))))) (mCall tupF (mCons (mVar 5) (mCons (mVar 6) (mNil)))) [5, 6] kFrz) (mNil))) (mNil))))) (sNil))
    (sSeq (sIf (tOf (mBin (eqA false) (mVar 3) (mC (.int 4)))) (sRet (mCall tupF (mCons (mVar 2) (mCons (mCall tupleD (mCons (mLc (iSeq (mVar 4)) (gTupD 2 (gsCons (gSet 5) (gsCons (gSet 6) (gsNil)))) (tOf (mBin (inA false) (mBin modD (mCall intD (mCons (mBin subD (mVar 5) (mVar 6)) (mNil))) (mVar 2)) (mCall tupF (mCons (mC (.int 1)) (mCons (mBin subD (mVar 2) (mC (.int 1))) (mNil)))))) (mCall tupF (mCons (mVar 5) (mCons (mVar 6) (mNil)))) [5, 6] kFrz) (mNil))) (mNil))))) (sNil))
    (sSeq (sIf (tOf (mBin (inA false) (mVar 3) (mCall tupF (mCons (mC (.int 5)) (mCons (mC (.int 7)) (mNil)))))) (sRet (mCall tupF (mCons (mVar 2) (mCons (mCall tupleD (mCons (mLc (iSeq (mVar 4)) (gTupD 2 (gsCons (gSet 5) (gsCons (gSet 6) (gsNil)))) (tAndD (tOf (mBin ltD (mVar 5) (mVar 6))) (tOrD (tOf (mBin (eqA false) (mVar 3) (mC (.int 5)))) (tOf (mBin (eqA false) (mVar 6) (mBin addA (mVar 5) (mC (.int 1))))))) (mCall tupF (mCons (mVar 5) (mCons (mVar 6) (mNil)))) [5, 6] kFrz) (mNil))) (mNil))))) (sNil))
    (sRet (mCall tupF (mCons (mVar 2) (mCons (mCall tupleD (mCons (mCall sortedD (mCons (mSl (mCall (callF f_l_mixed) (mCons (mVar 0) (mCons (mVar 4) (mNil)))) (oNo) (oYes (mCall (callF f_l_take) (mCons (mVar 0) (mCons (mBin addA (mCall lenD (mCons (mVar 4) (mNil))) (mC (.int 1))) (mNil)))))) (mNil))) (mNil))) (mNil)))))))))))
def f_l_place : FS := runF 7 b_l_place
def b_l_graph : MS := sRet (mFrzA (mCall dictP (mCons (mLc (iSeq (mCall (callF f_l_contents) (mCons (mVar 0) (mNil)))) (gSet 1) (tTrue) (mCall tupF (mCons (mVar 1) (mCons (mCall (callF f_l_steps) (mCons (mVar 0) (mCons (mVar 1) (mNil)))) (mNil)))) [1] kFrz) (mNil))))
def f_l_graph : FS := runF 2 b_l_graph
def L_l_way_by_1 : MS := sIf (tAndD (tOf (mBin (inX true) (mVar 10) (mVar 7))) (tOrD (tOf (mBin (eqA false) (mVar 10) (mVar 3))) (tOf (mBin (inX true) (mVar 10) (mVar 4))))) (sSeq (sAsg (mVar 9) (gSubD (mVar 7) (mVar 10) setX))
    (sExpr (mMt appendF (mVar 8) (mCons (mVar 10) (mNil))))) (sNil)
def L_l_way_by_2 : MS := sFor (iSeq (mCall (callF f_l_mixed) (mCons (mVar 0) (mCons (mBin ixY (mVar 1) (mVar 9)) (mNil))))) (gSet 10) (L_l_way_by_1)
def b_l_way_by : MS := sSeq (sPar 6 7 (mCons (mCall lstF (mCons (mVar 2) (mNil))) (mCons (mDisp1 (mVar 2) (mC .none)) mNil)))
    (sSeq (whileL (tAndD (tOf (mBin (eqA true) (mVar 6) (mCall lstF (mNil)))) (tOf (mBin (inX true) (mVar 3) (mVar 7)))) (sSeq (sAsg (mCall lstB (mNil)) (gSet 8))
    (sSeq (sFor (iSeq (mVar 6)) (gSet 9) (L_l_way_by_2))
    (sAsg (mFrzA (mVar 8)) (gSet 6)))) FUEL)
    (sSeq (sIf (tOrD (tOf (mBin (inX true) (mVar 3) (mVar 7))) (tOf (mBin (eqA false) (mVar 2) (mVar 3)))) (sRet (mC .none)) (sNil))
    (sSeq (sAsg (mCall lstB (mCons (mVar 3) (mNil))) (gSet 5))
    (sSeq (whileL (tOf (mBin (eqA true) (mBin ixY (mVar 5) (mC (.int 0))) (mVar 2))) (sExpr (mMt insertF (mVar 5) (mCons (mC (.int 0)) (mCons (mBin ixY (mVar 7) (mBin ixY (mVar 5) (mC (.int 0)))) (mNil))))) FUEL)
    (sRet (mCall tupleD (mCons (mVar 5) (mNil))))))))
def f_l_way_by : FS := runF 11 b_l_way_by
def b_l_rests : MS := sSeq (sAsg (mCall (callF f_l_some) (mCons (mVar 0) (mCons (mCall lstF (mCons (mC (.int 2)) (mCons (mC (.int 3)) (mCons (mC (.int 2)) (mCons (mC (.int 3)) (mCons (mVar 2) (mCons (mBin addA (mC (.int 1)) (mCall (callF f_l_take) (mCons (mVar 0) (mCons (mVar 2) (mNil))))) (mCons (mC (.int 2)) (mCons (mC (.int 4)) (mNil)))))))))) (mNil)))) (gSet 3))
    (sRet (mCall tupleD (mCons (mCall sortedA (mCons (mSl (mCall (callF f_l_mixed) (mCons (mVar 0) (mCons (mVar 1) (mNil)))) (oNo) (oYes (mCall min2D (mCons (mVar 3) (mCons (mVar 2) (mNil)))))) (mNil))) (mNil))))
def f_l_rests : FS := runF 4 b_l_rests
def L_l_grown_1 : MS := sSeq (sAsg (mLc (iSeqK (mVar 1)) (gSet 9) (tOf (mBin (inZ true) (mVar 9) (mVar 5))) (mVar 9) [9] kFrz) (gSet 7))
    (sSeq (sAsg (mCall (callF f_l_flat) (mCons (mLc (iSeqK (mVar 7)) (gSet 9) (tTrue) (mLc (iSeqK (mBin ixY (mVar 1) (mVar 9))) (gSet 10) (tOf (mBin (inZ false) (mVar 10) (mVar 5))) (mCall tupF (mCons (mVar 9) (mCons (mVar 10) (mNil)))) [10] kFrz) [9] kFrz) (mNil))) (gSet 8))
    (sSeq (sIf (tOf (mBin (eqA false) (mVar 8) (mCall lstF (mNil)))) (sBreak) (sNil))
    (sSeq (sAsg (mCall (callF f_l_some) (mCons (mVar 0) (mCons (mVar 8) (mNil)))) (gTupD 2 (gsCons (gSet 9) (gsCons (gSet 10) (gsNil)))))
    (sAsg (mCall tupF (mCons (mBin ixY (mVar 5) (mVar 10)) (mCons (mVar 10) (mNil)))) (gTupD 2 (gsCons (gSubD (mVar 5) (mVar 9) setX) (gsCons (gSubD (mVar 6) (mVar 9) setX) (gsNil))))))))
def b_l_grown : MS := sSeq (sTupA 2 (gsCons (gSet 5) (gsCons (gSet 6) (gsNil))) (mCons (mCall dictP (mCons (mLc (iSeqK (mVar 2)) (gSet 11) (tTrue) (mCall tupF (mCons (mVar 11) (mCons (mVar 11) (mNil)))) [11] kFrz) (mNil))) (mCons (mNewT) (mNil))))
    (sSeq (sAsg (mCall (callF f_l_some) (mCons (mVar 0) (mCons (mCall lstF (mCons (mCall lenX (mCons (mVar 1) (mNil))) (mCons (mCall lenX (mCons (mVar 1) (mNil))) (mCons (mBin fdivD (mCall lenX (mCons (mVar 1) (mNil))) (mC (.int 2))) (mCons (mC (.int 2)) (mCons (mC (.int 0)) (mNil))))))) (mNil)))) (gSet 3))
    (sSeq (sFor (iRng1D (mCons (mVar 3) (mNil))) (gSet 4) (L_l_grown_1))
    (sFz 5 (sFz 6 (sRet (mCall tupF (mCons (mVar 5) (mCons (mVar 6) (mNil)))))))))
def f_l_grown : FS := runF 12 b_l_grown
def L_l_couple_1 : MS := sAsg (vIf (tOf (mBin (inX false) (mBin ixY (mVar 3) (mC (.int 1))) (mBin ixY (mVar 1) (mBin ixY (mVar 3) (mC (.int 0)))))) (mSl (mCall (callF f_l_mixed) (mCons (mVar 0) (mCons (mVar 2) (mNil)))) (oNo) (oYes (mC (.int 2)))) (mVar 3)) (gSet 3)
def b_l_couple : MS := sSeq (sAsg (mSl (mCall (callF f_l_mixed) (mCons (mVar 0) (mCons (mVar 2) (mNil)))) (oNo) (oYes (mC (.int 2)))) (gSet 3))
    (sSeq (sFor (iRng1D (mCons (mC (.int 3)) (mNil))) (gSet 4) (L_l_couple_1))
    (sRet (mCall tupF (mCons (mBin ixY (mVar 3) (mC (.int 0))) (mCons (mBin ixY (mVar 3) (mC (.int 1))) (mNil))))))
def f_l_couple : FS := runF 5 b_l_couple
def b_l_served_way : MS := sSeq (sAsg (mCall (callF f_l_lots) (mCons (mVar 0) (mCons (mVar 2) (mNil)))) (gSet 4))
    (sSeq (sAsg (mFrzA (mCall dictP (mCons (mLc (iSeqK (mVar 4)) (gSet 6) (tOf (mBin (inZ false) (mBin ixY (mVar 4) (mVar 6)) (mBin ixY (mVar 3) (mC (.int 2))))) (mCall tupF (mCons (mVar 6) (mCons (mC (.bool true)) (mNil)))) [6] kFrz) (mNil)))) (gSet 5))
    (sRet (mCall (callF f_l_least_way) (mCons (mVar 1) (mCons (mBin ixY (mVar 3) (mC (.int 0))) (mCons (mBin ixY (mVar 3) (mC (.int 1))) (mCons (mVar 5) (mNil))))))))
def f_l_served_way : FS := runF 7 b_l_served_way
def L_l_other_lots_1 : MS := sSeq (sPar 8 9 (mCons (mLc (iSeqK (mCall sortedA (mCons (mVar 2) (mNil)))) (gSet 6) (tOf (mBin (inZ true) (mVar 6) (mBin ixY (mVar 1) (mC (.int 1))))) (mVar 6) [6] kFrz) (mCons (mCall dictC (mCons (mVar 4) (mNil))) mNil)))
    (sSeq (sIf (tOf (mBin (eqA false) (mVar 8) (mCall lstF (mNil)))) (sBreak) (sNil))
    (sSeq (sAsg (mCall (callF f_l_some) (mCons (mVar 0) (mCons (mVar 8) (mNil)))) (gSet 6))
    (sSeq (sAsg (mLc (iSeqK (mBin ixY (mVar 2) (mVar 6))) (gSet 10) (tOf (mBin (inZ false) (mVar 10) (mVar 4))) (mBin ixY (mVar 4) (mVar 10)) [10] kFrz) (gSet 7))
    (sSeq (sExpr (mPopD2 (mVar 9) (mVar 6) (mC .none)))
    (sSeq (sIf (tAndD (tOf (mBin (eqA true) (mVar 7) (mCall lstF (mNil)))) (tOf (mBin gtX (mCall (callF f_l_take) (mCons (mVar 0) (mCons (mC (.int 3)) (mNil)))) (mC (.int 0))))) (sAsg (mCall (callF f_l_some) (mCons (mVar 0) (mCons (mVar 7) (mNil)))) (gSubD (mVar 9) (mVar 6) setX)) (sNil))
    (sFz 9 (sAsg (vIf (tTru (mCall (callF f_l_are_lots) (mCons (mVar 1) (mCons (mVar 2) (mCons (mVar 9) (mNil)))))) (mVar 9) (mVar 4)) (gSet 4))))))))
def b_l_other_lots : MS := sSeq (sAsg (mCall (callF f_l_lots) (mCons (mVar 1) (mCons (mVar 3) (mNil)))) (gSet 4))
    (sSeq (sFor (iRng1D (mCons (mCall (callF f_l_some) (mCons (mVar 0) (mCons (mCall lstF (mCons (mC (.int 1)) (mCons (mC (.int 2)) (mCons (mC (.int 4)) (mNil))))) (mNil)))) (mNil))) (gSet 5) (L_l_other_lots_1))
    (sRet (mCall (callF f_l_model_by) (mCons (mVar 1) (mCons (mVar 4) (mNil))))))
def f_l_other_lots : FS := runF 11 b_l_other_lots
def b_served_way : MS := sSeq (sAsg (mBin ixY (mBin ixY (mVar 0) (mC (.int 2))) (mVar 2)) (gTupD 3 (gsCons (gSet 5) (gsCons (gSet 6) (gsCons (gSet 7) (gsNil))))))
    (sSeq (sAsg (mCall (callF f_lots_known) (mCons (mVar 0) (mCons (mVar 1) (mNil)))) (gSet 3))
    (sSeq (sAsg (mLc (iSeqK (mCall (callF f_contents_of) (mCons (mBin ixY (mVar 0) (mC (.int 0))) (mNil)))) (gSet 8) (tOf (mBin (inZ true) (mGetX1 (mVar 3) (mVar 8)) (mVar 7))) (mVar 8) [8] kFrz) (gSet 4))
    (sRet (mCall (callF f_shortest_way) (mCons (mBin ixY (mVar 0) (mC (.int 0))) (mCons (mVar 5) (mCons (mVar 6) (mCons (mVar 4) (mNil)))))))))
def f_served_way : FS := runF 9 b_served_way
def L_l_bench_1 : MS := sIf (tOf (mBin leD (mBin mulD (mVar 4) (mC (.int 2))) (mVar 1))) (sSeq (sExpr (mMt appendF (mVar 3) (mCons (mCall (callF f_l_place) (mCons (mVar 0) (mCons (mCall min2D (mCons (mCall (callF f_l_some) (mCons (mVar 0) (mCons (mCall lstF (mCons (mC (.int 6)) (mCons (mC (.int 4)) (mCons (mC (.int 3)) (mCons (mC (.int 3)) (mCons (mC (.int 2)) (mNil))))))) (mNil)))) (mCons (mBin fdivD (mVar 1) (mVar 4)) (mNil)))) (mNil)))) (mNil))))
    (sAsg (mBin mulD (mVar 4) (mBin idxD (mBin idxD (mVar 3) (mNeg (mC (.int 1)))) (mC (.int 0)))) (gSet 4))) (sNil)
def b_l_bench : MS := sSeq (sPar 3 4 (mCons (mCall lstB (mNil)) (mCons (mC (.int 1)) mNil)))
    (sSeq (sFor (iRng1D (mCons (mCall (callF f_l_some) (mCons (mVar 0) (mCons (mCall lstF (mCons (mC (.int 1)) (mCons (mC (.int 2)) (mCons (mC (.int 2)) (mCons (mC (.int 3)) (mCons (mC (.int 3)) (mCons (mC (.int 4)) (mCons (mC (.int 5)) (mNil))))))))) (mNil)))) (mNil))) (gSet 2) (L_l_bench_1))
    (sRet (mCall tupleD (mCons (mVar 3) (mNil)))))
def f_l_bench : FS := runF 5 b_l_bench
def L_l_wandering_1 : MS := sSeq (sAsg (mLc (iSeqK (mBin ixY (mVar 1) (mBin ixY (mVar 7) (mNeg (mC (.int 1)))))) (gSet 11) (tAndD (tOf (mBin (inZ true) (mVar 11) (mVar 4))) (tOrD (tTru (mVar 8)) (tOf (mBin (eqA true) (mVar 11) (mVar 3))))) (mVar 11) [11] kFrz) (gSet 9))
    (sIf (tOf (mBin (eqA true) (mVar 9) (mCall lstF (mNil)))) (sExpr (mMt appendF (mVar 7) (mCons (mCall (callF f_l_some) (mCons (mVar 0) (mCons (mVar 9) (mNil)))) (mNil)))) (sNil))
def L_l_wandering_2 : MS := sSeq (sAsg (vIf (tOf (mBin (eqA true) (mBin ixY (mVar 7) (mBin subD (mVar 6) (mC (.int 1)))) (mVar 3))) (mCall (callF f_l_way_by) (mCons (mVar 0) (mCons (mVar 1) (mCons (mBin ixY (mVar 7) (mBin subD (mVar 6) (mC (.int 1)))) (mCons (mVar 3) (mCons (mVar 4) (mNil))))))) (mCall tupF (mCons (mVar 3) (mNil)))) (gSet 10))
    (sIf (tOf (mBin (isND true) (mVar 10) (mC .none))) (sRet (mBin addA (mCall tupleD (mCons (mSl (mVar 7) (oNo) (oYes (mBin subD (mVar 6) (mC (.int 1))))) (mNil))) (mVar 10))) (sNil))
def b_l_wandering : MS := sSeq (sTupA 2 (gsCons (gSet 7) (gsCons (gSet 8) (gsNil))) (mCons (mCall lstB (mCons (mVar 2) (mNil))) (mCons (mBin (eqA false) (mCall (callF f_l_take) (mCons (mVar 0) (mCons (mC (.int 3)) (mNil)))) (mC (.int 0))) (mNil))))
    (sSeq (sFor (iRng1D (mCons (mCall (callF f_l_some) (mCons (mVar 0) (mCons (mCall lstF (mCons (mC (.int 0)) (mCons (mC (.int 0)) (mCons (mC (.int 1)) (mCons (mC (.int 3)) (mCons (mC (.int 6)) (mNil))))))) (mNil)))) (mNil))) (gSet 5) (L_l_wandering_1))
    (sSeq (sFz 7 (sFor (iRng3D (mCons (mCall lenX (mCons (mVar 7) (mNil))) (mCons (mC (.int 0)) (mCons (mNeg (mC (.int 1))) (mNil))))) (gSet 6) (L_l_wandering_2)))
    (sRet (mC .none))))
def f_l_wandering : FS := runF 12 b_l_wandering
def L_l_any_task_1 : MS := sSeq (sAsg (mCall (callF f_l_couple) (mCons (mVar 0) (mCons (mVar 4) (mCons (mVar 6) (mNil))))) (gTupD 2 (gsCons (gSet 8) (gsCons (gSet 9) (gsNil)))))
    (sIf (tOf (mBin (isND true) (mCall (callF f_l_way_by) (mCons (mVar 0) (mCons (mVar 4) (mCons (mVar 8) (mCons (mVar 9) (mCons (mCall lstF (mNil)) (mNil))))))) (mC .none))) (sAsg (mCall (callF f_l_ends) (mCons (mVar 0) (mCons (mVar 6) (mCons (mVar 8) (mCons (mVar 9) (mNil)))))) (gSubD (mVar 7) (mCall tupF (mCons (mVar 8) (mCons (mVar 9) (mNil)))) setX)) (sNil))
def b_l_any_task : MS := sSeq (sAsg (mCall (callF f_l_graph) (mCons (mVar 1) (mNil))) (gSet 4))
    (sSeq (sTupA 2 (gsCons (gSet 6) (gsCons (gSet 7) (gsNil))) (mCons (mCall (callF f_l_rests) (mCons (mVar 0) (mCons (mCall sortedA (mCons (mVar 4) (mNil))) (mCons (mVar 2) (mNil))))) (mCons (mNewN) (mNil))))
    (sSeq (sFor (iRng1D (mCons (mBin mulD (mVar 3) (mCall intD (mCons (mBin gtD (mCall lenD (mCons (mVar 6) (mNil))) (mC (.int 1))) (mNil)))) (mNil))) (gSet 5) (L_l_any_task_1))
    (sRet (mCall tupF (mCons (mVar 1) (mCons (mVar 6) (mCons (mCall tupleD (mCons (mLc (iSeq (mCall sortedA (mCons (mVar 7) (mNil)))) (gSet 10) (tTrue) (mBin addA (mVar 10) (mCall tupF (mCons (mBin ixY (mVar 7) (mVar 10)) (mNil)))) [10] kFrz) (mNil))) (mNil))))))))
def f_l_any_task : FS := runF 11 b_l_any_task
def b_unserved_orders : MS := sRet (mLc (iRng1D (mCons (mCall lenX (mCons (mBin ixY (mVar 0) (mC (.int 2))) (mNil))) (mNil))) (gSet 2) (tOf (mBin (isND false) (mCall (callF f_served_way) (mCons (mVar 0) (mCons (mVar 1) (mCons (mVar 2) (mNil))))) (mC .none))) (mVar 2) [2] kBox)
def f_unserved_orders : FS := runF 3 b_unserved_orders
def L_l_planted_1 : MS := sSeq (sAsg (mCall (callF f_l_couple) (mCons (mVar 0) (mCons (mVar 4) (mCons (mVar 5) (mNil))))) (gTupD 2 (gsCons (gSet 16) (gsCons (gSet 17) (gsNil)))))
    (sSeq (sAsg (mCall (callF f_l_ends) (mCons (mVar 0) (mCons (mVar 5) (mCons (mVar 16) (mCons (mVar 17) (mNil)))))) (gSet 13))
    (sSeq (sAsg (mLc (iSeqK (mVar 4)) (gSet 18) (tOf (mBin (inZ true) (mGetX2 (mVar 11) (mVar 18) (mC .none)) (mVar 13))) (mVar 18) [18] kFrz) (gSet 14))
    (sSeq (sAsg (vIf (tOf (mBin (inZ true) (mCall tupF (mCons (mVar 16) (mCons (mVar 17) (mNil)))) (mVar 6))) (mCall (callF f_l_wandering) (mCons (mVar 0) (mCons (mVar 4) (mCons (mVar 16) (mCons (mVar 17) (mCons (mVar 14) (mNil))))))) (mC .none)) (gSet 15))
    (sIf (tOf (mBin (isND true) (mVar 15) (mC .none))) (sAsg (mCall tupF (mCons (mVar 13) (mCons (mVar 15) (mNil)))) (gSubD (mVar 6) (mCall tupF (mCons (mVar 16) (mCons (mVar 17) (mNil)))) setX)) (sNil)))))
def b_l_planted : MS := sSeq (sAsg (mCall (callF f_l_graph) (mCons (mVar 1) (mNil))) (gSet 4))
    (sSeq (sAsg (mCall (callF f_l_rests) (mCons (mVar 0) (mCons (mCall sortedA (mCons (mVar 4) (mNil))) (mCons (mVar 2) (mNil))))) (gSet 5))
    (sSeq (sAsg (mCall (callF f_l_grown) (mCons (mVar 0) (mCons (mVar 4) (mCons (mVar 5) (mNil))))) (gTupD 2 (gsCons (gSet 11) (gsCons (gSet 12) (gsNil)))))
    (sSeq (sAsg (mNewN) (gSet 6))
    (sSeq (sFor (iRng1D (mCons (mBin mulD (mVar 3) (mCall intD (mCons (mBin gtX (mCall lenX (mCons (mVar 5) (mNil))) (mC (.int 1))) (mNil)))) (mNil))) (gSet 7) (L_l_planted_1))
    (sSeq (sAsg (mCall tupF (mCons (mVar 1) (mCons (mVar 5) (mCons (mCall tupleD (mCons (mLc (iSeqK (mCall sortedA (mCons (mVar 6) (mNil)))) (gSet 19) (tTrue) (mBin addA (mVar 19) (mCall tupF (mCons (mBin ixY (mBin ixY (mVar 6) (mVar 19)) (mC (.int 0))) (mNil)))) [19] kFrz) (mNil))) (mNil))))) (gSet 8))
    (sSeq (sAsg (mCall tupF (mCons (mCall tupleD (mCons (mLc (iSeqK (mCall sortedA (mCons (mVar 12) (mNil)))) (gSet 20) (tTrue) (mCall tupF (mCons (mVar 20) (mCons (mBin ixY (mVar 12) (mVar 20)) (mNil)))) [20] kFrz) (mNil))) (mCons (mCall tupleD (mCons (mLc (iSeqK (mCall sortedA (mCons (mVar 6) (mNil)))) (gSet 19) (tTrue) (mBin ixY (mBin ixY (mVar 6) (mVar 19)) (mC (.int 1))) [19] kFrz) (mNil))) (mNil)))) (gSet 9))
    (sSeq (sAsg (mLc (iSeqK (mVar 5)) (gSet 21) (tTrue) (mCall tupleD (mCons (mLc (iSeqK (mCall sortedA (mCons (mVar 11) (mNil)))) (gSet 18) (tOf (mBin (eqA false) (mBin ixY (mVar 11) (mVar 18)) (mVar 21))) (mVar 18) [18] kFrz) (mNil))) [21] kFrz) (gSet 10))
    (sRet (mCall tupF (mCons (mVar 8) (mCons (mVar 9) (mCons (mCall tupleD (mCons (mVar 10) (mNil))) (mNil)))))))))))))
def f_l_planted : FS := runF 22 b_l_planted
def b_l_world : MS := sSeq (sAsg (mCall (callF f_l_bench) (mCons (mVar 0) (mCons (mVar 1) (mNil)))) (gSet 4))
    (sSeq (sAsg (mCall (callF f_l_planted) (mCons (mVar 0) (mCons (mVar 4) (mCons (mVar 2) (mCons (mVar 3) (mNil)))))) (gTupD 3 (gsCons (gSet 6) (gsCons (gSet 7) (gsCons (gSet 8) (gsNil))))))
    (sSeq (sAsg (mCall (callF f_l_graph) (mCons (mVar 4) (mNil))) (gSet 5))
    (sRet (mCall tupF (mCons (mVar 6) (mCons (mVar 7) (mCons (mVar 8) (mCons (mVar 5) (mNil)))))))))
def f_l_world : FS := runF 9 b_l_world
def L_l_served_right_1 : MS := sSeq (sAsg (mCall (callF f_unserved_orders) (mCons (mVar 0) (mCons (mVar 2) (mNil)))) (gSet 6))
    (sSeq (sIf (tNotD (tTru (mCall (callF f_l_alike) (mCons (mVar 6) (mCons (mLc (iRng1D (mCons (mCall lenX (mCons (mVar 4) (mNil))) (mNil))) (gSet 8) (tOf (mBin (isND false) (mBin ixY (mVar 4) (mVar 8)) (mC .none))) (mVar 8) [8] kFrz) (mNil)))))) (sRet (mC (.bool false))) (sNil))
    (sSeq (sExpr (mMt appendF (mVar 6) (mCons (mC (.int 99)) (mNil))))
    (sSeq (sExpr (mMt reverseF (mVar 6) mNil))
    (sIf (tOrD (tNotD (tTru (mCall (callF f_l_alike) (mCons (mLc (iRng1D (mCons (mCall lenX (mCons (mVar 4) (mNil))) (mNil))) (gSet 8) (tTrue) (mCall (callF f_served_way) (mCons (mVar 0) (mCons (mVar 2) (mCons (mVar 8) (mNil))))) [8] kFrz) (mCons (mVar 4) (mNil)))))) (tOf (mBin (eqA true) (mCall reprD (mCons (mCall tupF (mCons (mVar 0) (mCons (mVar 2) (mNil)))) (mNil))) (mVar 5)))) (sRet (mC (.bool false))) (sNil)))))
def b_l_served_right : MS := sSeq (sAsg (mCall tupF (mCons (mLc (iSeqK (mBin ixY (mVar 0) (mC (.int 2)))) (gSet 7) (tTrue) (mCall (callF f_l_served_way) (mCons (mVar 0) (mCons (mVar 1) (mCons (mVar 2) (mCons (mVar 7) (mNil)))))) [7] kFrz) (mCons (mCall reprD (mCons (mCall tupF (mCons (mVar 0) (mCons (mVar 2) (mNil)))) (mNil))) (mNil)))) (gTupD 2 (gsCons (gSet 4) (gsCons (gSet 5) (gsNil)))))
    (sSeq (sFor (iRng1D (mCons (mC (.int 2)) (mNil))) (gSet 3) (L_l_served_right_1))
    (sRet (mC (.bool true))))
def f_l_served_right : FS := runF 9 b_l_served_right
def L_law_1 : MS := sSeq (sAsg (mCall (callF f_l_world) (mCons (mVar 2) (mCons (mCall (callF f_l_some) (mCons (mVar 2) (mCons (mCall lstF (mCons (mC (.int 36)) (mCons (mC (.int 12)) (mCons (mC (.int 24)) (mCons (mC (.int 8)) (mNil)))))) (mNil)))) (mCons (mC (.int 5)) (mCons (mC (.int 8)) (mNil)))))) (gTupD 4 (gsCons (gSet 5) (gsCons (gSet 8) (gsCons (gSet 7) (gsCons (gSet 6) (gsNil)))))))
    (sSeq (sExpr (mMt appendF (mVar 3) (mCons (mCall tupF (mCons (mVar 5) (mCons (mVar 6) (mCons (mVar 7) (mNil))))) (mNil))))
    (sSeq (sExpr (mMt appendF (mVar 3) (mCons (mCall tupF (mCons (mVar 5) (mCons (mVar 6) (mCons (mCall (callF f_l_other_lots) (mCons (mVar 2) (mCons (mVar 5) (mCons (mVar 6) (mCons (mVar 7) (mNil)))))) (mNil))))) (mNil))))
    (sSeq (sAsg (mCall (callF f_l_any_task) (mCons (mVar 2) (mCons (mBin ixY (mVar 5) (mC (.int 0))) (mCons (mC (.int 5)) (mCons (mC (.int 8)) (mNil)))))) (gSet 4))
    (sSeq (sAsg (mCall (callF f_l_grown) (mCons (mVar 2) (mCons (mVar 6) (mCons (mBin ixY (mVar 4) (mC (.int 1))) (mNil))))) (gTupD 2 (gsCons (gSet 9) (gsCons (gSet 10) (gsNil)))))
    (sExpr (mMt appendF (mVar 3) (mCons (mCall tupF (mCons (mVar 4) (mCons (mVar 6) (mCons (mCall (callF f_l_model_by) (mCons (mVar 4) (mCons (mVar 9) (mNil)))) (mNil))))) (mNil))))))))
def L_law_2 : MS := sIf (tNotD (tTru (mCall (callF f_l_served_right) (mCons (mVar 5) (mCons (mVar 6) (mCons (mVar 7) (mNil))))))) (sRet (mC (.bool false))) (sNil)
def b_law : MS := sSeq (sPar 2 3 (mCons (mCall (callF f_l_bag) (mCons (mVar 0) (mNil))) (mCons (mCall lstB (mNil)) mNil)))
    (sSeq (sFor (iRng1D (mCons (mC (.int 3)) (mNil))) (gSet 1) (L_law_1))
    (sSeq (sFz 3 (sFor (iSeqK (mBin addA (mCall (callF f_l_mixed) (mCons (mVar 2) (mCons (mVar 3) (mNil)))) (mSl (mVar 3) (oNo) (oYes (mC (.int 1)))))) (gTupD 3 (gsCons (gSet 5) (gsCons (gSet 6) (gsCons (gSet 7) (gsNil))))) (L_law_2)))
    (sRet (mC (.bool true)))))
def f_law : FS := runF 11 b_law
end KV
end
noncomputable section
namespace KV
open PySem PySem.Spec PyProof.Rows L2 DL K17 K62 KH
def enumK : Nat → List (List Int) → List (List Key × Nat)
  | _, [] => []
  | j, c :: l => (kc c, j) :: enumK (j + 1) l
def tabK (l : List (List Int)) : List (List Key × W) := (enumK 0 l).map fun q => (q.1, .loc q.2)
theorem map_set {l : List (List Int)} {f g : List Int → Ob} {k : Nat} {d : List Int} (hn : l.Nodup) (hk : l[k]? = some d) (hg : ∀ c, c ≠ d → g c = f c) : (l.map f).set k (g d) = l.map g := by
  apply List.ext_getElem?
  intro i
  by_cases hi : k = i
  · subst hi
    have hlt := (List.getElem?_eq_some_iff.mp hk).1
    rw [List.getElem?_set_self (by rw [List.length_map]; exact hlt), List.getElem?_map, hk]; rfl
  · rw [List.getElem?_set_ne hi, List.getElem?_map, List.getElem?_map]
    cases h : l[i]? with
    | none => rfl
    | some c =>
      have hne : c ≠ d := by
        rintro rfl
        obtain ⟨h1, e1⟩ := List.getElem?_eq_some_iff.mp hk
        obtain ⟨h2, e2⟩ := List.getElem?_eq_some_iff.mp h
        exact hi ((List.getElem_inj hn).mp (e1.trans e2.symm))
      simp [hg c hne]
end KV
end
noncomputable section
namespace K39
open PySem PySem.Spec PyProof.Rows L2 DL K17 K62
section
variable {b : List Pl} {s t : List Int} {bs al : List (List Int)} {k : Nat} {far : List (List Int × Nat)} {front : List (List Int)}
abbrev ID (b : List Pl) (t : List Int) (bs : List (List Int)) (n : Nat) (x : List Int) : Prop := IsD (adjC b) t (bB bs) n x
/-- the contents of the next level -/
def lat (b : List Pl) (s : List Int) (al : List (List Int)) (far : List (List Int × Nat)) (front : List (List Int)) : List (List Int) :=
  (conts b).filter fun x => !decide (x ∈ far.map (·.1)) && ((decide (x ∈ al) || decide (x = s)) && !((adjC b x).filter fun y => decide (y ∈ front)).isEmpty)
structure LW (b : List Pl) (s t : List Int) (bs al : List (List Int)) (k : Nat) (far : List (List Int × Nat)) (front : List (List Int)) : Prop where
  nd : (far.map (·.1)).Nodup
  snd : ∀ q ∈ far, ID b t bs q.2 q.1 ∧ q.2 ≤ k ∧ q.1 ∈ conts b
  cmp : ∀ x ∈ conts b, (x ∈ al ∨ x = s ∨ x = t) → ∀ d, d ≤ k → ID b t bs d x → (x, d) ∈ far
  fr : ∀ x, x ∈ front ↔ ((x, k) ∈ far ∧ (x ∈ al ∨ x = t))
def Alw (b : List Pl) (bs al : List (List Int)) : Prop := ∀ x, x ∈ al ↔ x ∈ conts b ∧ x ∉ bs
theorem ok_iff (ha : Alw b bs al) {y : List Int} (hy : y ∈ conts b) : okN t (bB bs) y = true ↔ y = t ∨ y ∈ al := by
  unfold okN bB
  rw [ha]
  by_cases h1 : y = t <;> by_cases h2 : y ∈ bs <;> simp [h1, h2, hy]
theorem LW.keys (h : LW b s t bs al k far front) {x : List Int} (hx : x ∈ far.map (·.1)) : ∃ d, d ≤ k ∧ ID b t bs d x ∧ (x, d) ∈ far := by
  obtain ⟨q, hq, rfl⟩ := List.mem_map.mp hx
  exact ⟨q.2, (h.snd q hq).2.1, (h.snd q hq).1, hq⟩
theorem LW.len (h : LW b s t bs al k far front) : far.length ≤ (conts b).length := by
  have := nodup_len (m := conts b) h.nd fun x hx => by
    obtain ⟨q, hq, rfl⟩ := List.mem_map.mp hx
    exact (h.snd q hq).2.2
  rwa [List.length_map] at this
theorem LW.next (g : Good b) (ha : Alw b bs al) (h : LW b s t bs al k far front) {x : List Int} (hx : x ∈ conts b) (hf : x ∉ far.map (·.1)) (hr : x ∈ al ∨ x = s) : (∃ y ∈ adjC b x, y ∈ front) ↔ ID b t bs (k + 1) x := by
  have hadj : ∀ y ∈ adjC b x, y ∈ conts b := fun y hy => inV.mpr (adj_fits g (inV.mp hx) hy)
  constructor
  · rintro ⟨y, hy, hyf⟩
    obtain ⟨h1, h2⟩ := (h.fr y).mp hyf
    have hd := (h.snd _ h1).1
    have hok : okN t (bB bs) y = true := (ok_iff ha (hadj y hy)).mpr (h2.symm)
    have hD := Dn_step hy hok hd.is
    obtain ⟨m, hm, hi⟩ := least _ hD
    by_cases hmk : m = k + 1
    · rw [← hmk]; exact hi
    · have := h.cmp x hx (hr.elim .inl fun e => .inr (.inl e)) m (by omega) hi
      exact absurd (List.mem_map.mpr ⟨_, this, rfl⟩) hf
  · intro hd
    obtain ⟨y, X, Y, _, e, _, hok, hi⟩ := nxt_ex hd
    have hy : y ∈ adjC b x := by rw [e]; simp
    refine ⟨y, hy, (h.fr y).mpr ?_⟩
    have h2 := (ok_iff ha (hadj y hy)).mp hok
    exact ⟨h.cmp y (hadj y hy) (h2.elim (fun e => .inr (.inr e)) .inl) k (Nat.le_refl _) hi, h2.symm⟩
theorem lat_mem (g : Good b) (ha : Alw b bs al) (h : LW b s t bs al k far front) {x : List Int} : x ∈ lat b s al far front ↔ x ∈ conts b ∧ x ∉ far.map (·.1) ∧ (x ∈ al ∨ x = s) ∧ ID b t bs (k + 1) x := by
  unfold lat
  rw [List.mem_filter]
  have he : ∀ x, (!((adjC b x).filter fun y => decide (y ∈ front)).isEmpty) = true ↔ ∃ y ∈ adjC b x, y ∈ front := fun x => by
    rw [Bool.not_eq_true', ← Bool.not_eq_true, List.isEmpty_iff, List.filter_eq_nil_iff]
    simp
  simp only [Bool.and_eq_true, Bool.not_eq_true', decide_eq_false_iff_not, Bool.or_eq_true, decide_eq_true_eq]
  constructor
  · rintro ⟨h1, h2, h3, h4⟩
    exact ⟨h1, h2, h3, (h.next g ha h1 h2 h3).mp ((he x).mp (by simpa using h4))⟩
  · rintro ⟨h1, h2, h3, h4⟩
    exact ⟨h1, h2, h3, by simpa using (he x).mpr ((h.next g ha h1 h2 h3).mpr h4)⟩
theorem LW.step (g : Good b) (ha : Alw b bs al) (h : LW b s t bs al k far front) :
    LW b s t bs al (k + 1) (far ++ (lat b s al far front).map fun x => (x, k + 1)) ((lat b s al far front).filter fun x => decide (x ∈ al)) := by
  have hm := @lat_mem b s t bs al k far front g ha h
  have hnt : ∀ x, ID b t bs (k + 1) x → x ≠ t := fun x hx e => by
    rw [e] at hx
    have := hx.uniq isD_zero
    omega
  refine ⟨?_, fun q hq => ?_, fun x hx hr d hd hi => ?_, fun x => ?_⟩
  · rw [List.map_append, List.map_map]
    have e : ((lat b s al far front).map ((·.1) ∘ fun x => (x, k + 1))) = lat b s al far front := by simp [Function.comp_def]
    rw [e, List.nodup_append]
    refine ⟨h.nd, (conts_nodup _ rfl).filter _, fun x hx y hy => ?_⟩
    rintro rfl
    exact (hm.mp hy).2.1 hx
  · rcases List.mem_append.mp hq with z | z
    · obtain ⟨h1, h2, h3⟩ := h.snd q z
      exact ⟨h1, by omega, h3⟩
    · obtain ⟨x, hx, rfl⟩ := List.mem_map.mp z
      obtain ⟨h1, _, _, h4⟩ := hm.mp hx
      exact ⟨h4, Nat.le_refl _, h1⟩
  · by_cases hdk : d ≤ k
    · exact List.mem_append_left _ (h.cmp x hx hr d hdk hi)
    · have : d = k + 1 := by omega
      subst this
      refine List.mem_append_right _ (List.mem_map.mpr ⟨x, hm.mpr ⟨hx, fun hf => ?_, ?_, hi⟩, rfl⟩)
      · obtain ⟨d, h1, h2, _⟩ := h.keys hf
        have := h2.uniq hi
        omega
      · rcases hr with c | c | c
        · exact .inl c
        · exact .inr c
        · exact absurd c (hnt x hi)
  · rw [List.mem_filter, decide_eq_true_eq]
    constructor
    · rintro ⟨h1, h2⟩
      exact ⟨List.mem_append_right _ (List.mem_map.mpr ⟨x, h1, rfl⟩), .inl h2⟩
    · rintro ⟨h1, h2⟩
      rcases List.mem_append.mp h1 with z | z
      · have := (h.snd _ z).2.1
        simp only at this
        omega
      · obtain ⟨y, hy, e⟩ := List.mem_map.mp z
        cases e
        refine ⟨hy, ?_⟩
        rcases h2 with c | c
        · exact c
        · exact absurd c (hnt x (hm.mp hy).2.2.2)
end
end K39
end
noncomputable section
namespace KV
open PySem PySem.Spec PyProof.Rows L2 DL K17 K62 KH
open K39 (ID Alw ok_iff)
section
variable {b : List Pl} {s t : List Int} {bs al : List (List Int)} {k n : Nat} {far far' : List (List Int × Nat)} {front later : List (List Int)} {done : List Int → Prop} {c y : List Int}
structure LV (b : List Pl) (s t : List Int) (bs al : List (List Int)) (k : Nat) (far : List (List Int × Nat)) (front : List (List Int)) : Prop where
  nd : (far.map (·.1)).Nodup
  snd : ∀ q ∈ far, ID b t bs q.2 q.1 ∧ q.2 ≤ k ∧ q.1 ∈ conts b ∧ (q.1 ∈ al ∨ q.1 = s ∨ q.1 = t)
  cmp : ∀ x ∈ conts b, (x ∈ al ∨ x = s ∨ x = t) → ∀ d, d ≤ k → ID b t bs d x → (x, d) ∈ far
  fr : ∀ x, x ∈ front ↔ (x, k) ∈ far
  fnd : front.Nodup
structure MV (b : List Pl) (s t : List Int) (bs al : List (List Int)) (k : Nat) (far : List (List Int × Nat)) (done : List Int → Prop) (far' : List (List Int × Nat)) (later : List (List Int)) : Prop where
  ex : ∃ ext, far' = far ++ ext ∧ later = ext.map (·.1) ∧ ∀ q ∈ ext, q.2 = k + 1 ∧ ID b t bs (k + 1) q.1 ∧ q.1 ∈ conts b ∧ (q.1 ∈ al ∨ q.1 = s)
  nd : (far'.map (·.1)).Nodup
  dn : ∀ x, done x → x ∈ far'.map (·.1)
theorem LV.len (h : LV b s t bs al k far front) : far.length ≤ (conts b).length := by
  have := nodup_len (m := conts b) h.nd fun x hx => by
    obtain ⟨q, hq, rfl⟩ := List.mem_map.mp hx
    exact (h.snd q hq).2.2.1
  rwa [List.length_map] at this
theorem MV.len (h : LV b s t bs al k far front) (M : MV b s t bs al k far done far' later) : far'.length ≤ (conts b).length ∧ far'.length = far.length + later.length := by
  obtain ⟨ext, rfl, rfl, he⟩ := M.ex
  have := nodup_len (m := conts b) M.nd fun x hx => by
    obtain ⟨q, hq, rfl⟩ := List.mem_map.mp hx
    rcases List.mem_append.mp hq with z | z
    · exact (h.snd q z).2.2.1
    · exact (he q z).2.2.1
  rw [List.length_map] at this
  exact ⟨this, by simp⟩
theorem LV.start (h : LV b s t bs al k far front) : MV b s t bs al k far (fun _ => False) far [] :=
  ⟨⟨[], by simp, rfl, fun q h => by cases h⟩, h.nd, fun x h => h.elim⟩
end
section
end
end KV
end
noncomputable section
namespace KV
open PySem PySem.Spec PyProof.Rows L2 DL K17 K62 KH
open K39 (ID Alw ok_iff)
def deal (R : List (List Int)) (L : List (List (List Int))) : List (List Int × List Int) := ((R.zip L).map fun p => p.2.map fun x => (x, p.1)).flatten
def lk (d : List (List Int × List Int)) (x : List Int) : Option (List Int) := (d.find? fun q => decide (q.1 = x)).map (·.2)
structure LotsOk (b : List Pl) (R : List (List Int)) (L : List (List (List Int))) : Prop where
  len : L.length = R.length
  nd : L.flatten.Nodup
  fits : ∀ x ∈ L.flatten, Fits x b
theorem deal_keysG : ∀ (R : List (List Int)) (L : List (List (List Int))), L.length ≤ R.length → (deal R L).map (·.1) = L.flatten
  | _, [], _ => by simp [deal]
  | [], _ :: _, h => by simp at h
  | r :: R, l :: L, h => by
    have ih := deal_keysG R L (by simpa using h)
    unfold deal at ih ⊢
    rw [List.zip_cons_cons, List.map_cons, List.flatten_cons, List.map_append, ih, List.flatten_cons, List.map_map]
    simp [Function.comp_def]
section
variable {b : List Pl} {R : List (List Int)} {L : List (List (List Int))} {os : List Od} {S : Sto}
theorem LotsOk.keys (h : LotsOk b R L) : (deal R L).map (·.1) = L.flatten := deal_keysG R L (by rw [h.len]; exact Nat.le_refl _)
theorem LotsOk.sub (h : LotsOk b R L) {l : List (List Int)} (hl : l ∈ L) : l.length ≤ (conts b).length ∧ ∀ x ∈ l, Fits x b := by
  have hs : List.Sublist l L.flatten := List.sublist_flatten_of_mem hl
  refine ⟨List.Nodup.length_le_of_subset (h.nd.sublist hs) fun x hx => inV.mpr (h.fits x (hs.subset hx)), fun x hx => h.fits x (hs.subset hx)⟩
def wD : Option (List (List Int)) → PyData
  | some w => tK w
  | none => .none
end
end KV
end
noncomputable section
namespace KV
open PySem PySem.Spec PyProof.Rows L2 DL K17 K62 KH
open K39 (ID Alw ok_iff)
section
variable {b : List Pl} {R : List (List Int)} {os : List Od} {S : Sto} {t : List Int} {al : List (List Int)} {win : PyData}
def outL (b : List Pl) (al : List (List Int)) : List (List Int) := (conts b).filter fun x => !decide (x ∈ al)
structure Deal (b : List Pl) (R : List (List Int)) (d : List (List Int × List Int)) : Prop where
  nd : (d.map (·.1)).Nodup
  ok : ∀ q ∈ d, q.1 ∈ conts b ∧ q.2 ∈ R
  own : ∀ r ∈ R, (r, r) ∈ d
theorem Deal.len {d : List (List Int × List Int)} (h : Deal b R d) : d.length ≤ (conts b).length := by
  have := List.Nodup.length_le_of_subset h.nd (l₂ := conts b) fun x hx => by
    obtain ⟨q, hq, rfl⟩ := List.mem_map.mp hx
    exact (h.ok q hq).1
  rwa [List.length_map] at this
end
end KV
end
noncomputable section
namespace KV
open PySem PySem.Spec PyProof.Rows L2 DL K17 K62 KH
open K39 (ID Alw ok_iff)
section
end
end KV
end
noncomputable section
namespace KX
open PySem PySem.Spec PyProof.Rows L2 DL
def L_contents_of_1 : MS := sAsg (mLc2 (iSeq (mVar 1)) (gSet 4) (tTrue) (iRng1D (mCons (mVar 2) (mNil))) (gSet 5) (tTrue) (mBin addA (mVar 4) (mCall tupF (mCons (mVar 5) (mNil)))) [4, 5] [5] kFrz) (gSet 1)
def b_contents_of : MS := sSeq (sAsg (mCall lstF (mCons (mCall tupF (mNil)) (mNil))) (gSet 1))
    (sSeq (sFor (iSeq (mVar 0)) (gTupD 2 (gsCons (gSet 2) (gsCons (gSet 3) (gsNil)))) (L_contents_of_1))
    (sRet (mVar 1)))
def f_contents_of : FS := runF 6 b_contents_of
def L_steps_from_1 : MS := sSeq (sAsg (mLc (iSeq (mVar 6)) (gTupD 2 (gsCons (gSet 7) (gsCons (gSet 8) (gsNil)))) (tOf (mBin (eqA false) (mVar 7) (mBin idxD (mVar 1) (mVar 3)))) (mVar 8) [7, 8] kFrz) (gSet 4))
    (sExpr (mMt extendF (mVar 2) (mCons (mLc (iSeq (mVar 4)) (gSet 8) (tTrue) (mBin addA (mBin addA (mSl (mVar 1) (oNo) (oYes (mVar 3))) (mCall tupF (mCons (mVar 8) (mNil)))) (mSl (mVar 1) (oYes (mBin addA (mVar 3) (mC (.int 1)))) (oNo))) [8] kFrz) (mNil))))
def b_steps_from : MS := sSeq (sAsg (mCall lstB (mNil)) (gSet 2))
    (sSeq (sFor (iEnumD (mCons (mVar 0) (mNil))) (gTupD 2 (gsCons (gSet 3) (gsCons (gTupD 2 (gsCons (gSet 5) (gsCons (gSet 6) (gsNil)))) (gsNil)))) (L_steps_from_1))
    (sRet (mCall sortedD (mCons (mVar 2) (mNil)))))
def f_steps_from : FS := runF 9 b_steps_from
def L_steps_to_1 : MS := sSeq (sAsg (mLc (iSeq (mVar 6)) (gTupD 2 (gsCons (gSet 7) (gsCons (gSet 8) (gsNil)))) (tOf (mBin (eqA false) (mVar 8) (mBin idxD (mVar 1) (mVar 3)))) (mVar 7) [7, 8] kFrz) (gSet 4))
    (sExpr (mMt extendF (mVar 2) (mCons (mLc (iSeq (mVar 4)) (gSet 7) (tTrue) (mBin addA (mBin addA (mSl (mVar 1) (oNo) (oYes (mVar 3))) (mCall tupF (mCons (mVar 7) (mNil)))) (mSl (mVar 1) (oYes (mBin addA (mVar 3) (mC (.int 1)))) (oNo))) [7] kFrz) (mNil))))
def b_steps_to : MS := sSeq (sAsg (mCall lstB (mNil)) (gSet 2))
    (sSeq (sFor (iEnumD (mCons (mVar 0) (mNil))) (gTupD 2 (gsCons (gSet 3) (gsCons (gTupD 2 (gsCons (gSet 5) (gsCons (gSet 6) (gsNil)))) (gsNil)))) (L_steps_to_1))
    (sRet (mCall sortedD (mCons (mVar 2) (mNil)))))
def f_steps_to : FS := runF 9 b_steps_to
def b_l_bag : MS := sRet (mCall lstB (mCons (mC (.int 0)) (mCons (mC (.int 1234567891)) (mCons (mC (.int 0)) (mCons (mLc (iSeq (mSl (mVar 0) (oNo) (oYes (mC (.int 63))))) (gSet 1) (tTrue) (mCall absD (mCons (mVar 1) (mNil))) [1] kFrz) (mNil))))))
def f_l_bag : FS := runF 2 b_l_bag
def b_l_take : MS := sSeq (sIf (tOf (mBin (eqA false) (mBin idxD (mVar 0) (mC (.int 0))) (mC (.int 0)))) (sSeq (sAsg (mBin idxD (mBin addA (mSl (mBin idxD (mVar 0) (mC (.int 3))) (oYes (mBin idxD (mVar 0) (mC (.int 2)))) (oNo)) (mCall lstF (mCons (mC (.int 0)) (mNil)))) (mC (.int 0))) (gSet 4))
    (sSeq (sAugS (mVar 0) (mC (.int 2)) (mC (.int 1)) getF iaddI setF)
    (sSeq (sIf (tOf (mBin geD (mVar 4) (mBin powD (mC (.int 10)) (mC (.int 18))))) (sAsg (mVar 4) (gSubD (mVar 0) (mC (.int 0)) setF)) (sNil))
    (sSeq (sAsg (mBin addA (mBin addA (mBin mulD (mBin idxD (mVar 0) (mC (.int 1))) (mC (.int 48271))) (mBin modD (mCall intD (mCons (mVar 4) (mNil))) (mC (.int 2147483647)))) (mBin mulD (mC (.int 7919)) (mBin idxD (mVar 0) (mC (.int 2))))) (gSet 5))
    (sAsg (mBin modD (mCall intD (mCons (mVar 5) (mNil))) (mC (.int 2147483647))) (gSubD (mVar 0) (mC (.int 1)) setF)))))) (sNil))
    (sSeq (sIf (tOf (mBin gtD (mBin idxD (mVar 0) (mC (.int 0))) (mC (.int 0)))) (sSeq (sAsg (mBin modD (mCall intD (mCons (mBin idxD (mVar 0) (mC (.int 0))) (mNil))) (mVar 1)) (gSet 6))
    (sSeq (sAsg (mBin fdivD (mCall intD (mCons (mBin idxD (mVar 0) (mC (.int 0))) (mNil))) (mVar 1)) (gSubD (mVar 0) (mC (.int 0)) setF))
    (sRet (mVar 6)))) (sNil))
    (sSeq (sAsg (mBin modD (mCall intD (mCons (mBin mulD (mBin addA (mBin idxD (mVar 0) (mC (.int 1))) (mC (.int 1))) (mC (.int 39373))) (mNil))) (mC (.int 1000000007))) (gSet 2))
    (sSeq (sAsg (mBin modD (mCall intD (mCons (mBin mulD (mBin modD (mCall intD (mCons (mBin mulD (mVar 2) (mVar 2)) (mNil))) (mC (.int 998244353))) (mC (.int 30011))) (mNil))) (mC (.int 998244353))) (gSet 3))
    (sRet (mBin modD (mCall intD (mCons (mBin fdivD (mVar 3) (mC (.int 7))) (mNil))) (mVar 1))))))
def f_l_take : FS := runF 7 b_l_take
def b_l_alike : MS := sRet (vAnd (mBin (eqE false) (mVar 0) (mVar 1)) (mBin (eqE false) (mCall reprE (mCons (mVar 0) (mNil))) (mCall reprE (mCons (mVar 1) (mNil)))))
def f_l_alike : FS := runF 2 b_l_alike
def L_l_flat_1 : MS := sExpr (mMt extendF (mVar 1) (mCons (mVar 2) (mNil)))
def b_l_flat : MS := sSeq (sAsg (mCall lstB (mNil)) (gSet 1))
    (sSeq (sFor (iSeq (mVar 0)) (gSet 2) (L_l_flat_1))
    (sRet (mFrz (mVar 1))))
def f_l_flat : FS := runF 3 b_l_flat
def L_l_steps_1 : MS := sExpr (mMt extendF (mVar 2) (mCons (mBin repL (mCall lstF (mCons (mBin addA (mBin addA (mSl (mVar 1) (oNo) (oYes (mVar 3))) (mCall tupF (mCons (mVar 5) (mNil)))) (mSl (mVar 1) (oYes (mBin addA (mVar 3) (mC (.int 1)))) (oNo))) (mNil))) (mCall intD (mCons (mBin (eqA false) (mVar 4) (mBin idxD (mVar 1) (mVar 3))) (mNil)))) (mNil)))
def L_l_steps_2 : MS := sFor (iSeq (mBin idxD (mBin idxD (mVar 0) (mVar 3)) (mC (.int 1)))) (gTupD 2 (gsCons (gSet 4) (gsCons (gSet 5) (gsNil)))) (L_l_steps_1)
def b_l_steps : MS := sSeq (sAsg (mCall lstB (mNil)) (gSet 2))
    (sSeq (sFor (iRng1D (mCons (mCall lenD (mCons (mVar 0) (mNil))) (mNil))) (gSet 3) (L_l_steps_2))
    (sRet (mCall sortedD (mCons (mVar 2) (mNil)))))
def f_l_steps : FS := runF 6 b_l_steps
def L_l_turned_1 : MS := sExpr (mMt appendF (mBin ixY (mVar 1) (mVar 3)) (mCons (mVar 2) (mNil)))
def L_l_turned_2 : MS := sFor (iSeqK (mBin ixY (mVar 0) (mVar 2))) (gSet 3) (L_l_turned_1)
def b_l_turned : MS := sSeq (sAsg (mDicE (iSeqK (mVar 0)) (gSet 2) (tTrue) (mVar 2) [2]) (gSet 1))
    (sSeq (sFor (iSeqK (mVar 0)) (gSet 2) (L_l_turned_2))
    (sRet (mFrz2 (mVar 1))))
def f_l_turned : FS := runF 4 b_l_turned
def L_l_come_to_1 : MS := sIf (tAndD (tOf (mBin (inZ false) (mVar 8) (mVar 2))) (tOf (mBin (inZ true) (mVar 8) (mVar 3)))) (sSeq (sAsg (mVar 5) (gSubD (mVar 3) (mVar 8) setX))
    (sExpr (mMt appendF (mVar 7) (mCons (mVar 8) (mNil))))) (sNil)
def L_l_come_to_2 : MS := sFor (iSeqK (mBin ixY (mVar 0) (mVar 6))) (gSet 8) (L_l_come_to_1)
def b_l_come_to : MS := sSeq (sPar 4 5 (mCons (mLc (iSeqK (mVar 1)) (gSet 6) (tOf (mBin (inZ false) (mVar 6) (mVar 2))) (mVar 6) [6] kFrz) (mCons (mC (.int 0)) mNil)))
    (sSeq (sAsg (mCall dictP (mCons (mLc (iSeqK (mVar 4)) (gSet 6) (tTrue) (mCall tupF (mCons (mVar 6) (mCons (mC (.int 0)) (mNil)))) [6] kFrz) (mNil))) (gSet 3))
    (sSeq (whileL (tOf (mBin (eqA true) (mVar 4) (mCall lstF (mNil)))) (sSeq (sPar 7 5 (mCons (mCall lstB (mNil)) (mCons (mBin addA (mVar 5) (mC (.int 1))) mNil)))
    (sSeq (sFor (iSeqK (mVar 4)) (gSet 6) (L_l_come_to_2))
    (sFz 7 (sAsg (mVar 7) (gSet 4))))) FUEL)
    (sFz 3 (sRet (mVar 3)))))
def f_l_come_to : FS := runF 9 b_l_come_to
def L_l_lots_1 : MS := sExpr (mUpdD (mVar 2) (mFrzA (mCall dictP (mCons (mLc (iSeqK (mVar 4)) (gSet 5) (tTrue) (mCall tupF (mCons (mVar 5) (mCons (mVar 3) (mNil)))) [5] kFrz) (mNil)))))
def b_l_lots : MS := sSeq (sAsg (mNewT) (gSet 2))
    (sSeq (sFor (iZipD (mCons (mBin ixY (mVar 0) (mC (.int 1))) (mCons (mVar 1) (mNil)))) (gTupD 2 (gsCons (gSet 3) (gsCons (gSet 4) (gsNil)))) (L_l_lots_1))
    (sFz 2 (sRet (mVar 2))))
def f_l_lots : FS := runF 6 b_l_lots
def b_l_model_by : MS := sRet (mCall tupleD (mCons (mLc (iSeqK (mBin ixY (mVar 0) (mC (.int 1)))) (gSet 2) (tTrue) (mCall tupleD (mCons (mCall sortedA (mCons (mLc (iSeqK (mVar 1)) (gSet 3) (tOf (mBin (eqA false) (mBin ixY (mVar 1) (mVar 3)) (mVar 2))) (mVar 3) [3] kFrz) (mNil))) (mNil))) [2] kFrz) (mNil)))
def f_l_model_by : FS := runF 4 b_l_model_by
def L_l_farthest_1 : MS := sSeq (sPar 6 7 (mCons (mVar 3) (mCons (mC (.int 0)) mNil)))
    (sSeq (whileL (tAndD (tOf (mBin (eqA true) (mVar 6) (mBin ixY (mVar 2) (mVar 3)))) (tAndD (tOf (mBin (inZ false) (mVar 6) (mVar 5))) (tOf (mBin leX (mVar 7) (mCall lenX (mCons (mVar 5) (mNil))))))) (sPar 6 7 (mCons (mBin ixY (mVar 5) (mVar 6)) (mCons (mBin addA (mVar 7) (mC (.int 1))) mNil))) FUEL)
    (sSeq (sIf (tOf (mBin (eqA true) (mVar 6) (mBin ixY (mVar 2) (mVar 3)))) (sRet (mC .none)) (sNil))
    (sAsg (mCall max2D (mCons (mVar 4) (mCons (mVar 7) (mNil)))) (gSet 4))))
def b_l_farthest : MS := sSeq (sPar 5 4 (mCons (mFrzA (mCall dictU (mCons (mVar 1) (mNil)))) (mCons (mC (.int 0)) mNil)))
    (sSeq (sFor (iSeqK (mVar 2)) (gSet 3) (L_l_farthest_1))
    (sRet (mVar 4)))
def f_l_farthest : FS := runF 8 b_l_farthest
def L_steps_left_1 : MS := sIf (tOf (mBin (inZ true) (mVar 7) (mVar 4))) (sSeq (sAsg (mBin addA (mBin ixY (mVar 4) (mVar 6)) (mC (.int 1))) (gSubD (mVar 4) (mVar 7) setX))
    (sExpr (mMt appendF (mVar 5) (mCons (mVar 7) (mNil))))) (sNil)
def L_steps_left_2 : MS := sFor (iSeqK (mCall (callF f_steps_to) (mCons (mVar 0) (mCons (mVar 6) (mNil))))) (gSet 7) (L_steps_left_1)
def b_steps_left : MS := sSeq (sPar 4 3 (mCons (mDisp1 (mVar 1) (mC (.int 0))) (mCons (mCall lstF (mCons (mVar 1) (mNil))) mNil)))
    (sSeq (whileL (tTru (mVar 3)) (sSeq (sAsg (mCall lstB (mNil)) (gSet 5))
    (sSeq (sFor (iSeqK (mLc (iSeqK (mVar 3)) (gSet 8) (tOrD (tOf (mBin (eqA false) (mVar 8) (mVar 1))) (tOf (mBin (inZ true) (mVar 8) (mVar 2)))) (mVar 8) [8] kFrz)) (gSet 6) (L_steps_left_2))
    (sFz 5 (sAsg (mVar 5) (gSet 3))))) FUEL)
    (sRet (mVar 4)))
def f_steps_left : FS := runF 9 b_steps_left
def b_l_some : MS := sRet (mBin idxD (mVar 1) (mCall (callF f_l_take) (mCons (mVar 0) (mCons (mCall lenD (mCons (mVar 1) (mNil))) (mNil)))))
def f_l_some : FS := runF 2 b_l_some
def L_l_mixed_1 : MS := sExpr (mMt insertF (mVar 2) (mCons (mCall (callF f_l_take) (mCons (mVar 0) (mCons (mBin addA (mCall lenD (mCons (mVar 2) (mNil))) (mC (.int 1))) (mNil)))) (mCons (mVar 3) (mNil))))
def b_l_mixed : MS := sSeq (sAsg (mCall lstB (mNil)) (gSet 2))
    (sSeq (sFor (iSeq (mVar 1)) (gSet 3) (L_l_mixed_1))
    (sRet (mFrz (mVar 2))))
def f_l_mixed : FS := runF 4 b_l_mixed
def L_l_contents_1 : MS := sAsg (mCall (callF f_l_flat) (mCons (mLc (iSeq (mVar 1)) (gSet 3) (tTrue) (mLc (iRng1D (mCons (mBin idxD (mVar 2) (mC (.int 0))) (mNil))) (gSet 4) (tTrue) (mBin addA (mVar 3) (mCall tupF (mCons (mVar 4) (mNil)))) [4] kFrz) [3] kFrz) (mNil))) (gSet 1)
def b_l_contents : MS := sSeq (sAsg (mCall lstF (mCons (mCall tupF (mNil)) (mNil))) (gSet 1))
    (sSeq (sFor (iSeq (mVar 0)) (gSet 2) (L_l_contents_1))
    (sRet (mVar 1)))
def f_l_contents : FS := runF 5 b_l_contents
def b_l_ends : MS := sSeq (sAsg (mCall (callF f_l_take) (mCons (mVar 0) (mCons (mC (.int 8)) (mNil)))) (gSet 4))
    (sSeq (sAsg (mCall lstF (mCons (mCall lstF (mCons (mVar 2) (mCons (mVar 3) (mNil)))) (mCons (mCall lstF (mCons (mVar 2) (mCons (mVar 3) (mNil)))) (mCons (mCall lstF (mCons (mVar 2) (mCons (mVar 3) (mNil)))) (mCons (mCall lstF (mCons (mVar 3) (mNil))) (mCons (mCall lstF (mCons (mVar 2) (mNil))) (mCons (mCall lstF (mNil)) (mCons (mCall listD (mCons (mVar 1) (mNil))) (mNil))))))))) (gSet 5))
    (sSeq (sIf (tOf (mBin ltD (mVar 4) (mC (.int 7)))) (sRet (mCall tupleD (mCons (mCall sortedA (mCons (mBin ixY (mVar 5) (mVar 4)) (mNil))) (mNil)))) (sNil))
    (sRet (mCall tupleD (mCons (mLc (iSeq (mVar 1)) (gSet 6) (tOf (mBin (eqA false) (mCall (callF f_l_take) (mCons (mVar 0) (mCons (mC (.int 2)) (mNil)))) (mC (.int 0)))) (mVar 6) [6] kFrz) (mNil))))))
def f_l_ends : FS := runF 7 b_l_ends
def L_l_are_lots_1 : MS := sSeq (sAsg (mFrzA (mCall dictP (mCons (mLc (iSeqK (mVar 2)) (gSet 6) (tOf (mBin (eqA false) (mBin ixY (mVar 2) (mVar 6)) (mVar 4))) (mCall tupF (mCons (mVar 6) (mCons (mC (.bool true)) (mNil)))) [6] kFrz) (mNil)))) (gSet 5))
    (sIf (tOf (mBin (eqA true) (mCall lenX (mCons (mCall (callF f_l_come_to) (mCons (mVar 3) (mCons (mCall lstF (mCons (mVar 4) (mNil))) (mCons (mVar 5) (mNil))))) (mNil))) (mCall lenX (mCons (mVar 5) (mNil))))) (sRet (mC (.bool false))) (sNil))
def b_l_are_lots : MS := sSeq (sAsg (mCall (callF f_l_turned) (mCons (mVar 1) (mNil))) (gSet 3))
    (sSeq (sFor (iSeqK (mBin ixY (mVar 0) (mC (.int 1)))) (gSet 4) (L_l_are_lots_1))
    (sRet (mC (.bool true))))
def f_l_are_lots : FS := runF 7 b_l_are_lots
def L_l_home_steps_1 : MS := sExpr (mUpdD (mVar 4) (mCall (callF f_l_come_to) (mCons (mVar 3) (mCons (mCall lstF (mCons (mVar 5) (mNil))) (mCons (mFrzA (mCall dictP (mCons (mLc (iSeqK (mVar 6)) (gSet 7) (tTrue) (mCall tupF (mCons (mVar 7) (mCons (mC (.bool true)) (mNil)))) [7] kFrz) (mNil)))) (mNil))))))
def b_l_home_steps : MS := sSeq (sTupA 2 (gsCons (gSet 3) (gsCons (gSet 4) (gsNil))) (mCons (mCall (callF f_l_turned) (mCons (mVar 1) (mNil))) (mCons (mNewT) (mNil))))
    (sSeq (sFor (iZipD (mCons (mBin ixY (mVar 0) (mC (.int 1))) (mCons (mVar 2) (mNil)))) (gTupD 2 (gsCons (gSet 5) (gsCons (gSet 6) (gsNil)))) (L_l_home_steps_1))
    (sFz 4 (sRet (mFrzA (mCall dictP (mCons (mLc (iSeqK (mCall sortedA (mCons (mVar 4) (mNil)))) (gSet 7) (tTrue) (mCall tupF (mCons (mVar 7) (mCons (mBin ixY (mVar 4) (mVar 7)) (mNil)))) [7] kFrz) (mNil)))))))
def f_l_home_steps : FS := runF 8 b_l_home_steps
def L_l_choices_1 : MS := sSeq (sAsg (mCall dictC (mCons (mVar 7) (mNil))) (gSet 11))
    (sSeq (sAsg (mVar 10) (gSubD (mVar 11) (mVar 4) setX))
    (sFz 11 (sExpr (mMt appendF (mVar 8) (mCons (mVar 11) (mNil))))))
def L_l_choices_2 : MS := sFor (iSeqK (mVar 9)) (gSet 10) (L_l_choices_1)
def L_l_choices_3 : MS := sIf (tOf (mBin (eqA true) (mVar 4) (mBin ixY (mVar 5) (mVar 4)))) (sSeq (sPar 9 8 (mCons (mLc (iSeqK (mBin ixY (mVar 1) (mVar 4))) (gSet 10) (tOf (mBin (eqA false) (mGetX2 (mVar 5) (mVar 10) (mC .none)) (mBin ixY (mVar 5) (mVar 4)))) (mVar 10) [10] kFrz) (mCons (mCall lstB (mNil)) mNil)))
    (sSeq (sFor (iSeqK (mVar 6)) (gSet 7) (L_l_choices_2))
    (sSeq (sFz 8 (sAsg (mVar 8) (gSet 6)))
    (sIf (tOf (mBin gtX (mCall lenX (mCons (mVar 6) (mNil))) (mVar 3))) (sRet (mC .none)) (sNil))))) (sNil)
def b_l_choices : MS := sSeq (sAsg (mCall tupF (mCons (mCall (callF f_l_lots) (mCons (mVar 0) (mCons (mVar 2) (mNil)))) (mCons (mCall lstF (mCons (mFrzA (mNewT)) (mNil))) (mNil)))) (gTupD 2 (gsCons (gSet 5) (gsCons (gSet 6) (gsNil)))))
    (sSeq (sFor (iSeqK (mCall sortedA (mCons (mVar 5) (mNil)))) (gSet 4) (L_l_choices_3))
    (sRet (mLc (iSeqK (mVar 6)) (gSet 7) (tTrue) (mCall tupleD (mCons (mSortIt (mVar 7)) (mNil))) [7] kFrz)))
def f_l_choices : FS := runF 12 b_l_choices
def b_steps_home : MS := sSeq (sAsg (mFrzA (mDc (iSeqK (mVar 2)) (gSet 6) (tTrue) (mVar 6) (mC (.bool true)) [6])) (gSet 3))
    (sSeq (sAsg (mFrzA (mDc (iSeqK (mCall (callF f_contents_of) (mCons (mBin ixY (mVar 0) (mC (.int 0))) (mNil)))) (gSet 6) (tOf (mBin (inZ true) (mVar 6) (mVar 3))) (mVar 6) (mC (.bool true)) [6])) (gSet 4))
    (sSeq (sAsg (mFrzA (mCall (callF f_steps_left) (mCons (mBin ixY (mVar 0) (mC (.int 0))) (mCons (mVar 1) (mCons (mVar 4) (mNil)))))) (gSet 5))
    (sRet (mFrzA (mDc (iSeqK (mVar 2)) (gSet 6) (tTrue) (mVar 6) (mBin ixY (mVar 5) (mVar 6)) [6])))))
def f_steps_home : FS := runF 7 b_steps_home
def b_l_place : MS := sSeq (sAsg (mBin addA (mC (.int 2)) (mCall (callF f_l_take) (mCons (mVar 0) (mCons (mBin subD (mVar 1) (mC (.int 1))) (mNil))))) (gSet 2))
    (sSeq (sAsg (mCall (callF f_l_some) (mCons (mVar 0) (mCons (mCall lstF (mCons (mC (.int 0)) (mCons (mC (.int 0)) (mCons (mC (.int 0)) (mCons (mC (.int 2)) (mCons (mC (.int 2)) (mCons (mC (.int 4)) (mCons (mC (.int 4)) (mCons (mC (.int 2)) (mCons (mC (.int 5)) (mCons (mC (.int 6)) (mCons (mC (.int 7)) (mNil))))))))))))) (mNil)))) (gSet 3))
    (sSeq (sAsg (mCall (callF f_l_flat) (mCons (mLc (iRng1D (mCons (mVar 2) (mNil))) (gSet 5) (tTrue) (mLc (iRng1D (mCons (mVar 2) (mNil))) (gSet 6) (tOf (mBin (eqA true) (mVar 6) (mVar 5))) (mCall tupF (mCons (mVar 5) (mCons (mVar 6) (mNil)))) [6] kFrz) [5] kFrz) (mNil))) (gSet 4))
    (sSeq (sIf (tOf (mBin ltD (mVar 3) (mC (.int 2)))) (sRet (mCall tupF (mCons (mVar 2) (mCons (mCall tupleD (mCons (mVar 4) (mNil))) (mNil))))) (sNil))
    (sSeq (sIf (tOrD (tOf (mBin ltD (mVar 3) (mC (.int 4)))) (tAndD (tOf (mBin (eqA false) (mVar 3) (mC (.int 4)))) (tOf (mBin ltD (mVar 2) (mC (.int 3)))))) (sRet (mCall tupF (mCons (mVar 2) (mCons (mCall tupleD (mCons (mLc (iSeq (mVar 4)) (gTupD 2 (gsCons (gSet 5) (gsCons (gSet 6) (gsNil)))) (tOf (mBin (inA false) (mBin subD (mVar 5) (mVar 6)) (mCall tupF (mCons (mC (.int 1)) (mCons (mNeg (mC (.int 1))) (mNil)))))) (mCall tupF (mCons (mVar 5) (mCons (mVar 6) (mNil)))) [5, 6] kFrz) (mNil))) (mNil))))) (sNil))
    (sSeq (sIf (tOf (mBin (eqA false) (mVar 3) (mC (.int 4)))) (sRet (mCall tupF (mCons (mVar 2) (mCons (mCall tupleD (mCons (mLc (iSeq (mVar 4)) (gTupD 2 (gsCons (gSet 5) (gsCons (gSet 6) (gsNil)))) (tOf (mBin (inA false) (mBin modD (mCall intD (mCons (mBin subD (mVar 5) (mVar 6)) (mNil))) (mVar 2)) (mCall tupF (mCons (mC (.int 1)) (mCons (mBin subD (mVar 2) (mC (.int 1))) (mNil)))))) (mCall tupF (mCons (mVar 5) (mCons (mVar 6) (mNil)))) [5, 6] kFrz) (mNil))) (mNil))))) (sNil))
    (sSeq (sIf (tOf (mBin (inA false) (mVar 3) (mCall tupF (mCons (mC (.int 5)) (mCons (mC (.int 7)) (mNil)))))) (sRet (mCall tupF (mCons (mVar 2) (mCons (mCall tupleD (mCons (mLc (iSeq (mVar 4)) (gTupD 2 (gsCons (gSet 5) (gsCons (gSet 6) (gsNil)))) (tAndD (tOf (mBin ltD (mVar 5) (mVar 6))) (tOrD (tOf (mBin (eqA false) (mVar 3) (mC (.int 5)))) (tOf (mBin (eqA false) (mVar 6) (mBin addA (mVar 5) (mC (.int 1))))))) (mCall tupF (mCons (mVar 5) (mCons (mVar 6) (mNil)))) [5, 6] kFrz) (mNil))) (mNil))))) (sNil))
    (sRet (mCall tupF (mCons (mVar 2) (mCons (mCall tupleD (mCons (mCall sortedD (mCons (mSl (mCall (callF f_l_mixed) (mCons (mVar 0) (mCons (mVar 4) (mNil)))) (oNo) (oYes (mCall (callF f_l_take) (mCons (mVar 0) (mCons (mBin addA (mCall lenD (mCons (mVar 4) (mNil))) (mC (.int 1))) (mNil)))))) (mNil))) (mNil))) (mNil)))))))))))
def f_l_place : FS := runF 7 b_l_place
def b_l_graph : MS := sRet (mFrzA (mCall dictP (mCons (mLc (iSeq (mCall (callF f_l_contents) (mCons (mVar 0) (mNil)))) (gSet 1) (tTrue) (mCall tupF (mCons (mVar 1) (mCons (mCall (callF f_l_steps) (mCons (mVar 0) (mCons (mVar 1) (mNil)))) (mNil)))) [1] kFrz) (mNil))))
def f_l_graph : FS := runF 2 b_l_graph
def L_l_way_by_1 : MS := sIf (tAndD (tOf (mBin (inX true) (mVar 10) (mVar 7))) (tOrD (tOf (mBin (eqA false) (mVar 10) (mVar 3))) (tOf (mBin (inX true) (mVar 10) (mVar 4))))) (sSeq (sAsg (mVar 9) (gSubD (mVar 7) (mVar 10) setX))
    (sExpr (mMt appendF (mVar 8) (mCons (mVar 10) (mNil))))) (sNil)
def L_l_way_by_2 : MS := sFor (iSeq (mCall (callF f_l_mixed) (mCons (mVar 0) (mCons (mBin ixY (mVar 1) (mVar 9)) (mNil))))) (gSet 10) (L_l_way_by_1)
def b_l_way_by : MS := sSeq (sPar 6 7 (mCons (mCall lstF (mCons (mVar 2) (mNil))) (mCons (mDisp1 (mVar 2) (mC .none)) mNil)))
    (sSeq (whileL (tAndD (tOf (mBin (eqA true) (mVar 6) (mCall lstF (mNil)))) (tOf (mBin (inX true) (mVar 3) (mVar 7)))) (sSeq (sAsg (mCall lstB (mNil)) (gSet 8))
    (sSeq (sFor (iSeq (mVar 6)) (gSet 9) (L_l_way_by_2))
    (sAsg (mFrzA (mVar 8)) (gSet 6)))) FUEL)
    (sSeq (sIf (tOrD (tOf (mBin (inX true) (mVar 3) (mVar 7))) (tOf (mBin (eqA false) (mVar 2) (mVar 3)))) (sRet (mC .none)) (sNil))
    (sSeq (sAsg (mCall lstB (mCons (mVar 3) (mNil))) (gSet 5))
    (sSeq (whileL (tOf (mBin (eqA true) (mBin ixY (mVar 5) (mC (.int 0))) (mVar 2))) (sExpr (mMt insertF (mVar 5) (mCons (mC (.int 0)) (mCons (mBin ixY (mVar 7) (mBin ixY (mVar 5) (mC (.int 0)))) (mNil))))) FUEL)
    (sRet (mCall tupleD (mCons (mVar 5) (mNil))))))))
def f_l_way_by : FS := runF 11 b_l_way_by
def b_l_rests : MS := sSeq (sAsg (mCall (callF f_l_some) (mCons (mVar 0) (mCons (mCall lstF (mCons (mC (.int 2)) (mCons (mC (.int 3)) (mCons (mC (.int 2)) (mCons (mC (.int 3)) (mCons (mVar 2) (mCons (mBin addA (mC (.int 1)) (mCall (callF f_l_take) (mCons (mVar 0) (mCons (mVar 2) (mNil))))) (mCons (mC (.int 2)) (mCons (mC (.int 4)) (mNil)))))))))) (mNil)))) (gSet 3))
    (sRet (mCall tupleD (mCons (mCall sortedA (mCons (mSl (mCall (callF f_l_mixed) (mCons (mVar 0) (mCons (mVar 1) (mNil)))) (oNo) (oYes (mCall min2D (mCons (mVar 3) (mCons (mVar 2) (mNil)))))) (mNil))) (mNil))))
def f_l_rests : FS := runF 4 b_l_rests
def L_l_grown_1 : MS := sSeq (sAsg (mLc (iSeqK (mVar 1)) (gSet 9) (tOf (mBin (inZ true) (mVar 9) (mVar 5))) (mVar 9) [9] kFrz) (gSet 7))
    (sSeq (sAsg (mCall (callF f_l_flat) (mCons (mLc (iSeqK (mVar 7)) (gSet 9) (tTrue) (mLc (iSeqK (mBin ixY (mVar 1) (mVar 9))) (gSet 10) (tOf (mBin (inZ false) (mVar 10) (mVar 5))) (mCall tupF (mCons (mVar 9) (mCons (mVar 10) (mNil)))) [10] kFrz) [9] kFrz) (mNil))) (gSet 8))
    (sSeq (sIf (tOf (mBin (eqA false) (mVar 8) (mCall lstF (mNil)))) (sBreak) (sNil))
    (sSeq (sAsg (mCall (callF f_l_some) (mCons (mVar 0) (mCons (mVar 8) (mNil)))) (gTupD 2 (gsCons (gSet 9) (gsCons (gSet 10) (gsNil)))))
    (sAsg (mCall tupF (mCons (mBin ixY (mVar 5) (mVar 10)) (mCons (mVar 10) (mNil)))) (gTupD 2 (gsCons (gSubD (mVar 5) (mVar 9) setX) (gsCons (gSubD (mVar 6) (mVar 9) setX) (gsNil))))))))
def b_l_grown : MS := sSeq (sTupA 2 (gsCons (gSet 5) (gsCons (gSet 6) (gsNil))) (mCons (mCall dictP (mCons (mLc (iSeqK (mVar 2)) (gSet 11) (tTrue) (mCall tupF (mCons (mVar 11) (mCons (mVar 11) (mNil)))) [11] kFrz) (mNil))) (mCons (mNewT) (mNil))))
    (sSeq (sAsg (mCall (callF f_l_some) (mCons (mVar 0) (mCons (mCall lstF (mCons (mCall lenX (mCons (mVar 1) (mNil))) (mCons (mCall lenX (mCons (mVar 1) (mNil))) (mCons (mBin fdivD (mCall lenX (mCons (mVar 1) (mNil))) (mC (.int 2))) (mCons (mC (.int 2)) (mCons (mC (.int 0)) (mNil))))))) (mNil)))) (gSet 3))
    (sSeq (sFor (iRng1D (mCons (mVar 3) (mNil))) (gSet 4) (L_l_grown_1))
    (sFz 5 (sFz 6 (sRet (mCall tupF (mCons (mVar 5) (mCons (mVar 6) (mNil)))))))))
def f_l_grown : FS := runF 12 b_l_grown
def L_l_couple_1 : MS := sAsg (vIf (tOf (mBin (inX false) (mBin ixY (mVar 3) (mC (.int 1))) (mBin ixY (mVar 1) (mBin ixY (mVar 3) (mC (.int 0)))))) (mSl (mCall (callF f_l_mixed) (mCons (mVar 0) (mCons (mVar 2) (mNil)))) (oNo) (oYes (mC (.int 2)))) (mVar 3)) (gSet 3)
def b_l_couple : MS := sSeq (sAsg (mSl (mCall (callF f_l_mixed) (mCons (mVar 0) (mCons (mVar 2) (mNil)))) (oNo) (oYes (mC (.int 2)))) (gSet 3))
    (sSeq (sFor (iRng1D (mCons (mC (.int 3)) (mNil))) (gSet 4) (L_l_couple_1))
    (sRet (mCall tupF (mCons (mBin ixY (mVar 3) (mC (.int 0))) (mCons (mBin ixY (mVar 3) (mC (.int 1))) (mNil))))))
def f_l_couple : FS := runF 5 b_l_couple
def L_l_other_lots_1 : MS := sSeq (sPar 8 9 (mCons (mLc (iSeqK (mCall sortedA (mCons (mVar 2) (mNil)))) (gSet 6) (tOf (mBin (inZ true) (mVar 6) (mBin ixY (mVar 1) (mC (.int 1))))) (mVar 6) [6] kFrz) (mCons (mCall dictC (mCons (mVar 4) (mNil))) mNil)))
    (sSeq (sIf (tOf (mBin (eqA false) (mVar 8) (mCall lstF (mNil)))) (sBreak) (sNil))
    (sSeq (sAsg (mCall (callF f_l_some) (mCons (mVar 0) (mCons (mVar 8) (mNil)))) (gSet 6))
    (sSeq (sAsg (mLc (iSeqK (mBin ixY (mVar 2) (mVar 6))) (gSet 10) (tOf (mBin (inZ false) (mVar 10) (mVar 4))) (mBin ixY (mVar 4) (mVar 10)) [10] kFrz) (gSet 7))
    (sSeq (sExpr (mPopD2 (mVar 9) (mVar 6) (mC .none)))
    (sSeq (sIf (tAndD (tOf (mBin (eqA true) (mVar 7) (mCall lstF (mNil)))) (tOf (mBin gtX (mCall (callF f_l_take) (mCons (mVar 0) (mCons (mC (.int 3)) (mNil)))) (mC (.int 0))))) (sAsg (mCall (callF f_l_some) (mCons (mVar 0) (mCons (mVar 7) (mNil)))) (gSubD (mVar 9) (mVar 6) setX)) (sNil))
    (sFz 9 (sAsg (vIf (tTru (mCall (callF f_l_are_lots) (mCons (mVar 1) (mCons (mVar 2) (mCons (mVar 9) (mNil)))))) (mVar 9) (mVar 4)) (gSet 4))))))))
def b_l_other_lots : MS := sSeq (sAsg (mCall (callF f_l_lots) (mCons (mVar 1) (mCons (mVar 3) (mNil)))) (gSet 4))
    (sSeq (sFor (iRng1D (mCons (mCall (callF f_l_some) (mCons (mVar 0) (mCons (mCall lstF (mCons (mC (.int 1)) (mCons (mC (.int 2)) (mCons (mC (.int 4)) (mNil))))) (mNil)))) (mNil))) (gSet 5) (L_l_other_lots_1))
    (sRet (mCall (callF f_l_model_by) (mCons (mVar 1) (mCons (mVar 4) (mNil))))))
def f_l_other_lots : FS := runF 11 b_l_other_lots
def L_rule_of_1 : MS := sSeq (sAsg (mLc (iSeqK (mCall (callF f_steps_from) (mCons (mBin ixY (mVar 0) (mC (.int 0))) (mCons (mVar 6) (mNil))))) (gSet 8) (tOf (mBin (inZ false) (mVar 8) (mVar 5))) (mCall tupF (mCons (mBin ixY (mVar 5) (mVar 8)) (mCons (mVar 8) (mNil)))) [8] kFrz) (gSet 7))
    (sExpr (mMt appendF (mVar 2) (mCons (mCall tupF (mCons (mVar 6) (mCons (mBin ixY (mCall minLD (mCons (mVar 7) (mNil))) (mC (.int 1))) (mNil)))) (mNil))))
def L_rule_of_2 : MS := sSeq (sAsg (mCall (callF f_steps_home) (mCons (mVar 0) (mCons (mVar 3) (mCons (mVar 4) (mNil))))) (gSet 5))
    (sFor (iSeqK (mLc (iSeqK (mVar 4)) (gSet 8) (tOf (mBin (eqA true) (mVar 8) (mVar 3))) (mVar 8) [8] kFrz)) (gSet 6) (L_rule_of_1))
def b_rule_of : MS := sSeq (sAsg (mCall lstB (mNil)) (gSet 2))
    (sSeq (sFor (iZipD (mCons (mBin ixY (mVar 0) (mC (.int 1))) (mCons (mVar 1) (mNil)))) (gTupD 2 (gsCons (gSet 3) (gsCons (gSet 4) (gsNil)))) (L_rule_of_2))
    (sFz 2 (sRet (mCall tupleD (mCons (mCall sortedA (mCons (mVar 2) (mNil))) (mNil))))))
def f_rule_of : FS := runF 9 b_rule_of
def L_home_steps_1 : MS := sExpr (mUpdD (mVar 2) (mCall (callF f_steps_home) (mCons (mVar 0) (mCons (mVar 3) (mCons (mVar 4) (mNil))))))
def b_home_steps : MS := sSeq (sAsg (mNewT) (gSet 2))
    (sSeq (sFor (iZipD (mCons (mBin ixY (mVar 0) (mC (.int 1))) (mCons (mVar 1) (mNil)))) (gTupD 2 (gsCons (gSet 3) (gsCons (gSet 4) (gsNil)))) (L_home_steps_1))
    (sFz 2 (sRet (mDc (iSeqK (mCall sortedA (mCons (mVar 2) (mNil)))) (gSet 5) (tTrue) (mVar 5) (mBin ixY (mVar 2) (mVar 5)) [5]))))
def f_home_steps : FS := runF 6 b_home_steps
def L_l_bench_1 : MS := sIf (tOf (mBin leD (mBin mulD (mVar 4) (mC (.int 2))) (mVar 1))) (sSeq (sExpr (mMt appendF (mVar 3) (mCons (mCall (callF f_l_place) (mCons (mVar 0) (mCons (mCall min2D (mCons (mCall (callF f_l_some) (mCons (mVar 0) (mCons (mCall lstF (mCons (mC (.int 6)) (mCons (mC (.int 4)) (mCons (mC (.int 3)) (mCons (mC (.int 3)) (mCons (mC (.int 2)) (mNil))))))) (mNil)))) (mCons (mBin fdivD (mVar 1) (mVar 4)) (mNil)))) (mNil)))) (mNil))))
    (sAsg (mBin mulD (mVar 4) (mBin idxD (mBin idxD (mVar 3) (mNeg (mC (.int 1)))) (mC (.int 0)))) (gSet 4))) (sNil)
def b_l_bench : MS := sSeq (sPar 3 4 (mCons (mCall lstB (mNil)) (mCons (mC (.int 1)) mNil)))
    (sSeq (sFor (iRng1D (mCons (mCall (callF f_l_some) (mCons (mVar 0) (mCons (mCall lstF (mCons (mC (.int 1)) (mCons (mC (.int 2)) (mCons (mC (.int 2)) (mCons (mC (.int 3)) (mCons (mC (.int 3)) (mCons (mC (.int 4)) (mCons (mC (.int 5)) (mNil))))))))) (mNil)))) (mNil))) (gSet 2) (L_l_bench_1))
    (sRet (mCall tupleD (mCons (mVar 3) (mNil)))))
def f_l_bench : FS := runF 5 b_l_bench
def L_l_wandering_1 : MS := sSeq (sAsg (mLc (iSeqK (mBin ixY (mVar 1) (mBin ixY (mVar 7) (mNeg (mC (.int 1)))))) (gSet 11) (tAndD (tOf (mBin (inZ true) (mVar 11) (mVar 4))) (tOrD (tTru (mVar 8)) (tOf (mBin (eqA true) (mVar 11) (mVar 3))))) (mVar 11) [11] kFrz) (gSet 9))
    (sIf (tOf (mBin (eqA true) (mVar 9) (mCall lstF (mNil)))) (sExpr (mMt appendF (mVar 7) (mCons (mCall (callF f_l_some) (mCons (mVar 0) (mCons (mVar 9) (mNil)))) (mNil)))) (sNil))
def L_l_wandering_2 : MS := sSeq (sAsg (vIf (tOf (mBin (eqA true) (mBin ixY (mVar 7) (mBin subD (mVar 6) (mC (.int 1)))) (mVar 3))) (mCall (callF f_l_way_by) (mCons (mVar 0) (mCons (mVar 1) (mCons (mBin ixY (mVar 7) (mBin subD (mVar 6) (mC (.int 1)))) (mCons (mVar 3) (mCons (mVar 4) (mNil))))))) (mCall tupF (mCons (mVar 3) (mNil)))) (gSet 10))
    (sIf (tOf (mBin (isND true) (mVar 10) (mC .none))) (sRet (mBin addA (mCall tupleD (mCons (mSl (mVar 7) (oNo) (oYes (mBin subD (mVar 6) (mC (.int 1))))) (mNil))) (mVar 10))) (sNil))
def b_l_wandering : MS := sSeq (sTupA 2 (gsCons (gSet 7) (gsCons (gSet 8) (gsNil))) (mCons (mCall lstB (mCons (mVar 2) (mNil))) (mCons (mBin (eqA false) (mCall (callF f_l_take) (mCons (mVar 0) (mCons (mC (.int 3)) (mNil)))) (mC (.int 0))) (mNil))))
    (sSeq (sFor (iRng1D (mCons (mCall (callF f_l_some) (mCons (mVar 0) (mCons (mCall lstF (mCons (mC (.int 0)) (mCons (mC (.int 0)) (mCons (mC (.int 1)) (mCons (mC (.int 3)) (mCons (mC (.int 6)) (mNil))))))) (mNil)))) (mNil))) (gSet 5) (L_l_wandering_1))
    (sSeq (sFz 7 (sFor (iRng3D (mCons (mCall lenX (mCons (mVar 7) (mNil))) (mCons (mC (.int 0)) (mCons (mNeg (mC (.int 1))) (mNil))))) (gSet 6) (L_l_wandering_2)))
    (sRet (mC .none))))
def f_l_wandering : FS := runF 12 b_l_wandering
def b_longest_home : MS := sRet (mMaxV (mFrzA (mCall (callF f_home_steps) (mCons (mVar 0) (mCons (mVar 1) (mNil))))))
def f_longest_home : FS := runF 2 b_longest_home
def L_l_planted_1 : MS := sSeq (sAsg (mCall (callF f_l_couple) (mCons (mVar 0) (mCons (mVar 4) (mCons (mVar 5) (mNil))))) (gTupD 2 (gsCons (gSet 16) (gsCons (gSet 17) (gsNil)))))
    (sSeq (sAsg (mCall (callF f_l_ends) (mCons (mVar 0) (mCons (mVar 5) (mCons (mVar 16) (mCons (mVar 17) (mNil)))))) (gSet 13))
    (sSeq (sAsg (mLc (iSeqK (mVar 4)) (gSet 18) (tOf (mBin (inZ true) (mGetX2 (mVar 11) (mVar 18) (mC .none)) (mVar 13))) (mVar 18) [18] kFrz) (gSet 14))
    (sSeq (sAsg (vIf (tOf (mBin (inZ true) (mCall tupF (mCons (mVar 16) (mCons (mVar 17) (mNil)))) (mVar 6))) (mCall (callF f_l_wandering) (mCons (mVar 0) (mCons (mVar 4) (mCons (mVar 16) (mCons (mVar 17) (mCons (mVar 14) (mNil))))))) (mC .none)) (gSet 15))
    (sIf (tOf (mBin (isND true) (mVar 15) (mC .none))) (sAsg (mCall tupF (mCons (mVar 13) (mCons (mVar 15) (mNil)))) (gSubD (mVar 6) (mCall tupF (mCons (mVar 16) (mCons (mVar 17) (mNil)))) setX)) (sNil)))))
def b_l_planted : MS := sSeq (sAsg (mCall (callF f_l_graph) (mCons (mVar 1) (mNil))) (gSet 4))
    (sSeq (sAsg (mCall (callF f_l_rests) (mCons (mVar 0) (mCons (mCall sortedA (mCons (mVar 4) (mNil))) (mCons (mVar 2) (mNil))))) (gSet 5))
    (sSeq (sAsg (mCall (callF f_l_grown) (mCons (mVar 0) (mCons (mVar 4) (mCons (mVar 5) (mNil))))) (gTupD 2 (gsCons (gSet 11) (gsCons (gSet 12) (gsNil)))))
    (sSeq (sAsg (mNewN) (gSet 6))
    (sSeq (sFor (iRng1D (mCons (mBin mulD (mVar 3) (mCall intD (mCons (mBin gtX (mCall lenX (mCons (mVar 5) (mNil))) (mC (.int 1))) (mNil)))) (mNil))) (gSet 7) (L_l_planted_1))
    (sSeq (sAsg (mCall tupF (mCons (mVar 1) (mCons (mVar 5) (mCons (mCall tupleD (mCons (mLc (iSeqK (mCall sortedA (mCons (mVar 6) (mNil)))) (gSet 19) (tTrue) (mBin addA (mVar 19) (mCall tupF (mCons (mBin ixY (mBin ixY (mVar 6) (mVar 19)) (mC (.int 0))) (mNil)))) [19] kFrz) (mNil))) (mNil))))) (gSet 8))
    (sSeq (sAsg (mCall tupF (mCons (mCall tupleD (mCons (mLc (iSeqK (mCall sortedA (mCons (mVar 12) (mNil)))) (gSet 20) (tTrue) (mCall tupF (mCons (mVar 20) (mCons (mBin ixY (mVar 12) (mVar 20)) (mNil)))) [20] kFrz) (mNil))) (mCons (mCall tupleD (mCons (mLc (iSeqK (mCall sortedA (mCons (mVar 6) (mNil)))) (gSet 19) (tTrue) (mBin ixY (mBin ixY (mVar 6) (mVar 19)) (mC (.int 1))) [19] kFrz) (mNil))) (mNil)))) (gSet 9))
    (sSeq (sAsg (mLc (iSeqK (mVar 5)) (gSet 21) (tTrue) (mCall tupleD (mCons (mLc (iSeqK (mCall sortedA (mCons (mVar 11) (mNil)))) (gSet 18) (tOf (mBin (eqA false) (mBin ixY (mVar 11) (mVar 18)) (mVar 21))) (mVar 18) [18] kFrz) (mNil))) [21] kFrz) (gSet 10))
    (sRet (mCall tupF (mCons (mVar 8) (mCons (mVar 9) (mCons (mCall tupleD (mCons (mVar 10) (mNil))) (mNil)))))))))))))
def f_l_planted : FS := runF 22 b_l_planted
def b_l_world : MS := sSeq (sAsg (mCall (callF f_l_bench) (mCons (mVar 0) (mCons (mVar 1) (mNil)))) (gSet 4))
    (sSeq (sAsg (mCall (callF f_l_planted) (mCons (mVar 0) (mCons (mVar 4) (mCons (mVar 2) (mCons (mVar 3) (mNil)))))) (gTupD 3 (gsCons (gSet 6) (gsCons (gSet 7) (gsCons (gSet 8) (gsNil))))))
    (sSeq (sAsg (mCall (callF f_l_graph) (mCons (mVar 4) (mNil))) (gSet 5))
    (sRet (mCall tupF (mCons (mVar 6) (mCons (mVar 7) (mCons (mVar 8) (mCons (mVar 5) (mNil)))))))))
def f_l_world : FS := runF 9 b_l_world
def L_law_1 : MS := sSeq (sAsg (mCall (callF f_home_steps) (mCons (mVar 7) (mCons (mVar 3) (mNil)))) (gSet 13))
    (sSeq (sIf (tOrD (tNotD (tTru (mBor 13 (mCall (callF f_l_alike) (mCons (mCall lstF (mCons (mVar 13) (mCons (mCall (callF f_longest_home) (mCons (mVar 7) (mCons (mVar 3) (mNil)))) (mNil)))) (mCons (mCall lstF (mCons (mVar 10) (mCons (mMaxV (mVar 10)) (mNil)))) (mNil))))))) (tOf (mBin (eqA true) (mCall reprD (mCons (mCall tupF (mCons (mVar 7) (mCons (mVar 3) (mNil)))) (mNil))) (mVar 12)))) (sRet (mC (.bool false))) (sNil))
    (sExpr (mClearD (mVar 13))))
def L_law_2 : MS := sSeq (sAsg (mCall (callF f_l_world) (mCons (mVar 1) (mCons (mCall (callF f_l_some) (mCons (mVar 1) (mCons (mCall lstF (mCons (mC (.int 36)) (mCons (mC (.int 9)) (mCons (mC (.int 24)) (mCons (mC (.int 8)) (mNil)))))) (mNil)))) (mCons (mC (.int 6)) (mCons (mC (.int 3)) (mNil)))))) (gTupD 4 (gsCons (gSet 7) (gsCons (gSet 8) (gsCons (gSet 3) (gsCons (gSet 9) (gsNil)))))))
    (sSeq (sAsg (vIf (tOf (mBin (eqA false) (mCall (callF f_l_take) (mCons (mVar 1) (mCons (mC (.int 2)) (mNil)))) (mC (.int 0)))) (mVar 3) (mCall (callF f_l_other_lots) (mCons (mVar 1) (mCons (mVar 7) (mCons (mVar 9) (mCons (mVar 3) (mNil))))))) (gSet 3))
    (sSeq (sAsg (mCall tupF (mCons (mCall (callF f_l_home_steps) (mCons (mVar 7) (mCons (mVar 9) (mCons (mVar 3) (mNil))))) (mCons (mCall (callF f_l_lots) (mCons (mVar 7) (mCons (mVar 3) (mNil)))) (mCons (mCall reprD (mCons (mCall tupF (mCons (mVar 7) (mCons (mVar 3) (mNil)))) (mNil))) (mNil))))) (gTupD 3 (gsCons (gSet 10) (gsCons (gSet 11) (gsCons (gSet 12) (gsNil))))))
    (sSeq (sFor (iRng1D (mCons (mC (.int 2)) (mNil))) (gSet 4) (L_law_1))
    (sSeq (sIf (tNotD (tTru (mCall (callF f_l_alike) (mCons (mCall (callF f_l_farthest) (mCons (mVar 7) (mCons (mCall (callF f_rule_of) (mCons (mVar 7) (mCons (mVar 3) (mNil)))) (mCons (mVar 11) (mNil))))) (mCons (mMaxV (mVar 10)) (mNil)))))) (sRet (mC (.bool false))) (sNil))
    (sSeq (sAsg (mCall (callF f_l_choices) (mCons (mVar 7) (mCons (mVar 9) (mCons (mVar 3) (mCons (mC (.int 200)) (mNil)))))) (gSet 5))
    (sSeq (sAsg (vIf (tOf (mBin (isND true) (mVar 5) (mC .none))) (mLc (iSeqK (mVar 5)) (gSet 14) (tTrue) (mCall (callF f_l_farthest) (mCons (mVar 7) (mCons (mVar 14) (mCons (mVar 11) (mNil))))) [14] kFrz) (mCall lstF (mCons (mMaxV (mVar 10)) (mNil)))) (gSet 6))
    (sIf (tOf (mBin (eqA true) (mCall minLD (mCons (mLc (iSeqK (mVar 6)) (gSet 15) (tOf (mBin (isND true) (mVar 15) (mC .none))) (mVar 15) [15] kFrz) (mNil))) (mMaxV (mVar 10)))) (sRet (mC (.bool false))) (sNil))))))))
def b_law : MS := sSeq (sAsg (mCall (callF f_l_bag) (mCons (mVar 0) (mNil))) (gSet 1))
    (sSeq (sFor (iRng1D (mCons (mC (.int 4)) (mNil))) (gSet 2) (L_law_2))
    (sRet (mC (.bool true))))
def f_law : FS := runF 16 b_law
end KX
end
noncomputable section
namespace KX
open PySem PySem.Spec PyProof.Rows L2 DL K17 K62 KH KV
open K39 (ID Alw ok_iff)
section
end
end KX
end
noncomputable section
namespace KX
open PySem PySem.Spec PyProof.Rows L2 DL K17 K62 KH KV
open K39 (ID Alw ok_iff)
section
end
def hmN (b : List Pl) (r : List Int) (l : List (List Int)) (x : List Int) : Nat := by
  classical
  exact if h : ∃ n, ID b r (outL b l) n x then h.choose else 0
section
end
end KX
end
noncomputable section
namespace KX
open PySem PySem.Spec PyProof.Rows L2 DL K17 K62 KH KV
open K39 (ID Alw ok_iff)
abbrev Zp := List Int × List (List Int)
/-- steps home told for the lots of Z -/
structure HAcc (b : List Pl) (Z : List Zp) (acc : List (List Int × Nat)) : Prop where
  nd : (acc.map (·.1)).Nodup
  iff : ∀ x d, (x, d) ∈ acc ↔ ∃ p ∈ Z, x ∈ p.2 ∧ d = hmN b p.1 p.2 x
section
variable {b : List Pl} {R : List (List Int)} {os : List Od} {L : List (List (List Int))} {S : Sto} {acc l2 : List (List Int × Nat)} {Z : List Zp} {p : Zp}
theorem HAcc.nil : HAcc b [] [] := ⟨by simp, fun x d => by simp⟩
theorem HAcc.step (h : HAcc b Z acc) (dj : ∀ p' ∈ Z, ∀ x ∈ p'.2, x ∉ p.2) (hn : (l2.map (·.1)).Nodup) (h2 : ∀ x d, (x, d) ∈ l2 ↔ x ∈ p.2 ∧ d = hmN b p.1 p.2 x) : HAcc b (Z ++ [p]) (acc ++ l2) := by
  refine ⟨?_, fun x d => ?_⟩
  · rw [List.map_append, List.nodup_append]
    refine ⟨h.nd, hn, fun x hx y hy e => ?_⟩
    subst e
    obtain ⟨⟨x1, d1⟩, hq, rfl⟩ := List.mem_map.mp hx
    obtain ⟨⟨x2, d2⟩, hq2, e2⟩ := List.mem_map.mp hy
    simp only at e2
    subst e2
    obtain ⟨p', hp', hx', _⟩ := (h.iff _ _).mp hq
    exact dj p' hp' _ hx' ((h2 _ _).mp hq2).1
  · rw [List.mem_append, h.iff, h2]
    constructor
    · rintro (⟨p', hp', k⟩ | k)
      · exact ⟨p', List.mem_append_left _ hp', k⟩
      · exact ⟨p, by simp, k⟩
    · rintro ⟨p', hp', k⟩
      rcases List.mem_append.mp hp' with z | z
      · exact .inl ⟨p', z, k⟩
      · rw [List.mem_singleton.mp z] at k; exact .inr k
theorem zip_snd (h : LotsOk b R L) : (R.zip L).map (·.2) = L := List.map_snd_zip (by rw [h.len]; exact Nat.le_refl _)
theorem zip_pw (h : LotsOk b R L) : (R.zip L).Pairwise fun p q => ∀ x ∈ p.2, x ∉ q.2 := by
  have := h.nd
  unfold List.Nodup at this
  rw [List.pairwise_flatten] at this
  have h2 := this.2
  rw [← zip_snd h, List.pairwise_map] at h2
  exact h2.imp fun k x hx hy => k x hx x hy rfl
theorem zip_dj {i : Nat} (h : LotsOk b R L) (hp : (R.zip L)[i]? = some p) : ∀ p' ∈ (R.zip L).take i, ∀ x ∈ p'.2, x ∉ p.2 := by
  have h1 := (zip_pw h).sublist (List.take_sublist (i + 1) (R.zip L))
  rw [take_snoc hp, List.pairwise_append] at h1
  exact fun p' hp' => h1.2.2 p' hp' p (by simp)
theorem zip_un (h : LotsOk b R L) {p q : Zp} (hp : p ∈ R.zip L) (hq : q ∈ R.zip L) {x : List Int} (h1 : x ∈ p.2) (h2 : x ∈ q.2) : p = q := by
  obtain ⟨i, hi⟩ := List.mem_iff_getElem?.mp hp
  obtain ⟨j, hj⟩ := List.mem_iff_getElem?.mp hq
  rcases Nat.lt_trichotomy i j with hl | hl | hl
  · exact absurd h2 (zip_dj h hj p (List.mem_iff_getElem?.mpr ⟨i, by rw [List.getElem?_take_of_lt hl]; exact hi⟩) x h1)
  · subst hl; exact Option.some.inj (hi.symm.trans hj)
  · exact absurd h1 (zip_dj h hi q (List.mem_iff_getElem?.mpr ⟨j, by rw [List.getElem?_take_of_lt hl]; exact hj⟩) x h2)
theorem mem_flat (h : LotsOk b R L) {x : List Int} : x ∈ L.flatten ↔ ∃ p ∈ R.zip L, x ∈ p.2 := by
  rw [List.mem_flatten]
  constructor
  · rintro ⟨l, hl, hx⟩
    rw [← zip_snd h] at hl
    obtain ⟨p, hp, rfl⟩ := List.mem_map.mp hl
    exact ⟨p, hp, hx⟩
  · rintro ⟨p, hp, hx⟩
    refine ⟨p.2, ?_, hx⟩
    rw [← zip_snd h]; exact List.mem_map_of_mem hp
theorem HAcc.len (g : Good b) (h : HAcc b Z acc) (hf : ∀ p ∈ Z, ∀ x ∈ p.2, Fits x b) : acc.length ≤ (conts b).length := by
  have := nodup_len (m := conts b) h.nd fun x hx => by
    obtain ⟨⟨x1, d⟩, hq, rfl⟩ := List.mem_map.mp hx
    obtain ⟨p, hp, hx, _⟩ := (h.iff _ _).mp hq
    exact inV.mpr (hf p hp _ hx)
  rwa [List.length_map] at this
/-- how far x is from its rest -/
def HH (b : List Pl) (R : List (List Int)) (L : List (List (List Int))) (x : List Int) : Nat := match (R.zip L).find? fun p => decide (x ∈ p.2) with
  | some p => hmN b p.1 p.2 x
  | none => 0
theorem HH_eq (h : LotsOk b R L) (hp : p ∈ R.zip L) {x : List Int} (hx : x ∈ p.2) : HH b R L x = hmN b p.1 p.2 x := by
  unfold HH
  cases e : (R.zip L).find? fun p => decide (x ∈ p.2) with
  | none => exact absurd (decide_eq_true hx) (List.find?_eq_none.mp e p hp)
  | some q =>
    have h1 := of_decide_eq_true (List.find?_some (p := fun p : Zp => decide (x ∈ p.2)) e)
    rw [zip_un h hp (List.mem_of_find?_eq_some e) hx h1]
theorem HAcc.keys (h : LotsOk b R L) (k : HAcc b (R.zip L) acc) : sortL (acc.map (·.1)) = sortL L.flatten := by
  refine asc_uniq (sortL_asc k.nd) (sortL_asc h.nd) fun x => ?_
  rw [(sortL_perm _).mem_iff, (sortL_perm _).mem_iff, mem_flat h]
  constructor
  · intro hx
    obtain ⟨⟨x1, d⟩, hq, rfl⟩ := List.mem_map.mp hx
    obtain ⟨p, hp, hx, _⟩ := (k.iff _ _).mp hq
    exact ⟨p, hp, hx⟩
  · rintro ⟨p, hp, hx⟩
    exact List.mem_map.mpr ⟨(x, _), (k.iff x _).mpr ⟨p, hp, hx, rfl⟩, rfl⟩
theorem HAcc.get (h : LotsOk b R L) (k : HAcc b (R.zip L) acc) {x : List Int} (hx : x ∈ L.flatten) : (x, HH b R L x) ∈ acc := by
  obtain ⟨p, hp, hx⟩ := (mem_flat h).mp hx
  exact (k.iff _ _).mpr ⟨p, hp, hx, HH_eq h hp hx⟩
end
end KX
end
noncomputable section
namespace KX
open PySem PySem.Spec PyProof.Rows L2 DL K17 K62 KH KV
open K39 (ID Alw ok_iff)
section
end
end KX
end
noncomputable section
namespace KX
open PySem PySem.Spec PyProof.Rows L2 DL K17 K62 KH KV
open K39 (ID Alw ok_iff)
abbrev Row := List Int × List Int
structure RowsQ (b : List Pl) (Q : Zp → Row → Prop) (Z : List Zp) (rw : List Row) : Prop where
  nd : (rw.map (·.1)).Nodup
  row : ∀ q ∈ rw, ∃ p ∈ Z, q.1 ∈ p.2 ∧ q.1 ≠ p.1 ∧ q.2 ∈ p.2 ∧ q.2 ∈ adjC b q.1 ∧ Q p q
  all : ∀ p ∈ Z, ∀ x ∈ p.2, x ≠ p.1 → x ∈ rw.map (·.1)
section
variable {b : List Pl} {R : List (List Int)} {os : List Od} {L : List (List (List Int))} {S : Sto} {Z : List Zp} {p : Zp} {Q : Zp → Row → Prop} {rw rw' new : List Row}
theorem RowsQ.perm (h : RowsQ b Q Z rw) (hp : rw'.Perm rw) : RowsQ b Q Z rw' :=
  ⟨(hp.map _).nodup_iff.mpr h.nd, fun q hq => h.row q (hp.mem_iff.mp hq), fun p hp' x hx hne => (hp.map _).mem_iff.mpr (h.all p hp' x hx hne)⟩
theorem RowsQ.imp {Q' : Zp → Row → Prop} (h : RowsQ b Q Z rw) (k : ∀ p q, Q p q → Q' p q) : RowsQ b Q' Z rw :=
  ⟨h.nd, fun q hq => let ⟨p, h1, h2, h3, h4, h5, h6⟩ := h.row q hq; ⟨p, h1, h2, h3, h4, h5, k _ _ h6⟩, h.all⟩
theorem RowsQ.step (h : RowsQ b Q Z rw) (dj : ∀ p' ∈ Z, ∀ x ∈ p'.2, x ∉ p.2) (hn : p.2.Nodup) (hk : new.map (·.1) = p.2.filter fun x => !decide (x = p.1)) (hq : ∀ q ∈ new, q.2 ∈ p.2 ∧ q.2 ∈ adjC b q.1 ∧ Q p q) : RowsQ b Q (Z ++ [p]) (rw ++ new) := by
  have hkm : ∀ q ∈ new, q.1 ∈ p.2 ∧ q.1 ≠ p.1 := fun q h => by
    have : q.1 ∈ new.map (·.1) := List.mem_map_of_mem h
    rw [hk] at this
    obtain ⟨h1, h2⟩ := List.mem_filter.mp this
    exact ⟨h1, by simpa using h2⟩
  refine ⟨?_, fun q hqm => ?_, fun p' hp' x hx hne => ?_⟩
  · rw [List.map_append, List.nodup_append]
    refine ⟨h.nd, by rw [hk]; exact hn.filter _, fun x hx y hy e => ?_⟩
    subst e
    obtain ⟨q1, hq1, rfl⟩ := List.mem_map.mp hx
    obtain ⟨q2, hq2, e2⟩ := List.mem_map.mp hy
    obtain ⟨p', hp', hx', _⟩ := h.row q1 hq1
    exact dj p' hp' _ hx' (by rw [← e2]; exact (hkm q2 hq2).1)
  · rcases List.mem_append.mp hqm with z | z
    · obtain ⟨p', hp', k⟩ := h.row q z
      exact ⟨p', List.mem_append_left _ hp', k⟩
    · obtain ⟨h1, h2⟩ := hkm q z
      obtain ⟨h3, h4, h5⟩ := hq q z
      exact ⟨p, by simp, h1, h2, h3, h4, h5⟩
  · rw [List.map_append, List.mem_append]
    rcases List.mem_append.mp hp' with z | z
    · exact .inl (h.all p' z x hx hne)
    · rw [List.mem_singleton.mp z] at hx hne
      exact .inr (by rw [hk]; exact List.mem_filter.mpr ⟨hx, by simpa using hne⟩)
theorem RowsQ.len (h : RowsQ b Q Z rw) (hf : ∀ p ∈ Z, ∀ x ∈ p.2, Fits x b) : rw.length ≤ (conts b).length := by
  have := nodup_len (m := conts b) h.nd fun x hx => by
    obtain ⟨q, hq, rfl⟩ := List.mem_map.mp hx
    obtain ⟨p, hp, hx, _⟩ := h.row q hq
    exact inV.mpr (hf p hp _ hx)
  rwa [List.length_map] at this
end
end KX
end
noncomputable section
namespace KX
open PySem PySem.Spec PyProof.Rows L2 DL K17 K62 KH KV
open K39 (ID Alw ok_iff)
section
end
end KX
end
noncomputable section
namespace KX
open PySem PySem.Spec PyProof.Rows L2 DL K17 K62 KH KV
open K39 (ID Alw ok_iff)
section
variable {b : List Pl} {R : List (List Int)} {os : List Od} {L : List (List (List Int))} {S : Sto} {p : Zp} {rw : List Row} {x y : List Int} {ks : List (List Int)}
theorem zip_fst (h : LotsOk b R L) : (R.zip L).map (·.1) = R := List.map_fst_zip (by rw [h.len]; exact Nat.le_refl _)
end
end KX
end
noncomputable section
namespace KX
open PySem PySem.Spec PyProof.Rows L2 DL K17 K62 KH KV
open K39 (ID Alw ok_iff)
section
end
end KX
end
noncomputable section
namespace KJ
open PySem PySem.Spec PyProof.Rows L2 DL K17 K62 KH
theorem mvs_tI (l : List Mv) : l.map mv = (l.map fun q => [q.1, q.2]).map tI := by rw [List.map_map]; rfl
inductive RcE (E : List Int → List Int → Bool) (P : List (List Int)) (s : List Int) : List Int → Prop
  | base : RcE E P s s
  | step {x y : List Int} : RcE E P s y → x ∈ P → E y x = true → RcE E P s x
structure DF (E : List Int → List Int → Bool) (P : List (List Int)) (s : List Int) (K line : List (List Int)) : Prop where
  nd : K.Nodup
  st : s ∈ K
  sub : ∀ x ∈ K, x = s ∨ x ∈ P
  rc : ∀ x ∈ K, RcE E P s x
  ln : ∀ x ∈ line, x ∈ K
  lnd : line.Nodup
  cl : ∀ y ∈ K, y ∉ line → ∀ x ∈ P, E y x = true → x ∈ K
theorem DF.len {E : List Int → List Int → Bool} {P : List (List Int)} {s : List Int} {K line : List (List Int)} (h : DF E P s K line) : K.length ≤ P.length + 1 := by
  have := List.Nodup.length_le_of_subset (l₁ := K) (l₂ := s :: P) h.nd fun x hx => by
    rcases h.sub x hx with z | z
    · rw [z]; simp
    · exact List.mem_cons_of_mem _ z
  simpa using this
def nwE (E : List Int → List Int → Bool) (P K : List (List Int)) (y : List Int) : List (List Int) := P.filter fun x => !decide (x ∈ K) && E y x
theorem mem_nwE {E : List Int → List Int → Bool} {P K : List (List Int)} {y x : List Int} : x ∈ nwE E P K y ↔ x ∈ P ∧ x ∉ K ∧ E y x = true := by
  unfold nwE
  simp only [List.mem_filter, Bool.and_eq_true, Bool.not_eq_true', decide_eq_false_iff_not]
theorem DF.step {E : List Int → List Int → Bool} {P : List (List Int)} {s y : List Int} {K line : List (List Int)} (hP : P.Nodup) (h : DF E P s K (line ++ [y])) : DF E P s (K ++ nwE E P K y) (line ++ nwE E P K y) := by
  have hy : y ∈ K := h.ln y (by simp)
  have hl0 : line.Nodup := (List.nodup_append.mp h.lnd).1
  refine ⟨?_, List.mem_append_left _ h.st, fun x hx => ?_, fun x hx => ?_, fun x hx => ?_, ?_, fun z hz hn x hx he => ?_⟩
  · rw [List.nodup_append]
    exact ⟨h.nd, hP.filter _, fun a ha b hb e => (mem_nwE.mp hb).2.1 (e ▸ ha)⟩
  · rcases List.mem_append.mp hx with z | z
    · exact h.sub x z
    · exact .inr (mem_nwE.mp z).1
  · rcases List.mem_append.mp hx with z | z
    · exact h.rc x z
    · obtain ⟨h1, _, h3⟩ := mem_nwE.mp z
      exact .step (h.rc y hy) h1 h3
  · rcases List.mem_append.mp hx with z | z
    · exact List.mem_append_left _ (h.ln x (List.mem_append_left _ z))
    · exact List.mem_append_right _ z
  · rw [List.nodup_append]
    exact ⟨hl0, hP.filter _, fun a ha b hb e => (mem_nwE.mp hb).2.1 (e ▸ h.ln a (List.mem_append_left _ ha))⟩
  · by_cases hxK : x ∈ K
    · exact List.mem_append_left _ hxK
    · rcases List.mem_append.mp hz with w | w
      · by_cases ey : z = y
        · subst ey
          exact List.mem_append_right _ (mem_nwE.mpr ⟨hx, hxK, he⟩)
        · exact absurd (h.cl z w (fun c => by
            rcases List.mem_append.mp c with v | v
            · exact hn (List.mem_append_left _ v)
            · exact ey (by simpa using v)) x hx he) hxK
      · exact absurd (List.mem_append_right _ w) hn
theorem DF.all {E : List Int → List Int → Bool} {P : List (List Int)} {s : List Int} {K : List (List Int)} (h : DF E P s K []) {x : List Int} : x ∈ K ↔ RcE E P s x := by
  refine ⟨h.rc x, fun r => ?_⟩
  induction r with
  | base => exact h.st
  | step _ hx he ih => exact h.cl _ ih (by simp) _ hx he
open KV (LotsOk)
section
end
open K39 (ID Alw ok_iff)
open KV (outL)
-- nothing opened of KX
end KJ
end
noncomputable section
namespace KB
open PySem PySem.Spec PyProof.Rows L2 DL K17 KH KJ
section
variable {b : List Pl} {S : Sto}
theorem all_b {α : Type} {l : List α} {P : α → Bool} {S : Sto} : allDD [.d (.list (l.map fun a => PyData.bool (P a)))] S = some (.d (.bool (l.all P)), S) := by
  have h : ∀ l : List α, blsD (l.map fun a => PyData.bool (P a)) = some (l.map P) := fun l => by
    induction l with
    | nil => rfl
    | cons a l ih => simp [blsD, ih]
  simp [allDD, on1, deref, h, List.all_map, Function.comp_def]
def isint : PyData → Bool
  | .int _ => true
  | _ => false
theorem isint_okB {d : PyData} {S : Sto} : callF f_is_integer [.d d] S = some (.d (.bool (isint d)), S) := by
  refine KJ.eqof (wp_call0 rfl ?_)
  unfold b_is_integer
  cases d <;> (simp! only [List.replicate, Wp_vAndT, Wp_isiE, isiW_d, isi_i, isi_b, andTK_t, andTK_f, isint]; exact ⟨_, rfl, rfl⟩)
theorem lenT {ds : List PyData} {S : Sto} : lenX [.d (.tuple ds)] S = some (.d (.int (ds.length : Nat)), S) := rfl
end
end KB
end
noncomputable section
namespace KB
open PySem PySem.Spec PyProof.Rows L2 DL K17 KH KJ
section
variable {b : List Pl} {S : Sto}
theorem len2 (n : Nat) : decide (((n : Nat) : Int) = 2) = decide (n = 2) := decide_eq_decide.mpr (by omega)
theorem all_b2 {p q : Bool} {S : Sto} : allDD [.d (.list [PyData.bool p, .bool q])] S = some (.d (.bool (p && q)), S) := by
  simp [allDD, on1, deref, blsD]
end
end KB
end
noncomputable section
namespace KB
open PySem PySem.Spec PyProof.Rows L2 DL
def b_is_ascending (g : PyData → Option PyData) : MS := sSeq (sIf (tOrD (tNotD (tTru (mIsiE "tuple" (mVar 0)))) (tNotD (tTru (mCall allDD (mCons (mLc (iSeqK (mVar 0)) (gSet 2) (tTrue) (mAct g 1 (mVar 2)) [2] kFrz) (mNil)))))) (sRet (mC (.bool false))) (sNil))
    (sRet (mCall allDD (mCons (mLc (iZipD (mCons (mVar 0) (mCons (mSl (mVar 0) (oYes (mC (.int 1))) (oNo)) (mNil)))) (gTupD 2 (gsCons (gSet 2) (gsCons (gSet 3) (gsNil)))) (tTrue) (mBin ltX (mVar 2) (mVar 3)) [2, 3] kFrz) (mNil))))
def f_is_ascending (g : PyData → Option PyData) : FS := runF 4 (b_is_ascending g)
def b_l_rises : MS := sRet (mCall allDD (mCons (mLc (iRng1D (mCons (mBin subD (mCall lenX (mCons (mVar 0) (mNil))) (mC (.int 1))) (mNil))) (gSet 1) (tTrue) (mBin ltX (mBin ixY (mVar 0) (mVar 1)) (mBin ixY (mVar 0) (mBin addA (mVar 1) (mC (.int 1))))) [1] kFrz) (mNil)))
def f_l_rises : FS := runF 2 b_l_rises
def b_is_move : MS := sSeq (sIf (tOrD (tNotD (tTru (mIsiE "tuple" (mVar 1)))) (tOrD (tOf (mBin (eqA true) (mCall lenX (mCons (mVar 1) (mNil))) (mC (.int 2)))) (tNotD (tTru (mCall allDD (mCons (mLc (iSeqK (mVar 1)) (gSet 2) (tTrue) (mCall (callF f_is_integer) (mCons (mVar 2) (mNil))) [2] kFrz) (mNil))))))) (sRet (mC (.bool false))) (sNil))
    (sRet (vAnd (mBin (eqA true) (mBin ixY (mVar 1) (mC (.int 0))) (mBin ixY (mVar 1) (mC (.int 1)))) (mCall allDD (mCons (mLc (iSeqK (mVar 1)) (gSet 2) (tTrue) (vChain leD ltD (mC (.int 0)) (mVar 2) (mVar 0)) [2] kFrz) (mNil)))))
def f_is_move : FS := runF 3 b_is_move
def L_l_is_place_1 : MS := sSeq (sIf (tOrD (tNotD (tTru (mIsiE "tuple" (mVar 1)))) (tOrD (tOf (mBin (eqA true) (mCall lenX (mCons (mVar 1) (mNil))) (mC (.int 2)))) (tNotD (tTru (mCall (callF f_l_is_int) (mCons (mBin ixY (mVar 1) (mC (.int 0))) (mCons (mC (.int 0)) (mCons (mBin subD (mBin ixY (mVar 0) (mC (.int 0))) (mC (.int 1))) (mNil))))))))) (sRet (mC (.bool false))) (sNil))
    (sIf (tOrD (tNotD (tTru (mCall (callF f_l_is_int) (mCons (mBin ixY (mVar 1) (mC (.int 1))) (mCons (mC (.int 0)) (mCons (mBin subD (mBin ixY (mVar 0) (mC (.int 0))) (mC (.int 1))) (mNil))))))) (tOf (mBin (eqA false) (mBin ixY (mVar 1) (mC (.int 0))) (mBin ixY (mVar 1) (mC (.int 1)))))) (sRet (mC (.bool false))) (sNil))
def b_l_is_place : MS := sSeq (sIf (tOrD (tNotD (tTru (mIsiE "tuple" (mVar 0)))) (tOrD (tOf (mBin (eqA true) (mCall lenX (mCons (mVar 0) (mNil))) (mC (.int 2)))) (tNotD (tTru (mCall (callF f_l_is_int) (mCons (mBin ixY (mVar 0) (mC (.int 0))) (mCons (mC (.int 2)) (mCons (mC (.int 6)) (mNil))))))))) (sRet (mC (.bool false))) (sNil))
    (sSeq (sIf (tNotD (tTru (mIsiE "tuple" (mBin ixY (mVar 0) (mC (.int 1)))))) (sRet (mC (.bool false))) (sNil))
    (sSeq (sFor (iSeqK (mBin ixY (mVar 0) (mC (.int 1)))) (gSet 1) (L_l_is_place_1))
    (sRet (mCall (callF f_l_rises) (mCons (mBin ixY (mVar 0) (mC (.int 1))) (mNil))))))
def f_l_is_place : FS := runF 2 b_l_is_place
def b_l_is_bench : MS := sRet (vAndT (mIsiE "tuple" (mVar 0)) (vAnd (mBin gtX (mCall lenX (mCons (mVar 0) (mNil))) (mC (.int 0))) (mCall allDD (mCons (mLc (iSeqK (mVar 0)) (gSet 1) (tTrue) (mCall (callF f_l_is_place) (mCons (mVar 1) (mNil))) [1] kFrz) (mNil)))))
def f_l_is_bench : FS := runF 2 b_l_is_bench
def m_is_place_1 : ME := mCall (callF f_is_move) (mCons (mBin ixY (mVar 1) (mC (.int 0))) (mCons (mVar 0) (mNil)))
def b_is_place : MS := sSeq (sIf (tOrD (tNotD (tTru (mIsiE "tuple" (mVar 0)))) (tOrD (tOf (mBin (eqA true) (mCall lenX (mCons (mVar 0) (mNil))) (mC (.int 2)))) (tOrD (tNotD (tTru (mCall (callF f_is_integer) (mCons (mBin ixY (mVar 0) (mC (.int 0))) (mNil))))) (tNotD (tOf (vChain leD leD (mC (.int 2)) (mBin ixY (mVar 0) (mC (.int 0))) (mC (.int 6)))))))) (sRet (mC (.bool false))) (sNil))
    (sRet (mLam f_is_ascending m_is_place_1 [0] (mBin ixY (mVar 0) (mC (.int 1)))))
def f_is_place : FS := runF 1 b_is_place
def b_is_bench : MS := sRet (vAndT (mIsiE "tuple" (mVar 0)) (vAnd (mBin neT0 (mVar 0) (mCall tupF (mNil))) (mCall allDD (mCons (mLc (iSeqK (mVar 0)) (gSet 1) (tTrue) (mCall (callF f_is_place) (mCons (mVar 1) (mNil))) [1] kFrz) (mNil)))))
def f_is_bench : FS := runF 2 b_is_bench
end KB
end
noncomputable section
namespace KB
open PySem PySem.Spec PyProof.Rows L2 DL K17 KH KJ
section
variable {S : Sto}
/-- a move between values below n -/
def moveB (n : Int) : PyData → Bool
  | .tuple [x, y] => isI 0 (n - 1) x && isI 0 (n - 1) y && !(PyData.eqv x y)
  | _ => false
theorem isI_iff {lo hi : Int} {d : PyData} : isI lo hi d = true ↔ ∃ i, d = .int i ∧ lo ≤ i ∧ i ≤ hi := by
  cases d <;> simp [isI]
theorem eqv_ii (a c : Int) : PyData.eqv (.int a) (.int c) = decide (a = c) := by simp [PyData.eqv]; rfl
theorem moveB_iff {n : Int} {d : PyData} : moveB n d = true ↔ ∃ m : Mv, d = mv m ∧ (0 ≤ m.1 ∧ m.1 < n) ∧ (0 ≤ m.2 ∧ m.2 < n) ∧ m.1 ≠ m.2 := by
  constructor
  · intro h
    match d, h with
    | .tuple [x, y], h =>
      simp only [moveB, Bool.and_eq_true] at h
      obtain ⟨⟨h1, h2⟩, h3⟩ := h
      obtain ⟨a, rfl, a1, a2⟩ := isI_iff.mp h1
      obtain ⟨c, rfl, c1, c2⟩ := isI_iff.mp h2
      rw [eqv_ii] at h3
      exact ⟨(a, c), rfl, ⟨a1, by omega⟩, ⟨c1, by omega⟩, by simpa using h3⟩
  · rintro ⟨m, rfl, h1, h2, h3⟩
    simp only [mv, moveB, Bool.and_eq_true, eqv_ii]
    exact ⟨⟨isI_iff.mpr ⟨_, rfl, h1.1, by omega⟩, isI_iff.mpr ⟨_, rfl, h2.1, by omega⟩⟩, by simpa using h3⟩
theorem is_move_ok {n : Int} {d : PyData} : callF f_is_move [.d (.int n), .d d] S = some (.d (.bool (moveB n d)), S) := by
  refine KJ.eqof (wp_call0 rfl ?_)
  unfold b_is_move
  cases d with
  | tuple ds =>
    by_cases h2 : ds.length = 2
    · obtain ⟨x, y, rfl⟩ : ∃ x y, ds = [x, y] := by
        match ds, h2 with
        | [x, y], _ => exact ⟨x, y, rfl⟩
      simp! only [List.replicate, Wp_isiE, isiW_d, isi_t, n2]
      refine wp_lcA (l := [x, y]) (enc := id) (H := fun z => .bool (isint z)) (S1 := []) (by simp! only [List.map_id, id]) (fun z hz => ?_) (sz_of (by simp)) ?_
      · simp! only [isint_okB, id]
      simp only [List.map_cons, List.map_nil]
      simp! only [all_b2]
      cases hx : isint x with
      | false =>
        simp! only [Bool.false_and]
        refine ⟨_, rfl, ?_⟩
        cases x <;> simp [isint] at hx <;> simp [moveB, isI]
      | true =>
        cases hy : isint y with
        | false =>
          simp! only [Bool.and_false]
          refine ⟨_, rfl, ?_⟩
          cases y <;> simp [isint] at hy <;> simp [moveB, isI]
        | true =>
          obtain ⟨a, rfl⟩ : ∃ a, x = .int a := by cases x <;> simp [isint] at hx ⊢
          obtain ⟨c, rfl⟩ : ∃ c, y = .int c := by cases y <;> simp [isint] at hy ⊢
          have hm : moveB n (.tuple [.int a, .int c]) = (isI 0 (n - 1) (.int a) && isI 0 (n - 1) (.int c) && !decide (a = c)) := by
            simp only [moveB, eqv_ii]
          simp! only [Bool.and_self, ix0]
          by_cases hac : a = c
          · subst hac
            simp! only [decide_true, Bool.not_true]
            exact ⟨_, rfl, by rw [hm]; simp⟩
          · simp! only [decide_eq_false hac, Bool.not_false]
            refine wp_lcA (l := [a, c]) (enc := .int) (H := fun z => .bool (isI 0 (n - 1) (.int z))) (S1 := []) (by simp! only) (fun z hz => ?_) (sz_of (by simp)) ?_
            · by_cases h0 : 0 ≤ z
              · simp! only [Wp_chain, chK_t, h0, decide_true]
                have : decide (z < n) = isI 0 (n - 1) (.int z) := by
                  simp only [isI, h0, decide_true, Bool.true_and]
                  exact decide_eq_decide.mpr (by omega)
                rw [this]
              · have h00 : decide (0 ≤ z) = false := by simp [h0]
                simp! only [Wp_chain, chK_f, h00]
                have : false = isI 0 (n - 1) (.int z) := by simp [isI, h0]
                rw [← this]
            simp only [List.map_cons, List.map_nil]
            simp! only [all_b2]
            exact ⟨_, rfl, by rw [hm]; simp [hac]⟩
    · have e2 : decide (ds.length = 2) = false := decide_eq_false h2
      simp! only [List.replicate, Wp_isiE, isiW_d, isi_t, lenT, len2, e2]
      refine ⟨_, rfl, ?_⟩
      match ds, h2 with
      | [], _ => rfl
      | [_], _ => rfl
      | _ :: _ :: _ :: _, _ => rfl
  | _ =>
    simp! only [List.replicate, Wp_isiE, isiW_d, isi_t]
    exact ⟨_, rfl, rfl⟩
def dm : PyData → List Int
  | .tuple [.int a, .int c] => [a, c]
  | _ => []
def ltM (x y : PyData) : Bool := ltC (cI (dm x)) (cI (dm y))
theorem asc_okB {g : PyData → Option PyData} {P : PyData → Bool} {lt : PyData → PyData → Bool} {ms : List PyData} (hg : ∀ a ∈ ms, g a = some (.bool (P a))) (hr : ∀ a ∈ ms, P a = true → rowP a = false) (hlt : ∀ a ∈ ms, ∀ b ∈ ms, P a = true → P b = true → ∀ S, ltX (.d a) (.d b) S = some (.d (.bool (lt a b)), S)) (hl : ms.length ≤ 1000000) :
    f_is_ascending g [.d (.tuple ms), .fn] [] = some (.d (.bool (ms.all P && adj lt ms)), []) := by
  refine wp_runL ?_
  unfold b_is_ascending
  simp! only [List.replicate, Wp_isiE, isiW_d, isi_t]
  refine wp_lcA (l := ms) (enc := id) (H := fun z => .bool (P z)) (S1 := []) (by simp! only [List.map_id, id]) (fun x hx => ?_) (sz_of (by omega)) ?_
  · simp! only [id]
    exact wp_act (S1 := []) rfl rfl (hg x hx) rfl
  simp! only [all_b]
  cases hP : ms.all P with
  | false =>
    simp! only [Bool.not_false, Bool.false_and]
  | true =>
    have hall : ∀ a ∈ ms, P a = true := fun a ha => List.all_eq_true.mp hP a ha
    simp! only [Bool.not_true]
    have hs := fun S => slice_dr (enc := id) (l := ms) (k := 1) (S := S)
    refine wp_lcA (l := ms.zip ms.tail) (enc := fun q => PyData.tuple [q.1, q.2]) (H := fun q => .bool (lt q.1 q.2)) (S1 := []) ?_ (fun x hx => ?_) (sz_of (by rw [List.length_zip]; omega)) ?_
    · refine wp_zipG (f := id) (g := id) (l := ms) (m := ms.tail) (fun a ha b => .inl (hr a ha (hall a ha))) ?_
      have := hs []
      rw [show ((1 : Nat) : Int) = 1 from rfl, List.map_id] at this
      simp! only [this, List.map_id]
      rw [List.drop_one]
    · have h1 := List.of_mem_zip hx
      simp! only [hlt x.1 h1.1 x.2 (List.mem_of_mem_tail h1.2) (hall _ h1.1) (hall _ (List.mem_of_mem_tail h1.2))]
    · simp! only [all_b]
      rfl
theorem asc_noB {g : PyData → Option PyData} {d : PyData} (h : ∀ ds, d ≠ .tuple ds) : f_is_ascending g [.d d, .fn] [] = some (.d (.bool false), []) := by
  refine wp_runL ?_
  unfold b_is_ascending
  cases d with
  | tuple ds => exact absurd rfl (h ds)
  | _ => simp! only [List.replicate, Wp_isiE, isiW_d, isi_t]
/-- a place -/
def movesB (n : Int) : PyData → Bool
  | .tuple ms => ms.all (moveB n) && adj ltM ms
  | _ => false
def placeB : PyData → Bool
  | .tuple [x, y] => isI 2 6 x && (match x with | .int n => movesB n y | _ => false)
  | _ => false
/-- no row of what is judged is too long -/
def Short (d : PyData) : Prop := ∃ k, Fn k 300000 d
theorem Short.len {ds : List PyData} (h : Short (.tuple ds)) : ds.length ≤ 300000 := by
  obtain ⟨k, h⟩ := h
  have h1 := h.wt
  have h2 := wA_len ds
  simp only [PyData.weight] at h1
  omega
theorem Short.mem {ds : List PyData} {x : PyData} (h : Short (.tuple ds)) (hx : x ∈ ds) : Short x := by
  obtain ⟨k, h⟩ := h
  have h1 := h.wt
  have h2 := wA_mem hx
  have h3 := h.dp
  simp only [PyData.weight] at h1
  refine ⟨k, fine_t.mp h.fn x hx, ?_, by omega⟩
  simp only [PyData.depth] at h3
  have := dA_iff.mp (Nat.le_refl (PyData.depthAll ds)) x hx
  omega
theorem ltM_ok {n : Int} {a c : PyData} (ha : moveB n a = true) (hc : moveB n c = true) (S : Sto) : ltX (.d a) (.d c) S = some (.d (.bool (ltM a c)), S) := by
  obtain ⟨m, rfl, _⟩ := moveB_iff.mp ha
  obtain ⟨k, rfl, _⟩ := moveB_iff.mp hc
  exact ltX_c [m.1, m.2] [k.1, k.2] S
theorem rowP_mv {n : Int} {a : PyData} (ha : moveB n a = true) : rowP a = false := by
  obtain ⟨m, rfl, _⟩ := moveB_iff.mp ha
  exact rowP_tI [m.1, m.2]
theorem is_place_ok {d : PyData} (hs : Short d) : callF f_is_place [.d d] S = some (.d (.bool (placeB d)), S) := by
  refine KJ.eqof (wp_call0 rfl ?_)
  unfold b_is_place
  cases d with
  | tuple ds =>
    by_cases h2 : ds.length = 2
    · obtain ⟨x, y, rfl⟩ : ∃ x y, ds = [x, y] := by
        match ds, h2 with
        | [x, y], _ => exact ⟨x, y, rfl⟩
      cases hx : isint x with
      | false =>
        simp! only [List.replicate, Wp_isiE, isiW_d, isi_t, n2, ix0, isint_okB, hx]
        refine ⟨_, rfl, ?_⟩
        cases x <;> simp [isint] at hx <;> simp [placeB, isI]
      | true =>
        obtain ⟨n, rfl⟩ : ∃ a, x = .int a := by cases x <;> simp [isint] at hx ⊢
        by_cases h26 : 2 ≤ n ∧ n ≤ 6
        · simp! only [List.replicate, Wp_isiE, isiW_d, isi_t, n2, ix0, isint_okB, hx, Wp_chain, chK_t, h26.1, h26.2, decide_true]
          have hp : placeB (.tuple [.int n, y]) = movesB n y := by simp [placeB, isI, h26.1, h26.2]
          refine wp_lam (x := y) (y := .bool (movesB n y)) (S1 := []) (ds := [.tuple [.int n, y]]) ?_ rfl ?_ ⟨_, rfl, by rw [hp]⟩
          · simp only [mBin, mVar, mC, List.getElem?_cons_zero, Option.bind_some, ixY_lit1]
          cases y with
          | tuple ms =>
            have hms : Short (.tuple ms) := hs.mem (by simp)
            refine asc_okB (P := moveB n) (lt := ltM) (fun m hm => ?_) (fun a _ ha => rowP_mv ha) (fun a _ c _ ha hc S => ltM_ok ha hc S) (by have := hms.len; omega)
            refine lamG_of ?_
            have e := is_move_ok (n := n) (d := m) (S := [])
            simp only [m_is_place_1, mCall, mBin, mVar, mC, mCons, mNil, List.map_cons, List.map_nil, List.getElem?_cons_succ, List.getElem?_cons_zero, Option.bind_some, ixY_lit0, e]
          | _ => exact asc_noB fun ds e => by cases e
        · by_cases hlo : 2 ≤ n
          · have hhi : decide (n ≤ 6) = false := by simp; omega
            simp! only [List.replicate, Wp_isiE, isiW_d, isi_t, n2, ix0, isint_okB, hx, Wp_chain, chK_t, hlo, hhi, decide_true]
            exact ⟨_, rfl, by simp [placeB, isI]; omega⟩
          · have hlo' : decide (2 ≤ n) = false := by simp [hlo]
            simp! only [List.replicate, Wp_isiE, isiW_d, isi_t, n2, ix0, isint_okB, hx, Wp_chain, chK_f, hlo']
            exact ⟨_, rfl, by simp [placeB, isI]; omega⟩
    · have e2 : decide (ds.length = 2) = false := decide_eq_false h2
      simp! only [List.replicate, Wp_isiE, isiW_d, isi_t, lenT, len2, e2]
      refine ⟨_, rfl, ?_⟩
      match ds, h2 with
      | [], _ => rfl
      | [_], _ => rfl
      | _ :: _ :: _ :: _, _ => rfl
  | _ =>
    simp! only [List.replicate, Wp_isiE, isiW_d, isi_t]
    exact ⟨_, rfl, rfl⟩
end
end KB
noncomputable section
namespace KB
open PySem PySem.Spec PyProof.Rows L2 DL K17 KH KJ
section
variable {S : Sto}
theorem ix_n {l : List PyData} {k : Nat} (h : k < l.length) (S : Sto) : ixY (.d (.tuple l)) (.d (.int (k : Nat))) S = some (.d l[k], S) := ixY_t (List.getElem?_eq_getElem h)
theorem rises_ok {ms : List PyData} {lt : PyData → PyData → Bool} (hl : ms.length ≤ 1000000) (hlt : ∀ a ∈ ms, ∀ b ∈ ms, ∀ S, ltX (.d a) (.d b) S = some (.d (.bool (lt a b)), S)) : callF f_l_rises [.d (.tuple ms)] S = some (.d (.bool (adj lt ms)), S) := by
  refine KJ.eqof (wp_call0 rfl ?_)
  unfold b_l_rises
  have hr : ∀ S : Sto, rng1D [.d (.int ((ms.length : Nat) - 1))] S = some (rngD 0 (ms.length - 1), S) := fun S => by
    cases ms with
    | nil => rfl
    | cons a ms =>
      have : (((a :: ms).length : Nat) : Int) - 1 = ((ms.length : Nat) : Int) := by simp
      rw [this]
      exact rng1_ok (by simp at hl; omega)
  simp! only [List.replicate, lenT]
  refine wp_lcA (l := List.range (ms.length - 1)) (enc := fun k => .int (k : Nat)) (H := fun k => .bool (lt (ms.getD k .none) (ms.getD (k + 1) .none))) (S1 := []) (by simp! only [lenT, hr, rngD, List.map_map, Function.comp_def, Int.zero_add]) (fun k hk => ?_) (sz_of (by simp; omega)) ?_
  · have hk2 : k + 1 < ms.length := by have := List.mem_range.mp hk; omega
    have h1 := ix_n (S := []) (l := ms) (k := k) (by omega)
    have h2 := ix_n (S := []) (l := ms) (k := k + 1) hk2
    rw [show ((k + 1 : Nat) : Int) = (k : Int) + 1 by omega] at h2
    have g1 : ms.getD k .none = ms[k] := by simp [List.getD, show k < ms.length by omega]
    have g2 : ms.getD (k + 1) .none = ms[k + 1] := by simp [List.getD, hk2]
    rw [g1, g2]
    simp! only [h1, h2, hlt _ (List.getElem_mem (by omega : k < ms.length)) _ (List.getElem_mem hk2)]
  · simp! only [all_b]
    refine ⟨_, rfl, ?_⟩
    congr 1
    unfold adj
    have h : ms.zip ms.tail = (List.range (ms.length - 1)).map fun k => (ms.getD k .none, ms.getD (k + 1) .none) := by
      apply List.ext_getElem
      · simp
      · intro k h1 h2
        have hk : k + 1 < ms.length := by simp at h2; omega
        simp [List.getD, hk, show k < ms.length by omega]
    rw [h, List.all_map]
    rfl
theorem l_is_place_okB {d : PyData} (hs : Short d) : callF f_l_is_place [.d d] S = some (.d (.bool (placeB d)), S) := by
  refine KJ.eqof (wp_call0 rfl ?_)
  unfold b_l_is_place
  cases d with
  | tuple ds =>
    by_cases h2 : ds.length = 2
    · obtain ⟨x, y, rfl⟩ : ∃ x y, ds = [x, y] := by
        match ds, h2 with
        | [x, y], _ => exact ⟨x, y, rfl⟩
      cases hx : isI 2 6 x with
      | false =>
        simp! only [List.replicate, Wp_isiE, isiW_d, isi_t, n2, ix0, is_int_ok, hx]
        exact ⟨_, rfl, by simp [placeB, hx]⟩
      | true =>
        obtain ⟨n, rfl, n1, n6⟩ := isI_iff.mp hx
        have hp : placeB (.tuple [.int n, y]) = movesB n y := by simp only [placeB, hx, Bool.true_and]
        cases y with
        | tuple ms =>
          have hms : Short (.tuple ms) := hs.mem (by simp)
          have hml := hms.len
          simp! only [List.replicate, Wp_isiE, isiW_d, isi_t, n2, ix0, ixY_lit1, is_int_ok, hx]
          rw [show ms.map W.d = (ms.map fun x => x).map W.d by rw [List.map_id']]
          refine wp_forX (l := ms) (enc := fun x => x) (fun ρ0 S0 i ρ S => ∃ y1, ρ = ρ0.set 1 y1 ∧ S = S0 ∧ (ms.take i).all (moveB n) = true) ⟨none, rfl, rfl, rfl⟩ ?_ ?_
          · rintro i m _ _ hm ⟨y1, rfl, rfl, hi⟩
            have hmm : Short m := hms.mem (List.mem_of_getElem? hm)
            have hno : moveB n m = false → ms.all (moveB n) = false := fun h => List.all_eq_false.mpr ⟨m, List.mem_of_getElem? hm, by simp [h]⟩
            have hye : moveB n m = true → (ms.take (i + 1)).all (moveB n) = true := fun h => by
              rw [List.take_add_one, hm]
              simp [List.all_append, hi, h]
            have hbad : moveB n m = false → PyData.bool false = .bool (placeB (.tuple [.int n, .tuple ms])) := fun h => by
              rw [hp]; simp [movesB, hno h]
            unfold L_l_is_place_1
            cases m with
            | tuple vs =>
              by_cases hv : vs.length = 2
              · obtain ⟨u, v, rfl⟩ : ∃ x y, vs = [x, y] := by
                  match vs, hv with
                  | [x, y], _ => exact ⟨x, y, rfl⟩
                cases hu : isI 0 (n - 1) u with
                | false =>
                  simp! only [Wp_isiE, isiW_d, isi_t, n2, ix0, is_int_ok, hu]
                  exact .inr (.inr ⟨_, rfl, _, rfl, hbad (by simp [moveB, hu])⟩)
                | true =>
                  cases hw : isI 0 (n - 1) v with
                  | false =>
                    simp! only [Wp_isiE, isiW_d, isi_t, n2, ix0, ixY_lit1, is_int_ok, hu, hw]
                    exact .inr (.inr ⟨_, rfl, _, rfl, hbad (by simp [moveB, hu, hw])⟩)
                  | true =>
                    obtain ⟨a, rfl, _⟩ := isI_iff.mp hu
                    obtain ⟨c, rfl, _⟩ := isI_iff.mp hw
                    have hmv : moveB n (.tuple [.int a, .int c]) = !decide (a = c) := by simp only [moveB, hu, hw, eqv_ii, Bool.true_and]
                    by_cases hac : a = c
                    · subst hac
                      simp! only [Wp_isiE, isiW_d, isi_t, n2, ix0, ixY_lit1, is_int_ok, hu, decide_true]
                      exact .inr (.inr ⟨_, rfl, _, rfl, hbad (by rw [hmv]; simp)⟩)
                    · simp! only [Wp_isiE, isiW_d, isi_t, n2, ix0, ixY_lit1, is_int_ok, hu, hw, decide_eq_false hac]
                      exact .inl ⟨_, rfl, hye (by rw [hmv]; simp [hac])⟩
              · have e2 : decide (vs.length = 2) = false := decide_eq_false hv
                simp! only [Wp_isiE, isiW_d, isi_t, lenT, len2, e2]
                refine .inr (.inr ⟨_, rfl, _, rfl, hbad ?_⟩)
                match vs, hv with
                | [], _ => rfl
                | [_], _ => rfl
                | _ :: _ :: _ :: _, _ => rfl
            | _ =>
              simp! only [Wp_isiE, isiW_d, isi_t]
              exact .inr (.inr ⟨_, rfl, _, rfl, hbad rfl⟩)
          · rintro _ _ ⟨y1, rfl, rfl, hi⟩
            rw [List.take_length] at hi
            have hall := List.all_eq_true.mp hi
            have hri := fun S => rises_ok (S := S) (ms := ms) (lt := ltM) (by omega) fun a ha c hc S => ltM_ok (hall a ha) (hall c hc) S
            simp! only [ixY_lit1, hri]
            exact ⟨_, rfl, by rw [hp]; simp [movesB, hi]⟩
        | _ =>
          simp! only [List.replicate, Wp_isiE, isiW_d, isi_t, n2, ix0, ixY_lit1, is_int_ok, hx]
          exact ⟨_, rfl, by rw [hp]; rfl⟩
    · have e2 : decide (ds.length = 2) = false := decide_eq_false h2
      simp! only [List.replicate, Wp_isiE, isiW_d, isi_t, lenT, len2, e2]
      refine ⟨_, rfl, ?_⟩
      match ds, h2 with
      | [], _ => rfl
      | [_], _ => rfl
      | _ :: _ :: _ :: _, _ => rfl
  | _ =>
    simp! only [List.replicate, Wp_isiE, isiW_d, isi_t]
    exact ⟨_, rfl, rfl⟩
/-- a bench -/
def benchB : PyData → Bool
  | .tuple ds => !ds.isEmpty && ds.all placeB
  | _ => false
theorem is_bench_ok {d : PyData} (hs : Short d) : callF f_is_bench [.d d] S = some (.d (.bool (benchB d)), S) := by
  refine KJ.eqof (wp_call0 rfl ?_)
  unfold b_is_bench
  cases d with
  | tuple ds =>
    have hl := hs.len
    have he : ∀ S : Sto, neT0 (.d (.tuple ds)) (.d (.tuple [])) S = some (.d (.bool (!ds.isEmpty)), S) := fun S => rfl
    cases hb : ds.isEmpty with
    | true =>
      simp! only [List.replicate, Wp_vAndT, Wp_isiE, isiW_d, isi_t, andTK_t, he, hb, Bool.not_true]
      exact ⟨_, rfl, by simp [benchB, hb]⟩
    | false =>
      simp! only [List.replicate, Wp_vAndT, Wp_isiE, isiW_d, isi_t, andTK_t, he, hb, Bool.not_false]
      refine wp_lcA (l := ds) (enc := id) (H := fun z => .bool (placeB z)) (S1 := []) (by simp! only [List.map_id, id]) (fun z hz => ?_) (sz_of (by omega)) ?_
      · simp! only [is_place_ok (hs.mem hz), id]
      simp! only [all_b]
      exact ⟨_, rfl, by simp [benchB, hb]⟩
  | _ =>
    simp! only [List.replicate, Wp_vAndT, Wp_isiE, isiW_d, isi_t, andTK_f]
    exact ⟨_, rfl, rfl⟩
theorem l_is_bench_okB {d : PyData} (hs : Short d) : callF f_l_is_bench [.d d] S = some (.d (.bool (benchB d)), S) := by
  refine KJ.eqof (wp_call0 rfl ?_)
  unfold b_l_is_bench
  cases d with
  | tuple ds =>
    have hl := hs.len
    cases hb : ds.isEmpty with
    | true =>
      obtain rfl := List.isEmpty_iff.mp hb
      have hg : ∀ S : Sto, gtX (.d (.int ((([] : List PyData).length : Nat) : Int))) (.d (.int 0)) S = some (.d (.bool false), S) := fun S => rfl
      simp! only [List.replicate, Wp_vAndT, Wp_isiE, isiW_d, isi_t, andTK_t, lenT, hg]
      exact ⟨_, rfl, rfl⟩
    | false =>
      have h0 : 0 < ds.length := List.length_pos_iff.mpr (by simpa using hb)
      have hg : ∀ S : Sto, gtX (.d (.int ((ds.length : Nat) : Int))) (.d (.int 0)) S = some (.d (.bool true), S) := fun S => by
        rw [ev_gtX]; simp; omega
      simp! only [List.replicate, Wp_vAndT, Wp_isiE, isiW_d, isi_t, andTK_t, lenT, hg]
      refine wp_lcA (l := ds) (enc := id) (H := fun z => .bool (placeB z)) (S1 := []) (by simp! only [List.map_id, id]) (fun z hz => ?_) (sz_of (by omega)) ?_
      · simp! only [l_is_place_okB (hs.mem hz), id]
      simp! only [all_b]
      exact ⟨_, rfl, by simp [benchB, hb]⟩
  | _ =>
    simp! only [List.replicate, Wp_vAndT, Wp_isiE, isiW_d, isi_t, andTK_f]
    exact ⟨_, rfl, rfl⟩
end
end KB
noncomputable section
namespace KB
open PySem PySem.Spec PyProof.Rows L2 DL K17 KH KJ
section
variable {b : List Pl} {S : Sto}
theorem FnA_of {k w : Nat} : ∀ {ds : List PyData}, (∀ x ∈ ds, Fn k w x) → FnA k ((w + 1) * ds.length) ds
  | [], _ => ⟨fun x h => by simp at h, fun x h => by simp at h, Nat.zero_le _⟩
  | d :: ds, h => by
    have h1 := h d (by simp)
    have h2 := FnA_of (ds := ds) fun x hx => h x (by simp [hx])
    refine ⟨fun x hx => (h x hx).fn, fun x hx => (h x hx).dp, ?_⟩
    have h3 := h1.wt
    have h4 := h2.wt
    simp only [PyData.weightAll, List.length_cons, Nat.mul_succ]
    omega
theorem fn_p {x y : PyData} {k w : Nat} (hx : Fn k w x) (hy : Fn k w y) : Fn (k + 1) (2 * w + 2) (.tuple [x, y]) := by
  have : FnA k ((w + 1) * 2) [x, y] := FnA_of (ds := [x, y]) fun z hz => by
    simp only [List.mem_cons, List.not_mem_nil, or_false] at hz
    rcases hz with rfl | rfl <;> assumption
  exact this.t.up (Nat.le_refl _) (by omega)
theorem al_b {p : Bool} : callF fAlike [.d (.bool p), .d (.bool p)] S = some (.d (.bool true), S) :=
  alike_ok (B := 8) (w := 0) (dp := 0) niceBool (by decide) (by decide) (by decide) S
theorem al_b3 {p q r : Bool} : callF fAlike [.d (.list [.bool p, .bool q, .bool r]), .d (.list [.bool p, .bool q, .bool r])] S = some (.d (.bool true), S) :=
  alike_ok (B := 8) (w := _) (dp := 1) (niceList (niceCons niceBool (niceCons niceBool (niceCons niceBool niceNil)))) (by decide) (by decide) (by decide) S
theorem fn_mv {n : Nat} {m : Mv} (hn : n ≤ 6) (h : (0 ≤ m.1 ∧ m.1 < n) ∧ (0 ≤ m.2 ∧ m.2 < n)) : Fn 1 28 (mv m) :=
  fn_p (Fn_i (by omega)) (Fn_i (by omega))
theorem fn_pl {p : Pl} (g : GoodP p) : Fn 3 2090 (pl p) := by
  have h6 := g.hi
  have h36 := g.len
  have h1 : FnA 1 ((28 + 1) * (p.2.map mv).length) (p.2.map mv) := FnA_of fun x hx => by
    obtain ⟨m, hm, rfl⟩ := List.mem_map.mp hx
    exact fn_mv h6 (g.mv m hm)
  rw [List.length_map] at h1
  have h2 : Fn 2 1044 (.tuple (p.2.map mv)) := h1.t.up (by omega) (by omega)
  exact fn_p ((Fn_i (by omega)).up (by omega) (by omega)) h2
theorem fn_bn {l : List Pl} (h : ∀ p ∈ l, GoodP p) (h5 : l.length ≤ 5) : Fn 4 10455 (bn l) := by
  have h1 : FnA 3 ((2090 + 1) * (l.map pl).length) (l.map pl) := FnA_of fun x hx => by
    obtain ⟨p, hp, rfl⟩ := List.mem_map.mp hx
    exact fn_pl (h p hp)
  rw [List.length_map] at h1
  exact h1.t.up (by omega) (by omega)
theorem moveB_mv {n : Nat} {m : Mv} (h : (0 ≤ m.1 ∧ m.1 < n) ∧ (0 ≤ m.2 ∧ m.2 < n)) (hn : m.1 ≠ m.2) : moveB n (mv m) = true := moveB_iff.mpr ⟨m, rfl, h.1, h.2, hn⟩
theorem adj_map {α β : Type} {lt : β → β → Bool} {f : α → β} (l : List α) : adj lt (l.map f) = adj (fun a c => lt (f a) (f c)) l := by
  unfold adj
  rw [← List.map_tail, List.zip_map, List.all_map]
  rfl
theorem placeB_pl {p : Pl} (g : GoodP p) : placeB (pl p) = true := by
  have l1 := g.lo; have l2 := g.hi
  have h1 : (p.2.map mv).all (moveB (p.1 : Nat)) = true := List.all_eq_true.mpr fun x hx => by
    obtain ⟨m, hm, rfl⟩ := List.mem_map.mp hx
    exact moveB_mv (g.mv m hm) (g.irr m hm)
  have h2 : adj ltM (p.2.map mv) = true := by
    rw [adj_map]
    exact adj_of g.asc
  have h3 : isI 2 6 (.int (p.1 : Nat)) = true := isI_iff.mpr ⟨_, rfl, by omega, by omega⟩
  simp only [pl, placeB, movesB, h1, h2, h3, Bool.and_self]
theorem benchB_bn {l : List Pl} (h : ∀ p ∈ l, GoodP p) (h0 : l ≠ []) : benchB (bn l) = true := by
  have h1 : (l.map pl).all placeB = true := List.all_eq_true.mpr fun x hx => by
    obtain ⟨p, hp, rfl⟩ := List.mem_map.mp hx
    exact placeB_pl (h p hp)
  have h2 : (l.map pl).isEmpty = false := by
    cases l with
    | nil => exact absurd rfl h0
    | cons => rfl
  simp [bn, benchB, h1, h2]
theorem place_w {c n : Nat} {ob : Ob} (hS : S[n]? = some ob) (hb : BagOk c ob) (hc : c + 100 < 2 ^ 1000) : Wp (callF K17.f_l_place [.loc n, .d (.int 6)] S) fun r => ∃ p ob', r = (.d (pl p), S.set n ob') ∧ GoodP p ∧ BagOk (c + 50) ob' := by
  obtain ⟨p, ob', e, h1, _, h2⟩ := placeM_ok (most := 6) hS hb hc (by decide) (by decide)
  exact ⟨_, e, p, ob', rfl, h1, h2⟩
theorem cat_t {xs ys : List PyData} (hl : xs.length + ys.length ≤ sizeLine) : addA (.d (.tuple xs)) (.d (.tuple ys)) S = some (.d (.tuple (xs ++ ys)), S) := by
  simp [addA, addD, hl]
theorem lstB_any {ws : List W} (hl : ws.length ≤ sizeLine) : lstB ws S = some (.loc S.length, S ++ [.lst ws]) := by simp [lstB, hl]
theorem fnA_app {k w w' : Nat} {xs ys : List PyData} (h : FnA k w xs) (h2 : FnA k w' ys) : FnA k (w + w') (xs ++ ys) := ⟨fun x hx => by
    rcases List.mem_append.mp hx with hx | hx
    · exact h.fn x hx
    · exact h2.fn x hx, fun x hx => by
    rcases List.mem_append.mp hx with hx | hx
    · exact h.dp x hx
    · exact h2.dp x hx, by rw [wA_append]; have := h.wt; have := h2.wt; omega⟩
theorem FnA.up {k w k' w' : Nat} {ds : List PyData} (h : FnA k w ds) (a : k ≤ k') (b : w ≤ w') : FnA k' w' ds := ⟨h.fn, fun x hx => Nat.le_trans (h.dp x hx) a, Nat.le_trans h.wt b⟩
end
end KB
noncomputable section
namespace K11
open PySem PySem.Spec PyProof.Rows L2 DL K17 K62 KH KJ KB
theorem q_bag : K11.f_l_bag = fBag := rfl
theorem q_take : K11.f_l_take = fTake := rfl
theorem q_some : K11.f_l_some = fSome := rfl
theorem q_alike : K11.f_l_alike = fAlike := rfl
theorem q_place : K11.f_l_place = K17.f_l_place := rfl
theorem q_odd : K11.f_l_odd = KB.f_l_odd := rfl
theorem q_bent : K11.f_l_bent 16 = KB.f_l_bent 16 := rfl
theorem q_int : K11.f_is_integer = KB.f_is_integer := rfl
theorem q_isp : K11.f_is_place = KB.f_is_place := rfl
theorem q_isb : K11.f_is_bench = KB.f_is_bench := rfl
theorem q_lisp : K11.f_l_is_place = KB.f_l_is_place := rfl
theorem q_lisb : K11.f_l_is_bench = KB.f_l_is_bench := rfl
section
variable {S : Sto}
theorem isBD_tt : isBD true (.d (.bool true)) (.d (.bool true)) S = some (.d (.bool false), S) := rfl
theorem isi_dir {i : Nat} {x : PyData} {ρ : DEnv} (h : ρ[i]? = some (some (.d x))) : Wp (vAndT (mIsiE "int" (mVar i)) (vNot (mIsiE "bool" (mVar i))) ρ S) fun p => p = (.d (.bool (isint x)), S) := by
  cases x <;> simp! only [Wp_vAndT, Wp_isiE, isiW_d, isi_i, isi_b, andTK_t, andTK_f, isint, h]
/-- one thing -/
theorem thing_wp {x : PyData} {k w : Nat} (hx : Fn k w x) (hk : k ≤ 64) (hw : w ≤ 300000) {e0 e1 e2 e3 e4 e5 e6 e7 e9 e10 e11 e12 e13 : Option W} :
    Wp (L_law_3 [e0, e1, e2, e3, e4, e5, e6, e7, some (.d x), e9, e10, e11, e12, e13] S) fun q => ∃ y11 y12 y13, q = (.nx, [e0, e1, e2, e3, e4, e5, e6, e7, some (.d x), e9, e10, y11, y12, y13], S) := by
  have hr : ∀ S : Sto, reprS [.d x] S = some (.d (.str x.shown), S) := fun S => by simp only [reprS, on1, hx.repr hk hw, if_true]
  have hs : Short x := ⟨k, hx.up (Nat.le_refl _) hw⟩
  have hes : ∀ (y : Str) (S : Sto), eqA true (.d (.str y)) (.d (.str y)) S = some (.d (.bool false), S) := fun y S => by simp [eqA]
  have c1 := fun S => is_place_ok (S := S) hs
  have c2 := fun S => l_is_place_okB (S := S) hs
  have s1 := fun S => is_bench_ok (S := S) hs
  have s2 := fun S => l_is_bench_okB (S := S) hs
  have i1 := fun S => isint_okB (S := S) (d := x)
  have fin : ∀ S, Wp (vAndT (mIsiE "int" (mVar 8)) (vNot (mIsiE "bool" (mVar 8))) [e0, e1, e2, e3, e4, e5, e6, e7, some (.d x), e9, e10, some (.d (.str x.shown)), some (.d (.list [.bool (placeB x), .bool (benchB x), .bool (isint x)])), e13] S) fun p => p = (.d (.bool (isint x)), S) := fun S => by
    cases x <;> simp! only [Wp_vAndT, Wp_isiE, isiW_d, isi_i, isi_b, andTK_t, andTK_f, isint]
  unfold L_law_3
  simp! only [hr, q_isp, q_isb, q_int, q_lisp, q_lisb, c1, c2, s1, s2, i1]
  refine (fin _).mono ?_
  rintro _ rfl
  simp! only [q_alike, al_b3, hr, hes]
  exact ⟨_, _, _, rfl⟩
def deep : Nat → PyData
  | 0 => .tuple []
  | n + 1 => .tuple [deep n]
theorem fn_deep : ∀ n : Nat, Fn (n + 1) n (deep n)
  | 0 => ⟨fine_t.mpr fun x h => by simp at h, by decide, by decide⟩
  | n + 1 => by
    have h := fn_deep n
    have : FnA (n + 1) (n + 1) [deep n] := ⟨fun x hx => by rw [List.mem_singleton.mp hx]; exact h.fn, fun x hx => by rw [List.mem_singleton.mp hx]; exact h.dp, by simp only [PyData.weightAll]; have := h.wt; omega⟩
    exact this.t
theorem law_true : ∀ ns : List Int, ns.length ≤ 63 → f_law [.d (.list (ns.map .int))] [] = some (.d (.bool true), []) := by
  intro ns _
  have hK : 10000000000000 < 2 ^ 1000 := Nat.lt_of_lt_of_le (by decide : 10000000000000 < 2 ^ 60) (Nat.pow_le_pow_right (by decide) (by decide))
  obtain ⟨sc, hsc⟩ : ∃ sc, PyData.list (ns.map PyData.int) = sc := ⟨_, rfl⟩
  obtain ⟨ob0, e0, hb0⟩ := bag_ok ns []
  rw [hsc] at e0 ⊢
  suffices h : Wp (b_law [some (.d sc), none, none, none, none, none, none, none, none, none, none, none, none, none] []) fun r => ∃ x, r.1 = .rt (.d x) ∧ x = .bool true by
    obtain ⟨⟨_, ρ', S'⟩, e, x, rfl, rfl⟩ := h
    exact runF_ret0 ⟨ρ', S', e⟩
  unfold b_law
  simp! only [q_bag, e0]
  refine ⟨_, rng1_ok (n := 4) (by decide), ?_⟩
  simp! only
  refine wp_rng (fun ρ0 S0 i ρ S => ∃ y2 y3 y4 y5 y6 y7 y8 y9 y10 y11 y12 y13 ob junk, ρ = [some (.d sc), some (.loc 0), y2, y3, y4, y5, y6, y7, y8, y9, y10, y11, y12, y13] ∧ S = ob :: junk ∧ BagOk (1000000 * i) ob) ⟨none, none, none, none, none, none, none, none, none, none, none, none, ob0, [], rfl, rfl, hb0⟩ ?_ ?_
  · rintro t _ _ ht ⟨y2, y3, y4, y5, y6, y7, y8, y9, y10, y11, y12, y13, ob1, junk, rfl, rfl, hb1⟩
    unfold L_law_4
    simp! only
    obtain ⟨v, ob2, e2, v0, v1, hb2⟩ := take_ok (S := ob1 :: junk) (n := 0) (upto := 5) rfl hb1 (by omega) (by decide) (by decide)
    obtain ⟨n, rfl⟩ := Int.eq_ofNat_of_zero_le v0
    have hr : ∀ S : Sto, rng1D [.d (.int (1 + (n : Nat)))] S = some (rngD 0 (n + 1), S) := fun S => by
      rw [show (1 : Int) + (n : Nat) = ((n + 1 : Nat) : Int) by omega]
      exact rng1_ok (by omega)
    refine wp_lcJ (fun _ i acc S => ∃ ob' ps, S = ob' :: junk ∧ BagOk (1000000 * t + 100 + 100 * i) ob' ∧ acc = ps.map pl ∧ ps.length = i ∧ ∀ p ∈ ps, GoodP p) (ws := rngD 0 (n + 1)) (S1 := ob2 :: junk) (by simp! only [q_take, e2, hr]) ⟨ob2, [], rfl, hb2.up (by omega), rfl, rfl, fun x h => (by simp at h)⟩ ?_ ?_
    · rintro j w acc _ hw ⟨ob3, ps, rfl, hb3, rfl, hl, hps⟩
      have hj : j < n + 1 := by
        have := (List.getElem?_eq_some_iff.mp hw).1
        simpa [rngD] using this
      simp! only [q_place]
      refine .inl ((place_w (n := 0) rfl hb3 (by omega)).mono ?_)
      rintro _ ⟨p, ob4, rfl, hp, hb4⟩
      refine ⟨_, rfl, ob4, ps ++ [p], rfl, hb4.up (by omega), by simp, by simp [hl], fun q hq => ?_⟩
      rcases List.mem_append.mp hq with hq | hq
      · exact hps q hq
      · rw [List.mem_singleton.mp hq]; exact hp
    rintro _ _ ⟨ob3, ps, rfl, hb3, rfl, hl, hps⟩
    have hln : ps.length = n + 1 := by simpa [rngD] using hl
    have hn5 : ps.length ≤ 5 := by omega
    refine ⟨by rw [List.length_map]; exact sz_of (by omega), ?_⟩
    obtain ⟨p0, pt, rfl⟩ : ∃ p0 pt, ps = p0 :: pt := by
      cases ps with
      | nil => simp at hln
      | cons p0 pt => exact ⟨p0, pt, rfl⟩
    have hfb := fn_bn hps hn5
    have hfA : FnA 3 10455 ((p0 :: pt).map pl) := Fn.it hfb
    have hp0 : ∀ S : Sto, ixY (.d (.list ((p0 :: pt).map pl))) (.d (.int 0)) S = some (.d (pl p0), S) := fun S => ixY_lst0
    simp! only [hp0, q_odd]
    refine (odd_wp (m := 0) rfl hb3 (by omega)).mono ?_
    rintro _ ⟨x4, ob4, rfl, hb4, hx4⟩
    simp! only [q_place]
    refine (place_w (n := 0) rfl hb4 (by omega)).mono ?_
    rintro _ ⟨p1, ob5, rfl, hp1, hb5⟩
    obtain ⟨bt, hbt⟩ : ∃ bt, (p0 :: pt).map pl = bt := ⟨_, rfl⟩
    have hbl : bt.length ≤ 5 := by rw [← hbt, List.length_map]; exact hn5
    simp only [List.map_cons] at hbt
    simp! only [hbt]
    have hfA2 : FnA 3 10455 bt := by rw [← hbt]; exact hfA
    have hft : Fn 4 10455 (.tuple bt) := hfA2.t
    have hfp1 : FnA 2 2090 [.int (p1.1 : Nat), .tuple (p1.2.map mv)] := Fn.it (fn_pl hp1)
    have hc1 : ∀ S : Sto, addA (.d (.tuple bt)) (.d (pl p1)) S = some (.d (.tuple (bt ++ [.int (p1.1 : Nat), .tuple (p1.2.map mv)])), S) := fun S => cat_t (sz_of (by simp only [List.length_cons, List.length_nil]; omega))
    have f0 : ∀ i : Int, i.natAbs < 10 ^ 3 → FnA 1 20 [.int i, .tuple []] := fun i hi => ⟨fun x hx => by
        simp only [List.mem_cons, List.not_mem_nil, or_false] at hx
        rcases hx with rfl | rfl
        · exact (Fn_i hi).fn
        · exact (fn_deep 0).fn, fun x hx => by
        simp only [List.mem_cons, List.not_mem_nil, or_false] at hx
        rcases hx with rfl | rfl
        · exact Nat.le_trans (Fn_i hi).dp (by decide)
        · exact (fn_deep 0).dp, by
        have := (Fn_i hi).wt
        simp only [PyData.weightAll]
        have h0 : (PyData.tuple []).weight = 0 := rfl
        omega⟩
    have hT : ∀ x ∈ [PyData.tuple bt, pl p0, PyData.list bt, x4, .tuple (bt ++ [.int (p1.1 : Nat), .tuple (p1.2.map mv)]), .tuple [.int 1, .tuple []], .tuple [.int 2, .tuple []], .tuple [.int 7, .tuple []]], Fn 61 50000 x := fun x hx => by
      simp only [List.mem_cons, List.not_mem_nil, or_false] at hx
      rcases hx with rfl | rfl | rfl | rfl | rfl | rfl | rfl | rfl
      · exact hft.up (by omega) (by omega)
      · exact (fn_pl (hps _ (by simp))).up (by omega) (by omega)
      · exact hfA2.l.up (by omega) (by omega)
      · exact hx4.up (by omega) (by omega)
      · exact (fnA_app hfA2 (hfp1.up (by omega) (Nat.le_refl _))).t.up (by omega) (by omega)
      · exact (f0 1 (by decide)).t.up (by omega) (by omega)
      · exact (f0 2 (by decide)).t.up (by omega) (by omega)
      · exact (f0 7 (by decide)).t.up (by omega) (by omega)
    rw [hc1, Wp_some]
    rw [show [W.d (PyData.tuple bt), W.d (pl p0), W.d (PyData.list bt), W.d x4, W.d (.tuple (bt ++ [.int (p1.1 : Nat), .tuple (p1.2.map mv)])), W.d (PyData.tuple [PyData.int 1, PyData.tuple []]), W.d (PyData.tuple [PyData.int 2, PyData.tuple []]), W.d (PyData.tuple [PyData.int 7, PyData.tuple []])] = ([PyData.tuple bt, pl p0, PyData.list bt, x4, .tuple (bt ++ [.int (p1.1 : Nat), .tuple (p1.2.map mv)]), .tuple [.int 1, .tuple []], .tuple [.int 2, .tuple []], .tuple [.int 7, .tuple []]] : List PyData).map W.d from rfl]
    have hTl : ([PyData.tuple bt, pl p0, PyData.list bt, x4, .tuple (bt ++ [.int (p1.1 : Nat), .tuple (p1.2.map mv)]), .tuple [.int 1, .tuple []], .tuple [.int 2, .tuple []], .tuple [.int 7, .tuple []]] : List PyData).length = 8 := rfl
    generalize ([PyData.tuple bt, pl p0, PyData.list bt, x4, .tuple (bt ++ [.int (p1.1 : Nat), .tuple (p1.2.map mv)]), .tuple [.int 1, .tuple []], .tuple [.int 2, .tuple []], .tuple [.int 7, .tuple []]] : List PyData) = T at hT hTl
    rw [lstB_any (by rw [List.length_map]; exact sz_of (by omega)), Wp_some]
    simp! only [q_take]
    refine (take_wp (n := 0) (upto := 4) rfl hb5 (by omega) (by decide) (by decide)).mono ?_
    rintro _ ⟨v2, ob6, rfl, v20, v21, hb6⟩
    obtain ⟨n2, rfl⟩ := Int.eq_ofNat_of_zero_le v20
    have hr56 : ∀ S : Sto, rng1D [.d (.int (56 + (n2 : Nat)))] S = some (rngD 0 (56 + n2), S) := fun S => by
      rw [show (56 : Int) + (n2 : Nat) = ((56 + n2 : Nat) : Int) by omega]
      exact rng1_ok (by omega)
    simp! only [hr56]
    refine wp_rng (fun ρ0 S0 i ρ S => ∃ z7, ρ = (ρ0.set 6 (some (.d (deep i)))).set 7 z7 ∧ S = S0) ⟨y7, rfl, rfl⟩ ?_ ?_
    · rintro j _ _ hj ⟨z7, rfl, rfl⟩
      unfold L_law_1
      simp! only
      exact ⟨_, rfl⟩
    rintro _ _ ⟨z7, rfl, rfl⟩
    have hdp : Fn 61 50000 (deep (56 + n2)) := (fn_deep _).up (by omega) (by omega)
    obtain ⟨dd, hdd⟩ : ∃ dd, deep (56 + n2) = .tuple [dd] ∧ FnA 59 59 [dd] := ⟨deep (55 + n2), by rw [show 56 + n2 = (55 + n2) + 1 by omega]; rfl, ⟨fun x hx => by rw [List.mem_singleton.mp hx]; exact (fn_deep _).fn, fun x hx => by rw [List.mem_singleton.mp hx]; exact Nat.le_trans (fn_deep _).dp (by omega), by simp only [PyData.weightAll]; have := (fn_deep (55 + n2)).wt; omega⟩⟩
    rw [hdd.1] at hdp ⊢
    have hcat : ∀ (xs : List PyData) (S : Sto), xs.length ≤ 10 → addA (.d (.tuple bt)) (.d (.tuple xs)) S = some (.d (.tuple (bt ++ xs)), S) := fun xs S hx => cat_t (sz_of (by omega))
    simp! only [hcat]
    have hE : ∀ x ∈ [PyData.tuple [PyData.tuple [.int 1, .tuple []]], .tuple (bt ++ [PyData.tuple [.int 2, .tuple []]]), .tuple (bt ++ [PyData.tuple [.int 7, .tuple []]]), .tuple [dd], .tuple (bt ++ [dd])], Fn 61 50000 x := fun x hx => by
      have g0 : ∀ i : Int, i.natAbs < 10 ^ 3 → FnA 2 40 [PyData.tuple [.int i, .tuple []]] := fun i hi => by
        have := (f0 i hi).t
        exact ⟨fun x hx => by rw [List.mem_singleton.mp hx]; exact this.fn, fun x hx => by rw [List.mem_singleton.mp hx]; exact this.dp, by simp only [PyData.weightAll]; have := this.wt; omega⟩
      simp only [List.mem_cons, List.not_mem_nil, or_false] at hx
      rcases hx with rfl | rfl | rfl | rfl | rfl
      · exact (g0 1 (by decide)).t.up (by omega) (by omega)
      · exact (fnA_app hfA2 ((g0 2 (by decide)).up (by omega) (Nat.le_refl _))).t.up (by omega) (by omega)
      · exact (fnA_app hfA2 ((g0 7 (by decide)).up (by omega) (Nat.le_refl _))).t.up (by omega) (by omega)
      · exact hdp
      · exact (fnA_app (hfA2.up (by omega) (Nat.le_refl _)) hdd.2).t.up (by omega) (by omega)
    have hEl : ([PyData.tuple [PyData.tuple [.int 1, .tuple []]], .tuple (bt ++ [PyData.tuple [.int 2, .tuple []]]), .tuple (bt ++ [PyData.tuple [.int 7, .tuple []]]), .tuple [dd], .tuple (bt ++ [dd])] : List PyData).length = 5 := rfl
    generalize ([PyData.tuple [PyData.tuple [.int 1, .tuple []]], .tuple (bt ++ [PyData.tuple [.int 2, .tuple []]]), .tuple (bt ++ [PyData.tuple [.int 7, .tuple []]]), .tuple [dd], .tuple (bt ++ [dd])] : List PyData) = Ee at hE hEl
    have hset : ∀ (o x y : Ob), (o :: (junk ++ [x])).set (junk.length + 1) y = o :: (junk ++ [y]) := fun o x y => by simp
    have hget : ∀ (o x : Ob), (o :: (junk ++ [x]))[junk.length + 1]? = some x := fun o x => by simp
    refine wp_extend (us := T.map W.d) (by simp) (by rw [List.length_map]; exact sz_of (by omega)) ?_
    have hr8 : ∀ S : Sto, rng1D [.d (.int 8)] S = some (rngD 0 8, S) := fun S => rng1_ok (n := 8) (by decide)
    simp only [hset, ← List.map_append]
    have hT2 : ∀ x ∈ T ++ Ee, Fn 61 50000 x := fun x hx => by
      rcases List.mem_append.mp hx with hx | hx
      · exact hT x hx
      · exact hE x hx
    have hTl2 : (T ++ Ee).length = 13 := by rw [List.length_append, hTl, hEl]
    generalize T ++ Ee = T2 at hT2 hTl2
    obtain ⟨pz, hpz, hlast⟩ : ∃ pz ∈ bt, ∀ S : Sto, ixY (.d (.list bt)) (.d (.int (-1))) S = some (.d pz, S) := by
      have hne : bt ≠ [] := by rw [← hbt]; simp
      refine ⟨bt.getLast hne, List.getLast_mem hne, fun S => ?_⟩
      have := at_last bt.dropLast (bt.getLast hne)
      rw [List.dropLast_concat_getLast] at this
      simp [ixY, isN, ixX, isDicA, isDic, idxD, this]
    have hp0b : ∀ S : Sto, ixY (.d (.list bt)) (.d (.int 0)) S = some (.d (pl p0), S) := fun S => by rw [← hbt]; exact ixY_lst0
    have hp0m : pl p0 ∈ bt := by rw [← hbt]; simp
    have hbtm : ∀ x ∈ bt, Fn 4 10455 x := fun x hx => ⟨hfA2.fn x hx, Nat.le_trans (hfA2.dp x hx) (by omega), by have := wA_mem hx; have := hfA2.wt; omega⟩
    simp! only [hr8]
    refine wp_rng (fun ρ0 S0 i ρ S => ∃ z7 z10 ob' ts, ρ = (ρ0.set 7 z7).set 10 z10 ∧ S = ob' :: (junk ++ [Ob.lst (ts.map W.d)]) ∧ BagOk (1000000 * t + 10000 + 1000 * i) ob' ∧ ts.length = 13 + i ∧ ∀ x ∈ ts, Fn 61 50000 x) ⟨z7, y10, ob6, T2, rfl, rfl, hb6.up (by omega), hTl2, hT2⟩ ?_ ?_
    · rintro j _ _ hj ⟨u7, u10, ob7, ts, rfl, rfl, hb7, htl, hts⟩
      unfold L_law_2
      simp! only [hp0b, hlast, q_some]
      refine (some_wp (n := 0) (xs := [PyData.tuple bt, pl p0, .tuple bt, pz]) rfl hb7 (by omega) (by simp) (by simp only [List.length_cons, List.length_nil]; decide)).mono ?_
      rintro _ ⟨x, ob8, rfl, hx, hb8⟩
      have hfx : Fn 4 10455 x := by
        simp only [List.mem_cons, List.not_mem_nil, or_false] at hx
        rcases hx with rfl | rfl | rfl | rfl
        · exact hft
        · exact hbtm _ hp0m
        · exact hft
        · exact hbtm _ hpz
      simp! only [q_bent]
      refine (bent_wp 15 (m := 0) hfx (by omega) (by omega) rfl hb8 (by omega)).mono ?_
      rintro _ ⟨y, ob9, rfl, hb9, hy⟩
      simp! only [q_take]
      refine (take_wp (n := 0) (upto := 3) rfl hb9 (by omega) (by decide) (by decide)).mono ?_
      rintro _ ⟨v3, ob10, rfl, v30, v31, hb10⟩
      have app : ∀ {ob' : Ob} {z : PyData}, BagOk (1000000 * t + 10000 + 1000 * (j + 1)) ob' → Fn 61 50000 z → Wp (appendF (.loc (junk.length + 1)) [.d z] (ob' :: (junk ++ [Ob.lst (ts.map W.d)]))) fun p => ∃ ts' : List PyData, p.2 = ob' :: (junk ++ [Ob.lst (ts'.map W.d)]) ∧ ts'.length = 13 + (j + 1) ∧ ∀ x ∈ ts', Fn 61 50000 x := fun {ob' z} h1 h2 => by
        refine wp_append (us := ts.map W.d) (by simp) (by rw [List.length_map]; exact lt_sz (by omega)) ?_
        refine ⟨ts ++ [z], by simp, by simp; omega, fun x hx => ?_⟩
        rcases List.mem_append.mp hx with hx | hx
        · exact hts x hx
        · rw [List.mem_singleton.mp hx]; exact h2
      by_cases h3 : v3 = 0
      · subst h3
        simp! only [decide_true, q_bent]
        refine (bent_wp 15 (m := 0) hy (by omega) (by omega) rfl hb10 (by omega)).mono ?_
        rintro _ ⟨z, ob11, rfl, hb11, hz⟩
        have hb12 : BagOk (1000000 * t + 10000 + 1000 * (j + 1)) ob11 := hb11.up (by omega)
        refine (app hb12 (hz.up (by omega) (by omega))).mono ?_
        rintro ⟨_, _⟩ ⟨ts', rfl, h1, h2⟩
        exact ⟨_, _, ob11, ts', rfl, rfl, hb12, h1, h2⟩
      · have e3 : decide (v3 = 0) = false := by simp [h3]
        simp! only [e3]
        have hb12 : BagOk (1000000 * t + 10000 + 1000 * (j + 1)) ob10 := hb10.up (by omega)
        refine (app hb12 (hy.up (by omega) (by omega))).mono ?_
        rintro ⟨_, _⟩ ⟨ts', rfl, h1, h2⟩
        exact ⟨_, _, ob10, ts', rfl, rfl, hb12, h1, h2⟩
    rintro _ _ ⟨u7, u10, ob7, ts, rfl, rfl, hb7, htl, hts⟩
    have hsb : Short (.tuple bt) := ⟨4, hft.up (by omega) (by omega)⟩
    have hsp : Short (pl p0) := ⟨4, (hbtm _ hp0m).up (by omega) (by omega)⟩
    have hb1' : benchB (.tuple bt) = true := by rw [← hbt]; exact benchB_bn (l := p0 :: pt) hps (by simp)
    have hp1' : placeB (pl p0) = true := placeB_pl (hps _ (by simp))
    have kb := fun S => is_bench_ok (S := S) hsb
    have kp := fun S => is_place_ok (S := S) hsp
    rw [hb1'] at kb
    rw [hp1'] at kp
    rw [seqK_nx]
    simp! only [hget, fzO_ok, frzO_l, hset]
    rw [show ts.map W.d = (ts.map fun x => x).map W.d by rw [List.map_id']]
    refine wp_forE (l := ts) (enc := fun x => x) (fun ρ0 S0 i ρ S => ∃ z8 z11 z12 z13, ρ = (((ρ0.set 8 z8).set 11 z11).set 12 z12).set 13 z13 ∧ S = S0) ⟨y8, y11, y12, y13, rfl, rfl⟩ ?_ ?_
    · rintro j x _ _ hx ⟨z8, z11, z12, z13, rfl, rfl⟩
      simp! only
      refine (thing_wp (hts x (List.mem_of_getElem? hx)) (by omega) (by omega)).mono ?_
      rintro _ ⟨u11, u12, u13, rfl⟩
      exact ⟨rfl, _, _, _, _, rfl, rfl⟩
    rintro _ _ ⟨z8, z11, z12, z13, rfl, rfl⟩
    have hpw : ∀ S : Sto, powD (.d (.int 10)) (.d (.int 39)) S = some (.d (.int (10 ^ 39)), S) := fun S => rfl
    simp! only [q_isb, q_isp, kb, kp, hp0b, isBD_tt, q_take, hpw]
    refine (take_wp (n := 0) (upto := 99) rfl hb7 (by omega) (by decide) (by decide)).mono ?_
    rintro _ ⟨v9, ob8, rfl, v90, v91, hb8⟩
    simp! only [q_some]
    refine (some_wp (n := 0) rfl hb8 (by omega) (by simp) ?_).mono ?_
    · simp only [List.length_cons, List.length_nil]; decide
    rintro _ ⟨x9, ob9, rfl, _, hb9⟩
    simp! only [q_int, isint_okB]
    refine (isi_dir (x := x9) rfl).mono ?_
    rintro _ rfl
    simp! only [q_alike, al_b]
    exact ⟨_, _, _, _, _, _, _, _, _, _, _, _, ob9, _, rfl, rfl, hb9.up (by omega)⟩
  · rintro _ _ ⟨y2, y3, y4, y5, y6, y7, y8, y9, y10, y11, y12, y13, ob1, junk, rfl, rfl, hb1⟩
    simp! only
    exact ⟨_, rfl, rfl⟩
end
end K11
open PySem PySem.Spec PyProof.Rows L2
theorem PySem.Challenge.cw_onorback_k11_places_and_benches_judged_holds : PySem.Challenge.rw_onorback_k11_places_and_benches_judged.Holds := by
  w_on; o_law; k_head; (case hw => w_witness2)
  k_fill
  refine DL.walkT (x := "_law_script") (l := PySem.Challenge.rw_onorback_k11_places_and_benches_judged) (f := K11.f_law) (k := 20) rfl (by decide) rfl ⟨rfl, by decide, by decide⟩ (fun w h Y => ⟨PySem.W.km_in_of Y, PySem.W.km_tabs_of Y⟩) ?F ?hf
  case F =>
    intro w mg fa h KX G hmg
    refine' K11.all_mk KX G hmg ?a_is_integer ?l_is_integer ?k_is_integer ?p_is_integer ?a_is_ascending ?l_is_ascending ?k_is_ascending ?p_is_ascending ?a_l_bag ?l_l_bag ?k_l_bag ?p_l_bag ?a_l_take ?l_l_take ?k_l_take ?p_l_take ?a_l_alike ?l_l_alike ?k_l_alike ?p_l_alike ?a_l_is_int ?l_l_is_int ?k_l_is_int ?p_l_is_int ?a_l_rises ?l_l_rises ?k_l_rises ?p_l_rises ?a_l_flat ?l_l_flat ?k_l_flat ?p_l_flat ?a_is_move ?l_is_move ?k_is_move ?p_is_move ?a_l_some ?l_l_some ?k_l_some ?p_l_some ?a_l_mixed ?l_l_mixed ?k_l_mixed ?p_l_mixed ?a_l_is_place ?l_l_is_place ?k_l_is_place ?p_l_is_place ?a_l_place ?l_l_place ?k_l_place ?p_l_place ?a_l_is_bench ?l_l_is_bench ?k_l_is_bench ?p_l_is_bench ?a_l_odd ?l_l_odd ?k_l_odd ?p_l_odd ?a_is_place ?l_is_place ?k_is_place ?p_is_place ?ta_is_place ?tp_is_place ?th_is_place ?ti_is_place ?a_is_bench ?l_is_bench ?k_is_bench ?p_is_bench ?a_l_bent ?l_l_bent ?k_l_bent ?p_l_bent ?a_law ?l_law ?k_law ?p_law ?nt ?un ?z_abs ?z_all ?z_bool ?z_int ?z_isinstance ?z_len ?z_list ?z_range ?z_repr ?z_sorted ?z_tuple ?z_zip
    (case a_is_integer => k_is)
    (case l_is_integer => k_is)
    (case k_is_integer => k_is)
    (case p_is_integer => k_is)
    (case a_is_ascending => k_is)
    (case l_is_ascending => k_is)
    (case k_is_ascending => k_is)
    (case p_is_ascending => k_is)
    (case a_l_bag => k_is)
    (case l_l_bag => k_is)
    (case k_l_bag => k_is)
    (case p_l_bag => k_is)
    (case a_l_take => k_is)
    (case l_l_take => k_is)
    (case k_l_take => k_is)
    (case p_l_take => k_is)
    (case a_l_alike => k_is)
    (case l_l_alike => k_is)
    (case k_l_alike => k_is)
    (case p_l_alike => k_is)
    (case a_l_is_int => k_is)
    (case l_l_is_int => k_is)
    (case k_l_is_int => k_is)
    (case p_l_is_int => k_is)
    (case a_l_rises => k_is)
    (case l_l_rises => k_is)
    (case k_l_rises => k_is)
    (case p_l_rises => k_is)
    (case a_l_flat => k_is)
    (case l_l_flat => k_is)
    (case k_l_flat => k_is)
    (case p_l_flat => k_is)
    (case a_is_move => k_is)
    (case l_is_move => k_is)
    (case k_is_move => k_is)
    (case p_is_move => k_is)
    (case a_l_some => k_is)
    (case l_l_some => k_is)
    (case k_l_some => k_is)
    (case p_l_some => k_is)
    (case a_l_mixed => k_is)
    (case l_l_mixed => k_is)
    (case k_l_mixed => k_is)
    (case p_l_mixed => k_is)
    (case a_l_is_place => k_is)
    (case l_l_is_place => k_is)
    (case k_l_is_place => k_is)
    (case p_l_is_place => k_is)
    (case a_l_place => k_is)
    (case l_l_place => k_is)
    (case k_l_place => k_is)
    (case p_l_place => k_is)
    (case a_l_is_bench => k_is)
    (case l_l_is_bench => k_is)
    (case k_l_is_bench => k_is)
    (case p_l_is_bench => k_is)
    (case a_l_odd => k_is)
    (case l_l_odd => k_is)
    (case k_l_odd => k_is)
    (case p_l_odd => k_is)
    (case a_is_place => k_is)
    (case l_is_place => k_is)
    (case k_is_place => k_is)
    (case p_is_place => k_is)
    (case ta_is_place => k_is)
    (case tp_is_place => rfl)
    (case th_is_place => kernel_rfl)
    (case ti_is_place => decide)
    (case a_is_bench => k_is)
    (case l_is_bench => k_is)
    (case k_is_bench => k_is)
    (case p_is_bench => k_is)
    (case a_l_bent => k_is)
    (case l_l_bent => k_is)
    (case k_l_bent => k_is)
    (case p_l_bent => k_is)
    (case a_law => k_is)
    (case l_law => k_is)
    (case k_law => k_is)
    (case p_law => k_is)
    (case nt => kernel_rfl)
    (case un => decide)
    (case z_abs => k_is)
    (case z_all => k_is)
    (case z_bool => k_is)
    (case z_int => k_is)
    (case z_isinstance => k_is)
    (case z_len => k_is)
    (case z_list => k_is)
    (case z_range => k_is)
    (case z_repr => k_is)
    (case z_sorted => k_is)
    (case z_tuple => k_is)
    (case z_zip => k_is)
  case hf => exact K11.law_true
