import PyProof.Rows.All
import Wide.All
import OpenK.AllK
import Wide.FinOn
import HandS.ForMost
import HandS.Walk
import HandS.Wide
import HandS.TupAny
import HandS.TupMul
import HandS.Deep
import HandS.IsInst
import HandS.Zip
import HandS.RaiseMore
import HandS.More
import HandS.SortOrd
import HandS.Sort
import PyProof.P3Eq
import PyProof.Rows.RowHeap
import HandS.Zip0
import HandS.Style
import HandS.Dict
import PyProof.Rows.TupDisplay
import KE.DataMinMax
import KE.KDictSum
import KE.KDictCopyH
import HandS.DictComp
import HandS.Flow
import PySem.Challenge.RW_onorback_k17_least_of_the_shortest_ways
set_option Elab.async false
set_option linter.all false
set_option maxRecDepth 100000
set_option maxHeartbeats 4000000
namespace DL
open PySem PySem.Spec PyProof.Rows L2

/-- a decision that nothing computes -/
noncomputable def gd (p : Prop) : Decidable p := Classical.propDecidable p
/-- a value: data (never changed from now on), or the n-th object of the store -/
inductive W where
  | d (x : PyData)
  | loc (n : Nat)
/-- an object that may change -/
inductive Ob where
  | lst (ws : List W)
  | dicK (kvs : List (Key × W))
  | dicT (kvs : List (List Key × W))
  | dead
abbrev Sto := List Ob
abbrev DEnv := List (Option W)

/-- a list of the written part -/
def WrL (K : PySem.W.Frag) (a : Addr) (xs : List V) : Prop := SqL K (fun _ => none) a xs
def FzL (K : PySem.W.Frag) (H : Hp) (a : Addr) (xs : List V) : Prop := (∃ o, H a = some (.frz o (.lst xs))) ∨ WrL K a xs
theorem FzL.sq {K : PySem.W.Frag} {H : Hp} {a : Addr} {xs : List V} (h : FzL K H a xs) : SqL K H a xs := by
  rcases h with ⟨o, h⟩ | (h | h)
  · exact .inl (.inr ⟨o, h⟩)
  · rcases h with h | ⟨o, h⟩ <;> cases h
  · exact .inr h

/-- what never changes -/
def Imm : HO → Prop
  | .tup _ => True
  | .frz _ _ => True
  | _ => False
def Kp (H H' : Hp) : Prop := ∀ a o, H a = some o → Imm o → H' a = some o
theorem Kp.refl (H : Hp) : Kp H H := fun _ _ h _ => h
theorem Kp.trans {H H1 H2 : Hp} (a : Kp H H1) (b : Kp H1 H2) : Kp H H2 := fun c o h i => b c o (a c o h i) i
theorem FzL.mono {K : PySem.W.Frag} {H H' : Hp} {a : Addr} {xs : List V} (h : FzL K H a xs) (k : Kp H H') : FzL K H' a xs := by
  rcases h with ⟨o, h⟩ | h
  · exact .inl ⟨o, k _ _ h trivial⟩
  · exact .inr h
theorem sqT_mono {K : PySem.W.Frag} {H H' : Hp} {a : Addr} {xs : List V} (h : SqT K H a xs) (k : Kp H H') : SqT K H' a xs := by
  rcases h with (h | ⟨o, h⟩) | h
  · exact .inl (.inl (k _ _ h trivial))
  · exact .inl (.inr ⟨o, k _ _ h trivial⟩)
  · exact .inr h

/-! ### data in the heap -/
mutual
inductive Rp (K : PySem.W.Frag) (H : Hp) : V → PyData → Prop
  | non : Rp K H .non .none
  | bl (b : Bool) : Rp K H (.bl b) (.bool b)
  | int (i : Int) : Rp K H (.int i) (.int i)
  | str (x : Str) : Rp K H (.str x) (.str x)
  | lst {a : Addr} {xs : List V} {ds : List PyData} : FzL K H a xs → RpAll K H xs ds → Rp K H (.ref a) (.list ds)
  | tup {a : Addr} {xs : List V} {ds : List PyData} : H a = some (.tup xs) → RpAll K H xs ds → Rp K H (.ref a) (.tuple ds)
inductive RpAll (K : PySem.W.Frag) (H : Hp) : List V → List PyData → Prop
  | nil : RpAll K H [] []
  | cons {v : V} {vs : List V} {d : PyData} {ds : List PyData} : Rp K H v d → RpAll K H vs ds → RpAll K H (v :: vs) (d :: ds)
end
section
variable {K : PySem.W.Frag} {H H' : Hp}
mutual
theorem Rp.mono (k : Kp H H') : ∀ (d : PyData) (v : V), Rp K H v d → Rp K H' v d
  | .none, _, h => by cases h; exact .non
  | .bool _, _, h => by cases h; exact .bl _
  | .int _, _, h => by cases h; exact .int _
  | .str _, _, h => by cases h; exact .str _
  | .list ds, _, h => by
    cases h with
    | lst f r => exact .lst (f.mono k) (RpAll.mono k ds _ r)
  | .tuple ds, _, h => by
    cases h with
    | tup f r => exact .tup (k _ _ f trivial) (RpAll.mono k ds _ r)
  | .dict _, _, h => by cases h
theorem RpAll.mono (k : Kp H H') : ∀ (ds : List PyData) (vs : List V), RpAll K H vs ds → RpAll K H' vs ds
  | [], _, h => by cases h; exact .nil
  | d :: ds, _, h => by
    cases h with
    | cons h t => exact .cons (Rp.mono k d _ h) (RpAll.mono k ds _ t)
end
mutual
theorem Rp.dp : ∀ (d : PyData) (v : V), Rp K H v d → Dp K H v d
  | .none, _, h => by cases h; exact .non
  | .bool _, _, h => by cases h; exact .bl _
  | .int _, _, h => by cases h; exact .int _
  | .str _, _, h => by cases h; exact .str _
  | .list ds, _, h => by
    cases h with
    | lst f r => exact .lst f.sq (RpAll.dp ds _ r)
  | .tuple ds, _, h => by
    cases h with
    | tup f r => exact .tup (.inl (.of f)) (RpAll.dp ds _ r)
  | .dict _, _, h => by cases h
theorem RpAll.dp : ∀ (ds : List PyData) (vs : List V), RpAll K H vs ds → DpAll K H vs ds
  | [], _, h => by cases h; exact .nil
  | d :: ds, _, h => by
    cases h with
    | cons h t => exact .cons (Rp.dp d _ h) (RpAll.dp ds _ t)
end
theorem RpAll.length : ∀ {ds : List PyData} {vs : List V}, RpAll K H vs ds → vs.length = ds.length
  | _, _, .nil => rfl
  | _, _, .cons _ t => by simp [RpAll.length t]
theorem RpAll.get : ∀ {ds : List PyData} {vs : List V} {i : Nat} {d : PyData}, RpAll K H vs ds → ds[i]? = some d → ∃ v, vs[i]? = some v ∧ Rp K H v d
  | _, _, _, _, .nil, e => by simp at e
  | _, _, 0, _, .cons r _, e => by simp at e; subst e; exact ⟨_, rfl, r⟩
  | _, _, i + 1, d, .cons _ t, e => by
    obtain ⟨v, h1, h2⟩ := RpAll.get (i := i) (d := d) t (by simpa using e)
    exact ⟨v, by simpa using h1, h2⟩
theorem RpAll.append : ∀ {ds es : List PyData} {vs us : List V}, RpAll K H vs ds → RpAll K H us es → RpAll K H (vs ++ us) (ds ++ es)
  | _, _, _, _, .nil, s => s
  | _, _, _, _, .cons r t, s => .cons r (RpAll.append t s)
theorem RpAll.take : ∀ {ds : List PyData} {vs : List V} (n : Nat), RpAll K H vs ds → RpAll K H (vs.take n) (ds.take n)
  | _, _, 0, _ => .nil
  | _, _, _ + 1, .nil => .nil
  | _, _, n + 1, .cons r t => .cons r (RpAll.take n t)
theorem RpAll.drop : ∀ {ds : List PyData} {vs : List V} (n : Nat), RpAll K H vs ds → RpAll K H (vs.drop n) (ds.drop n)
  | _, _, 0, r => r
  | _, _, _ + 1, .nil => .nil
  | _, _, n + 1, .cons _ t => RpAll.drop n t
end

/-! ### values and objects of the store -/
/-- W in the heap, m telling where the store's objects stand -/
def RW (K : PySem.W.Frag) (m : List Addr) (H : Hp) (v : V) : W → Prop
  | .d x => Rp K H v x
  | .loc n => ∃ a, m[n]? = some a ∧ v = .ref a
def RO (K : PySem.W.Frag) (m : List Addr) (H : Hp) (a : Addr) : Ob → Prop
  | .lst ws => ∃ vs, H a = some (.lst vs) ∧ Paired (RW K m H) vs ws
  | .dicK kvs => ∃ us, H a = some (.dK us) ∧ Paired (fun (p : Key × V) (q : Key × W) => p.1 = q.1 ∧ RW K m H p.2 q.2) us kvs
  | .dicT kvs => ∃ us, H a = some (.dT us) ∧ Paired (fun (p : List Key × V) (q : List Key × W) => p.1 = q.1 ∧ RW K m H p.2 q.2) us kvs
  | .dead => ∃ o, H a = some o
structure Sim (K : PySem.W.Frag) (m : List Addr) (S : Sto) (ρ : DEnv) (σ : L2.St) (H : Hp) : Prop where
  slot : ∀ (i : Nat) (w : W), ρ[i]? = some (some w) → ∃ v, σ[i]? = some (some v) ∧ RW K m H v w
  len : m.length = S.length
  nd : m.Nodup
  obs : ∀ (n : Nat) (ob : Ob), S[n]? = some ob → ∃ a, m[n]? = some a ∧ RO K m H a ob
  rl : ρ.length ≤ σ.length
/-- what stood ahead stands, but for the objects at m -/
def Fr (m : List Addr) (H H' : Hp) : Prop := ∀ a o, H a = some o → (a ∉ m ∨ Imm o) → H' a = some o
def Fresh (ext : List Addr) (H : Hp) : Prop := ∀ a ∈ ext, H a = none

section
variable {K : PySem.W.Frag} {H H1 H2 : Hp} {m ext : List Addr} {S : Sto} {ρ : DEnv} {σ : L2.St}
theorem Fr.kp (f : Fr m H H1) : Kp H H1 := fun a o h i => f a o h (.inr i)
theorem Fr.refl : Fr m H H := fun _ _ h _ => h
theorem Fr.trans (f : Fr m H H1) (fr : Fresh ext H) (g : Fr (m ++ ext) H1 H2) : Fr m H H2 := fun a o h c => by
  have h1 := f a o h c
  refine g a o h1 ?_
  rcases c with c | c
  · refine .inl fun q => ?_
    rcases List.mem_append.mp q with q | q
    · exact c q
    · rw [fr a q] at h; cases h
  · exact .inr c
theorem Sim.mem (q : Sim K m S ρ σ H) {a : Addr} (h : a ∈ m) : ∃ o, H a = some o := by
  obtain ⟨n, hn, e⟩ := List.getElem_of_mem h
  have hs : n < S.length := by rw [← q.len]; exact hn
  obtain ⟨b, hb, r⟩ := q.obs n S[n] (List.getElem?_eq_getElem hs)
  have eb : a = b := by
    rw [List.getElem?_eq_getElem hn] at hb
    exact e.symm.trans (Option.some.inj hb)
  subst eb
  cases h2 : S[n] with
  | lst ws => rw [h2] at r; obtain ⟨vs, r, _⟩ := r; exact ⟨_, r⟩
  | dicK ws => rw [h2] at r; obtain ⟨vs, r, _⟩ := r; exact ⟨_, r⟩
  | dicT ws => rw [h2] at r; obtain ⟨vs, r, _⟩ := r; exact ⟨_, r⟩
  | dead => rw [h2] at r; exact r
theorem Sim.nomem (q : Sim K m S ρ σ H) {a : Addr} (h : H a = none) : a ∉ m := fun c => by
  obtain ⟨o, e⟩ := q.mem c
  rw [h] at e; cases e
theorem Fresh.append {e2 : List Addr} (a : Fresh ext H) (f : Fr m H H1) (q : Sim K (m ++ ext) S ρ σ H1) (hm : Fresh e2 H1) : Fresh (ext ++ e2) H := fun b hb => by
  rcases List.mem_append.mp hb with c | c
  · exact a b c
  · cases e : H b with
    | none => rfl
    | some o =>
      have n1 := hm b c
      have nm : b ∉ m := fun z => q.nomem n1 (List.mem_append_left _ z)
      rw [f b o e (.inl nm)] at n1; cases n1
theorem RW.mono {v : V} {w : W} (r : RW K m H v w) (k : Kp H H1) : RW K (m ++ ext) H1 v w := by
  cases w with
  | d x => exact Rp.mono k x v r
  | loc n =>
    obtain ⟨a, h, e⟩ := r
    exact ⟨a, by rw [List.getElem?_append_left (List.getElem?_eq_some_iff.mp h).1]; exact h, e⟩
theorem RW.mono0 {v : V} {w : W} (r : RW K m H v w) (k : Kp H H1) : RW K m H1 v w := by
  have := RW.mono (ext := []) r k
  rwa [List.append_nil] at this
theorem pRW.mono {vs : List V} {ws : List W} (r : Paired (RW K m H) vs ws) (k : Kp H H1) : Paired (RW K (m ++ ext) H1) vs ws :=
  Paired.mapP r fun _ _ h => h.mono k
theorem RO.mono {a : Addr} {ob : Ob} (r : RO K m H a ob) (k : Kp H H1) (e : ∀ o, H a = some o → H1 a = some o) : RO K (m ++ ext) H1 a ob := by
  cases ob with
  | lst ws => obtain ⟨vs, h, p⟩ := r; exact ⟨vs, e _ h, pRW.mono p k⟩
  | dicK ws => obtain ⟨vs, h, p⟩ := r; exact ⟨vs, e _ h, Paired.mapP p fun _ _ q => ⟨q.1, q.2.mono k⟩⟩
  | dicT ws => obtain ⟨vs, h, p⟩ := r; exact ⟨vs, e _ h, Paired.mapP p fun _ _ q => ⟨q.1, q.2.mono k⟩⟩
  | dead => obtain ⟨o, h⟩ := r; exact ⟨o, e o h⟩
/-- nothing tracked is lost: the simulation stands -/
theorem Sim.same (q : Sim K m S ρ σ H) (k : ∀ a o, H a = some o → H1 a = some o) : Sim K m S ρ σ H1 := by
  have kp : Kp H H1 := fun a o h _ => k a o h
  refine ⟨fun i w e => ?_, q.len, q.nd, fun n ob e => ?_, q.rl⟩
  · obtain ⟨v, h, r⟩ := q.slot i w e
    exact ⟨v, h, r.mono0 kp⟩
  · obtain ⟨a, h, r⟩ := q.obs n ob e
    have := RO.mono (ext := []) r kp (k a)
    rw [List.append_nil] at this
    exact ⟨a, h, this⟩
/-- one object more -/
theorem Sim.push {a : Addr} {ob : Ob} (q : Sim K m S ρ σ H) (k : ∀ a o, H a = some o → H1 a = some o) (hn : H a = none) (r : RO K (m ++ [a]) H1 a ob) : Sim K (m ++ [a]) (S ++ [ob]) ρ σ H1 := by
  have kp : Kp H H1 := fun a o h _ => k a o h
  have nm := q.nomem hn
  refine ⟨fun i w e => ?_, by simp [q.len], ?_, fun n o e => ?_, q.rl⟩
  · obtain ⟨v, h, r⟩ := q.slot i w e
    exact ⟨v, h, r.mono kp⟩
  · rw [List.nodup_append]
    refine ⟨q.nd, by simp, fun x hx y hy e => ?_⟩
    have ey : y = a := by simpa using hy
    exact nm (by rw [← ey, ← e]; exact hx)
  · by_cases hlt : n < S.length
    · rw [List.getElem?_append_left hlt] at e
      obtain ⟨b, h, r⟩ := q.obs n o e
      refine ⟨b, ?_, RO.mono r kp (k b)⟩
      rw [List.getElem?_append_left (by rw [q.len]; exact hlt)]; exact h
    · have h2 : n < (S ++ [ob]).length := (List.getElem?_eq_some_iff.mp e).1
      have en : n = S.length := by simp at h2; omega
      subst en
      have eo : ob = o := by simpa using e
      subst eo
      refine ⟨a, ?_, r⟩
      rw [List.getElem?_append_right (by rw [q.len]; exact Nat.le_refl _), q.len]; simp
/-- an object changed -/
theorem Sim.put {a : Addr} {n : Nat} {ob : Ob} {o : HO} (q : Sim K m S ρ σ H) (hm : m[n]? = some a) (k : ∀ u, H a = some u → ¬ Imm u) (hn : n < S.length) (r : RO K m (upd H a o) a ob) : Sim K m (S.set n ob) ρ σ (upd H a o) := by
  have kp : Kp H (upd H a o) := fun b u h i => by
    by_cases e : b = a
    · subst e; exact absurd i (k _ h)
    · rw [upd_ne e]; exact h
  refine ⟨fun i w e => ?_, by simp [q.len], q.nd, fun j ob' e => ?_, q.rl⟩
  · obtain ⟨v, h, r⟩ := q.slot i w e
    exact ⟨v, h, r.mono0 kp⟩
  · by_cases hj : j = n
    · subst hj
      rw [List.getElem?_set_self hn] at e
      cases e
      exact ⟨a, hm, r⟩
    · rw [List.getElem?_set_ne (Ne.symm hj)] at e
      obtain ⟨b, h, r'⟩ := q.obs j ob' e
      refine ⟨b, h, ?_⟩
      have hb : b ≠ a := fun z => by
        subst z
        obtain ⟨h1, e1⟩ := List.getElem?_eq_some_iff.mp h
        obtain ⟨h2, e2⟩ := List.getElem?_eq_some_iff.mp hm
        exact hj ((List.getElem_inj q.nd).mp (e1.trans e2.symm))
      have := RO.mono (ext := []) r' kp (fun u hu => by rw [upd_ne hb]; exact hu)
      rw [List.append_nil] at this
      exact this
theorem Sim.slotset {v : V} {w : W} {i : Nat} (q : Sim K m S ρ σ H) (r : RW K m H v w) : Sim K m S (ρ.set i (some w)) (σ.set i (some v)) H := by
  have hl := q.rl
  refine ⟨fun j w' e => ?_, q.len, q.nd, q.obs, by simpa using q.rl⟩
  by_cases hj : i = j
  · subst hj
    have hi : i < ρ.length := by
      have := (List.getElem?_eq_some_iff.mp e).1
      simpa using this
    rw [List.getElem?_set_self hi] at e
    cases e
    exact ⟨v, by rw [List.getElem?_set_self (by omega)], r⟩
  · rw [List.getElem?_set_ne hj] at e
    obtain ⟨v', h, r'⟩ := q.slot j w' e
    exact ⟨v', by rw [List.getElem?_set_ne hj]; exact h, r'⟩
end

/-! ### readings -/
/-- what is to be shown behind an expression that gives w and the store S' -/
def Post (K : PySem.W.Frag) (m : List Addr) (S' : Sto) (ρ : DEnv) (σ : L2.St) (H : Hp) (w : W) (Q : VK) : Prop :=
  ∀ ext H' v, Fresh ext H → Sim K (m ++ ext) S' ρ σ H' → Fr m H H' → RW K (m ++ ext) H' v w → Q v H'
abbrev ME := DEnv → Sto → Option (W × Sto)
def rdE (K : PySem.W.Frag) (f : ME) : TE := fun σ H Q => ∃ m S ρ w S', Sim K m S ρ σ H ∧ f ρ S = some (w, S') ∧ Post K m S' ρ σ H w Q
def PostB (K : PySem.W.Frag) (m : List Addr) (S' : Sto) (ρ : DEnv) (σ : L2.St) (H : Hp) (b : Bool) (Q : Bool → Hp → Prop) : Prop :=
  ∀ ext H', Fresh ext H → Sim K (m ++ ext) S' ρ σ H' → Fr m H H' → Q b H'
abbrev MT := DEnv → Sto → Option (Bool × Sto)
def rdT (K : PySem.W.Frag) (f : MT) : TT := fun σ H Q => ∃ m S ρ b S', Sim K m S ρ σ H ∧ f ρ S = some (b, S') ∧ PostB K m S' ρ σ H b Q
def PostL (K : PySem.W.Frag) (m : List Addr) (S' : Sto) (ρ : DEnv) (σ : L2.St) (H : Hp) (ws : List W) (Q : List V → Hp → Prop) : Prop :=
  ∀ ext H' vs, Fresh ext H → Sim K (m ++ ext) S' ρ σ H' → Fr m H H' → Paired (RW K (m ++ ext) H') vs ws → Q vs H'
abbrev MA := DEnv → Sto → Option (List W × Sto)
def rdA (K : PySem.W.Frag) (f : MA) : TA := fun σ H Q => ∃ m S ρ ws S', Sim K m S ρ σ H ∧ f ρ S = some (ws, S') ∧ PostL K m S' ρ σ H ws Q

section
variable {K : PySem.W.Frag} {H H1 : Hp} {m ext : List Addr} {S S1 S' : Sto} {ρ : DEnv} {σ : L2.St} {w : W} {Q : VK}
theorem Post.at (p : Post K m S' ρ σ H w Q) (f : Fresh ext H) (q : Sim K (m ++ ext) S1 ρ σ H1) (fr : Fr m H H1) : Post K (m ++ ext) S' ρ σ H1 w Q := fun e2 H2 v f2 q2 fr2 r =>
  p (ext ++ e2) H2 v (f.append fr q f2) (by rwa [← List.append_assoc]) (fr.trans f fr2) (by rwa [← List.append_assoc])
theorem PostB.at {b : Bool} {Q : Bool → Hp → Prop} (p : PostB K m S' ρ σ H b Q) (f : Fresh ext H) (q : Sim K (m ++ ext) S1 ρ σ H1) (fr : Fr m H H1) : PostB K (m ++ ext) S' ρ σ H1 b Q := fun e2 H2 f2 q2 fr2 =>
  p (ext ++ e2) H2 (f.append fr q f2) (by rwa [← List.append_assoc]) (fr.trans f fr2)
theorem PostL.at {ws : List W} {Q : List V → Hp → Prop} (p : PostL K m S' ρ σ H ws Q) (f : Fresh ext H) (q : Sim K (m ++ ext) S1 ρ σ H1) (fr : Fr m H H1) : PostL K (m ++ ext) S' ρ σ H1 ws Q := fun e2 H2 vs f2 q2 fr2 r =>
  p (ext ++ e2) H2 vs (f.append fr q f2) (by rwa [← List.append_assoc]) (fr.trans f fr2) (by rwa [← List.append_assoc])
/-- the value at hand -/
theorem Post.now {v : V} (p : Post K m S' ρ σ H w Q) (q : Sim K m S' ρ σ H) (r : RW K m H v w) : Q v H :=
  p [] H v (fun _ h => absurd h (by simp)) (by rwa [List.append_nil]) Fr.refl (by rwa [List.append_nil])
theorem PostB.now {b : Bool} {Q : Bool → Hp → Prop} (p : PostB K m S' ρ σ H b Q) (q : Sim K m S' ρ σ H) : Q b H :=
  p [] H (fun _ h => absurd h (by simp)) (by rwa [List.append_nil]) Fr.refl
theorem PostL.now {vs : List V} {ws : List W} {Q : List V → Hp → Prop} (p : PostL K m S' ρ σ H ws Q) (q : Sim K m S' ρ σ H) (r : Paired (RW K m H) vs ws) : Q vs H :=
  p [] H vs (fun _ h => absurd h (by simp)) (by rwa [List.append_nil]) Fr.refl (by rwa [List.append_nil])
/-- the heap has grown by immutable things -/
theorem Post.grown {v : V} (p : Post K m S ρ σ H w Q) (q : Sim K m S ρ σ H) (k : ∀ a o, H a = some o → H1 a = some o) (r : RW K m H1 v w) : Q v H1 :=
  p [] H1 v (fun _ h => absurd h (by simp)) (by rw [List.append_nil]; exact q.same k) (fun a o h _ => k a o h) (by rwa [List.append_nil])
theorem upd_keeps {a : Addr} {o : HO} (h : H a = none) : ∀ b u, H b = some u → upd H a o b = some u := fun b u e => by
  rw [upd_ne (ne_of_none e h)]; exact e
theorem upd_kp {a : Addr} {o : HO} (h : H a = none) : Kp H (upd H a o) := fun b u e _ => upd_keeps h b u e
end

/-! ### weakening -/
section
variable {X : Cx}
theorem wkE {e : Expr} {t t' : TE} (h : PE X e t) (w : ∀ σ H Q, t' σ H Q → t σ H Q) : PE X e t' := ⟨fun p s σ H Q I q => h.run p s σ H Q I (w σ H Q q)⟩
theorem wkT {e : Expr} {t t' : TT} (h : PT X e t) (w : ∀ σ H Q, t' σ H Q → t σ H Q) : PT X e t' := ⟨fun p s σ H Q I q => h.run p s σ H Q I (w σ H Q q)⟩
theorem wkW {e : Expr} {t t' : TT} (h : PW X e t) (w : ∀ σ H Q, t' σ H Q → t σ H Q) : PW X e t' := ⟨fun wh p s σ H Q I q => h.run wh p s σ H Q I (w σ H Q q)⟩
theorem wkA {es : List Expr} {t t' : TA} (h : PA X es t) (w : ∀ σ H Q, t' σ H Q → t σ H Q) : PA X es t' := ⟨fun ps p s σ H Q I q => h.run ps p s σ H Q I (w σ H Q q)⟩
theorem wkS {st : Stmt} {t t' : TS} (h : PS X st t) (w : ∀ D σ H, t' D σ H → t D σ H) : PS X st t' := ⟨fun p s σ H D I q => h.run p s σ H D I (w D σ H q)⟩
theorem wkSs {st : List Stmt} {t t' : TS} (h : PSs X st t) (w : ∀ D σ H, t' D σ H → t D σ H) : PSs X st t' := ⟨fun p s σ H D I q => h.run p s σ H D I (w D σ H q)⟩
/-- a value made: a new list is locked for ever -/
theorem peFrz {e : Expr} {t : TE} (h : PE X e t) : PE X e (fun σ H Q => t σ H fun v H1 => ∃ a xs, v = .ref a ∧ H1 a = some (.lst xs) ∧ ∀ o, Q v (upd H1 a (.frz o (.lst xs)))) := by
  refine ⟨fun pins s σ H Q I q => thn (h.run pins s σ H _ I q) fun u s1 ⟨v, H1, I1, r, a, xs, e, hl, q1⟩ => ?_⟩
  obtain ⟨o, I2⟩ := I1.lock hl trivial
  exact ⟨v, _, I2, r, q1 o⟩
end
end DL
noncomputable section
namespace DL
open PySem PySem.Spec PyProof.Rows L2
section
variable {K : PySem.W.Frag} {H H1 H2 : Hp} {m ext : List Addr} {S S1 S' : Sto} {ρ : DEnv} {σ : L2.St} {w : W} {Q : VK}

/-! ### binding -/
theorem bindE {A : ME} {k : W → Sto → Option (W × Sto)} (q : Sim K m S ρ σ H) (e : ((A ρ S).bind fun p => k p.1 p.2) = some (w, S')) (p : Post K m S' ρ σ H w Q) :
    rdE K A σ H fun x H1 => ∃ m1 S1 wx, Sim K m1 S1 ρ σ H1 ∧ RW K m1 H1 x wx ∧ k wx S1 = some (w, S') ∧ Post K m1 S' ρ σ H1 w Q ∧ Kp H H1 ∧ ∃ ext, m1 = m ++ ext := by
  obtain ⟨⟨wx, S1⟩, e1, e2⟩ := Option.bind_eq_some_iff.mp e
  exact ⟨m, S, ρ, wx, S1, q, e1, fun ext H1 x f q1 fr r => ⟨m ++ ext, S1, wx, q1, r, e2, p.at f q1 fr, fr.kp, ext, rfl⟩⟩

/-- the readings of an operator on values of the store -/
def rOp (K : PySem.W.Frag) (f : W → W → Sto → Option (W × Sto)) : R2 := fun x y H Q =>
  ∃ m S ρ σ wx wy w S', Sim K m S ρ σ H ∧ RW K m H x wx ∧ RW K m H y wy ∧ f wx wy S = some (w, S') ∧ Post K m S' ρ σ H w Q
def mBin (f : W → W → Sto → Option (W × Sto)) (A B : ME) : ME := fun ρ S => (A ρ S).bind fun p => (B ρ p.2).bind fun q => f p.1 q.1 q.2
theorem binE {f : W → W → Sto → Option (W × Sto)} {A B : ME} (h : rdE K (mBin f A B) σ H Q) : rdE K A σ H fun x H1 => rdE K B σ H1 fun y H2 => rOp K f x y H2 Q := by
  obtain ⟨m, S, ρ, w, S', q, e, p⟩ := h
  obtain ⟨m', S0, ρ', w', S0', q', e', p'⟩ := bindE (K := K) (Q := Q) (k := fun wx S1 => (B ρ S1).bind fun q => f wx q.1 q.2) q e p
  refine ⟨m', S0, ρ', w', S0', q', e', fun ext H1 x fr q1 f1 r => ?_⟩
  obtain ⟨m1, S1, wx, q1, r1, e1, p1, k1, _⟩ := p' ext H1 x fr q1 f1 r
  obtain ⟨m2, S2, ρ2, w2, S2', q2, e2, p2⟩ := bindE (K := K) (Q := Q) (k := fun wy S1 => f wx wy S1) q1 e1 p1
  refine ⟨m2, S2, ρ2, w2, S2', q2, e2, fun ext H2 y fr q2 f2 r => ?_⟩
  obtain ⟨m3, S3, wy, q3, r3, e3, p3, k3, ext', rfl⟩ := p2 ext H2 y fr q2 f2 r
  exact ⟨_, S3, ρ, σ, wx, wy, w, S', q3, r1.mono k3, r3, e3, p3⟩

/-! ### lists of values -/
def allD : List W → Option (List PyData)
  | [] => some []
  | .d x :: ws => (allD ws).map (x :: ·)
  | .loc _ :: _ => none
theorem allD_of : ∀ {ws : List W} {ds : List PyData} {vs : List V}, allD ws = some ds → Paired (RW K m H) vs ws → RpAll K H vs ds
  | [], _, _, e, .nil => by cases e; exact .nil
  | .d x :: ws, ds, _, e, .cons r t => by
    simp only [allD, Option.map_eq_some_iff] at e
    obtain ⟨es, e1, rfl⟩ := e
    exact .cons r (allD_of e1 t)
  | .loc _ :: _, _, _, e, _ => by cases e
theorem allD_map (ds : List PyData) : allD (ds.map W.d) = some ds := by
  induction ds with
  | nil => rfl
  | cons x ds ih => simp [allD, ih]
theorem rpAll_rw : ∀ {ds : List PyData} {vs : List V}, RpAll K H vs ds → Paired (RW K m H) vs (ds.map W.d)
  | _, _, .nil => .nil
  | _, _, .cons h t => .cons h (rpAll_rw t)

/-! ### what a new thing is worth -/
theorem newT {vs : List V} {ds : List PyData} (p : Post K m S ρ σ H (.d (.tuple ds)) Q) (q : Sim K m S ρ σ H) (r : RpAll K H vs ds) (t : Addr) (ht : H t = none) : Q (.ref t) (upd H t (.tup vs)) :=
  p.grown q (upd_keeps ht) (Rp.tup upd_same (RpAll.mono (upd_kp ht) ds vs r))
/-- a new list, locked -/
def Lk (Q : VK) : VK := fun v H1 => ∃ a xs, v = .ref a ∧ H1 a = some (.lst xs) ∧ ∀ o, Q v (upd H1 a (.frz o (.lst xs)))
theorem newL {vs : List V} {ds : List PyData} (p : Post K m S ρ σ H (.d (.list ds)) Q) (q : Sim K m S ρ σ H) (r : RpAll K H vs ds) (t : Addr) (ht : H t = none) : Lk Q (.ref t) (upd H t (.lst vs)) := by
  refine ⟨t, vs, rfl, upd_same, fun o => ?_⟩
  rw [upd_upd]
  exact p.grown q (upd_keeps ht) (Rp.lst (.inl ⟨o, upd_same⟩) (RpAll.mono (upd_kp ht) ds vs r))
/-- a new object of the store -/
theorem newB {vs : List V} {ws : List W} (p : Post K m (S ++ [.lst ws]) ρ σ H (.loc S.length) Q) (q : Sim K m S ρ σ H) (r : Paired (RW K m H) vs ws) (t : Addr) (ht : H t = none) : Q (.ref t) (upd H t (.lst vs)) := by
  refine p [t] _ _ (fun a h => by simp at h; subst h; exact ht) (q.push (upd_keeps ht) ht ⟨vs, upd_same, pRW.mono r (upd_kp ht)⟩) (fun a o h _ => upd_keeps ht a o h) ⟨t, ?_, rfl⟩
  rw [← q.len, List.getElem?_append_right (Nat.le_refl _)]; simp
end

section
variable {X : Cx} {e a b : Expr} {es : List Expr} {pos : Pos}
/-- new lists of an operator, a call, a slice are locked -/
theorem opFrz {f : Value → Value → Sem Value} {r : R2} (h : OpR X f r) : OpR X f fun x y H Q => r x y H (Lk Q) := by
  intro pins s σ H x y v u Q I rx ry q
  refine thn (h pins s σ H x y v u _ I rx ry q) fun z s1 ⟨v, H1, I1, r, a, xs, e, hl, q1⟩ => ?_
  obtain ⟨o, I2⟩ := I1.lock hl trivial
  exact ⟨v, _, I2, r, q1 o⟩
theorem callFrz {f : Value} {r : List V → Hp → VK → Prop} (h : CallR X f r) : CallR X f fun xs H Q => r xs H (Lk Q) := by
  intro pins s σ H vs us Q I rx q
  refine thn (h pins s σ H vs us _ I rx q) fun z s1 ⟨v, H1, I1, r, a, xs, e, hl, q1⟩ => ?_
  obtain ⟨o, I2⟩ := I1.lock hl trivial
  exact ⟨v, _, I2, r, q1 o⟩
theorem slFrz {r : V → Option Int → Option Int → Hp → VK → Prop} (h : SlR X r) : SlR X fun x lo hi H Q => r x lo hi H (Lk Q) := by
  intro pins s σ H x v vl vu lo hi sl Q I rx h1 h2 h3 q
  obtain ⟨T, id, e1, e2, run⟩ := h pins s σ H x v vl vu lo hi sl _ I rx h1 h2 h3 q
  refine ⟨T, id, e1, e2, thn run fun z s1 ⟨v, H1, I1, r, a, xs, e, hl, q1⟩ => ?_⟩
  obtain ⟨o, I2⟩ := I1.lock hl trivial
  exact ⟨v, _, I2, r, q1 o⟩
theorem mtFrz {id : String} {r : V → List V → Hp → VK → Prop} (h : MtR X id r) : MtR X id fun x xs H Q => r x xs H (Lk Q) := by
  intro pins s σ H x xs v us Q I rx rs q
  refine thn (h pins s σ H x xs v us _ I rx rs q) fun z s1 ⟨v, H1, I1, r, a, xs, e, hl, q1⟩ => ?_
  obtain ⟨o, I2⟩ := I1.lock hl trivial
  exact ⟨v, _, I2, r, q1 o⟩
end

/-! ### names, constants -/
def mVar (i : Nat) : ME := fun ρ S => match ρ[i]? with
  | some (some w) => some (w, S)
  | _ => none
def mC (x : PyData) : ME := fun _ S => some (.d x, S)
section
variable {X : Cx} {e a b : Expr} {es : List Expr} {pos : Pos} {A B : ME} {R : MA}
theorem rd_var {i : Nat} {σ : L2.St} {H : Hp} {Q : VK} (h : rdE X.K (mVar i) σ H Q) : tVar i σ H Q := by
  obtain ⟨m, S, ρ, w, S', q, e, p⟩ := h
  unfold mVar at e
  split at e
  · rename_i w' e1
    cases e
    obtain ⟨v, h1, r⟩ := q.slot i _ e1
    exact ⟨v, h1, p.now q r⟩
  · cases e
theorem de_var (h : PE X e (tVar i)) : PE X e (rdE X.K (mVar i)) := wkE h fun σ H Q q => rd_var q
theorem rd_c {x : PyData} {v : V} {K : PySem.W.Frag} {σ : L2.St} {H : Hp} {Q : VK} (r : ∀ H, Rp K H v x) (h : rdE K (mC x) σ H Q) : Q v H := by
  obtain ⟨m, S, ρ, w, S', q, e, p⟩ := h
  cases e
  exact p.now q (r H)
theorem de_int {i : Int} {j} : PE X (.Constant (.int i) j pos) (rdE X.K (mC (.int i))) := wkE pe_int fun _ _ _ q => rd_c (fun _ => .int i) q
theorem de_bl {i : Bool} {j} : PE X (.Constant (.bool i) j pos) (rdE X.K (mC (.bool i))) := wkE pe_bl fun _ _ _ q => rd_c (fun _ => .bl i) q
theorem de_non {j} : PE X (.Constant .none j pos) (rdE X.K (mC .none)) := wkE pe_non fun _ _ _ q => rd_c (fun _ => .non) q
theorem de_str {x : Str} {j} : PE X (.Constant (.str x) j pos) (rdE X.K (mC (.str x))) := wkE pe_str fun _ _ _ q => rd_c (fun _ => .str x) q

/-! ### arguments -/
def mNil : MA := fun _ S => some ([], S)
def mCons (A : ME) (R : MA) : MA := fun ρ S => (A ρ S).bind fun p => (R ρ p.2).bind fun q => some (p.1 :: q.1, q.2)
theorem da_nil : PA X [] (rdA X.K mNil) := wkA pa_nil fun σ H Q q => by
  obtain ⟨m, S, ρ, w, S', q, e, p⟩ := q
  cases e
  exact p.now q .nil
theorem da_cons (ha : PE X e (rdE X.K A)) (hr : PA X es (rdA X.K R)) (hs : starEach (e :: es) X.env = (false, eval e X.env) :: starEach es X.env := by rfl) : PA X (e :: es) (rdA X.K (mCons A R)) :=
  wkA (pa_cons ha hr hs) fun σ H Q q => by
    obtain ⟨m, S, ρ, w, S', q, e, p⟩ := q
    obtain ⟨⟨wx, S1⟩, e1, e2⟩ := Option.bind_eq_some_iff.mp e
    obtain ⟨⟨ws, S2⟩, e3, e4⟩ := Option.bind_eq_some_iff.mp e2
    cases e4
    refine ⟨m, S, ρ, wx, S1, q, e1, fun ext H1 x f q1 fr r => ⟨m ++ ext, S1, ρ, ws, _, q1, e3, fun ext2 H2 xs f2 q2 fr2 r2 => ?_⟩⟩
    refine (p.at f q1 fr) ext2 H2 (x :: xs) f2 q2 fr2 (.cons (r.mono fr2.kp) r2)

/-- what comes of a list of values -/
def rC (K : PySem.W.Frag) (f : List W → Sto → Option (W × Sto)) : List V → Hp → VK → Prop := fun vs H Q =>
  ∃ m S ρ σ ws w S', Sim K m S ρ σ H ∧ Paired (RW K m H) vs ws ∧ f ws S = some (w, S') ∧ Post K m S' ρ σ H w Q
def mCall (f : List W → Sto → Option (W × Sto)) (R : MA) : ME := fun ρ S => (R ρ S).bind fun p => f p.1 p.2
theorem callE {K : PySem.W.Frag} {f : List W → Sto → Option (W × Sto)} {σ : L2.St} {H : Hp} {Q : VK} {Q' : List V → Hp → Prop} (h : rdE K (mCall f R) σ H Q) (hq : ∀ vs H1, rC K f vs H1 Q → Q' vs H1) : rdA K R σ H Q' := by
  obtain ⟨m, S, ρ, w, S', q, e, p⟩ := h
  obtain ⟨⟨ws, S1⟩, e1, e2⟩ := Option.bind_eq_some_iff.mp e
  exact ⟨m, S, ρ, ws, S1, q, e1, fun ext H1 vs f q1 fr r => hq _ _ ⟨m ++ ext, S1, ρ, σ, ws, w, S', q1, r, e2, p.at f q1 fr⟩⟩

/-! ### displays -/
def tupF : List W → Sto → Option (W × Sto) := fun ws S => (allD ws).bind fun ds => if ds.length ≤ sizeLine then some (.d (.tuple ds), S) else none
def lstF : List W → Sto → Option (W × Sto) := fun ws S => (allD ws).bind fun ds => if ds.length ≤ sizeLine then some (.d (.list ds), S) else none
def lstB : List W → Sto → Option (W × Sto) := fun ws S => if ws.length ≤ sizeLine then some (.loc S.length, S ++ [.lst ws]) else none
theorem de_tup {x1} (h : PA X es (rdA X.K R)) : PE X (.Tuple es x1 pos) (rdE X.K (mCall tupF R)) := wkE (pe_tup h) fun σ H Q q => callE q fun vs H1 q => by
  obtain ⟨m, S, ρ, σ, ws, w, S', q, r, e, p⟩ := q
  obtain ⟨ds, e1, e2⟩ := Option.bind_eq_some_iff.mp e
  split at e2
  · rename_i hl
    cases e2
    have r1 := allD_of e1 r
    exact ⟨by rw [r1.length]; exact hl, fun t ht => newT p q r1 t ht⟩
  · cases e2
theorem de_lst (h : PA X es (rdA X.K R)) : PE X (.List es pos) (rdE X.K (mCall lstF R)) := wkE (peFrz (pe_lst h)) fun σ H Q q => callE q fun vs H1 q => by
  obtain ⟨m, S, ρ, σ, ws, w, S', q, r, e, p⟩ := q
  obtain ⟨ds, e1, e2⟩ := Option.bind_eq_some_iff.mp e
  split at e2
  · rename_i hl
    cases e2
    have r1 := allD_of e1 r
    exact ⟨by rw [r1.length]; exact hl, fun t ht => newL p q r1 t ht⟩
  · cases e2
theorem de_lstB (h : PA X es (rdA X.K R)) : PE X (.List es pos) (rdE X.K (mCall lstB R)) := wkE (pe_lst h) fun σ H Q q => callE q fun vs H1 q => by
  obtain ⟨m, S, ρ, σ, ws, w, S', q, r, e, p⟩ := q
  unfold lstB at e
  split at e
  · rename_i hl
    cases e
    exact ⟨by rw [r.length]; exact hl, fun t ht => newB p q r t ht⟩
  · cases e
end

/-! ### operators -/
section
variable {X : Cx} {e a b : Expr} {es : List Expr} {pos : Pos} {A B : ME} {R : MA} {K : PySem.W.Frag} {H : Hp} {v : V}
theorem de_bin {op : Operator} {f : W → W → Sto → Option (W × Sto)} (ho : OpR X (binaryOp op) (rOp X.K f)) (ha : PE X a (rdE X.K A)) (hb : PE X b (rdE X.K B)) : PE X (.BinOp a op b pos) (rdE X.K (mBin f A B)) :=
  wkE (pe_op ho ha hb) fun σ H Q q => binE q
theorem de_cmp {op : CmpOp} {f : W → W → Sto → Option (W × Sto)} (ho : OpR X (compareOp op) (rOp X.K f)) (ha : PE X a (rdE X.K A)) (hb : PE X b (rdE X.K B)) (hm : behindInMarks op b = false := by first | exact nomark _ | rfl) : PE X (.Compare a [op] [b] pos) (rdE X.K (mBin f A B)) :=
  wkE (pe_cmpR ho ha hb hm) fun σ H Q q => binE q
theorem rp_int {x : V} {i : Int} (h : Rp K H x (.int i)) : x = .int i := by cases h; rfl
theorem rp_str {x : V} {i : Str} (h : Rp K H x (.str i)) : x = .str i := by cases h; rfl
theorem rp_bl {x : V} {i : Bool} (h : Rp K H x (.bool i)) : x = .bl i := by cases h; rfl
theorem rp_non {x : V} (h : Rp K H x .none) : x = .non := by cases h; rfl
theorem rp_tup {x : V} {ds : List PyData} (h : Rp K H x (.tuple ds)) : ∃ a xs, x = .ref a ∧ SqT K H a xs ∧ RpAll K H xs ds := by
  cases h with
  | tup h1 h2 => exact ⟨_, _, rfl, .inl (.of h1), h2⟩
theorem rp_tupH {x : V} {ds : List PyData} (h : Rp K H x (.tuple ds)) : ∃ a xs, x = .ref a ∧ H a = some (.tup xs) ∧ RpAll K H xs ds := by
  cases h with
  | tup h1 h2 => exact ⟨_, _, rfl, h1, h2⟩
theorem rp_lst {x : V} {ds : List PyData} (h : Rp K H x (.list ds)) : ∃ a xs, x = .ref a ∧ FzL K H a xs ∧ RpAll K H xs ds := by
  cases h with
  | lst h1 h2 => exact ⟨_, _, rfl, h1, h2⟩

/-- + of ints, texts, tuples -/
def addD : W → W → Sto → Option (W × Sto)
  | .d (.int i), .d (.int j), S => some (.d (.int (i + j)), S)
  | .d (.str i), .d (.str j), S => if i.length + j.length ≤ sizeLine then some (.d (.str (i ++ j)), S) else none
  | .d (.tuple i), .d (.tuple j), S => if i.length + j.length ≤ sizeLine then some (.d (.tuple (i ++ j)), S) else none
  | _, _, _ => none
theorem op_addD : OpR X (binaryOp .Add) (rOp X.K addD) := by
  intro pins s σ H x y v u Q I rx ry h
  obtain ⟨m, S, ρ, σ', wx, wy, w, S', q, hx, hy, e, p⟩ := h
  unfold addD at e
  split at e
  · cases e
    obtain rfl := rp_int hx
    obtain rfl := rp_int hy
    exact op_add pins s σ H _ _ v u Q I rx ry ⟨_, _, rfl, rfl, p.now q (.int _)⟩
  · split at e
    · rename_i hl
      cases e
      obtain rfl := rp_str hx
      obtain rfl := rp_str hy
      exact op_add_str pins s σ H _ _ v u Q I rx ry ⟨_, _, rfl, rfl, hl, p.now q (.str _)⟩
    · cases e
  · split at e
    · rename_i ds es _ hl
      cases e
      obtain ⟨a, xs, rfl, h1, r1⟩ := rp_tupH hx
      obtain ⟨b, ys, rfl, h2, r2⟩ := rp_tupH hy
      refine op_catA pins s σ H _ _ v u Q I rx ry ⟨a, b, xs, ys, rfl, rfl, .inl (.of h1), .inl (.of h2), by rw [r1.length, r2.length]; exact hl, ?_⟩
      refine ⟨fun e => ?_, fun e1 e2 => ?_, fun _ _ t ht => newT p q (r1.append r2) t ht⟩
      · subst e
        cases r1
        exact p.now q (.tup h2 (by simpa using r2))
      · subst e2
        cases r2
        exact p.now q (.tup h1 (by simpa using r1))
    · cases e
  · cases e
/-- an operator on ints -/
def iiD (c : Int → Int → Bool) (g : Int → Int → PyData) : W → W → Sto → Option (W × Sto)
  | .d (.int i), .d (.int j), S => if c i j = true then some (.d (g i j), S) else none
  | _, _, _ => none
theorem iiD_of {f : Value → Value → Sem Value} {C : Int → Int → Prop} {c : Int → Int → Bool} {g : Int → Int → PyData} {gv : Int → Int → V} (h : OpR X f (rI C gv)) (hc : ∀ i j, c i j = true → C i j) (hg : ∀ i j H, Rp X.K H (gv i j) (g i j)) : OpR X f (rOp X.K (iiD c g)) := by
  intro pins s σ H x y v u Q I rx ry h2
  obtain ⟨m, S, ρ, σ', wx, wy, w, S', q, hx, hy, e, p⟩ := h2
  unfold iiD at e
  split at e
  · split at e
    · rename_i hl
      cases e
      obtain rfl := rp_int hx
      obtain rfl := rp_int hy
      exact h pins s σ H _ _ v u Q I rx ry ⟨_, _, rfl, rfl, hc _ _ hl, p.now q (hg _ _ _)⟩
    · cases e
  · cases e
theorem rI_of0 {f : Value → Value → Sem Value} {gv : Int → Int → V} (h : OpR X f (rI0 gv)) : OpR X f (rI (fun _ _ => True) gv) := by
  intro pins s σ H x y v u Q I rx ry ⟨i, j, e1, e2, _, q⟩
  exact h pins s σ H x y v u Q I rx ry ⟨i, j, e1, e2, q⟩
def yes2 : Int → Int → Bool := fun _ _ => true
def subD := iiD yes2 fun i j => .int (i - j)
theorem op_subD : OpR X (binaryOp .Sub) (rOp X.K subD) := iiD_of (rI_of0 op_sub) (fun _ _ _ => trivial) fun _ _ _ => .int _
def divOk : Int → Int → Bool := fun _ j => decide (0 < j) && decide (j.natAbs.log2 < 9000)
def fdivD := iiD divOk fun i j => .int (i / j)
theorem op_fdivD : OpR X (binaryOp .FloorDiv) (rOp X.K fdivD) := iiD_of op_fdivW (fun i j h => by
  simp only [divOk, Bool.and_eq_true, decide_eq_true_eq] at h
  exact h) fun _ _ _ => .int _
def modOk : Int → Int → Bool := fun _ j => decide (0 < j)
def modD := iiD modOk fun i j => .int (i % j)
theorem op_modD : OpR X (binaryOp .Mod) (rOp X.K modD) := iiD_of op_mod (fun i j h => by simpa [modOk] using h) fun _ _ _ => .int _
def powOk : Int → Int → Bool := fun i j => decide (0 ≤ j) && decide (j ≤ 1000000) && decide (i.natAbs < 2 ^ 64)
def powD := iiD powOk fun i j => .int (i ^ j.toNat)
theorem op_powD : OpR X (binaryOp .Pow) (rOp X.K powD) := iiD_of op_pow (fun i j h => by
  simp only [powOk, Bool.and_eq_true, decide_eq_true_eq] at h
  exact ⟨h.1.1, h.1.2, h.2⟩) fun _ _ _ => .int _
/-- * of ints, of a tuple and an int -/
def mulD : W → W → Sto → Option (W × Sto)
  | .d (.int i), .d (.int j), S => @ite _ (i.natAbs.log2 + j.natAbs.log2 < 1000000) (gd _) (some (.d (.int (i * j)), S)) none
  | .d (.tuple i), .d (.int k), S => @ite _ (i ≠ [] ∧ 2 ≤ k ∧ k ≤ 1000 ∧ i.length ≤ 1000) (gd _) (some (.d (.tuple (List.replicate k.toNat i).flatten), S)) none
  | _, _, _ => none
theorem rpAll_rep {K : PySem.W.Frag} {H : Hp} {xs : List V} {ds : List PyData} (h : RpAll K H xs ds) : ∀ n : Nat, RpAll K H (List.replicate n xs).flatten (List.replicate n ds).flatten
  | 0 => .nil
  | n + 1 => by
    rw [List.replicate_succ, List.replicate_succ, List.flatten_cons, List.flatten_cons]
    exact h.append (rpAll_rep h n)
theorem op_mulD : OpR X (binaryOp .Mult) (rOp X.K mulD) := by
  intro pins s σ H x y v u Q I rx ry h
  obtain ⟨m, S, ρ, σ', wx, wy, w, S', q, hx, hy, e, p⟩ := h
  unfold mulD at e
  split at e
  · split at e
    · rename_i hl
      cases e
      obtain rfl := rp_int hx
      obtain rfl := rp_int hy
      exact op_mulW pins s σ H _ _ v u Q I rx ry ⟨_, _, rfl, rfl, hl, p.now q (.int _)⟩
    · cases e
  · split at e
    · rename_i hl
      cases e
      obtain ⟨a, xs, rfl, h1, r1⟩ := rp_tup hx
      obtain rfl := rp_int hy
      refine op_repT pins s σ H _ _ v u Q I rx ry ⟨a, _, xs, rfl, rfl, h1, fun e => ?_, hl.2.1, hl.2.2.1, by rw [r1.length]; exact hl.2.2.2, fun t ht => newT p q (rpAll_rep r1 _) t ht⟩
      subst e
      cases r1
      exact hl.1 rfl
    · cases e
  · cases e
/-- comparisons of ints -/
def cmpI (g : Int → Int → Bool) := iiD yes2 fun i j => .bool (g i j)
theorem op_cmpI {op : CmpOp} {g : Int → Int → Bool} (h : OpR X (compareOp op) (rI0 fun i j => .bl (g i j))) : OpR X (compareOp op) (rOp X.K (cmpI g)) := iiD_of (rI_of0 h) (fun _ _ _ => trivial) fun _ _ _ => .bl _

/-! ### == on data -/
def deref (S : Sto) : W → Option PyData
  | .d x => some x
  | .loc n => match S[n]? with
    | some (.lst ws) => (allD ws).map .list
    | _ => none
theorem RpAll.dpAll {K : PySem.W.Frag} {H : Hp} {ds : List PyData} {vs : List V} (h : RpAll K H vs ds) : DpAll K H vs ds := RpAll.dp ds vs h
theorem deref_dp {K : PySem.W.Frag} {m : List Addr} {S : Sto} {ρ : DEnv} {σ : L2.St} {H : Hp} {v : V} {w : W} {d : PyData} (q : Sim K m S ρ σ H) (r : RW K m H v w) (e : deref S w = some d) : Dp K H v d := by
  cases w with
  | d x => cases e; exact Rp.dp _ _ r
  | loc n =>
    obtain ⟨a, h, rfl⟩ := r
    simp only [deref] at e
    split at e
    · rename_i ws hs
      obtain ⟨ds, e1, rfl⟩ := Option.map_eq_some_iff.mp e
      obtain ⟨b, hb, vs, hv, pr⟩ := q.obs n _ hs
      rw [h] at hb; cases hb
      exact .lst (.of hv) (allD_of e1 pr).dpAll
    · cases e
def eqD (neg : Bool) : W → W → Sto → Option (W × Sto) := fun x y S => (deref S x).bind fun d => (deref S y).bind fun e =>
  if SeqAt.shaped d && SeqAt.shaped e then some (.d (.bool (PyData.eqv d e ^^ neg)), S) else none
theorem op_eqDD (hu : X.A.units + 64 < cLine) : OpR X (compareOp .Eq) (rOp X.K (eqD false)) := by
  intro pins s σ H x y v u Q I rx ry h
  obtain ⟨m, S, ρ, σ', wx, wy, w, S', q, hx, hy, e, p⟩ := h
  obtain ⟨d, e1, e⟩ := Option.bind_eq_some_iff.mp e
  obtain ⟨d2, e2, e⟩ := Option.bind_eq_some_iff.mp e
  split at e
  · rename_i hs
    simp only [Bool.and_eq_true] at hs
    cases e
    refine op_eqD hu pins s σ H x y v u Q I rx ry ⟨d, d2, deref_dp q hx e1, deref_dp q hy e2, hs.1, hs.2, ?_⟩
    have := p.now q (v := .bl (PyData.eqv d d2)) (by rw [Bool.xor_false]; exact .bl _)
    exact this
  · cases e
theorem op_neDD (hu : X.A.units + 64 < cLine) : OpR X (compareOp .NotEq) (rOp X.K (eqD true)) := by
  intro pins s σ H x y v u Q I rx ry h
  obtain ⟨m, S, ρ, σ', wx, wy, w, S', q, hx, hy, e, p⟩ := h
  obtain ⟨d, e1, e⟩ := Option.bind_eq_some_iff.mp e
  obtain ⟨d2, e2, e⟩ := Option.bind_eq_some_iff.mp e
  split at e
  · rename_i hs
    simp only [Bool.and_eq_true] at hs
    cases e
    refine op_neD hu pins s σ H x y v u Q I rx ry ⟨d, d2, deref_dp q hx e1, deref_dp q hy e2, hs.1, hs.2, ?_⟩
    have := p.now q (v := .bl (!PyData.eqv d d2)) (by rw [Bool.xor_true]; exact .bl _)
    exact this
  · cases e
/-- is None, is not None -/
def isNon : PyData → Bool
  | .none => true
  | _ => false
def isND (neg : Bool) : W → W → Sto → Option (W × Sto)
  | .d x, .d .none, S => some (.d (.bool (isNon x ^^ neg)), S)
  | .loc _, .d .none, S => some (.d (.bool neg), S)
  | _, _, _ => none
theorem rp_isnon {K : PySem.W.Frag} {H : Hp} {x : V} {d : PyData} (h : Rp K H x d) : decide (x = .non) = isNon d := by
  cases h <;> rfl
theorem op_isND : OpR X (compareOp .Is) (rOp X.K (isND false)) := by
  intro pins s σ H x y v u Q I rx ry h
  obtain ⟨m, S, ρ, σ', wx, wy, w, S', q, hx, hy, e, p⟩ := h
  unfold isND at e
  split at e
  · cases e
    obtain rfl := rp_non hy
    refine op_isN pins s σ H x _ v u Q I rx ry ⟨rfl, ?_⟩
    rw [rp_isnon hx]
    exact p.now q (by rw [Bool.xor_false]; exact .bl _)
  · cases e
    obtain rfl := rp_non hy
    obtain ⟨a, _, rfl⟩ := hx
    exact op_isN pins s σ H _ _ v u Q I rx ry ⟨rfl, p.now q (.bl _)⟩
  · cases e
theorem op_notND : OpR X (compareOp .IsNot) (rOp X.K (isND true)) := by
  intro pins s σ H x y v u Q I rx ry h
  obtain ⟨m, S, ρ, σ', wx, wy, w, S', q, hx, hy, e, p⟩ := h
  unfold isND at e
  split at e
  · cases e
    obtain rfl := rp_non hy
    refine op_notN pins s σ H x _ v u Q I rx ry ⟨rfl, ?_⟩
    rw [rp_isnon hx]
    exact p.now q (by rw [Bool.xor_true]; exact .bl _)
  · cases e
    obtain rfl := rp_non hy
    obtain ⟨a, _, rfl⟩ := hx
    exact op_notN pins s σ H _ _ v u Q I rx ry ⟨rfl, p.now q (.bl _)⟩
  · cases e
/-- in, not in a list -/
def inD (neg : Bool) : W → W → Sto → Option (W × Sto) := fun x y S => (deref S x).bind fun d => (deref S y).bind fun e => match e with
  | .list ds => if SeqAt.shaped d && SeqAt.shaped (.list ds) then some (.d (.bool ((ds.any fun z => PyData.eqv z d) ^^ neg)), S) else none
  | _ => none
theorem op_inDD (hu : X.A.units + 65 < cLine) : OpR X (compareOp .In) (rOp X.K (inD false)) := by
  intro pins s σ H x y v u Q I rx ry h
  obtain ⟨m, S, ρ, σ', wx, wy, w, S', q, hx, hy, e, p⟩ := h
  obtain ⟨d, e1, e⟩ := Option.bind_eq_some_iff.mp e
  obtain ⟨d2, e2, e⟩ := Option.bind_eq_some_iff.mp e
  split at e
  · split at e
    · rename_i hs
      simp only [Bool.and_eq_true] at hs
      cases e
      refine op_inD hu pins s σ H x y v u Q I rx ry ⟨d, _, deref_dp q hx e1, deref_dp q hy e2, hs.1, hs.2, ?_⟩
      exact p.now q (by rw [Bool.xor_false]; exact .bl _)
    · cases e
  · cases e
theorem op_notInDD (hu : X.A.units + 65 < cLine) : OpR X (compareOp .NotIn) (rOp X.K (inD true)) := by
  intro pins s σ H x y v u Q I rx ry h
  obtain ⟨m, S, ρ, σ', wx, wy, w, S', q, hx, hy, e, p⟩ := h
  obtain ⟨d, e1, e⟩ := Option.bind_eq_some_iff.mp e
  obtain ⟨d2, e2, e⟩ := Option.bind_eq_some_iff.mp e
  split at e
  · split at e
    · rename_i hs
      simp only [Bool.and_eq_true] at hs
      cases e
      refine op_notInD hu pins s σ H x y v u Q I rx ry ⟨d, _, deref_dp q hx e1, deref_dp q hy e2, hs.1, hs.2, ?_⟩
      exact p.now q (by rw [Bool.xor_true]; exact .bl _)
    · cases e
  · cases e
/-- -a -/
def mNeg (A : ME) : ME := fun ρ S => (A ρ S).bind fun p => match p.1 with
  | .d (.int i) => some (.d (.int (-i)), p.2)
  | _ => none
theorem de_neg (ha : PE X a (rdE X.K A)) : PE X (.UnaryOp .USub a pos) (rdE X.K (mNeg A)) := wkE (pe_un un_neg ha) fun σ H Q q => by
  obtain ⟨m, S, ρ, w, S', q, e, p⟩ := q
  obtain ⟨⟨wx, S1⟩, e1, e2⟩ := Option.bind_eq_some_iff.mp e
  refine ⟨m, S, ρ, wx, S1, q, e1, fun ext H1 x f q1 fr r => ?_⟩
  simp only at e2
  split at e2
  · cases e2
    obtain rfl := rp_int r
    exact ⟨_, rfl, (p.at f q1 fr).now q1 (.int _)⟩
  · cases e2
end
end DL
end
noncomputable section
namespace DL
open PySem PySem.Spec PyProof.Rows L2

/-! ### tests -/
def tOf (A : ME) : MT := fun ρ S => (A ρ S).bind fun p => match p.1 with
  | .d (.bool b) => some (b, p.2)
  | _ => none
def tNotD (A : MT) : MT := fun ρ S => (A ρ S).bind fun p => some (!p.1, p.2)
def tAndD (A B : MT) : MT := fun ρ S => (A ρ S).bind fun p => if p.1 = true then B ρ p.2 else some (false, p.2)
def tOrD (A B : MT) : MT := fun ρ S => (A ρ S).bind fun p => if p.1 = true then some (true, p.2) else B ρ p.2
section
variable {K : PySem.W.Frag} {H : Hp} {σ : L2.St} {Q : Bool → Hp → Prop} {A : ME} {T U : MT}
theorem rd_tof (h : rdT K (tOf A) σ H Q) : rdE K A σ H fun x H1 => ∃ k, x = .bl k ∧ Q k H1 := by
  obtain ⟨m, S, ρ, b, S', q, e, p⟩ := h
  obtain ⟨⟨wx, S1⟩, e1, e2⟩ := Option.bind_eq_some_iff.mp e
  refine ⟨m, S, ρ, wx, S1, q, e1, fun ext H1 x f q1 fr r => ?_⟩
  simp only at e2
  split at e2
  · cases e2
    obtain rfl := rp_bl r
    exact ⟨_, rfl, (p.at f q1 fr).now q1⟩
  · cases e2
theorem rd_not (h : rdT K (tNotD T) σ H Q) : rdT K T σ H fun c H1 => Q (!c) H1 := by
  obtain ⟨m, S, ρ, b, S', q, e, p⟩ := h
  obtain ⟨⟨c, S1⟩, e1, e2⟩ := Option.bind_eq_some_iff.mp e
  cases e2
  exact ⟨m, S, ρ, c, _, q, e1, p⟩
theorem rd_and (h : rdT K (tAndD T U) σ H Q) : rdT K T σ H fun c H1 => if c = true then rdT K U σ H1 Q else Q false H1 := by
  obtain ⟨m, S, ρ, b, S', q, e, p⟩ := h
  obtain ⟨⟨c, S1⟩, e1, e2⟩ := Option.bind_eq_some_iff.mp e
  refine ⟨m, S, ρ, c, S1, q, e1, fun ext H1 f q1 fr => ?_⟩
  cases c with
  | true => exact ⟨_, S1, ρ, b, S', q1, by simpa using e2, p.at f q1 fr⟩
  | false =>
    simp only [Bool.false_eq_true, if_false] at e2
    cases e2
    exact (p.at f q1 fr).now q1
theorem rd_or (h : rdT K (tOrD T U) σ H Q) : rdT K T σ H fun c H1 => if c = true then Q true H1 else rdT K U σ H1 Q := by
  obtain ⟨m, S, ρ, b, S', q, e, p⟩ := h
  obtain ⟨⟨c, S1⟩, e1, e2⟩ := Option.bind_eq_some_iff.mp e
  refine ⟨m, S, ρ, c, S1, q, e1, fun ext H1 f q1 fr => ?_⟩
  cases c with
  | false => exact ⟨_, S1, ρ, b, S', q1, by simpa using e2, p.at f q1 fr⟩
  | true =>
    simp only [if_true] at e2
    cases e2
    exact (p.at f q1 fr).now q1
theorem rdT_mono {Q' : Bool → Hp → Prop} (h : rdT K T σ H Q) (w : ∀ b H1, Q b H1 → Q' b H1) : rdT K T σ H Q' := by
  obtain ⟨m, S, ρ, b, S', q, e, p⟩ := h
  exact ⟨m, S, ρ, b, S', q, e, fun ext H1 f q1 fr => w _ _ (p ext H1 f q1 fr)⟩
end
section
variable {X : Cx} {e a b c : Expr} {rest es : List Expr} {pos : Pos} {A B C : ME} {T U : MT}
theorem dt_cmp {op : CmpOp} {f : W → W → Sto → Option (W × Sto)} (ho : OpR X (compareOp op) (rOp X.K f)) (ha : PE X a (rdE X.K A)) (hb : PE X b (rdE X.K B)) (hm : behindInMarks op b = false := by first | exact nomark _ | rfl) : PT X (.Compare a [op] [b] pos) (rdT X.K (tOf (mBin f A B))) :=
  wkT (pt_cmpR ho ha hb hm) fun σ H Q q => binE (rd_tof q)
theorem dt_val (ha : PE X a (rdE X.K A)) (he : ∀ whole, isTrue a X.env whole = (do let v ← whole; standAt a.pos; holding [v] (truthy v)) := by intro _; rfl) : PT X a (rdT X.K (tOf A)) :=
  wkT (pt_val ha he) fun σ H Q q => rd_tof q
theorem dt_not (h : PT X a (rdT X.K T)) : PT X (.UnaryOp .Not a pos) (rdT X.K (tNotD T)) := wkT (pt_not h) fun σ H Q q => rd_not q
theorem dw_and1 (h : PT X a (rdT X.K T)) : PW X (.BoolOp .And [a] pos) (rdT X.K T) := pw_and1 h
theorem dw_or1 (h : PT X a (rdT X.K T)) : PW X (.BoolOp .Or [a] pos) (rdT X.K T) := pw_or1 h
theorem dw_and (h : PT X a (rdT X.K T)) (h2 : PW X (.BoolOp .And (b :: rest) pos) (rdT X.K U)) : PW X (.BoolOp .And (a :: b :: rest) pos) (rdT X.K (tAndD T U)) := wkW (pw_and h h2) fun σ H Q q => rd_and q
theorem dw_or (h : PT X a (rdT X.K T)) (h2 : PW X (.BoolOp .Or (b :: rest) pos) (rdT X.K U)) : PW X (.BoolOp .Or (a :: b :: rest) pos) (rdT X.K (tOrD T U)) := wkW (pw_or h h2) fun σ H Q q => rd_or q

/-- truth of any value -/
def truD (S : Sto) : W → Option Bool
  | .d .none => some false
  | .d (.bool b) => some b
  | .d (.int i) => some (i != 0)
  | .d (.str y) => if y.length ≤ sizeLine then some ((y.length : Int) != 0) else none
  | .d (.list ds) => some (!ds.isEmpty)
  | .d (.tuple ds) => some (!ds.isEmpty)
  | .d (.dict _) => none
  | .loc n => match S[n]? with
    | some (.lst ws) => some (!ws.isEmpty)
    | some (.dicK kvs) => some (!kvs.isEmpty)
    | _ => none
def tTru (A : ME) : MT := fun ρ S => (A ρ S).bind fun p => (truD p.2 p.1).bind fun b => some (b, p.2)
theorem paired_empty {α β : Type} {F : α → β → Prop} {xs : List α} {ys : List β} (h : Paired F xs ys) : ys.isEmpty = xs.isEmpty := by cases h <;> rfl
theorem rpAll_empty {K : PySem.W.Frag} {H : Hp} {xs : List V} {ys : List PyData} (h : RpAll K H xs ys) : ys.isEmpty = xs.isEmpty := by cases h <;> rfl
theorem truD_of {K : PySem.W.Frag} {m : List Addr} {S : Sto} {ρ : DEnv} {σ : L2.St} {H : Hp} {v : V} {w : W} {b : Bool} (q : Sim K m S ρ σ H) (r : RW K m H v w) (e : truD S w = some b) : TruV K v H b := by
  cases w with
  | d x =>
    cases x with
    | none => obtain rfl := rp_non r; cases e; rfl
    | bool b => obtain rfl := rp_bl r; cases e; rfl
    | int i => obtain rfl := rp_int r; cases e; rfl
    | str y =>
      obtain rfl := rp_str r
      simp only [truD] at e
      split at e
      · cases e; exact ⟨by assumption, rfl⟩
      · cases e
    | list ds =>
      obtain ⟨a, xs, rfl, h, r1⟩ := rp_lst r
      cases e
      exact .inl ⟨xs, h.sq, by rw [rpAll_empty r1]⟩
    | tuple ds =>
      obtain ⟨a, xs, rfl, h, r1⟩ := rp_tup r
      cases e
      exact .inr (.inl ⟨xs, h, by rw [rpAll_empty r1]⟩)
    | dict kvs => cases e
  | loc n =>
    obtain ⟨a, h, rfl⟩ := r
    simp only [truD] at e
    split at e
    · rename_i ws hs
      cases e
      obtain ⟨b, hb, vs, hv, pr⟩ := q.obs n _ hs
      rw [h] at hb; cases hb
      exact .inl ⟨vs, .of hv, by rw [paired_empty pr]⟩
    · rename_i ws hs
      cases e
      obtain ⟨b, hb, vs, hv, pr⟩ := q.obs n _ hs
      rw [h] at hb; cases hb
      exact .inr (.inr ⟨vs, hv, by rw [paired_empty pr]⟩)
    · cases e
theorem dt_tru (ha : PE X a (rdE X.K A)) (he : ∀ whole, isTrue a X.env whole = (do let v ← whole; standAt a.pos; holding [v] (truthy v)) := by intro _; rfl) : PT X a (rdT X.K (tTru A)) :=
  wkT (pt_truth ha he) fun σ H Q q => by
    obtain ⟨m, S, ρ, b, S', q, e, p⟩ := q
    obtain ⟨⟨wx, S1⟩, e1, e2⟩ := Option.bind_eq_some_iff.mp e
    obtain ⟨c, e3, e4⟩ := Option.bind_eq_some_iff.mp e2
    cases e4
    exact ⟨m, S, ρ, wx, _, q, e1, fun ext H1 x f q1 fr r => ⟨_, truD_of q1 r e3, (p.at f q1 fr).now q1⟩⟩

/-! ### and, or, not, if else as values -/
def vAnd (A B : ME) : ME := fun ρ S => (A ρ S).bind fun p => match p.1 with
  | .d (.bool c) => if c = true then B ρ p.2 else some (.d (.bool false), p.2)
  | _ => none
def vOr (A B : ME) : ME := fun ρ S => (A ρ S).bind fun p => match p.1 with
  | .d (.bool c) => if c = true then some (.d (.bool true), p.2) else B ρ p.2
  | _ => none
def vNot (A : ME) : ME := fun ρ S => (A ρ S).bind fun p => match p.1 with
  | .d (.bool c) => some (.d (.bool (!c)), p.2)
  | _ => none
def vIf (T : MT) (A B : ME) : ME := fun ρ S => (T ρ S).bind fun p => if p.1 = true then A ρ p.2 else B ρ p.2
theorem de_and (ha : PE X a (rdE X.K A)) (hb : PE X (.BoolOp .And (b :: rest) pos) (rdE X.K B)) : PE X (.BoolOp .And (a :: b :: rest) pos) (rdE X.K (vAnd A B)) := wkE (pe_and ha hb) fun σ H Q q => by
  obtain ⟨m, S, ρ, w, S', q, e, p⟩ := q
  obtain ⟨⟨wx, S1⟩, e1, e2⟩ := Option.bind_eq_some_iff.mp e
  refine ⟨m, S, ρ, wx, S1, q, e1, fun ext H1 x f q1 fr r => ?_⟩
  simp only at e2
  split at e2
  · rename_i c
    obtain rfl := rp_bl r
    refine ⟨_, rfl, ?_⟩
    cases c with
    | true => exact ⟨_, S1, ρ, w, S', q1, by simpa using e2, p.at f q1 fr⟩
    | false =>
      simp only [Bool.false_eq_true, if_false] at e2
      cases e2
      exact (p.at f q1 fr).now q1 (.bl _)
  · cases e2
theorem de_or (ha : PE X a (rdE X.K A)) (hb : PE X (.BoolOp .Or (b :: rest) pos) (rdE X.K B)) : PE X (.BoolOp .Or (a :: b :: rest) pos) (rdE X.K (vOr A B)) := wkE (pe_or ha hb) fun σ H Q q => by
  obtain ⟨m, S, ρ, w, S', q, e, p⟩ := q
  obtain ⟨⟨wx, S1⟩, e1, e2⟩ := Option.bind_eq_some_iff.mp e
  refine ⟨m, S, ρ, wx, S1, q, e1, fun ext H1 x f q1 fr r => ?_⟩
  simp only at e2
  split at e2
  · rename_i c
    obtain rfl := rp_bl r
    refine ⟨_, rfl, ?_⟩
    cases c with
    | false => exact ⟨_, S1, ρ, w, S', q1, by simpa using e2, p.at f q1 fr⟩
    | true =>
      simp only [if_true] at e2
      cases e2
      exact (p.at f q1 fr).now q1 (.bl _)
  · cases e2
theorem de_one {op} (ha : PE X a (rdE X.K A)) : PE X (.BoolOp op [a] pos) (rdE X.K A) := pe_one ha
theorem de_not (ha : PE X a (rdE X.K A)) : PE X (.UnaryOp .Not a pos) (rdE X.K (vNot A)) := wkE (pe_not ha) fun σ H Q q => by
  obtain ⟨m, S, ρ, w, S', q, e, p⟩ := q
  obtain ⟨⟨wx, S1⟩, e1, e2⟩ := Option.bind_eq_some_iff.mp e
  refine ⟨m, S, ρ, wx, S1, q, e1, fun ext H1 x f q1 fr r => ?_⟩
  simp only at e2
  split at e2
  · cases e2
    obtain rfl := rp_bl r
    exact ⟨_, rfl, (p.at f q1 fr).now q1 (.bl _)⟩
  · cases e2
theorem de_if (hc : PT X c (rdT X.K T)) (ha : PE X a (rdE X.K A)) (hb : PE X b (rdE X.K B)) : PE X (.IfExp c a b pos) (rdE X.K (vIf T A B)) := wkE (pe_ifExp hc ha hb) fun σ H Q q => by
  obtain ⟨m, S, ρ, w, S', q, e, p⟩ := q
  obtain ⟨⟨c, S1⟩, e1, e2⟩ := Option.bind_eq_some_iff.mp e
  refine ⟨m, S, ρ, c, S1, q, e1, fun ext H1 f q1 fr => ?_⟩
  cases c with
  | true => exact ⟨_, S1, ρ, w, S', q1, by simpa using e2, p.at f q1 fr⟩
  | false => exact ⟨_, S1, ρ, w, S', q1, by simpa using e2, p.at f q1 fr⟩

/-! ### chains -/
def vChain (f g : W → W → Sto → Option (W × Sto)) (A B C : ME) : ME := fun ρ S => (A ρ S).bind fun p => (B ρ p.2).bind fun q => (f p.1 q.1 q.2).bind fun z => match z.1 with
  | .d (.bool k) => if k = true then (C ρ z.2).bind fun r => g q.1 r.1 r.2 else some (.d (.bool false), z.2)
  | _ => none
theorem rd_chain {f g : W → W → Sto → Option (W × Sto)} {K : PySem.W.Frag} {σ : L2.St} {H : Hp} {Q : VK} (h : rdE K (vChain f g A B C) σ H Q) : tChain (rOp K f) (rOp K g) (rdE K A) (rdE K B) (rdE K C) σ H Q := by
  obtain ⟨m, S, ρ, w, S', q, e, p⟩ := h
  obtain ⟨⟨wx, S1⟩, e1, e⟩ := Option.bind_eq_some_iff.mp e
  obtain ⟨⟨wy, S2⟩, e2, e⟩ := Option.bind_eq_some_iff.mp e
  obtain ⟨⟨wz, S3⟩, e3, e⟩ := Option.bind_eq_some_iff.mp e
  refine ⟨m, S, ρ, wx, S1, q, e1, fun ext H1 x f1 q1 fr1 r1 => ⟨_, S1, ρ, wy, S2, q1, e2, fun ext2 H2 y f2 q2 fr2 r2 => ?_⟩⟩
  have p1 := p.at f1 q1 fr1
  have p2 := p1.at f2 q2 fr2
  refine ⟨_, S2, ρ, σ, wx, wy, wz, S3, q2, r1.mono fr2.kp, r2, e3, fun ext3 H3 z f3 q3 fr3 r3 => ?_⟩
  have p3 := p2.at f3 q3 fr3
  simp only at e
  split at e
  · rename_i k
    obtain rfl := rp_bl r3
    refine ⟨_, rfl, ?_⟩
    cases k with
    | false =>
      simp only [Bool.false_eq_true, if_false] at e
      cases e
      exact p3.now q3 (.bl _)
    | true =>
      simp only [if_true] at e
      obtain ⟨⟨wc, S4⟩, e4, e5⟩ := Option.bind_eq_some_iff.mp e
      exact ⟨_, S3, ρ, wc, S4, q3, e4, fun ext4 H4 z f4 q4 fr4 r4 => ⟨_, S4, ρ, σ, wy, wc, w, S', q4, (r2.mono fr3.kp).mono fr4.kp, r4, e5, p3.at f4 q4 fr4⟩⟩
  · cases e
theorem de_chain {op op' : CmpOp} {f g : W → W → Sto → Option (W × Sto)} (ho : OpR X (compareOp op) (rOp X.K f)) (ho' : OpR X (compareOp op') (rOp X.K g)) (ha : PE X a (rdE X.K A)) (hb : PE X b (rdE X.K B)) (hc : PE X c (rdE X.K C))
    (hm : lastMarks [op, op'] [b, c] = false := by with_unfolding_all rfl) : PE X (.Compare a [op, op'] [b, c] pos) (rdE X.K (vChain f g A B C)) := wkE (pe_chain ho ho' ha hb hc hm) fun σ H Q q => rd_chain q
theorem dt_chain {op op' : CmpOp} {f g : W → W → Sto → Option (W × Sto)} (ho : OpR X (compareOp op) (rOp X.K f)) (ho' : OpR X (compareOp op') (rOp X.K g)) (ha : PE X a (rdE X.K A)) (hb : PE X b (rdE X.K B)) (hc : PE X c (rdE X.K C))
    (hm : lastMarks [op, op'] [b, c] = false := by with_unfolding_all rfl) : PT X (.Compare a [op, op'] [b, c] pos) (rdT X.K (tOf (vChain f g A B C))) := wkT (pt_chain ho ho' ha hb hc hm) fun σ H Q q => rd_chain (rd_tof q)
end
end DL
end
noncomputable section
namespace DL
open PySem PySem.Spec PyProof.Rows L2

section
variable {X : Cx} {e a b c : Expr} {rest es : List Expr} {pos : Pos} {A B C : ME} {T U : MT} {R : MA}

/-! ### subscripts -/
def idxD : W → W → Sto → Option (W × Sto)
  | .d (.list ds), .d (.int i), S => (atI ds i).map fun x => (.d x, S)
  | .d (.tuple ds), .d (.int i), S => (atI ds i).map fun x => (.d x, S)
  | .loc n, .d (.int i), S => match S[n]? with
    | some (.lst ws) => (atI ws i).map fun w => (w, S)
    | _ => none
  | _, _, _ => none
theorem rpAll_at {K : PySem.W.Frag} {H : Hp} {vs : List V} {ds : List PyData} {i : Int} {x : PyData} (r : RpAll K H vs ds) (e : atI ds i = some x) : ∃ v, atI vs i = some v ∧ Rp K H v x := by
  unfold atI at *
  rw [r.length]
  obtain ⟨j, e1, e2⟩ := Option.bind_eq_some_iff.mp e
  obtain ⟨v, h1, h2⟩ := r.get e2
  exact ⟨v, by rw [e1]; exact h1, h2⟩
theorem paired_getR {α β : Type} {F : α → β → Prop} : ∀ {xs : List α} {ys : List β} {i : Nat} {y : β}, Paired F xs ys → ys[i]? = some y → ∃ x, xs[i]? = some x ∧ F x y
  | _, _, _, _, .nil, e => by simp at e
  | _, _, 0, _, .cons r _, e => by simp at e; subst e; exact ⟨_, rfl, r⟩
  | _, _, i + 1, y, .cons _ t, e => by
    obtain ⟨v, h1, h2⟩ := paired_getR (i := i) (y := y) t (by simpa using e)
    exact ⟨v, by simpa using h1, h2⟩
theorem paired_at {α β : Type} {F : α → β → Prop} {vs : List α} {ds : List β} {i : Int} {x : β} (r : Paired F vs ds) (e : atI ds i = some x) : ∃ v, atI vs i = some v ∧ F v x := by
  unfold atI at *
  rw [r.length]
  obtain ⟨j, e1, e2⟩ := Option.bind_eq_some_iff.mp e
  obtain ⟨v, h1, h2⟩ := paired_getR r e2
  exact ⟨v, by rw [e1]; exact h1, h2⟩
theorem ix_D : IxR X (rOp X.K idxD) := by
  intro value slice pins s σ H x y v u Q I rx ry h hs
  obtain ⟨m, S, ρ, σ', wx, wy, w, S', q, hx, hy, e, p⟩ := h
  unfold idxD at e
  split at e
  · obtain ⟨z, e1, e2⟩ := Option.map_eq_some_iff.mp e
    cases e2
    obtain ⟨t, xs, rfl, h1, r1⟩ := rp_lst hx
    obtain rfl := rp_int hy
    obtain ⟨v2, h2, r2⟩ := rpAll_at r1 e1
    exact ix_list value slice pins s σ H _ _ v u Q I rx ry ⟨t, xs, _, v2, rfl, rfl, h1.sq, h2, p.now q r2⟩ hs
  · obtain ⟨z, e1, e2⟩ := Option.map_eq_some_iff.mp e
    cases e2
    obtain ⟨t, xs, rfl, h1, r1⟩ := rp_tup hx
    obtain rfl := rp_int hy
    obtain ⟨v2, h2, r2⟩ := rpAll_at r1 e1
    exact ix_tup value slice pins s σ H _ _ v u Q I rx ry ⟨t, xs, _, v2, rfl, rfl, h1, h2, p.now q r2⟩ hs
  · split at e
    · rename_i ws hws
      obtain ⟨z, e1, e2⟩ := Option.map_eq_some_iff.mp e
      cases e2
      obtain ⟨t, ht, rfl⟩ := hx
      obtain rfl := rp_int hy
      obtain ⟨t2, ht2, vs, hv, pr⟩ := q.obs _ _ hws
      rw [ht] at ht2; cases ht2
      obtain ⟨v2, h2, r2⟩ := paired_at pr e1
      exact ix_list value slice pins s σ H _ _ v u Q I rx ry ⟨t, vs, _, v2, rfl, rfl, .of hv, h2, p.now q r2⟩ hs
    · cases e
  · cases e
theorem de_ix (ha : PE X a (rdE X.K A)) (hb : PE X b (rdE X.K B)) (hs : PlainIx b := by exact fun _ _ => rfl) : PE X (.Subscript a b pos) (rdE X.K (mBin idxD A B)) := wkE (pe_ix ix_D ha hb hs) fun σ H Q q => binE q

/-! ### slices -/
abbrev MO := DEnv → Sto → Option (Option Int × Sto)
def oNo : MO := fun _ S => some (none, S)
def oYes (A : ME) : MO := fun ρ S => (A ρ S).bind fun p => match p.1 with
  | .d (.int i) => some (some i, p.2)
  | _ => none
def PostO (K : PySem.W.Frag) (m : List Addr) (S' : Sto) (ρ : DEnv) (σ : L2.St) (H : Hp) (o : Option Int) (Q : Option Int → Hp → Prop) : Prop :=
  ∀ ext H', Fresh ext H → Sim K (m ++ ext) S' ρ σ H' → Fr m H H' → Q o H'
def rdO (K : PySem.W.Frag) (f : MO) : TO := fun σ H Q => ∃ m S ρ o S', Sim K m S ρ σ H ∧ f ρ S = some (o, S') ∧ PostO K m S' ρ σ H o Q
theorem do_no : PO X none (rdO X.K oNo) := ⟨fun pins s σ H Q I h => po_none.run pins s σ H Q I (by
  obtain ⟨m, S, ρ, o, S', q, e, p⟩ := h
  cases e
  exact p [] H (fun _ h => absurd h (by simp)) (by rwa [List.append_nil]) Fr.refl)⟩
theorem do_yes (ha : PE X a (rdE X.K A)) : PO X (some a) (rdO X.K (oYes A)) := ⟨fun pins s σ H Q I h => (po_some ha).run pins s σ H Q I (by
  obtain ⟨m, S, ρ, o, S', q, e, p⟩ := h
  obtain ⟨⟨wx, S1⟩, e1, e2⟩ := Option.bind_eq_some_iff.mp e
  refine ⟨m, S, ρ, wx, S1, q, e1, fun ext H1 x f q1 fr r => ?_⟩
  simp only at e2
  split at e2
  · cases e2
    obtain rfl := rp_int r
    exact ⟨_, rfl, p ext H1 f q1 fr⟩
  · cases e2)⟩
def cutD {α : Type} (xs : List α) (lo hi : Option Int) : List α := (xs.drop (HT.sIx xs.length 0 lo)).take (HT.sIx xs.length xs.length hi - HT.sIx xs.length 0 lo)
def sliceD : W → Option Int → Option Int → Sto → Option (W × Sto)
  | .d (.list ds), lo, hi, S => some (.d (.list (cutD ds lo hi)), S)
  | .d (.tuple ds), lo, hi, S => some (.d (.tuple (cutD ds lo hi)), S)
  | .loc n, lo, hi, S => match S[n]? with
    | some (.lst ws) => (allD ws).bind fun ds => some (.d (.list (cutD ds lo hi)), S)
    | _ => none
  | _, _, _, _ => none
def mSl (A : ME) (L U : MO) : ME := fun ρ S => (A ρ S).bind fun p => (L ρ p.2).bind fun l => (U ρ l.2).bind fun u => sliceD p.1 l.1 u.1 u.2
def rSl (K : PySem.W.Frag) : V → Option Int → Option Int → Hp → VK → Prop := fun x lo hi H Q => ∃ m S ρ σ wx w S', Sim K m S ρ σ H ∧ RW K m H x wx ∧ sliceD wx lo hi S = some (w, S') ∧ Post K m S' ρ σ H w Q
theorem rpAll_cut {K : PySem.W.Frag} {H : Hp} {vs : List V} {ds : List PyData} (r : RpAll K H vs ds) (lo hi : Option Int) : RpAll K H (cutV vs lo hi) (cutD ds lo hi) := by
  unfold cutV cutD
  rw [r.length]
  exact (r.drop _).take _
theorem sl_D : SlR X (rSl X.K) := by
  intro pins s σ H x v vl vu lo hi sl Q I rx hs pl pu h
  obtain ⟨m, S, ρ, σ', wx, w, S', q, hx, e, p⟩ := h
  unfold sliceD at e
  split at e
  · cases e
    obtain ⟨t, xs, rfl, h1, r1⟩ := rp_lst hx
    exact slFrz sl_list pins s σ H _ v vl vu _ _ sl Q I rx hs pl pu ⟨t, xs, rfl, h1.sq, fun t ht => newL p q (rpAll_cut r1 _ _) t ht⟩
  · cases e
    obtain ⟨t, xs, rfl, h1, r1⟩ := rp_tupH hx
    refine sl_tupA pins s σ H _ v vl vu _ _ sl Q I rx hs pl pu ⟨t, xs, rfl, .inl (.of h1), fun hw => ?_, fun _ t ht => newT p q (rpAll_cut r1 _ _) t ht⟩
    refine p.now q ?_
    have e : ∀ ds : List PyData, RpAll X.K H xs ds → cutD ds lo hi = ds := fun ds r => by
      unfold cutD
      rw [← r.length, hw.1, hw.2]
      simp [r.length]
    rw [e _ r1]
    exact .tup h1 r1
  · split at e
    · rename_i ws hws
      obtain ⟨ds, e1, e2⟩ := Option.bind_eq_some_iff.mp e
      cases e2
      obtain ⟨t, ht, rfl⟩ := hx
      obtain ⟨t2, ht2, vs, hv, pr⟩ := q.obs _ _ hws
      rw [ht] at ht2; cases ht2
      exact slFrz sl_list pins s σ H _ v vl vu _ _ sl Q I rx hs pl pu ⟨t, vs, rfl, .of hv, fun t ht => newL p q (rpAll_cut (allD_of e1 pr) _ _) t ht⟩
    · cases e
  · cases e
theorem de_sl {lo hi : Option Expr} {p2 : Pos} {L U : MO} (ha : PE X a (rdE X.K A)) (hl : PO X lo (rdO X.K L)) (hu : PO X hi (rdO X.K U)) : PE X (.Subscript a (.Slice lo hi none p2) pos) (rdE X.K (mSl A L U)) := wkE (pe_slice sl_D ha hl hu) fun σ H Q q => by
  obtain ⟨m, S, ρ, w, S', q, e, p⟩ := q
  obtain ⟨⟨wx, S1⟩, e1, e⟩ := Option.bind_eq_some_iff.mp e
  obtain ⟨⟨l, S2⟩, e2, e⟩ := Option.bind_eq_some_iff.mp e
  obtain ⟨⟨u, S3⟩, e3, e⟩ := Option.bind_eq_some_iff.mp e
  refine ⟨m, S, ρ, wx, S1, q, e1, fun ext H1 x f1 q1 fr1 r1 => ⟨_, S1, ρ, l, S2, q1, e2, fun ext2 H2 f2 q2 fr2 => ⟨_, S2, ρ, u, S3, q2, e3, fun ext3 H3 f3 q3 fr3 => ?_⟩⟩⟩
  exact ⟨_, S3, ρ, σ, wx, w, S', q3, (r1.mono fr2.kp).mono fr3.kp, e, ((p.at f1 q1 fr1).at f2 q2 fr2).at f3 q3 fr3⟩

/-! ### calls of built-ins -/
theorem de_callB {f : List W → Sto → Option (W × Sto)} {x : Str} {id : String} {p : Pos} (hc : CallR X (.builtin id) (rC X.K f)) (hg : Gl X x) (hm : X.mg x = none) (hv : bootBuiltins x = some (.builtin id)) (ha : PA X (e :: es) (rdA X.K R)) (hn : x ≠ "__name__" := by decide) (hdb : (x == ("__debug__" : Str)) = false := by decide)
    (he : starEach (e :: es) X.env = (false, eval e X.env) :: starEach es X.env := by rfl) (hpl : (backTo pos (starEach es X.env)).any (·.1) = false := by rfl) : PE X (.Call (.Name x p) (e :: es) [] pos) (rdE X.K (mCall f R)) :=
  wkE (pe_callB hc hg hm hv ha hn hdb he hpl) fun σ H Q q => callE q fun _ _ h => h
theorem de_callTy {f : List W → Sto → Option (W × Sto)} {x : Str} {T : String} {p : Pos} (hc : CallR X (.type T) (rC X.K f)) (hg : Gl X x) (hm : X.mg x = none) (hv : bootBuiltins x = some (.type T)) (ha : PA X (e :: es) (rdA X.K R)) (hn : x ≠ "__name__" := by decide) (hdb : (x == ("__debug__" : Str)) = false := by decide)
    (he : starEach (e :: es) X.env = (false, eval e X.env) :: starEach es X.env := by rfl) (hpl : (backTo pos (starEach es X.env)).any (·.1) = false := by rfl) : PE X (.Call (.Name x p) (e :: es) [] pos) (rdE X.K (mCall f R)) :=
  wkE (pe_callTy hc hg hm hv ha hn hdb he hpl) fun σ H Q q => callE q fun _ _ h => h
theorem prd1 {K : PySem.W.Frag} {m : List Addr} {H : Hp} {vs : List V} {w : W} (r : Paired (RW K m H) vs [w]) : ∃ v, vs = [v] ∧ RW K m H v w := by
  cases r with
  | cons r t => cases t; exact ⟨_, rfl, r⟩
theorem prd2 {K : PySem.W.Frag} {m : List Addr} {H : Hp} {vs : List V} {w w' : W} (r : Paired (RW K m H) vs [w, w']) : ∃ v v', vs = [v, v'] ∧ RW K m H v w ∧ RW K m H v' w' := by
  cases r with
  | cons r t =>
    obtain ⟨v, rfl, r2⟩ := prd1 t
    exact ⟨_, _, rfl, r, r2⟩
/-- one argument -/
def on1 (f : W → Sto → Option (W × Sto)) : List W → Sto → Option (W × Sto)
  | [w], S => f w S
  | _, _ => none
theorem rC1 {K : PySem.W.Frag} {f : W → Sto → Option (W × Sto)} {vs : List V} {H : Hp} {Q : VK} (h : rC K (on1 f) vs H Q) : ∃ m S ρ σ w0 w S' v, vs = [v] ∧ Sim K m S ρ σ H ∧ RW K m H v w0 ∧ f w0 S = some (w, S') ∧ Post K m S' ρ σ H w Q := by
  obtain ⟨m, S, ρ, σ, ws, w, S', q, r, e, p⟩ := h
  unfold on1 at e
  split at e
  · obtain ⟨v, rfl, r1⟩ := prd1 r
    exact ⟨m, S, ρ, σ, _, w, S', v, rfl, q, r1, e, p⟩
  · cases e
def len0 (S : Sto) : W → Option Nat
  | .d (.str y) => if y.length ≤ sizeLine then some y.length else none
  | .d (.list ds) => some ds.length
  | .d (.tuple ds) => some ds.length
  | .loc n => match S[n]? with
    | some (.lst ws) => some ws.length
    | _ => none
  | _ => none
def lenD := on1 fun w S => (len0 S w).map fun n => (.d (.int (n : Nat)), S)
theorem call_lenDD : CallR X (.builtin "len") (rC X.K lenD) := by
  intro pins s σ H vs us Q I rx h
  obtain ⟨m, S, ρ, σ', w0, w, S', v, rfl, q, r, e, p⟩ := rC1 h
  obtain ⟨n, e1, e2⟩ := Option.map_eq_some_iff.mp e
  cases e2
  refine call_len pins s σ H _ us Q I rx ⟨v, n, rfl, ?_, p.now q (.int _)⟩
  cases w0 with
  | d x =>
    cases x with
    | str y =>
      obtain rfl := rp_str r
      simp only [len0] at e1
      split at e1
      · cases e1; exact ⟨by assumption, rfl⟩
      · cases e1
    | list ds =>
      obtain ⟨a, xs, rfl, h, r1⟩ := rp_lst r
      cases e1
      exact .inl ⟨xs, h.sq, r1.length.symm⟩
    | tuple ds =>
      obtain ⟨a, xs, rfl, h, r1⟩ := rp_tup r
      cases e1
      exact .inr ⟨xs, h, r1.length.symm⟩
    | none => cases e1
    | bool _ => cases e1
    | int _ => cases e1
    | dict _ => cases e1
  | loc n =>
    obtain ⟨a, hm, rfl⟩ := r
    simp only [len0] at e1
    split at e1
    · rename_i ws hs
      cases e1
      obtain ⟨b, hb, vs, hv, pr⟩ := q.obs _ _ hs
      rw [hm] at hb; cases hb
      exact .inl ⟨vs, .of hv, pr.length.symm⟩
    · cases e1
def intD := on1 fun w S => match w with
  | .d (.int i) => some (.d (.int i), S)
  | .d (.bool b) => some (.d (.int (if b then 1 else 0)), S)
  | _ => none
theorem call_intDD : CallR X (.type "int") (rC X.K intD) := by
  intro pins s σ H vs us Q I rx h
  obtain ⟨m, S, ρ, σ', w0, w, S', v, rfl, q, r, e, p⟩ := rC1 h
  split at e
  · cases e
    obtain rfl := rp_int r
    exact call_int1 pins s σ H _ us Q I rx (.inl ⟨_, rfl, p.now q (.int _)⟩)
  · cases e
    obtain rfl := rp_bl r
    exact call_int1 pins s σ H _ us Q I rx (.inr ⟨_, rfl, p.now q (.int _)⟩)
  · cases e
def absD := on1 fun w S => match w with
  | .d (.int i) => some (.d (.int (if i < 0 then -i else i)), S)
  | _ => none
theorem call_absDD : CallR X (.builtin "abs") (rC X.K absD) := by
  intro pins s σ H vs us Q I rx h
  obtain ⟨m, S, ρ, σ', w0, w, S', v, rfl, q, r, e, p⟩ := rC1 h
  split at e
  · cases e
    obtain rfl := rp_int r
    exact call_abs pins s σ H _ us Q I rx ⟨_, rfl, p.now q (.int _)⟩
  · cases e
def ii2 (g : Int → Int → Int) : List W → Sto → Option (W × Sto)
  | [.d (.int i), .d (.int j)], S => some (.d (.int (g i j)), S)
  | _, _ => none
theorem call_ii2 {f : Value} {g : Int → Int → Int} (h : CallR X f (fun xs H Q => ∃ i j, xs = [.int i, .int j] ∧ Q (.int (g i j)) H)) : CallR X f (rC X.K (ii2 g)) := by
  intro pins s σ H vs us Q I rx h2
  obtain ⟨m, S, ρ, σ', ws, w, S', q, r, e, p⟩ := h2
  unfold ii2 at e
  split at e
  · cases e
    obtain ⟨v, v', rfl, r1, r2⟩ := prd2 r
    obtain rfl := rp_int r1
    obtain rfl := rp_int r2
    exact h pins s σ H _ us Q I rx ⟨_, _, rfl, p.now q (.int _)⟩
  · cases e
/-- tuple(x) -/
def tupleD := on1 fun w S => match w with
  | .d (.tuple ds) => some (.d (.tuple ds), S)
  | w => (deref S w).bind fun d => match d with
    | .list ds => some (.d (.tuple ds), S)
    | _ => none
theorem deref_list {K : PySem.W.Frag} {m : List Addr} {S : Sto} {ρ : DEnv} {σ : L2.St} {H : Hp} {v : V} {w : W} {ds : List PyData} (q : Sim K m S ρ σ H) (r : RW K m H v w) (e : deref S w = some (.list ds)) : ∃ a xs, v = .ref a ∧ SqL K H a xs ∧ RpAll K H xs ds := by
  cases w with
  | d x =>
    cases e
    obtain ⟨a, xs, rfl, h, r1⟩ := rp_lst r
    exact ⟨a, xs, rfl, h.sq, r1⟩
  | loc n =>
    obtain ⟨a, h, rfl⟩ := r
    simp only [deref] at e
    split at e
    · rename_i ws hs
      obtain ⟨ds, e1, e2⟩ := Option.map_eq_some_iff.mp e
      cases e2
      obtain ⟨b, hb, vs, hv, pr⟩ := q.obs n _ hs
      rw [h] at hb; cases hb
      exact ⟨a, vs, rfl, .of hv, allD_of e1 pr⟩
    · cases e
theorem call_tupleDD : CallR X (.type "tuple") (rC X.K tupleD) := by
  intro pins s σ H vs us Q I rx h
  obtain ⟨m, S, ρ, σ', w0, w, S', v, rfl, q, r, e, p⟩ := rC1 h
  split at e
  · cases e
    obtain ⟨a, xs, rfl, h, r1⟩ := rp_tupH r
    exact call_tuple_of pins s σ H _ us Q I rx ⟨a, xs, rfl, .inr ⟨.inl (.of h), p.now q (.tup h r1)⟩⟩
  · obtain ⟨d, e1, e2⟩ := Option.bind_eq_some_iff.mp e
    split at e2
    · cases e2
      obtain ⟨a, xs, rfl, h, r1⟩ := deref_list q r e1
      exact call_tuple_of pins s σ H _ us Q I rx ⟨a, xs, rfl, .inl ⟨h, fun t ht => newT p q r1 t ht⟩⟩
    · cases e2
/-- list(x): a new list, locked, or an object -/
def seqOf (S : Sto) : W → Option (List PyData)
  | .d (.tuple ds) => some ds
  | w => (deref S w).bind fun d => match d with
    | .list ds => some ds
    | _ => none
theorem seqOf_of {K : PySem.W.Frag} {m : List Addr} {S : Sto} {ρ : DEnv} {σ : L2.St} {H : Hp} {v : V} {w : W} {ds : List PyData} (q : Sim K m S ρ σ H) (r : RW K m H v w) (e : seqOf S w = some ds) : ∃ a xs, v = .ref a ∧ (SqL K H a xs ∨ SqT K H a xs) ∧ RpAll K H xs ds := by
  unfold seqOf at e
  split at e
  · cases e
    obtain ⟨a, xs, rfl, h, r1⟩ := rp_tup r
    exact ⟨a, xs, rfl, .inr h, r1⟩
  · obtain ⟨d, e1, e2⟩ := Option.bind_eq_some_iff.mp e
    split at e2
    · cases e2
      obtain ⟨a, xs, rfl, h, r1⟩ := deref_list q r e1
      exact ⟨a, xs, rfl, .inl h, r1⟩
    · cases e2
def listD := on1 fun w S => (seqOf S w).map fun ds => (.d (.list ds), S)
def listB := on1 fun w S => (seqOf S w).map fun ds => (.loc S.length, S ++ [.lst (ds.map W.d)])
theorem call_listDD : CallR X (.type "list") (rC X.K listD) := by
  intro pins s σ H vs us Q I rx h
  obtain ⟨m, S, ρ, σ', w0, w, S', v, rfl, q, r, e, p⟩ := rC1 h
  obtain ⟨ds, e1, e2⟩ := Option.map_eq_some_iff.mp e
  cases e2
  obtain ⟨a, xs, rfl, h, r1⟩ := seqOf_of q r e1
  exact callFrz call_list_of pins s σ H _ us Q I rx ⟨a, xs, rfl, h, fun t ht => newL p q r1 t ht⟩
theorem call_listBB : CallR X (.type "list") (rC X.K listB) := by
  intro pins s σ H vs us Q I rx h
  obtain ⟨m, S, ρ, σ', w0, w, S', v, rfl, q, r, e, p⟩ := rC1 h
  obtain ⟨ds, e1, e2⟩ := Option.map_eq_some_iff.mp e
  cases e2
  obtain ⟨a, xs, rfl, h, r1⟩ := seqOf_of q r e1
  exact call_list_of pins s σ H _ us Q I rx ⟨a, xs, rfl, h, fun t ht => newB p q (rpAll_rw r1) t ht⟩
/-- lists of ints, of bools -/
def intsD : List PyData → Option (List Int)
  | [] => some []
  | .int i :: ds => (intsD ds).map (i :: ·)
  | _ :: _ => none
def blsD : List PyData → Option (List Bool)
  | [] => some []
  | .bool i :: ds => (blsD ds).map (i :: ·)
  | _ :: _ => none
theorem intsD_of {K : PySem.W.Frag} {H : Hp} : ∀ {ds : List PyData} {ns : List Int} {vs : List V}, intsD ds = some ns → RpAll K H vs ds → vs = ns.map V.int
  | [], _, _, e, .nil => by cases e; rfl
  | .int i :: ds, ns, _, e, .cons r t => by
    simp only [intsD, Option.map_eq_some_iff] at e
    obtain ⟨es, e1, rfl⟩ := e
    obtain rfl := rp_int r
    rw [intsD_of e1 t]; rfl
  | .none :: _, _, _, e, _ => by cases e
  | .bool _ :: _, _, _, e, _ => by cases e
  | .str _ :: _, _, _, e, _ => by cases e
  | .list _ :: _, _, _, e, _ => by cases e
  | .tuple _ :: _, _, _, e, _ => by cases e
  | .dict _ :: _, _, _, e, _ => by cases e
theorem blsD_of {K : PySem.W.Frag} {H : Hp} : ∀ {ds : List PyData} {ns : List Bool} {vs : List V}, blsD ds = some ns → RpAll K H vs ds → vs = ns.map V.bl
  | [], _, _, e, .nil => by cases e; rfl
  | .bool i :: ds, ns, _, e, .cons r t => by
    simp only [blsD, Option.map_eq_some_iff] at e
    obtain ⟨es, e1, rfl⟩ := e
    obtain rfl := rp_bl r
    rw [blsD_of e1 t]; rfl
  | .none :: _, _, _, e, _ => by cases e
  | .int _ :: _, _, _, e, _ => by cases e
  | .str _ :: _, _, _, e, _ => by cases e
  | .list _ :: _, _, _, e, _ => by cases e
  | .tuple _ :: _, _, _, e, _ => by cases e
  | .dict _ :: _, _, _, e, _ => by cases e
def sumD := on1 fun w S => (deref S w).bind fun d => match d with
  | .list ds => (intsD ds).map fun ns => (.d (.int ns.sum), S)
  | _ => none
theorem call_sumDD (hc : X.calm = true) : CallR X (.builtin "sum") (rC X.K sumD) := by
  intro pins s σ H vs us Q I rx h
  obtain ⟨m, S, ρ, σ', w0, w, S', v, rfl, q, r, e, p⟩ := rC1 h
  obtain ⟨d, e1, e⟩ := Option.bind_eq_some_iff.mp e
  split at e
  · obtain ⟨ns, e2, e3⟩ := Option.map_eq_some_iff.mp e
    cases e3
    obtain ⟨a, xs, rfl, h, r1⟩ := deref_list q r e1
    obtain rfl := intsD_of e2 r1
    exact cr_sum hc pins s σ H _ us Q I rx ⟨a, ns, rfl, h, p.now q (.int _)⟩
  · cases e
def allDD := on1 fun w S => (deref S w).bind fun d => match d with
  | .list ds => (blsD ds).map fun ns => (.d (.bool (ns.all id)), S)
  | _ => none
def anyDD := on1 fun w S => (deref S w).bind fun d => match d with
  | .list ds => (blsD ds).map fun ns => (.d (.bool (ns.any id)), S)
  | _ => none
theorem call_allDD (hc : X.calm = true) : CallR X (.builtin "all") (rC X.K allDD) := by
  intro pins s σ H vs us Q I rx h
  obtain ⟨m, S, ρ, σ', w0, w, S', v, rfl, q, r, e, p⟩ := rC1 h
  obtain ⟨d, e1, e⟩ := Option.bind_eq_some_iff.mp e
  split at e
  · obtain ⟨ns, e2, e3⟩ := Option.map_eq_some_iff.mp e
    cases e3
    obtain ⟨a, xs, rfl, h, r1⟩ := deref_list q r e1
    obtain rfl := blsD_of e2 r1
    exact cr_all hc pins s σ H _ us Q I rx ⟨a, ns, rfl, h, p.now q (.bl _)⟩
  · cases e
theorem call_anyDD (hc : X.calm = true) : CallR X (.builtin "any") (rC X.K anyDD) := by
  intro pins s σ H vs us Q I rx h
  obtain ⟨m, S, ρ, σ', w0, w, S', v, rfl, q, r, e, p⟩ := rC1 h
  obtain ⟨d, e1, e⟩ := Option.bind_eq_some_iff.mp e
  split at e
  · obtain ⟨ns, e2, e3⟩ := Option.map_eq_some_iff.mp e
    cases e3
    obtain ⟨a, xs, rfl, h, r1⟩ := deref_list q r e1
    obtain rfl := blsD_of e2 r1
    exact cr_any hc pins s σ H _ us Q I rx ⟨a, ns, rfl, h, p.now q (.bl _)⟩
  · cases e
end
end DL
end
noncomputable section
namespace DL
open PySem PySem.Spec PyProof.Rows L2

section
variable {K : PySem.W.Frag} {H : Hp} {m : List Addr} {S : Sto} {ρ : DEnv} {σ : L2.St} {w : W} {Q : VK} {a : Addr} {n : Nat} {ws ws' : List W} {vs vs' : List V}
theorem put_kp {o : HO} (hv : H a = some (.lst vs)) : Kp H (upd H a o) := fun b u h i => by
  by_cases e : b = a
  · subst e; rw [hv] at h; cases h; exact absurd i (fun z => z)
  · rw [upd_ne e]; exact h
theorem put_fr {o : HO} (hm : m[n]? = some a) (hv : H a = some (.lst vs)) : Fr m H (upd H a o) := fun b u h c => by
  by_cases e : b = a
  · subst e
    rw [hv] at h; cases h
    rcases c with c | c
    · exact absurd (List.mem_of_getElem? hm) c
    · exact absurd c (fun z => z)
  · rw [upd_ne e]; exact h
theorem put_sim (q : Sim K m S ρ σ H) (hm : m[n]? = some a) (hS : S[n]? = some (.lst ws)) (hv : H a = some (.lst vs)) (pr : Paired (RW K m H) vs' ws') : Sim K m (S.set n (.lst ws')) ρ σ (upd H a (.lst vs')) :=
  q.put hm (fun u h => by rw [hv] at h; cases h; exact fun z => z) (List.getElem?_eq_some_iff.mp hS).1 ⟨vs', upd_same, Paired.mapP pr fun _ _ r => r.mono0 (put_kp hv)⟩
theorem Post.put {v : V} (p : Post K m (S.set n (.lst ws')) ρ σ H w Q) (q : Sim K m S ρ σ H) (hm : m[n]? = some a) (hS : S[n]? = some (.lst ws)) (hv : H a = some (.lst vs)) (pr : Paired (RW K m H) vs' ws') (r : RW K m H v w) : Q v (upd H a (.lst vs')) :=
  p [] _ v (fun _ h => absurd h (by simp)) (by rw [List.append_nil]; exact put_sim q hm hS hv pr) (put_fr hm hv) (by rw [List.append_nil]; exact r.mono0 (put_kp hv))
theorem paired_app {α β : Type} {F : α → β → Prop} : ∀ {xs us : List α} {ys zs : List β}, Paired F xs ys → Paired F us zs → Paired F (xs ++ us) (ys ++ zs)
  | _, _, _, _, .nil, s => s
  | _, _, _, _, .cons r t, s => .cons r (paired_app t s)
theorem paired_take {α β : Type} {F : α → β → Prop} : ∀ {xs : List α} {ys : List β} (n : Nat), Paired F xs ys → Paired F (xs.take n) (ys.take n)
  | _, _, 0, _ => .nil
  | _, _, _ + 1, .nil => .nil
  | _, _, n + 1, .cons r t => .cons r (paired_take n t)
theorem paired_drop {α β : Type} {F : α → β → Prop} : ∀ {xs : List α} {ys : List β} (n : Nat), Paired F xs ys → Paired F (xs.drop n) (ys.drop n)
  | _, _, 0, r => r
  | _, _, _ + 1, .nil => .nil
  | _, _, n + 1, .cons _ t => paired_drop n t
theorem paired_rev {α β : Type} {F : α → β → Prop} : ∀ {xs : List α} {ys : List β}, Paired F xs ys → Paired F xs.reverse ys.reverse
  | _, _, .nil => .nil
  | _, _, .cons r t => by
    rw [List.reverse_cons, List.reverse_cons]
    exact paired_app (paired_rev t) (.cons r .nil)
theorem paired_set {α β : Type} {F : α → β → Prop} {x : α} {y : β} (r : F x y) : ∀ {xs : List α} {ys : List β} (i : Nat), Paired F xs ys → Paired F (xs.set i x) (ys.set i y)
  | _, _, _, .nil => .nil
  | _, _, 0, .cons _ t => .cons r t
  | _, _, i + 1, .cons q t => .cons q (paired_set r i t)
theorem paired_erase {α β : Type} {F : α → β → Prop} : ∀ {xs : List α} {ys : List β} (i : Nat), Paired F xs ys → Paired F (xs.eraseIdx i) (ys.eraseIdx i)
  | _, _, _, .nil => .nil
  | _, _, 0, .cons _ t => t
  | _, _, i + 1, .cons q t => .cons q (paired_erase i t)
theorem paired_dropLast {α β : Type} {F : α → β → Prop} {xs : List α} {ys : List β} (h : Paired F xs ys) : Paired F xs.dropLast ys.dropLast := by
  rw [List.dropLast_eq_take, List.dropLast_eq_take, h.length]
  exact paired_take _ h
end

/-! ### methods of a list of the store -/
/-- the n-th object is a list -/
def onL (f : List W → List W → Sto → Option (W × List W × Sto)) : W → List W → Sto → Option (W × Sto)
  | .loc n, us, S => match S[n]? with
    | some (.lst ws) => (f ws us S).bind fun p => some (p.1, p.2.2.set n (.lst p.2.1))
    | _ => none
  | _, _, _ => none
def isLst (S : Sto) : W → Bool
  | .loc n => match S[n]? with
    | some (.lst _) => true
    | _ => false
  | _ => false
def mMt (f : W → List W → Sto → Option (W × Sto)) (A : ME) (R : MA) : ME := fun ρ S => (A ρ S).bind fun p => if isLst p.2 p.1 = true then (R ρ p.2).bind fun q => f p.1 q.1 q.2 else none
def rM (K : PySem.W.Frag) (f : W → List W → Sto → Option (W × Sto)) : V → List V → Hp → VK → Prop := fun x vs H Q =>
  ∃ m S ρ σ wx ws w S', Sim K m S ρ σ H ∧ RW K m H x wx ∧ Paired (RW K m H) vs ws ∧ f wx ws S = some (w, S') ∧ Post K m S' ρ σ H w Q
section
variable {X : Cx} {e o a b c : Expr} {rest es : List Expr} {pos : Pos} {A B C : ME} {T U : MT} {R : MA} {f : W → List W → Sto → Option (W × Sto)}
theorem isLst_ty {K : PySem.W.Frag} {m : List Addr} {S : Sto} {ρ : DEnv} {σ : L2.St} {H : Hp} {v : V} {w : W} (q : Sim K m S ρ σ H) (r : RW K m H v w) (e : isLst S w = true) : tyV K "list" v H := by
  cases w with
  | d x => cases e
  | loc n =>
    obtain ⟨a, h, rfl⟩ := r
    simp only [isLst] at e
    split at e
    · rename_i ws hs
      obtain ⟨b, hb, vs, hv, pr⟩ := q.obs n _ hs
      rw [h] at hb; cases hb
      exact Or.inl ⟨rfl, _, .of hv⟩
    · cases e
theorem rd_mt {K : PySem.W.Frag} {σ : L2.St} {H : Hp} {Q : VK} (h : rdE K (mMt f A R) σ H Q) : tBM K "list" (rM K f) (rdE K A) (rdA K R) σ H Q := by
  obtain ⟨m, S, ρ, w, S', q, e, p⟩ := h
  obtain ⟨⟨wx, S1⟩, e1, e⟩ := Option.bind_eq_some_iff.mp e
  split at e
  · rename_i hl
    obtain ⟨⟨ws, S2⟩, e2, e3⟩ := Option.bind_eq_some_iff.mp e
    refine ⟨m, S, ρ, wx, S1, q, e1, fun ext H1 x f1 q1 fr1 r1 => ⟨isLst_ty q1 r1 hl, _, S1, ρ, ws, S2, q1, e2, fun ext2 H2 vs f2 q2 fr2 r2 => ?_⟩⟩
    exact ⟨_, S2, ρ, σ, wx, ws, w, S', q2, r1.mono fr2.kp, r2, e3, (p.at f1 q1 fr1).at f2 q2 fr2⟩
  · cases e
theorem rd_mt0 {K : PySem.W.Frag} {σ : L2.St} {H : Hp} {Q : VK} (h : rdE K (mMt f A mNil) σ H Q) : tBM0 K "list" (rM K f) (rdE K A) σ H Q := by
  obtain ⟨m, S, ρ, w, S', q, e, p⟩ := h
  obtain ⟨⟨wx, S1⟩, e1, e⟩ := Option.bind_eq_some_iff.mp e
  split at e
  · rename_i hl
    refine ⟨m, S, ρ, wx, S1, q, e1, fun ext H1 x f1 q1 fr1 r1 => ⟨isLst_ty q1 r1 hl, ?_⟩⟩
    exact ⟨_, S1, ρ, σ, wx, [], w, S', q1, r1, .nil, by simpa [mNil] using e, p.at f1 q1 fr1⟩
  · cases e
variable {name : Str} {apos cpos : Pos} {id : String}
theorem de_bm0 (slot : Slot "list" name id) (hty : typeOf (.builtin id) = pure (.type "method_descriptor")) (hm : MtR X id (rM X.K f)) (ho : PE X o (rdE X.K A))
    (hbase : attributeBase o name X.env (eval o X.env) = eval o X.env := by rfl) (hline : (apos.endLine == cpos.line) = true := by rfl) : PE X (.Call (.Attribute o name apos) [] [] cpos) (rdE X.K (mMt f A mNil)) :=
  wkE (pe_bm0 PySem.F.plainAttrs_list slot hty hm ho hbase hline) fun σ H Q q => rd_mt0 q
theorem de_bm (slot : Slot "list" name id) (hty : typeOf (.builtin id) = pure (.type "method_descriptor")) (hm : MtR X id (rM X.K f)) (ho : PE X o (rdE X.K A)) (ha : PA X (e :: es) (rdA X.K R))
    (hbase : attributeBase o name X.env (eval o X.env) = eval o X.env := by rfl)
    (hfew : ((backTo cpos (starEach (e :: es) X.env)).all (fun x => !x.1) && (backToKw cpos (keywordEach [] X.env)).all (fun x => x.1.isSome)
      && decide ((e :: es).length + ([] : List Keyword).length + (if ([] : List Keyword).isEmpty then 0 else 1) < 30)) = true := by rfl)
    (hline : (apos.endLine == cpos.line) = true := by rfl) (hs : starEach (e :: es) X.env = (false, eval e X.env) :: starEach es X.env := by rfl) (hplain : (backTo cpos (starEach es X.env)).any (·.1) = false := by rfl) :
    PE X (.Call (.Attribute o name apos) (e :: es) [] cpos) (rdE X.K (mMt f A R)) :=
  wkE (pe_bm PySem.F.plainAttrs_list slot hty hm ho ha hbase hfew hline hs hplain) fun σ H Q q => rd_mt q
/-- the list at hand -/
theorem rM_L {K : PySem.W.Frag} {f : List W → List W → Sto → Option (W × List W × Sto)} {x : V} {vs : List V} {H : Hp} {Q : VK} (h : rM K (onL f) x vs H Q) :
    ∃ m S ρ σ n a ws us w ws' S' zs, x = .ref a ∧ Sim K m S ρ σ H ∧ m[n]? = some a ∧ S[n]? = some (.lst ws) ∧ H a = some (.lst zs) ∧ Paired (RW K m H) zs ws ∧ Paired (RW K m H) vs us ∧ f ws us S = some (w, ws', S') ∧ Post K m (S'.set n (.lst ws')) ρ σ H w Q := by
  obtain ⟨m, S, ρ, σ, wx, us, w, S', q, r, ra, e, p⟩ := h
  unfold onL at e
  split at e
  · split at e
    · rename_i ws hs
      obtain ⟨⟨w0, ws', S0⟩, e1, e2⟩ := Option.bind_eq_some_iff.mp e
      cases e2
      obtain ⟨a, hm, rfl⟩ := r
      obtain ⟨b, hb, zs, hv, pr⟩ := q.obs _ _ hs
      rw [hm] at hb; cases hb
      exact ⟨m, S, ρ, σ, _, a, ws, _, _, ws', S0, zs, rfl, q, hm, hs, hv, pr, ra, e1, p⟩
    · cases e
  · cases e
def appendF := onL fun ws us S => match us with
  | [w] => if ws.length < sizeLine then some (.d .none, ws ++ [w], S) else none
  | _ => none
theorem mt_appendD : MtR X "list.append" (rM X.K appendF) := by
  intro pins s σ H x xs v us Q I rx rs h
  obtain ⟨m, S, ρ, σ', n, a, ws, us', w, ws', S', zs, rfl, q, hm, hs, hv, pr, ra, e, p⟩ := rM_L h
  split at e
  · split at e
    · rename_i hl
      cases e
      obtain ⟨y, rfl, ry⟩ := prd1 ra
      exact mt_append pins s σ H _ _ v us Q I rx rs ⟨a, zs, y, rfl, rfl, hv, by rw [pr.length]; exact hl, p.put q hm hs hv (paired_app pr (.cons ry .nil)) .non⟩
    · cases e
  · cases e
def popF := onL fun ws us S => match us with
  | [] => (ws[ws.length - 1]?).map fun w => (w, ws.dropLast, S)
  | _ => none
theorem mt_popD : MtR X "list.pop" (rM X.K popF) := by
  intro pins s σ H x xs v us Q I rx rs h
  obtain ⟨m, S, ρ, σ', n, a, ws, us', w, ws', S', zs, rfl, q, hm, hs, hv, pr, ra, e, p⟩ := rM_L h
  split at e
  · obtain ⟨w0, e1, e2⟩ := Option.map_eq_some_iff.mp e
    cases e2
    cases ra
    obtain ⟨y, hy, ry⟩ := paired_getR pr e1
    exact mt_pop pins s σ H _ _ v us Q I rx rs ⟨a, zs, y, rfl, rfl, hv, by rw [pr.length]; exact hy, p.put q hm hs hv (paired_dropLast pr) ry⟩
  · cases e
def reverseF := onL fun ws us S => match us with
  | [] => some (.d .none, ws.reverse, S)
  | _ => none
theorem mt_reverseD : MtR X "list.reverse" (rM X.K reverseF) := by
  intro pins s σ H x xs v us Q I rx rs h
  obtain ⟨m, S, ρ, σ', n, a, ws, us', w, ws', S', zs, rfl, q, hm, hs, hv, pr, ra, e, p⟩ := rM_L h
  split at e
  · cases e
    cases ra
    exact mt_reverse pins s σ H _ _ v us Q I rx rs ⟨a, zs, rfl, rfl, hv, p.put q hm hs hv (paired_rev pr) .non⟩
  · cases e
def popAtF := onL fun ws us S => match us with
  | [.d (.int i)] => if -(2 ^ 63) ≤ i ∧ i < 2 ^ 63 then (seqIndex? i ws.length).bind fun k => (ws[k]?).map fun w => (w, ws.eraseIdx k, S) else none
  | _ => none
theorem mt_popAtD : MtR X "list.pop" (rM X.K popAtF) := by
  intro pins s σ H x xs v us Q I rx rs h
  obtain ⟨m, S, ρ, σ', n, a, ws, us', w, ws', S', zs, rfl, q, hm, hs, hv, pr, ra, e, p⟩ := rM_L h
  split at e
  · split at e
    · rename_i hl
      obtain ⟨k, e1, e2⟩ := Option.bind_eq_some_iff.mp e
      obtain ⟨w0, e3, e4⟩ := Option.map_eq_some_iff.mp e2
      cases e4
      obtain ⟨y, rfl, ry⟩ := prd1 ra
      obtain rfl := rp_int ry
      obtain ⟨y, hy, ry⟩ := paired_getR pr e3
      exact mt_popAt pins s σ H _ _ v us Q I rx rs ⟨a, zs, _, k, y, rfl, rfl, hv, hl.1, hl.2, by rw [pr.length]; exact e1, hy, p.put q hm hs hv (paired_erase k pr) ry⟩
    · cases e
  · cases e
def insertF := onL fun ws us S => match us with
  | [.d (.int i), w] => @ite _ (ws.length < sizeLine ∧ 0 ≤ i ∧ i < 2 ^ 63) (gd _) (some (.d .none, ws.take i.toNat ++ [w] ++ ws.drop i.toNat, S)) none
  | _ => none
theorem mt_insertD : MtR X "list.insert" (rM X.K insertF) := by
  intro pins s σ H x xs v us Q I rx rs h
  obtain ⟨m, S, ρ, σ', n, a, ws, us', w, ws', S', zs, rfl, q, hm, hs, hv, pr, ra, e, p⟩ := rM_L h
  split at e
  · split at e
    · rename_i hl
      cases e
      obtain ⟨y, z, rfl, ry, rz⟩ := prd2 ra
      obtain rfl := rp_int ry
      exact mt_insert pins s σ H _ _ v us Q I rx rs ⟨a, zs, _, z, rfl, rfl, hv, by rw [pr.length]; exact hl.1, hl.2.1, hl.2.2,
        p.put q hm hs hv (paired_app (paired_app (paired_take _ pr) (.cons rz .nil)) (paired_drop _ pr)) .non⟩
    · cases e
  · cases e

/-! ### extend by any list that is read -/
open PySem.AutoSeq1 in
theorem ext_run (l : Addr) (items : Array Value) (n : Nat) (b : Addr) (items2 : Array Value) (n2 : Nat) (sl : Array (Option Value)) (hc0 : ¬(!items.isEmpty && Builtin.List.listTooLong (items.size + items2.size)) = true) (hc1 : items.size ≤ sizeLine) (hs2 : items.size + items2.size ≤ sizeLine + 1) :
    Meets (Builtin.«list.extend» ⟨[.ref l, .ref b], []⟩) (fun _ R s => s.heap.get? l = some { cls := .type "list", data := .seq items n } ∧ s.heap.get? b = some { cls := .type "list", data := .seq items2 n2, slots := sl } ∧ R (.ok (.ret Value.none)) { s with heap := s.heap.update l (Obj.mapSeq fun x => x ++ items2), toks := s.toks }) :=
  .of_wp fun prog w A R s h => by
    obtain ⟨hp, g, d, tk, os⟩ := s
    obtain ⟨h1, h2, h⟩ := h
    have f1 := AutoSeq1.idx_int
    have f2 := AutoSeq1.sub_tuple_tuple
    have f3 := AutoSeq1.sub_list_list
    have f4 := AutoSeq1.sub_tuple_list
    have f5 := AutoSeq1.sub_list_tuple
    have hz : (items ++ items2).size ≤ sizeLine + 1 := by rw [Array.size_append]; exact hs2
    wp_walk using (wpAny_updateSeq h1 rfl (hz := hc1) (_hz' := hz)), wpAny_loadPart' h1, wpAny_loadPart' h2
    exact ⟨_, rfl, h⟩
theorem mt_extS : MtR X "list.extend" (fun x vs H Q => ∃ l b xs zs, x = .ref l ∧ vs = [.ref b] ∧ H l = some (.lst xs) ∧ SqL X.K H b zs ∧ xs.length + zs.length ≤ sizeLine ∧ Q .non (upd H l (.lst (xs ++ zs)))) := by
  intro pins s σ H x vs v us Q I rx rv h
  obtain ⟨l, b, xs, zs, rfl, rfl, hH, hB, hz, q⟩ := h
  cases rx
  obtain ⟨u, rfl, ru⟩ := rv.one
  cases ru
  obtain ⟨_, its, n, r, hl, e⟩ := I.lstM hH
  obtain ⟨its2, r2, ⟨ob, n2, e2, hc, hd, hdat⟩, _⟩ := I.list hB
  have hl2 := r2.length
  obtain ⟨cls, dict, data, slots⟩ := ob
  simp only at hc hd hdat
  subst hc hd hdat
  have hsz : its.toArray.size + its2.toArray.size ≤ sizeLine := by rw [List.size_toArray, List.size_toArray]; omega
  have nl : ¬ (!its.toArray.isEmpty && Builtin.List.listTooLong (its.toArray.size + its2.toArray.size)) = true := by
    have z : Builtin.List.listTooLong (its.toArray.size + its2.toArray.size) = false := decide_eq_false (by omega)
    rw [z, Bool.and_false]
    exact Bool.false_ne_true
  refine call_meets F.slot_list_extend ⟨_, e, rfl⟩ F.entry_list_extend (F.args_list_extend_2 _ _) (ext_run l its.toArray n b its2.toArray n2 slots nl (by rw [List.size_toArray]; omega) (by omega)) ⟨e, e2, ?_⟩
  refine ⟨.non, _, I.lset (its' := its ++ its2) hH e (by simp) (r.append r2) ?_, rfl, q⟩
  rw [List.length_append]
  exact hz
def extendF := onL fun ws us S => match us with
  | [w] => (deref S w).bind fun d => match d with
    | .list ds => if ws.length + ds.length ≤ sizeLine then some (.d .none, ws ++ ds.map W.d, S) else none
    | _ => none
  | _ => none
theorem mt_extendD : MtR X "list.extend" (rM X.K extendF) := by
  intro pins s σ H x xs v us Q I rx rs h
  obtain ⟨m, S, ρ, σ', n, a, ws, us', w, ws', S', zs, rfl, q, hm, hs, hv, pr, ra, e, p⟩ := rM_L h
  split at e
  · obtain ⟨d, e1, e2⟩ := Option.bind_eq_some_iff.mp e
    split at e2
    · split at e2
      · rename_i hl
        cases e2
        obtain ⟨y, rfl, ry⟩ := prd1 ra
        obtain ⟨b, ys, rfl, hb, r1⟩ := deref_list q ry e1
        exact mt_extS pins s σ H _ _ v us Q I rx rs ⟨a, b, zs, ys, rfl, rfl, hv, hb, by rw [pr.length, r1.length]; exact hl, p.put q hm hs hv (paired_app pr (rpAll_rw r1)) .non⟩
      · cases e2
    · cases e2
  · cases e
/-- + of lists -/
theorem cat_run (l : Addr) (items : Array Value) (n : Nat) (sa : Array (Option Value)) (b : Addr) (items2 : Array Value) (n2 : Nat) (sb : Array (Option Value)) (hc0 : items.size + items2.size ≤ sizeLine) :
    Meets (Builtin.«list.__add__» ⟨[.ref l, .ref b], []⟩) (fun _ R s => s.heap.get? l = some { cls := .type "list", data := .seq items n, slots := sa } ∧ s.heap.get? b = some { cls := .type "list", data := .seq items2 n2, slots := sb } ∧ R (.ok (.ret (Value.ref s.heap.objs.size))) { s with heap := s.heap.push { cls := Value.type "list", data := Data.seq (items ++ items2) }, toks := s.toks }) :=
  .of_wp fun prog w A R s h => by
    obtain ⟨hp, g, d, tk, os⟩ := s
    obtain ⟨h1, h2, h⟩ := h
    have f1 := AutoSeq1.idx_int
    have f2 := AutoSeq1.sub_tuple_tuple
    have f3 := AutoSeq1.sub_list_list
    have f4 := AutoSeq1.sub_tuple_list
    have f5 := AutoSeq1.sub_list_tuple
    wp_walk using AutoSeq1.wpAny_loadPart' h1, AutoSeq1.wpAny_loadPart' h2
    exact ⟨_, rfl, h⟩
theorem op_catS : OpR X (binaryOp .Add) (fun x y H Q => ∃ l b xs zs, x = .ref l ∧ y = .ref b ∧ SqL X.K H l xs ∧ SqL X.K H b zs ∧ xs.length + zs.length ≤ sizeLine ∧ ∀ p, H p = none → Q (.ref p) (upd H p (.lst (xs ++ zs)))) := by
  intro pins s σ H x y v u Q I rx ry h
  obtain ⟨l, b, xs, zs, rfl, rfl, hA, hB, hz, q⟩ := h
  cases rx
  cases ry
  obtain ⟨its, r1, ⟨oa, n1, e1, hc1, hd1, hdat1⟩, _⟩ := I.list hA
  obtain ⟨its2, r2, ⟨ob, n2, e2, hc, hd, hdat⟩, _⟩ := I.list hB
  have l1 := r1.length
  have l2 := r2.length
  obtain ⟨c1, d1, da1, sl1⟩ := oa
  obtain ⟨c2, d2, da2, sl2⟩ := ob
  simp only at hc hd hdat hc1 hd1 hdat1
  subst hc hd hdat hc1 hd1 hdat1
  have hsz : its.toArray.size + its2.toArray.size ≤ sizeLine := by rw [List.size_toArray, List.size_toArray]; omega
  refine concat_meets ⟨_, e1, rfl⟩ ⟨_, e2, rfl⟩ noFill_list_add seq_list_add F.slot_list_add F.entry_list_add (F.args_list_add_2 _ _) (cat_run l its.toArray n1 sl1 b its2.toArray n2 sl2 hsz) ⟨e1, e2, ?_⟩
  have ea : its.toArray ++ its2.toArray = (its ++ its2).toArray := by simp
  rw [ea]
  exact ⟨.ref _, _, I.lnew (t' := s.toks) (r1.append r2) (by rw [List.length_append]; omega), rfl, q _ I.fresh⟩
def catL : W → W → Sto → Option (W × Sto) := fun x y S => (deref S x).bind fun d => (deref S y).bind fun e => match d, e with
  | .list i, .list j => if i.length + j.length ≤ sizeLine then some (.d (.list (i ++ j)), S) else none
  | _, _ => none
theorem op_catL : OpR X (binaryOp .Add) (rOp X.K catL) := by
  intro pins s σ H x y v u Q I rx ry h
  obtain ⟨m, S, ρ, σ', wx, wy, w, S', q, hx, hy, e, p⟩ := h
  obtain ⟨d, e1, e⟩ := Option.bind_eq_some_iff.mp e
  obtain ⟨d2, e2, e⟩ := Option.bind_eq_some_iff.mp e
  split at e
  · split at e
    · rename_i hl
      cases e
      obtain ⟨a, xs, rfl, ha, r1⟩ := deref_list q hx e1
      obtain ⟨b, ys, rfl, hb, r2⟩ := deref_list q hy e2
      exact opFrz op_catS pins s σ H _ _ v u Q I rx ry ⟨a, b, xs, ys, rfl, rfl, ha, hb, by rw [r1.length, r2.length]; exact hl, fun t ht => newL p q (r1.append r2) t ht⟩
    · cases e
  · cases e

/-! ### o[i] = v, o[i] op= v by values -/
def setF : W → W → W → Sto → Option Sto
  | .loc n, .d (.int k), w, S => match S[n]? with
    | some (.lst ws) => (ixN ws.length k).map fun j => S.set n (.lst (ws.set j w))
    | _ => none
  | _, _, _, _ => none
def PostH (K : PySem.W.Frag) (m : List Addr) (S' : Sto) (ρ : DEnv) (σ : L2.St) (H : Hp) (Q : Hp → Prop) : Prop :=
  ∀ ext H', Fresh ext H → Sim K (m ++ ext) S' ρ σ H' → Fr m H H' → Q H'
def rSet (K : PySem.W.Frag) (f : W → W → W → Sto → Option Sto) : TSet := fun o i v H Q => ∃ m S ρ σ wo wi wv S', Sim K m S ρ σ H ∧ RW K m H o wo ∧ RW K m H i wi ∧ RW K m H v wv ∧ f wo wi wv S = some S' ∧ PostH K m S' ρ σ H Q
theorem set_D : PSet X (rSet X.K setF) := by
  intro pins s σ H o i v ov iv u Q I ro ri rv h
  obtain ⟨m, S, ρ, σ', wo, wi, wv, S', q, h1, h2, h3, e, p⟩ := h
  unfold setF at e
  split at e
  · split at e
    · rename_i ws hs
      obtain ⟨j, e1, e2⟩ := Option.map_eq_some_iff.mp e
      cases e2
      obtain ⟨a, hm, rfl⟩ := h1
      obtain rfl := rp_int h2
      obtain ⟨b, hb, zs, hv, pr⟩ := q.obs _ _ hs
      rw [hm] at hb; cases hb
      refine set_list pins s σ H _ _ v ov iv u Q I ro ri rv ⟨a, zs, _, j, rfl, rfl, hv, by rw [pr.length]; exact e1, ?_⟩
      exact p [] _ (fun _ h => absurd h (by simp)) (by rw [List.append_nil]; exact put_sim q hm hs hv (paired_set h3 j pr)) (put_fr hm hv)
    · cases e
  · cases e
/-- the read of o[i] op= v -/
def getF : W → W → Sto → Option (W × Sto)
  | .loc n, .d (.int i), S => match S[n]? with
    | some (.lst ws) => if 0 ≤ i then (ws[i.toNat]?).map fun w => (w, S) else none
    | _ => none
  | _, _, _ => none
theorem get_D : PGet X (rOp X.K getF) := by
  intro pins s σ H o i ov iv Q I ro ri h
  obtain ⟨m, S, ρ, σ', wx, wy, w, S', q, hx, hy, e, p⟩ := h
  unfold getF at e
  split at e
  · split at e
    · rename_i k _ ws hs
      split at e
      · rename_i h0
        obtain ⟨z, e1, e2⟩ := Option.map_eq_some_iff.mp e
        cases e2
        obtain ⟨a, hm, rfl⟩ := hx
        obtain rfl := rp_int hy
        obtain ⟨b, hb, zs, hv, pr⟩ := q.obs _ _ hs
        rw [hm] at hb; cases hb
        obtain ⟨y, hy, ry⟩ := paired_getR pr e1
        cases ro
        obtain ⟨t, rfl⟩ := ri
        obtain ⟨its, r, pl, hz⟩ := I.list (.of hv)
        obtain ⟨u, hu, ru⟩ := r.get hy
        have hl := r.length
        have hn := line63
        have hb := (List.getElem?_eq_some_iff.mp hy).1
        exact wpAny_getItem_list pl.isList h0 (by omega) (by simpa using hu) ⟨y, H, I, ru, p.now q ry⟩
      · cases e
    · cases e
  · cases e

/-! ### statements -/
inductive Fl where
  | nx
  | rt (w : W)
  | bk
  | ct
abbrev MS := DEnv → Sto → Option (Fl × DEnv × Sto)
def EndsOk (K : PySem.W.Frag) (D : Ends) (m : List Addr) (σ : L2.St) (H : Hp) : Fl → Prop
  | .nx => D.nx σ H
  | .rt w => ∀ v, RW K m H v w → D.rt v H
  | .bk => D.bk σ H
  | .ct => D.ct σ H
def PostS (K : PySem.W.Frag) (m : List Addr) (S' : Sto) (ρ' : DEnv) (σ : L2.St) (H : Hp) (fl : Fl) (D : Ends) : Prop :=
  ∀ ext σ' H', Fresh ext H → Sim K (m ++ ext) S' ρ' σ' H' → Fr m H H' → EndsOk K D (m ++ ext) σ' H' fl
def rdS (K : PySem.W.Frag) (f : MS) : L2.TS := fun D σ H => ∃ m S ρ fl ρ' S', Sim K m S ρ σ H ∧ f ρ S = some (fl, ρ', S') ∧ PostS K m S' ρ' σ H fl D
end
section
variable {K : PySem.W.Frag} {H H1 : Hp} {m ext : List Addr} {S S1 S' : Sto} {ρ ρ1 ρ' : DEnv} {σ σ1 : L2.St} {w : W} {D : Ends} {fl : Fl}
theorem PostS.at (p : PostS K m S' ρ' σ H fl D) (f : Fresh ext H) (q : Sim K (m ++ ext) S1 ρ1 σ1 H1) (fr : Fr m H H1) : PostS K (m ++ ext) S' ρ' σ1 H1 fl D := fun e2 σ2 H2 f2 q2 fr2 => by
  have := p (ext ++ e2) σ2 H2 (f.append fr q f2) (by rwa [← List.append_assoc]) (fr.trans f fr2)
  rwa [← List.append_assoc] at this
theorem PostS.now (p : PostS K m S' ρ' σ H fl D) (q : Sim K m S' ρ' σ1 H) : EndsOk K D m σ1 H fl := by
  have := p [] σ1 H (fun _ h => absurd h (by simp)) (by rwa [List.append_nil]) Fr.refl
  rwa [List.append_nil] at this
end
section
variable {X : Cx} {e o a b c : Expr} {st : Stmt} {rest body els : List Stmt} {pos : Pos} {A B C : ME} {T U : MT} {F G : MS}
def sNil : MS := fun ρ S => some (.nx, ρ, S)
def sSeq (F G : MS) : MS := fun ρ S => (F ρ S).bind fun p => match p.1 with
  | .nx => G p.2.1 p.2.2
  | _ => some p
theorem dss_nil : PSs X [] (rdS X.K sNil) := wkSs pss_nil fun D σ H q => by
  obtain ⟨m, S, ρ, fl, ρ', S', q, e, p⟩ := q
  cases e
  exact p.now q
theorem rd_seq {K : PySem.W.Frag} {D : Ends} {σ : L2.St} {H : Hp} (h : rdS K (sSeq F G) D σ H) : tSeq (rdS K F) (rdS K G) D σ H := by
  obtain ⟨m, S, ρ, fl, ρ', S', q, e, p⟩ := h
  obtain ⟨⟨f1, ρ1, S1⟩, e1, e2⟩ := Option.bind_eq_some_iff.mp e
  refine ⟨m, S, ρ, f1, ρ1, S1, q, e1, fun ext σ1 H1 f q1 fr => ?_⟩
  have p1 := p.at f q1 fr
  cases f1 with
  | nx => exact ⟨m ++ ext, S1, ρ1, fl, ρ', S', q1, e2, p1⟩
  | rt w => cases e2; exact p1.now q1
  | bk => cases e2; exact p1.now q1
  | ct => cases e2; exact p1.now q1
theorem dss_cons (h : PS X st (rdS X.K F)) (h2 : PSs X rest (rdS X.K G)) : PSs X (st :: rest) (rdS X.K (sSeq F G)) := wkSs (pss_cons h h2) fun D σ H q => rd_seq q
theorem dss_one (h : PS X st (rdS X.K F)) : PSs X [st] (rdS X.K F) := pss_one h

/-! ### small statements -/
def sPass : MS := sNil
def sBreak : MS := fun ρ S => some (.bk, ρ, S)
def sCont : MS := fun ρ S => some (.ct, ρ, S)
theorem ds_pass : PS X (.Pass pos) (rdS X.K sPass) := wkS ps_pass fun D σ H q => by
  obtain ⟨m, S, ρ, fl, ρ', S', q, e, p⟩ := q
  cases e
  exact p.now q
theorem ds_break : PS X (.Break pos) (rdS X.K sBreak) := wkS ps_break fun D σ H q => by
  obtain ⟨m, S, ρ, fl, ρ', S', q, e, p⟩ := q
  cases e
  exact p.now q
theorem ds_continue : PS X (.Continue pos) (rdS X.K sCont) := wkS ps_continue fun D σ H q => by
  obtain ⟨m, S, ρ, fl, ρ', S', q, e, p⟩ := q
  cases e
  exact p.now q
theorem ds_never {st : Stmt} : PS X st (rdS X.K fun _ _ => none) := wkS ps_never fun D σ H q => by
  obtain ⟨m, S, ρ, fl, ρ', S', q, e, p⟩ := q
  cases e
def sExpr (A : ME) : MS := fun ρ S => (A ρ S).bind fun p => some (.nx, ρ, p.2)
theorem ds_expr (he : PE X e (rdE X.K A)) (hs : swapsWith e none pos.line X.env = pure false := by rfl) : PS X (.Expr e pos) (rdS X.K (sExpr A)) := wkS (ps_expr he hs) fun D σ H q => by
  obtain ⟨m, S, ρ, fl, ρ', S', q, e, p⟩ := q
  obtain ⟨⟨wx, S1⟩, e1, e2⟩ := Option.bind_eq_some_iff.mp e
  cases e2
  exact ⟨m, S, ρ, wx, _, q, e1, fun ext H1 x f q1 fr r => (p.at f q1 fr).now q1⟩
def sRet (A : ME) : MS := fun ρ S => (A ρ S).bind fun p => some (.rt p.1, ρ, p.2)
theorem ds_ret (he : PE X e (rdE X.K A)) : PS X (.Return (some e) pos) (rdS X.K (sRet A)) := wkS (ps_ret he) fun D σ H q => by
  obtain ⟨m, S, ρ, fl, ρ', S', q, e, p⟩ := q
  obtain ⟨⟨wx, S1⟩, e1, e2⟩ := Option.bind_eq_some_iff.mp e
  cases e2
  exact ⟨m, S, ρ, wx, _, q, e1, fun ext H1 x f q1 fr r => (p.at f q1 fr).now q1 x r⟩
def sRetN : MS := fun ρ S => some (.rt (.d .none), ρ, S)
theorem ds_retN : PS X (.Return none pos) (rdS X.K sRetN) := wkS ps_retN fun D σ H q => by
  obtain ⟨m, S, ρ, fl, ρ', S', q, e, p⟩ := q
  cases e
  exact p.now q _ .non
def sIf (T : MT) (F G : MS) : MS := fun ρ S => (T ρ S).bind fun p => if p.1 = true then F ρ p.2 else G ρ p.2
theorem ds_if (hc : PT X c (rdT X.K T)) (ha : PSs X body (rdS X.K F)) (hb : PSs X els (rdS X.K G)) : PS X (.If c body els pos) (rdS X.K (sIf T F G)) := wkS (ps_if hc ha hb) fun D σ H q => by
  obtain ⟨m, S, ρ, fl, ρ', S', q, e, p⟩ := q
  obtain ⟨⟨b, S1⟩, e1, e2⟩ := Option.bind_eq_some_iff.mp e
  refine ⟨m, S, ρ, b, S1, q, e1, fun ext H1 f q1 fr => ?_⟩
  cases b with
  | true => exact ⟨_, S1, ρ, fl, ρ', S', q1, by simpa using e2, p.at f q1 fr⟩
  | false => exact ⟨_, S1, ρ, fl, ρ', S', q1, by simpa using e2, p.at f q1 fr⟩

/-! ### targets -/
abbrev MG := W → DEnv → Sto → Option (DEnv × Sto)
abbrev MGs := List W → DEnv → Sto → Option (DEnv × Sto)
/-- vis: the slots that may change -/
def PostG (K : PySem.W.Frag) (vis : List Nat) (m : List Addr) (S' : Sto) (ρ' : DEnv) (σ : L2.St) (H : Hp) (Q : L2.St → Hp → Prop) : Prop :=
  ∀ ext σ' H', wipe σ' vis = wipe σ vis → Fresh ext H → Sim K (m ++ ext) S' ρ' σ' H' → Fr m H H' → Q σ' H'
def rdG (K : PySem.W.Frag) (vis : List Nat) (g : MG) : TG := fun v σ H Q => ∃ m S ρ w ρ' S', Sim K m S ρ σ H ∧ RW K m H v w ∧ g w ρ S = some (ρ', S') ∧ PostG K vis m S' ρ' σ H Q
def rdGs (K : PySem.W.Frag) (vis : List Nat) (g : MGs) : TGs := fun vs σ H Q => ∃ m S ρ ws ρ' S', Sim K m S ρ σ H ∧ Paired (RW K m H) vs ws ∧ g ws ρ S = some (ρ', S') ∧ PostG K vis m S' ρ' σ H Q
theorem wipe_set {α : Type} {σ : L2.St} {i : Nat} {v : Option V} : ∀ {vis : List Nat}, i ∈ vis → wipe (σ.set i v) vis = wipe σ vis
  | j :: vis, h => by
    show (wipe (σ.set i v) vis).set j none = (wipe σ vis).set j none
    by_cases hm : i ∈ vis
    · rw [wipe_set (α := α) hm]
    · have e : i = j := by
        rcases List.mem_cons.mp h with z | z
        · exact z
        · exact absurd z hm
      subst e
      have key : ∀ (l : List Nat), i ∉ l → wipe (σ.set i v) l = (wipe σ l).set i v := by
        intro l
        induction l with
        | nil => intro _; rfl
        | cons k l ih =>
          intro hk
          simp only [List.mem_cons, not_or] at hk
          show (wipe (σ.set i v) l).set k none = ((wipe σ l).set k none).set i v
          rw [ih hk.2, List.set_comm _ _ hk.1]
      rw [key vis hm, List.set_set]
end
section
variable {K : PySem.W.Frag} {H H1 : Hp} {m ext : List Addr} {S S1 S' : Sto} {ρ ρ1 ρ' : DEnv} {σ σ1 : L2.St} {Q : L2.St → Hp → Prop} {vis : List Nat}
theorem PostG.at (p : PostG K vis m S' ρ' σ H Q) (hw : wipe σ1 vis = wipe σ vis) (f : Fresh ext H) (q : Sim K (m ++ ext) S1 ρ1 σ1 H1) (fr : Fr m H H1) : PostG K vis (m ++ ext) S' ρ' σ1 H1 Q := fun e2 σ2 H2 hw2 f2 q2 fr2 =>
  p (ext ++ e2) σ2 H2 (hw2.trans hw) (f.append fr q f2) (by rwa [← List.append_assoc]) (fr.trans f fr2)
theorem PostG.now (p : PostG K vis m S' ρ' σ H Q) (hw : wipe σ1 vis = wipe σ vis) (q : Sim K m S' ρ' σ1 H) : Q σ1 H :=
  p [] σ1 H hw (fun _ h => absurd h (by simp)) (by rwa [List.append_nil]) Fr.refl
end
section
variable {X : Cx} {e o a b c : Expr} {es : List Expr} {st : Stmt} {rest body els : List Stmt} {pos : Pos} {A B C : ME} {T U : MT} {F G : MS} {g : MG} {gs : MGs} {vis : List Nat}
def gSet (i : Nat) : MG := fun w ρ S => if i < ρ.length then some (ρ.set i (some w), S) else none
theorem dg_name {i : Nat} {x : Str} (hN : X.N.Nodup) (hi : X.N[i]? = some x) (hx : Loc X.env.scope x) (hv : i ∈ vis := by decide) (hf : X.fn x = true ∨ X.env.scope.names.lookup x = some .local := by first | exact .inl rfl | exact .inr rfl | assumption) : PG X (.Name x pos) (rdG X.K vis (gSet i)) := by
  refine ⟨fun pins s σ H v u Q I r h => (pg_name (pos := pos) hN hi hx hf).run pins s σ H v u Q I r ?_⟩
  obtain ⟨m, S, ρ, w, ρ', S', q, r, e, p⟩ := h
  unfold gSet at e
  split at e
  · cases e
    exact p.now (wipe_set (α := Nat) hv) (q.slotset r)
  · cases e
def gsNil : MGs := fun ws ρ S => match ws with
  | [] => some (ρ, S)
  | _ => none
def gsCons (g : MG) (gs : MGs) : MGs := fun ws ρ S => match ws with
  | w :: ws => (g w ρ S).bind fun p => gs ws p.1 p.2
  | [] => none
theorem dgs_nil : PGs X [] (rdGs X.K vis gsNil) := by
  refine ⟨fun pins s σ H v u Q I r h => pgs_nil.run pins s σ H v u Q I r ?_⟩
  obtain ⟨m, S, ρ, ws, ρ', S', q, r, e, p⟩ := h
  unfold gsNil at e
  split at e
  · cases e
    cases r
    exact ⟨rfl, p.now rfl q⟩
  · cases e
theorem dgs_cons (h1 : PG X e (rdG X.K vis g)) (h2 : PGs X es (rdGs X.K vis gs)) (hs : (assignEach (e :: es) X.env).map (·.2) = assign e X.env :: (assignEach es X.env).map (·.2) := by rfl) : PGs X (e :: es) (rdGs X.K vis (gsCons g gs)) := by
  refine ⟨fun pins s σ H v u Q I r h => (pgs_cons h1 h2 hs).run pins s σ H v u Q I r ?_⟩
  obtain ⟨m, S, ρ, ws, ρ', S', q, r, e, p⟩ := h
  unfold gsCons at e
  split at e
  · obtain ⟨⟨ρ1, S1⟩, e1, e2⟩ := Option.bind_eq_some_iff.mp e
    cases r with
    | cons r t =>
      refine ⟨_, _, rfl, m, S, ρ, _, ρ1, S1, q, r, e1, fun ext σ1 H1 hw f q1 fr => ⟨m ++ ext, S1, ρ1, _, ρ', S', q1, pRW.mono t fr.kp, e2, p.at hw f q1 fr⟩⟩
  · cases e
def gTupD (n : Nat) (gs : MGs) : MG := fun w ρ S => match w with
  | .d (.tuple ds) => if ds.length = n then gs (ds.map W.d) ρ S else none
  | _ => none
theorem dg_tup {k n : Nat} (hc : X.calm = true) (h : PGs X es (rdGs X.K vis gs)) (hn : (assignEach es X.env).length = n := by rfl) (hst : (assignEach es X.env).findIdx? (·.1) = none := by rfl) : PG X (.Tuple es k pos) (rdG X.K vis (gTupD n gs)) := by
  refine ⟨fun pins s σ H v u Q I r h2 => (pg_tup (k := k) (pos := pos) hc h hn hst).run pins s σ H v u Q I r ?_⟩
  obtain ⟨m, S, ρ, w, ρ', S', q, r, e, p⟩ := h2
  unfold gTupD at e
  split at e
  · split at e
    · rename_i hl
      obtain ⟨a, xs, rfl, ha, r1⟩ := rp_tup r
      exact ⟨a, xs, rfl, ha, by rw [r1.length]; exact hl, m, S, ρ, _, ρ', S', q, rpAll_rw r1, e, p⟩
    · cases e
  · cases e
/-- target = value -/
def sAsg (A : ME) (g : MG) : MS := fun ρ S => (A ρ S).bind fun p => (g p.1 ρ p.2).bind fun q => some (.nx, q.1, q.2)
theorem rd_asg {K : PySem.W.Frag} {D : Ends} {σ : L2.St} {H : Hp} (h : rdS K (sAsg A g) D σ H) : tAsg (rdE K A) (rdG K vis g) D σ H := by
  obtain ⟨m, S, ρ, fl, ρ', S', q, e, p⟩ := h
  obtain ⟨⟨wx, S1⟩, e1, e2⟩ := Option.bind_eq_some_iff.mp e
  obtain ⟨⟨ρ2, S2⟩, e3, e4⟩ := Option.bind_eq_some_iff.mp e2
  cases e4
  refine ⟨m, S, ρ, wx, S1, q, e1, fun ext H1 x f q1 fr r => ⟨m ++ ext, S1, ρ, wx, ρ2, S2, q1, r, e3, fun ext2 σ2 H2 _ f2 q2 fr2 => ?_⟩⟩
  exact ((p.at f q1 fr).at f2 q2 fr2).now q2
theorem ds_asg {tg : Expr} (he : PE X e (rdE X.K A)) (hg : PG X tg (rdG X.K vis g)) (hs : swapsWithSole [tg] e pos.line X.env = pure false := by rfl) (hw : swappedStores [tg] e X.env = pure none := by rfl)
    (h1 : (assignEach [tg] X.env).map (·.2) = [assign tg X.env] := by rfl) : PS X (.Assign [tg] e pos) (rdS X.K (sAsg A g)) := wkS (ps_asg he hg hs hw h1) fun D σ H q => rd_asg q
theorem ds_set {i : Nat} {x : Str} {pos' : Pos} (hN : X.N.Nodup) (hi : X.N[i]? = some x) (hx : Loc X.env.scope x) (he : PE X e (rdE X.K A)) (hs : swapsWith e (some (.Name x pos')) pos.line X.env = pure false := by rfl) (hf : X.fn x = true ∨ X.env.scope.names.lookup x = some .local := by first | exact .inl rfl | exact .inr rfl | assumption) :
    PS X (.Assign [.Name x pos'] e pos) (rdS X.K (sAsg A (gSet i))) := wkS (ps_set hN hi hx he hs hf) fun D σ H q => by
  obtain ⟨m, S, ρ, fl, ρ', S', q, e, p⟩ := q
  obtain ⟨⟨wx, S1⟩, e1, e2⟩ := Option.bind_eq_some_iff.mp e
  obtain ⟨⟨ρ2, S2⟩, e3, e4⟩ := Option.bind_eq_some_iff.mp e2
  cases e4
  unfold gSet at e3
  split at e3
  · cases e3
    exact ⟨m, S, ρ, wx, _, q, e1, fun ext H1 x f q1 fr r => ((p.at f q1 fr).now (q1.slotset r))⟩
  · cases e3
/-- a, b = x, y -/
def sPar (i j : Nat) (R : MA) : MS := fun ρ S => (R ρ S).bind fun p => match p.1 with
  | [w, u] => if i < ρ.length ∧ j < ρ.length then some (.nx, (ρ.set i (some w)).set j (some u), p.2) else none
  | _ => none
theorem ds_par {i j : Nat} {x y : Str} {a b : Expr} {R : MA} {px py pt : Pos} {kt k2 pt2} (hc : X.calm = true) (hN : X.N.Nodup) (hi : X.N[i]? = some x) (hj : X.N[j]? = some y) (hij : i ≠ j)
    (hx : X.env.scope.names.lookup x = some .local) (hy : X.env.scope.names.lookup y = some .local) (ha : PA X [a, b] (rdA X.K R))
    (hw : swappedStores [.Tuple [.Name x px, .Name y py] kt pt] (.Tuple [a, b] k2 pt2) X.env = pure (some [x, y]))
    (hs : swapsWithSole [.Tuple [.Name x px, .Name y py] kt pt] (.Tuple [a, b] k2 pt2) pos.line X.env = pure false := by rfl) :
    PS X (.Assign [.Tuple [.Name x px, .Name y py] kt pt] (.Tuple [a, b] k2 pt2) pos) (rdS X.K (sPar i j R)) := wkS (ps_par hc hN hi hj hij hx hy ha hw hs) fun D σ H q => by
  obtain ⟨m, S, ρ, fl, ρ', S', q, e, p⟩ := q
  obtain ⟨⟨ws, S1⟩, e1, e2⟩ := Option.bind_eq_some_iff.mp e
  refine ⟨m, S, ρ, ws, S1, q, e1, fun ext H1 vs f q1 fr r => ?_⟩
  simp only at e2
  split at e2
  · split at e2
    · cases e2
      obtain ⟨v, v', rfl, r1, r2⟩ := prd2 r
      exact ⟨v, v', rfl, (p.at f q1 fr).now ((q1.slotset r1).slotset r2)⟩
    · cases e2
  · cases e2
/-- name op= e -/
def sAug (i : Nat) (f : W → W → Sto → Option (W × Sto)) (A : ME) : MS := fun ρ S => match ρ[i]? with
  | some (some w) => (A ρ S).bind fun p => (f w p.1 p.2).bind fun q => some (.nx, ρ.set i (some q.1), q.2)
  | _ => none
theorem ds_aug {i : Nat} {x : Str} {op : Operator} {f : W → W → Sto → Option (W × Sto)} {pos' : Pos} (hN : X.N.Nodup) (hi : X.N[i]? = some x) (hx : Loc X.env.scope x) (he : PE X e (rdE X.K A)) (ho : PIp X op (rOp X.K f)) (hf : X.fn x = true ∨ X.env.scope.names.lookup x = some .local := by first | exact .inl rfl | exact .inr rfl | assumption) :
    PS X (.AugAssign (.Name x pos') op e pos) (rdS X.K (sAug i f A)) := wkS (ps_aug hN hi hx he ho hf) fun D σ H q => by
  obtain ⟨m, S, ρ, fl, ρ', S', q, e, p⟩ := q
  unfold sAug at e
  split at e
  · rename_i w0 hw0
    obtain ⟨⟨wx, S1⟩, e1, e2⟩ := Option.bind_eq_some_iff.mp e
    obtain ⟨⟨wz, S2⟩, e3, e4⟩ := Option.bind_eq_some_iff.mp e2
    cases e4
    obtain ⟨v, hv, rv⟩ := q.slot _ _ hw0
    refine ⟨v, hv, m, S, ρ, wx, S1, q, e1, fun ext H1 y f q1 fr r => ?_⟩
    refine ⟨_, S1, ρ, σ, w0, wx, wz, S2, q1, rv.mono fr.kp, r, e3, fun ext2 H2 z f2 q2 fr2 r2 => ?_⟩
    exact ((p.at f q1 fr).at f2 q2 fr2).now (q2.slotset r2)
  · cases e
theorem ip_of {op : Operator} {f : W → W → Sto → Option (W × Sto)} (h : OpR X (inplaceOp op) (rOp X.K f)) : PIp X op (rOp X.K f) := fun pins s σ H x y v u Q I rx ry q => h pins s σ H x y v u Q I rx ry q
def iaddI := iiD yes2 fun i j => .int (i + j)
def isubI := iiD yes2 fun i j => .int (i - j)
theorem ip_addI : PIp X .Add (rOp X.K iaddI) := ip_of (iiD_of (rI_of0 iop_add) (fun _ _ _ => trivial) fun _ _ _ => .int _)
theorem ip_subI : PIp X .Sub (rOp X.K isubI) := ip_of (iiD_of (rI_of0 iop_sub) (fun _ _ _ => trivial) fun _ _ _ => .int _)
/-- o[i] = e, o[i] op= e -/
def gSubD (A B : ME) (f : W → W → W → Sto → Option Sto) : MG := fun w ρ S => (A ρ S).bind fun p => (B ρ p.2).bind fun q => (f p.1 q.1 w q.2).bind fun S' => some (ρ, S')
theorem dg_sub {f : W → W → W → Sto → Option Sto} (ho : PE X o (rdE X.K A)) (hi : PE X a (rdE X.K B)) (hs : PSet X (rSet X.K f))
    (ha : ∀ v, assign (.Subscript o a pos) X.env v = (do
      let ov ← holding [v] (eval o X.env)
      let iv ← holding [v, ov] (eval a X.env)
      standAt pos
      holding [v, ov, iv] (setItem ov iv v)
      release [v, ov, iv] []) := by intro _; rfl) : PG X (.Subscript o a pos) (rdG X.K vis (gSubD A B f)) := by
  refine ⟨fun pins s σ H v u Q I r h => (pg_sub ho hi hs ha).run pins s σ H v u Q I r ?_⟩
  obtain ⟨m, S, ρ, w, ρ', S', q, r, e, p⟩ := h
  obtain ⟨⟨wo, S1⟩, e1, e⟩ := Option.bind_eq_some_iff.mp e
  obtain ⟨⟨wi, S2⟩, e2, e⟩ := Option.bind_eq_some_iff.mp e
  obtain ⟨S3, e3, e⟩ := Option.bind_eq_some_iff.mp e
  cases e
  refine ⟨m, S, ρ, wo, S1, q, e1, fun ext H1 x f q1 fr r1 => ⟨_, S1, ρ, wi, S2, q1, e2, fun ext2 H2 y f2 q2 fr2 r2 => ?_⟩⟩
  refine ⟨_, S2, ρ, σ, wo, wi, w, _, q2, r1.mono fr2.kp, r2, (r.mono fr.kp).mono fr2.kp, e3, fun ext3 H3 f3 q3 fr3 => ?_⟩
  exact ((p.at rfl f q1 fr).at rfl f2 q2 fr2).at rfl f3 q3 fr3 |>.now rfl q3
def sAugS (A B C : ME) (g f : W → W → Sto → Option (W × Sto)) (t : W → W → W → Sto → Option Sto) : MS := fun ρ S => (A ρ S).bind fun p => (B ρ p.2).bind fun q => (g p.1 q.1 q.2).bind fun x => (C ρ x.2).bind fun y => (f x.1 y.1 y.2).bind fun z => (t p.1 q.1 z.1 z.2).bind fun S' => some (.nx, ρ, S')
theorem ds_augS {op : Operator} {tpos : Pos} {g f : W → W → Sto → Option (W × Sto)} {t : W → W → W → Sto → Option Sto} (ho : PE X o (rdE X.K A)) (hi : PE X a (rdE X.K B)) (hg : PGet X (rOp X.K g)) (he : PE X e (rdE X.K C)) (hp : PIp X op (rOp X.K f)) (hs : PSet X (rSet X.K t))
    (ha : ∀ ov iv new, augStore a ov iv new = (do holding [new, ov, iv] (setItem ov iv new); release [new, ov, iv] []; pure .next) := by intros; rfl) : PS X (.AugAssign (.Subscript o a tpos) op e pos) (rdS X.K (sAugS A B C g f t)) := wkS (ps_augS ho hi hg he hp hs ha) fun D σ H q => by
  obtain ⟨m, S, ρ, fl, ρ', S', q, e, p⟩ := q
  obtain ⟨⟨wo, S1⟩, e1, e⟩ := Option.bind_eq_some_iff.mp e
  obtain ⟨⟨wi, S2⟩, e2, e⟩ := Option.bind_eq_some_iff.mp e
  obtain ⟨⟨wg, S3⟩, e3, e⟩ := Option.bind_eq_some_iff.mp e
  obtain ⟨⟨wc, S4⟩, e4, e⟩ := Option.bind_eq_some_iff.mp e
  obtain ⟨⟨wz, S5⟩, e5, e⟩ := Option.bind_eq_some_iff.mp e
  obtain ⟨S6, e6, e⟩ := Option.bind_eq_some_iff.mp e
  cases e
  refine ⟨m, S, ρ, wo, S1, q, e1, fun ext H1 x f q1 fr r1 => ⟨_, S1, ρ, wi, S2, q1, e2, fun ext2 H2 y f2 q2 fr2 r2 => ?_⟩⟩
  refine ⟨_, S2, ρ, σ, wo, wi, wg, S3, q2, r1.mono fr2.kp, r2, e3, fun ext3 H3 z f3 q3 fr3 r3 => ⟨_, S3, ρ, wc, S4, q3, e4, fun ext4 H4 y4 f4 q4 fr4 r4 => ?_⟩⟩
  refine ⟨_, S4, ρ, σ, wg, wc, wz, S5, q4, r3.mono fr4.kp, r4, e5, fun ext5 H5 z5 f5 q5 fr5 r5 => ?_⟩
  refine ⟨_, S5, ρ, σ, wo, wi, wz, _, q5, (((r1.mono fr2.kp).mono fr3.kp).mono fr4.kp).mono fr5.kp, ((r2.mono fr3.kp).mono fr4.kp).mono fr5.kp, r5, e6, fun ext6 H6 f6 q6 fr6 => ?_⟩
  exact (((((p.at f q1 fr).at f2 q2 fr2).at f3 q3 fr3).at f4 q4 fr4).at f5 q5 fr5).at f6 q6 fr6 |>.now q6
end
end DL
end
noncomputable section
namespace DL
open PySem PySem.Spec PyProof.Rows L2

/-- J gives ws one by one, whatever has grown since -/
structure Yl (K : PySem.W.Frag) (m : List Addr) (J : It) (ws : List W) (H1 : Hp) : Prop where
  go : ∀ i H', i < ws.length → Kp H1 H' → J.go i H'
  stop : ∀ H', Kp H1 H' → J.stop ws.length H'
  yld : ∀ i H' x H'' w, ws[i]? = some w → Kp H1 H' → J.yld i H' x H'' → (∀ a o, H' a = some o → H'' a = some o) ∧ RW K m H'' x w
abbrev MI := DEnv → Sto → Option (List W × Sto)
def PostI (K : PySem.W.Frag) (m : List Addr) (S' : Sto) (ρ : DEnv) (σ : L2.St) (H : Hp) (ws : List W) (R : It → Hp → Prop) : Prop :=
  ∀ ext J H', Fresh ext H → Sim K (m ++ ext) S' ρ σ H' → Fr m H H' → Yl K (m ++ ext) J ws H' → R J H'
def rdI (K : PySem.W.Frag) (f : MI) : TI := fun σ H R => ∃ m S ρ ws S', Sim K m S ρ σ H ∧ f ρ S = some (ws, S') ∧ PostI K m S' ρ σ H ws R
theorem yl_of {K : PySem.W.Frag} {m : List Addr} {J : It} {ws : List W} {H1 : Hp} {G : Hp → Prop} {Y : Nat → Hp → V → Hp → Prop} (w : Walk J ws.length G Y) (hG : ∀ H', Kp H1 H' → G H')
    (hy : ∀ i H' x H'' w, ws[i]? = some w → Kp H1 H' → Y i H' x H'' → (∀ a o, H' a = some o → H'' a = some o) ∧ RW K m H'' x w) : Yl K m J ws H1 :=
  ⟨fun i H' hi k => w.goes i H' hi (hG H' k), fun H' k => w.stops H' (hG H' k), fun i H' x H'' u e k y => hy i H' x H'' u e k (w.yields i H' x H'' (List.getElem?_eq_some_iff.mp e).1 (hG H' k) y)⟩

section
variable {X : Cx} {tg e a b c : Expr} {es : List Expr} {body : List Stmt} {pos : Pos} {A B C : ME} {T U : MT} {F : MS} {g : MG} {R : MA} {it : MI} {vis : List Nat}
/-- a locked list, a tuple -/
def iLst (A : ME) : MI := fun ρ S => (A ρ S).bind fun p => match p.1 with
  | .d (.list ds) => some (ds.map W.d, p.2)
  | _ => none
def iTupD (A : ME) : MI := fun ρ S => (A ρ S).bind fun p => match p.1 with
  | .d (.tuple ds) => some (ds.map W.d, p.2)
  | _ => none
theorem rpAll_getV {K : PySem.W.Frag} {H : Hp} {ds : List PyData} {vs : List V} {i : Nat} {x : V} {w : W} {m : List Addr} (r : RpAll K H vs ds) (e : vs[i]? = some x) (e2 : (ds.map W.d)[i]? = some w) : RW K m H x w := by
  rw [List.getElem?_map] at e2
  obtain ⟨d, h1, rfl⟩ := Option.map_eq_some_iff.mp e2
  obtain ⟨v, h2, r2⟩ := r.get h1
  rw [e] at h2; cases h2
  exact r2
theorem di_lst (h : PE X e (rdE X.K A)) : PI X tg e (rdI X.K (iLst A)) := ⟨fun pins s σ H R I q => (pi_list h).run pins s σ H R I (by
  obtain ⟨m, S, ρ, ws, S', q, e, p⟩ := q
  obtain ⟨⟨wx, S1⟩, e1, e2⟩ := Option.bind_eq_some_iff.mp e
  refine ⟨m, S, ρ, wx, S1, q, e1, fun ext H1 x f q1 fr r => ?_⟩
  simp only at e2
  split at e2
  · rename_i ds
    cases e2
    obtain ⟨a, xs, rfl, h, r1⟩ := rp_lst r
    refine ⟨a, rfl, ⟨xs, h.sq⟩, p ext _ H1 f q1 fr (yl_of (by rw [List.length_map, ← r1.length]; exact walk_list) (fun H' k => (h.mono k).sq) fun i H' x H'' w ew k y => ?_)⟩
    obtain ⟨rfl, hx⟩ := y
    exact ⟨fun _ _ z => z, rpAll_getV (RpAll.mono k _ _ r1) hx ew⟩
  · cases e2)⟩
theorem di_tup (h : PE X e (rdE X.K A)) : PI X tg e (rdI X.K (iTupD A)) := ⟨fun pins s σ H R I q => (pi_tup h).run pins s σ H R I (by
  obtain ⟨m, S, ρ, ws, S', q, e, p⟩ := q
  obtain ⟨⟨wx, S1⟩, e1, e2⟩ := Option.bind_eq_some_iff.mp e
  refine ⟨m, S, ρ, wx, S1, q, e1, fun ext H1 x f q1 fr r => ?_⟩
  simp only at e2
  split at e2
  · rename_i ds
    cases e2
    obtain ⟨a, xs, rfl, h, r1⟩ := rp_tup r
    refine ⟨a, rfl, ⟨xs, h⟩, p ext _ H1 f q1 fr (yl_of (by rw [List.length_map, ← r1.length]; exact walk_tup) (fun H' k => sqT_mono h k) fun i H' x H'' w ew k y => ?_)⟩
    obtain ⟨rfl, hx⟩ := y
    exact ⟨fun _ _ z => z, rpAll_getV (RpAll.mono k _ _ r1) hx ew⟩
  · cases e2)⟩
def rngD (lo : Int) (n : Nat) : List W := (List.range n).map fun i => W.d (.int (lo + (i : Nat)))
def iRng1D (R : MA) : MI := fun ρ S => (R ρ S).bind fun p => match p.1 with
  | [.d (.int n)] => if n.toNat < 2 ^ 61 ∧ (-n).toNat < 2 ^ 61 then some (rngD 0 n.toNat, p.2) else none
  | _ => none
def iRng2D (R : MA) : MI := fun ρ S => (R ρ S).bind fun p => match p.1 with
  | [.d (.int lo), .d (.int hi)] => if (lo.toNat < 2 ^ 61 ∧ (-lo).toNat < 2 ^ 61) ∧ hi.toNat < 2 ^ 61 ∧ (-hi).toNat < 2 ^ 61 then some (rngD lo (hi - lo).toNat, p.2) else none
  | _ => none
theorem yl_rng {K : PySem.W.Frag} {m : List Addr} {H1 : Hp} {lo : Int} {n : Nat} : Yl K m (Itr lo n) (rngD lo n) H1 := by
  refine yl_of (G := fun _ => True) (Y := YFn fun i => .int (lo + i)) ?_ (fun _ _ => trivial) fun i H' x H'' w ew k y => ?_
  · have : (rngD lo n).length = n := by simp [rngD]
    rw [this]; exact walk_range
  · obtain ⟨rfl, rfl⟩ := y
    refine ⟨fun _ _ z => z, ?_⟩
    simp only [rngD, List.getElem?_map] at ew
    obtain ⟨j, h1, rfl⟩ := Option.map_eq_some_iff.mp ew
    obtain ⟨h2, h3⟩ := List.getElem?_eq_some_iff.mp h1
    rw [List.getElem_range] at h3
    subst h3
    exact .int _
theorem di_rng1 {p : Pos} (hg : Gl X "range") (hm : X.mg "range" = none) (ha : PA X [a] (rdA X.K R)) (hs : starEach [a] X.env = [(false, eval a X.env)] := by rfl) : PI X tg (.Call (.Name "range" p) [a] [] pos) (rdI X.K (iRng1D R)) := ⟨fun pins s σ H R' I q => (pi_range1 hg hm ha hs).run pins s σ H R' I (by
  obtain ⟨m, S, ρ, ws, S', q, e, p⟩ := q
  obtain ⟨⟨us, S1⟩, e1, e2⟩ := Option.bind_eq_some_iff.mp e
  refine ⟨m, S, ρ, us, S1, q, e1, fun ext H1 vs f q1 fr r => ?_⟩
  simp only at e2
  split at e2
  · split at e2
    · rename_i hb
      cases e2
      obtain ⟨v, rfl, r1⟩ := prd1 r
      obtain rfl := rp_int r1
      exact ⟨_, rfl, by omega, by omega, p ext _ H1 f q1 fr yl_rng⟩
    · cases e2
  · cases e2)⟩
theorem di_rng2 {p : Pos} (hg : Gl X "range") (hm : X.mg "range" = none) (ha : PA X [a, b] (rdA X.K R)) (hs : starEach [a, b] X.env = [(false, eval a X.env), (false, eval b X.env)] := by rfl) (hs2 : starEach [b] X.env = [(false, eval b X.env)] := by rfl) :
    PI X tg (.Call (.Name "range" p) [a, b] [] pos) (rdI X.K (iRng2D R)) := ⟨fun pins s σ H R' I q => (pi_range2 hg hm ha hs hs2).run pins s σ H R' I (by
  obtain ⟨m, S, ρ, ws, S', q, e, p⟩ := q
  obtain ⟨⟨us, S1⟩, e1, e2⟩ := Option.bind_eq_some_iff.mp e
  refine ⟨m, S, ρ, us, S1, q, e1, fun ext H1 vs f q1 fr r => ?_⟩
  simp only at e2
  split at e2
  · split at e2
    · rename_i hb
      cases e2
      obtain ⟨v, v', rfl, r1, r2⟩ := prd2 r
      obtain rfl := rp_int r1
      obtain rfl := rp_int r2
      exact ⟨_, _, rfl, ⟨by omega, by omega, by omega, by omega⟩, p ext _ H1 f q1 fr yl_rng⟩
    · cases e2
  · cases e2)⟩

/-! ### for -/
def forL (g : MG) (F : MS) : List W → MS
  | [], ρ, S => some (.nx, ρ, S)
  | w :: ws, ρ, S => (g w ρ S).bind fun p => (F p.1 p.2).bind fun q => match q.1 with
    | .nx => forL g F ws q.2.1 q.2.2
    | .ct => forL g F ws q.2.1 q.2.2
    | .bk => some (.nx, q.2.1, q.2.2)
    | .rt w => some (.rt w, q.2.1, q.2.2)
def sFor (it : MI) (g : MG) (F : MS) : MS := fun ρ S => (it ρ S).bind fun p => forL g F p.1 ρ p.2
theorem rd_for {K : PySem.W.Frag} {D : Ends} {σ : L2.St} {H : Hp} (h : rdS K (sFor it g F) D σ H) : tFor (rdI K it) (rdG K vis g) (rdS K F) D σ H := by
  obtain ⟨m, S, ρ, fl, ρ', S', q, e, p⟩ := h
  obtain ⟨⟨ws, S1⟩, e1, e2⟩ := Option.bind_eq_some_iff.mp e
  refine ⟨m, S, ρ, ws, S1, q, e1, fun ext J H1 f q1 fr yl => ?_⟩
  have p1 := p.at f q1 fr
  clear p fr f q e e1
  generalize m ++ ext = m at *
  refine ⟨fun i n σ' H' => ∃ e2 S2 ρ2, n = ws.length - i ∧ i ≤ ws.length ∧ Fresh e2 H1 ∧ Sim K (m ++ e2) S2 ρ2 σ' H' ∧ Fr m H1 H' ∧ forL g F (ws.drop i) ρ2 S2 = some (fl, ρ', S'),
    ⟨_, [], S1, ρ, rfl, Nat.zero_le _, fun _ h => absurd h (by simp), by rwa [List.append_nil], Fr.refl, e2⟩, ?_⟩
  rintro i n σ' H' ⟨e2, S2, ρ2, rfl, hi, f2, q2, fr2, e⟩
  have p2 := p1.at f2 q2 fr2
  by_cases hlt : i < ws.length
  · rw [List.drop_eq_getElem_cons hlt] at e
    simp only [forL] at e
    obtain ⟨⟨ρ3, S3⟩, e3, e⟩ := Option.bind_eq_some_iff.mp e
    obtain ⟨⟨f1, ρ4, S4⟩, e4, e⟩ := Option.bind_eq_some_iff.mp e
    refine .inr ⟨yl.go i H' hlt fr2.kp, fun σ4 H4 => ∃ n', n' < ws.length - i ∧ ∃ e2 S2 ρ2, n' = ws.length - (i + 1) ∧ i + 1 ≤ ws.length ∧ Fresh e2 H1 ∧ Sim K (m ++ e2) S2 ρ2 σ4 H4 ∧ Fr m H1 H4 ∧ forL g F (ws.drop (i + 1)) ρ2 S2 = some (fl, ρ', S'), fun σ4 H4 z => z, fun x H2 y => ?_⟩
    obtain ⟨kp, rx⟩ := yl.yld i H' x H2 ws[i] (List.getElem?_eq_getElem hlt) fr2.kp y
    have q3 := q2.same kp
    have fr3 : Fr (m ++ e2) H' H2 := fun a o h _ => kp a o h
    refine ⟨m ++ e2, S2, ρ2, ws[i], ρ3, S3, q3, rx.mono (Kp.refl _), e3, fun ext3 σ3 H3 _ f3 q4 fr4 => ⟨_, S3, ρ3, f1, ρ4, S4, q4, e4, fun ext4 σ4 H4 f4 q5 fr5 => ?_⟩⟩
    have q3' : Sim K ((m ++ e2) ++ []) S2 ρ2 σ' H2 := by rwa [List.append_nil]
    have fr4' : Fr (m ++ e2) H' H3 := fun a o h c => fr4 a o (kp a o h) c
    have f3' : Fresh ext3 H' := fun a ha => by
      cases z : H' a with
      | none => rfl
      | some o => have := kp a o z; rw [f3 a ha] at this; cases this
    have p3 := (p2.at f3' q4 fr4').at f4 q5 fr5
    have ff : Fresh (e2 ++ ext3) H1 := f2.append fr2 q2 f3'
    have q4' : Sim K (m ++ (e2 ++ ext3)) S3 ρ3 σ3 H3 := by rwa [← List.append_assoc]
    have fr4'' : Fr m H1 H3 := fr2.trans f2 fr4'
    have q5' : Sim K (m ++ (e2 ++ ext3 ++ ext4)) S4 ρ4 σ4 H4 := by rw [← List.append_assoc, ← List.append_assoc]; exact q5
    have fr5' : Fr m H1 H4 := fr4''.trans ff (by rwa [← List.append_assoc])
    have next : forL g F (ws.drop (i + 1)) ρ4 S4 = some (fl, ρ', S') → ∃ n', n' < ws.length - i ∧ ∃ e2 S2 ρ2, n' = ws.length - (i + 1) ∧ i + 1 ≤ ws.length ∧ Fresh e2 H1 ∧ Sim K (m ++ e2) S2 ρ2 σ4 H4 ∧ Fr m H1 H4 ∧ forL g F (ws.drop (i + 1)) ρ2 S2 = some (fl, ρ', S') := fun e =>
      ⟨_, by omega, e2 ++ ext3 ++ ext4, S4, ρ4, rfl, hlt, ff.append fr4'' q4' f4, q5', fr5', e⟩
    cases f1 with
    | nx => exact next e
    | ct => exact next e
    | bk => cases e; exact p3.now q5
    | rt w => cases e; exact p3.now q5
  · have ei : i = ws.length := by omega
    subst ei
    rw [List.drop_length] at e
    cases e
    exact .inl ⟨yl.stop H' fr2.kp, p2.now q2⟩
theorem ds_for (hp : PassesOwn (model X.prog X.w) X.A X.env X.xe) (hc : X.calm = true) (hi : PI X tg e (rdI X.K it)) (hg : PG X tg (rdG X.K vis g)) (hb : PSs X body (rdS X.K F))
    (hs : ∀ x, foldedSetIterable e X.env x = pure x := by intro _; rfl) : PS X (.For tg e body [] pos) (rdS X.K (sFor it g F)) := wkS (ps_for hp hc hi hg hb hs) fun D σ H q => rd_for q

/-! ### while -/
def whileL (T : MT) (F : MS) : Nat → MS
  | 0, _, _ => none
  | n + 1, ρ, S => (T ρ S).bind fun p => if p.1 = true then (F ρ p.2).bind fun q => (match q.1 with
    | .nx => whileL T F n q.2.1 q.2.2
    | .ct => whileL T F n q.2.1 q.2.2
    | .bk => some (.nx, q.2.1, q.2.2)
    | .rt w => some (.rt w, q.2.1, q.2.2)) else some (.nx, ρ, p.2)
/-- it ends, behind some number of turns -/
theorem rd_while {K : PySem.W.Frag} {D : Ends} {σ : L2.St} {H : Hp} {n : Nat} (h : rdS K (whileL T F n) D σ H) : tWhile (rdT K T) (rdS K F) D σ H := by
  obtain ⟨m, S, ρ, fl, ρ', S', q, e, p⟩ := h
  refine ⟨fun n σ' H' => ∃ e2 S2 ρ2, Fresh e2 H ∧ Sim K (m ++ e2) S2 ρ2 σ' H' ∧ Fr m H H' ∧ whileL T F n ρ2 S2 = some (fl, ρ', S'), ⟨n, [], S, ρ, fun _ h => absurd h (by simp), by rwa [List.append_nil], Fr.refl, e⟩, ?_⟩
  rintro n σ' H' ⟨e2, S2, ρ2, f2, q2, fr2, e⟩
  have p2 := p.at f2 q2 fr2
  cases n with
  | zero => cases e
  | succ n =>
    simp only [whileL] at e
    obtain ⟨⟨b, S3⟩, e3, e⟩ := Option.bind_eq_some_iff.mp e
    refine ⟨m ++ e2, S2, ρ2, b, S3, q2, e3, fun ext3 H3 f3 q3 fr3 => ?_⟩
    have p3 := p2.at f3 q3 fr3
    have ff : Fresh (e2 ++ ext3) H := f2.append fr2 q2 f3
    have q3' : Sim K (m ++ (e2 ++ ext3)) S3 ρ2 σ' H3 := by rwa [← List.append_assoc]
    have fr3' : Fr m H H3 := fr2.trans f2 fr3
    cases b with
    | false =>
      simp only [Bool.false_eq_true, if_false] at e ⊢
      cases e
      exact p3.now q3
    | true =>
      simp only [if_true] at e ⊢
      obtain ⟨⟨f1, ρ4, S4⟩, e4, e⟩ := Option.bind_eq_some_iff.mp e
      refine ⟨fun σ4 H4 => ∃ n', n' < n + 1 ∧ ∃ e2 S2 ρ2, Fresh e2 H ∧ Sim K (m ++ e2) S2 ρ2 σ4 H4 ∧ Fr m H H4 ∧ whileL T F n' ρ2 S2 = some (fl, ρ', S'), fun _ _ z => z, _, S3, ρ2, f1, ρ4, S4, q3, e4, fun ext4 σ4 H4 f4 q5 fr5 => ?_⟩
      have p4 := p3.at f4 q5 fr5
      have q5' : Sim K (m ++ (e2 ++ ext3 ++ ext4)) S4 ρ4 σ4 H4 := by rw [← List.append_assoc, ← List.append_assoc]; exact q5
      have fr5' : Fr m H H4 := fr3'.trans ff (by rwa [← List.append_assoc])
      have next : whileL T F n ρ4 S4 = some (fl, ρ', S') → ∃ n', n' < n + 1 ∧ ∃ e2 S2 ρ2, Fresh e2 H ∧ Sim K (m ++ e2) S2 ρ2 σ4 H4 ∧ Fr m H H4 ∧ whileL T F n' ρ2 S2 = some (fl, ρ', S') := fun e =>
        ⟨n, Nat.lt_succ_self _, e2 ++ ext3 ++ ext4, S4, ρ4, ff.append fr3' q3' f4, q5', fr5', e⟩
      cases f1 with
      | nx => exact next e
      | ct => exact next e
      | bk => cases e; exact p4.now q5
      | rt w => cases e; exact p4.now q5
theorem ds_while {c : Expr} {n : Nat} (hp : PassesOwn (model X.prog X.w) X.A X.env X.xe) (hc : PT X c (rdT X.K T)) (hb : PSs X body (rdS X.K F)) : PS X (.While c body [] pos) (rdS X.K (whileL T F n)) := wkS (ps_while hp hc hb) fun D σ H q => rd_while q
end
end DL
end
noncomputable section
namespace DL
open PySem PySem.Spec PyProof.Rows L2

def wipeD (ρ : DEnv) : List Nat → DEnv
  | [] => ρ
  | v :: vs => (wipeD ρ vs).set v none
theorem wipeD_len (ρ : DEnv) : ∀ vs : List Nat, (wipeD ρ vs).length = ρ.length
  | [] => rfl
  | v :: vs => by simp [wipeD, wipeD_len ρ vs]
theorem wipeD_some {ρ : DEnv} {i : Nat} {x : W} : ∀ {vs : List Nat}, (wipeD ρ vs)[i]? = some (some x) → ρ[i]? = some (some x) ∧ i ∉ vs
  | [], h => ⟨h, by simp⟩
  | v :: vs, h => by
    simp only [wipeD] at h
    by_cases hi : v = i
    · subst hi
      by_cases hv : v < (wipeD ρ vs).length
      · rw [List.getElem?_set_self hv] at h; cases h
      · rw [List.getElem?_eq_none (by simpa using hv)] at h; cases h
    · rw [List.getElem?_set_ne hi] at h
      obtain ⟨h1, h2⟩ := wipeD_some h
      exact ⟨h1, by simp only [List.mem_cons, not_or]; exact ⟨fun e => hi e.symm, h2⟩⟩
section
variable {K : PySem.W.Frag} {H H1 : Hp} {m ext : List Addr} {S S1 S' : Sto} {ρ : DEnv} {σ : L2.St}
theorem Sim.wipe (q : Sim K m S ρ σ H) (vs : List Nat) : Sim K m S (wipeD ρ vs) (wipe σ vs) H := by
  refine ⟨fun i w e => ?_, q.len, q.nd, q.obs, by rw [wipeD_len, wipe_length]; exact q.rl⟩
  obtain ⟨h1, h2⟩ := wipeD_some e
  obtain ⟨v, h, r⟩ := q.slot i w h1
  exact ⟨v, by rw [wipe_out h2]; exact h, r⟩
/-- something else changed -/
theorem Sim.other {a : Addr} {o u : HO} (q : Sim K m S ρ σ H) (nm : a ∉ m) (ha : H a = some u) (hi : ¬ Imm u) : Sim K m S ρ σ (upd H a o) := by
  have kp : Kp H (upd H a o) := fun b x h i => by
    by_cases e : b = a
    · subst e; rw [ha] at h; cases h; exact absurd i hi
    · rw [upd_ne e]; exact h
  refine ⟨fun i w e => ?_, q.len, q.nd, fun n ob e => ?_, q.rl⟩
  · obtain ⟨v, h, r⟩ := q.slot i w e
    exact ⟨v, h, r.mono0 kp⟩
  · obtain ⟨b, h, r⟩ := q.obs n ob e
    have hb : b ≠ a := fun z => nm (by rw [← z]; exact List.mem_of_getElem? h)
    have := RO.mono (ext := []) r kp (fun x hx => by rw [upd_ne hb]; exact hx)
    rw [List.append_nil] at this
    exact ⟨b, h, this⟩
theorem Sim.adopt {a : Addr} {ob : Ob} (q : Sim K m S ρ σ H) (nm : a ∉ m) (r : RO K (m ++ [a]) H a ob) : Sim K (m ++ [a]) (S ++ [ob]) ρ σ H := by
  refine ⟨fun i w e => ?_, by simp [q.len], ?_, fun n o e => ?_, q.rl⟩
  · obtain ⟨v, h, r⟩ := q.slot i w e
    exact ⟨v, h, r.mono (Kp.refl _)⟩
  · rw [List.nodup_append]
    refine ⟨q.nd, by simp, fun x hx y hy e => ?_⟩
    have ey : y = a := by simpa using hy
    exact nm (by rw [← ey, ← e]; exact hx)
  · by_cases hlt : n < S.length
    · rw [List.getElem?_append_left hlt] at e
      obtain ⟨b, h, r⟩ := q.obs n o e
      refine ⟨b, ?_, RO.mono r (Kp.refl _) (fun _ z => z)⟩
      rw [List.getElem?_append_left (by rw [q.len]; exact hlt)]; exact h
    · have h2 : n < (S ++ [ob]).length := (List.getElem?_eq_some_iff.mp e).1
      have en : n = S.length := by simp at h2; omega
      subst en
      have eo : ob = o := by simpa using e
      subst eo
      refine ⟨a, ?_, r⟩
      rw [List.getElem?_append_right (by rw [q.len]; exact Nat.le_refl _), q.len]; simp
theorem kp_other {a : Addr} {o u : HO} (ha : H a = some u) (hi : ¬ Imm u) : Kp H (upd H a o) := fun b x h i => by
  by_cases e : b = a
  · subst e; rw [ha] at h; cases h; exact absurd i hi
  · rw [upd_ne e]; exact h
theorem fresh_old (f : Fresh ext H1) (k : ∀ a o, H a = some o → H1 a = some o) : Fresh ext H := fun a h => by
  cases e : H a with
  | none => rfl
  | some o =>
    have := k a o e
    rw [f a h] at this; cases this
end

theorem wipe_at (σ : L2.St) : ∀ (vs : List Nat) (i : Nat), (wipe σ vs)[i]? = if i ∈ vs then (σ[i]?).map (fun _ => none) else σ[i]?
  | [], i => by simp [wipe]
  | v :: vs, i => by
    show ((wipe σ vs).set v none)[i]? = _
    by_cases hv : v = i
    · subst hv
      by_cases hl : v < σ.length
      · rw [List.getElem?_set_self (by rw [wipe_length]; exact hl)]
        simp [hl]
      · rw [List.getElem?_eq_none (by rw [List.length_set, wipe_length]; omega), List.getElem?_eq_none (by omega : σ.length ≤ v)]
        simp
    · rw [List.getElem?_set_ne hv, wipe_at σ vs i]
      have : i ≠ v := fun e => hv e.symm
      simp [this]
theorem wipe_twice (σ : L2.St) (vs : List Nat) : wipe (wipe σ vs) vs = wipe σ vs := by
  apply List.ext_getElem?
  intro i
  rw [wipe_at, wipe_at]
  by_cases h : i ∈ vs
  · simp only [h, if_true]
    cases σ[i]? <;> rfl
  · simp only [h, if_false]

/-! ### one clause -/
def lcL (g : MG) (T : MT) (E : ME) (vs : List Nat) (ρ : DEnv) : List W → Sto → Option (List W × Sto)
  | [], S => some ([], S)
  | w :: ws, S => (g w (wipeD ρ vs) S).bind fun p => (T p.1 p.2).bind fun b => if b.1 = true then (E p.1 b.2).bind fun y => (lcL g T E vs ρ ws y.2).bind fun r => some (y.1 :: r.1, r.2) else lcL g T E vs ρ ws b.2
def mLc (it : MI) (g : MG) (T : MT) (E : ME) (vs : List Nat) (k : List W → Sto → Option (W × Sto)) : ME := fun ρ S => (it ρ S).bind fun p => (lcL g T E vs ρ p.1 p.2).bind fun r => k r.1 r.2
section
variable {K : PySem.W.Frag} {it : MI} {g : MG} {T : MT} {E : ME} {vs : List Nat} {k : List W → Sto → Option (W × Sto)} {σ : L2.St} {H : Hp} {Q : VK}
/-- the core: the list stands at D, outside of the store -/
theorem rd_lc (h : rdE K (mLc it g T E vs k) σ H Q) (hk : ∀ ws S w S', k ws S = some (w, S') → ws.length ≤ sizeLine) {Q' : VK}
    (fin : ∀ m S ρ H1 D acc zs w S', Sim K m S ρ σ H1 → D ∉ m → H1 D = some (.lst zs) → Paired (RW K m H1) zs acc → k acc S = some (w, S') →
      (∀ ext H2 v, D ∉ m → (∀ a ∈ ext, a = D) → Sim K (m ++ ext) S' ρ σ H2 → (∀ a o, H1 a = some o → a ≠ D → H2 a = some o) → RW K (m ++ ext) H2 v w → Q v H2) → Q' (.ref D) H1) :
    tLc (rdI K it) (rdG K vs g) (rdT K T) (rdE K E) vs σ H Q' := by
  obtain ⟨m, S, ρ, w, S', q, e, p⟩ := h
  obtain ⟨⟨ws, S1⟩, e1, e⟩ := Option.bind_eq_some_iff.mp e
  obtain ⟨⟨all, S9⟩, hh2, e3⟩ := Option.bind_eq_some_iff.mp e
  have hlen : all.length ≤ sizeLine := hk _ _ _ _ e3
  refine ⟨m, S, ρ, ws, S1, q, e1, fun ext J H1 f q1 fr yl D hD => ?_⟩
  have p1 := p.at f q1 fr
  clear p fr f q e e1
  generalize m ++ ext = m at *
  have keepD := upd_keeps (o := HO.lst []) hD
  have q2 := q1.same keepD
  have nD := q1.nomem hD
  have kpD : Kp H1 (upd H1 D (.lst [])) := upd_kp hD
  refine ⟨fun i n H' => ∃ e2 S2 acc r zs, n = ws.length - i ∧ i ≤ ws.length ∧ Fresh e2 (upd H1 D (.lst [])) ∧ Sim K (m ++ e2) S2 ρ σ H' ∧ (∀ a o, H1 a = some o → (a ∉ m ∨ Imm o) → H' a = some o) ∧ D ∉ m ++ e2 ∧ H' D = some (.lst zs) ∧ Paired (RW K (m ++ e2) H') zs acc ∧ lcL g T E vs ρ (ws.drop i) S2 = some (r, S9) ∧ all = acc ++ r,
    ⟨_, [], S1, [], all, [], rfl, Nat.zero_le _, fun _ h => absurd h (by simp), by rwa [List.append_nil], fun a o h _ => keepD a o h, by rwa [List.append_nil], upd_same, .nil, hh2, rfl⟩, ?_⟩
  rintro i n H' ⟨e2, S2, acc, r, zs, rfl, hi, f2, q3, fr2, n2, hzs, pz, e, hall⟩
  have fr2' : Fr m H1 H' := fr2
  have kp2 : Kp H1 H' := fr2'.kp
  have f2o : Fresh e2 H1 := fresh_old f2 keepD
  by_cases hlt : i < ws.length
  · rw [List.drop_eq_getElem_cons hlt] at e
    simp only [lcL] at e
    obtain ⟨⟨ρ3, S3⟩, e3', e⟩ := Option.bind_eq_some_iff.mp e
    obtain ⟨⟨b, S4⟩, e4, e⟩ := Option.bind_eq_some_iff.mp e
    refine .inr ⟨yl.go i H' hlt kp2, fun H4 => ∃ n', n' < ws.length - i ∧ ∃ e2 S2 acc r zs, n' = ws.length - (i + 1) ∧ i + 1 ≤ ws.length ∧ Fresh e2 (upd H1 D (.lst [])) ∧ Sim K (m ++ e2) S2 ρ σ H4 ∧ (∀ a o, H1 a = some o → (a ∉ m ∨ Imm o) → H4 a = some o) ∧ D ∉ m ++ e2 ∧ H4 D = some (.lst zs) ∧ Paired (RW K (m ++ e2) H4) zs acc ∧ lcL g T E vs ρ (ws.drop (i + 1)) S2 = some (r, S9) ∧ all = acc ++ r, fun H4 z => z, fun x H2 y => ?_⟩
    obtain ⟨kp, rx⟩ := yl.yld i H' x H2 ws[i] (List.getElem?_eq_getElem hlt) kp2 y
    have q4 := q3.same kp
    have base : Fresh e2 (upd H1 D (.lst [])) := f2
    have hD2 : H2 D = some (.lst zs) := kp _ _ hzs
    refine ⟨m ++ e2, S2, wipeD ρ vs, ws[i], ρ3, S3, q4.wipe vs, rx.mono (Kp.refl _), e3', fun ext3 σ3 H3 hw f3 q5 fr3 => ⟨by rw [hw, wipe_twice], ?_⟩⟩
    -- the frame's own slots are as they were
    have simAt : ∀ (ext : List Addr) (S5 : Sto) (ρ5 : DEnv) (σ5 : L2.St) (H5 : Hp), Fresh ext H2 → Sim K (m ++ e2 ++ ext) S5 ρ5 σ5 H5 → Fr (m ++ e2) H2 H5 →
        Sim K (m ++ (e2 ++ ext)) S5 ρ σ H5 ∧ Fresh (e2 ++ ext) (upd H1 D (.lst [])) ∧ (∀ a o, H1 a = some o → (a ∉ m ∨ Imm o) → H5 a = some o) ∧ D ∉ m ++ (e2 ++ ext) ∧ H5 D = some (.lst zs) ∧ Paired (RW K (m ++ (e2 ++ ext)) H5) zs acc := fun ext S5 ρ5 σ5 H5 f5 q6 fr5 => by
      have k5 : Kp H' H5 := (fun a o h i => fr5 a o (kp a o h) (.inr i))
      have nde : D ∉ ext := fun z => by rw [f5 D z] at hD2; cases hD2
      refine ⟨⟨fun j w' ej => ?_, by rw [← List.append_assoc]; exact q6.len, by rw [← List.append_assoc]; exact q6.nd, by rw [← List.append_assoc]; exact q6.obs, q3.rl⟩, ?_, fun a o h c => ?_, ?_, ?_, ?_⟩
      · obtain ⟨v, hv, rv⟩ := q3.slot j w' ej
        refine ⟨v, hv, ?_⟩
        rw [← List.append_assoc]
        exact rv.mono k5
      · intro a ha
        rcases List.mem_append.mp ha with z | z
        · exact f2 a z
        · have h2 := f5 a z
          have nD' : a ≠ D := fun w => nde (w ▸ z)
          rw [upd_ne nD']
          cases z3 : H1 a with
          | none => rfl
          | some o =>
            by_cases c : a ∉ m ∨ Imm o
            · have := kp a o (fr2 a o z3 c)
              rw [h2] at this; cases this
            · have am : a ∈ m := Classical.byContradiction fun w => c (.inl w)
              obtain ⟨o', ho⟩ := q4.mem (List.mem_append_left e2 am)
              rw [h2] at ho; cases ho
      · have h1 := fr2 a o h c
        have h2 := kp a o h1
        refine fr5 a o h2 ?_
        rcases c with c | c
        · refine .inl fun z => ?_
          rcases List.mem_append.mp z with z | z
          · exact c z
          · rw [f2o a z] at h; cases h
        · exact .inr c
      · intro z
        rcases List.mem_append.mp z with z | z
        · exact n2 (List.mem_append_left _ z)
        · rcases List.mem_append.mp z with z | z
          · exact n2 (List.mem_append_right _ z)
          · exact nde z
      · exact fr5 D _ hD2 (.inl n2)
      · rw [← List.append_assoc]
        exact pRW.mono pz k5
    refine ⟨_, S3, ρ3, b, S4, q5, e4, fun ext4 H4 f4 q6 fr4 => ?_⟩
    have ff : Fresh (ext3 ++ ext4) H2 := f3.append fr3 q5 f4
    have fr24 : Fr (m ++ e2) H2 H4 := fr3.trans f3 fr4
    cases b with
    | false =>
      simp only [Bool.false_eq_true, if_false] at e ⊢
      obtain ⟨s1, s2, s3, s4, s5, s6⟩ := simAt (ext3 ++ ext4) S4 _ _ H4 ff (by rwa [← List.append_assoc]) fr24
      exact ⟨_, by omega, _, S4, acc, r, zs, rfl, hlt, s2, s1, s3, s4, s5, s6, e, hall⟩
    | true =>
      simp only [if_true] at e ⊢
      obtain ⟨⟨y, S5⟩, e5, e⟩ := Option.bind_eq_some_iff.mp e
      obtain ⟨⟨r', S6⟩, e6, e7⟩ := Option.bind_eq_some_iff.mp e
      cases e7
      refine ⟨_, S4, ρ3, y, S5, q6, e5, fun ext5 H5 yv f5 q7 fr5 ry => ?_⟩
      have ff5 : Fresh (ext3 ++ ext4 ++ ext5) H2 := ff.append fr24 (by rwa [← List.append_assoc]) f5
      have fr25 : Fr (m ++ e2) H2 H5 := fr24.trans ff (by rwa [← List.append_assoc])
      obtain ⟨s1, s2, s3, s4, s5, s6⟩ := simAt (ext3 ++ ext4 ++ ext5) S5 _ _ H5 ff5 (by rw [← List.append_assoc, ← List.append_assoc]; exact q7) fr25
      have hacc : acc.length < sizeLine := by
        have : all.length = acc.length + (r'.length + 1) := by rw [hall, List.length_append, List.length_cons]
        omega
      refine ⟨zs, s5, by rw [s6.length]; exact hacc, _, by omega, _, S5, acc ++ [y], r', zs ++ [yv], rfl, hlt, s2, s1.other s4 s5 (fun z => z), fun a o h c => ?_, s4, upd_same, ?_, e6, by rw [hall, List.append_assoc]; rfl⟩
      · have : a ≠ D := fun z => by subst z; rw [hD] at h; cases h
        rw [upd_ne this]
        exact s3 a o h c
      · have kk : Kp H5 (upd H5 D (.lst (zs ++ [yv]))) := kp_other s5 fun z => z
        refine paired_app (Paired.mapP s6 fun _ _ z => z.mono0 kk) (.cons ?_ .nil)
        have := ry.mono0 kk
        rwa [show m ++ e2 ++ ext3 ++ ext4 ++ ext5 = m ++ (e2 ++ (ext3 ++ ext4 ++ ext5)) by simp] at this
  · have ei : i = ws.length := by omega
    subst ei
    rw [List.drop_length] at e
    cases e
    rw [List.append_nil] at hall
    subst hall
    refine .inl ⟨yl.stop H' kp2, fin (m ++ e2) S9 ρ H' D all zs w S' q3 n2 hzs pz e3 fun ext H2 v _ hext q9 k9 r9 => ?_⟩
    have dext : Fresh (e2 ++ ext) H1 := fun a ha => by
      rcases List.mem_append.mp ha with z | z
      · exact f2o a z
      · rw [hext a z]; exact hD
    refine p1 (e2 ++ ext) H2 v dext (by rwa [← List.append_assoc]) (fun a o h c => ?_) (by rwa [← List.append_assoc])
    exact k9 a o (fr2 a o h c) fun z => by subst z; rw [hD] at h; cases h
/-- the list locked -/
def kFrz : List W → Sto → Option (W × Sto) := fun ws S => (allD ws).bind fun ds => if ds.length ≤ sizeLine then some (.d (.list ds), S) else none
def kBox : List W → Sto → Option (W × Sto) := fun ws S => if ws.length ≤ sizeLine then some (.loc S.length, S ++ [.lst ws]) else none
theorem allD_len : ∀ {ws : List W} {ds : List PyData}, allD ws = some ds → ds.length = ws.length
  | [], _, e => by cases e; rfl
  | .d x :: ws, ds, e => by
    simp only [allD, Option.map_eq_some_iff] at e
    obtain ⟨es, e1, rfl⟩ := e
    simp [allD_len e1]
  | .loc _ :: _, _, e => by cases e
theorem kFrz_len {ws : List W} {S S' : Sto} {w : W} (h : kFrz ws S = some (w, S')) : ws.length ≤ sizeLine := by
  obtain ⟨ds, e1, e2⟩ := Option.bind_eq_some_iff.mp h
  split at e2
  · rw [← allD_len e1]; assumption
  · cases e2
theorem kBox_len {ws : List W} {S S' : Sto} {w : W} (h : kBox ws S = some (w, S')) : ws.length ≤ sizeLine := by
  unfold kBox at h
  split at h
  · assumption
  · cases h
theorem rd_lcF (h : rdE K (mLc it g T E vs kFrz) σ H Q) : tLc (rdI K it) (rdG K vs g) (rdT K T) (rdE K E) vs σ H (Lk Q) :=
  rd_lc h (fun _ _ _ _ => kFrz_len) fun m S ρ H1 D acc zs w S' q nD hD pz e p => by
    obtain ⟨ds, e1, e2⟩ := Option.bind_eq_some_iff.mp e
    split at e2
    · cases e2
      refine ⟨D, zs, rfl, hD, fun o => ?_⟩
      have k : Kp H1 (upd H1 D (.frz o (.lst zs))) := kp_other hD fun z => z
      refine p [] _ _ nD (fun _ h => absurd h (by simp)) (by rw [List.append_nil]; exact q.other nD hD fun z => z) (fun a o h n => by rw [upd_ne n]; exact h) ?_
      exact Rp.lst (.inl ⟨o, upd_same⟩) (RpAll.mono k _ _ (allD_of e1 pz))
    · cases e2
theorem rd_lcB (h : rdE K (mLc it g T E vs kBox) σ H Q) : tLc (rdI K it) (rdG K vs g) (rdT K T) (rdE K E) vs σ H Q :=
  rd_lc h (fun _ _ _ _ => kBox_len) fun m S ρ H1 D acc zs w S' q nD hD pz e p => by
    unfold kBox at e
    split at e
    · cases e
      refine p [D] _ _ nD (fun _ h => by simpa using h) (q.adopt nD ⟨zs, hD, pRW.mono pz (Kp.refl _)⟩) (fun a o h n => h) ⟨D, ?_, rfl⟩
      rw [← q.len, List.getElem?_append_right (Nat.le_refl _)]; simp
    · cases e
end
section
variable {X : Cx} {elt tg iter : Expr} {ifs : List Expr} {scope : Scope} {own : List (Str × Nat)} {pos spos py : Pos} {it : MI} {g : MG} {T : MT} {E : ME}
def tTrue : MT := fun _ S => some (true, S)
theorem dts_nil : PTs X [] (rdT X.K tTrue) := ⟨fun p s σ H Q I q => pts_nil.run p s σ H Q I (by
  obtain ⟨m, S, ρ, b, S', q, e, p⟩ := q
  cases e
  exact p.now q)⟩
theorem dts_one {c : Expr} (h : PT X c (rdT X.K T)) : PTs X [c] (rdT X.K T) := pts_one h
theorem de_lc (hc : X.calm = true) (hN : X.N.Nodup) (hi : PI X tg iter (rdI X.K it)) (ok : BlkOk X.N X.env.scope scope own)
    (hg : ∀ (s : Shared) (H : Hp) (C : Addr) (cl : List (Str × Addr)) (fp : List Addr), PG (X.blk s H scope (compEnvC scope cl C X.env) fp) tg (rdG X.K (own.map (·.2)) g)) (ht : ∀ (s : Shared) (H : Hp) (C : Addr) (cl : List (Str × Addr)) (fp : List Addr), PTs (X.blk s H scope (compEnvC scope cl C X.env) fp) ifs (rdT X.K T))
    (he : ∀ (s : Shared) (H : Hp) (C : Addr) (cl : List (Str × Addr)) (fp : List Addr), PE (X.blk s H scope (compEnvC scope cl C X.env) fp) elt (rdE X.K E)) (hs : ∀ x, foldedSetIterable iter X.env x = pure x := by intro _; rfl) :
    PE X (.ListComp elt [⟨tg, iter, ifs, 0⟩] scope pos) (rdE X.K (mLc it g T E (own.map (·.2)) kFrz)) := wkE (peFrz (pe_lc hc hN hi ok hg ht he hs)) fun σ H Q q => rd_lcF q
theorem de_lcB (hc : X.calm = true) (hN : X.N.Nodup) (hi : PI X tg iter (rdI X.K it)) (ok : BlkOk X.N X.env.scope scope own)
    (hg : ∀ (s : Shared) (H : Hp) (C : Addr) (cl : List (Str × Addr)) (fp : List Addr), PG (X.blk s H scope (compEnvC scope cl C X.env) fp) tg (rdG X.K (own.map (·.2)) g)) (ht : ∀ (s : Shared) (H : Hp) (C : Addr) (cl : List (Str × Addr)) (fp : List Addr), PTs (X.blk s H scope (compEnvC scope cl C X.env) fp) ifs (rdT X.K T))
    (he : ∀ (s : Shared) (H : Hp) (C : Addr) (cl : List (Str × Addr)) (fp : List Addr), PE (X.blk s H scope (compEnvC scope cl C X.env) fp) elt (rdE X.K E)) (hs : ∀ x, foldedSetIterable iter X.env x = pure x := by intro _; rfl) :
    PE X (.ListComp elt [⟨tg, iter, ifs, 0⟩] scope pos) (rdE X.K (mLc it g T E (own.map (·.2)) kBox)) := wkE (pe_lc hc hN hi ok hg ht he hs) fun σ H Q q => rd_lcB q
/-- name = a new list, locked -/
def LkS (i : Nat) (D : Ends) : L2.St → Hp → Prop := fun σ' H1 => ∃ a xs, σ'[i]? = some (some (.ref a)) ∧ H1 a = some (.lst xs) ∧ ∀ o, D.nx σ' (upd H1 a (.frz o (.lst xs)))
theorem psFrz {st : Stmt} {t : TE} {i : Nat} (h : PS X st (tAsg t (gName i))) : PS X st fun D σ H => t σ H fun v H1 => LkS i D (σ.set i (some v)) H1 := by
  refine ⟨fun pins s σ H D I q => ?_⟩
  refine thn (h.run pins s σ H { nx := LkS i D, rt := fun _ _ => False } I q) fun f s1 q1 => ?_
  cases f with
  | next =>
    obtain ⟨σ', H', I', a, xs, e1, hl, q⟩ := q1
    obtain ⟨o, I2⟩ := I'.lock hl trivial
    exact ⟨σ', _, I2, q o⟩
  | brk => obtain ⟨_, _, _, z⟩ := q1; exact z.elim
  | cont => obtain ⟨_, _, _, z⟩ := q1; exact z.elim
  | ret v => obtain ⟨_, _, _, _, _, z⟩ := q1; exact z.elim
theorem asgE {A : ME} {i : Nat} {K : PySem.W.Frag} {D : Ends} {σ : L2.St} {H : Hp} (h : rdS K (sAsg A (gSet i)) D σ H) : rdE K A σ H (fun v H1 => D.nx (σ.set i (some v)) H1) ∧ i < σ.length := by
  obtain ⟨m, S, ρ, fl, ρ', S', q, e, p⟩ := h
  obtain ⟨⟨wx, S1⟩, e1, e2⟩ := Option.bind_eq_some_iff.mp e
  obtain ⟨⟨ρ2, S2⟩, e3, e4⟩ := Option.bind_eq_some_iff.mp e2
  cases e4
  unfold gSet at e3
  split at e3
  · rename_i hi
    cases e3
    have := q.rl
    exact ⟨⟨m, S, ρ, wx, _, q, e1, fun ext H1 x f q1 fr r => ((p.at f q1 fr).now (q1.slotset r))⟩, by omega⟩
  · cases e3
theorem ds_setLc {i : Nat} {y : Str} (hc : X.calm = true) (hN : X.N.Nodup) (hy : X.N[i]? = some y) (hyl : X.env.scope.names.lookup y = some .local)
    (hsw : swapsWith (.ListComp elt [⟨tg, iter, ifs, 0⟩] scope pos) (some (.Name y py)) spos.line X.env = pure true) (hi : PI X tg iter (rdI X.K it)) (ok : BlkOk X.N X.env.scope scope own)
    (hg : ∀ (s : Shared) (H : Hp) (C : Addr) (cl : List (Str × Addr)) (fp : List Addr), PG (X.blk s H scope (compEnvC scope cl C X.env) fp) tg (rdG X.K (own.map (·.2)) g)) (ht : ∀ (s : Shared) (H : Hp) (C : Addr) (cl : List (Str × Addr)) (fp : List Addr), PTs (X.blk s H scope (compEnvC scope cl C X.env) fp) ifs (rdT X.K T))
    (he : ∀ (s : Shared) (H : Hp) (C : Addr) (cl : List (Str × Addr)) (fp : List Addr), PE (X.blk s H scope (compEnvC scope cl C X.env) fp) elt (rdE X.K E)) (hs : ∀ x, foldedSetIterable iter X.env x = pure x := by intro _; rfl) :
    PS X (.Assign [.Name y py] (.ListComp elt [⟨tg, iter, ifs, 0⟩] scope pos) spos) (rdS X.K (sAsg (mLc it g T E (own.map (·.2)) kFrz) (gSet i))) := wkS (psFrz (ps_setLc hc hN hy hyl hsw hi ok hg ht he hs)) fun D σ H q => by
  obtain ⟨q1, hi⟩ := asgE q
  refine rd_lc q1 (fun _ _ _ _ => kFrz_len) fun m S ρ H1 D acc zs w S' q nD hD pz e p => ?_
  obtain ⟨ds, e1, e2⟩ := Option.bind_eq_some_iff.mp e
  split at e2
  · cases e2
    refine ⟨D, zs, by rw [List.getElem?_set_self hi], hD, fun o => ?_⟩
    have k : Kp H1 (upd H1 D (.frz o (.lst zs))) := kp_other hD fun z => z
    refine p [] _ _ nD (fun _ h => absurd h (by simp)) (by rw [List.append_nil]; exact q.other nD hD fun z => z) (fun a o h n => by rw [upd_ne n]; exact h) ?_
    exact Rp.lst (.inl ⟨o, upd_same⟩) (RpAll.mono k _ _ (allD_of e1 pz))
  · cases e2
theorem ds_setLcB {i : Nat} {y : Str} (hc : X.calm = true) (hN : X.N.Nodup) (hy : X.N[i]? = some y) (hyl : X.env.scope.names.lookup y = some .local)
    (hsw : swapsWith (.ListComp elt [⟨tg, iter, ifs, 0⟩] scope pos) (some (.Name y py)) spos.line X.env = pure true) (hi : PI X tg iter (rdI X.K it)) (ok : BlkOk X.N X.env.scope scope own)
    (hg : ∀ (s : Shared) (H : Hp) (C : Addr) (cl : List (Str × Addr)) (fp : List Addr), PG (X.blk s H scope (compEnvC scope cl C X.env) fp) tg (rdG X.K (own.map (·.2)) g)) (ht : ∀ (s : Shared) (H : Hp) (C : Addr) (cl : List (Str × Addr)) (fp : List Addr), PTs (X.blk s H scope (compEnvC scope cl C X.env) fp) ifs (rdT X.K T))
    (he : ∀ (s : Shared) (H : Hp) (C : Addr) (cl : List (Str × Addr)) (fp : List Addr), PE (X.blk s H scope (compEnvC scope cl C X.env) fp) elt (rdE X.K E)) (hs : ∀ x, foldedSetIterable iter X.env x = pure x := by intro _; rfl) :
    PS X (.Assign [.Name y py] (.ListComp elt [⟨tg, iter, ifs, 0⟩] scope pos) spos) (rdS X.K (sAsg (mLc it g T E (own.map (·.2)) kBox) (gSet i))) := wkS (ps_setLc hc hN hy hyl hsw hi ok hg ht he hs) fun D σ H q => by
  obtain ⟨q1, hi⟩ := asgE q
  exact rd_lcB q1
end
end DL
end
noncomputable section
namespace DL
open PySem PySem.Spec PyProof.Rows L2

/-- a def as a function of data: the arguments, the objects that they point to -/
abbrev FS := List W → Sto → Option (W × Sto)
def spD (K : PySem.W.Frag) (n : Nat) (f : FS) : Sp := fun vs H Q _ =>
  ∃ m S ws w S', Sim K m S [] [] H ∧ Paired (RW K m H) vs ws ∧ ws.length = n ∧ f ws S = some (w, S') ∧ Post K m S' [] [] H w Q
/-- a def's promise where no guard is up -/
structure FnG (P : Program) (w : World) (K : PySem.W.Frag) (mg : Str → Option Value) (base : Heap) (k : Nat) (f : Addr) (fd : FuncData) (ps : List Str) (sp : Sp) : Prop where
  len : ∀ vs H Q E, sp vs H Q E → vs.length = ps.length
  run : ∀ (A : Around) (outer : List Env) (s : Shared) (H : Hp) (args : Args) (us : List Value) (vs : List V) (Q : VK) (E : XK), Room k A → A.guards = some [] → Env0 P w K mg base A outer s H → BindsTo s fd args (ps.zip us) → Vals vs us → sp vs H Q E →
    codeAny (model P w) A (.call (.ref f) args) (CR CX0 outer P w H s Q E) s

/-! ### a body -/
def obD : Ob → Bool
  | .lst ws => (allD ws).isSome
  | .dicK kvs => (allD (kvs.map (·.2))).isSome
  | .dicT kvs => (allD (kvs.map (·.2))).isSome
  | .dead => true
def wD : W → Bool
  | .d _ => true
  | .loc _ => false
theorem allD_wD : ∀ {ws : List W}, (allD ws).isSome = true → ∀ w ∈ ws, wD w = true
  | [], _, w, h => by simp at h
  | .d x :: ws, e, w, h => by
    simp only [allD, Option.isSome_map] at e
    rcases List.mem_cons.mp h with z | z
    · rw [z]; rfl
    · exact allD_wD e w z
  | .loc _ :: _, e, _, _ => by cases e
theorem RW.anyM {K : PySem.W.Frag} {m m2 : List Addr} {H : Hp} {v : V} {w : W} (h : wD w = true) (r : RW K m H v w) : RW K m2 H v w := by
  cases w with
  | d x => exact r
  | loc n => cases h
theorem paired_anyM {K : PySem.W.Frag} {m m2 : List Addr} {H : Hp} : ∀ {vs : List V} {ws : List W}, (∀ w ∈ ws, wD w = true) → Paired (RW K m H) vs ws → Paired (RW K m2 H) vs ws
  | _, _, _, .nil => .nil
  | _, _, h, .cons r t => .cons (r.anyM (h _ (by simp))) (paired_anyM (fun w hw => h w (by simp [hw])) t)
theorem pairedK_anyM {κ : Type} {K : PySem.W.Frag} {m m2 : List Addr} {H : Hp} : ∀ {vs : List (κ × V)} {ws : List (κ × W)}, (∀ w ∈ ws.map (·.2), wD w = true) → Paired (fun p q => p.1 = q.1 ∧ RW K m H p.2 q.2) vs ws → Paired (fun p q => p.1 = q.1 ∧ RW K m2 H p.2 q.2) vs ws
  | _, _, _, .nil => .nil
  | _, _, h, .cons r t => .cons ⟨r.1, r.2.anyM (h _ (by simp))⟩ (pairedK_anyM (fun w hw => h w (by simp at hw ⊢; exact .inr hw)) t)
theorem RO.anyM {K : PySem.W.Frag} {m m2 : List Addr} {H : Hp} {a : Addr} {ob : Ob} (h : obD ob = true) (r : RO K m H a ob) : RO K m2 H a ob := by
  cases ob with
  | lst ws => obtain ⟨vs, e, p⟩ := r; exact ⟨vs, e, paired_anyM (allD_wD h) p⟩
  | dicK kvs => obtain ⟨vs, e, p⟩ := r; exact ⟨vs, e, pairedK_anyM (allD_wD h) p⟩
  | dicT kvs => obtain ⟨vs, e, p⟩ := r; exact ⟨vs, e, pairedK_anyM (allD_wD h) p⟩
  | dead => exact r
/-- what leaves a body: the value, the first n objects, and a new one if the value is it -/
def leave (n : Nat) (w : W) (S : Sto) : Option (W × Sto) :=
  if (S.take n).all obD = true then match w with
    | .d x => some (.d x, S.take n)
    | .loc j => match S[j]? with
      | some ob => if n ≤ j ∧ obD ob = true then some (.loc n, S.take n ++ [ob]) else none
      | none => none
  else none
def runF (N : Nat) (b : MS) : FS := fun ws S => (b (ws.map some ++ List.replicate (N - ws.length) none) S).bind fun p => match p.1 with
  | .nx => leave S.length (.d .none) p.2.2
  | .rt w => leave S.length w p.2.2
  | _ => none
section
variable {K : PySem.W.Frag} {H H' : Hp} {m ext : List Addr} {S S1 S' : Sto} {ρ : DEnv} {σ : L2.St} {w w' : W} {Q : VK}
theorem sim_take (q : Sim K (m ++ ext) S1 ρ σ H') (hl : m.length = S.length) (h : (S1.take S.length).all obD = true) : Sim K m (S1.take S.length) [] [] H' := by
  have l1 : m.length + ext.length = S1.length := by have := q.len; rwa [List.length_append] at this
  refine ⟨fun i w e => by simp at e, by rw [List.length_take]; omega, (List.nodup_append.mp q.nd).1, fun n ob e => ?_, Nat.le_refl _⟩
  have hn : n < (S1.take S.length).length := (List.getElem?_eq_some_iff.mp e).1
  rw [List.length_take] at hn
  have e' : S1[n]? = some ob := by rw [List.getElem?_take_of_lt (by omega)] at e; exact e
  obtain ⟨a, ha, r⟩ := q.obs n ob e'
  rw [List.getElem?_append_left (by omega)] at ha
  exact ⟨a, ha, r.anyM (List.all_eq_true.mp h ob (List.mem_of_getElem? e))⟩
theorem leave_ok (q0 : Sim K m S [] [] H) (p : Post K m S' [] [] H w' Q) (hf : Fresh ext H) (q : Sim K (m ++ ext) S1 ρ σ H') (fr : Fr m H H') (e : leave S.length w S1 = some (w', S')) {v : V} (r : RW K (m ++ ext) H' v w) : Q v H' := by
  unfold leave at e
  split at e
  · rename_i hd
    have q1 := sim_take q q0.len hd
    split at e
    · cases e
      exact p [] H' v (fun _ h => absurd h (by simp)) (by rwa [List.append_nil]) fr (RW.anyM (m := m ++ ext) rfl r)
    · rename_i j
      split at e
      · rename_i ob hj
        split at e
        · rename_i hob
          cases e
          obtain ⟨a, ha, rfl⟩ := r
          obtain ⟨a2, ha2, ro⟩ := q.obs j ob hj
          rw [ha] at ha2; cases ha2
          have hlen := q0.len
          have hae : ext[j - m.length]? = some a := by
            rw [List.getElem?_append_right (by omega)] at ha
            exact ha
          have am : a ∈ ext := List.mem_of_getElem? hae
          have nm : a ∉ m := fun z => (List.nodup_append.mp q.nd).2.2 a z a am rfl
          refine p [a] H' _ (fun b hb => by simp at hb; subst hb; exact hf _ am) (q1.adopt nm (ro.anyM hob.2)) fr ⟨a, ?_, rfl⟩
          rw [← q0.len, List.getElem?_append_right (Nat.le_refl _)]; simp
        · cases e
      · cases e
  · cases e
end
theorem guards_deeper (A : Around) (e : Env) : (A.deeper e).guards = A.guards := rfl
section
variable {P : Program} {w : World} {K : PySem.W.Frag} {mg : Str → Option Value} {base : Heap}
/-- a def keeps the promise of its body's function -/
theorem fnG {x qual : Str} {st : Stmt} {f : Addr} {fd : FuncData} {N ps : List Str} {k : Nat} {b : MS} (F : Fun K x qual st f fd) (sc : FnScope N ps (defScope st))
    (body : ∀ (cdv : Value) (A : Around) (outer : List Env) (s : Shared) (H : Hp) (E : XK), Room k (A.deeper (envOfC qual (defScope st) s.heap.objs.size f cdv)) → (A.deeper (envOfC qual (defScope st) s.heap.objs.size f cdv)).guards = some [] →
      PSs (cxOf CX0 P w K mg base N qual (defScope st) f cdv A outer s H E).nox (defBody st) (rdS K b)) : FnG P w K mg base (k + 1) f fd ps (spD K ps.length (runF N.length b)) := by
  obtain ⟨oc, od, kV, doc, pm, an, cdv, ct, osl, rfl, lk, hcd⟩ := F.ex
  have plen : ∀ vs H Q E, spD K ps.length (runF N.length b) vs H Q E → vs.length = ps.length := fun vs H Q E ⟨_, _, ws, _, _, _, r, hl, _⟩ => r.length.trans hl
  refine ⟨plen, ?_⟩
  intro A outer s H args us vs Q E room hgd e0 bind rel want
  have argl := plen _ _ _ _ want
  have inK : K.In s.heap := e0.mod.kin.keeps fun z o e => (e0.bs z o e).1
  have nolim : s.heap.NoLimit := e0.mod.nolimit.keeps fun z o e => (e0.bs z o e).1
  have kinds : ∀ y ∈ ps.zip us, (defScope st).names.lookup y.1 = some .local ∨ ((defScope st).names.lookup y.1 = some .cell ∧ ((cellsFrom (s.heap.objs.size + 1) (defScope st).names []).lookup y.1).isSome = true) := by
    rintro ⟨n, z⟩ hy
    rcases sc.par n (List.of_mem_zip hy).1 with c | c
    · exact Or.inl c
    · exact Or.inr ⟨c, PySem.W.cellsFrom_some _ _ _ (Or.inl c)⟩
  refine codeAny_call_function room.depth (inK _ _ lk) rfl sc.co sc.gen rfl (PySem.W.codeRec_of inK hcd) (bind _ _ _ _ (wpAny_newFunctionEnv_cells sc.kind kinds fun env ee s1 made => ?_))
  subst ee
  refine ⟨nolim.keeps made.toInCall.keep, codeAny_func ?_⟩
  have I0 : Inv (cxOf CX0 P w K mg base N qual (defScope st) f cdv A outer s H E) [] (start N vs) H s1 := inv_start sc room.hd e0 argl rel made
  have run := ((body cdv A outer s H E (room.deeper _) hgd).nox).run [] s1 (start N vs) H { nx := fun _ H' => Q .non H', rt := Q } I0 (by
    obtain ⟨m, S, ws, w0, S', q0, pr, hl, e, p⟩ := want
    obtain ⟨⟨fl, ρ', S1⟩, e1, e2⟩ := Option.bind_eq_some_iff.mp e
    have npl : ps.length ≤ N.length := by
      have := congrArg List.length sc.pre
      rw [List.length_take] at this
      omega
    have vl := pr.length
    refine ⟨m, S, _, fl, ρ', S1, ⟨fun i w' ei => ?_, q0.len, q0.nd, q0.obs, ?_⟩, e1, fun ext σ' H' hf q fr => ?_⟩
    · by_cases hi : i < ws.length
      · rw [List.getElem?_append_left (by simpa using hi), List.getElem?_map] at ei
        obtain ⟨w2, h2, h3⟩ := Option.map_eq_some_iff.mp ei
        cases h3
        obtain ⟨v, hv, rv⟩ := paired_getR pr h2
        refine ⟨v, ?_, rv⟩
        unfold L2.start
        rw [List.getElem?_append_left (by rw [List.length_map]; omega), List.getElem?_map, hv]; rfl
      · rw [List.getElem?_append_right (by simpa using Nat.le_of_not_lt hi), List.getElem?_replicate] at ei
        split at ei <;> cases ei
    · unfold L2.start
      simp only [List.length_append, List.length_map, List.length_replicate]
      omega
    · cases fl with
      | nx => exact leave_ok q0 p hf q fr e2 (v := .non) .non
      | rt w2 => exact fun v r => leave_ok q0 p hf q fr e2 r
      | bk => cases e2
      | ct => cases e2)
  refine wpAny_mono run (fun fl s' hs => ?_) fun e s' hs => hs
  cases fl with
  | ret u =>
    obtain ⟨v, σ', H', J, rv, q⟩ := hs
    exact ⟨v, H', J.os, J.bare, J.base, J.hok, rv, q⟩
  | next =>
    obtain ⟨σ', H', J, q⟩ := hs
    exact ⟨.non, H', J.os, J.bare, J.base, J.hok, rfl, q⟩
  | brk => obtain ⟨_, _, _, q⟩ := hs; exact False.elim q
  | cont => obtain ⟨_, _, _, q⟩ := hs; exact False.elim q
end

/-! ### a call -/
def firstLoc : List W → Option Nat
  | [] => none
  | .loc n :: _ => some n
  | .d _ :: ws => firstLoc ws
def allLoc (n : Nat) : List W → Bool
  | [] => true
  | .loc j :: ws => j == n && allLoc n ws
  | .d _ :: ws => allLoc n ws
def toZero : W → W
  | .d x => .d x
  | .loc _ => .loc 0
def callF (f : FS) : List W → Sto → Option (W × Sto) := fun ws S => match firstLoc ws with
  | none => (f ws []).bind fun r => match r.1, r.2 with
    | .d x, [] => some (.d x, S)
    | .loc 0, [ob] => if obD ob = true then some (.loc S.length, S ++ [ob]) else none
    | _, _ => none
  | some n => if allLoc n ws = true then match S[n]? with
    | some ob => if obD ob = true then (f (ws.map toZero) [ob]).bind fun r => match r.1, r.2 with
      | .d x, [ob'] => if obD ob' = true then some (.d x, S.set n ob') else none
      | .loc 1, [ob', ob2] => if obD ob' = true ∧ obD ob2 = true then some (.loc S.length, S.set n ob' ++ [ob2]) else none
      | _, _ => none
      else none
    | none => none
    else none
section
variable {K : PySem.W.Frag} {H H1 H' : Hp} {m ext : List Addr} {S S1 S' : Sto} {ρ : DEnv} {σ : L2.St} {w w' : W} {Q : VK}
theorem noLoc_anyM : ∀ {ws : List W} {vs : List V} {m m2 : List Addr}, firstLoc ws = none → Paired (RW K m H) vs ws → Paired (RW K m2 H) vs ws
  | [], _, _, _, _, .nil => .nil
  | .d x :: ws, _, _, _, h, .cons r t => .cons r (noLoc_anyM h t)
  | .loc _ :: _, _, _, _, h, _ => by cases h
theorem oneLoc {a : Addr} : ∀ {ws : List W} {vs : List V} {n : Nat}, m[n]? = some a → allLoc n ws = true → Paired (RW K m H) vs ws → Paired (RW K [a] H) vs (ws.map toZero)
  | [], _, _, _, _, .nil => .nil
  | .d x :: ws, _, _, ha, h, .cons r t => .cons r (oneLoc ha h t)
  | .loc j :: ws, _, n, ha, h, .cons r t => by
    simp only [allLoc, Bool.and_eq_true, beq_iff_eq] at h
    refine .cons ?_ (oneLoc ha h.2 t)
    obtain ⟨b, hb, e⟩ := r
    rw [h.1, ha] at hb; cases hb
    exact ⟨a, rfl, e⟩
theorem RO.there {a : Addr} {ob : Ob} (r : RO K m H a ob) : ∃ o, H a = some o := by
  cases ob with
  | lst ws => obtain ⟨vs, h, _⟩ := r; exact ⟨_, h⟩
  | dicK ws => obtain ⟨vs, h, _⟩ := r; exact ⟨_, h⟩
  | dicT ws => obtain ⟨vs, h, _⟩ := r; exact ⟨_, h⟩
  | dead => exact r
/-- the store behind a call that may have changed the n-th object -/
theorem Sim.after {a : Addr} {n : Nat} {ob' : Ob} {m2 : List Addr} (q : Sim K m S ρ σ H) (ha : m[n]? = some a) (hn : n < S.length) (k : ∀ b o, H b = some o → (b ≠ a ∨ Imm o) → H' b = some o) (r : RO K m2 H' a ob') (hd : obD ob' = true) : Sim K m (S.set n ob') ρ σ H' := by
  have kp : Kp H H' := fun b o h i => k b o h (.inr i)
  refine ⟨fun i w e => ?_, by simp [q.len], q.nd, fun j ob2 e => ?_, q.rl⟩
  · obtain ⟨v, h, r⟩ := q.slot i w e
    exact ⟨v, h, r.mono0 kp⟩
  · by_cases hj : j = n
    · subst hj
      rw [List.getElem?_set_self hn] at e
      cases e
      exact ⟨a, ha, r.anyM hd⟩
    · rw [List.getElem?_set_ne (Ne.symm hj)] at e
      obtain ⟨b, h, r'⟩ := q.obs j ob2 e
      refine ⟨b, h, ?_⟩
      have hb : b ≠ a := fun z => by
        subst z
        obtain ⟨h1, e1⟩ := List.getElem?_eq_some_iff.mp h
        obtain ⟨h2, e2⟩ := List.getElem?_eq_some_iff.mp ha
        exact hj ((List.getElem_inj q.nd).mp (e1.trans e2.symm))
      have := RO.mono (ext := []) r' kp (fun u hu => k b u hu (.inl hb))
      rw [List.append_nil] at this
      exact this
theorem callF_sp {f : FS} {ws : List W} {vs : List V} {E : XK} (q : Sim K m S ρ σ H) (pr : Paired (RW K m H) vs ws) (e : callF f ws S = some (w, S')) (p : Post K m S' ρ σ H w Q) : spD K ws.length f vs H Q E := by
  unfold callF at e
  split at e
  · rename_i hnl
    obtain ⟨⟨w1, S1⟩, e1, e2⟩ := Option.bind_eq_some_iff.mp e
    refine ⟨[], [], ws, w1, S1, ⟨fun i w h => by simp at h, rfl, by simp, fun n ob h => by simp at h, Nat.le_refl _⟩, noLoc_anyM hnl pr, rfl, e1, fun ext H' v hf q1 fr r => ?_⟩
    have keep : ∀ b o, H b = some o → H' b = some o := fun b o h => fr b o h (.inl (by simp))
    simp only at e2
    split at e2
    · cases e2
      exact p.grown q keep (RW.anyM (m := [] ++ ext) rfl r)
    · rename_i _ _ ob
      split at e2
      · rename_i hob
        cases e2
        obtain ⟨a, ha, rfl⟩ := r
        obtain ⟨a2, ha2, ro⟩ := q1.obs 0 ob rfl
        rw [ha] at ha2; cases ha2
        have am : a ∈ ext := by
          rw [List.nil_append] at ha
          exact List.mem_of_getElem? ha
        have nm : a ∉ m := q.nomem (hf a am)
        refine p [a] H' _ (fun b hb => by simp at hb; subst hb; exact hf _ am) ((q.same keep).adopt nm (ro.anyM hob)) (fun b o h _ => keep b o h) ⟨a, ?_, rfl⟩
        rw [← q.len, List.getElem?_append_right (Nat.le_refl _)]; simp
      · cases e2
    · cases e2
  · rename_i n hfl
    split at e
    · rename_i hal
      split at e
      · rename_i ob hob
        split at e
        · rename_i hod
          obtain ⟨⟨w1, S1⟩, e1, e2⟩ := Option.bind_eq_some_iff.mp e
          obtain ⟨a, ha, ro⟩ := q.obs n ob hob
          have hn : n < S.length := (List.getElem?_eq_some_iff.mp hob).1
          refine ⟨[a], [ob], ws.map toZero, w1, S1, ⟨fun i w h => by simp at h, rfl, by simp, fun j o h => ?_, Nat.le_refl _⟩, oneLoc ha hal pr, by simp, e1, fun ext H' v hf q1 fr r => ?_⟩
          · cases j with
            | zero =>
              have : ob = o := by simpa using h
              subst this
              exact ⟨a, rfl, ro.anyM hod⟩
            | succ j => simp at h
          have keep : ∀ b o, H b = some o → (b ≠ a ∨ Imm o) → H' b = some o := fun b o h c => fr b o h (by
            rcases c with c | c
            · exact .inl (by simpa using c)
            · exact .inr c)
          have hfm : Fr m H H' := fun b o h c => keep b o h (by
            rcases c with c | c
            · exact .inl fun z => c (by rw [z]; exact List.mem_of_getElem? ha)
            · exact .inr c)
          simp only at e2
          split at e2
          · rename_i _ _ _ ob'
            split at e2
            · rename_i hd'
              cases e2
              obtain ⟨b, hb, ro'⟩ := q1.obs 0 ob' rfl
              simp only [List.cons_append, List.getElem?_cons_zero, Option.some.injEq] at hb
              subst hb
              have q2 := q.after ha hn keep ro' hd'
              exact p [] H' v (fun _ h => absurd h (by simp)) (by rwa [List.append_nil]) hfm (RW.anyM (m := [a] ++ ext) rfl r)
            · cases e2
          · rename_i _ _ ob' ob2
            split at e2
            · rename_i hd'
              cases e2
              obtain ⟨b, hb, ro'⟩ := q1.obs 0 ob' rfl
              simp only [List.cons_append, List.getElem?_cons_zero, Option.some.injEq] at hb
              subst hb
              obtain ⟨c, hc, ro2⟩ := q1.obs 1 ob2 rfl
              obtain ⟨c2, hc2, rfl⟩ := r
              rw [hc] at hc2; cases hc2
              have cm : c ∈ ext := by
                simp only [List.cons_append, List.nil_append, List.getElem?_cons_succ] at hc
                exact List.mem_of_getElem? hc
              have q2 := q.after ha hn keep ro' hd'.1
              have nm : c ∉ m := q.nomem (hf c cm)
              refine p [c] H' _ (fun b hb => by simp at hb; subst hb; exact hf _ cm) (q2.adopt nm (ro2.anyM hd'.2)) hfm ⟨c, ?_, rfl⟩
              have : (S.set n ob').length = m.length := by rw [List.length_set, q.len]
              rw [← q.len, List.getElem?_append_right (Nat.le_refl _)]; simp
            · cases e2
          · cases e2
        · cases e
      · cases e
    · cases e
end
section
variable {X : Cx} {k : Nat} {f : Addr} {fd : FuncData} {ps : List Str} {fs : FS} {x : Str} {p pos : Pos} {e : Expr} {es : List Expr} {R : MA} {A : ME}
theorem runG {sp : Sp} {pins : List (Addr × Obj)} {σ : L2.St} {H : Hp} {s : Shared} {Q : VK} {us : List Value} {vs : List V} {E : XK} (F : FnG X.prog X.w X.K X.mg X.base k f fd ps sp) (room : Room k X.A) (hgd : X.A.guards = some []) (hb : Binds X.K fd ps [])
    (I : Inv X pins σ H s) (r : Vals vs us) (h : sp vs H Q E) : wpAny (model X.prog X.w) X.A (call (.ref f) us) (EP X pins σ Q) X.xe s := by
  have ll : us.length = ps.length := by rw [← r.length]; exact F.len _ _ _ _ h
  have bb := hb s us I.kIn (by rw [List.append_nil]; exact ll)
  rw [List.append_nil] at bb
  refine wpAny_call (codeAny_mono (F.run X.A X.stack s H ⟨us, []⟩ us vs Q E room hgd I.env0 bb r h) fun r s' hq => ?_)
  cases r with
  | error e => exact False.elim hq
  | ok fl =>
    cases fl with
    | ret u => exact I.after hq
    | next => exact hq.elim
    | brk => exact hq.elim
    | cont => exact hq.elim
theorem de_call (F : FnG X.prog X.w X.K X.mg X.base k f fd ps (spD X.K ps.length fs)) (room : Room k X.A) (hgd : X.A.guards = some []) (hg : Gl X x) (hm : X.mg x = some (.ref f)) (hk : PySem.W.keepIn X.K (.ref f) = true) (hb : Binds X.K fd ps [])
    (ha : PA X (e :: es) (rdA X.K R)) (hps : ps.length = (e :: es).length) (hR : ∀ ρ S ws S', R ρ S = some (ws, S') → ws.length = (e :: es).length) (hdb : (x == ("__debug__" : Str)) = false := by decide) (he : starEach (e :: es) X.env = (false, eval e X.env) :: starEach es X.env := by rfl) (hpl : (backTo pos (starEach es X.env)).any (·.1) = false := by rfl) :
    PE X (.Call (.Name x p) (e :: es) [] pos) (rdE X.K (mCall (callF fs) R)) := by
  refine ⟨fun pins s σ H Q I h => ?_⟩
  refine wpAny_Call_Name_kw (ld_glob I hg hm ?_ hdb)
  have h2 : rdA X.K R σ H fun vs H1 => spD X.K ps.length fs vs H1 Q (fun _ _ _ => False) := by
    obtain ⟨m, S, ρ, w, S', q, e, p⟩ := h
    obtain ⟨⟨ws, S1⟩, e1, e2⟩ := Option.bind_eq_some_iff.mp e
    refine ⟨m, S, ρ, ws, S1, q, e1, fun ext H1 vs f q1 fr r => ?_⟩
    have := callF_sp (E := fun _ _ _ => False) q1 r e2 (p.at f q1 fr)
    rwa [hR _ _ _ _ e1, ← hps] at this
  exact PySem.W.callWith_K (h₀ := X.base) I.ok.mod.kin hk (thn (ha.run pos pins s σ H _ I h2) fun us s1 ⟨vs, H1, I1, r, q⟩ => ⟨I1.kIn, runG F room hgd hb I1 r q⟩) he hpl
/-- a list that nobody else will change: locked -/
def mFrz (A : ME) : ME := fun ρ S => (A ρ S).bind fun p => match p.1 with
  | .loc j => match p.2[j]? with
    | some (.lst ws) => (allD ws).map fun ds => (.d (.list ds), p.2.set j .dead)
    | _ => none
  | .d _ => none
theorem de_frz (h : PE X e (rdE X.K A)) : PE X e (rdE X.K (mFrz A)) := wkE (peFrz h) fun σ H Q q => by
  obtain ⟨m, S, ρ, w, S', q, e, p⟩ := q
  obtain ⟨⟨wx, S1⟩, e1, e2⟩ := Option.bind_eq_some_iff.mp e
  refine ⟨m, S, ρ, wx, S1, q, e1, fun ext H1 x f q1 fr r => ?_⟩
  have p1 := p.at f q1 fr
  simp only at e2
  split at e2
  · split at e2
    · rename_i j _ ws hj
      obtain ⟨ds, e3, e4⟩ := Option.map_eq_some_iff.mp e2
      cases e4
      obtain ⟨a, ha, rfl⟩ := r
      obtain ⟨a2, ha2, vs, hv, pr⟩ := q1.obs j _ hj
      rw [ha] at ha2; cases ha2
      refine ⟨a, vs, rfl, hv, fun o => ?_⟩
      have hn := (List.getElem?_eq_some_iff.mp hj).1
      have q2 := q1.put (ob := .dead) (o := .frz o (.lst vs)) ha (fun u h => by rw [hv] at h; cases h; exact fun z => z) hn ⟨_, upd_same⟩
      refine p1 [] _ _ (fun _ h => absurd h (by simp)) (by rw [List.append_nil]; exact q2) (put_fr ha hv) ?_
      exact Rp.lst (.inl ⟨o, upd_same⟩) (RpAll.mono (put_kp hv) _ _ (allD_of e3 pr))
    · cases e2
  · cases e2
end
end DL
end
noncomputable section
namespace DL
open PySem PySem.Spec PyProof.Rows L2

/-- what can be put in order -/
inductive Cd where
  | int (i : Int)
  | tup (cs : List Cd)
mutual
def toP : Cd → PyData
  | .int i => .int i
  | .tup cs => .tuple (toPs cs)
def toPs : List Cd → List PyData
  | [] => []
  | c :: cs => toP c :: toPs cs
end
mutual
def ofP : PyData → Option Cd
  | .int i => some (.int i)
  | .tuple ds => (ofPs ds).map .tup
  | _ => none
def ofPs : List PyData → Option (List Cd)
  | [] => some []
  | d :: ds => (ofP d).bind fun c => (ofPs ds).map (c :: ·)
end
mutual
theorem ofP_eq : ∀ (d : PyData) (c : Cd), ofP d = some c → d = toP c
  | .int i, c, h => by simp only [ofP, Option.some.injEq] at h; subst h; rfl
  | .tuple ds, c, h => by
    simp only [ofP, Option.map_eq_some_iff] at h
    obtain ⟨cs, h1, rfl⟩ := h
    rw [ofPs_eq ds cs h1]; rfl
  | .none, _, h => by simp [ofP] at h
  | .bool _, _, h => by simp [ofP] at h
  | .str _, _, h => by simp [ofP] at h
  | .list _, _, h => by simp [ofP] at h
  | .dict _, _, h => by simp [ofP] at h
theorem ofPs_eq : ∀ (ds : List PyData) (cs : List Cd), ofPs ds = some cs → ds = toPs cs
  | [], cs, h => by simp only [ofPs, Option.some.injEq] at h; subst h; rfl
  | d :: ds, cs, h => by
    simp only [ofPs] at h
    obtain ⟨c, h1, h2⟩ := Option.bind_eq_some_iff.mp h
    obtain ⟨r, h3, rfl⟩ := Option.map_eq_some_iff.mp h2
    rw [ofP_eq d c h1, ofPs_eq ds r h3]; rfl
end
mutual
theorem ofP_toP : ∀ c : Cd, ofP (toP c) = some c
  | .int i => rfl
  | .tup cs => by simp only [toP, ofP, ofPs_toPs cs, Option.map_some]
theorem ofPs_toPs : ∀ cs : List Cd, ofPs (toPs cs) = some cs
  | [] => rfl
  | c :: cs => by simp only [toPs, ofPs, ofP_toP c, ofPs_toPs cs, Option.bind_some, Option.map_some]
end
theorem toPs_map (cs : List Cd) : toPs cs = cs.map toP := by
  induction cs with
  | nil => rfl
  | cons c cs ih => simp [toPs, ih]
theorem toPs_len (cs : List Cd) : (toPs cs).length = cs.length := by rw [toPs_map]; simp

/-! ### the order -/
def cmpI2 (a b : Int) : Ordering := if a < b then .lt else if a = b then .eq else .gt
mutual
def cmpC : Cd → Cd → Ordering
  | .int a, .int b => cmpI2 a b
  | .int _, .tup _ => .lt
  | .tup _, .int _ => .gt
  | .tup xs, .tup ys => cmpCs xs ys
def cmpCs : List Cd → List Cd → Ordering
  | [], [] => .eq
  | [], _ :: _ => .lt
  | _ :: _, [] => .gt
  | x :: xs, y :: ys => match cmpC x y with
    | .eq => cmpCs xs ys
    | .lt => .lt
    | .gt => .gt
end
theorem cmpI2_eq {a b : Int} : cmpI2 a b = .eq ↔ a = b := by unfold cmpI2; split <;> simp <;> omega
theorem cmpI2_lt {a b : Int} : cmpI2 a b = .lt ↔ a < b := by
  unfold cmpI2
  by_cases h : a < b
  · simp [h]
  · by_cases h2 : a = b <;> simp [h, h2]
theorem cmpI2_gt {a b : Int} : cmpI2 a b = .gt ↔ b < a := by unfold cmpI2; split <;> simp <;> omega
mutual
theorem cmpC_eq : ∀ x y : Cd, cmpC x y = .eq ↔ x = y
  | .int a, .int b => by simp only [cmpC, cmpI2_eq, Cd.int.injEq]
  | .int _, .tup _ => by simp [cmpC]
  | .tup _, .int _ => by simp [cmpC]
  | .tup xs, .tup ys => by simp only [cmpC, cmpCs_eq xs ys, Cd.tup.injEq]
theorem cmpCs_eq : ∀ xs ys : List Cd, cmpCs xs ys = .eq ↔ xs = ys
  | [], [] => by simp [cmpCs]
  | [], _ :: _ => by simp [cmpCs]
  | _ :: _, [] => by simp [cmpCs]
  | x :: xs, y :: ys => by
    have h1 := cmpC_eq x y
    have h2 := cmpCs_eq xs ys
    simp only [cmpCs, List.cons.injEq]
    cases e : cmpC x y with
    | eq => simp [h1.mp e, h2]
    | lt => rw [e] at h1; simp at h1; simp [h1]
    | gt => rw [e] at h1; simp at h1; simp [h1]
end
mutual
theorem cmpC_sw : ∀ x y : Cd, cmpC y x = (cmpC x y).swap
  | .int a, .int b => by
    simp only [cmpC, cmpI2]
    by_cases h : a < b
    · have h1 : ¬ b < a := by omega
      have h2 : ¬ b = a := by omega
      simp [h, h1, h2]
    · by_cases h2 : a = b
      · simp [h2]
      · have h3 : b < a := by omega
        simp [h, h2, h3]
  | .int _, .tup _ => by simp [cmpC]
  | .tup _, .int _ => by simp [cmpC]
  | .tup xs, .tup ys => by simp only [cmpC, cmpCs_sw xs ys]
theorem cmpCs_sw : ∀ xs ys : List Cd, cmpCs ys xs = (cmpCs xs ys).swap
  | [], [] => by simp [cmpCs]
  | [], _ :: _ => by simp [cmpCs]
  | _ :: _, [] => by simp [cmpCs]
  | x :: xs, y :: ys => by
    simp only [cmpCs, cmpC_sw x y, cmpCs_sw xs ys]
    cases cmpC x y <;> simp
end
theorem cmpC_swap (x y : Cd) : cmpC y x = .lt ↔ cmpC x y = .gt := by
  rw [cmpC_sw x y]
  cases cmpC x y <;> simp
mutual
theorem cmpC_trans : ∀ x y z : Cd, cmpC x y = .lt → cmpC y z = .lt → cmpC x z = .lt
  | .int a, .int b, .int c => by simp only [cmpC, cmpI2_lt]; omega
  | .int _, .int _, .tup _ => by simp [cmpC]
  | .int _, .tup _, .int _ => by simp [cmpC]
  | .int _, .tup _, .tup _ => by simp [cmpC]
  | .tup _, .int _, .int _ => by simp [cmpC]
  | .tup _, .int _, .tup _ => by simp [cmpC]
  | .tup _, .tup _, .int _ => by simp [cmpC]
  | .tup xs, .tup ys, .tup zs => by simp only [cmpC]; exact cmpCs_trans xs ys zs
theorem cmpCs_trans : ∀ xs ys zs : List Cd, cmpCs xs ys = .lt → cmpCs ys zs = .lt → cmpCs xs zs = .lt
  | [], [], [] => by simp [cmpCs]
  | [], [], _ :: _ => by simp [cmpCs]
  | [], _ :: _, [] => by simp [cmpCs]
  | [], _ :: _, _ :: _ => by simp [cmpCs]
  | _ :: _, [], [] => by simp [cmpCs]
  | _ :: _, [], _ :: _ => by simp [cmpCs]
  | _ :: _, _ :: _, [] => by simp [cmpCs]
  | x :: xs, y :: ys, z :: zs => by
    have t := cmpC_trans x y z
    have ts := cmpCs_trans xs ys zs
    have e1 := cmpC_eq x y
    have e2 := cmpC_eq y z
    simp only [cmpCs]
    intro h1 h2
    cases a : cmpC x y with
    | gt => rw [a] at h1; cases h1
    | eq =>
      rw [a] at h1
      have := e1.mp a
      subst this
      cases b : cmpC x z with
      | gt => rw [b] at h2; cases h2
      | lt => rfl
      | eq => rw [b] at h2; exact ts h1 h2
    | lt =>
      cases b : cmpC y z with
      | gt => rw [b] at h2; cases h2
      | lt => rw [t a b]
      | eq =>
        have := e2.mp b
        subst this
        rw [a]
end
def ltC (x y : Cd) : Bool := cmpC x y == .lt
theorem ltC_iff {x y : Cd} : ltC x y = true ↔ cmpC x y = .lt := by simp [ltC]
theorem ltC_tot {x y : Cd} (h : ltC x y = false) : x = y ∨ ltC y x = true := by
  cases e : cmpC x y with
  | lt => simp [ltC, e] at h
  | eq => exact .inl ((cmpC_eq x y).mp e)
  | gt => exact .inr (ltC_iff.mpr ((cmpC_swap x y).mpr e))
theorem ltC_irr (x : Cd) : ltC x x = false := by
  have := (cmpC_eq x x).mpr rfl
  simp [ltC, this]
theorem ltC_trans {x y z : Cd} (h1 : ltC x y = true) (h2 : ltC y z = true) : ltC x z = true := ltC_iff.mpr (cmpC_trans x y z (ltC_iff.mp h1) (ltC_iff.mp h2))
theorem ltC_asym {x y : Cd} (h : ltC x y = true) : ltC y x = false := by
  cases e : ltC y x with
  | false => rfl
  | true => have := ltC_trans h e; rw [ltC_irr] at this; cases this
theorem ltC_neg {x y z : Cd} (h1 : ltC x y = false) (h2 : ltC y z = false) : ltC x z = false := by
  cases e : ltC x z with
  | false => rfl
  | true =>
    rcases ltC_tot h1 with rfl | h1
    · rw [h2] at e; cases e
    · rcases ltC_tot h2 with rfl | h2
      · rw [ltC_asym h1] at e; cases e
      · have := ltC_trans h2 h1
        rw [ltC_asym this] at e; cases e
theorem swo_cd {α : Type} (κ : α → Cd) : SrtO.Swo fun u v => ltC (κ u) (κ v) := ⟨fun _ _ h => ltC_asym h, fun _ _ _ h1 h2 => ltC_neg h2 h1⟩

/-! ### == on such data -/
mutual
theorem eqv_toP : ∀ x y : Cd, PyData.eqv (toP x) (toP y) = (cmpC x y == .eq)
  | .int a, .int b => by
    have := @cmpI2_eq a b
    simp only [toP, PyData.eqv, cmpC]
    by_cases h : a = b
    · simp [h, (@cmpI2_eq b b).mpr rfl]
    · have h2 : cmpI2 a b ≠ .eq := fun e => h (this.mp e)
      cases e : cmpI2 a b <;> simp_all
  | .int _, .tup _ => by simp [toP, PyData.eqv, cmpC]
  | .tup _, .int _ => by simp [toP, PyData.eqv, cmpC]
  | .tup xs, .tup ys => by simp only [toP, PyData.eqv, cmpC, eqv_toPs xs ys]
theorem eqv_toPs : ∀ xs ys : List Cd, PyData.eqvAll (toPs xs) (toPs ys) = (cmpCs xs ys == .eq)
  | [], [] => by simp [toPs, PyData.eqvAll, cmpCs]
  | [], _ :: _ => by simp [toPs, PyData.eqvAll, cmpCs]
  | _ :: _, [] => by simp [toPs, PyData.eqvAll, cmpCs]
  | x :: xs, y :: ys => by
    simp only [toPs, PyData.eqvAll, cmpCs, eqv_toP x y, eqv_toPs xs ys]
    cases cmpC x y <;> simp
end
mutual
theorem lay_toP : ∀ x : Cd, (toP x).canLay0 = true
  | .int a => rfl
  | .tup xs => by simp only [toP, PyData.canLay0, lay_toPs xs]
theorem lay_toPs : ∀ xs : List Cd, PyData.canLayAll0 (toPs xs) = true
  | [] => rfl
  | x :: xs => by simp only [toPs, PyData.canLayAll0, lay_toP x, lay_toPs xs, Bool.and_self]
end

/-! ### < of tuples, by their items -/
def LtAt (A : Around) (s : Shared) (u v : Value) (b : Bool) : Prop :=
  ∀ (prog : Program) (w : World) (E : Value → Shared → Prop) (Q : Value → Shared → Prop), Q (.bool b) s → wpAny (model prog w) A (richCompare .Lt u v) Q E s
inductive LexAt (A : Around) (s : Shared) : List Value → List Value → Bool → Prop
  | nn : LexAt A s [] [] false
  | nc (v : Value) (vs : List Value) : LexAt A s [] (v :: vs) true
  | cn (u : Value) (us : List Value) : LexAt A s (u :: us) [] false
  | same {u v : Value} {us vs : List Value} {b : Bool} : SeqAt.EqAt A s u v true → LexAt A s us vs b → LexAt A s (u :: us) (v :: vs) b
  | other {u v : Value} {us vs : List Value} {b : Bool} : SeqAt.EqAt A s u v false → LtAt A s u v b → LexAt A s (u :: us) (v :: vs) b
section
open PySem.MeetsSeq PySem.MeetsSeq2 PySem.MeetsSeq3
theorem tup_lt_run (l b : Addr) (xs ys : Array Value) (n k : Nat) (dx dy : Option Addr) (sx sy : Array (Option Value)) (r : Bool) :
    Meets (Builtin.«tuple.__lt__» ⟨[.ref l, .ref b], []⟩) (fun A R s => s.heap.get? l = some { cls := .type "tuple", dict := dx, data := .seq xs n, slots := sx } ∧
      s.heap.get? b = some { cls := .type "tuple", dict := dy, data := .seq ys k, slots := sy } ∧ LexAt A.in1 s xs.toList ys.toList r ∧ R (.ok (.ret (.bool r))) s) :=
  .of_wp fun prog w A R s h => by
    obtain ⟨hp, g, d, tk, os⟩ := s
    obtain ⟨h1, h2, hx, h⟩ := h
    have tt := AutoSeq1.sub_tuple_tuple
    wp_walk using AutoSeq1.wpAny_loadPart' h1, AutoSeq1.wpAny_loadPart' h2, wpAny_forIn_list _ (fun todo c s' => c.1 = none ∧ s' = ⟨hp, g, d, tk, os⟩ ∧ ∃ us vs : List Value, todo = us.zip vs ∧
      LexAt A.in1 ⟨hp, g, d, tk, os⟩ us vs r ∧ us.length + ys.size = vs.length + xs.size) _
    case h => exact ⟨rfl, rfl, xs.toList, ys.toList, rfl, hx, by simp; omega⟩
    case turn =>
      rintro ⟨p, q⟩ todo c s' ⟨hc, rfl, us, vs, ez, lx, el⟩
      cases lx with
      | nn => rw [List.zip_nil_left] at ez; cases ez
      | nc v vs => rw [List.zip_nil_left] at ez; cases ez
      | cn u us => rw [List.zip_nil_right] at ez; cases ez
      | same e lx =>
        rw [List.zip_cons_cons] at ez
        obtain ⟨e1, rfl⟩ := List.cons.inj ez
        obtain ⟨rfl, rfl⟩ := Prod.mk.inj e1
        simp only [List.length_cons] at el
        refine wpAny_bind (e prog w _ _ ?_)
        wp_walk
        exact ⟨rfl, rfl, _, _, rfl, lx, by omega⟩
      | other e lt =>
        rw [List.zip_cons_cons] at ez
        obtain ⟨e1, rfl⟩ := List.cons.inj ez
        obtain ⟨rfl, rfl⟩ := Prod.mk.inj e1
        refine wpAny_bind (e prog w _ _ ?_)
        have go := lt prog w
        wp_walk using go
        exact ⟨_, rfl, by simpa using h⟩
    case fin =>
      rintro ⟨c1, c2⟩ s' ⟨hc, rfl, us, vs, ez, lx, el⟩
      simp only at hc
      subst hc
      have hr : r = decide (xs.size < ys.size) := by
        cases lx with
        | nn => simp only [List.length_nil] at el; exact (decide_eq_false (by omega)).symm
        | nc v vs => simp only [List.length_nil, List.length_cons] at el; exact (decide_eq_true (by omega)).symm
        | cn u us => simp only [List.length_nil, List.length_cons] at el; exact (decide_eq_false (by omega)).symm
        | same e lx => rw [List.zip_cons_cons] at ez; cases ez
        | other e lt => rw [List.zip_cons_cons] at ez; cases ez
      rw [hr] at h
      wp_walk
      exact ⟨_, rfl, by simpa [Builtin.Tuple.tupleCompareSizes] using h⟩
end
theorem tup_ltAt {A : Around} {s : Shared} {l b : Addr} {xs ys : Array Value} {r : Bool} (h1 : IsTup s.heap l xs) (h2 : IsTup s.heap b ys) (lx : LexAt A.in1 s xs.toList ys.toList r) (hu : A.units < cLine) : LtAt A s (.ref l) (.ref b) r := by
  intro prog w E Q hq
  obtain ⟨⟨c1, d1, a1, s1⟩, o1, e1, n1, f1⟩ := h1
  obtain ⟨⟨c2, d2, a2, s2⟩, o2, e2, n2, f2⟩ := h2
  simp only at e1 f1 e2 f2
  subst e1 f1 e2 f2
  refine richCompare_meets_room (op := .Lt) ⟨_, o1, rfl⟩ ⟨_, o2, rfl⟩ PySem.F.slot_tuple_lt PySem.F.entry_tuple_lt (PySem.F.args_tuple_lt_2 _ _) (tup_lt_run l b xs ys n1 n2 d1 d2 s1 s2 r) ⟨o1, o2, lx, ?_⟩ hu
  exact (⟨(fun x => nomatch x), hq⟩ : Value.bool r ≠ Value.notImplemented ∧ Q (.bool r) s)

/-! ### what can be compared -/
mutual
def kindC : Cd → Cd → Bool
  | .int _, .int _ => true
  | .tup xs, .tup ys => kindCs xs ys
  | _, _ => false
def kindCs : List Cd → List Cd → Bool
  | [], _ => true
  | _, [] => true
  | x :: xs, y :: ys => kindC x y && kindCs xs ys
end
theorem cmpI2_dec {a b : Int} : (cmpI2 a b == .lt) = decide (a < b) := by
  have := @cmpI2_lt a b
  by_cases h : a < b
  · simp [h, this.mpr h]
  · have h2 : cmpI2 a b ≠ .lt := fun e => h (this.mp e)
    cases e : cmpI2 a b <;> simp_all
theorem units_in1 (A : Around) : A.in1.units = A.units + 1 := rfl
mutual
theorem lt_reads : ∀ (c d : Cd) (A : Around) (s : Shared) (u v : Value) (as bs : List Addr), kindC c d = true → Reads s.heap u (toP c) as → Reads s.heap v (toP d) bs → A.units + (toP c).depth < cLine → LtAt A s u v (ltC c d)
  | .int a, .int b, A, s, u, v, _, _, _, r1, r2, _ => by
    cases r1
    cases r2
    intro prog w E Q h
    refine PyProof.Rows.lt_int (A := A) ?_
    rwa [show ltC (.int a) (.int b) = decide (a < b) from cmpI2_dec] at h
  | .int _, .tup _, _, _, _, _, _, _, hk, _, _, _ => by simp [kindC] at hk
  | .tup _, .int _, _, _, _, _, _, _, hk, _, _, _ => by simp [kindC] at hk
  | .tup xs, .tup ys, A, s, u, v, _, _, hk, r1, r2, hu => by
    cases r1 with
    | tuple h1 c1 d1 q1 =>
      cases r2 with
      | tuple h2 c2 d2 q2 =>
        simp only [toP, PyData.depth] at hu
        exact tup_ltAt ⟨_, h1, c1, _, d1⟩ ⟨_, h2, c2, _, d2⟩ (lex_reads xs ys A.in1 s _ _ _ _ (by simpa [kindC] using hk) q1 q2 (by rw [units_in1]; omega)) (by omega)
theorem lex_reads : ∀ (cs ds : List Cd) (A : Around) (s : Shared) (us vs : List Value) (as bs : List Addr), kindCs cs ds = true → ReadsAll s.heap us (toPs cs) as → ReadsAll s.heap vs (toPs ds) bs → A.units + PyData.depthAll (toPs cs) < cLine → LexAt A s us vs (cmpCs cs ds == .lt)
  | [], [], _, _, _, _, _, _, _, r1, r2, _ => by
    cases r1
    cases r2
    exact .nn
  | [], _ :: _, _, _, _, _, _, _, _, r1, r2, _ => by
    cases r1
    cases r2
    exact .nc _ _
  | _ :: _, [], _, _, _, _, _, _, _, r1, r2, _ => by
    cases r1
    cases r2
    exact .cn _ _
  | x :: xs, y :: ys, A, s, _, _, _, _, hk, r1, r2, hu => by
    simp only [kindCs, Bool.and_eq_true] at hk
    simp only [toPs, PyData.depthAll] at hu
    cases r1 with
    | cons p1 q1 =>
      cases r2 with
      | cons p2 q2 =>
        have eqA := SeqAt.eqAt_reads (toP x) (toP y) A s _ _ _ _ p1 p2 (lay_toP x) (lay_toP y) (by omega)
        rw [eqv_toP] at eqA
        have ltA := lt_reads x y A s _ _ _ _ hk.1 p1 p2 (by omega)
        have tl := lex_reads xs ys A s _ _ _ _ hk.2 q1 q2 (by omega)
        simp only [cmpCs]
        cases e : cmpC x y with
        | eq =>
          rw [e] at eqA
          exact .same eqA tl
        | lt =>
          rw [e] at eqA
          rw [show ltC x y = true by simp [ltC, e]] at ltA
          exact .other eqA ltA
        | gt =>
          rw [e] at eqA
          rw [show ltC x y = false by simp [ltC, e]] at ltA
          exact .other eqA ltA
end

/-! ### sorted -/
def leC (x y : Cd) : Bool := !ltC y x
def sortC (cs : List Cd) : List Cd := cs.mergeSort leC
def isTupNE : Cd → Bool
  | .tup (_ :: _) => true
  | _ => false
def sortable (cs : List Cd) : Bool := (cs.all fun c => isTupNE c && decide ((toP c).depth ≤ 60)) && cs.all fun c => cs.all fun d => kindC c d
theorem sortC_srtd (cs : List Cd) : (sortC cs).Pairwise fun x y => ltC y x = false := by
  have h := List.pairwise_mergeSort (le := leC) (fun a b c h1 h2 => by
    simp only [leC, Bool.not_eq_true'] at *
    exact ltC_neg h2 h1) (fun a b => by
    simp only [leC]
    cases e : ltC b a with
    | false => rfl
    | true => simp [ltC_asym e]) cs
  exact h.imp fun h => by simpa [leC] using h
theorem sortC_perm (cs : List Cd) : (sortC cs).Perm cs := List.mergeSort_perm cs leC
theorem sortC_uniq {cs ds : List Cd} (hs : ds.Pairwise fun x y => ltC y x = false) (hp : ds.Perm cs) : ds = sortC cs :=
  List.Perm.eq_of_pairwise (le := fun x y => ltC y x = false) (fun a b _ _ h1 h2 => by
    rcases ltC_tot h1 with e | e
    · exact e.symm
    · rw [h2] at e; cases e) hs (sortC_srtd cs) (hp.trans (sortC_perm cs).symm)
section
variable {prog : Program} {w : World} {A : Around} {s : Shared}
theorem kat_of_lex {Q : Bool → Shared → Prop} {r b fin : Bool} : ∀ {us vs : List Value} {i : Nat} {n k : Nat}, LexAt A s us vs r → (b && i == 0) = false → fin = decide (n < k) → us.length + k = vs.length + n → Q r s → PySem.W.KatLex prog w A b fin Q (us.zip vs) i s
  | _, _, i, n, k, .nn, _, hf, hl, q => by
    simp only [List.length_nil] at hl
    have : fin = false := by rw [hf]; exact decide_eq_false (by omega)
    rw [List.zip_nil_left]
    exact PySem.W.kat_nil (by rw [this]; exact q)
  | _, _, i, n, k, .nc v vs, _, hf, hl, q => by
    simp only [List.length_nil, List.length_cons] at hl
    have : fin = true := by rw [hf]; exact decide_eq_true (by omega)
    rw [List.zip_nil_left]
    exact PySem.W.kat_nil (by rw [this]; exact q)
  | _, _, i, n, k, .cn u us, _, hf, hl, q => by
    simp only [List.length_nil, List.length_cons] at hl
    have : fin = false := by rw [hf]; exact decide_eq_false (by omega)
    rw [List.zip_nil_right]
    exact PySem.W.kat_nil (by rw [this]; exact q)
  | _, _, i, n, k, .same e lx, hb, hf, hl, q => by
    simp only [List.length_cons] at hl
    rw [List.zip_cons_cons]
    exact PySem.W.kat_cons (e prog w _ _ (PySem.W.kat_yes (kat_of_lex lx (by simp) hf (by omega) q)))
  | _, _, i, n, k, .other e lt, hb, hf, hl, q => by
    rw [List.zip_cons_cons]
    refine PySem.W.kat_cons (e prog w _ _ (PySem.W.kat_no ?_))
    rw [hb]
    exact PySem.W.kat_one _ _ (lt prog w _ _ q)
/-- by the first int, then by the rest -/
theorem kat_of_int {Q : Bool → Shared → Prop} {x y : Int} {t u : Tok} {cs ds : List Cd} {us vs : List Value} {n k : Nat} (lx : LexAt A s us vs (cmpCs cs ds == .lt)) (hl : us.length + k = vs.length + n) (q : Q (ltC (.tup (.int x :: cs)) (.tup (.int y :: ds))) s) :
    PySem.W.KatLex prog w A true (decide (n + 1 < k + 1)) Q ((Value.int x t :: us).zip (Value.int y u :: vs)) 0 s := by
  have hq : ltC (.tup (.int x :: cs)) (.tup (.int y :: ds)) = if x = y then (cmpCs cs ds == .lt) else decide (x < y) := by
    simp only [ltC, cmpC, cmpCs]
    by_cases h : x = y
    · subst h
      simp [(@cmpI2_eq x x).mpr rfl]
    · have h1 : cmpI2 x y ≠ .eq := fun e => h (cmpI2_eq.mp e)
      rw [if_neg h, ← cmpI2_dec]
      cases e : cmpI2 x y <;> simp_all
  rw [hq] at q
  rw [List.zip_cons_cons]
  refine PySem.W.kat_cons (SeqAt.EqAt.int_int x t y u prog w _ _ (PySem.W.kat_go (fun e => ?_) fun e => ?_))
  · have e' : x = y := by simpa using e
    rw [if_pos e'] at q
    exact PySem.W.kat_yes (kat_of_lex lx (by simp) (decide_eq_decide.mpr (by omega)) hl q)
  · have e' : ¬ x = y := by simpa using e
    rw [if_neg e'] at q
    exact PySem.W.kat_no (oneLt_int q)
end
/-- what a value reads as -/
noncomputable def keyAt (h : Heap) (u : Value) : Cd := by
  classical
  exact if e : ∃ c as, Reads h u (toP c) as then e.choose else .int 0
mutual
theorem toP_inj : ∀ c d : Cd, toP c = toP d → c = d
  | .int a, .int b, h => by simp only [toP, PyData.int.injEq] at h; rw [h]
  | .int _, .tup _, h => by simp [toP] at h
  | .tup _, .int _, h => by simp [toP] at h
  | .tup xs, .tup ys, h => by simp only [toP, PyData.tuple.injEq] at h; rw [toPs_inj xs ys h]
theorem toPs_inj : ∀ cs ds : List Cd, toPs cs = toPs ds → cs = ds
  | [], [], _ => rfl
  | [], _ :: _, h => by simp [toPs] at h
  | _ :: _, [], h => by simp [toPs] at h
  | x :: xs, y :: ys, h => by
    simp only [toPs, List.cons.injEq] at h
    rw [toP_inj x y h.1, toPs_inj xs ys h.2]
end
theorem keyAt_of {h : Heap} {u : Value} {c : Cd} {as : List Addr} (r : Reads h u (toP c) as) : keyAt h u = c := by
  unfold keyAt
  have e : ∃ c as, Reads h u (toP c) as := ⟨c, as, r⟩
  rw [dif_pos e]
  obtain ⟨as', r'⟩ := e.choose_spec
  exact toP_inj _ _ (SeqAt.Reads.unique _ _ u as' as (lay_toP _) r' r)
section
variable {X : Cx} {pins : List (Addr × Obj)} {σ : L2.St} {H : Hp} {s : Shared}
/-- the values of a list of such data -/
theorem reads_list (I : Inv X pins σ H s) : ∀ {cs : List Cd} {xs : List V} {us : List Value}, RpAll X.K H xs (toPs cs) → Vals xs us →
    us.map (keyAt s.heap) = cs ∧ ∀ u ∈ us, ∃ v as, RelV v u ∧ Rp X.K H v (toP (keyAt s.heap u)) ∧ Reads s.heap u (toP (keyAt s.heap u)) as
  | [], _, _, .nil, .nil => ⟨rfl, fun u h => by simp at h⟩
  | c :: cs, _, _, .cons r t, .cons rv tv => by
    obtain ⟨e, h⟩ := reads_list I t tv
    obtain ⟨as, rd⟩ := Dp.reads I (toP c) _ _ (Rp.dp _ _ r) rv
    have k := keyAt_of rd
    refine ⟨by rw [List.map_cons, k, e], fun u hu => ?_⟩
    rcases List.mem_cons.mp hu with z | z
    · subst z
      rw [k]
      exact ⟨_, as, rv, r, rd⟩
    · exact h u z
def backV (u : Value) : V := (absV u).getD .non
theorem backV_of {v : V} {u : Value} (r : RelV v u) : backV u = v := by unfold backV; rw [r.abs]; rfl
theorem rpAll_back {K : PySem.W.Frag} {k : Value → Cd} : ∀ {us : List Value}, (∀ u ∈ us, ∃ v, RelV v u ∧ Rp K H v (toP (k u))) → RpAll K H (us.map backV) (toPs (us.map k)) ∧ Vals (us.map backV) us
  | [], _ => ⟨.nil, .nil⟩
  | u :: us, h => by
    obtain ⟨v, r, rp⟩ := h u (by simp)
    obtain ⟨h1, h2⟩ := rpAll_back (us := us) fun w hw => h w (by simp [hw])
    have e := backV_of r
    exact ⟨.cons (by rw [e]; exact rp) h1, .cons (by rw [e]; exact r) h2⟩
theorem firsts_at {h : Heap} : ∀ {us : List Value}, (∀ u ∈ us, ∃ c cs as, Reads h u (toP (.tup (c :: cs))) as) → ∃ fs, PySem.W.KatTups h us fs ∧ fs.length = us.length ∧ ∀ f ∈ fs, ∃ u ∈ us, ∃ c cs as bs, Reads h u (toP (.tup (c :: cs))) as ∧ Reads h f (toP c) bs
  | [], _ => ⟨[], .nil, rfl, fun f h => by simp at h⟩
  | u :: us, h => by
    obtain ⟨fs, k, l, hi⟩ := firsts_at (us := us) fun w hw => h w (by simp [hw])
    obtain ⟨c, cs, as, r⟩ := h u (by simp)
    have r0 := r
    cases r with
    | tuple h1 c1 d1 q1 =>
      rename_i vs n
      cases e : vs.toList with
      | nil => rw [e] at q1; cases q1
      | cons f rest =>
        rw [e] at q1
        cases q1 with
        | cons p1 q1 =>
          refine ⟨f :: fs, .cons h1 c1 d1 ?_ k, by simp [l], fun g hg => ?_⟩
          · rw [← Array.getElem?_toList, e]; rfl
          · rcases List.mem_cons.mp hg with z | z
            · subst z
              exact ⟨_, by simp, c, cs, _, _, r0, p1⟩
            · obtain ⟨u', hu', rest'⟩ := hi g z
              exact ⟨u', by simp [hu'], rest'⟩
def tyC : Cd → String
  | .int _ => "int"
  | .tup _ => "tuple"
theorem looks_of {M : Model} {h : Heap} {u : Value} {c : Cd} {as : List Addr} (r : Reads h u (toP c) as) : PySem.W.Looks M h (typeOf u) (.type (tyC c)) := by
  cases c with
  | int i => cases r; exact PySem.W.Looks.now
  | tup cs =>
    cases r with
    | tuple h1 c1 d1 q1 =>
      have z : PySem.W.Looks M h (typeOf (.ref _)) _ := (PySem.W.Looks.ld h1).andThen .now
      rw [c1] at z
      exact z
theorem sort_cmp {prog : Program} {w : World} {A : Around} {h : Heap} {s : Shared} {b : Bool} {us : List Value} {k : Value → Cd} (hs : s.heap = h) (hr : ∀ u ∈ us, ∃ as, Reads h u (toP (k u)) as) (hd : ∀ u ∈ us, (toP (k u)).depth ≤ 60) (hk : ∀ u ∈ us, ∀ v ∈ us, kindC (k u) (k v) = true)
    (hne : ∀ u ∈ us, isTupNE (k u) = true) (hb : b = true → ∀ u ∈ us, ∃ i cs, k u = .tup (.int i :: cs)) (hu : A.units + 64 < cLine) : SrtO.Cmp prog w A s (tuples' b) (fun p => p.1 ∈ us) (SrtO.lt2 fun u v => ltC (k u) (k v)) := by
  subst hs
  intro p q hp hq
  show wpAny (model prog w) A (keyLt' (tuples' b) p.1 q.1) (fun r s' => s' = s ∧ r = ltC (k p.1) (k q.1)) (fun _ _ => False) s
  obtain ⟨as, r1⟩ := hr _ hp
  obtain ⟨bs, r2⟩ := hr _ hq
  have d1 := hd _ hp
  have kk := hk _ hp _ hq
  have n1 := hne _ hp
  have n2 := hne _ hq
  have b1 := fun e => hb e _ hp
  have b2 := fun e => hb e _ hq
  generalize k p.1 = c at *
  generalize k q.1 = d at *
  generalize p.1 = pu at *
  generalize q.1 = qu at *
  cases c with
  | int i => cases n1
  | tup cs =>
    cases d with
    | int i => cases n2
    | tup ds =>
      simp only [toP, PyData.depth] at d1
      cases r1 with
      | tuple h1 c1 e1 q1 =>
        cases r2 with
        | tuple h2 c2 e2 q2 =>
          rename_i _ _ xs n _ _ ys m
          refine PySem.W.kat_lt h1 e1 h2 e2 ?_
          have la : xs.toList.length = xs.size := Array.length_toList
          have lb : ys.toList.length = ys.size := Array.length_toList
          cases b with
          | false => exact kat_of_lex (lex_reads cs ds A s _ _ _ _ (by simpa [kindC] using kk) q1 q2 (by omega)) rfl rfl (by omega) ⟨rfl, rfl⟩
          | true =>
            obtain ⟨i, cs', e1'⟩ := b1 rfl
            obtain ⟨j, ds', e2'⟩ := b2 rfl
            injection e1' with e1'
            injection e2' with e2'
            subst e1' e2'
            cases ex : xs.toList with
            | nil => rw [ex] at q1; cases q1
            | cons f rest =>
              cases ey : ys.toList with
              | nil => rw [ey] at q2; cases q2
              | cons g rest2 =>
                rw [ex] at q1
                rw [ey] at q2
                cases q1 with
                | cons p1 q1 =>
                  cases q2 with
                  | cons p2 q2 =>
                    cases p1
                    cases p2
                    simp only [kindC, kindCs, Bool.and_eq_true] at kk
                    simp only [toPs, PyData.depthAll] at d1
                    rw [ex, List.length_cons] at la
                    rw [ey, List.length_cons] at lb
                    rw [← la, ← lb]
                    exact kat_of_int (lex_reads cs' ds' A s _ _ _ _ kk.2 q1 q2 (by omega)) (by omega) ⟨rfl, rfl⟩
theorem pw_mem {α : Type} {R : α → α → Bool} {l : List α} (h : (l.all fun c => l.all fun d => R c d) = true) : ∀ a ∈ l, ∀ b ∈ l, R a b = true := fun a ha b hb => List.all_eq_true.mp (List.all_eq_true.mp h a ha) b hb
theorem toPs_mem {c : Cd} {cs : List Cd} (h : c ∈ cs) : toP c ∈ toPs cs := by rw [toPs_map]; exact List.mem_map_of_mem h
/-- sorted of a list of tuples -/
theorem sorted_run {a : Addr} {xs : List V} {cs : List Cd} {Q : VK} (I : Inv X pins σ H s) (hs : SqL X.K H a xs) (r : RpAll X.K H xs (toPs cs)) (ok : sortable cs = true) (hu : X.A.units + 66 < cLine)
    (q : ∀ p ys, H p = none → RpAll X.K H ys (toPs (sortC cs)) → Q (.ref p) (upd H p (.lst ys))) : wpAny (model X.prog X.w) X.A (call (.builtin "sorted") [.ref a]) (EP X pins σ Q) X.xe s := by
  obtain ⟨its, rv, hl, hz⟩ := I.list hs
  obtain ⟨em, hr⟩ := reads_list I r rv
  have lx := rv.length
  unfold sortable at ok
  rw [Bool.and_eq_true] at ok
  have inCs : ∀ u ∈ its, keyAt s.heap u ∈ cs := fun u hu => by rw [← em]; exact List.mem_map_of_mem hu
  have okA : ∀ c ∈ cs, isTupNE c = true ∧ (toP c).depth ≤ 60 := fun c hc => by
    have := List.all_eq_true.mp ok.1 c hc
    simpa using this
  have okK := pw_mem ok.2
  refine SrtO.sorted_ord (ltv := fun u v => ltC (keyAt s.heap u) (keyAt s.heap v)) (swo_cd _) hl.isList (by omega) (fun h2 h₁ a' ha kk h' keep => ?_) fun out h1 h2 => ?_
  · have kp : ∀ b o, s.heap.get? b = some o → h'.get? b = some o := fun b o e => by
      obtain ⟨n1, e1⟩ := kk b o e
      exact keep b o n1 e1
    have hr' : ∀ u ∈ its, ∃ as, Reads h' u (toP (keyAt s.heap u)) as := fun u hu => by
      obtain ⟨_, as, _, _, rd⟩ := hr u hu
      exact ⟨as, Reads.keeps kp rd⟩
    have shape : ∀ u ∈ its, ∃ c ds, keyAt s.heap u = .tup (c :: ds) := fun u hu => by
      have := (okA _ (inCs u hu)).1
      cases e : keyAt s.heap u with
      | int i => rw [e] at this; cases this
      | tup ds =>
        cases ds with
        | nil => rw [e] at this; cases this
        | cons c ds => exact ⟨c, ds, rfl⟩
    obtain ⟨fs, kf, lf, hf⟩ := firsts_at (h := h') (us := its) fun u hu => by
      obtain ⟨c, ds, e⟩ := shape u hu
      obtain ⟨as, rd⟩ := hr' u hu
      rw [e] at rd
      exact ⟨c, ds, as, rd⟩
    -- the first items: all ints, or all tuples
    obtain ⟨u0, hu0⟩ : ∃ u0, u0 ∈ its := by
      match its, h2 with
      | u0 :: _, _ => exact ⟨u0, by simp⟩
    obtain ⟨c0, ds0, e0⟩ := shape u0 hu0
    have first : ∀ u ∈ its, ∀ c ds, keyAt s.heap u = .tup (c :: ds) → kindC c0 c = true := fun u hu c ds e => by
      have := okK _ (inCs u0 hu0) _ (inCs u hu)
      rw [e0, e] at this
      simp only [kindC, kindCs, Bool.and_eq_true] at this
      exact this.1
    have keyOf : ∀ u ∈ its, ∀ c ds as, Reads h' u (toP (.tup (c :: ds))) as → keyAt s.heap u = .tup (c :: ds) := fun u hu c ds as rd => by
      obtain ⟨bs, rd2⟩ := hr' u hu
      exact toP_inj _ _ (SeqAt.Reads.unique _ _ u bs as (lay_toP _) rd2 rd)
    refine ⟨tuples' (Value.type (tyC c0) != Value.type "tuple"), fun Q' E hq => ?_, ?_⟩
    · refine PySem.W.kat_kind (T := .type (tyC c0)) kf (by omega) (fun f hff => ?_) (by cases c0 <;> rfl) hq
      obtain ⟨u, hu, c, ds, as, bs, r1, r2⟩ := hf f hff
      have kc := first u hu c ds (keyOf u hu c ds as r1)
      have := looks_of (M := model X.prog X.w) r2
      cases c0 <;> cases c <;> first | exact this | (simp [kindC] at kc)
    · refine sort_cmp (A := X.A.in1.in1) (s := { s with heap := h' }) rfl hr' (fun u hu => (okA _ (inCs u hu)).2) (fun u hu v hv => okK _ (inCs u hu) _ (inCs v hv)) (fun u hu => (okA _ (inCs u hu)).1) (fun e u hu => ?_) (by rw [units_in1, units_in1]; omega)
      obtain ⟨c, ds, ek⟩ := shape u hu
      have kc := first u hu c ds ek
      cases c0 with
      | int i =>
        cases c with
        | int j => exact ⟨j, ds, ek⟩
        | tup _ => simp [kindC] at kc
      | tup cs => exact absurd e (by show ¬ (Value.type "tuple" != Value.type "tuple") = true; decide)
  · have memO : ∀ u ∈ out, u ∈ its := fun u hu => h2.perm.mem_iff.mp hu
    have hm : out.map (keyAt s.heap) = sortC cs := by
      refine sortC_uniq (List.pairwise_map.mpr h1) ?_
      rw [← em]
      exact h2.perm.map _
    obtain ⟨b1, b2⟩ := rpAll_back (K := X.K) (H := H) (k := keyAt s.heap) (us := out) fun u hu => by
      obtain ⟨v, as, r1, r2, _⟩ := hr u (memO u hu)
      exact ⟨v, r1, r2⟩
    rw [hm] at b1
    obtain ⟨ep, he⟩ := PyProof.Rows.sortedAll_at s.heap its out.toArray
    have lo : (out.map backV).length ≤ sizeLine := by rw [List.length_map, h2.perm.length_eq]; omega
    exact ⟨.ref _, upd H (s.heap.objs.size + 1) (.lst (out.map backV)), I.laid (t' := s.toks) (fun _ _ => PyProof.Rows.sortedAll_old) (Nat.le_succ _) ⟨lo, out, ep, b2, he⟩, rfl, q _ _ (I.hok.fresh (Nat.le_succ _)) b1⟩
def sortedD := on1 fun w S => (deref S w).bind fun d => match d with
  | .list ds => (ofPs ds).bind fun cs => if sortable cs = true then some (.d (.list (toPs (sortC cs))), S) else none
  | _ => none
theorem call_sortedDD {k : Nat} (hr : Room k X.A) : CallR X (.builtin "sorted") (rC X.K sortedD) := by
  have raw : CallR X (.builtin "sorted") (fun vs H Q => ∃ a xs cs, vs = [.ref a] ∧ SqL X.K H a xs ∧ RpAll X.K H xs (toPs cs) ∧ sortable cs = true ∧ ∀ p ys, H p = none → RpAll X.K H ys (toPs (sortC cs)) → Q (.ref p) (upd H p (.lst ys))) := by
    intro pins s σ H vs us Q I rx h
    obtain ⟨a, xs, cs, rfl, hs, r, ok, q⟩ := h
    cases rx with
    | cons r1 t =>
      cases t
      cases r1
      exact sorted_run I hs r ok (by have := hr.un; omega) q
  intro pins s σ H vs us Q I rx h
  obtain ⟨m, S, ρ, σ', w0, w, S', v, rfl, q, r, e, p⟩ := rC1 h
  obtain ⟨d, e1, e⟩ := Option.bind_eq_some_iff.mp e
  split at e
  · obtain ⟨cs, e2, e3⟩ := Option.bind_eq_some_iff.mp e
    split at e3
    · rename_i hok
      cases e3
      obtain ⟨a, xs, rfl, h, r1⟩ := deref_list q r e1
      rw [ofPs_eq _ _ e2] at r1
      exact callFrz raw pins s σ H _ us Q I rx ⟨a, xs, cs, rfl, h, r1, hok, fun t ys ht ry => newL p q ry t ht⟩
    · cases e3
  · cases e
/-- < of tuples, of ints -/
def ltD : W → W → Sto → Option (W × Sto) := fun x y S => match x, y with
  | .d d, .d e => (ofP d).bind fun c => (ofP e).bind fun c' => if kindC c c' = true ∧ (toP c).depth ≤ 60 then some (.d (.bool (ltC c c')), S) else none
  | _, _ => none
theorem op_ltDD {k : Nat} (hr : Room k X.A) : OpR X (compareOp .Lt) (rOp X.K ltD) := by
  intro pins s σ H x y v u Q I rx ry h
  obtain ⟨m, S, ρ, σ', wx, wy, w, S', q, hx, hy, e, p⟩ := h
  unfold ltD at e
  split at e
  · obtain ⟨c, e1, e⟩ := Option.bind_eq_some_iff.mp e
    obtain ⟨c', e2, e⟩ := Option.bind_eq_some_iff.mp e
    split at e
    · rename_i hk
      cases e
      obtain ⟨as, r1⟩ := Dp.reads I _ x v (Rp.dp _ _ hx) rx
      obtain ⟨bs, r2⟩ := Dp.reads I _ y u (Rp.dp _ _ hy) ry
      rw [ofP_eq _ _ e1] at r1
      rw [ofP_eq _ _ e2] at r2
      exact lt_reads c c' X.A s v u as bs hk.1 r1 r2 (by have := hr.un; omega) X.prog X.w X.xe _ ⟨.bl _, H, I, rfl, p.now q (.bl _)⟩
    · cases e
  · cases e

/-! ### repr -/
def reprOk (d : PyData) : Bool := d.showable && !d.hasDict && decide (d.depth ≤ 64) && decide (d.shown.length ≤ sizeLine)
def reprD := on1 fun w S => (deref S w).bind fun d => if reprOk d = true then some (.d (.str d.shown), S) else none
theorem call_reprDD {k : Nat} (hr : Room k X.A) (hg : X.A.guards = some []) : CallR X (.builtin "repr") (rC X.K reprD) := by
  intro pins s σ H vs us Q I rx h
  obtain ⟨m, S, ρ, σ', w0, w, S', v, rfl, q, r, e, p⟩ := rC1 h
  obtain ⟨d, e1, e⟩ := Option.bind_eq_some_iff.mp e
  split at e
  · rename_i hok
    cases e
    simp only [reprOk, Bool.and_eq_true, decide_eq_true_eq, Bool.not_eq_true'] at hok
    obtain ⟨⟨⟨h1, h2⟩, h3⟩, h4⟩ := hok
    have dp := deref_dp q r e1
    have q2 := p.now q (v := .str d.shown) (.str _)
    have hun := hr.un
    cases rx with
    | cons rv t =>
      cases t
      obtain ⟨as, rd⟩ := Dp.reads I d v _ dp rv
      have big : ∀ a, (∃ u, RelV v u ∧ u = Value.ref a ∧ Reads s.heap u d as) → wpAny (model X.prog X.w) X.A (call (.builtin "repr") [.ref a]) (EP X pins σ Q) X.xe s := fun a ⟨u, _, e, rd⟩ => by
        subst e
        exact repr_of_reads' rd h1 (fun z => by rw [h2] at z; cases z) hg (by omega) (fun _ _ z => z) (fun h' u tk kp => ⟨.str _, H, I.kept (t' := tk) kp, ⟨_, rfl⟩, q2⟩) h4
      cases d with
      | none => cases dp; cases rv; exact P.repr_of_none ⟨.str _, H, I.tok _, ⟨_, rfl⟩, q2⟩
      | bool b =>
        cases dp; cases rv
        exact P.repr_of_bool ⟨.str _, H, I.tok _, ⟨_, rfl⟩, q2⟩
      | int i =>
        cases dp
        obtain ⟨t, rfl⟩ := rv
        exact P.repr_of_int (by simpa [PyData.showable] using h1) ⟨.str _, H, I.tok _, ⟨_, rfl⟩, q2⟩
      | str z =>
        cases dp
        obtain ⟨t, rfl⟩ := rv
        exact P.repr_of_str ⟨.str _, H, I.tok _, ⟨_, rfl⟩, q2⟩ h4
      | list ds =>
        cases dp
        cases rv
        exact big _ ⟨_, rfl, rfl, rd⟩
      | tuple ds =>
        cases dp
        cases rv
        exact big _ ⟨_, rfl, rfl, rd⟩
      | dict kvs => cases dp
  · cases e
end
end DL
end
noncomputable section
namespace DL
open PySem PySem.Spec PyProof.Rows L2

/-- the law at the heap behind the top: its promise, asked of the script -/
theorem lawG {P : Program} {w : World} {K : PySem.W.Frag} {mg mb : Str → Option Value} {k : Nat} {fa a : Addr} {fd : FuncData} {x : Str} {f : FS} {s₁ : Shared} {vs : List Value} {ns : List Int}
    (inK : K.In s₁.heap) (gl : s₁.heap.Ns mainGlobals mg) (bl : s₁.heap.Ns builtinsNs mb) (bb : ∀ x : Str, x ≠ "__name__" → mb x = bootBuiltins x) (nl : s₁.heap.NoLimit) (ng : s₁.gens = #[])
    (obj : s₁.heap.get? a = some { cls := .type "list", data := .seq vs.toArray }) (hi : IntsAre vs ns) (few : ns.length ≤ sizeLine) (room : Room k callerA)
    (F : ∀ base : Heap, K.In base → base.Ns mainGlobals mg → FnG P w K mg base k fa fd [x] (spD K 1 f)) (bind : ∀ (s : Shared) (u : Value), BindsTo s fd ⟨[u], []⟩ [(x, u)])
    (hf : f [.d (.list (ns.map .int))] [] = some (.d (.bool true), [])) :
    codeAny (model P w) callerA (.call (.ref fa) ⟨[.ref a], []⟩) (fun r s' => r = .ok (.ret (.bool true)) ∧ OldK s₁.heap s'.heap ∧ s'.os = s₁.os ∧ AllBare s'.gens) s₁ := by
  have rel := vals_ints hi
  have len := hi.length
  -- what the abstract heap has to be like
  suffices main : ∀ H : Hp, (∀ b, H b = none ∨ (b = a ∧ K.lookup a = none ∧ ∃ o xs, H b = some (.frz o (.lst xs)))) → FzL K H a (ns.map V.int) → HOk P w H s₁.heap →
      codeAny (model P w) callerA (.call (.ref fa) ⟨[.ref a], []⟩) (fun r s' => r = .ok (.ret (.bool true)) ∧ OldK s₁.heap s'.heap ∧ s'.os = s₁.os ∧ AllBare s'.gens) s₁ by
    cases lk : K.lookup a with
    | some o =>
      have e := inK a o lk
      rw [obj] at e
      cases e
      refine main (fun _ => none) (fun b => .inl rfl) (.inr (.inr ⟨_, vs.toArray, _, lk, rfl, rfl, rfl, ?_, by simpa using rel⟩)) fun b u z => by cases z
      rw [List.size_toArray, len]; exact few
    | none =>
      refine main (upd (fun _ => none) a (.frz { cls := .type "list", data := .seq vs.toArray } (.lst (ns.map V.int)))) (fun b => ?_) (.inl ⟨_, upd_same⟩) fun b u z => ?_
      · by_cases c : b = a
        · exact .inr ⟨c, lk, _, _, by rw [c]; exact upd_same⟩
        · exact .inl (by rw [upd_ne c])
      · by_cases c : b = a
        · subst c
          rw [upd_same] at z
          cases z
          exact ⟨obj, by rw [List.length_map]; exact few, vs, _, rel, obj⟩
        · rw [upd_ne c] at z; cases z
  intro H only isL hok
  have plain : ∀ {b : Addr} {o : Obj} {es : Array DictEntry} {ep : Nat}, s₁.heap.get? b = some o → o.data = .dict es ep → H b = none := by
    intro b o es ep e d
    rcases only b with z | ⟨rfl, _⟩
    · exact z
    · rw [obj] at e
      cases e
      cases d
  have nsH : ∀ {b : Addr} {m : Str → Option Value}, s₁.heap.Ns b m → (hidT s₁.heap H).Ns b m := by
    rintro b m ⟨o, es, ep, e, d, r⟩
    exact ⟨o, es, ep, hidT_get e (plain e d), d, r⟩
  have inB : K.In (hidT s₁.heap H) := by
    intro b o e
    refine hidT_get (inK b o e) ?_
    rcases only b with z | ⟨rfl, z, _⟩
    · exact z
    · rw [z] at e; cases e
  have md : Mod K mg (hidT s₁.heap H) := by
    obtain ⟨mc, c1, c2⟩ := nl
    exact ⟨inB, nsH gl, ⟨mb, nsH bl, bb⟩, ⟨mc, nsH c1, c2⟩⟩
  have e0 : Env0 P w K mg (hidT s₁.heap H) callerA [] s₁ H := by
    refine ⟨rfl, md, fun b o e => of_hidT e, Nat.le_of_eq (hidT_size _ _), trivial, ?_, hok, .of_eq ng⟩
    intro b hb
    simp [frs] at hb
  have want : spD K 1 f [.ref a] H (fun v _ => v = .bl true) fun _ _ _ => False := by
    refine ⟨[], [], [.d (.list (ns.map .int))], _, _, ⟨fun i w h => by simp at h, rfl, by simp, fun n ob h => by simp at h, Nat.le_refl _⟩, .cons ?_ .nil, rfl, hf, fun ext H' v _ _ _ r => rp_bl r⟩
    refine Rp.lst isL ?_
    clear hf len rel hi few isL
    induction ns with
    | nil => exact .nil
    | cons n ns ih => exact .cons (.int n) ih
  refine codeAny_mono ((F _ inB (nsH gl)).run callerA [] s₁ H ⟨[.ref a], []⟩ [.ref a] [.ref a] _ _ room rfl e0 (bind s₁ (.ref a)) (.cons rfl .nil) want) fun r s' h => ?_
  cases r with
  | error e => exact False.elim h
  | ok fl =>
    cases fl with
    | next => exact False.elim h
    | brk => exact False.elim h
    | cont => exact False.elim h
    | ret u =>
      obtain ⟨v, H', os, bare, un, hok', rv, q⟩ := h
      obtain rfl : v = .bl true := q
      obtain rfl : u = Value.bool true := rv
      refine ⟨rfl, OldK.of_keep fun b o e => ?_, os, bare⟩
      rcases only b with z | ⟨_, _, ob, xs, z⟩
      · exact un.keep b o e z (by simp [frs]) (by simp)
      · have z2 := un.frzs b ob _ z
        obtain ⟨e1, _⟩ := hok b _ z
        obtain ⟨e2, _⟩ := hok' b _ z2
        rw [e] at e1
        cases e1
        exact e2
/-- what k_head leaves, from the law's function of data -/
theorem walkG {l : PySem.W.OpenLaw} {n k : Nat} {q : Program} {loose : List Str} {XP : (Str → Option Value) → Heap → Prop} {YP : World → Heap → Prop} {d : DefRec} {K : Params → PySem.W.Frag} {f : FS} {x : Str}
    (hn : l.most = some n) (hn2 : n ≤ sizeLine) (hdf : d.params.defaults = []) (room : Room k callerA)
    (hY : ∀ (w : World) (h : Heap), YP w h → (K w.params).In h)
    (F : ∀ (w : World) (mg : Str → Option Value) (fa : Addr) (h : Heap), (K w.params).In h → h.Ns mainGlobals mg → mg d.name = some (.ref fa) →
      ∃ fd : FuncData, (∀ (s : Shared) (u : Value), BindsTo s fd ⟨[u], []⟩ [(x, u)]) ∧
        ∀ base : Heap, (K w.params).In base → base.Ns mainGlobals mg → FnG l.prog w (K w.params) mg base k fa fd [x] (spD (K w.params) 1 f))
    (hf : ∀ ns : List Int, ns.length ≤ n → f [.d (.list (ns.map .int))] [] = some (.d (.bool true), [])) :
    PySem.W.WalkO q loose XP YP l.row.toRowW d [] (fun f vs => PySem.call f vs) := by
  refine Att.attach_call hn hdf fun w s₀ s₁ mg mb fa o pm cd doc a vs ns G Y ho hd hcd hmg obj isI hlen hg => ?_
  have inK := hY w _ Y
  obtain ⟨fd, hb, hF⟩ := F w mg fa _ inK G.T.g hmg
  exact lawG inK G.T.g G.T.b G.T.builtins G.T.nolimit hg obj isI (Nat.le_trans hlen hn2) room hF hb (hf ns hlen)
end DL
end
noncomputable section
namespace DL
open PySem PySem.Spec PyProof.Rows L2

/-- a def of the text, by its name -/
structure Cal (P : Program) (w : World) (K : PySem.W.Frag) (mg : Str → Option Value) (base : Heap) (x : Str) (k : Nat) (ps : List Str) (fs : FS) : Prop where
  ex : ∃ (f : Addr) (fd : FuncData), FnG P w K mg base k f fd ps (spD K ps.length fs) ∧ mg x = some (.ref f) ∧ PySem.W.keepIn K (.ref f) = true ∧ Binds K fd ps []
theorem cal_mk {P : Program} {w : World} {K : PySem.W.Frag} {mg : Str → Option Value} {base : Heap} {x qual : Str} {k : Nat} {ps : List Str} {fs : FS} {st : Stmt} {f : Addr} {fd : FuncData} (F : Fun K x qual st f fd) (hm : mg x = some (.ref f))
    (h : ∀ (kV doc pm : Value) (an : Option Addr) (cdv ct : Value) (us : List Value), us.length = ps.length → bindArgs (PySem.W.fnOf x qual (defArgs st) (defBody st) (defScope st) .none kV doc pm an cdv ct) ⟨us, []⟩ = pure (ps.zip us))
    (G : FnG P w K mg base k f fd ps (spD K ps.length fs)) : Cal P w K mg base x k ps fs := ⟨f, fd, G, hm, F.kp, F.binds h⟩
section
variable {X : Cx} {k j : Nat} {ps : List Str} {fs : FS} {x : Str} {p pos : Pos} {e a : Expr} {es : List Expr} {R : MA} {A : ME}
theorem FnG.up {P : Program} {w : World} {K : PySem.W.Frag} {mg : Str → Option Value} {base : Heap} {f : Addr} {fd : FuncData} {sp : Sp} (F : FnG P w K mg base j f fd ps sp) (h : j ≤ k) : FnG P w K mg base k f fd ps sp :=
  ⟨F.len, fun A outer s H args us vs Q E hr => F.run A outer s H args us vs Q E (hr.mono h)⟩
theorem mNil_len {ρ : DEnv} {S S' : Sto} {ws : List W} (h : mNil ρ S = some (ws, S')) : ws.length = 0 := by cases h; rfl
theorem mCons_len {n : Nat} (hR : ∀ ρ S ws S', R ρ S = some (ws, S') → ws.length = n) {ρ : DEnv} {S S' : Sto} {ws : List W} (h : mCons A R ρ S = some (ws, S')) : ws.length = n + 1 := by
  obtain ⟨⟨wx, S1⟩, e1, e2⟩ := Option.bind_eq_some_iff.mp h
  obtain ⟨⟨r, S2⟩, e3, e4⟩ := Option.bind_eq_some_iff.mp e2
  cases e4
  rw [List.length_cons, hR _ _ _ _ e3]
/-- how many arguments -/
inductive ArgN : MA → Nat → Prop
  | nil : ArgN mNil 0
  | cons {A : ME} {R : MA} {n : Nat} : ArgN R n → ArgN (mCons A R) (n + 1)
theorem ArgN.len : ∀ {R : MA} {n : Nat}, ArgN R n → ∀ ρ S ws S', R ρ S = some (ws, S') → ws.length = n
  | _, _, .nil, _, _, _, _, h => mNil_len h
  | _, _, .cons h, _, _, _, _, e => mCons_len h.len e
theorem de_callC (c : Cal X.prog X.w X.K X.mg X.base x j ps fs) (hr : Room k X.A) (hgd : X.A.guards = some []) (hk : j ≤ k) (hg : Gl X x) (ha : PA X (e :: es) (rdA X.K R)) (hn : ArgN R (e :: es).length) (hps : ps.length = (e :: es).length)
    (hdb : (x == ("__debug__" : Str)) = false := by decide) (he : starEach (e :: es) X.env = (false, eval e X.env) :: starEach es X.env := by rfl) (hpl : (backTo pos (starEach es X.env)).any (·.1) = false := by rfl) :
    PE X (.Call (.Name x p) (e :: es) [] pos) (rdE X.K (mCall (callF fs) R)) := by
  obtain ⟨f, fd, G, hm, kp, hb⟩ := c.ex
  exact de_call (G.up hk) hr hgd hg hm kp hb ha hps hn.len hdb he hpl
/-- + of ints, texts, tuples, lists -/
def addA : W → W → Sto → Option (W × Sto) := fun x y S => match addD x y S with
  | some r => some r
  | none => catL x y S
theorem op_addA : OpR X (binaryOp .Add) (rOp X.K addA) := by
  intro pins s σ H x y v u Q I rx ry h
  obtain ⟨m, S, ρ, σ', wx, wy, w, S', q, hx, hy, e, p⟩ := h
  unfold addA at e
  split at e
  · rename_i r hr
    cases e
    exact op_addD pins s σ H x y v u Q I rx ry ⟨m, S, ρ, σ', wx, wy, w, S', q, hx, hy, hr, p⟩
  · exact op_catL pins s σ H x y v u Q I rx ry ⟨m, S, ρ, σ', wx, wy, w, S', q, hx, hy, e, p⟩
end

/-! ### enumerate of a tuple -/
section
variable {prog : Program} {w : World} {A : Around} {E : Value → Shared → Prop} {s : Shared}
/-- one turn of enumerate, whatever it walks: what it walks gives x and is then as G says -/
theorem enum_turn {e it : Addr} {i : Nat} {x old : Value} {G : Heap → Prop} {Q : Value → Shared → Prop} (he : IsEnum s.heap e it i old) (hne : e ≠ it) (stay : ∀ h h' : Heap, G h → (∀ b o, b ≠ e → h.get? b = some o → h'.get? b = some o) → G h')
    (inner : ∀ R : Value → Shared → Prop, (∀ h', G h' → Heap.SameBut it s.heap h' → R x { s with heap := h' }) → wpAny (model prog w) A (Builtin.SmallTypes.nextOf (.ref it)) R E s)
    (fin : ∀ h', IsEnumOut h' e it ((i : Int) + 1) x s.heap.objs.size → G h' → h'.get? s.heap.objs.size = some { cls := .type "tuple", data := .seq #[.int i s.toks, x] } →
      (∀ b o, b ≠ e → b ≠ it → s.heap.get? b = some o → h'.get? b = some o) → Q (.ref s.heap.objs.size) { s with heap := h', toks := s.toks + 1 }) :
    wpAny (model prog w) A (Builtin.«enumerate.__next__» ⟨[.ref e], []⟩) (fun f s' => ∃ v, f = .done (.ret v) ∧ Q v s') E s := by
  obtain ⟨hp, g, d, tk, os⟩ := s
  have lte : e < hp.objs.size := Heap.lt_size he
  have nte : hp.objs.size ≠ e := Nat.ne_of_gt lte
  show wpAny _ _ (field (.ref e) 2 >>= _) _ _ _
  refine wpAny_bind (wpAny_field he rfl (x := .ref it) rfl (wpAny_bind (inner _ fun h1 g1 b1 => ?_)))
  have b1' : Heap.SameBut it hp h1 := b1
  have e1 : IsEnum h1 e it i old := (b1'.2 e hne).trans he
  show wpAny _ _ (field (.ref e) 3 >>= _) _ _ ⟨h1, g, d, tk, os⟩
  refine wpAny_bind (wpAny_field e1 rfl (x := rawInt i) rfl ?_)
  show wpAny _ _ (field (.ref e) 4 >>= _) _ _ ⟨h1, g, d, tk, os⟩
  refine wpAny_bind (wpAny_field e1 rfl (x := .none) rfl ?_)
  show wpAny _ _ (mkInt i >>= _) _ _ ⟨h1, g, d, tk, os⟩
  refine wpAny_bind (wpAny_mkInt ?_)
  show wpAny _ _ (setField (.ref e) 3 (rawInt ((i : Int) + 1)) >>= _) _ _ ⟨h1, g, d, tk + 1, os⟩
  refine wpAny_bind (wpAny_setField_rec e1 (by simp) fun h2 e2 b2 => ?_)
  have b2' : Heap.SameBut e h1 h2 := b2
  have e2' : IsEnum h2 e it ((i : Int) + 1) old := e2
  show wpAny _ _ (setField (.ref e) 4 .none >>= _) _ _ ⟨h2, g, d, tk + 1, os⟩
  refine wpAny_bind (wpAny_setField_rec e2' (by simp) fun h3 e3 b3 => ?_)
  have b3' : Heap.SameBut e h2 h3 := b3
  have e3' : IsEnum h3 e it ((i : Int) + 1) old := e3
  have size3 : h3.objs.size = hp.objs.size := by rw [b3'.1, b2'.1, b1'.1]
  show wpAny _ _ (newTuple [.int i tk, x] >>= _) _ _ ⟨h3, g, d, tk + 1, os⟩
  refine wpAny_bind (wpAny_newTuple ?_)
  obtain ⟨h4, eh4⟩ : ∃ h4, h4 = h3.push { cls := .type "tuple", data := .seq #[.int i tk, x] } := ⟨_, rfl⟩
  have new4 : h4.get? hp.objs.size = some { cls := .type "tuple", data := .seq #[.int i tk, x] } := by
    rw [eh4, ← size3]
    exact Heap.get?_push_size _ rfl
  have grow4 : ∀ b o, h3.get? b = some o → h4.get? b = some o := fun b o z => by rw [eh4]; exact Heap.get?_push_of_some _ z
  have e4 : IsEnum h4 e it ((i : Int) + 1) old := grow4 _ _ e3'
  have old4 : ∀ b o, b ≠ e → b ≠ it → hp.get? b = some o → h4.get? b = some o := fun b o n1 n2 z => grow4 b o (b3'.extBut b o n1 (b2'.extBut b o n1 (b1'.extBut b o n2 z)))
  have g4 : G h4 := stay _ _ (stay _ _ (stay _ _ g1 b2'.extBut) b3'.extBut) fun b o _ z => grow4 b o z
  show wpAny _ _ (Builtin.SmallTypes.ownedTupleIsFree (.ref e) >>= _) _ _ ⟨h3.push { cls := .type "tuple", data := .seq #[.int i tk, x] }, g, d, tk + 1, os⟩
  rw [← eh4, size3]
  clear e3' b3' e3 b3 e2' b2' e2 b2 e1 b1' b1 g1 grow4 eh4 size3
  refine wpAny_bind ?_
  unfold Builtin.SmallTypes.ownedTupleIsFree
  refine wpAny_bind (wpAny_field e4 rfl (x := .none) rfl (wpAny_pure ?_))
  simp only [if_true]
  refine wpAny_bind (wpAny_rule (wpAny_bind (wpAny_field e4 rfl (x := old) rfl (wpAny_bind (wpAny_setField_rec e4 (by simp) fun h5 e5 b5 => ?_)))))
  have b5' : Heap.SameBut e h4 h5 := b5
  have e5' : IsEnum h5 e it ((i : Int) + 1) x := e5
  show wpAny _ _ (Builtin.SmallTypes.ownedTupleHandOut (.ref e) (.ref hp.objs.size) >>= _) _ _ ⟨h5, g, d, tk + 1, os⟩
  refine wpAny_bind ?_
  unfold Builtin.SmallTypes.ownedTupleHandOut
  refine wpAny_bind (wpAny_setField_rec e5' (by simp) fun h6 e6 b6 => ?_)
  have b6' : Heap.SameBut e h5 h6 := b6
  have e6' : IsEnumOut h6 e it ((i : Int) + 1) x hp.objs.size := e6
  refine wpAny_setField_rec e6' (by simp) fun h7 e7 b7 => ?_
  have b7' : Heap.SameBut e h6 h7 := b7
  have e7' : IsEnumOut h7 e it ((i : Int) + 1) x hp.objs.size := e7
  have run : ∀ b o, b ≠ e → h4.get? b = some o → h7.get? b = some o := fun b o n z => b7'.extBut b o n (b6'.extBut b o n (b5'.extBut b o n z))
  exact wpAny_bind (wpAny_letGo (wpAny_pure ⟨_, rfl, fin h7 e7' (stay _ _ g4 run) (run _ _ nte new4) fun b o n1 n2 z => run b o n1 (old4 b o n1 n2 z)⟩))
theorem tupIter_stay {e it l : Addr} {n : Nat} (hne : it ≠ e) : ∀ h h' : Heap, h.IsTupleIter it l n → (∀ b o, b ≠ e → h.get? b = some o → h'.get? b = some o) → h'.IsTupleIter it l n := fun h h' ⟨o, ho, r⟩ k => ⟨o, k _ _ hne ho, r⟩
theorem next_enumT {e it l : Addr} {i : Nat} {items : Array Value} {x old : Value} {Q : Option Value → Shared → Prop} (he : IsEnum s.heap e it i old) (hit : s.heap.IsTupleIter it l i) (hl : s.heap.IsTuple l items) (hx : items[i]? = some x) (hne : e ≠ it)
    (fin : ∀ h', IsEnumOut h' e it ((i : Int) + 1) x s.heap.objs.size → h'.IsTupleIter it l (i + 1) → h'.get? s.heap.objs.size = some { cls := .type "tuple", data := .seq #[.int i s.toks, x] } →
      (∀ b o, b ≠ e → b ≠ it → s.heap.get? b = some o → h'.get? b = some o) → Q (some (.ref s.heap.objs.size)) { s with heap := h', toks := s.toks + 1 }) : wpAny (model prog w) A (pyNext (.ref e)) Q E s := by
  have ty : s.TypeIs (.ref e) "enumerate" := ⟨_, he, rfl⟩
  unfold pyNext
  refine wpAny_bind (wpAny_attempt (wpAny_callSpecial?_slot (name := Str.ofString "__next__") ty F.slot_enumerate_next (wpAny_call_entry F.slot_enumerate_next ty F.entry_enumerate_next ?_ (F.args_enumerate_next_1 _))))
  exact enum_turn (G := fun h => h.IsTupleIter it l (i + 1)) he hne (tupIter_stay (Ne.symm hne)) (fun R k => RZ.nextOf_tuple_item hit hl hx fun h' a b => k h' a b) fun h' a b c d => wpAny_pure (fin h' a b c d)
theorem next_enumT_end {e it l : Addr} {i : Nat} {items : Array Value} {old : Value} {Q : Option Value → Shared → Prop} (hh : A.handled = none) (he : IsEnum s.heap e it i old) (hit : s.heap.IsTupleIter it l i) (hl : s.heap.IsTuple l items) (hx : items[i]? = none)
    (fin : ∀ h', Heap.ExtBut it s.heap h' → Q none { s with heap := h' }) : wpAny (model prog w) A (pyNext (.ref e)) Q E s := by
  have ty : s.TypeIs (.ref e) "enumerate" := ⟨_, he, rfl⟩
  unfold pyNext
  refine wpAny_bind (wpAny_attempt (wpAny_callSpecial?_slot (name := Str.ofString "__next__") ty F.slot_enumerate_next (wpAny_call_entry F.slot_enumerate_next ty F.entry_enumerate_next ?_ (F.args_enumerate_next_1 _))))
  show wpAny _ _ (field (.ref e) 2 >>= _) _ _ _
  refine wpAny_bind (wpAny_field he rfl (x := .ref it) rfl (wpAny_bind (RZ.nextOf_tuple_end hh hit hl hx fun h' z hk hz => ?_)))
  obtain ⟨o, ho, hc⟩ := hz
  exact wpAny_bind (wpAny_isInstance (T := "StopIteration") (b := true) ⟨o, ho, hc⟩ isSubtype_stop (wpAny_pure (fin _ hk)))
theorem enumT_new (l : Addr) (items : Array Value) (n : Nat) (dd : Option Addr) (sl : Array (Option Value)) :
    Meets (Builtin.«enumerate.__new__» ⟨[.type "enumerate", .ref l], []⟩) (fun _ R s => s.heap.get? l = some { cls := .type "tuple", dict := dd, data := .seq items n, slots := sl } ∧
      R (.ok (.ret (.ref (s.heap.push { cls := .type "tuple_iterator", data := .fields #[.ref l, .int 0 0] }).objs.size)))
        { s with heap := (s.heap.push { cls := .type "tuple_iterator", data := .fields #[.ref l, .int 0 0] }).push { cls := .type "enumerate", data := .fields #[.none, .bool false, .ref s.heap.objs.size, rawInt 0, .none, .none] } }) :=
  .of_wp fun prog w A R s h => by
    obtain ⟨hp, g, d, tk, os⟩ := s
    obtain ⟨h1, h⟩ := h
    have sb := sub_enumerate
    have tT : Heap.IsTuple (Shared.heap ⟨hp, g, d, tk, os⟩) l items := ⟨_, h1, rfl, n, rfl⟩
    wp_walk using AutoSeq1.wpAny_loadPart' h1
    refine wpAny_stack_any fun st => wpAny_pure ?_
    split
    · rename_i c _ _ _ _ _
      cases (c == Value.type "enumerate")
      all_goals
        wp_walk using AutoSeq1.wpAny_loadPart' h1, wpAny_pyIter_tuple tT
        exact ⟨_, rfl, h⟩
    · wp_walk using AutoSeq1.wpAny_loadPart' h1, wpAny_pyIter_tuple tT
      exact ⟨_, rfl, h⟩
theorem call_enumT {l : Addr} {items : Array Value} {Q : Value → Shared → Prop} (hT : s.heap.IsTuple l items)
    (k : ∀ h', IsEnum h' (s.heap.objs.size + 1) s.heap.objs.size 0 .none → h'.IsTupleIter s.heap.objs.size l 0 → (∀ b o, s.heap.get? b = some o → h'.get? b = some o) → Q (.ref (s.heap.objs.size + 1)) { s with heap := h' }) :
    wpAny (model prog w) A (call (.type "enumerate") [.ref l]) Q E s := by
  obtain ⟨⟨c, dd, dt, sl⟩, hl, hc, n, hd⟩ := hT
  have hc' : c = .type "tuple" := hc
  have hd' : dt = .seq items n := hd
  subst hc' hd'
  refine callType_new F.called_enumerate (by decide) (F.typeCall_enumerate_1 _) (F.newCall_enumerate_1 _) (fun obj => F.args_object_init_2 obj _) F.entry_enumerate_new (enumT_new l items n dd sl) ⟨hl, ?_⟩
  have size1 : (s.heap.push { cls := .type "tuple_iterator", data := .fields #[.ref l, .int 0 0] }).objs.size = s.heap.objs.size + 1 := Heap.size_push ..
  show _ ∧ _
  rw [size1]
  have made : IsEnum ((s.heap.push { cls := .type "tuple_iterator", data := .fields #[.ref l, .int 0 0] }).push { cls := .type "enumerate", data := .fields #[.none, .bool false, .ref s.heap.objs.size, rawInt 0, .none, .none] }) (s.heap.objs.size + 1) s.heap.objs.size 0 .none := by
    have z := Heap.get?_push_size (s.heap.push { cls := .type "tuple_iterator", data := .fields #[.ref l, .int 0 0] }) (o := { cls := .type "enumerate", data := .fields #[.none, .bool false, .ref s.heap.objs.size, rawInt 0, .none, .none] }) rfl
    rwa [size1] at z
  exact ⟨⟨_, made, rfl⟩, k _ made ⟨_, Heap.get?_push_of_some _ (Heap.get?_push_size _ rfl), rfl, rfl⟩ fun b o z => Heap.get?_push_of_some _ (Heap.get?_push_of_some _ z)⟩
end
/-- the tuple at a, its items in new pairs with their places -/
def ItEt (K : PySem.W.Frag) (a : Addr) : It :=
  ⟨fun i H => ∃ (xs : List V) (x : V), SqT K H a xs ∧ xs[i]? = some x, fun i H v H' => ∃ T x, v = .ref T ∧ H T = none ∧ H' = upd H T (.tup [.int (i : Nat), x]) ∧ ∀ xs, SqT K H a xs → xs[i]? = some x, fun i H => ∃ xs : List V, SqT K H a xs ∧ xs.length ≤ i⟩
theorem turn_enumT {P : Program} {w : World} {K : PySem.W.Frag} {elts : List Expr} {kk : Nat} {tpos : Pos} (a e it : Addr) :
    Turn P w K (.Tuple elts kk tpos) (ItEt K a) [e, it] e (fun i h => (∃ old, IsEnum h e it ((i : Nat) : Int) old) ∧ h.IsTupleIter it a i ∧ e ≠ it) where
  mem := List.mem_cons_self ..
  obj := by
    rintro i h ⟨⟨old, he⟩, ⟨o, ho, hc, hd⟩, _⟩ b hb
    rcases (by simpa using hb : b = e ∨ b = it) with z | z
    · subst z; exact ⟨_, he, fun v q => nomatch q⟩
    · subst z; exact ⟨o, ho, fun v q => by rw [hd] at q; cases q⟩
  keep := by
    rintro i h h' ⟨⟨old, he⟩, ⟨o, ho, r⟩, hne⟩ k
    exact ⟨⟨old, k e (by simp) _ he⟩, ⟨o, k it (by simp) _ ho, r⟩, hne⟩
  self := by
    rintro A i s Q E ⟨⟨_, he⟩, _⟩ h
    exact wpAny_pyIter_enum he h
  done := by
    intro X eP ew eK hc i pins s σ H E I hf st hg
    subst eP ew eK
    obtain ⟨⟨old, he⟩, hit, hne⟩ := st
    obtain ⟨xs, hq, hx⟩ := hg
    obtain ⟨its, rv, p, hz⟩ := I.tuple hq
    obtain ⟨f0, f1, f2, f3, f4, f5⟩ := hf it (by simp)
    have hl := rv.length
    exact next_enumT_end (I.ok.hd hc) he hit (show s.heap.IsTuple a its.toArray from p) (by simp; omega) fun h' eb => ⟨rfl, I.turned (t' := s.toks) (fun b o hb q => eb b o hb q) f0 f1 f3 f4 f5⟩
  item := by
    intro X eP ew eK hc i pins s σ H E I hf st hg
    subst eP ew eK
    obtain ⟨⟨old, he⟩, hit, hne⟩ := st
    obtain ⟨xs, x, hq, hx⟩ := hg
    obtain ⟨its, rv, p, hz⟩ := I.tuple hq
    obtain ⟨u, hu, ru⟩ := rv.get hx
    have lte : e < s.heap.objs.size := Heap.lt_size he
    have lti : it < s.heap.objs.size := by
      obtain ⟨_, q, _⟩ := hit
      exact Heap.lt_size q
    refine next_enumT he hit (show s.heap.IsTuple a its.toArray from p) (x := u) (by simpa using hu) hne fun h' out it' new old' => ⟨_, rfl, wpAny_letOwnedTupleGo_enum (s := { s with heap := h', toks := s.toks + 1 }) out fun h2 he2 sb => ?_⟩
    have new2 : h2.get? s.heap.objs.size = some { cls := .type "tuple", data := .seq #[.int i s.toks, u] } := (sb.2 _ (Nat.ne_of_gt lte)).trans new
    have I1 : Inv X pins σ (upd H s.heap.objs.size (.tup [.int (i : Nat), x])) { s with heap := h2, toks := s.toks + 1 } := by
      refine I.turnedNew (ch := [e, it]) (fun b ob hb q => ?_) hf (Nat.le_refl _) ⟨by show 2 ≤ sizeLine; decide, [.int i s.toks, u], .cons ⟨_, rfl⟩ (.cons ru .nil), ⟨_, new2, rfl, _, rfl⟩⟩
      have n1 : b ≠ e := fun z => hb (by simp [z])
      have n2 : b ≠ it := fun z => hb (by simp [z])
      exact (sb.2 b n1).trans (old' b ob n1 n2 q)
    refine ⟨.ref s.heap.objs.size, _, I1, rfl, ⟨_, x, rfl, I.hok.fresh (Nat.le_refl _), rfl, fun ys hy => by rw [I.tuple_inj hy hq]; exact hx⟩, ⟨⟨u, ?_⟩, ?_, hne⟩, fun b hb => ?_⟩
    · have e1 : ((i + 1 : Nat) : Int) = (i : Int) + 1 := by omega
      rw [e1]
      exact he2
    · obtain ⟨o, ho, r⟩ := it'
      exact ⟨o, (sb.2 it (Ne.symm hne)).trans ho, r⟩
    · have lb : b < s.heap.objs.size := by
        rcases (by simpa using hb : b = e ∨ b = it) with z | z
        · rw [z]; exact lte
        · rw [z]; exact lti
      rw [upd_ne (Nat.ne_of_lt lb)]
      exact (hf b hb).1
def pairsF : Nat → List PyData → List W
  | _, [] => []
  | i, d :: ds => .d (.tuple [.int (i : Nat), d]) :: pairsF (i + 1) ds
theorem pairsF_get : ∀ {ds : List PyData} {i j : Nat} {w : W}, (pairsF j ds)[i]? = some w → ∃ d, ds[i]? = some d ∧ w = .d (.tuple [.int ((j + i : Nat) : Int), d])
  | [], _, _, _, h => by simp [pairsF] at h
  | d :: ds, 0, j, w, h => by
    simp only [pairsF, List.getElem?_cons_zero, Option.some.injEq] at h
    exact ⟨d, rfl, h.symm⟩
  | d :: ds, i + 1, j, w, h => by
    simp only [pairsF, List.getElem?_cons_succ] at h
    obtain ⟨e, h1, h2⟩ := pairsF_get h
    refine ⟨e, by simpa using h1, ?_⟩
    rw [h2, show j + 1 + i = j + (i + 1) by omega]
theorem pairsF_len : ∀ (ds : List PyData) (j : Nat), (pairsF j ds).length = ds.length
  | [], _ => rfl
  | d :: ds, j => by simp [pairsF, pairsF_len ds]
/-- enumerate(t), enumerate(l) -/
def iEnumD (R : MA) : MI := fun ρ S => (R ρ S).bind fun p => match p.1 with
  | [.d (.tuple ds)] => some (pairsF 0 ds, p.2)
  | _ => none
theorem di_enumT {X : Cx} {e : Expr} {p pos tpos : Pos} {elts : List Expr} {kk : Nat} {R : MA} (hg : Gl X "enumerate") (hm : X.mg "enumerate" = none) (ha : PA X [e] (rdA X.K R)) (hs : starEach [e] X.env = [(false, eval e X.env)] := by rfl) :
    PI X (.Tuple elts kk tpos) (.Call (.Name "enumerate" p) [e] [] pos) (rdI X.K (iEnumD R)) := by
  refine ⟨fun pins s σ H R' I h => ?_⟩
  obtain ⟨m, S, ρ, ws, S', q, e1, p'⟩ := h
  obtain ⟨⟨us, S1⟩, e2, e3⟩ := Option.bind_eq_some_iff.mp e1
  have h2 : rdA X.K R σ H fun vs H1 => ∃ a xs ds, vs = [.ref a] ∧ SqT X.K H1 a xs ∧ RpAll X.K H1 xs ds ∧ ∀ J, (∀ m, Yl X.K m J (pairsF 0 ds) H1) → R' J H1 := by
    refine ⟨m, S, ρ, us, S1, q, e2, fun ext H1 vs f q1 fr r => ?_⟩
    simp only at e3
    split at e3
    · rename_i ds
      cases e3
      obtain ⟨v, rfl, rv⟩ := prd1 r
      obtain ⟨a, xs, rfl, h1, r1⟩ := rp_tup rv
      exact ⟨a, xs, ds, rfl, h1, r1, fun J y => p' ext J H1 f q1 fr (y _)⟩
    · cases e3
  refine Call_ (ld_blt I hg hm boot_enumerate (PyProof.Rows.callWith_type1 (thn (ha.run pos pins s σ H _ I h2) fun us s1 ⟨vs, H1, I1, r1, a, xs, ds, ex, hq, rp, k⟩ => ?_) hs rfl))
  subst ex
  cases r1 with
  | cons r rr =>
    cases rr
    cases r
    obtain ⟨its, rv, pt, hz⟩ := I1.tuple hq
    refine call_enumT (show s1.heap.IsTuple a its.toArray from pt) fun h' he hit hk => wpAny_pyIter_enum he ?_
    have I2 : Inv X pins σ H1 { s1 with heap := h' } := I1.kept (t' := s1.toks) hk
    refine ⟨s1.heap.objs.size + 1, [s1.heap.objs.size + 1, s1.heap.objs.size], _, _, H1, rfl, I2, turn_enumT a (s1.heap.objs.size + 1) s1.heap.objs.size, ⟨⟨.none, he⟩, hit, Nat.succ_ne_self _⟩, fun b hb => ?_, k _ fun m => ⟨?_, ?_, ?_⟩⟩
    · have le : s1.heap.objs.size ≤ b := by
        rcases (by simpa using hb : b = s1.heap.objs.size + 1 ∨ b = s1.heap.objs.size) with z | z
        · rw [z]; exact Nat.le_add_right _ _
        · rw [z]; exact Nat.le_refl _
      exact I1.fpOk le (I1.hok.fresh le)
    · intro i H' hi kp
      rw [pairsF_len] at hi
      exact ⟨xs, xs[i]'(by rw [rp.length]; exact hi), sqT_mono hq kp, List.getElem?_eq_getElem _⟩
    · intro H' kp
      exact ⟨xs, sqT_mono hq kp, by rw [pairsF_len, rp.length]; exact Nat.le_refl _⟩
    · rintro i H' x H'' w ew kp ⟨T, y, rfl, hT, rfl, hy⟩
      obtain ⟨d, hd, rfl⟩ := pairsF_get ew
      obtain ⟨v, hv, rd⟩ := rp.get hd
      have e := hy xs (sqT_mono hq kp)
      rw [hv] at e
      cases e
      have kk := upd_kp (o := HO.tup [.int (i : Nat), y]) hT
      refine ⟨upd_keeps hT, Rp.tup upd_same ?_⟩
      rw [Nat.zero_add]
      exact .cons (.int _) (.cons (Rp.mono kk _ _ (Rp.mono kp _ _ rd)) .nil)
end DL
end
noncomputable section
namespace DL
open PySem PySem.Spec PyProof.Rows L2
def gtD := cmpI fun i j => decide (j < i)
def leD := cmpI fun i j => decide (i ≤ j)
def geD := cmpI fun i j => decide (j ≤ i)
def sNever : MS := fun _ _ => none
def FUEL : Nat := 1000000000
section
variable {X : Cx} {tg e : Expr} {A : ME} {pos : Pos} {st : Stmt}
theorem op_gtD : OpR X (compareOp .Gt) (rOp X.K gtD) := op_cmpI op_gt
theorem op_leD : OpR X (compareOp .LtE) (rOp X.K leD) := op_cmpI op_le
theorem op_geD : OpR X (compareOp .GtE) (rOp X.K geD) := op_cmpI op_ge
theorem ds_nev : PS X st (rdS X.K sNever) := ds_never
/-- in, not in: a list, a tuple -/
def inA (neg : Bool) : W → W → Sto → Option (W × Sto) := fun x y S => (deref S x).bind fun d => (seqOf S y).bind fun ds =>
  if SeqAt.shaped d && SeqAt.shaped (.list ds) then some (.d (.bool ((ds.any fun z => PyData.eqv z d) ^^ neg)), S) else none
theorem seqOf_dp {K : PySem.W.Frag} {m : List Addr} {S : Sto} {ρ : DEnv} {σ : L2.St} {H : Hp} {v : V} {w : W} {ds : List PyData} (q : Sim K m S ρ σ H) (r : RW K m H v w) (e : seqOf S w = some ds) : Dp K H v (.list ds) ∨ Dp K H v (.tuple ds) := by
  obtain ⟨a, xs, rfl, h, r1⟩ := seqOf_of q r e
  rcases h with h | h
  · exact .inl (.lst h r1.dpAll)
  · exact .inr (.tup h r1.dpAll)
theorem op_inA (hu : X.A.units + 65 < cLine) : OpR X (compareOp .In) (rOp X.K (inA false)) := by
  intro pins s σ H x y v u Q I rx ry h
  obtain ⟨m, S, ρ, σ', wx, wy, w, S', q, hx, hy, e, p⟩ := h
  obtain ⟨d, e1, e⟩ := Option.bind_eq_some_iff.mp e
  obtain ⟨ds, e2, e⟩ := Option.bind_eq_some_iff.mp e
  split at e
  · rename_i hs
    simp only [Bool.and_eq_true] at hs
    cases e
    have fin := p.now q (v := .bl (ds.any fun z => PyData.eqv z d)) (by rw [Bool.xor_false]; exact .bl _)
    obtain ⟨as, r1⟩ := Dp.reads I d x v (deref_dp q hx e1) rx
    rcases seqOf_dp q hy e2 with dp | dp
    · exact op_inD hu pins s σ H x y v u Q I rx ry ⟨d, ds, deref_dp q hx e1, dp, hs.1, hs.2, fin⟩
    · obtain ⟨bs, r2⟩ := Dp.reads I _ y u dp ry
      exact SeqAt.in_tuple_reads r2 r1 (SeqAt.canLay_of_shaped hs.2) (SeqAt.canLay_of_shaped hs.1) (room_in_shaped hs.1 hu) ⟨.bl _, H, I, rfl, fin⟩
  · cases e
theorem op_notInA (hu : X.A.units + 65 < cLine) : OpR X (compareOp .NotIn) (rOp X.K (inA true)) := by
  intro pins s σ H x y v u Q I rx ry h
  obtain ⟨m, S, ρ, σ', wx, wy, w, S', q, hx, hy, e, p⟩ := h
  obtain ⟨d, e1, e⟩ := Option.bind_eq_some_iff.mp e
  obtain ⟨ds, e2, e⟩ := Option.bind_eq_some_iff.mp e
  split at e
  · rename_i hs
    simp only [Bool.and_eq_true] at hs
    cases e
    have fin := p.now q (v := .bl (!ds.any fun z => PyData.eqv z d)) (by rw [Bool.xor_true]; exact .bl _)
    obtain ⟨as, r1⟩ := Dp.reads I d x v (deref_dp q hx e1) rx
    rcases seqOf_dp q hy e2 with dp | dp
    · exact op_notInD hu pins s σ H x y v u Q I rx ry ⟨d, ds, deref_dp q hx e1, dp, hs.1, hs.2, fin⟩
    · obtain ⟨bs, r2⟩ := Dp.reads I _ y u dp ry
      exact SeqAt.notIn_tuple_reads r2 r1 (SeqAt.canLay_of_shaped hs.2) (SeqAt.canLay_of_shaped hs.1) (room_in_shaped hs.1 hu) ⟨.bl _, H, I, rfl, fin⟩
  · cases e
/-- a locked list or a tuple is walked -/
def iSeq (A : ME) : MI := fun ρ S => (A ρ S).bind fun p => match p.1 with
  | .d (.list ds) => some (ds.map W.d, p.2)
  | .d (.tuple ds) => some (ds.map W.d, p.2)
  | _ => none
theorem di_seq (h : PE X e (rdE X.K A)) : PI X tg e (rdI X.K (iSeq A)) := by
  refine ⟨fun pins s σ H R I q => ?_⟩
  obtain ⟨m, S, ρ, ws, S', q, e1, p⟩ := q
  obtain ⟨⟨wx, S1⟩, e2, e3⟩ := Option.bind_eq_some_iff.mp e1
  have h2 : rdE X.K A σ H fun x H1 => ∃ a xs ds, x = .ref a ∧ (FzL X.K H1 a xs ∨ SqT X.K H1 a xs) ∧ RpAll X.K H1 xs ds ∧ ∀ J, (∀ m, Yl X.K m J (ds.map W.d) H1) → R J H1 := by
    refine ⟨m, S, ρ, wx, S1, q, e2, fun ext H1 x f q1 fr r => ?_⟩
    simp only at e3
    split at e3
    · cases e3
      obtain ⟨a, xs, rfl, h, r1⟩ := rp_lst r
      exact ⟨a, xs, _, rfl, .inl h, r1, fun J y => p ext J H1 f q1 fr (y _)⟩
    · cases e3
      obtain ⟨a, xs, rfl, h, r1⟩ := rp_tup r
      exact ⟨a, xs, _, rfl, .inr h, r1, fun J y => p ext J H1 f q1 fr (y _)⟩
    · cases e3
  refine thn (h.run pins s σ H _ I h2) fun v s1 ⟨x, H1, I1, r1, a, xs, ds, ex, hq, rp, k⟩ => ?_
  subst ex
  cases r1
  have grow : ∀ (o : Obj) b u, s1.heap.get? b = some u → (s1.heap.push o).get? b = some u := fun o b u z => Heap.get?_push_of_some _ z
  have here : ∀ b, b ∈ [s1.heap.objs.size] → FpOk X pins H1 b := fun b hb => by
    have z : b = s1.heap.objs.size := by simpa using hb
    subst z
    exact I1.fpOk (Nat.le_refl _) (I1.hok.fresh (Nat.le_refl _))
  rcases hq with hq | hq
  · obtain ⟨its, rv, pl, hz⟩ := I1.list hq.sq
    refine wpAny_pyIter_list pl.isList ⟨s1.heap.objs.size, [s1.heap.objs.size], _, _, H1, rfl, I1.kept (t' := s1.toks) (grow _), turn_list a _, ⟨_, Heap.get?_push_size _ rfl, rfl, rfl⟩, here, k _ fun m => ?_⟩
    refine yl_of (by rw [List.length_map, ← rp.length]; exact walk_list) (fun H' kp => (hq.mono kp).sq) fun i H' x H'' w ew kp y => ?_
    obtain ⟨rfl, hx⟩ := y
    exact ⟨fun _ _ z => z, rpAll_getV (RpAll.mono kp _ _ rp) hx ew⟩
  · obtain ⟨its, rv, pl, hz⟩ := I1.tuple hq
    refine wpAny_pyIter_tuple (show s1.heap.IsTuple a its.toArray from pl) ⟨s1.heap.objs.size, [s1.heap.objs.size], _, _, H1, rfl, I1.kept (t' := s1.toks) (grow _), turn_tuple a _, ⟨_, Heap.get?_push_size _ rfl, rfl, rfl⟩, here, k _ fun m => ?_⟩
    refine yl_of (by rw [List.length_map, ← rp.length]; exact walk_tup) (fun H' kp => sqT_mono hq kp) fun i H' x H'' w ew kp y => ?_
    obtain ⟨rfl, hx⟩ := y
    exact ⟨fun _ _ z => z, rpAll_getV (RpAll.mono kp _ _ rp) hx ew⟩
def min2D := ii2 fun i j => if j < i then j else i
def max2D := ii2 fun i j => if j > i then j else i
theorem call_min2D (hc : X.calm = true) : CallR X (.builtin "min") (rC X.K min2D) := call_ii2 (call_min2 hc)
theorem call_max2D (hc : X.calm = true) : CallR X (.builtin "max") (rC X.K max2D) := call_ii2 (call_max2 hc)
end
section
variable {X : Cx}
/-- ==, !=: two texts, or data as eqD has it -/
def eqA (neg : Bool) : W → W → Sto → Option (W × Sto) := fun x y S => match x, y with
  | .d (.str a), .d (.str b) => some (.d (.bool ((a == b) ^^ neg)), S)
  | _, _ => eqD neg x y S
theorem op_eqA (hu : X.A.units + 64 < cLine) : OpR X (compareOp .Eq) (rOp X.K (eqA false)) := by
  intro pins s σ H x y v u Q I rx ry h
  obtain ⟨m, S, ρ, σ', wx, wy, w, S', q, hx, hy, e, p⟩ := h
  unfold eqA at e
  split at e
  · cases e
    obtain rfl := rp_str hx
    obtain rfl := rp_str hy
    exact op_eq pins s σ H _ _ v u Q I rx ry ⟨rfl, by rw [dec_str]; exact p.now q (by rw [Bool.xor_false]; exact .bl _)⟩
  · exact op_eqDD hu pins s σ H x y v u Q I rx ry ⟨m, S, ρ, σ', _, _, w, S', q, hx, hy, e, p⟩
theorem op_neA (hu : X.A.units + 64 < cLine) : OpR X (compareOp .NotEq) (rOp X.K (eqA true)) := by
  intro pins s σ H x y v u Q I rx ry h
  obtain ⟨m, S, ρ, σ', wx, wy, w, S', q, hx, hy, e, p⟩ := h
  unfold eqA at e
  split at e
  · cases e
    obtain rfl := rp_str hx
    obtain rfl := rp_str hy
    exact op_ne pins s σ H _ _ v u Q I rx ry ⟨rfl, by rw [dec_str]; exact p.now q (by rw [Bool.xor_true]; exact .bl _)⟩
  · exact op_neDD hu pins s σ H x y v u Q I rx ry ⟨m, S, ρ, σ', _, _, w, S', q, hx, hy, e, p⟩
end
end DL
end
noncomputable section
namespace DL
open PySem PySem.Spec PyProof.Rows L2
section
variable {S : Sto} {i j : Int} {ρ ρ' : DEnv} {A B : ME}
theorem ev_add : addA (.d (.int i)) (.d (.int j)) S = some (.d (.int (i + j)), S) := rfl
theorem ev_addT {x y : List PyData} (h : x.length + y.length ≤ sizeLine) : addA (.d (.tuple x)) (.d (.tuple y)) S = some (.d (.tuple (x ++ y)), S) := by simp [addA, addD, h]
theorem ev_addL {x y : List PyData} (h : x.length + y.length ≤ sizeLine) : addA (.d (.list x)) (.d (.list y)) S = some (.d (.list (x ++ y)), S) := by simp [addA, addD, catL, deref, h]
theorem ev_sub : subD (.d (.int i)) (.d (.int j)) S = some (.d (.int (i - j)), S) := rfl
theorem ev_iadd : iaddI (.d (.int i)) (.d (.int j)) S = some (.d (.int (i + j)), S) := rfl
theorem ev_isub : isubI (.d (.int i)) (.d (.int j)) S = some (.d (.int (i - j)), S) := rfl
theorem ev_mul (h : i.natAbs.log2 + j.natAbs.log2 < 1000000) : mulD (.d (.int i)) (.d (.int j)) S = some (.d (.int (i * j)), S) := by simp only [mulD, if_pos h]
theorem ev_mod (h : 0 < j) : modD (.d (.int i)) (.d (.int j)) S = some (.d (.int (i % j)), S) := by simp [modD, iiD, modOk, h]
theorem ev_fdiv (h : 0 < j) (h2 : j.natAbs.log2 < 9000) : fdivD (.d (.int i)) (.d (.int j)) S = some (.d (.int (i / j)), S) := by simp [fdivD, iiD, divOk, h, h2]
theorem ev_pow (h : 0 ≤ j) (h2 : j ≤ 1000000) (h3 : i.natAbs < 2 ^ 64) : powD (.d (.int i)) (.d (.int j)) S = some (.d (.int (i ^ j.toNat)), S) := by simp [powD, iiD, powOk, h, h2, h3]
theorem ev_lt : ltD (.d (.int i)) (.d (.int j)) S = some (.d (.bool (decide (i < j))), S) := by
  by_cases h : i < j <;> by_cases h2 : i = j <;> simp [ltD, ofP, kindC, toP, PyData.depth, ltC, cmpC, cmpI2, h, h2]
theorem ev_gt : gtD (.d (.int i)) (.d (.int j)) S = some (.d (.bool (decide (j < i))), S) := by simp [gtD, cmpI, iiD, yes2]
theorem ev_le : leD (.d (.int i)) (.d (.int j)) S = some (.d (.bool (decide (i ≤ j))), S) := by simp [leD, cmpI, iiD, yes2]
theorem ev_ge : geD (.d (.int i)) (.d (.int j)) S = some (.d (.bool (decide (j ≤ i))), S) := by simp [geD, cmpI, iiD, yes2]
theorem ev_eq : eqA false (.d (.int i)) (.d (.int j)) S = some (.d (.bool (decide (i = j))), S) := by
  simp [eqA, eqD, deref, SeqAt.shaped, PyData.eqv, PyData.canLay0, PyData.depth]
  by_cases h : i = j <;> simp [h]
theorem ev_ne : eqA true (.d (.int i)) (.d (.int j)) S = some (.d (.bool (!decide (i = j))), S) := by
  simp [eqA, eqD, deref, SeqAt.shaped, PyData.eqv, PyData.canLay0, PyData.depth]
  by_cases h : i = j <;> simp [h]
theorem ev_min : min2D [.d (.int i), .d (.int j)] S = some (.d (.int (if j < i then j else i)), S) := rfl
theorem ev_max : max2D [.d (.int i), .d (.int j)] S = some (.d (.int (if j > i then j else i)), S) := rfl
theorem ev_int : intD [.d (.int i)] S = some (.d (.int i), S) := rfl
theorem ev_abs : absD [.d (.int i)] S = some (.d (.int i.natAbs), S) := by simp [absD, on1]; omega
end
theorem sz1 : 1 ≤ sizeLine := by decide
theorem sz2 : 2 ≤ sizeLine := by decide
theorem sz3 : 3 ≤ sizeLine := by decide
theorem sz4 : 4 ≤ sizeLine := by decide
theorem sz5 : 5 ≤ sizeLine := by decide
theorem sz6 : 6 ≤ sizeLine := by decide
theorem sz7 : 7 ≤ sizeLine := by decide
theorem sz8 : 8 ≤ sizeLine := by decide
theorem szp : 0 < sizeLine := by decide
/-! ### calls -/
theorem callF_pure {f : FS} {ws : List W} {x : PyData} {S : Sto} (h0 : firstLoc ws = none) (h : f ws [] = some (.d x, [])) : callF f ws S = some (.d x, S) := by simp [callF, h0, h]
theorem callF_loc {f : FS} {ws : List W} {x : PyData} {S : Sto} {n : Nat} {ob ob' : Ob} (h0 : firstLoc ws = some n) (h1 : allLoc n ws = true) (h2 : S[n]? = some ob) (h3 : obD ob = true) (h : f (ws.map toZero) [ob] = some (.d x, [ob'])) (h4 : obD ob' = true) : callF f ws S = some (.d x, S.set n ob') := by
  simp [callF, h0, h1, h2, h3, h, h4]
theorem runF_ret {N : Nat} {b : MS} {ws : List W} {x : PyData} {S S' : Sto} (h : ∃ ρ', b (ws.map some ++ List.replicate (N - ws.length) none) S = some (.rt (.d x), ρ', S')) (hS : (S'.take S.length).all obD = true) : runF N b ws S = some (.d x, S'.take S.length) := by
  obtain ⟨ρ', h⟩ := h
  simp only [runF, h, Option.bind_some, leave, hS, if_true]
theorem runF_ret0 {N : Nat} {b : MS} {ws : List W} {x : PyData} (h : ∃ ρ' S', b (ws.map some ++ List.replicate (N - ws.length) none) [] = some (.rt (.d x), ρ', S')) : runF N b ws [] = some (.d x, []) := by
  obtain ⟨ρ', S', h⟩ := h
  have := runF_ret (N := N) (ws := ws) ⟨_, h⟩ (by simp)
  simpa using this
theorem runF_ret1 {N : Nat} {b : MS} {ws : List W} {x : PyData} {ob ob' : Ob} (h : ∃ ρ' S', b (ws.map some ++ List.replicate (N - ws.length) none) [ob] = some (.rt (.d x), ρ', ob' :: S')) (hS : obD ob' = true) : runF N b ws [ob] = some (.d x, [ob']) := by
  obtain ⟨ρ', S', h⟩ := h
  have := runF_ret (N := N) (ws := ws) ⟨_, h⟩ (by simp [hS])
  simpa using this

/-! ### loops -/
theorem forL_J {g : MG} {F : MS} : ∀ {ws : List W} {J : Nat → DEnv → Sto → Prop} {k : Nat} {ρ : DEnv} {S : Sto}, (∀ i w ρ S, ws[i]? = some w → J (k + i) ρ S → ∃ ρ2 S2, ((g w ρ S).bind fun p => F p.1 p.2) = some (.nx, ρ2, S2) ∧ J (k + i + 1) ρ2 S2) → J k ρ S →
    ∃ ρ' S', forL g F ws ρ S = some (.nx, ρ', S') ∧ J (k + ws.length) ρ' S'
  | [], J, k, ρ, S, _, h => ⟨ρ, S, rfl, h⟩
  | w :: ws, J, k, ρ, S, st, h => by
    obtain ⟨ρ2, S2, e2, j⟩ := st 0 w ρ S rfl h
    obtain ⟨⟨ρ1, S1⟩, e1, e2⟩ := Option.bind_eq_some_iff.mp e2
    obtain ⟨ρ', S', e3, j2⟩ := forL_J (ws := ws) (J := J) (k := k + 1) (fun i w' ρ S e q => by
      have := st (i + 1) w' ρ S (by simpa using e) (by rw [show k + (i + 1) = k + 1 + i by omega]; exact q)
      rw [show k + (i + 1) + 1 = k + 1 + i + 1 by omega] at this
      exact this) (by rw [show k + 1 = k + 0 + 1 by omega]; exact j)
    refine ⟨ρ', S', ?_, by rw [show k + (w :: ws).length = k + 1 + ws.length by simp; omega]; exact j2⟩
    simp only [forL, e1, e2, Option.bind_some]
    exact e3
theorem rngD_get {lo : Int} {n i : Nat} {w : W} (h : (rngD lo n)[i]? = some w) : i < n ∧ w = .d (.int (lo + i)) := by
  simp only [rngD, List.getElem?_map, Option.map_eq_some_iff] at h
  obtain ⟨j, h1, rfl⟩ := h
  obtain ⟨h2, h3⟩ := List.getElem?_eq_some_iff.mp h1
  simp at h2 h3
  exact ⟨h2, by rw [← h3]⟩
theorem rngD_len {lo : Int} {n : Nat} : (rngD lo n).length = n := by simp [rngD]
theorem forL_rng {g : MG} {F : MS} {lo : Int} {n : Nat} {J : Nat → DEnv → Sto → Prop} {ρ : DEnv} {S : Sto} (st : ∀ i ρ S, i < n → J i ρ S → ∃ ρ2 S2, ((g (.d (.int (lo + i))) ρ S).bind fun p => F p.1 p.2) = some (.nx, ρ2, S2) ∧ J (i + 1) ρ2 S2) (h : J 0 ρ S) :
    ∃ ρ' S', forL g F (rngD lo n) ρ S = some (.nx, ρ', S') ∧ J n ρ' S' := by
  have := forL_J (g := g) (F := F) (ws := rngD lo n) (J := J) (k := 0) (ρ := ρ) (S := S) (fun i w ρ S e q => by
    obtain ⟨h1, rfl⟩ := rngD_get e
    simp only [Nat.zero_add] at q ⊢
    exact st i ρ S h1 q) h
  rw [rngD_len, Nat.zero_add] at this
  exact this
/-- a while: a ghost state, a measure -/
theorem whileL_J {T : MT} {F : MS} {α : Type} {J : α → DEnv → Sto → Prop} {μ : α → Nat} {P : DEnv → Sto → Prop}
    (st : ∀ a ρ S, J a ρ S → (T ρ S = some (false, S) ∧ P ρ S) ∨ (T ρ S = some (true, S) ∧ ∃ ρ2 S2, F ρ S = some (.nx, ρ2, S2) ∧ ∃ b, J b ρ2 S2 ∧ μ b < μ a)) :
    ∀ {n : Nat} {a : α} {ρ : DEnv} {S : Sto}, J a ρ S → μ a < n → ∃ ρ' S', whileL T F n ρ S = some (.nx, ρ', S') ∧ P ρ' S'
  | 0, a, ρ, S, _, h => by omega
  | n + 1, a, ρ, S, j, h => by
    rcases st a ρ S j with ⟨e, p⟩ | ⟨e, ρ2, S2, e2, b, j2, m⟩
    · exact ⟨ρ, S, by simp [whileL, e], p⟩
    · obtain ⟨ρ', S', e3, p⟩ := whileL_J st (n := n) j2 (by omega)
      exact ⟨ρ', S', by simp [whileL, e, e2, e3], p⟩
theorem seq_nx {F G : MS} {ρ ρ1 : DEnv} {S S1 : Sto} (h : F ρ S = some (.nx, ρ1, S1)) : sSeq F G ρ S = G ρ1 S1 := by simp [sSeq, h]
theorem seq_rt {F G : MS} {ρ ρ1 : DEnv} {S S1 : Sto} {w : W} (h : F ρ S = some (.rt w, ρ1, S1)) : sSeq F G ρ S = some (.rt w, ρ1, S1) := by simp [sSeq, h]
def rng1D (ws : List W) (S : Sto) : Option (List W × Sto) := match ws with
  | [.d (.int n)] => if n.toNat < 2 ^ 61 ∧ (-n).toNat < 2 ^ 61 then some (rngD 0 n.toNat, S) else none
  | _ => none
theorem iRng1D_eq {R : MA} {ρ : DEnv} {S : Sto} : iRng1D R ρ S = (R ρ S).bind fun p => rng1D p.1 p.2 := by
  unfold iRng1D rng1D
  cases R ρ S with
  | none => rfl
  | some p => rfl
theorem rng1_ok {n : Nat} {S : Sto} (h : n ≤ 1000000000) : rng1D [.d (.int n)] S = some (rngD 0 n, S) := by
  unfold rng1D
  simp only [Int.toNat_natCast]
  rw [if_pos (by omega)]
end DL
end
noncomputable section
namespace DL
open PySem PySem.Spec PyProof.Rows L2
theorem lg_le {i : Int} {k : Nat} (h : i.natAbs < 2 ^ k) : i.natAbs.log2 ≤ k := by
  by_cases h0 : i.natAbs = 0
  · rw [h0]; simp
  · exact Nat.le_of_lt ((Nat.log2_lt h0).mpr h)
def bBag : MS := sRet (mCall lstB (mCons (mC (.int 0)) (mCons (mC (.int 1234567891)) (mCons (mC (.int 0)) (mCons (mLc (iSeq (mSl (mVar 0) (oNo) (oYes (mC (.int 63))))) (gSet 1) (tTrue) (mCall absD (mCons (mVar 1) (mNil))) [1] kFrz) (mNil))))))
def fBag : FS := runF 2 bBag
def bTake : MS := sSeq (sIf (tOf (mBin (eqA false) (mBin idxD (mVar 0) (mC (.int 0))) (mC (.int 0)))) (sSeq (sAsg (mBin idxD (mBin addA (mSl (mBin idxD (mVar 0) (mC (.int 3))) (oYes (mBin idxD (mVar 0) (mC (.int 2)))) (oNo)) (mCall lstF (mCons (mC (.int 0)) (mNil)))) (mC (.int 0))) (gSet 4))
    (sSeq (sAugS (mVar 0) (mC (.int 2)) (mC (.int 1)) getF iaddI setF)
    (sSeq (sIf (tOf (mBin geD (mVar 4) (mBin powD (mC (.int 10)) (mC (.int 18))))) (sAsg (mVar 4) (gSubD (mVar 0) (mC (.int 0)) setF)) (sNil))
    (sSeq (sAsg (mBin addA (mBin addA (mBin mulD (mBin idxD (mVar 0) (mC (.int 1))) (mC (.int 48271))) (mBin modD (mCall intD (mCons (mVar 4) (mNil))) (mC (.int 2147483647)))) (mBin mulD (mC (.int 7919)) (mBin idxD (mVar 0) (mC (.int 2))))) (gSet 5))
    (sAsg (mBin modD (mCall intD (mCons (mVar 5) (mNil))) (mC (.int 2147483647))) (gSubD (mVar 0) (mC (.int 1)) setF)))))) (sNil))
    (sSeq (sIf (tOf (mBin gtD (mBin idxD (mVar 0) (mC (.int 0))) (mC (.int 0)))) (sSeq (sAsg (mBin modD (mCall intD (mCons (mBin idxD (mVar 0) (mC (.int 0))) (mNil))) (mVar 1)) (gSet 6))
    (sSeq (sAsg (mBin fdivD (mCall intD (mCons (mBin idxD (mVar 0) (mC (.int 0))) (mNil))) (mVar 1)) (gSubD (mVar 0) (mC (.int 0)) setF))
    (sRet (mVar 6)))) (sNil))
    (sSeq (sAsg (mBin modD (mCall intD (mCons (mBin mulD (mBin addA (mBin idxD (mVar 0) (mC (.int 1))) (mC (.int 1))) (mC (.int 39373))) (mNil))) (mC (.int 1000000007))) (gSet 2))
    (sSeq (sAsg (mBin modD (mCall intD (mCons (mBin mulD (mBin modD (mCall intD (mCons (mBin mulD (mVar 2) (mVar 2)) (mNil))) (mC (.int 998244353))) (mC (.int 30011))) (mNil))) (mC (.int 998244353))) (gSet 3))
    (sRet (mBin modD (mCall intD (mCons (mBin fdivD (mVar 3) (mC (.int 7))) (mNil))) (mVar 1))))))
def fTake : FS := runF 7 bTake
def bSome : MS := sRet (mBin idxD (mVar 1) (mCall (callF fTake) (mCons (mVar 0) (mCons (mCall lenD (mCons (mVar 1) (mNil))) (mNil)))))
def fSome : FS := runF 2 bSome
def bAlike : MS := sRet (vAnd (mBin (eqA false) (mVar 0) (mVar 1)) (mBin (eqA false) (mCall reprD (mCons (mVar 0) (mNil))) (mCall reprD (mCons (mVar 1) (mNil)))))
def fAlike : FS := runF 2 bAlike
def bFlat : MS := sSeq (sAsg (mCall lstB (mNil)) (gSet 1))
    (sSeq (sFor (iSeq (mVar 0)) (gSet 2) (sExpr (mMt extendF (mVar 1) (mCons (mVar 2) (mNil)))))
    (sRet (mFrz (mVar 1))))
def fFlat : FS := runF 3 bFlat
def bMixed : MS := sSeq (sAsg (mCall lstB (mNil)) (gSet 2))
    (sSeq (sFor (iSeq (mVar 1)) (gSet 3) (sExpr (mMt insertF (mVar 2) (mCons (mCall (callF fTake) (mCons (mVar 0) (mCons (mBin addA (mCall lenD (mCons (mVar 2) (mNil))) (mC (.int 1))) (mNil)))) (mCons (mVar 3) (mNil))))))
    (sRet (mFrz (mVar 2))))
def fMixed : FS := runF 4 bMixed
/-- a bag from which at most c times was taken -/
def bagOf (big seed ix : Nat) (cells : List Nat) : Ob := .lst [.d (.int big), .d (.int seed), .d (.int ix), .d (.list (cells.map fun c => .int (c : Nat)))]
structure BagOk (c : Nat) (ob : Ob) : Prop where
  ex : ∃ big seed ix cells, ob = bagOf big seed ix cells ∧ seed < 2147483647 ∧ ix ≤ c ∧ cells.length ≤ 63
theorem BagOk.up {c d : Nat} {ob : Ob} (h : BagOk c ob) (k : c ≤ d) : BagOk d ob := by
  obtain ⟨b, s, i, l, e, h1, h2, h3⟩ := h.ex
  exact ⟨b, s, i, l, e, h1, by omega, h3⟩
theorem BagOk.obD {c : Nat} {ob : Ob} (h : BagOk c ob) : obD ob = true := by
  obtain ⟨b, s, i, l, rfl, h1, h2, h3⟩ := h.ex
  simp [bagOf, DL.obD, allD]
/-- the cell that is read -/
theorem cell_ex (cells : List Nat) (ix : Nat) : ∃ c : Nat, atI (cutD (cells.map fun c => PyData.int (c : Nat)) (some (ix : Int)) none ++ [.int 0]) 0 = some (.int (c : Nat)) := by
  unfold cutD
  rw [← List.map_drop, ← List.map_take]
  cases ((cells.drop _).take _) with
  | nil => exact ⟨0, by simp [atI, ixN]⟩
  | cons c l => exact ⟨c, by
      have h : 0 < ((c :: l).map (fun c => PyData.int (c : Nat)) ++ [PyData.int 0]).length := by simp
      have e := atI_nat (xs := (c :: l).map (fun c => PyData.int (c : Nat)) ++ [PyData.int 0]) (j := 0) (v := .int c) (by simp)
      simpa using e⟩
theorem ix40 : ixN 4 0 = some 0 := by decide
theorem ix41 : ixN 4 1 = some 1 := by decide
theorem ix42 : ixN 4 2 = some 2 := by decide
theorem ix43 : ixN 4 3 = some 3 := by decide

section
variable {α : Type} {a b c d : α}
theorem at40 : atI [a, b, c, d] 0 = some a := rfl
theorem at41 : atI [a, b, c, d] 1 = some b := rfl
theorem at42 : atI [a, b, c, d] 2 = some c := rfl
theorem at43 : atI [a, b, c, d] 3 = some d := rfl
end
theorem pow1018 (S : Sto) : powD (.d (.int 10)) (.d (.int 18)) S = some (.d (.int 1000000000000000000), S) := by
  rw [ev_pow (by decide) (by decide) (by decide)]; rfl
theorem len_cut {α : Type} (l : List α) (a b : Option Int) : (cutD l a b).length ≤ l.length := by
  unfold cutD; rw [List.length_take, List.length_drop]; omega
def bTake1 : MS := (sIf (tOf (mBin (eqA false) (mBin idxD (mVar 0) (mC (.int 0))) (mC (.int 0)))) (sSeq (sAsg (mBin idxD (mBin addA (mSl (mBin idxD (mVar 0) (mC (.int 3))) (oYes (mBin idxD (mVar 0) (mC (.int 2)))) (oNo)) (mCall lstF (mCons (mC (.int 0)) (mNil)))) (mC (.int 0))) (gSet 4))
    (sSeq (sAugS (mVar 0) (mC (.int 2)) (mC (.int 1)) getF iaddI setF)
    (sSeq (sIf (tOf (mBin geD (mVar 4) (mBin powD (mC (.int 10)) (mC (.int 18))))) (sAsg (mVar 4) (gSubD (mVar 0) (mC (.int 0)) setF)) (sNil))
    (sSeq (sAsg (mBin addA (mBin addA (mBin mulD (mBin idxD (mVar 0) (mC (.int 1))) (mC (.int 48271))) (mBin modD (mCall intD (mCons (mVar 4) (mNil))) (mC (.int 2147483647)))) (mBin mulD (mC (.int 7919)) (mBin idxD (mVar 0) (mC (.int 2))))) (gSet 5))
    (sAsg (mBin modD (mCall intD (mCons (mVar 5) (mNil))) (mC (.int 2147483647))) (gSubD (mVar 0) (mC (.int 1)) setF)))))) (sNil))
def bTake2 : MS := (sSeq (sIf (tOf (mBin gtD (mBin idxD (mVar 0) (mC (.int 0))) (mC (.int 0)))) (sSeq (sAsg (mBin modD (mCall intD (mCons (mBin idxD (mVar 0) (mC (.int 0))) (mNil))) (mVar 1)) (gSet 6))
    (sSeq (sAsg (mBin fdivD (mCall intD (mCons (mBin idxD (mVar 0) (mC (.int 0))) (mNil))) (mVar 1)) (gSubD (mVar 0) (mC (.int 0)) setF))
    (sRet (mVar 6)))) (sNil))
    (sSeq (sAsg (mBin modD (mCall intD (mCons (mBin mulD (mBin addA (mBin idxD (mVar 0) (mC (.int 1))) (mC (.int 1))) (mC (.int 39373))) (mNil))) (mC (.int 1000000007))) (gSet 2))
    (sSeq (sAsg (mBin modD (mCall intD (mCons (mBin mulD (mBin modD (mCall intD (mCons (mBin mulD (mVar 2) (mVar 2)) (mNil))) (mC (.int 998244353))) (mC (.int 30011))) (mNil))) (mC (.int 998244353))) (gSet 3))
    (sRet (mBin modD (mCall intD (mCons (mBin fdivD (mVar 3) (mC (.int 7))) (mNil))) (mVar 1))))))
theorem bTake_eq : bTake = sSeq bTake1 bTake2 := rfl
theorem stir_ok {seed c ix : Nat} (h1 : seed < 2147483647) (h2 : ix < 2 ^ 1000) : (∀ S, mulD (.d (.int seed)) (.d (.int 48271)) S = some (.d (.int (seed * 48271)), S)) ∧ ∀ S, mulD (.d (.int 7919)) (.d (.int (ix : Nat))) S = some (.d (.int (7919 * ix)), S) := by
  refine ⟨fun S => ev_mul ?_, fun S => ev_mul ?_⟩
  · have : (seed : Int).natAbs.log2 ≤ 31 := lg_le (by omega)
    have : (48271 : Int).natAbs.log2 ≤ 16 := by decide
    omega
  · have : ((ix : Nat) : Int).natAbs.log2 ≤ 1000 := lg_le (by simpa using h2)
    have : (7919 : Int).natAbs.log2 ≤ 13 := by decide
    omega
theorem take1 {upto : Int} {big seed ix : Nat} {cells : List Nat} (h1 : seed < 2147483647) (h2 : ix + 1 < 2 ^ 1000) (h3 : cells.length ≤ 63) :
    ∃ x y big' seed' ix', bTake1 [some (.loc 0), some (.d (.int upto)), none, none, none, none, none] [bagOf big seed ix cells] = some (.nx, [some (.loc 0), some (.d (.int upto)), none, none, x, y, none], [bagOf big' seed' ix' cells]) ∧ seed' < 2147483647 ∧ ix' ≤ ix + 1 := by
  by_cases hb : big = 0
  · subst hb
    obtain ⟨c, hc⟩ := cell_ex cells ix
    have hl : (cutD (cells.map fun c => PyData.int (c : Nat)) (some (ix : Int)) none).length + [PyData.int 0].length ≤ sizeLine := by
      have := len_cut (cells.map fun c => PyData.int (c : Nat)) (some (ix : Int)) none
      rw [List.length_map] at this
      have : 64 ≤ sizeLine := by decide
      simp only [List.length_cons, List.length_nil]; omega
    have ha := fun S => ev_addL (S := S) hl
    obtain ⟨m1, m2⟩ := stir_ok (c := 0) h1 h2
    have hm := fun (z : Int) S => ev_mod (S := S) (i := z) (j := 2147483647) (by decide)
    have hs : ∀ z : Nat, ∃ s' : Nat, ((seed : Int) * 48271 + (z : Int) % 2147483647 + 7919 * ((ix : Int) + 1)) % 2147483647 = (s' : Nat) ∧ s' < 2147483647 := fun z => by
      refine ⟨(((seed : Int) * 48271 + (z : Int) % 2147483647 + 7919 * ((ix : Int) + 1)) % 2147483647).toNat, ?_, ?_⟩ <;> omega
    have m2' : ∀ S, mulD (.d (.int 7919)) (.d (.int ((ix : Int) + 1))) S = some (.d (.int (7919 * ((ix : Int) + 1))), S) := by
      intro S; have := m2 S; simpa using this
    obtain ⟨s', es, hs'⟩ := hs c
    by_cases hk : (1000000000000000000 : Int) ≤ c
    · refine ⟨some (.d (.int c)), some (.d (.int ((seed : Int) * 48271 + (c : Int) % 2147483647 + 7919 * ((ix : Int) + 1)))), c, s', ix + 1, ?_, hs', by omega⟩
      simp [bTake1, bagOf, DL.sSeq, DL.sNil, DL.sPass, DL.sBreak, DL.sCont, DL.sExpr, DL.sRet, DL.sRetN, DL.sIf, DL.sAsg, DL.sPar, DL.sAug, DL.sAugS, DL.gSet, DL.gTupD, DL.gsNil, DL.gsCons, DL.gSubD, DL.sFor, DL.iRng1D_eq, DL.mVar, DL.mC, DL.mNil, DL.mCons, DL.mCall, DL.mBin, DL.mNeg, DL.mMt, DL.mSl, DL.oNo, DL.oYes, DL.tOf, DL.tNotD, DL.tAndD, DL.tOrD, DL.tTru, DL.truD, DL.tTrue, DL.vAnd, DL.vOr, DL.vNot, DL.vIf, DL.vChain, DL.tupF, DL.lstF, DL.allD, DL.ev_add, DL.ev_sub, DL.ev_iadd, DL.ev_isub, DL.ev_lt, DL.ev_gt, DL.ev_le, DL.ev_ge, DL.ev_eq, DL.ev_ne, DL.ev_min, DL.ev_max, DL.ev_int, DL.ev_abs, DL.sz1, DL.sz2, DL.sz3, DL.sz4, DL.sz5, DL.sz6, DL.sz7, DL.sz8, DL.szp, idxD, at40, at41, at42, at43, sliceD, ha, hc, getF, setF, ix40, ix41, ix42, pow1018, hk, m1, m2', hm, es]
    · refine ⟨some (.d (.int c)), some (.d (.int ((seed : Int) * 48271 + (c : Int) % 2147483647 + 7919 * ((ix : Int) + 1)))), 0, s', ix + 1, ?_, hs', by omega⟩
      simp [bTake1, bagOf, DL.sSeq, DL.sNil, DL.sPass, DL.sBreak, DL.sCont, DL.sExpr, DL.sRet, DL.sRetN, DL.sIf, DL.sAsg, DL.sPar, DL.sAug, DL.sAugS, DL.gSet, DL.gTupD, DL.gsNil, DL.gsCons, DL.gSubD, DL.sFor, DL.iRng1D_eq, DL.mVar, DL.mC, DL.mNil, DL.mCons, DL.mCall, DL.mBin, DL.mNeg, DL.mMt, DL.mSl, DL.oNo, DL.oYes, DL.tOf, DL.tNotD, DL.tAndD, DL.tOrD, DL.tTru, DL.truD, DL.tTrue, DL.vAnd, DL.vOr, DL.vNot, DL.vIf, DL.vChain, DL.tupF, DL.lstF, DL.allD, DL.ev_add, DL.ev_sub, DL.ev_iadd, DL.ev_isub, DL.ev_lt, DL.ev_gt, DL.ev_le, DL.ev_ge, DL.ev_eq, DL.ev_ne, DL.ev_min, DL.ev_max, DL.ev_int, DL.ev_abs, DL.sz1, DL.sz2, DL.sz3, DL.sz4, DL.sz5, DL.sz6, DL.sz7, DL.sz8, DL.szp, idxD, at40, at41, at42, at43, sliceD, ha, hc, getF, setF, ix40, ix41, ix42, pow1018, hk, m1, m2', hm, es]
  · refine ⟨none, none, big, seed, ix, ?_, h1, by omega⟩
    simp [bTake1, bagOf, DL.sSeq, DL.sNil, DL.sPass, DL.sBreak, DL.sCont, DL.sExpr, DL.sRet, DL.sRetN, DL.sIf, DL.sAsg, DL.sPar, DL.sAug, DL.sAugS, DL.gSet, DL.gTupD, DL.gsNil, DL.gsCons, DL.gSubD, DL.sFor, DL.iRng1D_eq, DL.mVar, DL.mC, DL.mNil, DL.mCons, DL.mCall, DL.mBin, DL.mNeg, DL.mMt, DL.mSl, DL.oNo, DL.oYes, DL.tOf, DL.tNotD, DL.tAndD, DL.tOrD, DL.tTru, DL.truD, DL.tTrue, DL.vAnd, DL.vOr, DL.vNot, DL.vIf, DL.vChain, DL.tupF, DL.lstF, DL.allD, DL.ev_add, DL.ev_sub, DL.ev_iadd, DL.ev_isub, DL.ev_lt, DL.ev_gt, DL.ev_le, DL.ev_ge, DL.ev_eq, DL.ev_ne, DL.ev_min, DL.ev_max, DL.ev_int, DL.ev_abs, DL.sz1, DL.sz2, DL.sz3, DL.sz4, DL.sz5, DL.sz6, DL.sz7, DL.sz8, DL.szp, idxD, at40, hb]
theorem take2 {upto : Int} {big seed ix : Nat} {cells : List Nat} {x y : Option W} (hu : 0 < upto) (hl : upto.natAbs.log2 < 9000) (h1 : seed < 2147483647) :
    ∃ ρ' v big', bTake2 [some (.loc 0), some (.d (.int upto)), none, none, x, y, none] [bagOf big seed ix cells] = some (.rt (.d (.int v)), ρ', [bagOf big' seed ix cells]) ∧ 0 ≤ v ∧ v < upto := by
  have hm := fun (z : Int) S => ev_mod (S := S) (i := z) (j := upto) hu
  have hd := fun (z : Int) S => ev_fdiv (S := S) (i := z) (j := upto) hu hl
  by_cases hb : big = 0
  · subst hb
    have hp := fun (z : Int) S => ev_mod (S := S) (i := z) (j := 1000000007) (by decide)
    have hq := fun (z : Int) S => ev_mod (S := S) (i := z) (j := 998244353) (by decide)
    have h7 := fun (z : Int) S => ev_fdiv (S := S) (i := z) (j := 7) (by decide) (by decide)
    have m1 : ∀ S, mulD (.d (.int ((seed : Int) + 1))) (.d (.int 39373)) S = some (.d (.int (((seed : Int) + 1) * 39373)), S) := fun S => ev_mul (by
      have : ((seed : Int) + 1).natAbs.log2 ≤ 32 := lg_le (by omega)
      have : (39373 : Int).natAbs.log2 ≤ 16 := by decide
      omega)
    obtain ⟨bg, hbg⟩ : ∃ bg, ((seed : Int) + 1) * 39373 % 1000000007 = bg := ⟨_, rfl⟩
    have hb1 : 0 ≤ bg ∧ bg < 1000000007 := by omega
    have m2 : ∀ S, mulD (.d (.int bg)) (.d (.int bg)) S = some (.d (.int (bg * bg)), S) := fun S => ev_mul (by
      have : bg.natAbs.log2 ≤ 30 := lg_le (by omega)
      omega)
    obtain ⟨sc, hsc⟩ : ∃ sc, bg * bg % 998244353 = sc := ⟨_, rfl⟩
    have hs1 : 0 ≤ sc ∧ sc < 998244353 := by
      rw [← hsc]; exact ⟨Int.emod_nonneg _ (by decide), Int.emod_lt_of_pos _ (by decide)⟩
    have m3 : ∀ S, mulD (.d (.int sc)) (.d (.int 30011)) S = some (.d (.int (sc * 30011)), S) := fun S => ev_mul (by
      have : sc.natAbs.log2 ≤ 30 := lg_le (by omega)
      have : (30011 : Int).natAbs.log2 ≤ 16 := by decide
      omega)
    refine ⟨[some (.loc 0), some (.d (.int upto)), some (.d (.int bg)), some (.d (.int (sc * 30011 % 998244353))), x, y, none], sc * 30011 % 998244353 / 7 % upto, 0, ?_, Int.emod_nonneg _ (by omega), Int.emod_lt_of_pos _ hu⟩
    simp [bTake2, bagOf, DL.sSeq, DL.sNil, DL.sPass, DL.sBreak, DL.sCont, DL.sExpr, DL.sRet, DL.sRetN, DL.sIf, DL.sAsg, DL.sPar, DL.sAug, DL.sAugS, DL.gSet, DL.gTupD, DL.gsNil, DL.gsCons, DL.gSubD, DL.sFor, DL.iRng1D_eq, DL.mVar, DL.mC, DL.mNil, DL.mCons, DL.mCall, DL.mBin, DL.mNeg, DL.mMt, DL.mSl, DL.oNo, DL.oYes, DL.tOf, DL.tNotD, DL.tAndD, DL.tOrD, DL.tTru, DL.truD, DL.tTrue, DL.vAnd, DL.vOr, DL.vNot, DL.vIf, DL.vChain, DL.tupF, DL.lstF, DL.allD, DL.ev_add, DL.ev_sub, DL.ev_iadd, DL.ev_isub, DL.ev_lt, DL.ev_gt, DL.ev_le, DL.ev_ge, DL.ev_eq, DL.ev_ne, DL.ev_min, DL.ev_max, DL.ev_int, DL.ev_abs, DL.sz1, DL.sz2, DL.sz3, DL.sz4, DL.sz5, DL.sz6, DL.sz7, DL.sz8, DL.szp, idxD, at40, at41, hm, hp, hq, h7, m1, hbg, m2, hsc, m3]
  · have hg : 0 < (big : Int) := by omega
    have he : ∃ b' : Nat, (big : Int) / upto = b' := ⟨((big : Int) / upto).toNat, (Int.toNat_of_nonneg (Int.ediv_nonneg (by omega) (by omega))).symm⟩
    obtain ⟨b', hb'⟩ := he
    refine ⟨[some (.loc 0), some (.d (.int upto)), none, none, x, y, some (.d (.int ((big : Int) % upto)))], (big : Int) % upto, b', ?_, Int.emod_nonneg _ (by omega), Int.emod_lt_of_pos _ hu⟩
    have hg' : 0 < big := by omega
    simp [bTake2, bagOf, DL.sSeq, DL.sNil, DL.sPass, DL.sBreak, DL.sCont, DL.sExpr, DL.sRet, DL.sRetN, DL.sIf, DL.sAsg, DL.sPar, DL.sAug, DL.sAugS, DL.gSet, DL.gTupD, DL.gsNil, DL.gsCons, DL.gSubD, DL.sFor, DL.iRng1D_eq, DL.mVar, DL.mC, DL.mNil, DL.mCons, DL.mCall, DL.mBin, DL.mNeg, DL.mMt, DL.mSl, DL.oNo, DL.oYes, DL.tOf, DL.tNotD, DL.tAndD, DL.tOrD, DL.tTru, DL.truD, DL.tTrue, DL.vAnd, DL.vOr, DL.vNot, DL.vIf, DL.vChain, DL.tupF, DL.lstF, DL.allD, DL.ev_add, DL.ev_sub, DL.ev_iadd, DL.ev_isub, DL.ev_lt, DL.ev_gt, DL.ev_le, DL.ev_ge, DL.ev_eq, DL.ev_ne, DL.ev_min, DL.ev_max, DL.ev_int, DL.ev_abs, DL.sz1, DL.sz2, DL.sz3, DL.sz4, DL.sz5, DL.sz6, DL.sz7, DL.sz8, DL.szp, idxD, at40, at41, hm, hd, hg', setF, ix40, hb']
theorem take_ok {c n : Nat} {ob : Ob} {S : Sto} {upto : Int} (hS : S[n]? = some ob) (hb : BagOk c ob) (hc : c + 1 < 2 ^ 1000) (hu : 0 < upto) (hl : upto.natAbs.log2 < 9000) :
    ∃ v ob', callF fTake [.loc n, .d (.int upto)] S = some (.d (.int v), S.set n ob') ∧ 0 ≤ v ∧ v < upto ∧ BagOk (c + 1) ob' := by
  obtain ⟨big, seed, ix, cells, rfl, h1, h2, h3⟩ := hb.ex
  obtain ⟨x, y, big', seed', ix', e1, k1, k2⟩ := take1 (upto := upto) (big := big) (ix := ix) h1 (by omega) h3
  obtain ⟨ρ', v, big2, e2, v0, v1⟩ := take2 (big := big') (seed := seed') (ix := ix') (cells := cells) (x := x) (y := y) hu hl k1
  have hb2 : BagOk (c + 1) (bagOf big2 seed' ix' cells) := ⟨big2, seed', ix', cells, rfl, k1, by omega, h3⟩
  refine ⟨v, _, callF_loc (n := n) rfl (by simp [allLoc]) hS hb.obD (runF_ret1 ⟨ρ', [], ?_⟩ hb2.obD) hb2.obD, v0, v1, hb2⟩
  rw [bTake_eq]
  show sSeq bTake1 bTake2 [some (.loc 0), some (.d (.int upto)), none, none, none, none, none] _ = _
  rw [seq_nx e1, e2]
end DL
end
noncomputable section
namespace DL
open PySem PySem.Spec PyProof.Rows L2
structure Nice (B w dp : Nat) (d : PyData) : Prop where
  lay : d.canLay0 = true
  dep : d.depth ≤ dp
  sh : d.showable = true
  nd : d.hasDict = false
  ls : d.leavesShort B = true
  wt : d.weight ≤ w
  eq : PyData.eqv d d = true
structure NiceAll (B w dp : Nat) (xs : List PyData) : Prop where
  lay : PyData.canLayAll0 xs = true
  dep : PyData.depthAll xs ≤ dp
  sh : PyData.showableAll xs = true
  nd : PyData.hasDictAll xs = false
  ls : PyData.leavesShortAll B xs = true
  wt : PyData.weightAll xs ≤ w
  eq : PyData.eqvAll xs xs = true
section
variable {B w dp w' dp' : Nat} {d : PyData} {xs : List PyData}
theorem Nice.up (h : Nice B w dp d) (k1 : w ≤ w') (k2 : dp ≤ dp') : Nice B w' dp' d := ⟨h.lay, Nat.le_trans h.dep k2, h.sh, h.nd, h.ls, Nat.le_trans h.wt k1, h.eq⟩
theorem NiceAll.up (h : NiceAll B w dp xs) (k1 : w ≤ w') (k2 : dp ≤ dp') : NiceAll B w' dp' xs := ⟨h.lay, Nat.le_trans h.dep k2, h.sh, h.nd, h.ls, Nat.le_trans h.wt k1, h.eq⟩
theorem niceNil : NiceAll B 0 dp [] := ⟨rfl, Nat.zero_le _, rfl, rfl, rfl, Nat.le_refl _, rfl⟩
theorem niceCons (h : Nice B w dp d) (t : NiceAll B w' dp xs) : NiceAll B (w + 1 + w') dp (d :: xs) := by
  refine ⟨?_, ?_, ?_, ?_, ?_, ?_, ?_⟩
  · simp [PyData.canLayAll0, h.lay, t.lay]
  · simp only [PyData.depthAll]; exact Nat.max_le.mpr ⟨h.dep, t.dep⟩
  · simp [PyData.showableAll, h.sh, t.sh]
  · simp [PyData.hasDictAll, h.nd, t.nd]
  · simp [PyData.leavesShortAll, h.ls, t.ls]
  · simp only [PyData.weightAll]; have := h.wt; have := t.wt; omega
  · simp [PyData.eqvAll, h.eq, t.eq]
theorem niceAll_of : ∀ {xs : List PyData}, (∀ d ∈ xs, Nice B w dp d) → NiceAll B ((w + 1) * xs.length) dp xs
  | [], _ => niceNil
  | d :: xs, h => by
    have := niceCons (h d (by simp)) (niceAll_of (xs := xs) fun e hd => h e (by simp [hd]))
    rw [List.length_cons, Nat.mul_succ, Nat.add_comm]; exact this
theorem niceList (t : NiceAll B w dp xs) : Nice B w (dp + 1) (.list xs) := ⟨by simpa [PyData.canLay0] using t.lay, by simp only [PyData.depth]; exact Nat.succ_le_succ t.dep, by simpa [PyData.showable] using t.sh, by simpa [PyData.hasDict] using t.nd, by simpa [PyData.leavesShort] using t.ls, by simpa [PyData.weight] using t.wt, by simpa [PyData.eqv] using t.eq⟩
theorem niceTup (t : NiceAll B w dp xs) : Nice B w (dp + 1) (.tuple xs) := ⟨by simpa [PyData.canLay0] using t.lay, by simp only [PyData.depth]; exact Nat.succ_le_succ t.dep, by simpa [PyData.showable] using t.sh, by simpa [PyData.hasDict] using t.nd, by simpa [PyData.leavesShort] using t.ls, by simpa [PyData.weight] using t.wt, by simpa [PyData.eqv] using t.eq⟩
theorem niceNone : Nice B 0 dp .none := ⟨rfl, Nat.zero_le _, rfl, rfl, rfl, Nat.le_refl _, rfl⟩
theorem niceBool {b : Bool} : Nice B 0 dp (.bool b) := ⟨rfl, Nat.zero_le _, rfl, rfl, rfl, Nat.le_refl _, by simp [PyData.eqv]⟩
theorem ten_two (k : Nat) : 10 ^ k ≤ 2 ^ (4 * k) := by
  rw [Nat.pow_mul]; exact Nat.pow_le_pow_left (by decide) k
theorem niceInt {i : Int} {k : Nat} (h : i.natAbs < 10 ^ k) (hk : 0 < k) (hB : k + 1 ≤ B) (h4 : k < 480) : Nice B (4 * k + 1) dp (.int i) := by
  have hl : i.natAbs.log2 ≤ 4 * k := by
    by_cases h0 : i.natAbs = 0
    · rw [h0]; simp
    · exact Nat.le_of_lt ((Nat.log2_lt h0).mpr (Nat.lt_of_lt_of_le h (ten_two k)))
  refine ⟨rfl, Nat.zero_le _, by simp only [PyData.showable, decide_eq_true_eq]; omega, rfl, ?_, ?_, by simp [PyData.eqv]⟩
  · have e := int_text_length_le10 hk h
    simp only [PyData.leavesShort, decide_eq_true_eq]
    show (Str.ofString (toString i)).length ≤ B
    rw [PySem.ofString_length]; omega
  · simp only [PyData.weight]; split <;> omega
theorem Nice.shaped (h : Nice B w dp d) (k : dp ≤ 64) : SeqAt.shaped d = true := by
  simp only [SeqAt.shaped, h.lay, Bool.true_and, decide_eq_true_eq]; exact Nat.le_trans h.dep k
theorem Nice.reprOk (h : Nice B w dp d) (k : dp ≤ 64) (hB : 8 ≤ B) (hw : (B + 2) * w + B ≤ sizeLine) : reprOk d = true := by
  have h1 := PyData.shown_le B hB d h.ls
  have h2 := Nat.mul_le_mul_left (B + 2) h.wt
  simp only [DL.reprOk, h.sh, h.nd, Bool.not_false, Bool.and_true, Bool.true_and, Bool.and_eq_true, decide_eq_true_eq]
  exact ⟨Nat.le_trans h.dep k, by omega⟩
theorem eqA_self {S : Sto} (h : SeqAt.shaped d = true) (k : PyData.eqv d d = true) : eqA false (.d d) (.d d) S = some (.d (.bool true), S) := by
  unfold eqA
  split
  · rename_i a b e1 e2
    cases e1; cases e2
    simp
  · simp [eqD, deref, h, k]
theorem alike_ok (h : Nice B w dp d) (k : dp ≤ 64) (hB : 8 ≤ B) (hw : (B + 2) * w + B ≤ sizeLine) (S : Sto) : callF fAlike [.d d, .d d] S = some (.d (.bool true), S) := by
  refine callF_pure rfl (runF_ret0 ?_)
  have h1 := h.reprOk k hB hw
  have h2 := fun S => eqA_self (S := S) (h.shaped k) h.eq
  have h3 : ∀ S, eqA false (.d (.str d.shown)) (.d (.str d.shown)) S = some (.d (.bool true), S) := fun S => by simp [eqA]
  simp [bAlike, DL.sSeq, DL.sNil, DL.sPass, DL.sBreak, DL.sCont, DL.sExpr, DL.sRet, DL.sRetN, DL.sIf, DL.sAsg, DL.sPar, DL.sAug, DL.sAugS, DL.gSet, DL.gTupD, DL.gsNil, DL.gsCons, DL.gSubD, DL.sFor, DL.iRng1D_eq, DL.mVar, DL.mC, DL.mNil, DL.mCons, DL.mCall, DL.mBin, DL.mNeg, DL.mMt, DL.mSl, DL.oNo, DL.oYes, DL.tOf, DL.tNotD, DL.tAndD, DL.tOrD, DL.tTru, DL.truD, DL.tTrue, DL.vAnd, DL.vOr, DL.vNot, DL.vIf, DL.vChain, DL.tupF, DL.lstF, DL.allD, DL.ev_add, DL.ev_sub, DL.ev_iadd, DL.ev_isub, DL.ev_lt, DL.ev_gt, DL.ev_le, DL.ev_ge, DL.ev_eq, DL.ev_ne, DL.ev_min, DL.ev_max, DL.ev_int, DL.ev_abs, DL.sz1, DL.sz2, DL.sz3, DL.sz4, DL.sz5, DL.sz6, DL.sz7, DL.sz8, DL.szp, reprD, on1, deref, h1, h2, h3]
end
end DL
end
noncomputable section
namespace DL
open PySem PySem.Spec PyProof.Rows L2
theorem atI_nn {α : Type} {xs : List α} {v : Int} (h0 : 0 ≤ v) (h : v < xs.length) : ∃ x ∈ xs, atI xs v = some x ∧ xs[v.toNat]? = some x := by
  obtain ⟨n, rfl⟩ := Int.eq_ofNat_of_zero_le h0
  have hn : n < xs.length := by omega
  exact ⟨xs[n], List.getElem_mem hn, atI_nat (List.getElem?_eq_getElem hn), by simp [hn]⟩
theorem size_lg {n : Nat} (h : n ≤ sizeLine) : (n : Int).natAbs.log2 < 9000 := by
  have : (n : Int).natAbs.log2 ≤ 25 := lg_le (by
    have : sizeLine < 2 ^ 25 := by decide
    simp; omega)
  omega
/-- a choice from a list -/
theorem some_ok {c n : Nat} {ob : Ob} {S : Sto} {xs : List PyData} (hS : S[n]? = some ob) (hb : BagOk c ob) (hc : c + 1 < 2 ^ 1000) (h0 : xs ≠ []) (hx : xs.length ≤ sizeLine) :
    ∃ x ∈ xs, ∃ ob', callF fSome [.loc n, .d (.list xs)] S = some (.d x, S.set n ob') ∧ BagOk (c + 1) ob' := by
  have hp : 0 < xs.length := List.length_pos_iff.mpr h0
  obtain ⟨v, ob', e, v0, v1, hb'⟩ := take_ok (S := [ob]) (n := 0) (upto := xs.length) rfl hb hc (by omega) (size_lg hx)
  obtain ⟨x, hm, ex, _⟩ := atI_nn v0 v1
  refine ⟨x, hm, ob', callF_loc (n := n) rfl (by simp [allLoc]) hS hb.obD (runF_ret1 ?_ hb'.obD) hb'.obD, hb'⟩
  simp only [List.set_cons_zero] at e
  simp [bSome, DL.sSeq, DL.sNil, DL.sPass, DL.sBreak, DL.sCont, DL.sExpr, DL.sRet, DL.sRetN, DL.sIf, DL.sAsg, DL.sPar, DL.sAug, DL.sAugS, DL.gSet, DL.gTupD, DL.gsNil, DL.gsCons, DL.gSubD, DL.sFor, DL.iRng1D_eq, DL.mVar, DL.mC, DL.mNil, DL.mCons, DL.mCall, DL.mBin, DL.mNeg, DL.mMt, DL.mSl, DL.oNo, DL.oYes, DL.tOf, DL.tNotD, DL.tAndD, DL.tOrD, DL.tTru, DL.truD, DL.tTrue, DL.vAnd, DL.vOr, DL.vNot, DL.vIf, DL.vChain, DL.tupF, DL.lstF, DL.allD, DL.ev_add, DL.ev_sub, DL.ev_iadd, DL.ev_isub, DL.ev_lt, DL.ev_gt, DL.ev_le, DL.ev_ge, DL.ev_eq, DL.ev_ne, DL.ev_min, DL.ev_max, DL.ev_int, DL.ev_abs, DL.sz1, DL.sz2, DL.sz3, DL.sz4, DL.sz5, DL.sz6, DL.sz7, DL.sz8, DL.szp, toZero, lenD, on1, len0, e, idxD, ex]
theorem some_okT {c n : Nat} {ob : Ob} {S : Sto} {xs : List PyData} (hS : S[n]? = some ob) (hb : BagOk c ob) (hc : c + 1 < 2 ^ 1000) (h0 : xs ≠ []) (hx : xs.length ≤ sizeLine) :
    ∃ x ∈ xs, ∃ ob', callF fSome [.loc n, .d (.tuple xs)] S = some (.d x, S.set n ob') ∧ BagOk (c + 1) ob' := by
  have hp : 0 < xs.length := List.length_pos_iff.mpr h0
  obtain ⟨v, ob', e, v0, v1, hb'⟩ := take_ok (S := [ob]) (n := 0) (upto := xs.length) rfl hb hc (by omega) (size_lg hx)
  obtain ⟨x, hm, ex, _⟩ := atI_nn v0 v1
  refine ⟨x, hm, ob', callF_loc (n := n) rfl (by simp [allLoc]) hS hb.obD (runF_ret1 ?_ hb'.obD) hb'.obD, hb'⟩
  simp only [List.set_cons_zero] at e
  simp [bSome, DL.sSeq, DL.sNil, DL.sPass, DL.sBreak, DL.sCont, DL.sExpr, DL.sRet, DL.sRetN, DL.sIf, DL.sAsg, DL.sPar, DL.sAug, DL.sAugS, DL.gSet, DL.gTupD, DL.gsNil, DL.gsCons, DL.gSubD, DL.sFor, DL.iRng1D_eq, DL.mVar, DL.mC, DL.mNil, DL.mCons, DL.mCall, DL.mBin, DL.mNeg, DL.mMt, DL.mSl, DL.oNo, DL.oYes, DL.tOf, DL.tNotD, DL.tAndD, DL.tOrD, DL.tTru, DL.truD, DL.tTrue, DL.vAnd, DL.vOr, DL.vNot, DL.vIf, DL.vChain, DL.tupF, DL.lstF, DL.allD, DL.ev_add, DL.ev_sub, DL.ev_iadd, DL.ev_isub, DL.ev_lt, DL.ev_gt, DL.ev_le, DL.ev_ge, DL.ev_eq, DL.ev_ne, DL.ev_min, DL.ev_max, DL.ev_int, DL.ev_abs, DL.sz1, DL.sz2, DL.sz3, DL.sz4, DL.sz5, DL.sz6, DL.sz7, DL.sz8, DL.szp, toZero, lenD, on1, len0, e, idxD, ex]
theorem allD_flat (rows : List (List PyData)) : allD (rows.map (List.map W.d)).flatten = some rows.flatten := by
  rw [← List.map_flatten]; exact allD_map _
/-- rows in one -/
theorem flat_ok (rows : List (List PyData)) (h : rows.flatten.length ≤ sizeLine) (S : Sto) : callF fFlat [.d (.list (rows.map .list))] S = some (.d (.list rows.flatten), S) := by
  refine callF_pure rfl (runF_ret0 ?_)
  obtain ⟨ρ', S', e, x, rfl, rfl⟩ := forL_J (g := gSet 2) (F := sExpr (mMt extendF (mVar 1) (mCons (mVar 2) (mNil)))) (ws := (rows.map PyData.list).map W.d) (k := 0)
    (J := fun i ρ S => ∃ x, ρ = [some (.d (.list (rows.map .list))), some (.loc 0), x] ∧ S = [.lst ((rows.take i).flatten.map W.d)]) (ρ := [some (.d (.list (rows.map .list))), some (.loc 0), none]) (S := [.lst []]) (fun i w ρ S hw ⟨x, e1, e2⟩ => by
      subst e1 e2
      simp only [List.getElem?_map, Option.map_eq_some_iff, Nat.zero_add] at hw ⊢
      obtain ⟨_, ⟨r, hr, rfl⟩, rfl⟩ := hw
      have hi := (List.getElem?_eq_some_iff.mp hr).1
      have ht : rows.take (i + 1) = rows.take i ++ [r] := by rw [List.take_succ, hr]; rfl
      have hlen : ((rows.take i).flatten.map W.d).length + r.length ≤ sizeLine := by
        have h1 : (rows.take (i + 1)).flatten.length ≤ rows.flatten.length := by
          conv => rhs; rw [← List.take_append_drop (i + 1) rows, List.flatten_append, List.length_append]
          omega
        rw [ht, List.flatten_append, List.length_append] at h1
        have h2 : [r].flatten.length = r.length := by simp
        rw [List.length_map]; omega
      rw [ht]
      simp [DL.sSeq, DL.sNil, DL.sPass, DL.sBreak, DL.sCont, DL.sExpr, DL.sRet, DL.sRetN, DL.sIf, DL.sAsg, DL.sPar, DL.sAug, DL.sAugS, DL.gSet, DL.gTupD, DL.gsNil, DL.gsCons, DL.gSubD, DL.sFor, DL.iRng1D_eq, DL.mVar, DL.mC, DL.mNil, DL.mCons, DL.mCall, DL.mBin, DL.mNeg, DL.mMt, DL.mSl, DL.oNo, DL.oYes, DL.tOf, DL.tNotD, DL.tAndD, DL.tOrD, DL.tTru, DL.truD, DL.tTrue, DL.vAnd, DL.vOr, DL.vNot, DL.vIf, DL.vChain, DL.tupF, DL.lstF, DL.allD, DL.ev_add, DL.ev_sub, DL.ev_iadd, DL.ev_isub, DL.ev_lt, DL.ev_gt, DL.ev_le, DL.ev_ge, DL.ev_eq, DL.ev_ne, DL.ev_min, DL.ev_max, DL.ev_int, DL.ev_abs, DL.sz1, DL.sz2, DL.sz3, DL.sz4, DL.sz5, DL.sz6, DL.sz7, DL.sz8, DL.szp, isLst, extendF, onL, deref] at hlen ⊢
      simp [hlen]) ⟨none, by simp, by simp⟩
  simp only [Nat.zero_add, List.length_map] at e ⊢
  simp at e
  simp [bFlat, DL.sSeq, DL.sNil, DL.sPass, DL.sBreak, DL.sCont, DL.sExpr, DL.sRet, DL.sRetN, DL.sIf, DL.sAsg, DL.sPar, DL.sAug, DL.sAugS, DL.gSet, DL.gTupD, DL.gsNil, DL.gsCons, DL.gSubD, DL.sFor, DL.iRng1D_eq, DL.mVar, DL.mC, DL.mNil, DL.mCons, DL.mCall, DL.mBin, DL.mNeg, DL.mMt, DL.mSl, DL.oNo, DL.oYes, DL.tOf, DL.tNotD, DL.tAndD, DL.tOrD, DL.tTru, DL.truD, DL.tTrue, DL.vAnd, DL.vOr, DL.vNot, DL.vIf, DL.vChain, DL.tupF, DL.lstF, DL.allD, DL.ev_add, DL.ev_sub, DL.ev_iadd, DL.ev_isub, DL.ev_lt, DL.ev_gt, DL.ev_le, DL.ev_ge, DL.ev_eq, DL.ev_ne, DL.ev_min, DL.ev_max, DL.ev_int, DL.ev_abs, DL.sz1, DL.sz2, DL.sz3, DL.sz4, DL.sz5, DL.sz6, DL.sz7, DL.sz8, DL.szp, lstB, iSeq, mFrz, e, allD_flat]
/-- what the mixing makes of a list: the same things -/
theorem mix_step {c : Nat} {ob : Ob} {acc : List PyData} {x : PyData} {y : Option W} {xs : List PyData} (hb : BagOk c ob) (hc : c + 1 < 2 ^ 1000) (hl : acc.length < sizeLine) :
    ∃ ρ2 S2, ((gSet 3 (.d x) [some (.loc 0), some (.d (.list xs)), some (.loc 1), y] [ob, .lst (acc.map W.d)]).bind fun p => sExpr (mMt insertF (mVar 2) (mCons (mCall (callF fTake) (mCons (mVar 0) (mCons (mBin addA (mCall lenD (mCons (mVar 2) (mNil))) (mC (.int 1))) (mNil)))) (mCons (mVar 3) (mNil)))) p.1 p.2) = some (.nx, ρ2, S2) ∧
    ∃ y ob', ∃ acc' : List PyData, ρ2 = [some (.loc 0), some (.d (.list xs)), some (.loc 1), y] ∧ S2 = [ob', .lst (acc'.map W.d)] ∧ BagOk (c + 1) ob' ∧ acc'.Perm (x :: acc) := by
  obtain ⟨v, ob', e, v0, v1, hb'⟩ := take_ok (S := [ob, .lst (acc.map W.d)]) (n := 0) (upto := (acc.length : Int) + 1) rfl hb hc (by omega) (by have := size_lg (n := acc.length + 1) (by omega); simpa using this)
  refine ⟨[some (.loc 0), some (.d (.list xs)), some (.loc 1), some (.d x)], [ob', .lst ((acc.take v.toNat ++ [x] ++ acc.drop v.toNat).map W.d)], ?_, some (.d x), ob', _, rfl, rfl, hb', ?_⟩
  · have hv : (acc.map W.d).length < sizeLine ∧ 0 ≤ v ∧ v < 2 ^ 63 := by
      refine ⟨by rw [List.length_map]; exact hl, v0, ?_⟩
      have : sizeLine < 2 ^ 62 := by decide
      omega
    have hg : ∀ S, insertF (.loc 1) [.d (.int v), .d x] [ob', .lst (acc.map W.d)] = some (.d .none, S) ↔ S = [ob', .lst ((acc.take v.toNat ++ [x] ++ acc.drop v.toNat).map W.d)] := fun S => by
      simp only [insertF, onL]
      simp only [List.getElem?_cons_succ, List.getElem?_cons_zero, if_pos hv]
      simp [eq_comm]
    have hg' := (hg _).mpr rfl
    simp only [List.set_cons_zero] at e
    simp [DL.sSeq, DL.sNil, DL.sPass, DL.sBreak, DL.sCont, DL.sExpr, DL.sRet, DL.sRetN, DL.sIf, DL.sAsg, DL.sPar, DL.sAug, DL.sAugS, DL.gSet, DL.gTupD, DL.gsNil, DL.gsCons, DL.gSubD, DL.sFor, DL.iRng1D_eq, DL.mVar, DL.mC, DL.mNil, DL.mCons, DL.mCall, DL.mBin, DL.mNeg, DL.mMt, DL.mSl, DL.oNo, DL.oYes, DL.tOf, DL.tNotD, DL.tAndD, DL.tOrD, DL.tTru, DL.truD, DL.tTrue, DL.vAnd, DL.vOr, DL.vNot, DL.vIf, DL.vChain, DL.tupF, DL.lstF, DL.allD, DL.ev_add, DL.ev_sub, DL.ev_iadd, DL.ev_isub, DL.ev_lt, DL.ev_gt, DL.ev_le, DL.ev_ge, DL.ev_eq, DL.ev_ne, DL.ev_min, DL.ev_max, DL.ev_int, DL.ev_abs, DL.sz1, DL.sz2, DL.sz3, DL.sz4, DL.sz5, DL.sz6, DL.sz7, DL.sz8, DL.szp, isLst, lenD, on1, len0, e]
    simp at hg'
    rw [hg']
    rfl
  · have : (acc.take v.toNat ++ [x] ++ acc.drop v.toNat).Perm (x :: (acc.take v.toNat ++ acc.drop v.toNat)) := by
      rw [List.append_assoc]
      exact List.perm_middle
    rwa [List.take_append_drop] at this
theorem mixed_ok {c n : Nat} {ob : Ob} {S : Sto} {xs : List PyData} (hS : S[n]? = some ob) (hb : BagOk c ob) (hc : c + xs.length < 2 ^ 1000) (hx : xs.length ≤ sizeLine) :
    ∃ ys ob', callF fMixed [.loc n, .d (.list xs)] S = some (.d (.list ys), S.set n ob') ∧ ys.Perm xs ∧ BagOk (c + xs.length) ob' := by
  obtain ⟨ρ', S', e, y, ob', acc, rfl, rfl, hb', hp⟩ := forL_J (g := gSet 3) (F := sExpr (mMt insertF (mVar 2) (mCons (mCall (callF fTake) (mCons (mVar 0) (mCons (mBin addA (mCall lenD (mCons (mVar 2) (mNil))) (mC (.int 1))) (mNil)))) (mCons (mVar 3) (mNil))))) (ws := xs.map W.d) (k := 0)
    (J := fun i ρ S => ∃ y ob', ∃ acc : List PyData, ρ = [some (.loc 0), some (.d (.list xs)), some (.loc 1), y] ∧ S = [ob', .lst (acc.map W.d)] ∧ BagOk (c + i) ob' ∧ acc.Perm (xs.take i)) (ρ := [some (.loc 0), some (.d (.list xs)), some (.loc 1), none]) (S := [ob, .lst []]) (fun i w ρ S hw ⟨y, ob', acc, e1, e2, hb', hp⟩ => by
      subst e1 e2
      simp only [List.getElem?_map, Option.map_eq_some_iff, Nat.zero_add] at hw hb' hp ⊢
      obtain ⟨x, hx', rfl⟩ := hw
      have hi := (List.getElem?_eq_some_iff.mp hx').1
      have hl := hp.length_eq
      rw [List.length_take] at hl
      obtain ⟨ρ2, S2, e, y2, ob2, acc2, h1, h2, h3, h4⟩ := mix_step (x := x) (y := y) (xs := xs) hb' (by omega) (acc := acc) (by omega)
      refine ⟨ρ2, S2, e, y2, ob2, acc2, h1, h2, h3, h4.trans ?_⟩
      rw [List.take_succ, hx']
      exact (List.Perm.cons x hp).trans (List.perm_append_comm (l₁ := [x]))) ⟨none, ob, [], rfl, rfl, hb, by simp⟩
  simp only [Nat.zero_add, List.length_map] at e hb' hp
  rw [List.take_length] at hp
  refine ⟨acc, ob', callF_loc (n := n) rfl (by simp [allLoc]) hS hb.obD (runF_ret1 ?_ hb'.obD) hb'.obD, hp, hb'⟩
  simp [bMixed, DL.sSeq, DL.sNil, DL.sPass, DL.sBreak, DL.sCont, DL.sExpr, DL.sRet, DL.sRetN, DL.sIf, DL.sAsg, DL.sPar, DL.sAug, DL.sAugS, DL.gSet, DL.gTupD, DL.gsNil, DL.gsCons, DL.gSubD, DL.sFor, DL.iRng1D_eq, DL.mVar, DL.mC, DL.mNil, DL.mCons, DL.mCall, DL.mBin, DL.mNeg, DL.mMt, DL.mSl, DL.oNo, DL.oYes, DL.tOf, DL.tNotD, DL.tAndD, DL.tOrD, DL.tTru, DL.truD, DL.tTrue, DL.vAnd, DL.vOr, DL.vNot, DL.vIf, DL.vChain, DL.tupF, DL.lstF, DL.allD, DL.ev_add, DL.ev_sub, DL.ev_iadd, DL.ev_isub, DL.ev_lt, DL.ev_gt, DL.ev_le, DL.ev_ge, DL.ev_eq, DL.ev_ne, DL.ev_min, DL.ev_max, DL.ev_int, DL.ev_abs, DL.sz1, DL.sz2, DL.sz3, DL.sz4, DL.sz5, DL.sz6, DL.sz7, DL.sz8, DL.szp, lstB, iSeq, mFrz, toZero, e, allD_map]
/-! ### comprehensions that change nothing -/
theorem lcL_fm {g : MG} {T : MT} {E : ME} {vs : List Nat} {ρ : DEnv} {S : Sto} {P : W → Bool} {F : W → W} : ∀ {ws : List W}, (∀ w ∈ ws, ∃ ρ1, g w (wipeD ρ vs) S = some (ρ1, S) ∧ T ρ1 S = some (P w, S) ∧ (P w = true → E ρ1 S = some (F w, S))) → lcL g T E vs ρ ws S = some ((ws.filter P).map F, S)
  | [], _ => rfl
  | w :: ws, h => by
    obtain ⟨ρ1, e1, e2, e3⟩ := h w (by simp)
    have ih := lcL_fm (ws := ws) fun w hw => h w (by simp [hw])
    cases hP : P w with
    | true => simp [lcL, e1, e2, hP, e3 hP, ih]
    | false => simp [lcL, e1, e2, hP, ih]
/-- [F(x) for x in ds if P(x)] -/
theorem lc_d {it : MI} {g : MG} {T : MT} {E : ME} {vs : List Nat} {ρ : DEnv} {S : Sto} {ds : List PyData} (P : PyData → Bool) (F : PyData → PyData) (hi : it ρ S = some (ds.map W.d, S))
    (h : ∀ x ∈ ds, ∃ ρ1, g (.d x) (wipeD ρ vs) S = some (ρ1, S) ∧ T ρ1 S = some (P x, S) ∧ (P x = true → E ρ1 S = some (.d (F x), S))) (hl : ds.length ≤ sizeLine) : mLc it g T E vs kFrz ρ S = some (.d (.list ((ds.filter P).map F)), S) := by
  have e : lcL g T E vs ρ (ds.map W.d) S = some (((ds.filter P).map F).map W.d, S) := by
    rw [lcL_fm (P := fun w => match w with | .d x => P x | _ => false) (F := fun w => match w with | .d x => .d (F x) | w => w)]
    · rw [List.filter_map, List.map_map, List.map_map]; rfl
    · intro w hw
      obtain ⟨x, hx, rfl⟩ := List.mem_map.mp hw
      exact h x hx
  have hk : ((ds.filter P).map F).length ≤ sizeLine := by
    rw [List.length_map]; exact Nat.le_trans (List.length_filter_le _ _) hl
  simp only [mLc, hi, Option.bind_some, e, kFrz, allD_map, if_pos hk]
theorem lc_all {it : MI} {g : MG} {E : ME} {vs : List Nat} {ρ : DEnv} {S : Sto} {ds : List PyData} (F : PyData → PyData) (hi : it ρ S = some (ds.map W.d, S))
    (h : ∀ x ∈ ds, ∃ ρ1, g (.d x) (wipeD ρ vs) S = some (ρ1, S) ∧ E ρ1 S = some (.d (F x), S)) (hl : ds.length ≤ sizeLine) : mLc it g tTrue E vs kFrz ρ S = some (.d (.list (ds.map F)), S) := by
  have := lc_d (T := tTrue) (E := E) (fun _ => true) F hi (fun x hx => by
    obtain ⟨ρ1, e1, e2⟩ := h x hx
    exact ⟨ρ1, e1, rfl, fun _ => e2⟩) hl
  rwa [List.filter_eq_self.mpr (fun _ _ => rfl)] at this
/-- the bag -/
theorem bag_ok (ns : List Int) (S : Sto) : ∃ ob, callF fBag [.d (.list (ns.map .int))] S = some (.loc S.length, S ++ [ob]) ∧ BagOk 0 ob := by
  have hl : ((cutD (ns.map PyData.int) none (some 63)).length) ≤ 63 := by
    unfold cutD; rw [List.length_take]
    have : HT.sIx (ns.map PyData.int).length (ns.map PyData.int).length (some 63) ≤ 63 := by
      have e := HT.sIx_nat (ns.map PyData.int).length (ns.map PyData.int).length 63
      have e' : ((63 : Nat) : Int) = 63 := rfl
      rw [e'] at e; rw [e]; exact Nat.min_le_left _ _
    omega
  have hm : ∀ x ∈ cutD (ns.map PyData.int) none (some 63), ∃ n : Int, x = .int n := by
    intro x hx
    unfold cutD at hx
    have := List.mem_of_mem_drop (List.mem_of_mem_take hx)
    obtain ⟨n, _, rfl⟩ := List.mem_map.mp this
    exact ⟨n, rfl⟩
  generalize hc : cutD (ns.map PyData.int) none (some 63) = cs at hl hm
  have e := lc_all (it := iSeq (mSl (mVar 0) (oNo) (oYes (mC (.int 63))))) (g := gSet 1) (E := mCall absD (mCons (mVar 1) (mNil))) (vs := [1]) (ρ := [some (.d (.list (ns.map .int))), none]) (S := []) (ds := cs)
    (fun x => match x with | .int i => .int (i.natAbs : Int) | x => x) (by simp [DL.sSeq, DL.sNil, DL.sPass, DL.sBreak, DL.sCont, DL.sExpr, DL.sRet, DL.sRetN, DL.sIf, DL.sAsg, DL.sPar, DL.sAug, DL.sAugS, DL.gSet, DL.gTupD, DL.gsNil, DL.gsCons, DL.gSubD, DL.sFor, DL.iRng1D_eq, DL.mVar, DL.mC, DL.mNil, DL.mCons, DL.mCall, DL.mBin, DL.mNeg, DL.mMt, DL.mSl, DL.oNo, DL.oYes, DL.tOf, DL.tNotD, DL.tAndD, DL.tOrD, DL.tTru, DL.truD, DL.tTrue, DL.vAnd, DL.vOr, DL.vNot, DL.vIf, DL.vChain, DL.tupF, DL.lstF, DL.allD, DL.ev_add, DL.ev_sub, DL.ev_iadd, DL.ev_isub, DL.ev_lt, DL.ev_gt, DL.ev_le, DL.ev_ge, DL.ev_eq, DL.ev_ne, DL.ev_min, DL.ev_max, DL.ev_int, DL.ev_abs, DL.sz1, DL.sz2, DL.sz3, DL.sz4, DL.sz5, DL.sz6, DL.sz7, DL.sz8, DL.szp, iSeq, sliceD, hc]) (fun x hx => by
      obtain ⟨n, rfl⟩ := hm x hx
      exact ⟨[some (.d (.list (ns.map .int))), some (.d (.int n))], by simp [DL.sSeq, DL.sNil, DL.sPass, DL.sBreak, DL.sCont, DL.sExpr, DL.sRet, DL.sRetN, DL.sIf, DL.sAsg, DL.sPar, DL.sAug, DL.sAugS, DL.gSet, DL.gTupD, DL.gsNil, DL.gsCons, DL.gSubD, DL.sFor, DL.iRng1D_eq, DL.mVar, DL.mC, DL.mNil, DL.mCons, DL.mCall, DL.mBin, DL.mNeg, DL.mMt, DL.mSl, DL.oNo, DL.oYes, DL.tOf, DL.tNotD, DL.tAndD, DL.tOrD, DL.tTru, DL.truD, DL.tTrue, DL.vAnd, DL.vOr, DL.vNot, DL.vIf, DL.vChain, DL.tupF, DL.lstF, DL.allD, DL.ev_add, DL.ev_sub, DL.ev_iadd, DL.ev_isub, DL.ev_lt, DL.ev_gt, DL.ev_le, DL.ev_ge, DL.ev_eq, DL.ev_ne, DL.ev_min, DL.ev_max, DL.ev_int, DL.ev_abs, DL.sz1, DL.sz2, DL.sz3, DL.sz4, DL.sz5, DL.sz6, DL.sz7, DL.sz8, DL.szp, wipeD], by simp [DL.sSeq, DL.sNil, DL.sPass, DL.sBreak, DL.sCont, DL.sExpr, DL.sRet, DL.sRetN, DL.sIf, DL.sAsg, DL.sPar, DL.sAug, DL.sAugS, DL.gSet, DL.gTupD, DL.gsNil, DL.gsCons, DL.gSubD, DL.sFor, DL.iRng1D_eq, DL.mVar, DL.mC, DL.mNil, DL.mCons, DL.mCall, DL.mBin, DL.mNeg, DL.mMt, DL.mSl, DL.oNo, DL.oYes, DL.tOf, DL.tNotD, DL.tAndD, DL.tOrD, DL.tTru, DL.truD, DL.tTrue, DL.vAnd, DL.vOr, DL.vNot, DL.vIf, DL.vChain, DL.tupF, DL.lstF, DL.allD, DL.ev_add, DL.ev_sub, DL.ev_iadd, DL.ev_isub, DL.ev_lt, DL.ev_gt, DL.ev_le, DL.ev_ge, DL.ev_eq, DL.ev_ne, DL.ev_min, DL.ev_max, DL.ev_int, DL.ev_abs, DL.sz1, DL.sz2, DL.sz3, DL.sz4, DL.sz5, DL.sz6, DL.sz7, DL.sz8, DL.szp]⟩) (by
      have : 63 ≤ sizeLine := by decide
      omega)
  have hq : ∃ cells : List Nat, cs.map (fun x => match x with | .int i => PyData.int (i.natAbs : Int) | x => x) = cells.map (fun c => .int (c : Nat)) ∧ cells.length = cs.length := by
    clear e hl hc
    induction cs with
    | nil => exact ⟨[], rfl, rfl⟩
    | cons x cs ih =>
      obtain ⟨n, rfl⟩ := hm x (by simp)
      obtain ⟨cells, e1, e2⟩ := ih fun y hy => hm y (by simp [hy])
      exact ⟨n.natAbs :: cells, by rw [List.map_cons, e1]; rfl, by simp [e2]⟩
  obtain ⟨cells, e1, e2⟩ := hq
  rw [e1] at e
  have hb : BagOk 0 (bagOf 0 1234567891 0 cells) := ⟨0, 1234567891, 0, cells, rfl, by decide, by omega, by omega⟩
  refine ⟨_, ?_, hb⟩
  have hr : fBag [.d (.list (ns.map .int))] [] = some (.loc 0, [bagOf 0 1234567891 0 cells]) := by
    have ho := hb.obD
    simp [fBag, runF, bBag, DL.sSeq, DL.sNil, DL.sPass, DL.sBreak, DL.sCont, DL.sExpr, DL.sRet, DL.sRetN, DL.sIf, DL.sAsg, DL.sPar, DL.sAug, DL.sAugS, DL.gSet, DL.gTupD, DL.gsNil, DL.gsCons, DL.gSubD, DL.sFor, DL.iRng1D_eq, DL.mVar, DL.mC, DL.mNil, DL.mCons, DL.mCall, DL.mBin, DL.mNeg, DL.mMt, DL.mSl, DL.oNo, DL.oYes, DL.tOf, DL.tNotD, DL.tAndD, DL.tOrD, DL.tTru, DL.truD, DL.tTrue, DL.vAnd, DL.vOr, DL.vNot, DL.vIf, DL.vChain, DL.tupF, DL.lstF, DL.allD, DL.ev_add, DL.ev_sub, DL.ev_iadd, DL.ev_isub, DL.ev_lt, DL.ev_gt, DL.ev_le, DL.ev_ge, DL.ev_eq, DL.ev_ne, DL.ev_min, DL.ev_max, DL.ev_int, DL.ev_abs, DL.sz1, DL.sz2, DL.sz3, DL.sz4, DL.sz5, DL.sz6, DL.sz7, DL.sz8, DL.szp, e, lstB, leave]
    simp [bagOf] at ho ⊢
    exact ho
  simp [callF, firstLoc, hr, hb.obD]
end DL
end
noncomputable section
namespace DL
open PySem PySem.Spec PyProof.Rows L2 DL
theorem perm_map_ex {α β : Type} {f : α → β} : ∀ {l : List α} {m : List β}, m.Perm (l.map f) → ∃ r : List α, r.Perm l ∧ m = r.map f
  | [], m, h => ⟨[], .refl _, by simpa using h.eq_nil⟩
  | a :: l, m, h => by
    have : f a ∈ m := h.symm.subset (by simp)
    obtain ⟨m1, m2, rfl⟩ := List.append_of_mem this
    have h2 : (m1 ++ m2).Perm (l.map f) := (List.perm_middle.symm.trans h).cons_inv
    obtain ⟨r, hr, e⟩ := perm_map_ex h2
    obtain ⟨r1, r2, rfl, rfl, rfl⟩ := List.map_eq_append_iff.mp e.symm
    exact ⟨r1 ++ a :: r2, List.perm_middle.trans (hr.cons a), by simp⟩
theorem ofPs_map {α : Type} {enc : α → PyData} {encC : α → Cd} : ∀ {l : List α}, (∀ a ∈ l, ofP (enc a) = some (encC a)) → ofPs (l.map enc) = some (l.map encC)
  | [], _ => rfl
  | a :: l, h => by
    simp only [List.map_cons, ofPs, h a (by simp), Option.bind_some, ofPs_map (l := l) fun b hb => h b (by simp [hb]), Option.map_some]
/-- sorted, of things that are coded as tuples -/
theorem sort_gen {α : Type} {enc : α → PyData} {encC : α → Cd} {l : List α} {S : Sto} {w : W} (hE : ∀ a ∈ l, ofP (enc a) = some (encC a)) (hT : ∀ a ∈ l, isTupNE (encC a) = true ∧ (enc a).depth ≤ 60) (hK : ∀ a ∈ l, ∀ b ∈ l, kindC (encC a) (encC b) = true) (hd : deref S w = some (.list (l.map enc))) :
    ∃ r : List α, r.Perm l ∧ sortedD [w] S = some (.d (.list (r.map enc)), S) := by
  have hs : sortable (l.map encC) = true := by
    simp only [sortable, Bool.and_eq_true, List.all_eq_true, List.mem_map, decide_eq_true_eq]
    refine ⟨?_, ?_⟩
    · rintro _ ⟨a, ha, rfl⟩
      have := hT a ha
      rw [ofP_eq _ _ (hE a ha)] at this
      exact this
    · rintro _ ⟨a, ha, rfl⟩ _ ⟨b, hb, rfl⟩
      exact hK a ha b hb
  obtain ⟨r, hr, e⟩ := perm_map_ex (sortC_perm (l.map encC))
  refine ⟨r, hr, ?_⟩
  have he : toPs (sortC (l.map encC)) = r.map enc := by
    rw [e, toPs_map, List.map_map]
    refine List.map_congr_left fun a ha => ?_
    exact (ofP_eq _ _ (hE a (hr.subset ha))).symm
  simp only [sortedD, on1, hd, Option.bind_some, ofPs_map hE, hs, if_true, he]
/-- a tuple of whole numbers -/
def tI (l : List Int) : PyData := .tuple (l.map .int)
def cI (l : List Int) : Cd := .tup (l.map .int)
theorem ofP_tI (l : List Int) : ofP (tI l) = some (cI l) := by
  simp only [tI, cI, ofP]
  rw [ofPs_map (encC := Cd.int) (fun a _ => by simp [ofP])]; rfl
theorem kind_ints : ∀ (a b : List Int), kindCs (a.map .int) (b.map .int) = true
  | [], _ => by simp [kindCs]
  | _ :: _, [] => by simp [kindCs]
  | x :: a, y :: b => by simp [kindCs, kindC, kind_ints a b]
theorem kind_cI (a b : List Int) : kindC (cI a) (cI b) = true := by simp only [cI, kindC]; exact kind_ints a b
theorem dep_ints (l : List Int) : PyData.depthAll (l.map .int) = 0 := by
  induction l with
  | nil => rfl
  | cons a l ih => simp [PyData.depthAll, PyData.depth, ih]
theorem dep_tI (l : List Int) : (tI l).depth = 1 := by simp [tI, PyData.depth, dep_ints]
theorem lay_ints (l : List Int) : PyData.canLayAll0 (l.map .int) = true := by
  induction l with
  | nil => rfl
  | cons a l ih => simp [PyData.canLayAll0, PyData.canLay0, ih]
theorem shaped_tI (l : List Int) : SeqAt.shaped (tI l) = true := by
  simp [SeqAt.shaped, dep_tI]; simp [tI, PyData.canLay0, lay_ints]
theorem eqv_ints : ∀ (a b : List Int), PyData.eqvAll (a.map .int) (b.map .int) = decide (a = b)
  | [], [] => by simp [PyData.eqvAll]
  | [], _ :: _ => by simp [PyData.eqvAll]
  | _ :: _, [] => by simp [PyData.eqvAll]
  | x :: a, y :: b => by
    simp only [List.map_cons, PyData.eqvAll, PyData.eqv, eqv_ints a b]
    by_cases h : x = y <;> by_cases h2 : a = b <;> simp [h, h2]
theorem eqv_tI (a b : List Int) : PyData.eqv (tI a) (tI b) = decide (a = b) := by simp only [tI, PyData.eqv]; exact eqv_ints a b
theorem eq_tI (a b : List Int) (S : Sto) : eqA false (.d (tI a)) (.d (tI b)) S = some (.d (.bool (decide (a = b))), S) := by
  have h1 := shaped_tI a; have h2 := shaped_tI b; have h3 := eqv_tI a b
  simp only [tI] at *
  simp [eqA, eqD, deref, h1, h2, h3]
theorem ne_tI (a b : List Int) (S : Sto) : eqA true (.d (tI a)) (.d (tI b)) S = some (.d (.bool (!decide (a = b))), S) := by
  have h1 := shaped_tI a; have h2 := shaped_tI b; have h3 := eqv_tI a b
  simp only [tI] at *
  simp [eqA, eqD, deref, h1, h2, h3]
theorem sort_tI {l : List (List Int)} {S : Sto} {w : W} (h0 : ∀ a ∈ l, a ≠ []) (hd : deref S w = some (.list (l.map tI))) : ∃ r : List (List Int), r.Perm l ∧ sortedD [w] S = some (.d (.list (r.map tI)), S) :=
  sort_gen (encC := cI) (fun a _ => ofP_tI a) (fun a ha => ⟨by
    cases a with
    | nil => exact absurd rfl (h0 _ ha)
    | cons x a => rfl, by rw [dep_tI]; decide⟩) (fun a _ b _ => kind_cI a b) hd
/-- a comprehension over things that are coded -/
theorem lcL_e {α : Type} {g : MG} {T : MT} {E : ME} {vs : List Nat} {ρ : DEnv} {S : Sto} (enc : α → PyData) (P : α → Bool) (F : α → PyData) : ∀ {l : List α}, (∀ a ∈ l, ∃ ρ1, g (.d (enc a)) (wipeD ρ vs) S = some (ρ1, S) ∧ T ρ1 S = some (P a, S) ∧ (P a = true → E ρ1 S = some (.d (F a), S))) →
    lcL g T E vs ρ ((l.map enc).map W.d) S = some ((((l.filter P).map F).map W.d), S)
  | [], _ => rfl
  | a :: l, h => by
    obtain ⟨ρ1, e1, e2, e3⟩ := h a (by simp)
    have ih := lcL_e enc P F (l := l) fun w hw => h w (by simp [hw])
    cases hP : P a with
    | true => simp only [List.map_cons, lcL, e1, e2, hP, e3 hP, ih, Option.bind_some, if_true, List.filter_cons]
    | false => simp only [List.map_cons, lcL, e1, e2, hP, ih, Option.bind_some, List.filter_cons, Bool.false_eq_true, if_false]
theorem lc_e {α : Type} {it : MI} {g : MG} {T : MT} {E : ME} {vs : List Nat} {ρ : DEnv} {S : Sto} {l : List α} (enc : α → PyData) (P : α → Bool) (F : α → PyData) (hi : it ρ S = some ((l.map enc).map W.d, S))
    (h : ∀ a ∈ l, ∃ ρ1, g (.d (enc a)) (wipeD ρ vs) S = some (ρ1, S) ∧ T ρ1 S = some (P a, S) ∧ (P a = true → E ρ1 S = some (.d (F a), S))) (hl : (l.filter P).length ≤ sizeLine) : mLc it g T E vs kFrz ρ S = some (.d (.list ((l.filter P).map F)), S) := by
  have hk : ((l.filter P).map F).length ≤ sizeLine := by rw [List.length_map]; exact hl
  simp only [mLc, hi, Option.bind_some, lcL_e enc P F h, kFrz, allD_map, if_pos hk]
end DL
end
noncomputable section
namespace DL
open PySem PySem.Spec PyProof.Rows L2
def FrD (D : Addr) (m : List Addr) (H H' : Hp) : Prop := ∀ a o, H a = some o → a ≠ D → (a ∉ m ∨ Imm o) → H' a = some o
section
variable {K : PySem.W.Frag} {m e2 ext : List Addr} {S S2 S5 : Sto} {ρ ρ5 : DEnv} {σ σ5 : L2.St} {B H H' H2 H5 : Hp} {D : Addr}
theorem FrD.kp (f : FrD D m B H') (hD : ∀ o, B D = some o → ¬ Imm o) : Kp B H' := fun a o h i => by
  by_cases e : a = D
  · subst e; exact absurd i (hD o h)
  · exact f a o h e (.inr i)
theorem Fr.toD (f : Fr m H H') : FrD D m H H' := fun a o h _ c => f a o h c
theorem FrD.trans (f : FrD D m B H') (fr : Fresh e2 B) (g : FrD D (m ++ e2) H' H5) : FrD D m B H5 := fun a o h n c => by
  refine g a o (f a o h n c) n ?_
  rcases c with c | c
  · refine .inl fun z => ?_
    rcases List.mem_append.mp z with z | z
    · exact c z
    · rw [fr a z] at h; cases h
  · exact .inr c
theorem step_sim (f2 : Fresh e2 B) (q3 : Sim K (m ++ e2) S2 ρ σ H') (fr2 : FrD D m B H') (kp : ∀ a o, H' a = some o → H2 a = some o) (n2 : D ∉ m ++ e2) (hD2 : ∃ xs, H2 D = some (.lst xs)) (f5 : Fresh ext H2) (q6 : Sim K (m ++ e2 ++ ext) S5 ρ5 σ5 H5) (fr5 : FrD D (m ++ e2) H2 H5) :
    Sim K (m ++ (e2 ++ ext)) S5 ρ σ H5 ∧ Fresh (e2 ++ ext) B ∧ FrD D m B H5 ∧ D ∉ m ++ (e2 ++ ext) ∧ Kp H' H5 := by
  obtain ⟨xs, hD2⟩ := hD2
  have nd : ∀ o, H2 D = some o → ¬ Imm o := fun o h i => by rw [hD2] at h; cases h; exact i
  have k5 : Kp H' H5 := fun a o h i => fr5.kp nd a o (kp a o h) i
  have q4 := q3.same kp
  have nde : D ∉ ext := fun z => by rw [f5 D z] at hD2; cases hD2
  refine ⟨⟨fun j w' ej => ?_, by rw [← List.append_assoc]; exact q6.len, by rw [← List.append_assoc]; exact q6.nd, by rw [← List.append_assoc]; exact q6.obs, q3.rl⟩, ?_, fun a o h n c => ?_, ?_, k5⟩
  · obtain ⟨v, hv, rv⟩ := q3.slot j w' ej
    refine ⟨v, hv, ?_⟩
    rw [← List.append_assoc]
    exact rv.mono k5
  · intro a ha
    rcases List.mem_append.mp ha with z | z
    · exact f2 a z
    · have h2 := f5 a z
      have nD' : a ≠ D := fun w => nde (w ▸ z)
      cases z3 : B a with
      | none => rfl
      | some o =>
        by_cases c : a ∉ m ∨ Imm o
        · have := kp a o (fr2 a o z3 nD' c)
          rw [h2] at this; cases this
        · have am : a ∈ m := Classical.byContradiction fun w => c (.inl w)
          obtain ⟨o', ho⟩ := q4.mem (List.mem_append_left e2 am)
          rw [h2] at ho; cases ho
  · have h1 := fr2 a o h n c
    refine fr5 a o (kp a o h1) n ?_
    rcases c with c | c
    · refine .inl fun z => ?_
      rcases List.mem_append.mp z with z | z
      · exact c z
      · rw [f2 a z] at h; cases h
    · exact .inr c
  · intro z
    rcases List.mem_append.mp z with z | z
    · exact n2 (List.mem_append_left _ z)
    · rcases List.mem_append.mp z with z | z
      · exact n2 (List.mem_append_right _ z)
      · exact nde z
end
section
variable {K : PySem.W.Frag} {g g1 : MG} {T T1 : MT} {E : ME} {it it1 : MI} {vs vs1 : List Nat} {m : List Addr} {S S9 : Sto} {ρ : DEnv} {σ : L2.St} {B H : Hp} {D : Addr} {zs0 : List V} {acc0 r ws : List W} {J : It} {k : List W → Sto → Option (W × Sto)} {Q : VK}
/-- the loop of a clause: the list stands at D, outside of the store -/
theorem lc_core (q : Sim K m S ρ σ B) (yl : Yl K m J ws B) (nD : D ∉ m) (hD : B D = some (.lst zs0)) (pz : Paired (RW K m B) zs0 acc0) (e : lcL g T E vs ρ ws S = some (r, S9)) (hlen : acc0.length + r.length ≤ sizeLine) {Nx : Hp → Prop}
    (fin : ∀ ext H' zs, Fresh ext B → Sim K (m ++ ext) S9 ρ σ H' → FrD D m B H' → D ∉ m ++ ext → H' D = some (.lst zs) → Paired (RW K (m ++ ext) H') zs (acc0 ++ r) → Nx H') :
    ∃ W : Nat → Nat → Hp → Prop, (∃ n, W 0 n B) ∧ ∀ i n H, W i n H → (J.stop i H ∧ Nx H) ∨ (J.go i H ∧ ∃ Nx1 : Hp → Prop, (∀ H', Nx1 H' → ∃ n', n' < n ∧ W (i + 1) n' H') ∧ ∀ x H', J.yld i H x H' → rdG K vs g x (wipe σ vs) H' fun σ2 H2 => wipe σ2 vs = wipe σ vs ∧ rdT K T σ2 H2 fun b H3 =>
      if b = true then rdE K E σ2 H3 fun y H4 => ∃ acc, H4 D = some (.lst acc) ∧ acc.length < sizeLine ∧ Nx1 (upd H4 D (.lst (acc ++ [y]))) else Nx1 H3) := by
  have nImm : ∀ o, B D = some o → ¬ Imm o := fun o h i => by rw [hD] at h; cases h; exact i
  refine ⟨fun i n H' => ∃ e2 S2 acc r' zs, n = ws.length - i ∧ i ≤ ws.length ∧ Fresh e2 B ∧ Sim K (m ++ e2) S2 ρ σ H' ∧ FrD D m B H' ∧ D ∉ m ++ e2 ∧ H' D = some (.lst zs) ∧ Paired (RW K (m ++ e2) H') zs acc ∧ lcL g T E vs ρ (ws.drop i) S2 = some (r', S9) ∧ acc0 ++ r = acc ++ r',
    ⟨_, [], S, acc0, r, zs0, rfl, Nat.zero_le _, fun _ h => absurd h (by simp), by rwa [List.append_nil], fun a o h _ _ => h, by rwa [List.append_nil], hD, by rwa [List.append_nil], e, rfl⟩, ?_⟩
  rintro i n H' ⟨e2, S2, acc, r', zs, rfl, hi, f2, q3, fr2, n2, hzs, pz, e, hall⟩
  have kp2 : Kp B H' := fr2.kp nImm
  by_cases hlt : i < ws.length
  · rw [List.drop_eq_getElem_cons hlt] at e
    simp only [lcL] at e
    obtain ⟨⟨ρ3, S3⟩, e3', e⟩ := Option.bind_eq_some_iff.mp e
    obtain ⟨⟨b, S4⟩, e4, e⟩ := Option.bind_eq_some_iff.mp e
    refine .inr ⟨yl.go i H' hlt kp2, fun H4 => ∃ n', n' < ws.length - i ∧ ∃ e2 S2 acc r' zs, n' = ws.length - (i + 1) ∧ i + 1 ≤ ws.length ∧ Fresh e2 B ∧ Sim K (m ++ e2) S2 ρ σ H4 ∧ FrD D m B H4 ∧ D ∉ m ++ e2 ∧ H4 D = some (.lst zs) ∧ Paired (RW K (m ++ e2) H4) zs acc ∧ lcL g T E vs ρ (ws.drop (i + 1)) S2 = some (r', S9) ∧ acc0 ++ r = acc ++ r', fun H4 z => z, fun x H2 y => ?_⟩
    obtain ⟨kp, rx⟩ := yl.yld i H' x H2 ws[i] (List.getElem?_eq_getElem hlt) kp2 y
    have q4 := q3.same kp
    have hD2 : H2 D = some (.lst zs) := kp _ _ hzs
    refine ⟨m ++ e2, S2, wipeD ρ vs, ws[i], ρ3, S3, q4.wipe vs, rx.mono (Kp.refl _), e3', fun ext3 σ3 H3 hw f3 q5 fr3 => ⟨by rw [hw, wipe_twice], ?_⟩⟩
    refine ⟨_, S3, ρ3, b, S4, q5, e4, fun ext4 H4 f4 q6 fr4 => ?_⟩
    have ff : Fresh (ext3 ++ ext4) H2 := f3.append fr3 q5 f4
    have fr24 : Fr (m ++ e2) H2 H4 := fr3.trans f3 fr4
    cases b with
    | false =>
      simp only [Bool.false_eq_true, if_false] at e ⊢
      obtain ⟨s1, s2, s3, s4, s5⟩ := step_sim f2 q3 fr2 kp n2 ⟨_, hD2⟩ ff (by rwa [← List.append_assoc]) fr24.toD
      exact ⟨_, by omega, _, S4, acc, r', zs, rfl, hlt, s2, s1, s3, s4, fr24 D _ hD2 (.inl n2), by rw [← List.append_assoc]; exact pRW.mono pz s5, e, hall⟩
    | true =>
      simp only [if_true] at e ⊢
      obtain ⟨⟨y, S5⟩, e5, e⟩ := Option.bind_eq_some_iff.mp e
      obtain ⟨⟨r2, S6⟩, e6, e7⟩ := Option.bind_eq_some_iff.mp e
      cases e7
      refine ⟨_, S4, ρ3, y, S5, q6, e5, fun ext5 H5 yv f5 q7 fr5 ry => ?_⟩
      have ff5 : Fresh (ext3 ++ ext4 ++ ext5) H2 := ff.append fr24 (by rwa [← List.append_assoc]) f5
      have fr25 : Fr (m ++ e2) H2 H5 := fr24.trans ff (by rwa [← List.append_assoc])
      obtain ⟨s1, s2, s3, s4, s5⟩ := step_sim f2 q3 fr2 kp n2 ⟨_, hD2⟩ ff5 (by rw [← List.append_assoc, ← List.append_assoc]; exact q7) fr25.toD
      have hD5 : H5 D = some (.lst zs) := fr25 D _ hD2 (.inl n2)
      have s6 : Paired (RW K (m ++ (e2 ++ (ext3 ++ ext4 ++ ext5))) H5) zs acc := by rw [← List.append_assoc]; exact pRW.mono pz s5
      have hacc : acc.length < sizeLine := by
        have : (acc0 ++ r).length = acc.length + (r2.length + 1) := by rw [hall, List.length_append, List.length_cons]
        rw [List.length_append] at this
        omega
      refine ⟨zs, hD5, by rw [s6.length]; exact hacc, _, by omega, _, S5, acc ++ [y], r2, zs ++ [yv], rfl, hlt, s2, s1.other s4 hD5 (fun z => z), fun a o h n c => ?_, s4, upd_same, ?_, e6, by rw [hall, List.append_assoc]; rfl⟩
      · rw [upd_ne n]
        exact s3 a o h n c
      · have kk : Kp H5 (upd H5 D (.lst (zs ++ [yv]))) := kp_other hD5 fun z => z
        refine paired_app (Paired.mapP s6 fun _ _ z => z.mono0 kk) (.cons ?_ .nil)
        have := ry.mono0 kk
        rwa [show m ++ e2 ++ ext3 ++ ext4 ++ ext5 = m ++ (e2 ++ (ext3 ++ ext4 ++ ext5)) by simp] at this
  · have ei : i = ws.length := by omega
    subst ei
    rw [List.drop_length] at e
    cases e
    rw [List.append_nil] at hall
    exact .inl ⟨yl.stop H' kp2, fin e2 H' zs f2 q3 fr2 n2 hzs (by rw [hall]; exact pz)⟩
/-! ### two clauses -/
def lc2L (g : MG) (T : MT) (it1 : MI) (g1 : MG) (T1 : MT) (E : ME) (vs vs1 : List Nat) (ρ : DEnv) : List W → Sto → Option (List W × Sto)
  | [], S => some ([], S)
  | w :: ws, S => (g w (wipeD ρ vs) S).bind fun p => (T p.1 p.2).bind fun b => if b.1 = true then (it1 p.1 b.2).bind fun q => (lcL g1 T1 E vs1 p.1 q.1 q.2).bind fun y => (lc2L g T it1 g1 T1 E vs vs1 ρ ws y.2).bind fun t => some (y.1 ++ t.1, t.2) else lc2L g T it1 g1 T1 E vs vs1 ρ ws b.2
def mLc2 (it : MI) (g : MG) (T : MT) (it1 : MI) (g1 : MG) (T1 : MT) (E : ME) (vs vs1 : List Nat) (k : List W → Sto → Option (W × Sto)) : ME := fun ρ S => (it ρ S).bind fun p => (lc2L g T it1 g1 T1 E vs vs1 ρ p.1 p.2).bind fun r => k r.1 r.2
theorem rd_lc2 (h : rdE K (mLc2 it g T it1 g1 T1 E vs vs1 k) σ H Q) (hk : ∀ ws S w S', k ws S = some (w, S') → ws.length ≤ sizeLine) {Q' : VK}
    (fin : ∀ m S ρ H1 D acc zs w S', Sim K m S ρ σ H1 → D ∉ m → H1 D = some (.lst zs) → Paired (RW K m H1) zs acc → k acc S = some (w, S') →
      (∀ ext H2 v, D ∉ m → (∀ a ∈ ext, a = D) → Sim K (m ++ ext) S' ρ σ H2 → (∀ a o, H1 a = some o → a ≠ D → H2 a = some o) → RW K (m ++ ext) H2 v w → Q v H2) → Q' (.ref D) H1) :
    tLc2 (rdI K it) (rdG K vs g) (rdT K T) (rdI K it1) (rdG K vs1 g1) (rdT K T1) (rdE K E) vs vs1 σ H Q' := by
  obtain ⟨m, S, ρ, w, S', q, e, p⟩ := h
  obtain ⟨⟨ws, S1⟩, e1, e⟩ := Option.bind_eq_some_iff.mp e
  obtain ⟨⟨all, S9⟩, hh2, e3⟩ := Option.bind_eq_some_iff.mp e
  have hlen : all.length ≤ sizeLine := hk _ _ _ _ e3
  refine ⟨m, S, ρ, ws, S1, q, e1, fun ext J H1 f q1 fr yl D hD => ?_⟩
  have p1 := p.at f q1 fr
  clear p fr f q e e1
  generalize m ++ ext = m at *
  have keepD := upd_keeps (o := HO.lst []) hD
  have q2 := q1.same keepD
  have nD := q1.nomem hD
  have nImm : ∀ o, H1 D = some o → ¬ Imm o := fun o h => by rw [hD] at h; cases h
  refine ⟨fun i n H' => ∃ e2 S2 acc r zs, n = ws.length - i ∧ i ≤ ws.length ∧ Fresh e2 H1 ∧ Sim K (m ++ e2) S2 ρ σ H' ∧ FrD D m H1 H' ∧ D ∉ m ++ e2 ∧ H' D = some (.lst zs) ∧ Paired (RW K (m ++ e2) H') zs acc ∧ lc2L g T it1 g1 T1 E vs vs1 ρ (ws.drop i) S2 = some (r, S9) ∧ all = acc ++ r,
    ⟨_, [], S1, [], all, [], rfl, Nat.zero_le _, fun _ h => absurd h (by simp), by rwa [List.append_nil], fun a o h _ _ => keepD a o h, by rwa [List.append_nil], upd_same, .nil, hh2, rfl⟩, ?_⟩
  rintro i n H' ⟨e2, S2, acc, r, zs, rfl, hi, f2, q3, fr2, n2, hzs, pz, e, hall⟩
  have kp2 : Kp H1 H' := fr2.kp nImm
  by_cases hlt : i < ws.length
  · rw [List.drop_eq_getElem_cons hlt] at e
    simp only [lc2L] at e
    obtain ⟨⟨ρ3, S3⟩, e3', e⟩ := Option.bind_eq_some_iff.mp e
    obtain ⟨⟨b, S4⟩, e4, e⟩ := Option.bind_eq_some_iff.mp e
    refine .inr ⟨yl.go i H' hlt kp2, fun H4 => ∃ n', n' < ws.length - i ∧ ∃ e2 S2 acc r zs, n' = ws.length - (i + 1) ∧ i + 1 ≤ ws.length ∧ Fresh e2 H1 ∧ Sim K (m ++ e2) S2 ρ σ H4 ∧ FrD D m H1 H4 ∧ D ∉ m ++ e2 ∧ H4 D = some (.lst zs) ∧ Paired (RW K (m ++ e2) H4) zs acc ∧ lc2L g T it1 g1 T1 E vs vs1 ρ (ws.drop (i + 1)) S2 = some (r, S9) ∧ all = acc ++ r, fun H4 z => z, fun x H2 y => ?_⟩
    obtain ⟨kp, rx⟩ := yl.yld i H' x H2 ws[i] (List.getElem?_eq_getElem hlt) kp2 y
    have q4 := q3.same kp
    have hD2 : H2 D = some (.lst zs) := kp _ _ hzs
    refine ⟨m ++ e2, S2, wipeD ρ vs, ws[i], ρ3, S3, q4.wipe vs, rx.mono (Kp.refl _), e3', fun ext3 σ3 H3 hw f3 q5 fr3 => ⟨by rw [hw, wipe_twice], ?_⟩⟩
    refine ⟨_, S3, ρ3, b, S4, q5, e4, fun ext4 H4 f4 q6 fr4 => ?_⟩
    have ff : Fresh (ext3 ++ ext4) H2 := f3.append fr3 q5 f4
    have fr24 : Fr (m ++ e2) H2 H4 := fr3.trans f3 fr4
    cases b with
    | false =>
      simp only [Bool.false_eq_true, if_false] at e ⊢
      obtain ⟨s1, s2, s3, s4, s5⟩ := step_sim f2 q3 fr2 kp n2 ⟨_, hD2⟩ ff (by rwa [← List.append_assoc]) fr24.toD
      exact ⟨_, by omega, _, S4, acc, r, zs, rfl, hlt, s2, s1, s3, s4, fr24 D _ hD2 (.inl n2), by rw [← List.append_assoc]; exact pRW.mono pz s5, e, hall⟩
    | true =>
      simp only [if_true] at e ⊢
      obtain ⟨⟨ws1, S5⟩, e5, e⟩ := Option.bind_eq_some_iff.mp e
      obtain ⟨⟨y, S6⟩, e6, e⟩ := Option.bind_eq_some_iff.mp e
      obtain ⟨⟨t, S7⟩, e7, e8⟩ := Option.bind_eq_some_iff.mp e
      cases e8
      refine ⟨_, S4, ρ3, ws1, S5, q6, e5, fun ext5 J1 H5 f5 q7 fr5 yl1 => ?_⟩
      have ff5 : Fresh (ext3 ++ ext4 ++ ext5) H2 := ff.append fr24 (by rwa [← List.append_assoc]) f5
      have fr25 : Fr (m ++ e2) H2 H5 := fr24.trans ff (by rwa [← List.append_assoc])
      have q7' : Sim K (m ++ e2 ++ (ext3 ++ ext4 ++ ext5)) S5 ρ3 σ3 H5 := by rw [← List.append_assoc, ← List.append_assoc]; exact q7
      have yl1' : Yl K (m ++ e2 ++ (ext3 ++ ext4 ++ ext5)) J1 ws1 H5 := by rw [← List.append_assoc, ← List.append_assoc]; exact yl1
      clear yl1 q7
      obtain ⟨s1, s2, s3, s4, s5⟩ := step_sim f2 q3 fr2 kp n2 ⟨_, hD2⟩ ff5 q7' fr25.toD
      have hD5 : H5 D = some (.lst zs) := fr25 D _ hD2 (.inl n2)
      have n5 : D ∉ m ++ e2 ++ (ext3 ++ ext4 ++ ext5) := by rw [List.append_assoc]; exact s4
      refine lc_core q7' yl1' n5 hD5 (pRW.mono pz s5) e6 ?_ fun ext6 H6 zs6 f6 q8 fr6 n6 hD6 p6 => ?_
      · have : all.length = acc.length + (y.length + t.length) := by rw [hall, List.length_append, List.length_append]
        omega
      · have ff6 : Fresh (ext3 ++ ext4 ++ ext5 ++ ext6) H2 := ff5.append fr25 q7' f6
        have fr26 : FrD D (m ++ e2) H2 H6 := fr25.toD.trans ff5 fr6
        obtain ⟨u1, u2, u3, u4, u5⟩ := step_sim f2 q3 fr2 kp n2 ⟨_, hD2⟩ ff6 (by rw [← List.append_assoc]; exact q8) fr26
        refine ⟨_, by omega, _, S6, acc ++ y, t, zs6, rfl, hlt, u2, u1, u3, u4, hD6, ?_, e7, by rw [hall, List.append_assoc]⟩
        rwa [show m ++ (e2 ++ (ext3 ++ ext4 ++ ext5 ++ ext6)) = m ++ e2 ++ (ext3 ++ ext4 ++ ext5) ++ ext6 by simp]
  · have ei : i = ws.length := by omega
    subst ei
    rw [List.drop_length] at e
    cases e
    rw [List.append_nil] at hall
    subst hall
    refine .inl ⟨yl.stop H' kp2, fin (m ++ e2) S9 ρ H' D all zs w S' q3 n2 hzs pz e3 fun ext H2 v _ hext q9 k9 r9 => ?_⟩
    have dext : Fresh (e2 ++ ext) H1 := fun a ha => by
      rcases List.mem_append.mp ha with z | z
      · exact f2 a z
      · rw [hext a z]; exact hD
    refine p1 (e2 ++ ext) H2 v dext (by rwa [← List.append_assoc]) (fun a o h c => ?_) (by rwa [← List.append_assoc])
    have na : a ≠ D := fun z => by subst z; rw [hD] at h; cases h
    exact k9 a o (fr2 a o h na c) na
theorem rd_lc2F (h : rdE K (mLc2 it g T it1 g1 T1 E vs vs1 kFrz) σ H Q) : tLc2 (rdI K it) (rdG K vs g) (rdT K T) (rdI K it1) (rdG K vs1 g1) (rdT K T1) (rdE K E) vs vs1 σ H (Lk Q) :=
  rd_lc2 h (fun _ _ _ _ => kFrz_len) fun m S ρ H1 D acc zs w S' q nD hD pz e p => by
    obtain ⟨ds, e1, e2⟩ := Option.bind_eq_some_iff.mp e
    split at e2
    · cases e2
      refine ⟨D, zs, rfl, hD, fun o => ?_⟩
      have k : Kp H1 (upd H1 D (.frz o (.lst zs))) := kp_other hD fun z => z
      refine p [] _ _ nD (fun _ h => absurd h (by simp)) (by rw [List.append_nil]; exact q.other nD hD fun z => z) (fun a o h n => by rw [upd_ne n]; exact h) ?_
      exact Rp.lst (.inl ⟨o, upd_same⟩) (RpAll.mono k _ _ (allD_of e1 pz))
    · cases e2
theorem rd_lc2B (h : rdE K (mLc2 it g T it1 g1 T1 E vs vs1 kBox) σ H Q) : tLc2 (rdI K it) (rdG K vs g) (rdT K T) (rdI K it1) (rdG K vs1 g1) (rdT K T1) (rdE K E) vs vs1 σ H Q :=
  rd_lc2 h (fun _ _ _ _ => kBox_len) fun m S ρ H1 D acc zs w S' q nD hD pz e p => by
    unfold kBox at e
    split at e
    · cases e
      refine p [D] _ _ nD (fun _ h => by simpa using h) (q.adopt nD ⟨zs, hD, pRW.mono pz (Kp.refl _)⟩) (fun a o h n => h) ⟨D, ?_, rfl⟩
      rw [← q.len, List.getElem?_append_right (Nat.le_refl _)]; simp
    · cases e
end
section
variable {X : Cx} {elt tg iter tg1 iter1 : Expr} {ifs ifs1 : List Expr} {scope : Scope} {own : List (Str × Nat)} {vs1 : List Nat} {pos spos py : Pos} {it it1 : MI} {g g1 : MG} {T T1 : MT} {E : ME} {i : Nat} {y : Str}
theorem de_lc2 (hc : X.calm = true) (hN : X.N.Nodup) (hi : PI X tg iter (rdI X.K it)) (ok : BlkOk X.N X.env.scope scope own) (hv : ∀ i ∈ vs1, i ∈ own.map (·.2))
    (hg : ∀ (s : Shared) (H : Hp) (C : Addr) (cl : List (Str × Addr)) (fp : List Addr), PG (X.blk s H scope (compEnvC scope cl C X.env) fp) tg (rdG X.K (own.map (·.2)) g)) (ht : ∀ (s : Shared) (H : Hp) (C : Addr) (cl : List (Str × Addr)) (fp : List Addr), PTs (X.blk s H scope (compEnvC scope cl C X.env) fp) ifs (rdT X.K T))
    (hi1 : ∀ (s : Shared) (H : Hp) (C : Addr) (cl : List (Str × Addr)) (fp : List Addr), PI (X.blk s H scope (compEnvC scope cl C X.env) fp) tg1 iter1 (rdI X.K it1))
    (hg1 : ∀ (s : Shared) (H : Hp) (C : Addr) (cl : List (Str × Addr)) (fp : List Addr), PG (X.blk s H scope (compEnvC scope cl C X.env) fp) tg1 (rdG X.K vs1 g1)) (ht1 : ∀ (s : Shared) (H : Hp) (C : Addr) (cl : List (Str × Addr)) (fp : List Addr), PTs (X.blk s H scope (compEnvC scope cl C X.env) fp) ifs1 (rdT X.K T1))
    (he : ∀ (s : Shared) (H : Hp) (C : Addr) (cl : List (Str × Addr)) (fp : List Addr), PE (X.blk s H scope (compEnvC scope cl C X.env) fp) elt (rdE X.K E)) (hs : ∀ x, foldedSetIterable iter X.env x = pure x := by intro _; rfl) (hs1 : ∀ env x, foldedSetIterable iter1 env x = pure x := by intro _ _; rfl) :
    PE X (.ListComp elt [⟨tg, iter, ifs, 0⟩, ⟨tg1, iter1, ifs1, 0⟩] scope pos) (rdE X.K (mLc2 it g T it1 g1 T1 E (own.map (·.2)) vs1 kFrz)) := wkE (peFrz (pe_lc2 hc hN hi ok hv hg ht hi1 hg1 ht1 he hs hs1)) fun σ H Q q => rd_lc2F q
theorem de_lc2B (hc : X.calm = true) (hN : X.N.Nodup) (hi : PI X tg iter (rdI X.K it)) (ok : BlkOk X.N X.env.scope scope own) (hv : ∀ i ∈ vs1, i ∈ own.map (·.2))
    (hg : ∀ (s : Shared) (H : Hp) (C : Addr) (cl : List (Str × Addr)) (fp : List Addr), PG (X.blk s H scope (compEnvC scope cl C X.env) fp) tg (rdG X.K (own.map (·.2)) g)) (ht : ∀ (s : Shared) (H : Hp) (C : Addr) (cl : List (Str × Addr)) (fp : List Addr), PTs (X.blk s H scope (compEnvC scope cl C X.env) fp) ifs (rdT X.K T))
    (hi1 : ∀ (s : Shared) (H : Hp) (C : Addr) (cl : List (Str × Addr)) (fp : List Addr), PI (X.blk s H scope (compEnvC scope cl C X.env) fp) tg1 iter1 (rdI X.K it1))
    (hg1 : ∀ (s : Shared) (H : Hp) (C : Addr) (cl : List (Str × Addr)) (fp : List Addr), PG (X.blk s H scope (compEnvC scope cl C X.env) fp) tg1 (rdG X.K vs1 g1)) (ht1 : ∀ (s : Shared) (H : Hp) (C : Addr) (cl : List (Str × Addr)) (fp : List Addr), PTs (X.blk s H scope (compEnvC scope cl C X.env) fp) ifs1 (rdT X.K T1))
    (he : ∀ (s : Shared) (H : Hp) (C : Addr) (cl : List (Str × Addr)) (fp : List Addr), PE (X.blk s H scope (compEnvC scope cl C X.env) fp) elt (rdE X.K E)) (hs : ∀ x, foldedSetIterable iter X.env x = pure x := by intro _; rfl) (hs1 : ∀ env x, foldedSetIterable iter1 env x = pure x := by intro _ _; rfl) :
    PE X (.ListComp elt [⟨tg, iter, ifs, 0⟩, ⟨tg1, iter1, ifs1, 0⟩] scope pos) (rdE X.K (mLc2 it g T it1 g1 T1 E (own.map (·.2)) vs1 kBox)) := wkE (pe_lc2 hc hN hi ok hv hg ht hi1 hg1 ht1 he hs hs1) fun σ H Q q => rd_lc2B q
theorem ds_setLc2 (hc : X.calm = true) (hN : X.N.Nodup) (hy : X.N[i]? = some y) (hyl : X.env.scope.names.lookup y = some .local)
    (hsw : swapsWith (.ListComp elt [⟨tg, iter, ifs, 0⟩, ⟨tg1, iter1, ifs1, 0⟩] scope pos) (some (.Name y py)) spos.line X.env = pure true) (hi : PI X tg iter (rdI X.K it)) (ok : BlkOk X.N X.env.scope scope own) (hv : ∀ i ∈ vs1, i ∈ own.map (·.2))
    (hg : ∀ (s : Shared) (H : Hp) (C : Addr) (cl : List (Str × Addr)) (fp : List Addr), PG (X.blk s H scope (compEnvC scope cl C X.env) fp) tg (rdG X.K (own.map (·.2)) g)) (ht : ∀ (s : Shared) (H : Hp) (C : Addr) (cl : List (Str × Addr)) (fp : List Addr), PTs (X.blk s H scope (compEnvC scope cl C X.env) fp) ifs (rdT X.K T))
    (hi1 : ∀ (s : Shared) (H : Hp) (C : Addr) (cl : List (Str × Addr)) (fp : List Addr), PI (X.blk s H scope (compEnvC scope cl C X.env) fp) tg1 iter1 (rdI X.K it1))
    (hg1 : ∀ (s : Shared) (H : Hp) (C : Addr) (cl : List (Str × Addr)) (fp : List Addr), PG (X.blk s H scope (compEnvC scope cl C X.env) fp) tg1 (rdG X.K vs1 g1)) (ht1 : ∀ (s : Shared) (H : Hp) (C : Addr) (cl : List (Str × Addr)) (fp : List Addr), PTs (X.blk s H scope (compEnvC scope cl C X.env) fp) ifs1 (rdT X.K T1))
    (he : ∀ (s : Shared) (H : Hp) (C : Addr) (cl : List (Str × Addr)) (fp : List Addr), PE (X.blk s H scope (compEnvC scope cl C X.env) fp) elt (rdE X.K E)) (hs : ∀ x, foldedSetIterable iter X.env x = pure x := by intro _; rfl) (hs1 : ∀ env x, foldedSetIterable iter1 env x = pure x := by intro _ _; rfl) :
    PS X (.Assign [.Name y py] (.ListComp elt [⟨tg, iter, ifs, 0⟩, ⟨tg1, iter1, ifs1, 0⟩] scope pos) spos) (rdS X.K (sAsg (mLc2 it g T it1 g1 T1 E (own.map (·.2)) vs1 kFrz) (gSet i))) := wkS (psFrz (ps_setLc2 hc hN hy hyl hsw hi ok hv hg ht hi1 hg1 ht1 he hs hs1)) fun D σ H q => by
  obtain ⟨q1, hi⟩ := asgE q
  refine rd_lc2 q1 (fun _ _ _ _ => kFrz_len) fun m S ρ H1 D acc zs w S' q nD hD pz e p => ?_
  obtain ⟨ds, e1, e2⟩ := Option.bind_eq_some_iff.mp e
  split at e2
  · cases e2
    refine ⟨D, zs, by rw [List.getElem?_set_self hi], hD, fun o => ?_⟩
    have k : Kp H1 (upd H1 D (.frz o (.lst zs))) := kp_other hD fun z => z
    refine p [] _ _ nD (fun _ h => absurd h (by simp)) (by rw [List.append_nil]; exact q.other nD hD fun z => z) (fun a o h n => by rw [upd_ne n]; exact h) ?_
    exact Rp.lst (.inl ⟨o, upd_same⟩) (RpAll.mono k _ _ (allD_of e1 pz))
  · cases e2
theorem ds_setLc2B (hc : X.calm = true) (hN : X.N.Nodup) (hy : X.N[i]? = some y) (hyl : X.env.scope.names.lookup y = some .local)
    (hsw : swapsWith (.ListComp elt [⟨tg, iter, ifs, 0⟩, ⟨tg1, iter1, ifs1, 0⟩] scope pos) (some (.Name y py)) spos.line X.env = pure true) (hi : PI X tg iter (rdI X.K it)) (ok : BlkOk X.N X.env.scope scope own) (hv : ∀ i ∈ vs1, i ∈ own.map (·.2))
    (hg : ∀ (s : Shared) (H : Hp) (C : Addr) (cl : List (Str × Addr)) (fp : List Addr), PG (X.blk s H scope (compEnvC scope cl C X.env) fp) tg (rdG X.K (own.map (·.2)) g)) (ht : ∀ (s : Shared) (H : Hp) (C : Addr) (cl : List (Str × Addr)) (fp : List Addr), PTs (X.blk s H scope (compEnvC scope cl C X.env) fp) ifs (rdT X.K T))
    (hi1 : ∀ (s : Shared) (H : Hp) (C : Addr) (cl : List (Str × Addr)) (fp : List Addr), PI (X.blk s H scope (compEnvC scope cl C X.env) fp) tg1 iter1 (rdI X.K it1))
    (hg1 : ∀ (s : Shared) (H : Hp) (C : Addr) (cl : List (Str × Addr)) (fp : List Addr), PG (X.blk s H scope (compEnvC scope cl C X.env) fp) tg1 (rdG X.K vs1 g1)) (ht1 : ∀ (s : Shared) (H : Hp) (C : Addr) (cl : List (Str × Addr)) (fp : List Addr), PTs (X.blk s H scope (compEnvC scope cl C X.env) fp) ifs1 (rdT X.K T1))
    (he : ∀ (s : Shared) (H : Hp) (C : Addr) (cl : List (Str × Addr)) (fp : List Addr), PE (X.blk s H scope (compEnvC scope cl C X.env) fp) elt (rdE X.K E)) (hs : ∀ x, foldedSetIterable iter X.env x = pure x := by intro _; rfl) (hs1 : ∀ env x, foldedSetIterable iter1 env x = pure x := by intro _ _; rfl) :
    PS X (.Assign [.Name y py] (.ListComp elt [⟨tg, iter, ifs, 0⟩, ⟨tg1, iter1, ifs1, 0⟩] scope pos) spos) (rdS X.K (sAsg (mLc2 it g T it1 g1 T1 E (own.map (·.2)) vs1 kBox) (gSet i))) := wkS (ps_setLc2 hc hN hy hyl hsw hi ok hv hg ht hi1 hg1 ht1 he hs hs1) fun D σ H q => by
  obtain ⟨q1, hi⟩ := asgE q
  exact rd_lc2B q1
end
end DL
end
noncomputable section
namespace DL
open PySem PySem.Spec PyProof.Rows L2
theorem rep_run (l : Addr) (items : Array Value) (n : Nat) (d : Option Addr) (sl : Array (Option Value)) (x : Int) (u : Tok) (hc0 : ¬(!Builtin.List.listFitsIndex x) = true) (hc1 : ¬items.size * x.toNat > (2 ^ 63 - 1) / 8) (hc2 : ¬Builtin.List.listTooLong (items.size * x.toNat) = true) :
    Meets (Builtin.«list.__mul__» ⟨[.ref l, .int x u], []⟩) (fun _ R s => s.heap.get? l = some { cls := .type "list", dict := d, data := .seq items n, slots := sl } ∧ R (.ok (.ret (Value.ref s.heap.objs.size))) { s with heap := s.heap.push { cls := Value.type "list", data := Data.seq (List.foldl (fun x1 x2 => x1 ++ x2) #[] (List.replicate (if items.isEmpty = true then 0 else x.toNat) items)) }, toks := s.toks }) :=
  .of_wp fun prog w A R s h => by
    obtain ⟨hp, g, d, tk, os⟩ := s; obtain ⟨hl, h⟩ := h
    have hsz := AutoListH.joined_fits hc2
    wp_walk; refine wpAny_ite_false (decide_eq_false (Nat.not_lt.mpr hsz)) ?_; wp_walk; exact ⟨_, rfl, h⟩
theorem rrep_run (a : Int) (t : Tok) (l : Addr) (items : Array Value) (n : Nat) (d : Option Addr) (sl : Array (Option Value)) :
    Meets (Builtin.«int.__rmul__» ⟨[.int a t, .ref l], []⟩) (fun _ R s => s.heap.get? l = some { cls := .type "list", dict := d, data := .seq items n, slots := sl } ∧ R (.ok (.ret Value.notImplemented)) s) :=
  .of_wp fun prog w A R s h => by obtain ⟨hp, g, d, tk, os⟩ := s; obtain ⟨hl, h⟩ := h; wp_walk; exact ⟨_, rfl, h⟩
section
variable {X : Cx}
theorem op_repS : OpR X (binaryOp .Mult) (fun x y H Q => ∃ l k xs, x = .ref l ∧ y = .int k ∧ SqL X.K H l xs ∧ -(2 ^ 63) ≤ k ∧ k < 2 ^ 63 ∧ xs.length * k.toNat ≤ sizeLine ∧ ∀ p, H p = none → Q (.ref p) (upd H p (.lst (List.replicate k.toNat xs).flatten))) := by
  intro pins s σ H x y v u Q I rx ry h
  obtain ⟨l, k, xs, rfl, rfl, hS, h1, h2, hz, q⟩ := h
  cases rx
  obtain ⟨t, rfl⟩ := ry
  obtain ⟨its, r, ⟨oa, n, e, hc, hdn, hdat⟩, _⟩ := I.list hS
  have hl := r.length
  obtain ⟨c1, d1, da1, sl1⟩ := oa
  simp only at hc hdn hdat
  subst hc hdat
  have hlen : its.toArray.size * k.toNat ≤ sizeLine := by rw [List.size_toArray, ← hl]; exact hz
  have hcap : ¬ its.toArray.size * k.toNat > (2 ^ 63 - 1) / 8 := by
    have : (sizeLine : Nat) ≤ (2 ^ 63 - 1) / 8 := by decide
    omega
  have hfit : ¬ (!Builtin.List.listFitsIndex k) = true := by rw [fitsIndex_both h1 h2]; simp
  have hlong : ¬ Builtin.List.listTooLong (its.toArray.size * k.toNat) = true := by rw [notLongL hlen]; simp
  have hnew : List.foldl (fun x1 x2 => x1 ++ x2) #[] (List.replicate (if its.toArray.isEmpty = true then 0 else k.toNat) its.toArray) = (List.replicate k.toNat its).flatten.toArray := by
    have f0 : ∀ m : Nat, List.foldl (fun x1 x2 => x1 ++ x2) #[] (List.replicate m its.toArray) = (List.replicate m its).flatten.toArray := fun m => by
      have f1 := foldl_rep its m []
      rwa [List.nil_append] at f1
    rw [f0]
    cases its with
    | nil => simp
    | cons a r' => rw [if_neg (by simp)]
  refine wpAny_binaryOp_repeat_ref (T := "list") (U := "int") (by decide) ⟨_, e, rfl⟩ (fun s' => typeIs_int s' k t) noFill_list_mul F.fills_int_mul F.slot_int_rmul repeat_list F.slot_int_index.lookup
    (call_meets F.slot_int_rmul (typeIs_int s k t) F.entry_int_rmul (F.args_int_rmul_2 _ _) (rrep_run k t l its.toArray n d1 sl1) ⟨e, rfl, ⟨_, e, rfl⟩, call_meets F.slot_list_mul ⟨_, e, rfl⟩ F.entry_list_mul (F.args_list_mul_2 _ _) (rep_run l its.toArray n d1 sl1 k t hfit hcap hlong) ⟨e, ?_⟩⟩)
  rw [hnew]
  exact ⟨.ref _, _, I.lnew (t' := s.toks) (r.rep k.toNat) (by rw [PyProof.Rows.lm_len_rep_flat, Nat.mul_comm]; exact hz), rfl, q _ I.fresh⟩
def repL : W → W → Sto → Option (W × Sto) := fun x y S => (deref S x).bind fun d => match d, y with
  | .list i, .d (.int k) => if k.toNat ≤ sizeLine ∧ (-k).toNat ≤ sizeLine ∧ i.length * k.toNat ≤ sizeLine then some (.d (.list (List.replicate k.toNat i).flatten), S) else none
  | _, _ => none
theorem op_repL : OpR X (binaryOp .Mult) (rOp X.K repL) := by
  intro pins s σ H x y v u Q I rx ry h
  obtain ⟨m, S, ρ, σ', wx, wy, w, S', q, hx, hy, e, p⟩ := h
  obtain ⟨d, e1, e⟩ := Option.bind_eq_some_iff.mp e
  split at e
  · split at e
    · rename_i hl
      cases e
      obtain ⟨a, xs, rfl, ha, r1⟩ := deref_list q hx e1
      obtain rfl := rp_int hy
      have hsl := sizeLine_eq
      exact opFrz op_repS pins s σ H _ _ v u Q I rx ry ⟨a, _, xs, rfl, rfl, ha, by omega, by omega, by rw [r1.length]; exact hl.2.2, fun t ht => newL p q (rpAll_rep r1 _) t ht⟩
    · cases e
  · cases e
/-- any * -/
def mulA : W → W → Sto → Option (W × Sto) := fun x y S => match mulD x y S with
  | some r => some r
  | none => repL x y S
theorem op_mulA : OpR X (binaryOp .Mult) (rOp X.K mulA) := by
  intro pins s σ H x y v u Q I rx ry h
  obtain ⟨m, S, ρ, σ', wx, wy, w, S', q, hx, hy, e, p⟩ := h
  unfold mulA at e
  split at e
  · rename_i r hr
    cases e
    exact op_mulD pins s σ H x y v u Q I rx ry ⟨m, S, ρ, σ', wx, wy, _, _, q, hx, hy, hr, p⟩
  · exact op_repL pins s σ H x y v u Q I rx ry ⟨m, S, ρ, σ', wx, wy, _, _, q, hx, hy, e, p⟩
end
end DL
end
noncomputable section
namespace HT
open PySem PySem.Spec PyProof.Rows
section
variable {prog : Program} {w : World} {A : Around} {E : Value → Shared → Prop} {s : Shared}
theorem sliceApplied_rev {sl : Addr} {vl vu vs : Value} {n : Nat} {Q : Int × Int × Nat → Shared → Prop} (hs : s.heap.IsSliceOf sl vl vu vs) (pl : IsPart vl none) (pu : IsPart vu none) (ps : IsPart vs (some (-1)))
    (h : Q ((n : Int) - 1, -1, n) s) : wpAny (model prog w) A (Builtin.Slice.sliceApplied (.ref sl) (pure (n : Int))) Q E s := by
  obtain ⟨os, hos, hcs, hds⟩ := id hs
  unfold Builtin.Slice.sliceApplied Builtin.Slice.sliceFields
  refine wpAny_bind (wpAny_bind (wpAny_field hos hds (x := vl) rfl (wpAny_bind (wpAny_field hos hds (x := vu) rfl (wpAny_bind (wpAny_field hos hds (x := vs) rfl (wpAny_pure ?_)))))))
  refine wpAny_bind (slicePart_ ps ?_)
  show wpAny _ _ (if ((-1 : Int) == 0) = true then _ else _) _ _ s
  rw [if_neg (by decide)]
  refine wpAny_bind (slicePart_ pl (wpAny_bind (slicePart_ pu (wpAny_bind (wpAny_pure ?_)))))
  show wpAny _ _ (match Builtin.Slice.sliceAdjust none none (-1) (n : Int) with | (lo, hi) => pure (lo, (-1 : Int), Builtin.Slice.slicePlaces lo hi (-1))) _ _ s
  have e : Builtin.Slice.sliceAdjust none none (-1) (n : Int) = ((n : Int) - 1, -1) := rfl
  rw [e]
  show wpAny _ _ (pure ((n : Int) - 1, (-1 : Int), Builtin.Slice.slicePlaces ((n : Int) - 1) (-1) (-1))) _ _ s
  have e2 : Builtin.Slice.slicePlaces ((n : Int) - 1) (-1) (-1) = n := by
    unfold Builtin.Slice.slicePlaces
    have h1 : ¬ ((-1 : Int) > 0) := by omega
    have h2 : (- -1 : Int) = 1 := by decide
    simp only [h1, if_false, h2, Int.ediv_one]
    split <;> omega
  rw [e2]
  exact wpAny_pure h
theorem pick_rev (xs : Array Value) : ((List.range xs.size).filterMap fun (k : Nat) => xs[((xs.size : Int) - 1 + (k : Int) * (-1)).toNat]?).toArray = xs.toList.reverse.toArray := by
  have e : ((List.range xs.size).filterMap fun (k : Nat) => xs[((xs.size : Int) - 1 + (k : Int) * (-1)).toNat]?) = ((List.range xs.size).map fun k => xs.size - 1 - k).filterMap (xs[·]?) := by
    rw [List.filterMap_map]
    congr 1
    funext k
    have : ((xs.size : Int) - 1 + (k : Int) * (-1)).toNat = xs.size - 1 - k := by omega
    simp only [Function.comp, this]
  rw [e, PySem.W.krv_range, List.filterMap_reverse, PySem.W.krv_all]
theorem getItem_tuple_rev {t sl : Addr} {items : Array Value} {vl vu vs : Value} {Q : Value → Shared → Prop} (ht : IsTup s.heap t items) (hs : s.heap.IsSliceOf sl vl vu vs) (pl : IsPart vl none) (pu : IsPart vu none) (ps : IsPart vs (some (-1)))
    (h : Q (.ref s.heap.objs.size) { s with heap := s.heap.push { cls := .type "tuple", data := .seq items.toList.reverse.toArray } })
    (hsz : items.size ≤ sizeLine) : wpAny (model prog w) A (getItem (.ref t) (.ref sl)) Q E s := by
  have htake : sizeOk (.seq items.toList.reverse.toArray) := by
    show items.toList.reverse.toArray.size ≤ sizeLine
    rw [List.size_toArray, List.length_reverse, Array.length_toList]
    omega
  obtain ⟨os, hos, hcs, hds⟩ := id hs
  have hTs : s.TypeIs (.ref sl) "slice" := ⟨os, hos, hcs⟩
  unfold getItem
  try with_reducible refine wpAny_holding ?_
  first | refine wpAny_bind (wpAny_pure ?_) | skip
  refine wpAny_bind (wpAny_sequenceKey ht.typeIs (by decide) ?_)
  refine wpAny_bind (wpAny_callSpecial?_slot (name := Str.ofString "__getitem__") ht.typeIs PyProof.Rows.slot_tuple_getitem
    (wpAny_call_entry PyProof.Rows.slot_tuple_getitem ht.typeIs entry_tuple_getitem ?_ (args_tuple_getitem _ _)))
  show wpAny _ _ (Builtin.Tuple.tupleItemsOf (.ref t) >>= _) _ _ s
  refine wpAny_bind (tupleItemsOf_ ht ?_)
  refine wpAny_bind (wpAny_typeOf hTs ?_)
  rw [if_pos (by decide)]
  refine wpAny_bind (sliceApplied_rev hs pl pu ps ?_)
  have hno : ¬ ((((items.size : Int) - 1) == 0 && (-1 : Int) == 1 && items.size == items.size) = true) := by
    intro q
    rw [Bool.and_eq_true, Bool.and_eq_true] at q
    exact absurd q.1.2 (by decide)
  show wpAny _ _ (if (((items.size : Int) - 1) == 0 && (-1 : Int) == 1 && items.size == items.size) = true then _ else _) _ _ s
  rw [if_neg hno, pick_rev]
  first
    | exact wpAny_bind (m := Builtin.Tuple.tupleExact _) (wpAny_newObj_type (wpAny_pure ⟨_, rfl, wpAny_pure h⟩) htake)
    | exact wpAny_bind (m := Builtin.Tuple.tupleExact _) (wpAny_newObj_type (wpAny_bind (wpAny_pure (wpAny_pure ⟨_, rfl, wpAny_pure h⟩))) htake)
    | exact wpAny_bind (wpAny_bind (m := Builtin.Tuple.tupleExact _) (wpAny_newObj_type (wpAny_pure (wpAny_pure ⟨_, rfl, wpAny_pure h⟩)) htake))
    | exact wpAny_bind (wpAny_bind (m := Builtin.Tuple.tupleExact _) (wpAny_newObj_type (wpAny_pure ⟨_, rfl, wpAny_pure h⟩) htake))
end
end HT
namespace DL
open PySem PySem.Spec PyProof.Rows L2

/-! ### t[::-1] -/
def tRevT (K : PySem.W.Frag) (te : TE) : TE := fun σ H Q => te σ H fun x H1 => ∃ a xs, x = .ref a ∧ SqT K H1 a xs ∧ ∀ p, H1 p = none → Q (.ref p) (upd H1 p (.tup xs.reverse))
def revD : W → Sto → Option (W × Sto)
  | .d (.tuple ds), S => some (.d (.tuple ds.reverse), S)
  | _, _ => none
def mRev (A : ME) : ME := fun ρ S => (A ρ S).bind fun p => revD p.1 p.2
theorem rpAll_rev {K : PySem.W.Frag} {H : Hp} : ∀ {ds : List PyData} {vs : List V}, RpAll K H vs ds → RpAll K H vs.reverse ds.reverse
  | _, _, .nil => .nil
  | _, _, .cons r t => by
    rw [List.reverse_cons, List.reverse_cons]
    exact (rpAll_rev t).append (.cons r .nil)
section
variable {X : Cx} {e a b c : Expr} {rest es : List Expr} {pos : Pos} {A B C : ME} {T U : MT} {R : MA}
theorem pe_revT {e : Expr} {te : TE} {k : Nat} {p1 p2 p3 pos : Pos} (he : PE X e te) : PE X (.Subscript e (.Slice none none (some (.UnaryOp .USub (.Constant (.int 1) k p1) p2)) p3) pos) (tRevT X.K te) := by
  refine ⟨fun pins s σ H Q I h => ?_⟩
  refine Subscript_ (thn (he.run pins s σ H _ I h) fun v s1 ⟨x, H1, I1, r1, q1⟩ => ?_)
  obtain ⟨a, xs, ex, hx, q⟩ := q1
  subst ex
  cases r1
  have hst : PO X (some (.UnaryOp .USub (.Constant (.int 1) k p1) p2)) (tPart (tUn (rU fun i => .int (-i)) (tC (.int 1)))) := po_some (pe_un un_neg pe_int)
  refine wpAny_Slice (thn (po_none.run pins s1 σ H1 (fun o H2 => o = none ∧ H2 = H1) I1 ⟨rfl, rfl⟩) fun vl s2 ⟨l, H2, I2, pl, el, e2⟩ => ?_)
  subst el e2
  refine thn (po_none.run pins s2 σ H2 (fun o H3 => o = none ∧ H3 = H2) I2 ⟨rfl, rfl⟩) fun vu s3 ⟨u, H3, I3, pu, eu, e3⟩ => ?_
  subst eu e3
  refine thn (hst.run pins s3 σ H3 (fun o H4 => o = some (-1) ∧ H4 = H3) I3 ⟨1, rfl, -1, rfl, rfl, rfl⟩) fun vs s4 ⟨o, H4, I4, ps, eo, e4⟩ => ?_
  subst eo e4
  have I5 : Inv X pins σ H4 { s4 with heap := s4.heap.push { cls := .type "slice", data := .fields #[vl, vu, vs] } } := I4.kept (t' := s4.toks) fun b ob q => Heap.get?_push_of_some _ q
  obtain ⟨its, r, ht, hz⟩ := I5.tuple hx
  have hlen := r.length
  show wpAny (model X.prog X.w) X.A (subscriptTail e (.Slice none none (some (.UnaryOp .USub (.Constant (.int 1) k p1) p2)) p3) (.ref a) (.ref s4.heap.objs.size)) (EP X pins σ Q) X.xe { s4 with heap := s4.heap.push { cls := .type "slice", data := .fields #[vl, vu, vs] } }
  refine tail_any (ops := [.ref a, .ref s4.heap.objs.size]) ht.typeIs (PyProof.Rows.slot_tuple_getitem.lookup) ?_ (by with_unfolding_all rfl)
  refine HT.getItem_tuple_rev ht (Heap.IsSliceOf.new _ vl vu vs) pl pu ps ?_ (by rw [List.size_toArray]; omega)
  refine ⟨.ref _, _, I5.laid (t' := s4.toks) (o := .tup xs.reverse) (fun b ob q => Heap.get?_push_of_some _ q) (Nat.le_refl _) ?_, rfl, q _ (I5.hok.fresh (Nat.le_refl _))⟩
  exact ⟨by rw [List.length_reverse]; exact hz, _, r.reverse, _, Heap.get?_push_size _ rfl, rfl, _, rfl⟩
theorem de_rev {k : Nat} {p1 p2 p3 pos : Pos} (ha : PE X a (rdE X.K A)) : PE X (.Subscript a (.Slice none none (some (.UnaryOp .USub (.Constant (.int 1) k p1) p2)) p3) pos) (rdE X.K (mRev A)) := wkE (pe_revT ha) fun σ H Q q => by
  obtain ⟨m, S, ρ, w, S', q, e, p⟩ := q
  obtain ⟨⟨wx, S1⟩, e1, e2⟩ := Option.bind_eq_some_iff.mp e
  refine ⟨m, S, ρ, wx, S1, q, e1, fun ext H1 x f q1 fr r => ?_⟩
  simp only [revD] at e2
  split at e2
  · cases e2
    obtain ⟨t, xs, rfl, h, r1⟩ := rp_tup r
    exact ⟨t, xs, rfl, h, fun t ht => newT (p.at f q1 fr) q1 (rpAll_rev r1) t ht⟩
  · cases e2
end
end DL
end
noncomputable section
namespace DL
open PySem PySem.Spec PyProof.Rows L2

section
variable {prog : Program} {w : World} {A : Around} {E : Value → Shared → Prop}
/-- pairs put into a table, one after the other -/
def mergeH (acc : List (List Key × Addr × Value)) : List (List Key × Addr × Value) → List (List Key × Addr × Value)
  | [] => acc
  | q :: qs => mergeH (storedH acc q.1 q.2.1 q.2.2) qs
theorem storedH_len (xs : List (List Key × Addr × Value)) (k : List Key) (b : Addr) (u : Value) : (storedH xs k b u).length ≤ xs.length + 1 := by
  unfold storedH
  split
  · rw [List.length_map]; omega
  · rw [List.length_append, List.length_cons, List.length_nil]; omega
theorem key_mono {h h' : Heap} {k : List Key} {a : Addr} (x : (tupleKind (mixKind prog w)).is h k a) (e : ∀ o, h.get? a = some o → h'.get? a = some o) : (tupleKind (mixKind prog w)).is h' k a := by
  obtain ⟨o, its, n, h1, r⟩ := (show IsTupleKey (mixKind prog w) h k a from x)
  exact ⟨o, its, n, e _ h1, r⟩
theorem dictH_mono {h h' : Heap} {d : Addr} {xs : List (List Key × Addr × Value)} (x : h.DictOfH (tupleKind (mixKind prog w)) d xs) (e : ∀ o, h.get? d = some o → h'.get? d = some o) (ex : ∀ q ∈ xs, ∀ o, h.get? q.2.1 = some o → h'.get? q.2.1 = some o) :
    h'.DictOfH (tupleKind (mixKind prog w)) d xs := by
  obtain ⟨o, es, ep, h1, h2, h3, h4, h5, h6⟩ := x
  exact ⟨o, es, ep, e _ h1, h2, h3, h4, fun q hq => key_mono (h5 q hq) (ex q hq), h6⟩
theorem storedH_mem {xs : List (List Key × Addr × Value)} {k : List Key} {b : Addr} {u : Value} {P : Addr → Prop} (h : ∀ x ∈ xs, P x.2.1) (hb : P b) : ∀ x ∈ storedH xs k b u, P x.2.1 := by
  unfold storedH
  split
  · intro x hx
    obtain ⟨y, hy, e⟩ := List.mem_map.mp hx
    subst e
    unfold putAt
    split
    · exact h y hy
    · exact h y hy
  · intro x hx
    rcases List.mem_append.mp hx with z | z
    · exact h x z
    · have : x = (k, b, u) := by simpa using z
      subst this
      exact hb
theorem upd_loopT {R : Result → Shared → Prop} {S I l : Addr} {items : Array Value} {res : Value} (hh : A.handled = none) (hu : A.units + 1 < cLine) (hlS : l < S) (hSI : S < I) :
    ∀ (rest : List (List Key × Addr × Value)) (i : Nat) (acc : List (List Key × Addr × Value)) (ix : Int) (t : Tok) (s : Shared), items.size = i + rest.length → acc.length + rest.length ≤ sizeLine →
      (∀ (j : Nat) (q : List Key × Addr × Value), rest[j]? = some q → ∃ (b : Addr), items[i + j]? = some (.ref b) ∧ b < S ∧ q.2.1 < S ∧ IsTup s.heap b #[.ref q.2.1, q.2.2] ∧ (tupleKind (mixKind prog w)).is s.heap q.1 q.2.1) →
      s.heap.IsListIter I l i → s.heap.IsList l items → s.heap.DictOfH (tupleKind (mixKind prog w)) S acc → (∀ x ∈ acc, x.2.1 < S) →
      (∀ h' tk, h'.DictOfH (tupleKind (mixKind prog w)) S (mergeH acc rest) → (∀ b o, b < S → s.heap.get? b = some o → h'.get? b = some o) → R (.ok (.ret res)) { s with heap := h', toks := tk }) →
      codeAny (model prog w) A (.builtin "dict.update.loop" ⟨[.ref S, .ref I, .int ix t, res], []⟩) R s
  | [], i, acc, ix, t, s, hsz, hln, ht, hit, hl, hm, ha, hR => by
    refine codeAny_builtin ud_entry ?_
    rw [Around.under_plainId ud_plain _]
    show wpAny _ A.in1 (pyNext (.ref I) >>= _) _ _ s
    refine wpAny_bind (wpAny_pyNext_list_end (A := A.in1) hh hit hl (by first | exact Array.getElem?_eq_none (Nat.le_of_eq hsz) | (simp at hsz; simp; omega)) fun h' he => ?_)
    show wpAny _ A.in1 (Builtin.Dict.addKeywords S [] >>= _) _ _ _
    refine wpAny_bind (wpAny_pure (wpAny_pure ?_))
    have nI : ∀ {c : Addr}, c < S → c ≠ I := fun h => Nat.ne_of_lt (Nat.lt_trans h hSI)
    refine hR h' s.toks ?_ fun b o hb e => he b o (nI hb) e
    exact dictH_mono hm (fun o e => he S o (Nat.ne_of_lt hSI) e) fun q hq o e => he _ o (nI (ha q hq)) e
  | q :: rest, i, acc, ix, t, s, hsz, hln, ht, hit, hl, hm, ha, hR => by
    obtain ⟨b, hb, hbS, hqS, htup, hk⟩ := ht 0 q rfl
    rw [List.length_cons] at hsz hln
    refine codeAny_builtin ud_entry ?_
    rw [Around.under_plainId ud_plain _]
    show wpAny _ A.in1 (pyNext (.ref I) >>= _) _ _ s
    refine wpAny_bind (wpAny_pyNext_list_item (x := .ref b) hit hl (by simpa using hb) fun h1 hit1 hs1 => ?_)
    have nI : ∀ {c : Addr}, c < S → c ≠ I := fun h => Nat.ne_of_lt (Nat.lt_trans h hSI)
    have nS : ∀ {c : Addr}, c < S → c ≠ S := fun h => Nat.ne_of_lt h
    have SI : S ≠ I := Nat.ne_of_lt hSI
    have e1 : ∀ c o, c ≠ I → s.heap.get? c = some o → h1.get? c = some o := fun c o n z => hs1.extBut c o n z
    have ht1 : IsTup h1 b #[.ref q.2.1, q.2.2] := htup.extBut hs1.extBut (nI hbS)
    have hl1 : h1.IsList l items := hl.extBut hs1.extBut (nI hlS)
    have hm1 : h1.DictOfH (tupleKind (mixKind prog w)) S acc := dictH_mono hm (fun o e => e1 _ o SI e) fun q hq o e => e1 _ o (nI (ha q hq)) e
    have hk1 : (tupleKind (mixKind prog w)).is h1 q.1 q.2.1 := key_mono hk fun o e => e1 _ o (nI hqS) e
    obtain ⟨o, ho, hc, n, hd⟩ := id ht1
    show wpAny _ A.in1 (holding [Value.ref b] _ >>= _) _ _ _
    refine wpAny_bind (wpAny_holding ?_)
    refine wpAny_bind (wpAny_tryCatch ?_)
    unfold Builtin.Dict.pairItems
    refine wpAny_bind (wpAny_typeOf (T := "tuple") ⟨o, ho, hc⟩ ?_)
    rw [if_pos (by first | decide | rfl | simp)]
    refine wpAny_bind (wpAny_seqItems ho hd (wpAny_pure ?_))
    show wpAny _ A.in1 (holding [Value.ref q.2.1, q.2.2] (dictSet S (.ref q.2.1) q.2.2)) _ _ _
    refine wpAny_holding (wpAny_dictSet_heap (knd := tupleKind (mixKind prog w)) (k := q.1) (show A.in1.units < cLine from hu) hk1 hm1 (fun h2 hm2 hs2 => ?_) (by omega))
    have e2 : ∀ c o, c ≠ S → h1.get? c = some o → h2.get? c = some o := fun c o n z => hs2.extBut c o n z
    refine wpAny_pure ⟨plainId_quiet ud_plain _, upd_loopT (items := items) hh hu hlS hSI rest (i + 1) (storedH acc q.1 q.2.1 q.2.2) (ix + 1) 0 _ (show items.size = i + 1 + rest.length by omega) ?_ (fun j q' e => ?_) ?_ ?_ hm2 ?_ fun h' tk hd' k => ?_⟩
    · have z := storedH_len acc q.1 q.2.1 q.2.2
      omega
    · obtain ⟨b', hb', hbS', hqS', htup', hk'⟩ := ht (j + 1) q' (by simpa using e)
      refine ⟨b', ?_, hbS', hqS', (htup'.extBut hs1.extBut (nI hbS')).extBut hs2.extBut (nS hbS'), key_mono hk' fun o z => e2 _ o (nS hqS') (e1 _ o (nI hqS') z)⟩
      rw [show i + 1 + j = i + (j + 1) by omega]
      exact hb'
    · exact hit1.at fun o' e => e2 I o' (Ne.symm SI) e
    · exact hl1.extBut hs2.extBut (nS hlS)
    · exact storedH_mem (P := fun c => c < S) ha hqS
    · exact hR h' tk hd' fun c oc h3 e => k c oc h3 (e2 c oc (nS h3) (e1 c oc (nI h3) e))
/-- dict(l) of a list of pairs, the keys tuples -/
theorem call_dict_pairsT {s : Shared} {l : Addr} {ol : Obj} {items : Array Value} {n : Nat} {prs : List (List Key × Addr × Value)} {Q : Value → Shared → Prop} (hh : A.handled = none) (hu : A.units + 2 < cLine) (hl : s.heap.get? l = some ol) (hc : ol.cls = .type "list") (hd : ol.dict = none)
    (hdat : ol.data = .seq items n) (hsz : items.size = prs.length) (hln : prs.length ≤ sizeLine)
    (ht : ∀ (j : Nat) (q : List Key × Addr × Value), prs[j]? = some q → ∃ (b : Addr), items[j]? = some (.ref b) ∧ IsTup s.heap b #[.ref q.2.1, q.2.2] ∧ (tupleKind (mixKind prog w)).is s.heap q.1 q.2.1)
    (h : ∀ h' tk, h'.DictOfH (tupleKind (mixKind prog w)) s.heap.objs.size (mergeH [] prs) → (∀ b o, s.heap.get? b = some o → h'.get? b = some o) → Q (.ref s.heap.objs.size) { s with heap := h', toks := tk }) :
    wpAny (model prog w) A (call (.type "dict") [.ref l]) Q E s := by
  refine callType_codes (Q₁ := fun obj s₁ => obj = .ref s.heap.objs.size ∧ s₁ = { s with heap := s.heap.push { cls := .type "dict", data := .dict #[] } }) PySem.F.kt_called_dict (PySem.F.kt_typeCall_dict_1 _) PySem.F.entry_dict_init (kt_code_dict_new _ ⟨rfl, rfl⟩) ?_
  rintro obj s₁ ⟨rfl, rfl⟩
  have hnew : (s.heap.push { cls := .type "dict", data := .dict #[] }).DictOf (mixKind prog w) s.heap.objs.size [] := Heap.DictOf.new s.heap
  have hnewH : (s.heap.push { cls := .type "dict", data := .dict #[] }).DictOfH (tupleKind (mixKind prog w)) s.heap.objs.size [] := ⟨_, #[], 0, Heap.get?_push_size _ rfl, ⟨rfl, rfl, rfl⟩, rfl, rfl, fun x hx => (by cases hx), List.nodup_nil⟩
  have k0 : ∀ b o, s.heap.get? b = some o → (s.heap.push { cls := .type "dict", data := .dict #[] }).get? b = some o := fun b o e => Heap.get?_push_of_some _ e
  refine ⟨hnew.typeIs, PySem.F.args_dict_init_2 _ _, ?_⟩
  unfold Builtin.«dict.__init__»
  refine wpAny_bind ?_
  unfold Builtin.Dict.selfAndRest
  refine wpAny_bind (wpAny_notOrdered_dict hnew.typeIs ?_)
  show wpAny _ _ (pure (s.heap.objs.size, [Value.ref l])) _ _ _
  refine wpAny_pure ?_
  show wpAny _ _ (Builtin.Dict.updateFrom "dict.__init__" s.heap.objs.size (.ref l) [] .none) _ _ _
  unfold Builtin.Dict.updateFrom
  refine wpAny_bind (wpAny_typeOf (T := "list") ⟨ol, k0 _ _ hl, hc⟩ ?_)
  rw [if_pos (by first | decide | rfl | simp)]
  refine wpAny_bind (miss_list (k0 _ _ hl) hc hdat hd hh fun h1 tk1 hk1 => ?_)
  rw [if_pos (show (none : Option Value).isNone = true from rfl)]
  refine wpAny_bind (wpAny_rule ?_)
  have hl1 : h1.IsList l items := ⟨ol, hk1 _ _ (k0 _ _ hl), hc, n, hdat⟩
  have hS1 : s.heap.objs.size < h1.objs.size := by
    have e : (s.heap.push { cls := .type "dict", data := .dict #[] }).get? s.heap.objs.size = some { cls := .type "dict", data := .dict #[] } := Heap.get?_push_size _ rfl
    exact Heap.lt_size (hk1 _ _ e)
  refine wpAny_bind (wpAny_pyIter_list hl1 ?_)
  have k2 : ∀ b o, h1.get? b = some o → (h1.push { cls := .type "list_iterator", data := .fields #[.ref l, .int 0 0] }).get? b = some o := fun b o e => Heap.get?_push_of_some _ e
  have hlt : l < s.heap.objs.size := Heap.lt_size hl
  have key := upd_loopT (prog := prog) (w := w) (A := A.in1) (R := wants (fun r s₂ => r = .none ∧ Q (.ref s.heap.objs.size) s₂) E) (S := s.heap.objs.size) (I := h1.objs.size) (l := l) (items := items) (res := Value.none) hh (show A.units + 1 + 1 < cLine by omega)
    hlt hS1 prs 0 [] 0 0
    { s with heap := h1.push { cls := .type "list_iterator", data := .fields #[.ref l, .int 0 0] }, toks := tk1 } (by rw [hsz, Nat.zero_add]) (by rw [List.length_nil, Nat.zero_add]; exact hln)
    (fun j q e => by
      obtain ⟨b, e1, e2, e3⟩ := ht j q e
      have kk : ∀ c o, s.heap.get? c = some o → (h1.push { cls := .type "list_iterator", data := .fields #[.ref l, .int 0 0] }).get? c = some o := fun c o z => k2 _ _ (hk1 _ _ (k0 _ _ z))
      obtain ⟨o, its, n, g1, r⟩ := (show IsTupleKey (mixKind prog w) s.heap q.1 q.2.1 from e3)
      exact ⟨b, by rw [Nat.zero_add]; exact e1, e2.lt, Heap.lt_size g1, e2.keeps kk, key_mono e3 fun o z => kk _ _ z⟩)
    ⟨_, Heap.get?_push_size _ rfl, rfl, rfl⟩ (hl1.at fun o e => k2 _ _ e) (dictH_mono hnewH (fun o e => k2 _ _ (hk1 _ _ e)) fun q hq => by cases hq) (fun x hx => by cases hx)
    (fun h' tk hd' k => ⟨rfl, h h' tk hd' fun b o e => k b o (Heap.lt_size e) (k2 _ _ (hk1 _ _ (k0 _ _ e)))⟩)
  first
    | exact wpAny_pure ⟨plainId_quiet ud_plain _, key⟩
    | exact wpAny_bind (wpAny_pure (wpAny_pure ⟨plainId_quiet ud_plain _, key⟩))
end
theorem atKey_notin {xs : List (List Key × Addr × Value)} {k : List Key} (h : k ∉ xs.map (·.1)) : atKey xs k = none := by
  unfold atKey
  rw [Option.map_eq_none_iff, List.find?_eq_none]
  intro x hx e
  exact h (List.mem_map.mpr ⟨x, hx, by simpa using e⟩)
theorem mergeH_nd : ∀ (qs acc : List (List Key × Addr × Value)), ((acc ++ qs).map (·.1)).Nodup → mergeH acc qs = acc ++ qs
  | [], acc, _ => by simp [mergeH]
  | q :: qs, acc, h => by
    have hq : q.1 ∉ acc.map (·.1) := by
      rw [List.map_append, List.nodup_append] at h
      intro z
      exact h.2.2 _ z _ (by simp) rfl
    show mergeH (storedH acc q.1 q.2.1 q.2.2) qs = _
    rw [storedH_new (atKey_notin hq), mergeH_nd qs (acc ++ [(q.1, q.2.1, q.2.2)]) (by simpa using h)]
    simp
section
variable {X : Cx}
theorem call_dictPT (hcalm : X.calm = true) (hu : X.A.units + 2 < cLine) : CallR X (.type "dict") (fun xs H Q => ∃ (a : Addr) (ps : List Addr) (kvs : List (List Key × V)), xs = [.ref a] ∧ SqL X.K H a (ps.map V.ref) ∧ Paired (fun p kv => ∃ b, H p = some (.tup [.ref b, kv.2]) ∧ H b = some (.tup (kv.1.map kV))) ps kvs ∧
    (kvs.map (·.1)).Nodup ∧ ∀ p, H p = none → Q (.ref p) (upd H p (.dT kvs))) := by
  intro pins s σ H xs us Q I r q
  obtain ⟨a, ps, kvs, ex, hq, hp, hnd, q⟩ := q
  subst ex
  obtain ⟨u, eu, rx⟩ := vals1 r
  subst eu
  cases rx
  obtain ⟨its, rv, pl, hz⟩ := I.list hq
  have ei := refs_at rv
  subst ei
  rw [List.length_map] at hz
  have tab : ∀ {ps : List Addr} {kvs : List (List Key × V)}, Paired (fun p (kv : List Key × V) => ∃ b, H p = some (.tup [.ref b, kv.2]) ∧ H b = some (.tup (kv.1.map kV))) ps kvs →
      ∃ prs : List (List Key × Addr × Value), KT H kvs prs ∧ prs.length = ps.length ∧ ∀ (j : Nat) (q : List Key × Addr × Value), prs[j]? = some q → ∃ b, ps[j]? = some b ∧ IsTup s.heap b #[.ref q.2.1, q.2.2] ∧ (tupleKind (mixKind X.prog X.w)).is s.heap q.1 q.2.1 := by
    intro ps kvs h
    induction h with
    | nil => exact ⟨[], .nil, rfl, fun j q e => by simp at e⟩
    | @cons p kv ps kvs h t ih =>
      obtain ⟨prs, r, hl, hp⟩ := ih
      obtain ⟨b, h1, h2⟩ := h
      obtain ⟨its, rv, ht, _⟩ := I.tuple (.inl (.of h1))
      obtain ⟨u, y, ei, ru, ry⟩ := vals2 rv
      subst ei
      cases ru
      refine ⟨(kv.1, b, y) :: prs, .cons ⟨rfl, h2, ry⟩ r, by rw [List.length_cons, List.length_cons, hl], fun j q e => ?_⟩
      cases j with
      | zero =>
        have e' : (kv.1, b, y) = q := Option.some.inj e
        subst e'
        exact ⟨p, rfl, ht, key_of I.hok h2⟩
      | succ j =>
        obtain ⟨c, e1, e2, e3⟩ := hp j q (by simpa using e)
        exact ⟨c, by simpa using e1, e2, e3⟩
  obtain ⟨prs, rel, hl, hpr⟩ := tab hp
  obtain ⟨o, n, ho, hc, hd, hdat⟩ := pl
  have keys : ∀ {l : List (List Key × V)} {m : List (List Key × Addr × Value)}, KT H l m → m.map (·.1) = l.map (·.1) := by
    intro l m q
    induction q with
    | nil => rfl
    | cons h t ih => rw [List.map_cons, List.map_cons, ih, h.1]
  refine call_dict_pairsT (prs := prs) (I.ok.hd hcalm) hu ho hc hd hdat (by simp [hl]) (by rw [hl]; exact hz) (fun j q' e => ?_) fun h' tk hd' k => ?_
  · obtain ⟨b, e1, e2, e3⟩ := hpr j q' e
    exact ⟨b, by simp [e1], e2, e3⟩
  · rw [mergeH_nd prs [] (by rw [List.nil_append, keys rel]; exact hnd), List.nil_append] at hd'
    have hm : (s.heap.objs.size == sysModules) = false := beq_eq_false_iff_ne.mpr (Nat.ne_of_gt I.big)
    have hlen : kvs.length ≤ sizeLine := by rw [Paired.length rel, hl]; exact hz
    obtain ⟨o2, es, ep, g1, g2, g3, g4, g5, g6⟩ := hd'
    have hf := I.hok.fresh (Nat.le_refl s.heap.objs.size)
    refine ⟨.ref s.heap.objs.size, upd H s.heap.objs.size (.dT kvs), I.laid (t' := tk) k (Nat.le_refl _) ?_, rfl, q _ hf⟩
    exact ⟨hlen, hm, prs, rel.keeps fun b ys e => upd_keeps hf _ _ e, o2, es, ep, g1, g2, g3, g4, g6⟩
end
end DL
end
noncomputable section
namespace DL
open PySem PySem.Spec PyProof.Rows L2

theorem _root_.L2.Room.units65 {k : Nat} {A : Around} (r : Room k A) : A.units + 65 < cLine := by have := r.un; omega
/-! ### keys -/
def keyD : PyData → Option Key
  | .int i => some (.inl i)
  | .str x => some (.inr x)
  | _ => none
def keysD : List PyData → Option (List Key)
  | [] => some []
  | d :: ds => (keyD d).bind fun k => (keysD ds).map (k :: ·)
theorem keyD_of {K : PySem.W.Frag} {H : Hp} {v : V} {d : PyData} {k : Key} (e : keyD d = some k) (r : Rp K H v d) : v = kV k := by
  cases d with
  | int i => cases e; cases r; rfl
  | str x => cases e; cases r; rfl
  | _ => cases e
theorem keysD_of {K : PySem.W.Frag} {H : Hp} : ∀ {ds : List PyData} {ks : List Key} {vs : List V}, keysD ds = some ks → RpAll K H vs ds → vs = ks.map kV
  | [], _, _, e, .nil => by cases e; rfl
  | d :: ds, ks, _, e, .cons r t => by
    obtain ⟨k, e1, e2⟩ := Option.bind_eq_some_iff.mp e
    obtain ⟨ks', e3, rfl⟩ := Option.map_eq_some_iff.mp e2
    rw [keyD_of e1 r, keysD_of e3 t]; rfl
def valW {κ : Type} [DecidableEq κ] (kvs : List (κ × W)) (k : κ) : Option W := (kvs.find? fun kv => decide (kv.1 = k)).map (·.2)
theorem valW_of {κ : Type} [DecidableEq κ] {K : PySem.W.Frag} {m : List Addr} {H : Hp} {us : List (κ × V)} {kvs : List (κ × W)} {k : κ} {w : W} (r : Paired (fun (p : κ × V) (q : κ × W) => p.1 = q.1 ∧ RW K m H p.2 q.2) us kvs) (e : valW kvs k = some w) :
    ∃ v, valV us k = some v ∧ RW K m H v w := by
  induction r with
  | nil => cases e
  | @cons p q ps qs h t ih =>
    by_cases c : q.1 = k
    · have e1 : valW (q :: qs) k = some q.2 := by simp [valW, List.find?_cons, c]
      rw [e1] at e; cases e
      exact ⟨p.2, valV_pos (h.1.trans c), h.2⟩
    · have e1 : valW (q :: qs) k = valW qs k := by simp [valW, List.find?_cons, c]
      rw [e1] at e
      obtain ⟨v, h1, h2⟩ := ih e
      exact ⟨v, by rw [valV_neg (fun z => c (h.1.symm.trans z))]; exact h1, h2⟩
/-- d[k] -/
def dgetF : W → W → Sto → Option (W × Sto)
  | .loc n, .d k, S => match S[n]? with
    | some (.dicK kvs) => (keyD k).bind fun k => (valW kvs k).map fun w => (w, S)
    | some (.dicT kvs) => match k with
      | .tuple ds => (keysD ds).bind fun k => (valW kvs k).map fun w => (w, S)
      | _ => none
    | _ => none
  | _, _, _ => none
theorem rdE_mono {K : PySem.W.Frag} {A : ME} {σ : L2.St} {H : Hp} {Q Q' : VK} (h : rdE K A σ H Q) (k : ∀ v H', Q v H' → Q' v H') : rdE K A σ H Q' := by
  obtain ⟨m, S, ρ, w, S', q, e, p⟩ := h
  exact ⟨m, S, ρ, w, S', q, e, fun ext H' v f q fr r => k _ _ (p ext H' v f q fr r)⟩
theorem dget_rd {K : PySem.W.Frag} {x y : V} {H : Hp} {Q : VK} (h : rOp K dgetF x y H Q) : ∃ a v, x = .ref a ∧ DGet H a y (some v) ∧ Q v H := by
  obtain ⟨m, S, ρ, σ, wx, wy, w, S', q, hx, hy, e, p⟩ := h
  unfold dgetF at e
  split at e
  · obtain ⟨a, hm, rfl⟩ := hx
    split at e
    · rename_i kvs hs
      obtain ⟨k, e1, e⟩ := Option.bind_eq_some_iff.mp e
      obtain ⟨w', e2, e3⟩ := Option.map_eq_some_iff.mp e
      cases e3
      obtain ⟨b, hb, us, hv, pr⟩ := q.obs _ _ hs
      rw [hm] at hb; cases hb
      obtain ⟨v, h1, h2⟩ := valW_of pr e2
      obtain rfl := keyD_of e1 hy
      exact ⟨a, v, rfl, by rw [← h1]; exact DGet.k hv, p.now q h2⟩
    · rename_i kvs hs
      split at e
      · obtain ⟨k, e1, e⟩ := Option.bind_eq_some_iff.mp e
        obtain ⟨w', e2, e3⟩ := Option.map_eq_some_iff.mp e
        cases e3
        obtain ⟨b, hb, us, hv, pr⟩ := q.obs _ _ hs
        rw [hm] at hb; cases hb
        obtain ⟨v, h1, h2⟩ := valW_of pr e2
        obtain ⟨c, xs, rfl, hc, rx⟩ := rp_tupH hy
        obtain rfl := keysD_of e1 rx
        exact ⟨a, v, rfl, by rw [← h1]; exact DGet.t hv hc, p.now q h2⟩
      · cases e
    · cases e
  · cases e
section
variable {X : Cx} {e a b c : Expr} {rest es : List Expr} {pos : Pos} {A B C : ME} {T U : MT} {R : MA}
theorem de_dget {k : Nat} (hr : Room k X.A) (ha : PE X a (rdE X.K A)) (hb : PE X b (rdE X.K B)) (hs : NoSl b := by intro _ _; rfl) : PE X (.Subscript a b pos) (rdE X.K (mBin dgetF A B)) :=
  wkE (pe_dget (by have := hr.un; omega) ha hb hs) fun σ H Q q => rdE_mono (binE q) fun x H1 q1 => rdE_mono q1 fun y H2 q2 => dget_rd q2
/-- sorted(x), a list of one's own -/
def sortedB := on1 fun w S => (deref S w).bind fun d => match d with
  | .list ds => (ofPs ds).bind fun cs => if sortable cs = true then some (.loc S.length, S ++ [.lst ((toPs (sortC cs)).map W.d)]) else none
  | _ => none
theorem call_sortedBB {k : Nat} (hr : Room k X.A) : CallR X (.builtin "sorted") (rC X.K sortedB) := by
  have raw : CallR X (.builtin "sorted") (fun vs H Q => ∃ a xs cs, vs = [.ref a] ∧ SqL X.K H a xs ∧ RpAll X.K H xs (toPs cs) ∧ sortable cs = true ∧ ∀ p ys, H p = none → RpAll X.K H ys (toPs (sortC cs)) → Q (.ref p) (upd H p (.lst ys))) := by
    intro pins s σ H vs us Q I rx h
    obtain ⟨a, xs, cs, rfl, hs, r, ok, q⟩ := h
    cases rx with
    | cons r1 t =>
      cases t
      cases r1
      exact sorted_run I hs r ok (by have := hr.un; omega) q
  intro pins s σ H vs us Q I rx h
  obtain ⟨m, S, ρ, σ', w0, w, S', v, rfl, q, r, e, p⟩ := rC1 h
  obtain ⟨d, e1, e⟩ := Option.bind_eq_some_iff.mp e
  split at e
  · obtain ⟨cs, e2, e3⟩ := Option.bind_eq_some_iff.mp e
    split at e3
    · rename_i hok
      cases e3
      obtain ⟨a, xs, rfl, h, r1⟩ := deref_list q r e1
      rw [ofPs_eq _ _ e2] at r1
      exact raw pins s σ H _ us Q I rx ⟨a, xs, cs, rfl, h, r1, hok, fun t ys ht ry => newB p q (rpAll_rw ry) t ht⟩
    · cases e3
  · cases e
end

/-! ### one clause, whatever each turn makes -/
def lcG {β : Type} (g : MG) (T : MT) (E : DEnv → Sto → Option (β × Sto)) (vs : List Nat) (ρ : DEnv) : List W → Sto → Option (List β × Sto)
  | [], S => some ([], S)
  | w :: ws, S => (g w (wipeD ρ vs) S).bind fun p => (T p.1 p.2).bind fun b => if b.1 = true then (E p.1 b.2).bind fun y => (lcG g T E vs ρ ws y.2).bind fun r => some (y.1 :: r.1, r.2) else lcG g T E vs ρ ws b.2
section
variable {K : PySem.W.Frag} {it : MI} {g : MG} {T : MT} {β : Type} {E : DEnv → Sto → Option (β × Sto)} {te : TE} {RB : List Addr → Hp → V → β → Prop} {vs : List Nat} {σ : L2.St} {H : Hp} {m : List Addr} {S S1 S9 : Sto} {ρ : DEnv} {ws : List W} {all : List β}
theorem rd_lcG (hmono : ∀ {m ext : List Addr} {H H1 : Hp} {v : V} {y : β}, RB m H v y → Kp H H1 → RB (m ++ ext) H1 v y)
    (hE : ∀ {σ : L2.St} {H : Hp} {Q : VK} {m : List Addr} {S : Sto} {ρ : DEnv} {y : β} {S' : Sto}, Sim K m S ρ σ H → E ρ S = some (y, S') → (∀ ext H' v, Fresh ext H → Sim K (m ++ ext) S' ρ σ H' → Fr m H H' → RB (m ++ ext) H' v y → Q v H') → te σ H Q)
    (q : Sim K m S ρ σ H) (e1 : it ρ S = some (ws, S1)) (hh2 : lcG g T E vs ρ ws S1 = some (all, S9)) (hlen : all.length ≤ sizeLine) {Q' : VK}
    (fin : ∀ ext H1 D zs, Fresh ext H → Sim K (m ++ ext) S9 ρ σ H1 → Fr m H H1 → D ∉ m ++ ext → H1 D = some (.lst zs) → Paired (RB (m ++ ext) H1) zs all → Q' (.ref D) H1) :
    tLc (rdI K it) (rdG K vs g) (rdT K T) te vs σ H Q' := by
  have hmono0 : ∀ {m : List Addr} {H H1 : Hp} {v : V} {y : β}, RB m H v y → Kp H H1 → RB m H1 v y := fun {m H H1 v y} r k => by
    have := hmono (ext := []) r k
    rwa [List.append_nil] at this
  refine ⟨m, S, ρ, ws, S1, q, e1, fun ext J H1 f q1 fr yl D hD => ?_⟩
  have fin1 : ∀ ext1 H2 D zs, Fresh ext1 H1 → Sim K (m ++ ext ++ ext1) S9 ρ σ H2 → Fr (m ++ ext) H1 H2 → D ∉ m ++ ext ++ ext1 → H2 D = some (.lst zs) → Paired (RB (m ++ ext ++ ext1) H2) zs all → Q' (.ref D) H2 := fun ext1 H2 D zs a b c d e f' => by
    rw [List.append_assoc] at b d f'
    exact fin (ext ++ ext1) H2 D zs (f.append fr q1 a) b (fr.trans f c) d e f'
  clear fin fr f q e1
  generalize m ++ ext = m at *
  have keepD := upd_keeps (o := HO.lst []) hD
  have q2 := q1.same keepD
  have nD := q1.nomem hD
  have kpD : Kp H1 (upd H1 D (.lst [])) := upd_kp hD
  refine ⟨fun i n H' => ∃ e2 S2 acc r zs, n = ws.length - i ∧ i ≤ ws.length ∧ Fresh e2 (upd H1 D (.lst [])) ∧ Sim K (m ++ e2) S2 ρ σ H' ∧ (∀ a o, H1 a = some o → (a ∉ m ∨ Imm o) → H' a = some o) ∧ D ∉ m ++ e2 ∧ H' D = some (.lst zs) ∧ Paired (RB (m ++ e2) H') zs acc ∧ lcG g T E vs ρ (ws.drop i) S2 = some (r, S9) ∧ all = acc ++ r,
    ⟨_, [], S1, [], all, [], rfl, Nat.zero_le _, fun _ h => absurd h (by simp), by rwa [List.append_nil], fun a o h _ => keepD a o h, by rwa [List.append_nil], upd_same, .nil, hh2, rfl⟩, ?_⟩
  rintro i n H' ⟨e2, S2, acc, r, zs, rfl, hi, f2, q3, fr2, n2, hzs, pz, e, hall⟩
  have fr2' : Fr m H1 H' := fr2
  have kp2 : Kp H1 H' := fr2'.kp
  have f2o : Fresh e2 H1 := fresh_old f2 keepD
  by_cases hlt : i < ws.length
  · rw [List.drop_eq_getElem_cons hlt] at e
    simp only [lcG] at e
    obtain ⟨⟨ρ3, S3⟩, e3', e⟩ := Option.bind_eq_some_iff.mp e
    obtain ⟨⟨b, S4⟩, e4, e⟩ := Option.bind_eq_some_iff.mp e
    refine .inr ⟨yl.go i H' hlt kp2, fun H4 => ∃ n', n' < ws.length - i ∧ ∃ e2 S2 acc r zs, n' = ws.length - (i + 1) ∧ i + 1 ≤ ws.length ∧ Fresh e2 (upd H1 D (.lst [])) ∧ Sim K (m ++ e2) S2 ρ σ H4 ∧ (∀ a o, H1 a = some o → (a ∉ m ∨ Imm o) → H4 a = some o) ∧ D ∉ m ++ e2 ∧ H4 D = some (.lst zs) ∧ Paired (RB (m ++ e2) H4) zs acc ∧ lcG g T E vs ρ (ws.drop (i + 1)) S2 = some (r, S9) ∧ all = acc ++ r, fun H4 z => z, fun x H2 y => ?_⟩
    obtain ⟨kp, rx⟩ := yl.yld i H' x H2 ws[i] (List.getElem?_eq_getElem hlt) kp2 y
    have q4 := q3.same kp
    have base : Fresh e2 (upd H1 D (.lst [])) := f2
    have hD2 : H2 D = some (.lst zs) := kp _ _ hzs
    refine ⟨m ++ e2, S2, wipeD ρ vs, ws[i], ρ3, S3, q4.wipe vs, rx.mono (Kp.refl _), e3', fun ext3 σ3 H3 hw f3 q5 fr3 => ⟨by rw [hw, wipe_twice], ?_⟩⟩
    have simAt : ∀ (ext : List Addr) (S5 : Sto) (ρ5 : DEnv) (σ5 : L2.St) (H5 : Hp), Fresh ext H2 → Sim K (m ++ e2 ++ ext) S5 ρ5 σ5 H5 → Fr (m ++ e2) H2 H5 →
        Sim K (m ++ (e2 ++ ext)) S5 ρ σ H5 ∧ Fresh (e2 ++ ext) (upd H1 D (.lst [])) ∧ (∀ a o, H1 a = some o → (a ∉ m ∨ Imm o) → H5 a = some o) ∧ D ∉ m ++ (e2 ++ ext) ∧ H5 D = some (.lst zs) ∧ Paired (RB (m ++ (e2 ++ ext)) H5) zs acc := fun ext S5 ρ5 σ5 H5 f5 q6 fr5 => by
      have k5 : Kp H' H5 := (fun a o h i => fr5 a o (kp a o h) (.inr i))
      have nde : D ∉ ext := fun z => by rw [f5 D z] at hD2; cases hD2
      refine ⟨⟨fun j w' ej => ?_, by rw [← List.append_assoc]; exact q6.len, by rw [← List.append_assoc]; exact q6.nd, by rw [← List.append_assoc]; exact q6.obs, q3.rl⟩, ?_, fun a o h c => ?_, ?_, ?_, ?_⟩
      · obtain ⟨v, hv, rv⟩ := q3.slot j w' ej
        refine ⟨v, hv, ?_⟩
        rw [← List.append_assoc]
        exact rv.mono k5
      · intro a ha
        rcases List.mem_append.mp ha with z | z
        · exact f2 a z
        · have h2 := f5 a z
          have nD' : a ≠ D := fun w => nde (w ▸ z)
          rw [upd_ne nD']
          cases z3 : H1 a with
          | none => rfl
          | some o =>
            by_cases c : a ∉ m ∨ Imm o
            · have := kp a o (fr2 a o z3 c)
              rw [h2] at this; cases this
            · have am : a ∈ m := Classical.byContradiction fun w => c (.inl w)
              obtain ⟨o', ho⟩ := q4.mem (List.mem_append_left e2 am)
              rw [h2] at ho; cases ho
      · have h1 := fr2 a o h c
        have h2 := kp a o h1
        refine fr5 a o h2 ?_
        rcases c with c | c
        · refine .inl fun z => ?_
          rcases List.mem_append.mp z with z | z
          · exact c z
          · rw [f2o a z] at h; cases h
        · exact .inr c
      · intro z
        rcases List.mem_append.mp z with z | z
        · exact n2 (List.mem_append_left _ z)
        · rcases List.mem_append.mp z with z | z
          · exact n2 (List.mem_append_right _ z)
          · exact nde z
      · exact fr5 D _ hD2 (.inl n2)
      · rw [← List.append_assoc]
        exact Paired.mapP pz fun _ _ h => hmono h k5
    refine ⟨_, S3, ρ3, b, S4, q5, e4, fun ext4 H4 f4 q6 fr4 => ?_⟩
    have ff : Fresh (ext3 ++ ext4) H2 := f3.append fr3 q5 f4
    have fr24 : Fr (m ++ e2) H2 H4 := fr3.trans f3 fr4
    cases b with
    | false =>
      simp only [Bool.false_eq_true, if_false] at e ⊢
      obtain ⟨s1, s2, s3, s4, s5, s6⟩ := simAt (ext3 ++ ext4) S4 _ _ H4 ff (by rwa [← List.append_assoc]) fr24
      exact ⟨_, by omega, _, S4, acc, r, zs, rfl, hlt, s2, s1, s3, s4, s5, s6, e, hall⟩
    | true =>
      simp only [if_true] at e ⊢
      obtain ⟨⟨y, S5⟩, e5, e⟩ := Option.bind_eq_some_iff.mp e
      obtain ⟨⟨r', S6⟩, e6, e7⟩ := Option.bind_eq_some_iff.mp e
      cases e7
      refine hE q6 e5 fun ext5 H5 yv f5 q7 fr5 ry => ?_
      have ff5 : Fresh (ext3 ++ ext4 ++ ext5) H2 := ff.append fr24 (by rwa [← List.append_assoc]) f5
      have fr25 : Fr (m ++ e2) H2 H5 := fr24.trans ff (by rwa [← List.append_assoc])
      obtain ⟨s1, s2, s3, s4, s5, s6⟩ := simAt (ext3 ++ ext4 ++ ext5) S5 _ _ H5 ff5 (by rw [← List.append_assoc, ← List.append_assoc]; exact q7) fr25
      have hacc : acc.length < sizeLine := by
        have : all.length = acc.length + (r'.length + 1) := by rw [hall, List.length_append, List.length_cons]
        omega
      refine ⟨zs, s5, by rw [s6.length]; exact hacc, _, by omega, _, S5, acc ++ [y], r', zs ++ [yv], rfl, hlt, s2, s1.other s4 s5 (fun z => z), fun a o h c => ?_, s4, upd_same, ?_, e6, by rw [hall, List.append_assoc]; rfl⟩
      · have : a ≠ D := fun z => by subst z; rw [hD] at h; cases h
        rw [upd_ne this]
        exact s3 a o h c
      · have kk : Kp H5 (upd H5 D (.lst (zs ++ [yv]))) := kp_other s5 fun z => z
        refine paired_app (Paired.mapP s6 fun _ _ z => hmono0 z kk) (.cons ?_ .nil)
        have := hmono0 ry kk
        rwa [show m ++ e2 ++ ext3 ++ ext4 ++ ext5 = m ++ (e2 ++ (ext3 ++ ext4 ++ ext5)) by simp] at this
  · have ei : i = ws.length := by omega
    subst ei
    rw [List.drop_length] at e
    cases e
    rw [List.append_nil] at hall
    subst hall
    exact .inl ⟨yl.stop H' kp2, fin1 e2 H' D zs f2o q3 fr2 n2 hzs pz⟩
end

/-! ### dict([(a, []) for ..]) -/
def pairE (A : ME) : DEnv → Sto → Option ((List Key × Nat) × Sto) := fun ρ S => (A ρ S).bind fun p => match p.1 with
  | .d (.tuple ds) => (keysD ds).map fun k => ((k, p.2.length), p.2 ++ [.lst []])
  | _ => none
def mDicE (it : MI) (g : MG) (T : MT) (A : ME) (vs : List Nat) : ME := fun ρ S => (it ρ S).bind fun p => (lcG g T (pairE A) vs ρ p.1 p.2).bind fun r =>
  @ite _ ((r.1.map (·.1)).Nodup ∧ r.1.length ≤ sizeLine) (gd _) (some (.loc r.2.length, r.2 ++ [.dicT (r.1.map fun q => (q.1, .loc q.2))])) none
/-- the pair in the heap -/
def RBp (m : List Addr) (H : Hp) (v : V) (y : List Key × Nat) : Prop := ∃ p b a, v = .ref p ∧ H p = some (.tup [.ref b, .ref a]) ∧ H b = some (.tup (y.1.map kV)) ∧ m[y.2]? = some a
theorem RBp_mono {m ext : List Addr} {H H1 : Hp} {v : V} {y : List Key × Nat} (r : RBp m H v y) (k : Kp H H1) : RBp (m ++ ext) H1 v y := by
  obtain ⟨p, b, a, rfl, h1, h2, h3⟩ := r
  exact ⟨p, b, a, rfl, k _ _ h1 trivial, k _ _ h2 trivial, by rw [List.getElem?_append_left (List.getElem?_eq_some_iff.mp h3).1]; exact h3⟩
theorem pairE_run {K : PySem.W.Frag} {A : ME} {σ : L2.St} {H : Hp} {Q : VK} {m : List Addr} {S : Sto} {ρ : DEnv} {y : List Key × Nat} {S' : Sto} (q : Sim K m S ρ σ H) (e : pairE A ρ S = some (y, S'))
    (p : ∀ ext H' v, Fresh ext H → Sim K (m ++ ext) S' ρ σ H' → Fr m H H' → RBp (m ++ ext) H' v y → Q v H') : tTup (rdA K (mCons A (mCons (mCall lstB mNil) mNil))) σ H Q := by
  obtain ⟨⟨w, S1⟩, e1, e2⟩ := Option.bind_eq_some_iff.mp e
  simp only at e2
  split at e2
  · rename_i ds
    obtain ⟨k, e3, e4⟩ := Option.map_eq_some_iff.mp e2
    cases e4
    refine ⟨m, S, ρ, [.d (.tuple ds), .loc S1.length], S1 ++ [.lst []], q, ?_, fun ext H1 vs f q1 fr r => ?_⟩
    · simp [mCons, e1, mCall, lstB, mNil]
    · obtain ⟨v, v', rfl, r1, r2⟩ := prd2 r
      obtain ⟨b, xs, rfl, hb, rx⟩ := rp_tupH r1
      obtain rfl := keysD_of e3 rx
      obtain ⟨a, ha, rfl⟩ := r2
      refine ⟨by show 2 ≤ sizeLine; decide, fun t ht => ?_⟩
      exact p ext _ _ f (q1.same (upd_keeps ht)) (fun c o h z => upd_keeps ht _ _ (fr c o h z)) ⟨t, b, a, rfl, upd_same, upd_keeps ht _ _ hb, ha⟩
  · cases e2
section
variable {X : Cx} {elt tg iter a : Expr} {ifs : List Expr} {scope : Scope} {own : List (Str × Nat)} {pos spos py p pt pl : Pos} {kt kl : Nat} {it : MI} {g : MG} {T : MT} {A : ME}
theorem de_dicE {k : Nat} (hr : Room k X.A) (hgl : Gl X "dict") (hm : X.mg "dict" = none) (hv : bootBuiltins "dict" = some (.type "dict")) (hc : X.calm = true) (hN : X.N.Nodup) (hi : PI X tg iter (rdI X.K it)) (ok : BlkOk X.N X.env.scope scope own)
    (hg : ∀ (s : Shared) (H : Hp) (C : Addr) (cl : List (Str × Addr)) (fp : List Addr), PG (X.blk s H scope (compEnvC scope cl C X.env) fp) tg (rdG X.K (own.map (·.2)) g)) (ht : ∀ (s : Shared) (H : Hp) (C : Addr) (cl : List (Str × Addr)) (fp : List Addr), PTs (X.blk s H scope (compEnvC scope cl C X.env) fp) ifs (rdT X.K T))
    (he : ∀ (s : Shared) (H : Hp) (C : Addr) (cl : List (Str × Addr)) (fp : List Addr), PA (X.blk s H scope (compEnvC scope cl C X.env) fp) [a, .List [] pl] (rdA X.K (mCons A (mCons (mCall lstB mNil) mNil)))) (hs : ∀ x, foldedSetIterable iter X.env x = pure x := by intro _; rfl)
    (hse : starEach [.ListComp (.Tuple [a, .List [] pl] kt pt) [⟨tg, iter, ifs, 0⟩] scope pos] X.env = [(false, eval (.ListComp (.Tuple [a, .List [] pl] kt pt) [⟨tg, iter, ifs, 0⟩] scope pos) X.env)] := by rfl) :
    PE X (.Call (.Name "dict" p) [.ListComp (.Tuple [a, .List [] pl] kt pt) [⟨tg, iter, ifs, 0⟩] scope pos] [] spos) (rdE X.K (mDicE it g T A (own.map (·.2)))) :=
  wkE (pe_callTy (call_dictPT hc (by have := hr.un; omega)) hgl hm hv (pa_cons (pe_lc hc hN hi ok hg ht (fun s H C cl fp => pe_tup (he s H C cl fp)) hs) pa_nil hse) (by decide) (by decide) hse rfl) fun σ H Q q => by
    obtain ⟨m, S, ρ, w, S', q, e, p⟩ := q
    obtain ⟨⟨ws, S1⟩, e1, e⟩ := Option.bind_eq_some_iff.mp e
    obtain ⟨⟨all, S9⟩, e2, e⟩ := Option.bind_eq_some_iff.mp e
    simp only at e2 e
    split at e
    · rename_i hok
      cases e
      unfold tCB tCons tNil
      refine rd_lcG (te := tTup (rdA X.K (mCons A (mCons (mCall lstB mNil) mNil)))) (RB := RBp) RBp_mono (fun q e p => pairE_run q e p) q e1 e2 hok.2 fun ext H1 D zs f q1 fr nD hD pz => ?_
      have tab : ∀ {zs : List V} {all : List (List Key × Nat)}, Paired (RBp (m ++ ext) H1) zs all → ∃ (ps : List Addr) (kvs : List (List Key × V)), zs = ps.map V.ref ∧ kvs.map (·.1) = all.map (·.1) ∧
          Paired (fun p (kv : List Key × V) => ∃ b, H1 p = some (.tup [.ref b, kv.2]) ∧ H1 b = some (.tup (kv.1.map kV))) ps kvs ∧
          Paired (fun (u : List Key × V) (kv : List Key × W) => u.1 = kv.1 ∧ RW X.K (m ++ ext) H1 u.2 kv.2) kvs (all.map fun q => (q.1, W.loc q.2)) := by
        intro zs all h
        induction h with
        | nil => exact ⟨[], [], rfl, rfl, .nil, .nil⟩
        | cons h t ih =>
          obtain ⟨ps, kvs, rfl, i1, i2, i3⟩ := ih
          obtain ⟨p, b, a, rfl, h1, h2, h3⟩ := h
          exact ⟨p :: ps, (_, .ref a) :: kvs, rfl, by rw [List.map_cons, List.map_cons, i1], .cons ⟨b, h1, h2⟩ i2, .cons ⟨rfl, a, h3, rfl⟩ i3⟩
      obtain ⟨ps, kvs, rfl, i1, i2, i3⟩ := tab pz
      refine ⟨D, ps, kvs, rfl, .of hD, i2, by rw [i1]; exact hok.1, fun t ht => ?_⟩
      have q2 := q1.push (ob := .dicT (all.map fun q => (q.1, .loc q.2))) (upd_keeps ht) ht ⟨kvs, upd_same, Paired.mapP i3 fun _ _ z => ⟨z.1, z.2.mono (upd_kp ht)⟩⟩
      refine p (ext ++ [t]) _ _ (f.append fr q1 (fun b hb => by rw [List.mem_singleton.mp hb]; exact ht)) (by rw [← List.append_assoc]; exact q2) (fun c o h z => upd_keeps ht _ _ (fr c o h z)) ⟨t, ?_, rfl⟩
      rw [← List.append_assoc, ← q1.len, List.getElem?_append_right (Nat.le_refl _)]; simp
    · cases e
end
end DL
end
noncomputable section
namespace DL
open PySem PySem.Spec PyProof.Rows L2
section
variable {it it1 : MI} {g g1 : MG} {T T1 : MT} {E : ME} {vs vs1 : List Nat} {ρ : DEnv} {S S1 : Sto}
theorem lc2L_fm {F : W → List W} : ∀ {ws : List W}, (∀ w ∈ ws, ∃ ρ1 ws1, g w (wipeD ρ vs) S = some (ρ1, S) ∧ T ρ1 S = some (true, S) ∧ it1 ρ1 S = some (ws1, S) ∧ lcL g1 T1 E vs1 ρ1 ws1 S = some (F w, S)) →
    lc2L g T it1 g1 T1 E vs vs1 ρ ws S = some ((ws.map F).flatten, S)
  | [], _ => rfl
  | w :: ws, h => by
    obtain ⟨ρ1, ws1, e1, e2, e3, e4⟩ := h w (by simp)
    have ih := lc2L_fm (ws := ws) fun w hw => h w (by simp [hw])
    simp [lc2L, e1, e2, e3, e4, ih]
theorem lc2L_e {α : Type} (enc : α → PyData) (F : α → List PyData) {l : List α} (h : ∀ a ∈ l, ∃ ρ1 ws1, g (.d (enc a)) (wipeD ρ vs) S = some (ρ1, S) ∧ T ρ1 S = some (true, S) ∧ it1 ρ1 S = some (ws1, S) ∧ lcL g1 T1 E vs1 ρ1 ws1 S = some ((F a).map W.d, S)) :
    lc2L g T it1 g1 T1 E vs vs1 ρ ((l.map enc).map W.d) S = some (((l.map F).flatten).map W.d, S) := by
  induction l with
  | nil => rfl
  | cons a l ih =>
    obtain ⟨ρ1, ws1, e1, e2, e3, e4⟩ := h a (by simp)
    have ih := ih fun w hw => h w (by simp [hw])
    simp only [List.map_cons, lc2L, e1, e2, e3, e4, ih, Option.bind_some, if_true, List.flatten_cons, List.map_append]
theorem lc2_e {α : Type} (enc : α → PyData) (F : α → List PyData) {l : List α} (hi : it ρ S = some ((l.map enc).map W.d, S1))
    (h : ∀ a ∈ l, ∃ ρ1 ws1, g (.d (enc a)) (wipeD ρ vs) S1 = some (ρ1, S1) ∧ T ρ1 S1 = some (true, S1) ∧ it1 ρ1 S1 = some (ws1, S1) ∧ lcL g1 T1 E vs1 ρ1 ws1 S1 = some ((F a).map W.d, S1)) (hl : (l.map F).flatten.length ≤ sizeLine) :
    mLc2 it g T it1 g1 T1 E vs vs1 kFrz ρ S = some (.d (.list (l.map F).flatten), S1) := by
  simp only [mLc2, hi, Option.bind_some, lc2L_e enc F h, kFrz, allD_map, if_pos hl]
theorem lc2_eB {α : Type} (enc : α → PyData) (F : α → List PyData) {l : List α} (hi : it ρ S = some ((l.map enc).map W.d, S1))
    (h : ∀ a ∈ l, ∃ ρ1 ws1, g (.d (enc a)) (wipeD ρ vs) S1 = some (ρ1, S1) ∧ T ρ1 S1 = some (true, S1) ∧ it1 ρ1 S1 = some (ws1, S1) ∧ lcL g1 T1 E vs1 ρ1 ws1 S1 = some ((F a).map W.d, S1)) (hl : (l.map F).flatten.length ≤ sizeLine) :
    mLc2 it g T it1 g1 T1 E vs vs1 kBox ρ S = some (.loc S1.length, S1 ++ [.lst ((l.map F).flatten.map W.d)]) := by
  have : ((l.map F).flatten.map W.d).length ≤ sizeLine := by rw [List.length_map]; exact hl
  simp only [mLc2, hi, Option.bind_some, lc2L_e enc F h, kBox, if_pos this]
end
/-! ### sorted lists of tuples of ints -/
def sortT (l : List (List Int)) : List PyData := toPs (sortC (l.map cI))
theorem cI_ok {l : List (List Int)} (h0 : ∀ a ∈ l, a ≠ []) : sortable (l.map cI) = true := by
  simp only [sortable, Bool.and_eq_true, List.all_eq_true, List.mem_map, decide_eq_true_eq]
  refine ⟨?_, ?_⟩
  · rintro _ ⟨a, ha, rfl⟩
    refine ⟨?_, ?_⟩
    · cases a with
      | nil => exact absurd rfl (h0 _ ha)
      | cons x a => rfl
    · have := ofP_eq _ _ (ofP_tI a)
      rw [← this, dep_tI]; decide
  · rintro _ ⟨a, ha, rfl⟩ _ ⟨b, hb, rfl⟩
    exact kind_cI a b
theorem sorted_ev {l : List (List Int)} {S : Sto} {w : W} (h0 : ∀ a ∈ l, a ≠ []) (hd : deref S w = some (.list (l.map tI))) : sortedD [w] S = some (.d (.list (sortT l)), S) := by
  simp only [sortedD, on1, hd, Option.bind_some, ofPs_map (fun a _ => ofP_tI a), cI_ok h0, if_true, sortT]
theorem sorted_evB {l : List (List Int)} {S : Sto} {w : W} (h0 : ∀ a ∈ l, a ≠ []) (hd : deref S w = some (.list (l.map tI))) : sortedB [w] S = some (.loc S.length, S ++ [.lst ((sortT l).map W.d)]) := by
  simp only [sortedB, on1, hd, Option.bind_some, ofPs_map (fun a _ => ofP_tI a), cI_ok h0, if_true, sortT]
theorem sortT_perm {l m : List (List Int)} (h : l.Perm m) : sortT l = sortT m := by
  unfold sortT
  congr 1
  exact sortC_uniq (sortC_srtd _) ((sortC_perm _).trans (h.map cI))
theorem sortT_ex (l : List (List Int)) : ∃ r : List (List Int), r.Perm l ∧ sortT l = r.map tI := by
  obtain ⟨r, hr, e⟩ := perm_map_ex (sortC_perm (l.map cI))
  refine ⟨r, hr, ?_⟩
  unfold sortT
  rw [e, toPs_map, List.map_map]
  exact List.map_congr_left fun a ha => (ofP_eq _ _ (ofP_tI a)).symm
/-! ### in -/
theorem ev_inI {i : Int} {xs : List Int} {S : Sto} : inA false (.d (.int i)) (.d (.tuple (xs.map .int))) S = some (.d (.bool (decide (i ∈ xs))), S) := by
  have h1 : SeqAt.shaped (.list (xs.map PyData.int)) = true := by
    simp [SeqAt.shaped, PyData.canLay0, lay_ints, PyData.depth, dep_ints]
  have h2 : SeqAt.shaped (.int i) = true := by simp [SeqAt.shaped, PyData.canLay0, PyData.depth]
  have h3 : ((xs.map PyData.int).any fun z => PyData.eqv z (.int i)) = decide (i ∈ xs) := by
    clear h1
    induction xs with
    | nil => simp
    | cons x xs ih =>
      rw [List.map_cons, List.any_cons, ih]
      simp only [PyData.eqv, List.mem_cons]
      by_cases h : x = i
      · subst h; simp
      · have : i ≠ x := fun e => h e.symm
        by_cases h2 : i ∈ xs <;> simp [h, this, h2]
  have h4 : deref S (.d (.int i)) = some (.int i) := rfl
  simp only [inA, h4, seqOf, Option.bind_some, h1, h2, h3, Bool.and_self, if_true, Bool.xor_false]
theorem ev_inT {c : List Int} {l : List (List Int)} {S : Sto} : inA false (.d (tI c)) (.d (.tuple (l.map tI))) S = some (.d (.bool (decide (c ∈ l))), S) := by
  have h1 : SeqAt.shaped (.list (l.map tI)) = true := by
    have a : PyData.canLayAll0 (l.map tI) = true := by
      induction l with
      | nil => rfl
      | cons x l ih => simp [PyData.canLayAll0, ih]; simp [tI, PyData.canLay0, lay_ints]
    have b : PyData.depthAll (l.map tI) ≤ 1 := by
      clear a
      induction l with
      | nil => decide
      | cons x l ih => simp only [List.map_cons, PyData.depthAll, dep_tI]; exact Nat.max_le.mpr ⟨Nat.le_refl _, ih⟩
    have d : (PyData.list (l.map tI)).depth ≤ 64 := by simp only [PyData.depth]; exact Nat.le_trans (Nat.succ_le_succ b) (by decide)
    simp only [SeqAt.shaped, PyData.canLay0, a, Bool.true_and, decide_eq_true_eq]
    exact d
  have h2 := shaped_tI c
  have h3 : ((l.map tI).any fun z => PyData.eqv z (tI c)) = decide (c ∈ l) := by
    clear h1
    induction l with
    | nil => simp
    | cons x xs ih =>
      rw [List.map_cons, List.any_cons, ih, eqv_tI]
      simp only [List.mem_cons]
      by_cases h : x = c
      · subst h; simp
      · have : c ≠ x := fun e => h e.symm
        by_cases h2 : c ∈ xs <;> simp [h, this, h2]
  have h4 : deref S (.d (tI c)) = some (tI c) := rfl
  simp only [inA, h4, seqOf, Option.bind_some, h1, h2, h3, Bool.and_self, if_true, Bool.xor_false]
end DL
end
noncomputable section
namespace DL
open PySem PySem.Spec PyProof.Rows L2

/-! ### a table on values of the store -/
def putW {κ : Type} [DecidableEq κ] (kvs : List (κ × W)) (k : κ) (v : W) : List (κ × W) :=
  if (kvs.any fun kv => decide (kv.1 = k)) = true then kvs.map (fun kv => if kv.1 = k then (kv.1, v) else kv) else kvs ++ [(k, v)]
section
variable {κ : Type} [DecidableEq κ] {K : PySem.W.Frag} {m : List Addr} {H : Hp} {us : List (κ × V)} {kvs : List (κ × W)} {k : κ} {v : V} {w : W}
theorem tab_any (r : Paired (fun (p : κ × V) (q : κ × W) => p.1 = q.1 ∧ RW K m H p.2 q.2) us kvs) : (us.any fun kv => decide (kv.1 = k)) = kvs.any fun kv => decide (kv.1 = k) := by
  induction r with
  | nil => rfl
  | cons h t ih => rw [List.any_cons, List.any_cons, ih, h.1]
theorem tab_put (r : Paired (fun (p : κ × V) (q : κ × W) => p.1 = q.1 ∧ RW K m H p.2 q.2) us kvs) (rv : RW K m H v w) : Paired (fun (p : κ × V) (q : κ × W) => p.1 = q.1 ∧ RW K m H p.2 q.2) (putK us k v) (putW kvs k w) := by
  unfold putK putW
  rw [tab_any r]
  split
  · rename_i hh
    clear hh
    induction r with
    | nil => exact .nil
    | @cons p q ps qs h t ih =>
      rw [List.map_cons, List.map_cons]
      refine .cons ?_ ih
      by_cases e : q.1 = k
      · rw [if_pos (h.1.trans e), if_pos e]; exact ⟨h.1, rv⟩
      · rw [if_neg (fun z => e (h.1.symm.trans z)), if_neg e]; exact h
  · exact paired_app r (.cons ⟨rfl, rv⟩ .nil)
theorem valW_no (r : Paired (fun (p : κ × V) (q : κ × W) => p.1 = q.1 ∧ RW K m H p.2 q.2) us kvs) (e : valW kvs k = none) : valV us k = none := by
  induction r with
  | nil => rfl
  | @cons p q ps qs h t ih =>
    by_cases c : q.1 = k
    · simp [valW, List.find?_cons, c] at e
    · have e1 : valW (q :: qs) k = valW qs k := by simp [valW, List.find?_cons, c]
      rw [e1] at e
      rw [valV_neg (fun z => c (h.1.symm.trans z))]; exact ih e
end
/-- a find on both sides -/
def RelW (K : PySem.W.Frag) (m : List Addr) (H : Hp) : Option W → Option V → Prop
  | some w, ov => ∃ v, ov = some v ∧ RW K m H v w
  | none, ov => ov = none
/-- what the dict holds at a key -/
def dlook (S : Sto) : W → W → Option (Option W)
  | .loc n, .d k => match S[n]? with
    | some (.dicK kvs) => (keyD k).map fun k => valW kvs k
    | some (.dicT kvs) => match k with
      | .tuple ds => (keysD ds).map fun k => valW kvs k
      | _ => none
    | _ => none
  | _, _ => none
theorem dlook_of {K : PySem.W.Frag} {m : List Addr} {S : Sto} {ρ : DEnv} {σ : L2.St} {H : Hp} {x y : V} {wx wy : W} {o : Option W} (q : Sim K m S ρ σ H) (hx : RW K m H x wx) (hy : RW K m H y wy) (e : dlook S wx wy = some o) :
    ∃ a ov, x = .ref a ∧ IsD H a ∧ DGet H a y ov ∧ RelW K m H o ov := by
  unfold dlook at e
  split at e
  · obtain ⟨a, hm, rfl⟩ := hx
    split at e
    · rename_i kvs hs
      obtain ⟨k, e1, e2⟩ := Option.map_eq_some_iff.mp e
      obtain ⟨b, hb, us, hv, pr⟩ := q.obs _ _ hs
      rw [hm] at hb; cases hb
      obtain rfl := keyD_of e1 hy
      refine ⟨a, _, rfl, .inl ⟨us, .inl hv⟩, DGet.k hv, ?_⟩
      cases o with
      | none => exact valW_no pr e2
      | some w => exact valW_of pr e2
    · rename_i kvs hs
      split at e
      · obtain ⟨k, e1, e2⟩ := Option.map_eq_some_iff.mp e
        obtain ⟨b, hb, us, hv, pr⟩ := q.obs _ _ hs
        rw [hm] at hb; cases hb
        obtain ⟨c, xs, rfl, hc, rx⟩ := rp_tupH hy
        obtain rfl := keysD_of e1 rx
        refine ⟨a, _, rfl, .inr ⟨us, .inl hv⟩, DGet.t hv hc, ?_⟩
        cases o with
        | none => exact valW_no pr e2
        | some w => exact valW_of pr e2
      · cases e
    · cases e
  · cases e
/-- k in d, k not in d -/
def dinF (neg : Bool) : W → W → Sto → Option (W × Sto) := fun x y S => (dlook S y x).map fun o => (.d (.bool (o.isSome ^^ neg)), S)
section
variable {X : Cx} {e a b c : Expr} {rest es : List Expr} {pos : Pos} {A B C : ME} {T U : MT} {R : MA}
theorem look_isSome {K : PySem.W.Frag} {m : List Addr} {H : Hp} {o : Option W} {ov : Option V} (h : RelW K m H o ov) : ov.isSome = o.isSome := by
  cases o with
  | none => rw [show ov = none from h]; rfl
  | some w => obtain ⟨v, rfl, _⟩ := h; rfl
theorem op_din {k : Nat} (hr : Room k X.A) : OpR X (compareOp .In) (rOp X.K (dinF false)) := by
  intro pins s σ H x y v u Q I rx ry h
  obtain ⟨m, S, ρ, σ', wx, wy, w, S', q, hx, hy, e, p⟩ := h
  obtain ⟨o, e1, e2⟩ := Option.map_eq_some_iff.mp e
  cases e2
  obtain ⟨a, ov, rfl, _, g, hs⟩ := dlook_of q hy hx e1
  cases ry
  refine d_in (by have := hr.un; omega) I g rx fun s' I' => ⟨.bl ov.isSome, H, I', rfl, p.now q ?_⟩
  rw [look_isSome hs, Bool.xor_false]
  exact .bl _
theorem op_dnotin {k : Nat} (hr : Room k X.A) : OpR X (compareOp .NotIn) (rOp X.K (dinF true)) := by
  intro pins s σ H x y v u Q I rx ry h
  obtain ⟨m, S, ρ, σ', wx, wy, w, S', q, hx, hy, e, p⟩ := h
  obtain ⟨o, e1, e2⟩ := Option.map_eq_some_iff.mp e
  cases e2
  obtain ⟨a, ov, rfl, _, g, hs⟩ := dlook_of q hy hx e1
  cases ry
  refine d_notIn (by have := hr.un; omega) I g rx fun s' I' => ⟨.bl (!ov.isSome), H, I', rfl, p.now q ?_⟩
  rw [look_isSome hs, Bool.xor_true]
  exact .bl _
/-- d[k] = v -/
def dputF : W → W → W → Sto → Option Sto
  | .loc n, .d k, w, S => match S[n]? with
    | some (.dicK kvs) => (keyD k).bind fun k => if kvs.length < sizeLine then some (S.set n (.dicK (putW kvs k w))) else none
    | some (.dicT kvs) => match k with
      | .tuple ds => (keysD ds).bind fun k => if kvs.length < sizeLine then some (S.set n (.dicT (putW kvs k w))) else none
      | _ => none
    | _ => none
  | _, _, _, _ => none
theorem putD_kp {H : Hp} {a : Addr} {o u : HO} (hv : H a = some u) (hu : ¬ Imm u) : Kp H (upd H a o) := kp_other hv hu
theorem putD_fr {H : Hp} {m : List Addr} {n : Nat} {a : Addr} {o u : HO} (hm : m[n]? = some a) (hv : H a = some u) (hu : ¬ Imm u) : Fr m H (upd H a o) := fun b z h c => by
  by_cases e : b = a
  · subst e
    rw [hv] at h; cases h
    rcases c with c | c
    · exact absurd (List.mem_of_getElem? hm) c
    · exact absurd c hu
  · rw [upd_ne e]; exact h
theorem set_dict {k : Nat} (hr : Room k X.A) : PSet X (rSet X.K dputF) := by
  intro pins s σ H o i v ov iv u Q I ro ri rv h
  obtain ⟨m, S, ρ, σ', wo, wi, wv, S', q, h1, h2, h3, e, p⟩ := h
  unfold dputF at e
  split at e
  · obtain ⟨a, hm, rfl⟩ := h1
    cases ro
    split at e
    · rename_i kvs hs
      obtain ⟨k, e1, e⟩ := Option.bind_eq_some_iff.mp e
      split at e
      · rename_i hz
        cases e
        obtain ⟨b, hb, us, hv, pr⟩ := q.obs _ _ hs
        rw [hm] at hb; cases hb
        obtain rfl := keyD_of e1 h2
        refine d_setItem (by have := hr.un; omega) I (DPut.k hv (by rw [pr.length]; exact hz)) ri rv fun s' I' => ⟨_, I', ?_⟩
        refine p [] _ (fun _ h => absurd h (by simp)) (by
          rw [List.append_nil]
          exact q.put hm (fun u h => by rw [hv] at h; cases h; exact fun z => z) (List.getElem?_eq_some_iff.mp hs).1 ⟨_, upd_same, Paired.mapP (tab_put pr h3) fun _ _ z => ⟨z.1, z.2.mono0 (putD_kp hv fun z => z)⟩⟩) (putD_fr hm hv fun z => z)
      · cases e
    · rename_i kvs hs
      split at e
      · obtain ⟨k, e1, e⟩ := Option.bind_eq_some_iff.mp e
        split at e
        · rename_i hz
          cases e
          obtain ⟨b, hb, us, hv, pr⟩ := q.obs _ _ hs
          rw [hm] at hb; cases hb
          obtain ⟨c, xs, rfl, hc, rx⟩ := rp_tupH h2
          obtain rfl := keysD_of e1 rx
          refine d_setItem (by have := hr.un; omega) I (DPut.t hv hc (by rw [pr.length]; exact hz)) ri rv fun s' I' => ⟨_, I', ?_⟩
          refine p [] _ (fun _ h => absurd h (by simp)) (by
            rw [List.append_nil]
            exact q.put hm (fun u h => by rw [hv] at h; cases h; exact fun z => z) (List.getElem?_eq_some_iff.mp hs).1 ⟨_, upd_same, Paired.mapP (tab_put pr h3) fun _ _ z => ⟨z.1, z.2.mono0 (putD_kp hv fun z => z)⟩⟩) (putD_fr hm hv fun z => z)
        · cases e
      · cases e
    · cases e
  · cases e
/-- d.get(k), d.get(k, x) -/
def mGet1 (A B : ME) : ME := fun ρ S => (A ρ S).bind fun p => (B ρ p.2).bind fun q => (dlook q.2 p.1 q.1).map fun o => (o.getD (.d .none), q.2)
def mGet2 (A B C : ME) : ME := fun ρ S => (A ρ S).bind fun p => (B ρ p.2).bind fun q => (C ρ q.2).bind fun r => (dlook r.2 p.1 q.1).map fun o => (o.getD r.1, r.2)
def isDic (S : Sto) : W → Bool
  | .loc n => match S[n]? with
    | some (.dicK _) => true
    | some (.dicT _) => true
    | _ => false
  | _ => false
theorem isDic_of {K : PySem.W.Frag} {m : List Addr} {S : Sto} {ρ : DEnv} {σ : L2.St} {H : Hp} {x : V} {wx : W} (q : Sim K m S ρ σ H) (hx : RW K m H x wx) (e : isDic S wx = true) : ∃ a, x = .ref a ∧ IsD H a := by
  unfold isDic at e
  split at e
  · obtain ⟨a, hm, rfl⟩ := hx
    split at e
    · rename_i kvs hs
      obtain ⟨b, hb, us, hv, pr⟩ := q.obs _ _ hs
      rw [hm] at hb; cases hb
      exact ⟨a, rfl, .inl ⟨us, .inl hv⟩⟩
    · rename_i kvs hs
      obtain ⟨b, hb, us, hv, pr⟩ := q.obs _ _ hs
      rw [hm] at hb; cases hb
      exact ⟨a, rfl, .inr ⟨us, .inl hv⟩⟩
    · cases e
  · cases e
def mGet1' (A B : ME) : ME := fun ρ S => (A ρ S).bind fun p => if isDic p.2 p.1 = true then (B ρ p.2).bind fun q => (dlook q.2 p.1 q.1).map fun o => (o.getD (.d .none), q.2) else none
def mGet2' (A B C : ME) : ME := fun ρ S => (A ρ S).bind fun p => if isDic p.2 p.1 = true then (B ρ p.2).bind fun q => (C ρ q.2).bind fun r => (dlook r.2 p.1 q.1).map fun o => (o.getD r.1, r.2) else none
theorem look_getD {K : PySem.W.Frag} {m : List Addr} {H : Hp} {o : Option W} {ov : Option V} {z : V} {wz : W} (h : RelW K m H o ov) (rz : RW K m H z wz) : RW K m H (ov.getD z) (o.getD wz) := by
  cases o with
  | none => rw [show ov = none from h]; exact rz
  | some w => obtain ⟨v, rfl, r⟩ := h; exact r
theorem de_get1 {k : Nat} {apos cpos : Pos} (hr : Room k X.A) (ha : PE X a (rdE X.K A)) (hb : PE X b (rdE X.K B)) (m : M1 X a "get" apos b cpos) : PE X (.Call (.Attribute a "get" apos) [b] [] cpos) (rdE X.K (mGet1' A B)) :=
  wkE (pe_dget1 (by have := hr.un; omega) ha hb m) fun σ H Q h => by
    obtain ⟨m, S, ρ, w, S', q, e, p⟩ := h
    obtain ⟨⟨wx, S1⟩, e1, e⟩ := Option.bind_eq_some_iff.mp e
    split at e
    · rename_i hd
      obtain ⟨⟨wy, S2⟩, e2, e⟩ := Option.bind_eq_some_iff.mp e
      obtain ⟨o, e3, e4⟩ := Option.map_eq_some_iff.mp e
      cases e4
      refine ⟨m, S, ρ, wx, S1, q, e1, fun ext H1 x f q1 fr r => ?_⟩
      obtain ⟨a, rfl, hD⟩ := isDic_of q1 r hd
      refine ⟨a, rfl, hD, _, S1, ρ, wy, _, q1, e2, fun ext2 H2 y f2 q2 fr2 r2 => ?_⟩
      obtain ⟨a', ov, ea, _, g, hs⟩ := dlook_of q2 (r.mono fr2.kp) r2 e3
      cases ea
      exact ⟨ov, g, ((p.at f q1 fr).at f2 q2 fr2).now q2 (look_getD hs .non)⟩
    · cases e
theorem de_get2 {k : Nat} {apos cpos : Pos} (hr : Room k X.A) (ha : PE X a (rdE X.K A)) (hb : PE X b (rdE X.K B)) (hc : PE X c (rdE X.K C)) (m : M2 X a "get" apos b c cpos) : PE X (.Call (.Attribute a "get" apos) [b, c] [] cpos) (rdE X.K (mGet2' A B C)) :=
  wkE (pe_dget2 (by have := hr.un; omega) ha hb hc m) fun σ H Q h => by
    obtain ⟨m, S, ρ, w, S', q, e, p⟩ := h
    obtain ⟨⟨wx, S1⟩, e1, e⟩ := Option.bind_eq_some_iff.mp e
    split at e
    · rename_i hd
      obtain ⟨⟨wy, S2⟩, e2, e⟩ := Option.bind_eq_some_iff.mp e
      obtain ⟨⟨wz, S3⟩, e2', e⟩ := Option.bind_eq_some_iff.mp e
      obtain ⟨o, e3, e4⟩ := Option.map_eq_some_iff.mp e
      cases e4
      refine ⟨m, S, ρ, wx, S1, q, e1, fun ext H1 x f q1 fr r => ?_⟩
      obtain ⟨a, rfl, hD⟩ := isDic_of q1 r hd
      refine ⟨a, rfl, hD, _, S1, ρ, wy, S2, q1, e2, fun ext2 H2 y f2 q2 fr2 r2 => ⟨_, S2, ρ, wz, _, q2, e2', fun ext3 H3 z f3 q3 fr3 r3 => ?_⟩⟩
      obtain ⟨a', ov, ea, _, g, hs⟩ := dlook_of q3 ((r.mono fr2.kp).mono fr3.kp) (r2.mono fr3.kp) e3
      cases ea
      exact ⟨ov, g, (((p.at f q1 fr).at f2 q2 fr2).at f3 q3 fr3).now q3 (look_getD hs r3)⟩
    · cases e
/-- dict(l) of a list of pairs of data, the keys tuples -/
def pairsT : List PyData → Option (List (List Key × W))
  | [] => some []
  | .tuple [.tuple ks, x] :: ds => (keysD ks).bind fun k => (pairsT ds).map fun r => (k, .d x) :: r
  | _ :: _ => none
def dictP := on1 fun w S => (deref S w).bind fun d => match d with
  | .list ds => (pairsT ds).bind fun kvs => @ite _ ((kvs.map (·.1)).Nodup) (gd _) (some (.loc S.length, S ++ [.dicT kvs])) none
  | _ => none
theorem pairsT_of {K : PySem.W.Frag} {m : List Addr} {H : Hp} : ∀ {ds : List PyData} {kvs : List (List Key × W)} {xs : List V}, pairsT ds = some kvs → RpAll K H xs ds →
    ∃ (ps : List Addr) (us : List (List Key × V)), xs = ps.map V.ref ∧ us.map (·.1) = kvs.map (·.1) ∧ Paired (fun p (kv : List Key × V) => ∃ b, H p = some (.tup [.ref b, kv.2]) ∧ H b = some (.tup (kv.1.map kV))) ps us ∧
      Paired (fun (p : List Key × V) (q : List Key × W) => p.1 = q.1 ∧ RW K m H p.2 q.2) us kvs
  | [], _, _, e, .nil => by cases e; exact ⟨[], [], rfl, rfl, .nil, .nil⟩
  | d :: ds, kvs, _, e, .cons r t => by
    unfold pairsT at e
    split at e
    · rename_i h1; cases h1
    · rename_i ks x ds' h1
      cases h1
      obtain ⟨k, e1, e⟩ := Option.bind_eq_some_iff.mp e
      obtain ⟨r', e2, rfl⟩ := Option.map_eq_some_iff.mp e
      obtain ⟨ps, us, rfl, i1, i2, i3⟩ := pairsT_of (m := m) e2 t
      obtain ⟨p, vs, rfl, hp, rv⟩ := rp_tupH r
      cases rv with
      | cons rk rr =>
        cases rr with
        | cons rx rr =>
          cases rr
          obtain ⟨b, ys, rfl, hb, ry⟩ := rp_tupH rk
          obtain rfl := keysD_of e1 ry
          exact ⟨p :: ps, (k, _) :: us, rfl, by simp [i1], .cons ⟨b, hp, hb⟩ i2, .cons ⟨rfl, rx⟩ i3⟩
    · cases e
theorem call_dictDD {k : Nat} (hr : Room k X.A) (hc : X.calm = true) : CallR X (.type "dict") (rC X.K dictP) := by
  intro pins s σ H vs us Q I rx h
  obtain ⟨m, S, ρ, σ', w0, w, S', v, rfl, q, r, e, p⟩ := rC1 h
  obtain ⟨d, e1, e⟩ := Option.bind_eq_some_iff.mp e
  split at e
  · obtain ⟨kvs, e2, e⟩ := Option.bind_eq_some_iff.mp e
    split at e
    · rename_i hn
      cases e
      obtain ⟨a, xs, rfl, h, r1⟩ := deref_list q r e1
      obtain ⟨ps, us', rfl, i1, i2, i3⟩ := pairsT_of (m := m) e2 r1
      refine call_dictPT hc (by have := hr.un; omega) pins s σ H _ us Q I rx ⟨a, ps, us', rfl, h, i2, by rw [i1]; exact hn, fun t ht => ?_⟩
      have q2 := q.push (ob := .dicT kvs) (upd_keeps ht) ht ⟨us', upd_same, Paired.mapP i3 fun _ _ z => ⟨z.1, z.2.mono (upd_kp ht)⟩⟩
      refine p [t] _ _ (fun b hb => by rw [List.mem_singleton.mp hb]; exact ht) q2 (fun c o h z => upd_keeps ht _ _ h) ⟨t, ?_, rfl⟩
      rw [← q.len, List.getElem?_append_right (Nat.le_refl _)]; simp
    · cases e
  · cases e
end
end DL
end
noncomputable section
namespace DL
open PySem PySem.Spec PyProof.Rows L2
section
variable {X : Cx}
/-! ### t += u, neither empty -/
theorem noiadd_tuple : typeLookup (.type "tuple") (dunderI "add") = pure none := by
  show typeLookup (.type "tuple") "__iadd__" = pure none
  rw [typeLookup_type, builtinLookup_eq_fast]; kernel_rfl
theorem iop_catT : OpR X (inplaceOp .Add) (fun x y H Q => ∃ a b xs ys, x = .ref a ∧ y = .ref b ∧ SqT X.K H a xs ∧ SqT X.K H b ys ∧ xs ≠ [] ∧ ys ≠ [] ∧ xs.length + ys.length ≤ sizeLine ∧ ∀ p, H p = none → Q (.ref p) (upd H p (.tup (xs ++ ys)))) := by
  intro pins s σ H x y v u Q I rx ry h
  obtain ⟨a, b, xs, ys, rfl, rfl, ha, hb, hx, hy, hz, q⟩ := h
  cases rx
  cases ry
  obtain ⟨its, r1, p1, _⟩ := I.tuple ha
  obtain ⟨its2, r2, p2, _⟩ := I.tuple hb
  obtain ⟨⟨cls, dd, data, sl⟩, ho, hc, n, hd⟩ := id p1
  obtain ⟨⟨cls2, dd2, data2, sl2⟩, ho2, hc2, n2, hd2⟩ := id p2
  simp only at hc hd hc2 hd2
  subst hc hd hc2 hd2
  have e : its.toArray ++ its2.toArray = (its ++ its2).toArray := by simp
  have n1 : its ≠ [] := fun z => hx (r1.nil_iff.mp z)
  have n2' : its2 ≠ [] := fun z => hy (r2.nil_iff.mp z)
  refine wpAny_inplaceOp_concat ⟨_, ho, rfl⟩ ⟨_, ho2, rfl⟩ noiadd_tuple noFill_tuple_add seq_tuple_add (call_meets PySem.F.slot_tuple_add ⟨_, ho, rfl⟩ PySem.F.entry_tuple_add (PySem.F.args_tuple_add_2 _ _)
    (tuple_addW2 a b its.toArray its2.toArray n n2 dd dd2 sl sl2 (by simpa using n1) (by simpa using n2') (by rw [List.size_toArray, List.size_toArray, ← r1.length, ← r2.length]; exact hz)) ⟨ho, ho2, ?_⟩)
  rw [e]
  refine ⟨.ref s.heap.objs.size, _, I.laid (t' := s.toks) (o := .tup (xs ++ ys)) (fun b ob q => Heap.get?_push_of_some _ q) (Nat.le_refl _) ?_, rfl, q _ (I.hok.fresh (Nat.le_refl _))⟩
  exact ⟨by rw [List.length_append]; exact hz, _, r1.append r2, IsTup.new _ _⟩
def iaddT : W → W → Sto → Option (W × Sto)
  | .d (.tuple i), .d (.tuple j), S => if i.isEmpty = false ∧ j.isEmpty = false ∧ i.length + j.length ≤ sizeLine then some (.d (.tuple (i ++ j)), S) else none
  | _, _, _ => none
theorem ip_addT : PIp X .Add (rOp X.K iaddT) := ip_of (by
  intro pins s σ H x y v u Q I rx ry h
  obtain ⟨m, S, ρ, σ', wx, wy, w, S', q, hx, hy, e, p⟩ := h
  unfold iaddT at e
  split at e
  · split at e
    · rename_i i j _ hl
      cases e
      obtain ⟨a, xs, rfl, h1, r1⟩ := rp_tup hx
      obtain ⟨b, ys, rfl, h2, r2⟩ := rp_tup hy
      refine iop_catT pins s σ H _ _ v u Q I rx ry ⟨a, b, xs, ys, rfl, rfl, h1, h2, fun z => ?_, fun z => ?_, by rw [r1.length, r2.length]; exact hl.2.2, fun t ht => newT p q (r1.append r2) t ht⟩
      · subst z; cases r1; simp at hl
      · subst z; cases r2; simp at hl
    · cases e
  · cases e)
/-! ### min of a list of alike data -/
def minLD := on1 fun w S => (deref S w).bind fun d => match d with
  | .list (d :: ds) => @ite _ (PySem.W.AlikeAll (d :: ds) ∧ PyData.depthAll (d :: ds) ≤ 100 ∧ PyData.canLayAll0 (d :: ds) = true) (gd _) (some (.d (PySem.W.minD d ds), S)) none
  | _ => none
theorem lay_at : ∀ {ds : List PyData} {i : Nat} {d : PyData}, PyData.canLayAll0 ds = true → ds[i]? = some d → d.canLay0 = true
  | [], _, _, _, e => by simp at e
  | d :: ds, 0, x, h, e => by
    simp at e; subst e
    simp only [PyData.canLayAll0, Bool.and_eq_true] at h
    exact h.1
  | d :: ds, i + 1, x, h, e => by
    simp only [PyData.canLayAll0, Bool.and_eq_true] at h
    exact lay_at h.2 (by simpa using e)
theorem reads_all {pins : List (Addr × Obj)} {σ : L2.St} {H : Hp} {s : Shared} (I : Inv X pins σ H s) : ∀ {ds : List PyData} {xs : List V} {us : List Value}, RpAll X.K H xs ds → Vals xs us → ∃ as, ReadsAll s.heap us ds as
  | [], _, _, .nil, .nil => ⟨[], .nil⟩
  | d :: ds, _, _, .cons r t, .cons rv tv => by
    obtain ⟨as, h⟩ := reads_all I t tv
    obtain ⟨bs, rd⟩ := Dp.reads I d _ _ (Rp.dp _ _ r) rv
    exact ⟨_, .cons rd h⟩
theorem call_minDD {k : Nat} (hr : Room k X.A) : CallR X (.builtin "min") (rC X.K minLD) := by
  intro pins s σ H vs us Q I rx h
  obtain ⟨m, S, ρ, σ', w0, w, S', v, rfl, q, r, e, p⟩ := rC1 h
  obtain ⟨d, e1, e⟩ := Option.bind_eq_some_iff.mp e
  split at e
  · split at e
    · rename_i d ds hl
      cases e
      obtain ⟨a, xs, rfl, h, r1⟩ := deref_list q r e1
      obtain ⟨u, rfl, ru⟩ := rx.one
      cases ru
      obtain ⟨its, rv, pl, hz⟩ := I.list h
      obtain ⟨as, ra⟩ := reads_all I r1 rv
      refine PySem.W.min_list_data (vs := its.toArray) hr.hd pl.isList (by simpa using ra) hl.1 (by have := hr.un; omega) fun i u h' tk bs hi rb hk => ?_
      have hi' : its[i]? = some u := by simpa using hi
      obtain ⟨y, hy, ry⟩ : ∃ y, xs[i]? = some y ∧ RelV y u := paired_getR rv hi'
      have hlt := (List.getElem?_eq_some_iff.mp hy).1
      obtain ⟨x, hx⟩ : ∃ x, (d :: ds)[i]? = some x := ⟨_, List.getElem?_eq_getElem (by rw [← r1.length]; exact hlt)⟩
      obtain ⟨y', hy', rp⟩ := r1.get hx
      rw [hy] at hy'; cases hy'
      obtain ⟨cs, rd⟩ := Dp.reads I x _ _ (Rp.dp _ _ rp) ry
      have e : x = PySem.W.minD d ds := SeqAt.Reads.unique _ _ u cs bs (lay_at hl.2.2 hx) (Reads.keeps hk rd) rb
      subst e
      exact ⟨y, H, I.kept (t' := tk) hk, ry, p.now q rp⟩
    · cases e
  · cases e
end
end DL
end
noncomputable section
namespace DL
open PySem PySem.Spec PyProof.Rows L2
section
variable {X : Cx} {pins : List (Addr × Obj)} {σ : L2.St} {H : Hp} {s : Shared}
/-- such values can be sorted wherever they stand -/
theorem sortable_of {h0 : Heap} {its : List Value} {cs : List Cd} (hr : ∀ u ∈ its, ∃ as, Reads h0 u (toP (keyAt h0 u)) as) (inCs : ∀ u ∈ its, keyAt h0 u ∈ cs) (ok : sortable cs = true) (hz : its.length ≤ sizeLine) (hu : X.A.units + 66 < cLine)
    {h₁ : Heap} {a' : Addr} (kk : ∀ b o, h0.get? b = some o → b ≠ a' ∧ h₁.get? b = some o) (h2 : 2 ≤ its.length) (s : Shared) : SrtO.SortableO X.prog X.w X.A.in1.in1 { s with heap := h₁ } a' its (fun u v => ltC (keyAt h0 u) (keyAt h0 v)) := by
  intro h' keep
  unfold sortable at ok
  rw [Bool.and_eq_true] at ok
  have okA : ∀ c ∈ cs, isTupNE c = true ∧ (toP c).depth ≤ 60 := fun c hc => by
    have := List.all_eq_true.mp ok.1 c hc
    simpa using this
  have okK := pw_mem ok.2
  have kp : ∀ b o, h0.get? b = some o → h'.get? b = some o := fun b o e => by
    obtain ⟨n1, e1⟩ := kk b o e
    exact keep b o n1 e1
  have hr' : ∀ u ∈ its, ∃ as, Reads h' u (toP (keyAt h0 u)) as := fun u hu => by
    obtain ⟨as, rd⟩ := hr u hu
    exact ⟨as, Reads.keeps kp rd⟩
  have shape : ∀ u ∈ its, ∃ c ds, keyAt h0 u = .tup (c :: ds) := fun u hu => by
    have := (okA _ (inCs u hu)).1
    cases e : keyAt h0 u with
    | int i => rw [e] at this; cases this
    | tup ds =>
      cases ds with
      | nil => rw [e] at this; cases this
      | cons c ds => exact ⟨c, ds, rfl⟩
  obtain ⟨fs, kf, lf, hf⟩ := firsts_at (h := h') (us := its) fun u hu => by
    obtain ⟨c, ds, e⟩ := shape u hu
    obtain ⟨as, rd⟩ := hr' u hu
    rw [e] at rd
    exact ⟨c, ds, as, rd⟩
  -- the first items: all ints, or all tuples
  obtain ⟨u0, hu0⟩ : ∃ u0, u0 ∈ its := by
    match its, h2 with
    | u0 :: _, _ => exact ⟨u0, by simp⟩
  obtain ⟨c0, ds0, e0⟩ := shape u0 hu0
  have first : ∀ u ∈ its, ∀ c ds, keyAt h0 u = .tup (c :: ds) → kindC c0 c = true := fun u hu c ds e => by
    have := okK _ (inCs u0 hu0) _ (inCs u hu)
    rw [e0, e] at this
    simp only [kindC, kindCs, Bool.and_eq_true] at this
    exact this.1
  have keyOf : ∀ u ∈ its, ∀ c ds as, Reads h' u (toP (.tup (c :: ds))) as → keyAt h0 u = .tup (c :: ds) := fun u hu c ds as rd => by
    obtain ⟨bs, rd2⟩ := hr' u hu
    exact toP_inj _ _ (SeqAt.Reads.unique _ _ u bs as (lay_toP _) rd2 rd)
  refine ⟨tuples' (Value.type (tyC c0) != Value.type "tuple"), fun Q' E hq => ?_, ?_⟩
  · refine PySem.W.kat_kind (T := .type (tyC c0)) kf (by omega) (fun f hff => ?_) (by cases c0 <;> rfl) hq
    obtain ⟨u, hu, c, ds, as, bs, r1, r2⟩ := hf f hff
    have kc := first u hu c ds (keyOf u hu c ds as r1)
    have := looks_of (M := model X.prog X.w) r2
    cases c0 <;> cases c <;> first | exact this | (simp [kindC] at kc)
  · refine sort_cmp (A := X.A.in1.in1) (s := { s with heap := h' }) rfl hr' (fun u hu => (okA _ (inCs u hu)).2) (fun u hu v hv => okK _ (inCs u hu) _ (inCs v hv)) (fun u hu => (okA _ (inCs u hu)).1) (fun e u hu => ?_) (by rw [units_in1, units_in1]; omega)
    obtain ⟨c, ds, ek⟩ := shape u hu
    have kc := first u hu c ds ek
    cases c0 with
    | int i =>
      cases c with
      | int j => exact ⟨j, ds, ek⟩
      | tup _ => simp [kindC] at kc
    | tup cs => exact absurd e (by show ¬ (Value.type "tuple" != Value.type "tuple") = true; decide)
/-- a dict's keys gathered (kdu_collect of the kit, and the heap's growth) -/
theorem collect_up {prog : Program} {w : World} {A : Around} {E : Value → Shared → Prop} {s : Shared} {T : String} {r d : Addr} {n : Nat} {P : Nat → Value → Prop} {OK : Heap → Prop} {R : List Value → Shared → Prop} (K : PySem.W.KdlSrc prog w T r d n P OK) (hh : A.handled = none) (hok : OK s.heap) (hn : n ≤ sizeLine)
    (h : ∀ (h' : Heap) (tk : Nat) (acc : Array Value), (∀ b o, s.heap.get? b = some o → h'.get? b = some o) → s.heap.objs.size < h'.objs.size → ItemsOf P acc n → R acc.toList { s with heap := h', toks := tk }) :
    wpAny (model prog w) A (collect (.ref r)) R E s := by
  have hlt := K.there _ hok
  unfold collect
  refine wpAny_bind (wpAny_runValue (codeAny_builtin entry_proto_collect' ?_))
  rw [Around.under_plainId PySem.F.plain_proto_collect _]
  show wpAny _ A.in1 (newList [] >>= fun l => again (.builtin "list.__iadd__" ⟨[l, .ref r], []⟩)) _ _ s
  refine wpAny_bind (wpAny_newObj_type ?_)
  refine wpAny_pure ⟨plainId_quiet PySem.F.plain_list_iadd _, codeAny_builtin entry_list_iadd' ?_⟩
  rw [Around.under_plainId PySem.F.plain_list_iadd _]
  have hS₁ : (s.heap.push { cls := .type "list", data := .seq ([] : List Value).toArray }).get? s.heap.objs.size = some { cls := .type "list", data := .seq #[] } := Heap.get?_push_size _ rfl
  show wpAny _ A.in1 (Builtin.List.listExtendWith (.ref s.heap.objs.size) (.ref r) (.ref s.heap.objs.size)) _ _ _
  have key := PySem.W.kdl_extend (A := A) (s := { s with heap := s.heap.push { cls := .type "list", data := .seq ([] : List Value).toArray } })
    (R := fun (q : Result) (s' : Shared) => ∃ (h' : Heap) (tk : Nat) (acc' : Array Value) (c' : Nat), q = .ok (.ret (.ref s.heap.objs.size)) ∧ s' = { s with heap := h', toks := tk } ∧
      (∀ b o, s.heap.get? b = some o → h'.get? b = some o) ∧ h'.get? s.heap.objs.size = some { cls := .type "list", dict := none, data := .seq acc' c', slots := #[] } ∧ ItemsOf P acc' n)
    K hh (K.keep _ _ hok fun b _ o e => Heap.get?_push_of_some _ e) s.heap.objs.size (Nat.ne_of_gt hlt.1) (Nat.ne_of_gt hlt.2) (.ref s.heap.objs.size) 0 hS₁
    (fun h' tk acc' c' hk hS' hacc => ⟨h', tk, acc', c', rfl, rfl, fun b o e => hk b o (Nat.ne_of_lt (Heap.lt_size e)) (Heap.get?_push_of_some _ e), hS', hacc⟩) hn
  refine wpAny_mono key (fun fin s' x => ?_) fun e s' x => ?_
  · cases fin with
    | done f =>
      obtain ⟨h', tk, acc', c', e, rfl, hk, hS', hacc⟩ := x
      cases e
      show wpAny _ A (load s.heap.objs.size >>= _) _ _ _
      refine wpAny_bind (wpAny_load hS' ?_)
      exact wpAny_pure (h h' tk acc' hk (Heap.lt_size hS') hacc)
    | again c₁ =>
      refine ⟨x.1, codeAny_mono x.2 fun q s₂ y => ?_⟩
      obtain ⟨h', tk, acc', c', rfl, rfl, hk, hS', hacc⟩ := y
      show wpAny _ A (load s.heap.objs.size >>= _) _ _ _
      refine wpAny_bind (wpAny_load hS' ?_)
      exact wpAny_pure (h h' tk acc' hk (Heap.lt_size hS') hacc)
  · obtain ⟨_, _, _, _, e', _⟩ := x
    cases e'

/-- keys that are tuples of ints -/
def keyI : List Key → Option (List Int)
  | [] => some []
  | .inl i :: ks => (keyI ks).map (i :: ·)
  | .inr _ :: _ => none
def keysI : List (List Key) → Option (List (List Int))
  | [] => some []
  | k :: ks => (keyI k).bind fun n => (keysI ks).map (n :: ·)
theorem keyI_rp {K : PySem.W.Frag} {H : Hp} : ∀ {ks : List Key} {ns : List Int}, keyI ks = some ns → RpAll K H (ks.map kV) (ns.map .int)
  | [], _, e => by cases e; exact .nil
  | .inl i :: ks, _, e => by
    simp only [keyI, Option.map_eq_some_iff] at e
    obtain ⟨ns, e1, rfl⟩ := e
    exact .cons (.int i) (keyI_rp e1)
  | .inr _ :: _, _, e => by cases e
theorem toP_cI (ns : List Int) : toP (cI ns) = tI ns := (ofP_eq _ _ (ofP_tI ns)).symm
theorem keys_read (I : Inv X pins σ H s) : ∀ {us : List (List Key × V)} {xs : List (List Key × Addr × Value)} {ns : List (List Int)}, KT H us xs → keysI (us.map (·.1)) = some ns →
    (xs.map fun x => Value.ref x.2.1).map (keyAt s.heap) = ns.map cI ∧ ∀ u ∈ xs.map fun x => Value.ref x.2.1, ∃ v as, RelV v u ∧ Rp X.K H v (toP (keyAt s.heap u)) ∧ Reads s.heap u (toP (keyAt s.heap u)) as
  | _, _, _, .nil, e => by cases e; exact ⟨rfl, fun u h => by simp at h⟩
  | _, _, ns, .cons (a := p) (b := x) h t, e => by
    simp only [List.map_cons, keysI] at e
    obtain ⟨n, e1, e⟩ := Option.bind_eq_some_iff.mp e
    obtain ⟨ns', e2, rfl⟩ := Option.map_eq_some_iff.mp e
    obtain ⟨i1, i2⟩ := keys_read I t e2
    have rp : Rp X.K H (.ref x.2.1) (toP (cI n)) := by
      rw [toP_cI]; exact .tup h.2.1 (keyI_rp e1)
    obtain ⟨as, rd⟩ := Dp.reads I _ _ _ (Rp.dp _ _ rp) (show RelV (.ref x.2.1) (.ref x.2.1) from rfl)
    have k := keyAt_of rd
    refine ⟨by rw [List.map_cons, List.map_cons, List.map_cons, k, i1], fun u hu => ?_⟩
    rcases List.mem_cons.mp hu with z | z
    · subst z
      rw [k]
      exact ⟨.ref x.2.1, as, rfl, rp, rd⟩
    · exact i2 u z
theorem sortedK_run {a : Addr} {us : List (List Key × V)} {ns : List (List Int)} {Q : VK} (I : Inv X pins σ H s) (hD : H a = some (.dT us)) (hns : keysI (us.map (·.1)) = some ns) (ok : sortable (ns.map cI) = true) (hh : X.A.handled = none) (hu : X.A.units + 66 < cLine)
    (q : ∀ p ys, H p = none → RpAll X.K H ys (toPs (sortC (ns.map cI))) → Q (.ref p) (upd H p (.lst ys))) : wpAny (model X.prog X.w) X.A (call (.builtin "sorted") [.ref a]) (EP X pins σ Q) X.xe s := by
  obtain ⟨z, hd, xs, rel, o, es, ep, ho, hex, hdat, he, his, hn⟩ := dt_of I.hok hD
  have hlx : xs.length = us.length := (Paired.length rel).symm
  have hes : es.size = xs.length := by rw [← Array.length_toList, he, List.length_map]
  obtain ⟨em, hr⟩ := keys_read I rel hns
  refine Calls.call_function_entry kind_sorted plain_sorted entry_sorted (args_sorted1 _) ?_
  unfold Builtin.«sorted»
  refine wpAny_bind (m := checkCount "sorted" 1 1 _) (wpAny_pure ?_)
  refine wpAny_bind (collect_up (A := X.A.in1) (PySem.KdlSrc.rawDict (es := es) (ep := ep) hd) hh ⟨o, ho, hex, hdat⟩ (by rw [hes, hlx]; exact z) fun h' tk acc hk hlt hacc => ?_)
  have hits : acc.toList = xs.map fun x => Value.ref x.2.1 := by
    apply List.ext_getElem?
    intro j
    rw [List.getElem?_map]
    by_cases hj : j < xs.length
    · have hja : j < acc.size := by rw [hacc.1, hes]; exact hj
      have e1 : acc[j]? = some acc[j] := Array.getElem?_eq_getElem hja
      obtain ⟨hi, ek⟩ := hacc.2 j _ e1
      have e2 : es.toList[j]? = (xs[j]?).map (entryOfKey (tupleKind (mixKind X.prog X.w))) := by rw [he, List.getElem?_map]
      rw [Array.getElem?_toList, Array.getElem?_eq_getElem hi, List.getElem?_eq_getElem hj] at e2
      rw [Array.getElem?_toList, e1, ek, List.getElem?_eq_getElem hj]
      have e3 := Option.some.inj e2
      rw [e3]; rfl
    · rw [Array.getElem?_toList, Array.getElem?_eq_none (by rw [hacc.1, hes]; omega), List.getElem?_eq_none (by omega)]; rfl
  rw [hits]
  generalize hI : (xs.map fun x => Value.ref x.2.1) = its at em hr ⊢
  have hzi : its.length ≤ sizeLine := by rw [← hI, List.length_map, hlx]; exact z
  refine wpAny_bind (wpAny_newList ?_ hzi)
  have hoL : (h'.push { cls := .type "list", data := .seq its.toArray }).get? h'.objs.size = some (seqObj "list" its.toArray 0) := Heap.get?_push_size _ rfl
  have kk : ∀ b o, s.heap.get? b = some o → b ≠ h'.objs.size ∧ (h'.push { cls := .type "list", data := .seq its.toArray }).get? b = some o := fun b o e =>
    ⟨Nat.ne_of_lt (Heap.lt_size (hk _ _ e)), Heap.get?_push_of_some _ (hk _ _ e)⟩
  refine wpAny_bind (wpAny_holding (wpAny_call_entry slot_list_sort ⟨_, hoL, rfl⟩ entry_list_sort (SrtO.list_sort_ord (ltv := fun u v => ltC (keyAt s.heap u) (keyAt s.heap v)) (swo_cd _) hoL hzi
    (fun h2 => sortable_of (fun u hu => by obtain ⟨_, as, _, _, rd⟩ := hr u hu; exact ⟨as, rd⟩) (fun u hu => by rw [← em]; exact List.mem_map_of_mem hu) ok hzi hu kk h2 _) fun out h1 h2 => ⟨_, rfl, ?_⟩) (args_list_sort _)))
  refine wpAny_pure ⟨_, rfl, ?_⟩
  have memO : ∀ u ∈ out, u ∈ its := fun u hu => h2.perm.mem_iff.mp hu
  have hm : out.map (keyAt s.heap) = sortC (ns.map cI) := by
    refine sortC_uniq (List.pairwise_map.mpr h1) ?_
    rw [← em]
    exact h2.perm.map _
  obtain ⟨b1, b2⟩ := rpAll_back (K := X.K) (H := H) (k := keyAt s.heap) (us := out) fun u hu => by
    obtain ⟨v, as, r1, r2, _⟩ := hr u (memO u hu)
    exact ⟨v, r1, r2⟩
  rw [hm] at b1
  have lo : (out.map backV).length ≤ sizeLine := by rw [List.length_map, h2.perm.length_eq]; exact hzi
  obtain ⟨ep2, he2⟩ := sortedHeap_at (h := h'.push { cls := .type "list", data := .seq its.toArray }) (a := h'.objs.size) (n := 0) (vs := its) (out := out.toArray) hoL
  have hle : s.heap.objs.size ≤ h'.objs.size := Nat.le_of_lt hlt
  exact ⟨.ref _, upd H h'.objs.size (.lst (out.map backV)), I.laid (t' := tk) (fun b o e => by
    have hb := kk b o e
    rw [sortedHeap_old hb.1 (Heap.lt_size hb.2)]
    exact hb.2) hle ⟨lo, out, ep2, b2, he2⟩, rfl, q _ _ (I.hok.fresh hle) b1⟩
/-- sorted(d) -/
def sortedKD := on1 fun w S => match w with
  | .loc n => match S[n]? with
    | some (.dicT kvs) => (keysI (kvs.map (·.1))).bind fun ns => if sortable (ns.map cI) = true then some (.d (.list (sortT ns)), S) else none
    | _ => none
  | _ => none
theorem tab_keys {κ : Type} {K : PySem.W.Frag} {m : List Addr} {H : Hp} {us : List (κ × V)} {kvs : List (κ × W)} (r : Paired (fun (p : κ × V) (q : κ × W) => p.1 = q.1 ∧ RW K m H p.2 q.2) us kvs) : us.map (·.1) = kvs.map (·.1) := by
  induction r with
  | nil => rfl
  | cons h t ih => rw [List.map_cons, List.map_cons, ih, h.1]
theorem call_sortedKD {k : Nat} (hr : Room k X.A) : CallR X (.builtin "sorted") (rC X.K sortedKD) := by
  have raw : CallR X (.builtin "sorted") (fun vs H Q => ∃ a us ns, vs = [.ref a] ∧ H a = some (.dT us) ∧ keysI (us.map (·.1)) = some ns ∧ sortable (ns.map cI) = true ∧ ∀ p ys, H p = none → RpAll X.K H ys (toPs (sortC (ns.map cI))) → Q (.ref p) (upd H p (.lst ys))) := by
    intro pins s σ H vs us Q I rx h
    obtain ⟨a, us, ns, rfl, hs, hn, ok, q⟩ := h
    cases rx with
    | cons r1 t =>
      cases t
      cases r1
      exact sortedK_run I hs hn ok hr.hd (by have := hr.un; omega) q
  intro pins s σ H vs us Q I rx h
  obtain ⟨m, S, ρ, σ', w0, w, S', v, rfl, q, r, e, p⟩ := rC1 h
  split at e
  · obtain ⟨a, hm, rfl⟩ := r
    split at e
    · rename_i kvs hs
      obtain ⟨ns, e1, e2⟩ := Option.bind_eq_some_iff.mp e
      split at e2
      · rename_i hok
        cases e2
        obtain ⟨b, hb, us', hv, pr⟩ := q.obs _ _ hs
        rw [hm] at hb; cases hb
        exact callFrz raw pins s σ H _ us Q I rx ⟨a, us', ns, rfl, hv, by rw [tab_keys pr]; exact e1, hok, fun t ys ht ry => newL p q ry t ht⟩
      · cases e2
    · cases e
  · cases e
end
end DL
end
noncomputable section
namespace DL
open PySem PySem.Spec PyProof.Rows L2
/-- d[k] = v where k stands as a tuple -/
theorem d_dictSetT {X : Cx} {pins : List (Addr × Obj)} {σ : L2.St} {H : Hp} {s : Shared} {E : Value → Shared → Prop} {D b : Addr} {kvs : List (List Key × V)} {k : List Key} {v : V} {r : Value} {Q : Unit → Shared → Prop} (hu : X.A.units < cLine) (I : Inv X pins σ H s) (hD : H D = some (.dT kvs)) (hz : kvs.length < sizeLine)
    (hb : H b = some (.tup (k.map kV))) (rv : RelV v r) (h : ∀ s', Inv X pins σ (upd H D (.dT (putK kvs k v))) s' → Q () s') : wpAny (model X.prog X.w) X.A (dictSet D (.ref b) r) Q E s := by
  obtain ⟨z, hd, xs, rel, dd⟩ := dt_of I.hok hD
  have hzx : xs.length ≤ sizeLine := by rw [← Paired.length rel]; exact z
  have hl : (putK kvs k v).length ≤ sizeLine := by have := length_putK kvs k v; omega
  refine wpAny_dictSet_heap (hsz := hzx) (knd := tupleKind (mixKind X.prog X.w)) (show X.A.units < cLine from hu) (key_of I.hok hb) dd fun h' dd' hs => h _ ?_
  obtain ⟨q, es, ep, hq, h2, h3, h4, _, h5⟩ := dd'
  refine d_write I (by rw [hD]; exact True.intro) hs ⟨q, hq⟩ ⟨hl, hd, _, (rel.put k hb rv).keeps fun c ys ec => ?_, q, es, ep, hq, h2, h3, h4, h5⟩
  rw [upd_ne (ne_of ec hD (fun z => nomatch z))]
  exact ec
section
variable {X : Cx}
/-- {k: v for target in iter if ..}, the keys tuples: as the kit's DictComp, with a table of tuple keys -/
def tDcT (wi : TI) (g : TG) (tt : TT) (tk tv : TE) (vs : List Nat) : TE := fun σ H Q => wi σ H fun J H1 => ∀ D, H1 D = none → ∃ W : Nat → Nat → Hp → Prop, (∃ m, W 0 m (upd H1 D (.dT []))) ∧ ∀ i m H, W i m H →
  (J.stop i H ∧ Q (.ref D) H) ∨ (J.go i H ∧ ∃ Nx : Hp → Prop, (∀ H', Nx H' → ∃ m', m' < m ∧ W (i + 1) m' H') ∧ ∀ x H', J.yld i H x H' → g x (wipe σ vs) H' fun σ2 H2 => wipe σ2 vs = wipe σ vs ∧ tt σ2 H2 fun b H3 =>
    if b = true then tk σ2 H3 fun y H4 => tv σ2 H4 fun z H5 => ∃ kvs k c, y = .ref c ∧ H5 c = some (.tup (k.map kV)) ∧ H5 D = some (.dT kvs) ∧ kvs.length < sizeLine ∧ Nx (upd H5 D (.dT (putK kvs k z))) else Nx H3)
theorem dc_coreT {pins : List (Addr × Obj)} {s : Shared} {σ : L2.St} {H : Hp} {Q : VK} {kx vx tg iter : Expr} {ifs : List Expr} {scope : Scope} {own : List (Str × Nat)} {pos pos' : Pos} {wi : TI} {g : TG} {tt : TT} {tk tv : TE} {use : Option (Value → Sem Unit)} {Qf : Value → Shared → Prop}
    (hu : X.A.units < cLine) (hc : X.calm = true) (hN : X.N.Nodup) (I : Inv X pins σ H s) (hi : PI X tg iter wi) (ok : BlkOk X.N X.env.scope scope own)
    (hg : ∀ (s : Shared) (H : Hp) (C : Addr) (cl : List (Str × Addr)) (fp : List Addr), PG (X.blk s H scope (compEnvC scope cl C X.env) fp) tg g) (ht : ∀ (s : Shared) (H : Hp) (C : Addr) (cl : List (Str × Addr)) (fp : List Addr), PTs (X.blk s H scope (compEnvC scope cl C X.env) fp) ifs tt)
    (hk : ∀ (s : Shared) (H : Hp) (C : Addr) (cl : List (Str × Addr)) (fp : List Addr), PE (X.blk s H scope (compEnvC scope cl C X.env) fp) kx tk)
    (he : ∀ (s : Shared) (H : Hp) (C : Addr) (cl : List (Str × Addr)) (fp : List Addr), PE (X.blk s H scope (compEnvC scope cl C X.env) fp) vx tv) (hs : ∀ x, foldedSetIterable iter X.env x = pure x)
    (h : tDcT wi g tt tk tv (own.map (·.2)) σ H Q)
    (hRR : ∀ D C s' m H', Inv X pins σ H' s' → Q (.ref D) H' → s'.heap.Ns C m → FpOk X pins H' C → compPost (model X.prog X.w) X.A X.xe use Qf (.ref D) C (.ok .next) s') :
    wpAny (model X.prog X.w) X.A (comprehension (.DictComp kx vx [⟨tg, iter, ifs, 0⟩] scope pos) scope X.env pos' newDict false (eval iter X.env) use) Qf X.xe s := by
  have hfree : ∀ y ∈ scope.names, y.2 = .free → ∃ c, X.env.cells.lookup y.1 = some c := fun y hy e => by
    rcases ok.free y hy e with k | k
    · exact I.ok.has _ (.inl k)
    · exact I.ok.has _ (.inr k)
  refine wpAny_comprehension_free (use := use) rfl hs (closure_ok hfree) ok.kind (fun y hy e => by rw [ok.uniq y hy, e])
    (thn (hi.run pins s σ H _ I h) fun xv s1 hx => thn hx fun itv s2 h2 => ?_)
  obtain ⟨it, fp, tn, J, H2, e, I2, T, st2, f2, q⟩ := h2
  subst e
  refine wpAny_newObj_type (newEnv_comp ?_)
  generalize hD : s2.heap.objs.size = D
  have hDn : H2 D = none := I2.hok.fresh (Nat.le_of_eq hD)
  obtain ⟨W, ⟨m0, w0⟩, turn⟩ := q D hDn
  -- the new list
  generalize hs3 : ({ s2 with heap := s2.heap.push { cls := .type "dict", data := .dict #[] } } : Shared) = s3
  have I3 : Inv X pins σ (upd H2 D (.dT [])) s3 := by
    rw [← hs3]
    refine I2.laid (t' := s2.toks) (fun b o e => Heap.get?_push_of_some _ e) (Nat.le_of_eq hD) ?_
    rw [← hD]
    exact dt_empty s2.heap I2.big
  have h3 : s3.heap = s2.heap.push { cls := .type "dict", data := .dict #[] } := by rw [← hs3]
  have sz : ∀ b ∈ fp, b < s2.heap.objs.size := fun b hb => by
    obtain ⟨o, e, _⟩ := T.obj _ _ st2 b hb
    exact Heap.lt_size e
  have f3 : ∀ b ∈ fp, FpOk X pins (upd H2 D (.dT [])) b ∧ b < s3.heap.objs.size := fun b hb => by
    have hlt := sz b hb
    refine ⟨⟨?_, (f2 b hb).2⟩, by rw [h3, Heap.size_push]; exact Nat.lt_succ_of_lt hlt⟩
    rw [upd_ne (by rw [← hD]; exact Nat.ne_of_lt hlt)]
    exact (f2 b hb).1
  have st3 : tn 0 s3.heap := T.keep _ _ _ st2 fun b _ o e => by rw [h3]; exact Heap.get?_push_of_some _ e
  have I4 := block_start I3 ok hN f3
  have pg := hg s3 (upd H2 D (.dT [])) s3.heap.objs.size (cellsFrom (s3.heap.objs.size + 1) scope.names (cloFrom X.env.cells scope.names [])) fp
  have pt := ht s3 (upd H2 D (.dT [])) s3.heap.objs.size (cellsFrom (s3.heap.objs.size + 1) scope.names (cloFrom X.env.cells scope.names [])) fp
  have pk := hk s3 (upd H2 D (.dT [])) s3.heap.objs.size (cellsFrom (s3.heap.objs.size + 1) scope.names (cloFrom X.env.cells scope.names [])) fp
  have pe := he s3 (upd H2 D (.dT [])) s3.heap.objs.size (cellsFrom (s3.heap.objs.size + 1) scope.names (cloFrom X.env.cells scope.names [])) fp
  show codeAny _ _ (.compStart (.DictComp kx vx [⟨tg, iter, ifs, 0⟩] scope pos) 0 (.ref it) (.ref D) (compEnvC scope (cellsFrom (s3.heap.objs.size + 1) scope.names (cloFrom X.env.cells scope.names [])) s3.heap.objs.size X.env)) (compPost (model X.prog X.w) X.A X.xe use Qf (.ref D) s3.heap.objs.size) { s3 with heap := pushCells (s3.heap.push { cls := .type "dict", data := .dict #[] }) scope.names }
  have nfp : ∀ b ∈ fp, (upd H2 D (.dT [])) b = none := fun b hb => (f3 b hb).1.1
  generalize hce : compEnvC scope (cellsFrom (s3.heap.objs.size + 1) scope.names (cloFrom X.env.cells scope.names [])) s3.heap.objs.size X.env = ce at I4 pg pt pk pe ⊢
  have cL : ce.locals = s3.heap.objs.size := by subst hce; rfl
  generalize hH3 : upd H2 D (.dT []) = H3 at I3 I4 pg pt pk pe w0 nfp f3
  generalize hs4 : ({ s3 with heap := pushCells (s3.heap.push { cls := .type "dict", data := .dict #[] }) scope.names } : Shared) = s4 at I4 ⊢
  have st4 : tn 0 s4.heap := T.keep _ _ _ st3 fun b _ o e => by rw [← hs4]; exact pushCells_keeps _ _ _ _ (Heap.get?_push_of_some _ e)
  have stat : ∀ {σ' : L2.St} {H' : Hp} {s' : Shared}, Inv (X.blk s3 H3 scope ce fp) [] σ' H' s' → (∀ b ∈ fp, H' b = none) → ∀ b ∈ fp, FpOk (X.blk s3 H3 scope ce fp) [] H' b := fun {σ' H' s'} I' hn b hb =>
    ⟨hn b hb, (I'.ok.exf b hb).1, I'.ok.exfs b hb, .inl hb, fun x c e => (I'.ok.exf b hb).2 x c e, fun p hp => absurd (show p ∈ ([] : List (Addr × Obj)) ++ [] from hp) (by simp)⟩
  have loop : codeAny (model X.prog X.w) X.A (.compLoop (.DictComp kx vx [⟨tg, iter, ifs, 0⟩] scope pos) 0 (.ref it) (.ref D) ce) (compPost (model X.prog X.w) X.A X.xe use Qf (.ref D) s3.heap.objs.size) s4 := by
    refine compLoop_anyD (fun n s' => ∃ i H', Inv (X.blk s3 H3 scope ce fp) [] (wipe σ (own.map (·.2))) H' s' ∧ tn i s'.heap ∧ (∀ b ∈ fp, H' b = none) ∧ W i n H') ?_ m0 ⟨0, H3, I4, st4, nfp, w0⟩
    rintro n s5 ⟨i, H5, I5, st5, n5, w5⟩
    rcases turn i n H5 w5 with ⟨stop, qq⟩ | ⟨go, Nx, hNx, step⟩
    · have td := T.done (X.blk s3 H3 scope ce fp) rfl rfl rfl hc i [] s5 _ H5 (fun _ _ => False) I5 (stat I5 n5) st5 stop
      refine thnF td fun r s6 ⟨hr, I6⟩ => ?_
      subst hr
      -- back in the def's context
      have I7 : Inv X pins σ H5 s6 := I3.call' (ch := fp) I6.os I6.base I6.hok I6.bare fun b hb => ⟨(f3 b hb).1.2.2.2.1, (f3 b hb).1.2.1, (f3 b hb).1.2.2.2.2.1, (f3 b hb).1.2.2.2.2.2⟩
      have nC : H5 s3.heap.objs.size = none := by
        have z : H5 ce.locals = none := I6.free
        rw [cL] at z
        exact z
      obtain ⟨m, hn, _⟩ := I6.loc
      have hn : s6.heap.Ns ce.locals m := hn
      rw [cL] at hn
      exact hRR D s3.heap.objs.size s6 m H5 I7 qq hn (I3.fpOk (Nat.le_refl _) nC)
    · have ti := T.item (X.blk s3 H3 scope ce fp) rfl rfl rfl hc i [] s5 _ H5 (fun _ _ => False) I5 (stat I5 n5) st5 go
      refine thnF ti fun r s6 ⟨u, hr, h6⟩ => ?_
      subst hr
      refine thnF h6 fun _ s7 ⟨x, H7, I7, r7, y7, st7, n7⟩ => ?_
      have I7' := I7.pinned (stat I7 n7) (T.obj _ _ st7)
      refine thnF (pg.run _ s7 _ H7 x u _ I7' r7 (step x H7 y7)) fun _ s8 ⟨σ8, H8, I8, hw8, q8⟩ => ?_
      refine thnF (pt.run _ s8 σ8 H8 _ I8 q8) fun b s9 ⟨H9, I9, q9⟩ => ?_
      -- the turn's end
      have fin : ∀ {s' : Shared} {H' : Hp}, Inv (X.blk s3 H3 scope ce fp) ([] ++ pinsAt fp s7.heap) σ8 H' s' → Nx H' → ∃ m, m < n ∧ ∃ i H', Inv (X.blk s3 H3 scope ce fp) [] (wipe σ (own.map (·.2))) H' s' ∧ tn i s'.heap ∧ (∀ b ∈ fp, H' b = none) ∧ W i m H' := fun {s' H'} I' nx => by
        obtain ⟨m', hm, w'⟩ := hNx H' nx
        have pin' : ∀ b ∈ fp, ∀ o, s7.heap.get? b = some o → s'.heap.get? b = some o ∧ H' b = none := fun b hb o e =>
          let z := I'.pin (b, o) (List.mem_append_right _ (List.mem_append_right _ (mem_pinsAt hb e)))
          ⟨z.1, z.2.1⟩
        have hl : (wipe σ (own.map (·.2))).length = σ8.length := by rw [← hw8, wipe_length]
        refine ⟨m', hm, i + 1, H', (I'.unpinned (pins := [])).weak hl (fun j v e => ?_), T.keep _ _ _ st7 fun b hb o e => (pin' b hb o e).1, fun b hb => ?_, w'⟩
        · rw [← hw8] at e
          exact (wipe_some e).1
        · obtain ⟨o, e, _⟩ := T.obj _ _ st7 b hb
          exact (pin' b hb o e).2
      cases b with
      | false =>
        simp only [Bool.false_eq_true, if_false] at q9 ⊢
        exact fin I9 q9
      | true =>
        simp only [if_true] at q9 ⊢
        refine thnF (pk.run _ s9 σ8 H9 _ I9 q9) fun z s10 ⟨yk, H10, I10, r10, q10⟩ => ?_
        refine thnF (pe.run _ s10 σ8 H10 _ I10 q10) fun z2 s11 ⟨yv, H11, I11, r11, kvs, k, c, ek, hc11, hD11, hz11, nx⟩ => ?_
        subst ek
        cases r10
        exact d_dictSetT (X := X.blk s3 H3 scope ce fp) hu I11 hD11 hz11 hc11 r11 fun s12 I12 => fin I12 nx
  exact codeAny_compStart_dict loop (T.self X.A 0 _ _ _ st4 loop)
/-- as a value -/
theorem pe_dcT {kx vx tg iter : Expr} {ifs : List Expr} {scope : Scope} {own : List (Str × Nat)} {pos : Pos} {wi : TI} {g : TG} {tt : TT} {tk tv : TE} (hu : X.A.units < cLine) (hc : X.calm = true) (hN : X.N.Nodup) (hi : PI X tg iter wi) (ok : BlkOk X.N X.env.scope scope own)
    (hg : ∀ (s : Shared) (H : Hp) (C : Addr) (cl : List (Str × Addr)) (fp : List Addr), PG (X.blk s H scope (compEnvC scope cl C X.env) fp) tg g) (ht : ∀ (s : Shared) (H : Hp) (C : Addr) (cl : List (Str × Addr)) (fp : List Addr), PTs (X.blk s H scope (compEnvC scope cl C X.env) fp) ifs tt)
    (hk : ∀ (s : Shared) (H : Hp) (C : Addr) (cl : List (Str × Addr)) (fp : List Addr), PE (X.blk s H scope (compEnvC scope cl C X.env) fp) kx tk)
    (he : ∀ (s : Shared) (H : Hp) (C : Addr) (cl : List (Str × Addr)) (fp : List Addr), PE (X.blk s H scope (compEnvC scope cl C X.env) fp) vx tv) (hs : ∀ x, foldedSetIterable iter X.env x = pure x := by intro _; rfl) :
    PE X (.DictComp kx vx [⟨tg, iter, ifs, 0⟩] scope pos) (tDcT wi g tt tk tv (own.map (·.2))) := by
  refine ⟨fun pins s σ H Q I h => ?_⟩
  rw [arm_eval_DictComp]
  refine dc_coreT hu hc hN I hi ok hg ht hk he hs h fun D C s' m H' I' q hn f => ⟨m, hn, fun h'' sb => ?_⟩
  obtain ⟨f0, f1, f2, f3, f4, f5⟩ := f
  exact ⟨.ref D, H', I'.turned (t' := s'.toks) (fun b o hb e => (sb.2 b hb).trans e) f0 f1 f3 f4 f5, rfl, q⟩
end
/-! ### {a: b for ..} on values of the store -/
def dcL (g : MG) (T : MT) (A B : ME) (vs : List Nat) (ρ : DEnv) : List W → List (List Key × W) → Sto → Option (List (List Key × W) × Sto)
  | [], acc, S => some (acc, S)
  | w :: ws, acc, S => (g w (wipeD ρ vs) S).bind fun p => (T p.1 p.2).bind fun b => if b.1 = true then (A p.1 b.2).bind fun y => match y.1 with
    | .d (.tuple ds) => (keysD ds).bind fun k => (B p.1 y.2).bind fun z => if acc.length < sizeLine then dcL g T A B vs ρ ws (putW acc k z.1) z.2 else none
    | _ => none
    else dcL g T A B vs ρ ws acc b.2
def mDc (it : MI) (g : MG) (T : MT) (A B : ME) (vs : List Nat) : ME := fun ρ S => (it ρ S).bind fun p => (dcL g T A B vs ρ p.1 [] p.2).bind fun r => some (.loc r.2.length, r.2 ++ [.dicT r.1])
section
variable {K : PySem.W.Frag} {it : MI} {g : MG} {T : MT} {A B : ME} {vs : List Nat} {σ : L2.St} {H : Hp} {Q : VK}
abbrev TabR (K : PySem.W.Frag) (m : List Addr) (H : Hp) : List (List Key × V) → List (List Key × W) → Prop := Paired fun p q => p.1 = q.1 ∧ RW K m H p.2 q.2
theorem rd_dc (h : rdE K (mDc it g T A B vs) σ H Q) : tDcT (rdI K it) (rdG K vs g) (rdT K T) (rdE K A) (rdE K B) vs σ H Q := by
  obtain ⟨m, S, ρ, w, S', q, e, p⟩ := h
  obtain ⟨⟨ws, S1⟩, e1, e⟩ := Option.bind_eq_some_iff.mp e
  obtain ⟨⟨all, S9⟩, hh2, e3⟩ := Option.bind_eq_some_iff.mp e
  cases e3
  refine ⟨m, S, ρ, ws, S1, q, e1, fun ext J H1 f q1 fr yl D hD => ?_⟩
  have p1 := p.at f q1 fr
  clear p fr f q e e1
  generalize m ++ ext = m at *
  have keepD := upd_keeps (o := HO.dT []) hD
  have q2 := q1.same keepD
  have nD := q1.nomem hD
  have kpD : Kp H1 (upd H1 D (.dT [])) := upd_kp hD
  refine ⟨fun i n H' => ∃ e2 S2 acc us, n = ws.length - i ∧ i ≤ ws.length ∧ Fresh e2 (upd H1 D (.dT [])) ∧ Sim K (m ++ e2) S2 ρ σ H' ∧ (∀ a o, H1 a = some o → (a ∉ m ∨ Imm o) → H' a = some o) ∧ D ∉ m ++ e2 ∧ H' D = some (.dT us) ∧ TabR K (m ++ e2) H' us acc ∧ dcL g T A B vs ρ (ws.drop i) acc S2 = some (all, S9),
    ⟨_, [], S1, [], [], rfl, Nat.zero_le _, fun _ h => absurd h (by simp), by rwa [List.append_nil], fun a o h _ => keepD a o h, by rwa [List.append_nil], upd_same, .nil, hh2⟩, ?_⟩
  rintro i n H' ⟨e2, S2, acc, us, rfl, hi, f2, q3, fr2, n2, hus, pz, e⟩
  have fr2' : Fr m H1 H' := fr2
  have kp2 : Kp H1 H' := fr2'.kp
  have f2o : Fresh e2 H1 := fresh_old f2 keepD
  by_cases hlt : i < ws.length
  · rw [List.drop_eq_getElem_cons hlt] at e
    simp only [dcL] at e
    obtain ⟨⟨ρ3, S3⟩, e3', e⟩ := Option.bind_eq_some_iff.mp e
    obtain ⟨⟨b, S4⟩, e4, e⟩ := Option.bind_eq_some_iff.mp e
    refine .inr ⟨yl.go i H' hlt kp2, fun H4 => ∃ n', n' < ws.length - i ∧ ∃ e2 S2 acc us, n' = ws.length - (i + 1) ∧ i + 1 ≤ ws.length ∧ Fresh e2 (upd H1 D (.dT [])) ∧ Sim K (m ++ e2) S2 ρ σ H4 ∧ (∀ a o, H1 a = some o → (a ∉ m ∨ Imm o) → H4 a = some o) ∧ D ∉ m ++ e2 ∧ H4 D = some (.dT us) ∧ TabR K (m ++ e2) H4 us acc ∧ dcL g T A B vs ρ (ws.drop (i + 1)) acc S2 = some (all, S9), fun H4 z => z, fun x H2 y => ?_⟩
    obtain ⟨kp, rx⟩ := yl.yld i H' x H2 ws[i] (List.getElem?_eq_getElem hlt) kp2 y
    have q4 := q3.same kp
    have hD2 : H2 D = some (.dT us) := kp _ _ hus
    refine ⟨m ++ e2, S2, wipeD ρ vs, ws[i], ρ3, S3, q4.wipe vs, rx.mono (Kp.refl _), e3', fun ext3 σ3 H3 hw f3 q5 fr3 => ⟨by rw [hw, wipe_twice], ?_⟩⟩
    have simAt : ∀ (ext : List Addr) (S5 : Sto) (ρ5 : DEnv) (σ5 : L2.St) (H5 : Hp), Fresh ext H2 → Sim K (m ++ e2 ++ ext) S5 ρ5 σ5 H5 → Fr (m ++ e2) H2 H5 →
        Sim K (m ++ (e2 ++ ext)) S5 ρ σ H5 ∧ Fresh (e2 ++ ext) (upd H1 D (.dT [])) ∧ (∀ a o, H1 a = some o → (a ∉ m ∨ Imm o) → H5 a = some o) ∧ D ∉ m ++ (e2 ++ ext) ∧ H5 D = some (.dT us) ∧ TabR K (m ++ (e2 ++ ext)) H5 us acc := fun ext S5 ρ5 σ5 H5 f5 q6 fr5 => by
      have k5 : Kp H' H5 := (fun a o h i => fr5 a o (kp a o h) (.inr i))
      have nde : D ∉ ext := fun z => by rw [f5 D z] at hD2; cases hD2
      refine ⟨⟨fun j w' ej => ?_, by rw [← List.append_assoc]; exact q6.len, by rw [← List.append_assoc]; exact q6.nd, by rw [← List.append_assoc]; exact q6.obs, q3.rl⟩, ?_, fun a o h c => ?_, ?_, ?_, ?_⟩
      · obtain ⟨v, hv, rv⟩ := q3.slot j w' ej
        refine ⟨v, hv, ?_⟩
        rw [← List.append_assoc]
        exact rv.mono k5
      · intro a ha
        rcases List.mem_append.mp ha with z | z
        · exact f2 a z
        · have h2 := f5 a z
          have nD' : a ≠ D := fun w => nde (w ▸ z)
          rw [upd_ne nD']
          cases z3 : H1 a with
          | none => rfl
          | some o =>
            by_cases c : a ∉ m ∨ Imm o
            · have := kp a o (fr2 a o z3 c)
              rw [h2] at this; cases this
            · have am : a ∈ m := Classical.byContradiction fun w => c (.inl w)
              obtain ⟨o', ho⟩ := q4.mem (List.mem_append_left e2 am)
              rw [h2] at ho; cases ho
      · have h1 := fr2 a o h c
        have h2 := kp a o h1
        refine fr5 a o h2 ?_
        rcases c with c | c
        · refine .inl fun z => ?_
          rcases List.mem_append.mp z with z | z
          · exact c z
          · rw [f2o a z] at h; cases h
        · exact .inr c
      · intro z
        rcases List.mem_append.mp z with z | z
        · exact n2 (List.mem_append_left _ z)
        · rcases List.mem_append.mp z with z | z
          · exact n2 (List.mem_append_right _ z)
          · exact nde z
      · exact fr5 D _ hD2 (.inl n2)
      · rw [← List.append_assoc]
        exact Paired.mapP pz fun _ _ h => ⟨h.1, h.2.mono k5⟩
    refine ⟨_, S3, ρ3, b, S4, q5, e4, fun ext4 H4 f4 q6 fr4 => ?_⟩
    have ff : Fresh (ext3 ++ ext4) H2 := f3.append fr3 q5 f4
    have fr24 : Fr (m ++ e2) H2 H4 := fr3.trans f3 fr4
    cases b with
    | false =>
      simp only [Bool.false_eq_true, if_false] at e ⊢
      obtain ⟨s1, s2, s3, s4, s5, s6⟩ := simAt (ext3 ++ ext4) S4 _ _ H4 ff (by rwa [← List.append_assoc]) fr24
      exact ⟨_, by omega, _, S4, acc, us, rfl, hlt, s2, s1, s3, s4, s5, s6, e⟩
    | true =>
      simp only [if_true] at e ⊢
      obtain ⟨⟨y, S5⟩, e5, e⟩ := Option.bind_eq_some_iff.mp e
      simp only at e
      split at e
      · rename_i ds
        obtain ⟨k, ek, e⟩ := Option.bind_eq_some_iff.mp e
        obtain ⟨⟨z, S6⟩, e6, e⟩ := Option.bind_eq_some_iff.mp e
        split at e
        · rename_i hacc
          refine ⟨_, S4, ρ3, .d (.tuple ds), S5, q6, e5, fun ext5 H5 yv f5 q7 fr5 ry => ⟨_, S5, ρ3, z, S6, q7, e6, fun ext6 H6 zv f6 q8 fr6 rz => ?_⟩⟩
          have ff5 : Fresh (ext3 ++ ext4 ++ ext5) H2 := ff.append fr24 (by rwa [← List.append_assoc]) f5
          have fr25 : Fr (m ++ e2) H2 H5 := fr24.trans ff (by rwa [← List.append_assoc])
          have q7' : Sim K (m ++ e2 ++ (ext3 ++ ext4 ++ ext5)) S5 ρ3 σ3 H5 := by rw [← List.append_assoc, ← List.append_assoc]; exact q7
          have ff6 : Fresh (ext3 ++ ext4 ++ ext5 ++ ext6) H2 := ff5.append fr25 q7' f6
          have fr26 : Fr (m ++ e2) H2 H6 := fr25.trans ff5 (by rw [← List.append_assoc, ← List.append_assoc]; exact fr6)
          have q8' : Sim K (m ++ e2 ++ (ext3 ++ ext4 ++ ext5 ++ ext6)) S6 ρ3 σ3 H6 := by rw [← List.append_assoc, ← List.append_assoc, ← List.append_assoc]; exact q8
          obtain ⟨s1, s2, s3, s4, s5, s6⟩ := simAt (ext3 ++ ext4 ++ ext5 ++ ext6) S6 _ _ H6 ff6 q8' fr26
          obtain ⟨c, xs, rfl, hc, rk⟩ := rp_tupH ry
          obtain rfl := keysD_of ek rk
          have hc6 : H6 c = some (.tup (k.map kV)) := fr6.kp _ _ hc trivial
          refine ⟨us, k, c, rfl, hc6, s5, by rw [s6.length]; exact hacc, _, by omega, _, S6, putW acc k z, putK us k zv, rfl, hlt, s2, s1.other s4 s5 (fun z => z), fun a o h c => ?_, s4, upd_same, ?_, e⟩
          · have : a ≠ D := fun z => by subst z; rw [hD] at h; cases h
            rw [upd_ne this]
            exact s3 a o h c
          · have kk : Kp H6 (upd H6 D (.dT (putK us k zv))) := kp_other s5 fun z => z
            refine tab_put (Paired.mapP s6 fun _ _ z => ⟨z.1, z.2.mono0 kk⟩) ?_
            have := rz.mono0 kk
            rwa [show m ++ e2 ++ ext3 ++ ext4 ++ ext5 ++ ext6 = m ++ (e2 ++ (ext3 ++ ext4 ++ ext5 ++ ext6)) by simp] at this
        · cases e
      · cases e
  · have ei : i = ws.length := by omega
    subst ei
    rw [List.drop_length] at e
    cases e
    refine .inl ⟨yl.stop H' kp2, ?_⟩
    have q9 := q3.adopt (a := D) (ob := .dicT all) n2 ⟨us, hus, Paired.mapP pz fun _ _ z => ⟨z.1, z.2.mono (Kp.refl _)⟩⟩
    refine p1 (e2 ++ [D]) H' _ (fun a ha => ?_) (by rw [← List.append_assoc]; exact q9) fr2 ⟨D, ?_, rfl⟩
    · rcases List.mem_append.mp ha with z | z
      · exact f2o a z
      · rw [List.mem_singleton.mp z]; exact hD
    · rw [← List.append_assoc, ← q3.len, List.getElem?_append_right (Nat.le_refl _)]; simp
end
section
variable {X : Cx} {kx vx tg iter : Expr} {ifs : List Expr} {scope : Scope} {own : List (Str × Nat)} {pos : Pos} {it : MI} {g : MG} {T : MT} {A B : ME}
theorem de_dc {k : Nat} (hr : Room k X.A) (hc : X.calm = true) (hN : X.N.Nodup) (hi : PI X tg iter (rdI X.K it)) (ok : BlkOk X.N X.env.scope scope own)
    (hg : ∀ (s : Shared) (H : Hp) (C : Addr) (cl : List (Str × Addr)) (fp : List Addr), PG (X.blk s H scope (compEnvC scope cl C X.env) fp) tg (rdG X.K (own.map (·.2)) g)) (ht : ∀ (s : Shared) (H : Hp) (C : Addr) (cl : List (Str × Addr)) (fp : List Addr), PTs (X.blk s H scope (compEnvC scope cl C X.env) fp) ifs (rdT X.K T))
    (hk : ∀ (s : Shared) (H : Hp) (C : Addr) (cl : List (Str × Addr)) (fp : List Addr), PE (X.blk s H scope (compEnvC scope cl C X.env) fp) kx (rdE X.K A))
    (he : ∀ (s : Shared) (H : Hp) (C : Addr) (cl : List (Str × Addr)) (fp : List Addr), PE (X.blk s H scope (compEnvC scope cl C X.env) fp) vx (rdE X.K B)) (hs : ∀ x, foldedSetIterable iter X.env x = pure x := by intro _; rfl) :
    PE X (.DictComp kx vx [⟨tg, iter, ifs, 0⟩] scope pos) (rdE X.K (mDc it g T A B (own.map (·.2)))) := wkE (pe_dcT (by have := hr.un; omega) hc hN hi ok hg ht hk he hs) fun σ H Q q => rd_dc q
/-! ### {a: b} -/
def tDisp1T (tk tv : TE) : TE := fun σ H Q => ∀ p, H p = none → tk σ (upd H p (.dT [])) fun y H1 => tv σ H1 fun z H2 => ∃ b ks, y = .ref b ∧ H2 b = some (.tup (ks.map kV)) ∧ H2 p = some (.dT []) ∧ Q (.ref p) (upd H2 p (.dT [(ks, z)]))
theorem pe_disp1T {a b : Expr} {tk tv : TE} (hu : X.A.units < cLine) (hk : PE X a tk) (hv : PE X b tv) : PE X (.Dict [some a] [b] pos) (tDisp1T tk tv) := by
  refine ⟨fun pins s σ H Q I q => ?_⟩
  have hn := I.hok.fresh (Nat.le_refl s.heap.objs.size)
  have I1 := I.laid (a := s.heap.objs.size) (o := .dT []) (h' := s.heap.push { cls := .type "dict", data := .dict #[] }) (t' := s.toks) (fun _ _ q => Heap.get?_push_of_some _ q) (Nat.le_refl _) (dt_empty s.heap I.big)
  refine wpAny_Dict_any rfl rfl (by simp) (show 1 ≤ 15 by decide) ?_
  refine pairTrees_cons_walk (thn (hk.run pins _ σ _ _ I1 (q _ hn)) fun u s1 ⟨y, H1, I2, ry, q1⟩ => thn (hv.run pins s1 σ H1 _ I2 q1) fun r s2 ⟨z, H2, I3, rz, c, ks, ey, hc, hp, q2⟩ => pairTrees_nil_walk ?_)
  subst ey
  cases ry
  show wpAny _ _ (storeAll s.heap.objs.size [(.ref c, r)]) _ _ _
  unfold storeAll
  rw [List.forIn_cons]
  refine wpAny_bind (wpAny_bind (d_dictSetT hu I3 hp (Nat.lt_of_lt_of_le Nat.zero_lt_one (by decide)) hc rz fun s' I' => wpAny_pure ?_))
  dsimp only
  rw [List.forIn_nil]
  exact wpAny_pure ⟨.ref s.heap.objs.size, _, I', rfl, q2⟩
def mDisp1 (A B : ME) : ME := fun ρ S => (A ρ S).bind fun p => match p.1 with
  | .d (.tuple ds) => (keysD ds).bind fun k => (B ρ p.2).bind fun q => some (.loc q.2.length, q.2 ++ [.dicT [(k, q.1)]])
  | _ => none
theorem de_disp1 {a b : Expr} {k : Nat} (hr : Room k X.A) (ha : PE X a (rdE X.K A)) (hb : PE X b (rdE X.K B)) : PE X (.Dict [some a] [b] pos) (rdE X.K (mDisp1 A B)) :=
  wkE (pe_disp1T (by have := hr.un; omega) ha hb) fun σ H Q h => by
    obtain ⟨m, S, ρ, w, S', q, e, p⟩ := h
    obtain ⟨⟨wx, S1⟩, e1, e⟩ := Option.bind_eq_some_iff.mp e
    simp only at e
    split at e
    · rename_i ds
      obtain ⟨k, ek, e⟩ := Option.bind_eq_some_iff.mp e
      obtain ⟨⟨wy, S2⟩, e2, e3⟩ := Option.bind_eq_some_iff.mp e
      cases e3
      intro t ht
      have keepT := upd_keeps (o := HO.dT []) ht
      have nT := q.nomem ht
      refine ⟨m, S, ρ, .d (.tuple ds), S1, q.same keepT, e1, fun ext H1 x f q1 fr r => ⟨_, S1, ρ, wy, S2, q1, e2, fun ext2 H2 y f2 q2 fr2 r2 => ?_⟩⟩
      obtain ⟨c, xs, rfl, hc, rk⟩ := rp_tupH r
      obtain rfl := keysD_of ek rk
      have hT1 : H1 t = some (.dT []) := fr t _ upd_same (.inl nT)
      have nT1 : t ∉ m ++ ext := fun z => by
        rcases List.mem_append.mp z with z | z
        · exact nT z
        · have := f t z; rw [upd_same] at this; cases this
      have hT2 : H2 t = some (.dT []) := fr2 t _ hT1 (.inl nT1)
      have nT2 : t ∉ m ++ ext ++ ext2 := fun z => by
        rcases List.mem_append.mp z with z | z
        · exact nT1 z
        · have := f2 t z; rw [hT1] at this; cases this
      refine ⟨c, k, rfl, fr2.kp _ _ hc trivial, hT2, ?_⟩
      have kk : Kp H2 (upd H2 t (.dT [(k, y)])) := kp_other hT2 fun z => z
      have q3 := (q2.other (o := .dT [(k, y)]) nT2 hT2 fun z => z).adopt (ob := .dicT [(k, wy)]) nT2 ⟨[(k, y)], upd_same, .cons ⟨rfl, (r2.mono0 kk).mono (Kp.refl _)⟩ .nil⟩
      refine p (ext ++ ext2 ++ [t]) _ _ (fun a ha => ?_) (by rw [← List.append_assoc, ← List.append_assoc]; exact q3) (fun a o h z => ?_) ⟨t, ?_, rfl⟩
      · rcases List.mem_append.mp ha with z | z
        · have f12 : Fresh (ext ++ ext2) (upd H t (.dT [])) := f.append fr q1 f2
          have := f12 a z
          cases e : H a with
          | none => rfl
          | some o => rw [keepT a o e] at this; cases this
        · rw [List.mem_singleton.mp z]; exact ht
      · have na : a ≠ t := fun z => by subst z; rw [ht] at h; cases h
        rw [upd_ne na]
        have fr12 := fr.trans f fr2
        exact fr12 a o (keepT a o h) z
      · rw [← List.append_assoc, ← List.append_assoc, ← q2.len, List.getElem?_append_right (Nat.le_refl _)]; simp
    · cases e
end
end DL
end
noncomputable section
namespace DL
open PySem PySem.Spec PyProof.Rows L2
section
variable {X : Cx} {a b : Expr} {rest : List Expr} {pos : Pos} {A B : ME}
def vOrT (A B : ME) : ME := fun ρ S => (A ρ S).bind fun p => (truD p.2 p.1).bind fun c => if c = true then some p else B ρ p.2
def vAndT (A B : ME) : ME := fun ρ S => (A ρ S).bind fun p => (truD p.2 p.1).bind fun c => if c = true then B ρ p.2 else some p
theorem de_orT (ha : PE X a (rdE X.K A)) (hb : PE X (.BoolOp .Or (b :: rest) pos) (rdE X.K B)) : PE X (.BoolOp .Or (a :: b :: rest) pos) (rdE X.K (vOrT A B)) := wkE (pe_orT ha hb) fun σ H Q q => by
  obtain ⟨m, S, ρ, w, S', q, e, p⟩ := q
  obtain ⟨⟨wx, S1⟩, e1, e2⟩ := Option.bind_eq_some_iff.mp e
  obtain ⟨c, e3, e4⟩ := Option.bind_eq_some_iff.mp e2
  refine ⟨m, S, ρ, wx, S1, q, e1, fun ext H1 x f q1 fr r => ⟨c, truD_of q1 r e3, ?_⟩⟩
  cases c with
  | true =>
    simp only [if_true] at e4
    cases e4
    exact (p.at f q1 fr).now q1 r
  | false => exact ⟨_, S1, ρ, w, S', q1, by simpa using e4, p.at f q1 fr⟩
theorem de_andT (ha : PE X a (rdE X.K A)) (hb : PE X (.BoolOp .And (b :: rest) pos) (rdE X.K B)) : PE X (.BoolOp .And (a :: b :: rest) pos) (rdE X.K (vAndT A B)) := wkE (pe_andT ha hb) fun σ H Q q => by
  obtain ⟨m, S, ρ, w, S', q, e, p⟩ := q
  obtain ⟨⟨wx, S1⟩, e1, e2⟩ := Option.bind_eq_some_iff.mp e
  obtain ⟨c, e3, e4⟩ := Option.bind_eq_some_iff.mp e2
  refine ⟨m, S, ρ, wx, S1, q, e1, fun ext H1 x f q1 fr r => ⟨c, truD_of q1 r e3, ?_⟩⟩
  cases c with
  | true => exact ⟨_, S1, ρ, w, S', q1, by simpa using e4, p.at f q1 fr⟩
  | false =>
    simp only [Bool.false_eq_true, if_false] at e4
    cases e4
    exact (p.at f q1 fr).now q1 r
end
end DL
end
noncomputable section
namespace K17
open PySem PySem.Spec PyProof.Rows L2 DL
/-! ### benches as data -/
abbrev Mv := Int × Int
abbrev Pl := Nat × List Mv
def mv (m : Mv) : PyData := .tuple [.int m.1, .int m.2]
def pl (p : Pl) : PyData := .tuple [.int (p.1 : Nat), .tuple (p.2.map mv)]
def bn (b : List Pl) : PyData := .tuple (b.map pl)
theorem mv_tI (m : Mv) : mv m = tI [m.1, m.2] := rfl
structure GoodP (p : Pl) : Prop where
  lo : 2 ≤ p.1
  hi : p.1 ≤ 6
  len : p.2.length ≤ 36
  mv : ∀ m ∈ p.2, (0 ≤ m.1 ∧ m.1 < p.1) ∧ (0 ≤ m.2 ∧ m.2 < p.1)
structure Good (b : List Pl) : Prop where
  ne : b ≠ []
  len : b.length ≤ 5
  pl : ∀ p ∈ b, GoodP p
/-! ### contents -/
def ext1 (acc : List (List Int)) (n : Nat) : List (List Int) := (acc.map fun c => (List.range n).map fun v : Nat => c ++ [(v : Int)]).flatten
def conts (b : List Pl) : List (List Int) := b.foldl (fun acc p => ext1 acc p.1) [[]]
theorem conts_snoc (b : List Pl) (p : Pl) : conts (b ++ [p]) = ext1 (conts b) p.1 := by simp [conts, List.foldl_append]
def Fits : List Int → List Pl → Prop
  | [], [] => True
  | x :: c, p :: b => (0 ≤ x ∧ x < p.1) ∧ Fits c b
  | _, _ => False
theorem fits_len : ∀ {c : List Int} {b : List Pl}, Fits c b → c.length = b.length
  | [], [], _ => rfl
  | x :: c, p :: b, h => by simp [fits_len h.2]
  | [], _ :: _, h => h.elim
  | _ :: _, [], h => h.elim
theorem fits_get : ∀ {c : List Int} {b : List Pl} {k : Nat} {p : Pl}, Fits c b → b[k]? = some p → ∃ x, c[k]? = some x ∧ 0 ≤ x ∧ x < p.1
  | x :: c, q :: b, 0, p, h, e => by
    simp at e; subst e
    exact ⟨x, rfl, h.1⟩
  | x :: c, q :: b, k + 1, p, h, e => by
    obtain ⟨y, h1, h2⟩ := fits_get (k := k) (p := p) h.2 (by simpa using e)
    exact ⟨y, by simpa using h1, h2⟩
  | [], [], _, _, _, e => by simp at e
  | [], _ :: _, _, _, h, _ => h.elim
  | _ :: _, [], _, _, h, _ => h.elim
theorem fits_set : ∀ {c : List Int} {b : List Pl} {k : Nat} {p : Pl} {w : Int}, Fits c b → b[k]? = some p → 0 ≤ w → w < p.1 → Fits (c.set k w) b
  | x :: c, q :: b, 0, p, w, h, e, h0, h1 => by
    simp at e; subst e
    exact ⟨⟨h0, h1⟩, h.2⟩
  | x :: c, q :: b, k + 1, p, w, h, e, h0, h1 => ⟨h.1, fits_set h.2 (by simpa using e) h0 h1⟩
  | [], [], _, _, _, _, e, _, _ => by simp at e
  | [], _ :: _, _, _, _, h, _, _, _ => h.elim
  | _ :: _, [], _, _, _, h, _, _, _ => h.elim
theorem fits_snoc : ∀ {c : List Int} {b : List Pl} {x : Int} {p : Pl}, c.length = b.length → (Fits (c ++ [x]) (b ++ [p]) ↔ Fits c b ∧ 0 ≤ x ∧ x < p.1)
  | [], [], x, p, _ => by simp [Fits]
  | y :: c, q :: b, x, p, h => by
    have := fits_snoc (c := c) (b := b) (x := x) (p := p) (by simpa using h)
    simp only [List.cons_append, Fits, this]
    constructor
    · rintro ⟨a, b, c⟩; exact ⟨⟨a, b⟩, c⟩
    · rintro ⟨⟨a, b⟩, c⟩; exact ⟨a, b, c⟩
  | [], _ :: _, _, _, h => by simp at h
  | _ :: _, [], _, _, h => by simp at h
theorem snoc_ex {α : Type} : ∀ {b : List α}, b ≠ [] → ∃ b' p, b = b' ++ [p] := fun {b} h => ⟨b.dropLast, b.getLast h, (List.dropLast_concat_getLast h).symm⟩
theorem mem_ext1 {acc : List (List Int)} {n : Nat} {d : List Int} : d ∈ ext1 acc n ↔ ∃ c ∈ acc, ∃ x : Int, d = c ++ [x] ∧ 0 ≤ x ∧ x < n := by
  unfold ext1
  rw [List.mem_flatten]
  constructor
  · rintro ⟨l, hl, hd⟩
    obtain ⟨c, hc, rfl⟩ := List.mem_map.mp hl
    obtain ⟨v, hv, rfl⟩ := List.mem_map.mp hd
    have := List.mem_range.mp hv
    exact ⟨c, hc, v, rfl, by omega, by omega⟩
  · rintro ⟨c, hc, x, rfl, h0, h1⟩
    refine ⟨_, List.mem_map.mpr ⟨c, hc, rfl⟩, List.mem_map.mpr ⟨x.toNat, List.mem_range.mpr (by omega), ?_⟩⟩
    rw [Int.toNat_of_nonneg h0]
theorem mem_conts (n : Nat) : ∀ {b : List Pl} {c : List Int}, b.length = n → (c ∈ conts b ↔ Fits c b) := by
  induction n with
  | zero =>
    intro b c h
    have : b = [] := List.eq_nil_of_length_eq_zero h
    subst this
    simp only [conts, List.foldl_nil, List.mem_singleton]
    constructor
    · rintro rfl; exact True.intro
    · intro h2; exact List.eq_nil_of_length_eq_zero (fits_len h2)
  | succ n ih =>
    intro b c h
    obtain ⟨b', p, rfl⟩ := snoc_ex (b := b) (by rintro rfl; simp at h)
    have hb : b'.length = n := by simpa using h
    rw [conts_snoc, mem_ext1]
    constructor
    · rintro ⟨c', hc, x, rfl, h0, h1⟩
      have hf := (ih hb).mp hc
      exact (fits_snoc (fits_len hf)).mpr ⟨hf, h0, h1⟩
    · intro hf
      have hl := fits_len hf
      obtain ⟨c', x, rfl⟩ := snoc_ex (b := c) (by rintro rfl; simp at hl)
      obtain ⟨h1, h2, h3⟩ := (fits_snoc (by simpa using hl)).mp hf
      exact ⟨c', (ih hb).mpr h1, x, rfl, h2, h3⟩
theorem conts_nodup (n : Nat) : ∀ {b : List Pl}, b.length = n → (conts b).Nodup := by
  induction n with
  | zero =>
    intro b h
    have : b = [] := List.eq_nil_of_length_eq_zero h
    subst this
    simp [conts]
  | succ n ih =>
    intro b h
    obtain ⟨b', p, rfl⟩ := snoc_ex (b := b) (by rintro rfl; simp at h)
    have hb : b'.length = n := by simpa using h
    rw [conts_snoc]
    unfold ext1
    unfold List.Nodup
    rw [List.pairwise_flatten]
    refine ⟨fun l hl => ?_, ?_⟩
    · obtain ⟨c, hc, rfl⟩ := List.mem_map.mp hl
      refine List.Pairwise.map _ (R := fun a b => a ≠ b) (fun a b hab e => hab ?_) List.nodup_range
      have := List.append_inj_right' e rfl
      simp at this; omega
    · refine List.Pairwise.map _ (R := fun a b => a ≠ b) (fun a b hab => ?_) (ih hb)
      intro x h1 y h2 e
      obtain ⟨v, _, rfl⟩ := List.mem_map.mp h1
      obtain ⟨u, _, rfl⟩ := List.mem_map.mp h2
      exact hab (List.append_inj_left' e rfl)
theorem ext1_len (acc : List (List Int)) (n : Nat) : (ext1 acc n).length = acc.length * n := by
  unfold ext1
  induction acc with
  | nil => simp
  | cons a l ih => simp only [List.map_cons, List.flatten_cons, List.length_append, List.length_map, List.length_range, ih, List.length_cons]; rw [Nat.succ_mul, Nat.add_comm]
theorem conts_len (n : Nat) : ∀ {b : List Pl}, b.length = n → (∀ p ∈ b, p.1 ≤ 6) → (conts b).length ≤ 6 ^ n := by
  induction n with
  | zero =>
    intro b h _
    have : b = [] := List.eq_nil_of_length_eq_zero h
    subst this
    simp [conts]
  | succ n ih =>
    intro b h hp
    obtain ⟨b', p, rfl⟩ := snoc_ex (b := b) (by rintro rfl; simp at h)
    have hb : b'.length = n := by simpa using h
    rw [conts_snoc, ext1_len, Nat.pow_succ]
    exact Nat.mul_le_mul (ih hb fun q hq => hp q (by simp [hq])) (hp p (by simp))
theorem Good.clen {b : List Pl} (g : Good b) : (conts b).length ≤ 7776 :=
  Nat.le_trans (conts_len b.length rfl fun p hp => (g.pl p hp).hi) (Nat.pow_le_pow_right (n := 6) (by decide) g.len)
theorem Good.take {b : List Pl} (g : Good b) (i : Nat) : (conts (b.take i)).length ≤ 7776 :=
  Nat.le_trans (conts_len (b.take i).length rfl fun p hp => (g.pl p (List.mem_of_mem_take hp)).hi) (Nat.pow_le_pow_right (n := 6) (by decide) (Nat.le_trans (by rw [List.length_take]; omega) g.len))
/-! ### steps -/
def part (c : List Int) (k : Nat) (p : Pl) : List (List Int) := (p.2.filter fun m => decide (m.1 = c.getD k 0)).map fun m => c.set k m.2
def stp (c : List Int) : Nat → List Pl → List (List Int)
  | _, [] => []
  | k, p :: b => part c k p ++ stp c (k + 1) b
def qart (c : List Int) (k : Nat) (p : Pl) : List (List Int) := (p.2.filter fun m => decide (m.2 = c.getD k 0)).map fun m => c.set k m.1
def stq (c : List Int) : Nat → List Pl → List (List Int)
  | _, [] => []
  | k, p :: b => qart c k p ++ stq c (k + 1) b
theorem stp_snoc (c : List Int) (p : Pl) : ∀ (k : Nat) (b : List Pl), stp c k (b ++ [p]) = stp c k b ++ part c (k + b.length) p
  | k, [] => by simp [stp]
  | k, q :: b => by
    simp only [List.cons_append, stp, stp_snoc c p (k + 1) b, List.append_assoc, List.length_cons]
    rw [show k + 1 + b.length = k + (b.length + 1) by omega]
theorem stq_snoc (c : List Int) (p : Pl) : ∀ (k : Nat) (b : List Pl), stq c k (b ++ [p]) = stq c k b ++ qart c (k + b.length) p
  | k, [] => by simp [stq]
  | k, q :: b => by
    simp only [List.cons_append, stq, stq_snoc c p (k + 1) b, List.append_assoc, List.length_cons]
    rw [show k + 1 + b.length = k + (b.length + 1) by omega]
theorem part_len (c : List Int) (k : Nat) (p : Pl) : (part c k p).length ≤ p.2.length := by unfold part; rw [List.length_map]; exact List.length_filter_le _ _
theorem qart_len (c : List Int) (k : Nat) (p : Pl) : (qart c k p).length ≤ p.2.length := by unfold qart; rw [List.length_map]; exact List.length_filter_le _ _
theorem stp_len (c : List Int) : ∀ (k : Nat) (b : List Pl), (∀ p ∈ b, p.2.length ≤ 36) → (stp c k b).length ≤ 36 * b.length
  | _, [], _ => by simp [stp]
  | k, p :: b, h => by
    have h1 := part_len c k p; have h2 := h p (by simp); have h3 := stp_len c (k + 1) b fun q hq => h q (by simp [hq])
    simp only [stp, List.length_append, List.length_cons]; omega
theorem stq_len (c : List Int) : ∀ (k : Nat) (b : List Pl), (∀ p ∈ b, p.2.length ≤ 36) → (stq c k b).length ≤ 36 * b.length
  | _, [], _ => by simp [stq]
  | k, p :: b, h => by
    have h1 := qart_len c k p; have h2 := h p (by simp); have h3 := stq_len c (k + 1) b fun q hq => h q (by simp [hq])
    simp only [stq, List.length_append, List.length_cons]; omega
theorem stp_mem {c d : List Int} : ∀ {k : Nat} {b : List Pl}, d ∈ stp c k b → ∃ i p m, b[i]? = some p ∧ m ∈ p.2 ∧ d = c.set (k + i) m.2
  | _, [], h => by simp [stp] at h
  | k, p :: b, h => by
    rcases List.mem_append.mp h with h | h
    · obtain ⟨m, hm, rfl⟩ := List.mem_map.mp h
      exact ⟨0, p, m, rfl, (List.mem_filter.mp hm).1, rfl⟩
    · obtain ⟨i, q, m, h1, h2, h3⟩ := stp_mem h
      exact ⟨i + 1, q, m, by simpa using h1, h2, by rw [h3, show k + 1 + i = k + (i + 1) by omega]⟩
theorem stq_mem {c d : List Int} : ∀ {k : Nat} {b : List Pl}, d ∈ stq c k b → ∃ i p m, b[i]? = some p ∧ m ∈ p.2 ∧ d = c.set (k + i) m.1
  | _, [], h => by simp [stq] at h
  | k, p :: b, h => by
    rcases List.mem_append.mp h with h | h
    · obtain ⟨m, hm, rfl⟩ := List.mem_map.mp h
      exact ⟨0, p, m, rfl, (List.mem_filter.mp hm).1, rfl⟩
    · obtain ⟨i, q, m, h1, h2, h3⟩ := stq_mem h
      exact ⟨i + 1, q, m, by simpa using h1, h2, by rw [h3, show k + 1 + i = k + (i + 1) by omega]⟩
theorem stp_fits {b : List Pl} {c d : List Int} (g : Good b) (hc : Fits c b) (h : d ∈ stp c 0 b) : Fits d b := by
  obtain ⟨i, p, m, h1, h2, rfl⟩ := stp_mem h
  have := ((g.pl p (List.mem_of_getElem? h1)).mv m h2).2
  rw [Nat.zero_add]
  exact fits_set hc h1 this.1 this.2
theorem stq_fits {b : List Pl} {c d : List Int} (g : Good b) (hc : Fits c b) (h : d ∈ stq c 0 b) : Fits d b := by
  obtain ⟨i, p, m, h1, h2, rfl⟩ := stq_mem h
  have := ((g.pl p (List.mem_of_getElem? h1)).mv m h2).1
  rw [Nat.zero_add]
  exact fits_set hc h1 this.1 this.2
/-- a step there is a step back -/
theorem cnt_part {x c : List Int} {k : Nat} {p : Pl} (hk : k < x.length) (hl : x.length = c.length) : (part x k p).count c = (qart c k p).count x := by
  have gx : x.getD k 0 = x[k] := by simp [List.getD, hk]
  have gc : c.getD k 0 = c[k]'(by omega) := by simp [List.getD, show k < c.length by omega]
  unfold part qart
  rw [gx, gc, List.count_eq_countP, List.count_eq_countP, List.countP_map, List.countP_map, List.countP_filter, List.countP_filter]
  refine List.countP_congr fun m _ => ?_
  simp only [Function.comp, Bool.and_eq_true, beq_iff_eq, decide_eq_true_eq]
  constructor
  · rintro ⟨h1, h2⟩
    subst h1
    refine ⟨?_, by simp⟩
    rw [h2, List.set_set, List.set_getElem_self]
  · rintro ⟨h1, h2⟩
    subst h1
    refine ⟨?_, by simp⟩
    rw [h2, List.set_set, List.set_getElem_self]
theorem cnt_stp {x c : List Int} (hl : x.length = c.length) : ∀ {k : Nat} {b : List Pl}, k + b.length ≤ x.length → (stp x k b).count c = (stq c k b).count x
  | _, [], _ => by simp [stp, stq]
  | k, p :: b, h => by
    simp only [List.length_cons] at h
    simp only [stp, stq, List.count_append, cnt_part (k := k) (by omega) hl, cnt_stp hl (k := k + 1) (b := b) (by omega)]
/-- who comes to c, each as often as he comes -/
def backOf (b : List Pl) (l : List (List Int)) (c : List Int) : List (List Int) := (l.map fun x => List.replicate ((stp x 0 b).count c) x).flatten
theorem back_count {b : List Pl} {c x : List Int} : ∀ {l : List (List Int)}, l.Nodup → (backOf b l c).count x = if x ∈ l then (stp x 0 b).count c else 0
  | [], _ => by simp [backOf]
  | y :: l, h => by
    have hn := List.nodup_cons.mp h
    have ih := back_count (b := b) (c := c) (x := x) hn.2
    unfold backOf at ih ⊢
    rw [List.map_cons, List.flatten_cons, List.count_append, ih, List.count_replicate]
    by_cases e : y = x
    · subst e
      simp [hn.1]
    · have e' : x ≠ y := fun z => e z.symm
      simp [e, e']
theorem back_perm {b : List Pl} {c : List Int} (g : Good b) (hc : Fits c b) : (backOf b (conts b) c).Perm (stq c 0 b) := by
  rw [List.perm_iff_count]
  intro x
  rw [back_count (conts_nodup _ rfl)]
  by_cases hx : x ∈ conts b
  · have hf := (mem_conts _ rfl).mp hx
    rw [if_pos hx, cnt_stp (by rw [fits_len hf, fits_len hc]) (by rw [fits_len hf]; omega)]
  · rw [if_neg hx]
    symm
    rw [List.count_eq_zero]
    intro h
    exact hx ((mem_conts _ rfl).mpr (stq_fits g hc h))
theorem ne_of_fits {b : List Pl} (g : Good b) {c : List Int} (h : Fits c b) : c ≠ [] := by
  rintro rfl
  have := fits_len h
  exact g.ne (List.eq_nil_of_length_eq_zero this.symm)
theorem stp_ne {b : List Pl} (g : Good b) {c : List Int} (h : Fits c b) : ∀ d ∈ stp c 0 b, d ≠ [] := fun d hd => ne_of_fits g (stp_fits g h hd)
theorem stq_ne {b : List Pl} (g : Good b) {c : List Int} (h : Fits c b) : ∀ d ∈ stq c 0 b, d ≠ [] := fun d hd => ne_of_fits g (stq_fits g h hd)
end K17
end
noncomputable section
namespace K17
open PySem PySem.Spec PyProof.Rows L2 DL
def top (i : Nat) : Stmt := PySem.Challenge.pw_onorback_k17_least_of_the_shortest_ways.main.body.getD i (.Pass ⟨0, 0, 0, 0⟩)
/-- the built-ins by their names -/
structure Txt (mg : Str → Option Value) : Prop where
  n_abs : mg "abs" = none
  n_dict : mg "dict" = none
  n_enumerate : mg "enumerate" = none
  n_int : mg "int" = none
  n_len : mg "len" = none
  n_list : mg "list" = none
  n_min : mg "min" = none
  n_range : mg "range" = none
  n_repr : mg "repr" = none
  n_sorted : mg "sorted" = none
  n_tuple : mg "tuple" = none

/-! ### steps_from -/
abbrev s_steps_from : Stmt := top 1
abbrev N_steps_from : List Str := ["bench", "content", "found", "index", "here", "values", "moves", "v", "w"]
theorem sc_steps_from : FnScope N_steps_from ["bench", "content"] (defScope s_steps_from) := ⟨rfl, rfl, rfl, by decide +kernel, rfl, by decide +kernel, by decide +kernel⟩
def L_steps_from_1 : MS := sSeq (sAsg (mLc (iSeq (mVar 6)) (gTupD 2 (gsCons (gSet 7) (gsCons (gSet 8) (gsNil)))) (tOf (mBin (eqA false) (mVar 7) (mBin idxD (mVar 1) (mVar 3)))) (mVar 8) [7, 8] kFrz) (gSet 4))
    (sExpr (mMt extendF (mVar 2) (mCons (mLc (iSeq (mVar 4)) (gSet 8) (tTrue) (mBin addA (mBin addA (mSl (mVar 1) (oNo) (oYes (mVar 3))) (mCall tupF (mCons (mVar 8) (mNil)))) (mSl (mVar 1) (oYes (mBin addA (mVar 3) (mC (.int 1)))) (oNo))) [8] kFrz) (mNil))))
def b_steps_from : MS := sSeq (sAsg (mCall lstB (mNil)) (gSet 2))
    (sSeq (sFor (iEnumD (mCons (mVar 0) (mNil))) (gTupD 2 (gsCons (gSet 3) (gsCons (gTupD 2 (gsCons (gSet 5) (gsCons (gSet 6) (gsNil)))) (gsNil)))) (L_steps_from_1))
    (sRet (mCall sortedD (mCons (mVar 2) (mNil)))))
def f_steps_from : FS := runF 9 b_steps_from
theorem ok_steps_from {P : Program} {w : World} {K : PySem.W.Frag} {mg : Str → Option Value} {base : Heap} {fa : Addr} {fd : FuncData} (F : Fun K "steps_from" "steps_from" s_steps_from fa fd) (T : Txt mg)  : FnG P w K mg base 1 fa fd ["bench", "content"] (spD K 2 f_steps_from) :=
  fnG (k := 0) (N := N_steps_from) (ps := ["bench", "content"]) (b := b_steps_from) F sc_steps_from fun cdv A outer s H E hr hg => dss_cons (ds_set (i := 2) sc_steps_from.nd rfl (Or.inl rfl) (de_lstB (da_nil)))
    (dss_cons (ds_for (vis := [3, 5, 6]) PassesOwn.never rfl (di_enumT rfl T.n_enumerate (da_cons (de_var (pv 0)) (da_nil))) (dg_tup rfl (dgs_cons (dg_name (i := 3) sc_steps_from.nd rfl (Or.inr rfl)) (dgs_cons (dg_tup rfl (dgs_cons (dg_name (i := 5) sc_steps_from.nd rfl (Or.inl rfl)) (dgs_cons (dg_name (i := 6) sc_steps_from.nd rfl (Or.inl rfl)) (dgs_nil)))) (dgs_nil)))) (dss_cons (ds_setLc (own := [("v", 7), ("w", 8)]) rfl sc_steps_from.nd rfl rfl (sw_true rfl rfl rfl (by decide +kernel)) (di_seq (de_var (pv 6))) (blkOk_by (own := [("v", 7), ("w", 8)]) (N := N_steps_from) (sc := defScope s_steps_from) (by decide +kernel)) (fun _ _ _ _ _ => dg_tup rfl (dgs_cons (dg_name (i := 7) sc_steps_from.nd rfl (Or.inl rfl)) (dgs_cons (dg_name (i := 8) sc_steps_from.nd rfl (Or.inl rfl)) (dgs_nil)))) (fun _ _ _ _ _ => dts_one (dt_cmp (op_eqA hr.units) (de_var (pv 7)) (de_ix (de_var (pv 1)) (de_var (pv 3))))) (fun _ _ _ _ _ => de_var (pv 8)))
    (dss_one (ds_expr (de_bm PySem.F.slot_list_extend PySem.F.type_list_extend mt_extendD (de_var (pv 2)) (da_cons (de_lc (own := [("w", 8)]) rfl sc_steps_from.nd (di_seq (de_var (pv 4))) (blkOk_by (own := [("w", 8)]) (N := N_steps_from) (sc := defScope s_steps_from) (by decide +kernel)) (fun _ _ _ _ _ => dg_name (i := 8) sc_steps_from.nd rfl (Or.inl rfl)) (fun _ _ _ _ _ => dts_nil) (fun _ _ _ _ _ => de_bin op_addA (de_bin op_addA (de_sl (de_var (pv 1)) (do_no) (do_yes (de_var (pv 3)))) (de_tup (da_cons (de_var (pv 8)) (da_nil)))) (de_sl (de_var (pv 1)) (do_yes (de_bin op_addA (de_var (pv 3)) (de_int))) (do_no)))) (da_nil)))))))
    (dss_one (ds_ret (de_callB (call_sortedDD hr) rfl T.n_sorted (by decide +kernel) (da_cons (de_var (pv 2)) (da_nil))))))

/-! ### steps_to -/
abbrev s_steps_to : Stmt := top 2
abbrev N_steps_to : List Str := ["bench", "content", "found", "index", "here", "values", "moves", "v", "w"]
theorem sc_steps_to : FnScope N_steps_to ["bench", "content"] (defScope s_steps_to) := ⟨rfl, rfl, rfl, by decide +kernel, rfl, by decide +kernel, by decide +kernel⟩
def L_steps_to_1 : MS := sSeq (sAsg (mLc (iSeq (mVar 6)) (gTupD 2 (gsCons (gSet 7) (gsCons (gSet 8) (gsNil)))) (tOf (mBin (eqA false) (mVar 8) (mBin idxD (mVar 1) (mVar 3)))) (mVar 7) [7, 8] kFrz) (gSet 4))
    (sExpr (mMt extendF (mVar 2) (mCons (mLc (iSeq (mVar 4)) (gSet 7) (tTrue) (mBin addA (mBin addA (mSl (mVar 1) (oNo) (oYes (mVar 3))) (mCall tupF (mCons (mVar 7) (mNil)))) (mSl (mVar 1) (oYes (mBin addA (mVar 3) (mC (.int 1)))) (oNo))) [7] kFrz) (mNil))))
def b_steps_to : MS := sSeq (sAsg (mCall lstB (mNil)) (gSet 2))
    (sSeq (sFor (iEnumD (mCons (mVar 0) (mNil))) (gTupD 2 (gsCons (gSet 3) (gsCons (gTupD 2 (gsCons (gSet 5) (gsCons (gSet 6) (gsNil)))) (gsNil)))) (L_steps_to_1))
    (sRet (mCall sortedD (mCons (mVar 2) (mNil)))))
def f_steps_to : FS := runF 9 b_steps_to
theorem ok_steps_to {P : Program} {w : World} {K : PySem.W.Frag} {mg : Str → Option Value} {base : Heap} {fa : Addr} {fd : FuncData} (F : Fun K "steps_to" "steps_to" s_steps_to fa fd) (T : Txt mg)  : FnG P w K mg base 1 fa fd ["bench", "content"] (spD K 2 f_steps_to) :=
  fnG (k := 0) (N := N_steps_to) (ps := ["bench", "content"]) (b := b_steps_to) F sc_steps_to fun cdv A outer s H E hr hg => dss_cons (ds_set (i := 2) sc_steps_to.nd rfl (Or.inl rfl) (de_lstB (da_nil)))
    (dss_cons (ds_for (vis := [3, 5, 6]) PassesOwn.never rfl (di_enumT rfl T.n_enumerate (da_cons (de_var (pv 0)) (da_nil))) (dg_tup rfl (dgs_cons (dg_name (i := 3) sc_steps_to.nd rfl (Or.inr rfl)) (dgs_cons (dg_tup rfl (dgs_cons (dg_name (i := 5) sc_steps_to.nd rfl (Or.inl rfl)) (dgs_cons (dg_name (i := 6) sc_steps_to.nd rfl (Or.inl rfl)) (dgs_nil)))) (dgs_nil)))) (dss_cons (ds_setLc (own := [("v", 7), ("w", 8)]) rfl sc_steps_to.nd rfl rfl (sw_true rfl rfl rfl (by decide +kernel)) (di_seq (de_var (pv 6))) (blkOk_by (own := [("v", 7), ("w", 8)]) (N := N_steps_to) (sc := defScope s_steps_to) (by decide +kernel)) (fun _ _ _ _ _ => dg_tup rfl (dgs_cons (dg_name (i := 7) sc_steps_to.nd rfl (Or.inl rfl)) (dgs_cons (dg_name (i := 8) sc_steps_to.nd rfl (Or.inl rfl)) (dgs_nil)))) (fun _ _ _ _ _ => dts_one (dt_cmp (op_eqA hr.units) (de_var (pv 8)) (de_ix (de_var (pv 1)) (de_var (pv 3))))) (fun _ _ _ _ _ => de_var (pv 7)))
    (dss_one (ds_expr (de_bm PySem.F.slot_list_extend PySem.F.type_list_extend mt_extendD (de_var (pv 2)) (da_cons (de_lc (own := [("v", 7)]) rfl sc_steps_to.nd (di_seq (de_var (pv 4))) (blkOk_by (own := [("v", 7)]) (N := N_steps_to) (sc := defScope s_steps_to) (by decide +kernel)) (fun _ _ _ _ _ => dg_name (i := 7) sc_steps_to.nd rfl (Or.inl rfl)) (fun _ _ _ _ _ => dts_nil) (fun _ _ _ _ _ => de_bin op_addA (de_bin op_addA (de_sl (de_var (pv 1)) (do_no) (do_yes (de_var (pv 3)))) (de_tup (da_cons (de_var (pv 7)) (da_nil)))) (de_sl (de_var (pv 1)) (do_yes (de_bin op_addA (de_var (pv 3)) (de_int))) (do_no)))) (da_nil)))))))
    (dss_one (ds_ret (de_callB (call_sortedDD hr) rfl T.n_sorted (by decide +kernel) (da_cons (de_var (pv 2)) (da_nil))))))

/-! ### l_bag -/
abbrev s_l_bag : Stmt := top 7
abbrev N_l_bag : List Str := ["_law_script", "_law_cell"]
theorem sc_l_bag : FnScope N_l_bag ["_law_script"] (defScope s_l_bag) := ⟨rfl, rfl, rfl, by decide +kernel, rfl, by decide +kernel, by decide +kernel⟩
def b_l_bag : MS := sRet (mCall lstB (mCons (mC (.int 0)) (mCons (mC (.int 1234567891)) (mCons (mC (.int 0)) (mCons (mLc (iSeq (mSl (mVar 0) (oNo) (oYes (mC (.int 63))))) (gSet 1) (tTrue) (mCall absD (mCons (mVar 1) (mNil))) [1] kFrz) (mNil))))))
def f_l_bag : FS := runF 2 b_l_bag
theorem ok_l_bag {P : Program} {w : World} {K : PySem.W.Frag} {mg : Str → Option Value} {base : Heap} {fa : Addr} {fd : FuncData} (F : Fun K "_law_bag" "_law_bag" s_l_bag fa fd) (T : Txt mg)  : FnG P w K mg base 1 fa fd ["_law_script"] (spD K 1 f_l_bag) :=
  fnG (k := 0) (N := N_l_bag) (ps := ["_law_script"]) (b := b_l_bag) F sc_l_bag fun cdv A outer s H E hr hg => dss_one (ds_ret (de_lstB (da_cons (de_int) (da_cons (de_int) (da_cons (de_int) (da_cons (de_lc (own := [("_law_cell", 1)]) rfl sc_l_bag.nd (di_seq (de_sl (de_var (pv 0)) (do_no) (do_yes (de_int)))) (blkOk_by (own := [("_law_cell", 1)]) (N := N_l_bag) (sc := defScope s_l_bag) (by decide +kernel)) (fun _ _ _ _ _ => dg_name (i := 1) sc_l_bag.nd rfl (Or.inl rfl)) (fun _ _ _ _ _ => dts_nil) (fun _ _ _ _ _ => de_callB call_absDD rfl T.n_abs (by decide +kernel) (da_cons (de_var (pv 1)) (da_nil)))) (da_nil)))))))

/-! ### l_take -/
abbrev s_l_take : Stmt := top 8
abbrev N_l_take : List Str := ["_law_bag_here", "_law_upto", "_law_begin", "_law_second", "_law_cell", "_law_stirred", "_law_value"]
theorem sc_l_take : FnScope N_l_take ["_law_bag_here", "_law_upto"] (defScope s_l_take) := ⟨rfl, rfl, rfl, by decide +kernel, rfl, by decide +kernel, by decide +kernel⟩
def b_l_take : MS := sSeq (sIf (tOf (mBin (eqA false) (mBin idxD (mVar 0) (mC (.int 0))) (mC (.int 0)))) (sSeq (sAsg (mBin idxD (mBin addA (mSl (mBin idxD (mVar 0) (mC (.int 3))) (oYes (mBin idxD (mVar 0) (mC (.int 2)))) (oNo)) (mCall lstF (mCons (mC (.int 0)) (mNil)))) (mC (.int 0))) (gSet 4))
    (sSeq (sAugS (mVar 0) (mC (.int 2)) (mC (.int 1)) getF iaddI setF)
    (sSeq (sIf (tOf (mBin geD (mVar 4) (mBin powD (mC (.int 10)) (mC (.int 18))))) (sAsg (mVar 4) (gSubD (mVar 0) (mC (.int 0)) setF)) (sNil))
    (sSeq (sAsg (mBin addA (mBin addA (mBin mulD (mBin idxD (mVar 0) (mC (.int 1))) (mC (.int 48271))) (mBin modD (mCall intD (mCons (mVar 4) (mNil))) (mC (.int 2147483647)))) (mBin mulD (mC (.int 7919)) (mBin idxD (mVar 0) (mC (.int 2))))) (gSet 5))
    (sAsg (mBin modD (mCall intD (mCons (mVar 5) (mNil))) (mC (.int 2147483647))) (gSubD (mVar 0) (mC (.int 1)) setF)))))) (sNil))
    (sSeq (sIf (tOf (mBin gtD (mBin idxD (mVar 0) (mC (.int 0))) (mC (.int 0)))) (sSeq (sAsg (mBin modD (mCall intD (mCons (mBin idxD (mVar 0) (mC (.int 0))) (mNil))) (mVar 1)) (gSet 6))
    (sSeq (sAsg (mBin fdivD (mCall intD (mCons (mBin idxD (mVar 0) (mC (.int 0))) (mNil))) (mVar 1)) (gSubD (mVar 0) (mC (.int 0)) setF))
    (sRet (mVar 6)))) (sNil))
    (sSeq (sAsg (mBin modD (mCall intD (mCons (mBin mulD (mBin addA (mBin idxD (mVar 0) (mC (.int 1))) (mC (.int 1))) (mC (.int 39373))) (mNil))) (mC (.int 1000000007))) (gSet 2))
    (sSeq (sAsg (mBin modD (mCall intD (mCons (mBin mulD (mBin modD (mCall intD (mCons (mBin mulD (mVar 2) (mVar 2)) (mNil))) (mC (.int 998244353))) (mC (.int 30011))) (mNil))) (mC (.int 998244353))) (gSet 3))
    (sRet (mBin modD (mCall intD (mCons (mBin fdivD (mVar 3) (mC (.int 7))) (mNil))) (mVar 1))))))
def f_l_take : FS := runF 7 b_l_take
theorem ok_l_take {P : Program} {w : World} {K : PySem.W.Frag} {mg : Str → Option Value} {base : Heap} {fa : Addr} {fd : FuncData} (F : Fun K "_law_take" "_law_take" s_l_take fa fd) (T : Txt mg)  : FnG P w K mg base 1 fa fd ["_law_bag_here", "_law_upto"] (spD K 2 f_l_take) :=
  fnG (k := 0) (N := N_l_take) (ps := ["_law_bag_here", "_law_upto"]) (b := b_l_take) F sc_l_take fun cdv A outer s H E hr hg => dss_cons (ds_if (dt_cmp (op_eqA hr.units) (de_ix (de_var (pv 0)) (de_int)) (de_int)) (dss_cons (ds_set (i := 4) sc_l_take.nd rfl (Or.inl rfl) (de_ix (de_bin op_addA (de_sl (de_ix (de_var (pv 0)) (de_int)) (do_yes (de_ix (de_var (pv 0)) (de_int))) (do_no)) (de_lst (da_cons (de_int) (da_nil)))) (de_int)))
    (dss_cons (ds_augS (de_var (pv 0)) (de_int) get_D (de_int) ip_addI set_D)
    (dss_cons (ds_if (dt_cmp op_geD (de_var (pv 4)) (de_bin op_powD (de_int) (de_int))) (dss_one (ds_asg (vis := []) (de_var (pv 4)) (dg_sub (vis := []) (de_var (pv 0)) (de_int) set_D))) (dss_nil))
    (dss_cons (ds_set (i := 5) sc_l_take.nd rfl (Or.inl rfl) (de_bin op_addA (de_bin op_addA (de_bin op_mulD (de_ix (de_var (pv 0)) (de_int)) (de_int)) (de_bin op_modD (de_callTy call_intDD rfl T.n_int (by decide +kernel) (da_cons (de_var (pv 4)) (da_nil))) (de_int))) (de_bin op_mulD (de_int) (de_ix (de_var (pv 0)) (de_int)))))
    (dss_one (ds_asg (vis := []) (de_bin op_modD (de_callTy call_intDD rfl T.n_int (by decide +kernel) (da_cons (de_var (pv 5)) (da_nil))) (de_int)) (dg_sub (vis := []) (de_var (pv 0)) (de_int) set_D))))))) (dss_nil))
    (dss_cons (ds_if (dt_cmp op_gtD (de_ix (de_var (pv 0)) (de_int)) (de_int)) (dss_cons (ds_set (i := 6) sc_l_take.nd rfl (Or.inl rfl) (de_bin op_modD (de_callTy call_intDD rfl T.n_int (by decide +kernel) (da_cons (de_ix (de_var (pv 0)) (de_int)) (da_nil))) (de_var (pv 1))))
    (dss_cons (ds_asg (vis := []) (de_bin op_fdivD (de_callTy call_intDD rfl T.n_int (by decide +kernel) (da_cons (de_ix (de_var (pv 0)) (de_int)) (da_nil))) (de_var (pv 1))) (dg_sub (vis := []) (de_var (pv 0)) (de_int) set_D))
    (dss_one (ds_ret (de_var (pv 6)))))) (dss_nil))
    (dss_cons (ds_set (i := 2) sc_l_take.nd rfl (Or.inl rfl) (de_bin op_modD (de_callTy call_intDD rfl T.n_int (by decide +kernel) (da_cons (de_bin op_mulD (de_bin op_addA (de_ix (de_var (pv 0)) (de_int)) (de_int)) (de_int)) (da_nil))) (de_int)))
    (dss_cons (ds_set (i := 3) sc_l_take.nd rfl (Or.inl rfl) (de_bin op_modD (de_callTy call_intDD rfl T.n_int (by decide +kernel) (da_cons (de_bin op_mulD (de_bin op_modD (de_callTy call_intDD rfl T.n_int (by decide +kernel) (da_cons (de_bin op_mulD (de_var (pv 2)) (de_var (pv 2))) (da_nil))) (de_int)) (de_int)) (da_nil))) (de_int)))
    (dss_one (ds_ret (de_bin op_modD (de_callTy call_intDD rfl T.n_int (by decide +kernel) (da_cons (de_bin op_fdivD (de_var (pv 3)) (de_int)) (da_nil))) (de_var (pv 1))))))))

/-! ### l_alike -/
abbrev s_l_alike : Stmt := top 10
abbrev N_l_alike : List Str := ["_law_found", "_law_due"]
theorem sc_l_alike : FnScope N_l_alike ["_law_found", "_law_due"] (defScope s_l_alike) := ⟨rfl, rfl, rfl, by decide +kernel, rfl, by decide +kernel, by decide +kernel⟩
def b_l_alike : MS := sRet (vAnd (mBin (eqA false) (mVar 0) (mVar 1)) (mBin (eqA false) (mCall reprD (mCons (mVar 0) (mNil))) (mCall reprD (mCons (mVar 1) (mNil)))))
def f_l_alike : FS := runF 2 b_l_alike
theorem ok_l_alike {P : Program} {w : World} {K : PySem.W.Frag} {mg : Str → Option Value} {base : Heap} {fa : Addr} {fd : FuncData} (F : Fun K "_law_alike" "_law_alike" s_l_alike fa fd) (T : Txt mg)  : FnG P w K mg base 1 fa fd ["_law_found", "_law_due"] (spD K 2 f_l_alike) :=
  fnG (k := 0) (N := N_l_alike) (ps := ["_law_found", "_law_due"]) (b := b_l_alike) F sc_l_alike fun cdv A outer s H E hr hg => dss_one (ds_ret (de_and (de_cmp (op_eqA hr.units) (de_var (pv 0)) (de_var (pv 1))) (de_one (de_cmp (op_eqA hr.units) (de_callB (call_reprDD hr hg) rfl T.n_repr (by decide +kernel) (da_cons (de_var (pv 0)) (da_nil))) (de_callB (call_reprDD hr hg) rfl T.n_repr (by decide +kernel) (da_cons (de_var (pv 1)) (da_nil)))))))

/-! ### l_steps -/
abbrev s_l_steps : Stmt := top 15
abbrev N_l_steps : List Str := ["_law_bench_here", "_law_content", "_law_found", "_law_k", "_law_v", "_law_w"]
theorem sc_l_steps : FnScope N_l_steps ["_law_bench_here", "_law_content"] (defScope s_l_steps) := ⟨rfl, rfl, rfl, by decide +kernel, rfl, by decide +kernel, by decide +kernel⟩
def L_l_steps_1 : MS := sExpr (mMt extendF (mVar 2) (mCons (mBin repL (mCall lstF (mCons (mBin addA (mBin addA (mSl (mVar 1) (oNo) (oYes (mVar 3))) (mCall tupF (mCons (mVar 5) (mNil)))) (mSl (mVar 1) (oYes (mBin addA (mVar 3) (mC (.int 1)))) (oNo))) (mNil))) (mCall intD (mCons (mBin (eqA false) (mVar 4) (mBin idxD (mVar 1) (mVar 3))) (mNil)))) (mNil)))
def L_l_steps_2 : MS := sFor (iSeq (mBin idxD (mBin idxD (mVar 0) (mVar 3)) (mC (.int 1)))) (gTupD 2 (gsCons (gSet 4) (gsCons (gSet 5) (gsNil)))) (L_l_steps_1)
def b_l_steps : MS := sSeq (sAsg (mCall lstB (mNil)) (gSet 2))
    (sSeq (sFor (iRng1D (mCons (mCall lenD (mCons (mVar 0) (mNil))) (mNil))) (gSet 3) (L_l_steps_2))
    (sRet (mCall sortedD (mCons (mVar 2) (mNil)))))
def f_l_steps : FS := runF 6 b_l_steps
theorem ok_l_steps {P : Program} {w : World} {K : PySem.W.Frag} {mg : Str → Option Value} {base : Heap} {fa : Addr} {fd : FuncData} (F : Fun K "_law_steps" "_law_steps" s_l_steps fa fd) (T : Txt mg)  : FnG P w K mg base 1 fa fd ["_law_bench_here", "_law_content"] (spD K 2 f_l_steps) :=
  fnG (k := 0) (N := N_l_steps) (ps := ["_law_bench_here", "_law_content"]) (b := b_l_steps) F sc_l_steps fun cdv A outer s H E hr hg => dss_cons (ds_set (i := 2) sc_l_steps.nd rfl (Or.inl rfl) (de_lstB (da_nil)))
    (dss_cons (ds_for (vis := [3]) PassesOwn.never rfl (di_rng1 rfl T.n_range (da_cons (de_callB call_lenDD rfl T.n_len (by decide +kernel) (da_cons (de_var (pv 0)) (da_nil))) (da_nil))) (dg_name (i := 3) sc_l_steps.nd rfl (Or.inl rfl)) (dss_one (ds_for (vis := [4, 5]) PassesOwn.never rfl (di_seq (de_ix (de_ix (de_var (pv 0)) (de_var (pv 3))) (de_int))) (dg_tup rfl (dgs_cons (dg_name (i := 4) sc_l_steps.nd rfl (Or.inl rfl)) (dgs_cons (dg_name (i := 5) sc_l_steps.nd rfl (Or.inl rfl)) (dgs_nil)))) (dss_one (ds_expr (de_bm PySem.F.slot_list_extend PySem.F.type_list_extend mt_extendD (de_var (pv 2)) (da_cons (de_bin op_repL (de_lst (da_cons (de_bin op_addA (de_bin op_addA (de_sl (de_var (pv 1)) (do_no) (do_yes (de_var (pv 3)))) (de_tup (da_cons (de_var (pv 5)) (da_nil)))) (de_sl (de_var (pv 1)) (do_yes (de_bin op_addA (de_var (pv 3)) (de_int))) (do_no))) (da_nil))) (de_callTy call_intDD rfl T.n_int (by decide +kernel) (da_cons (de_cmp (op_eqA hr.units) (de_var (pv 4)) (de_ix (de_var (pv 1)) (de_var (pv 3)))) (da_nil)))) (da_nil))))))))
    (dss_one (ds_ret (de_callB (call_sortedDD hr) rfl T.n_sorted (by decide +kernel) (da_cons (de_var (pv 2)) (da_nil))))))

/-! ### l_least_way -/
abbrev s_l_least_way : Stmt := top 17
abbrev N_l_least_way : List Str := ["_law_graph_here", "_law_one", "_law_other", "_law_barred", "_law_found", "_law_front", "_law_later", "_law_content", "_law_to"]
theorem sc_l_least_way : FnScope N_l_least_way ["_law_graph_here", "_law_one", "_law_other", "_law_barred"] (defScope s_l_least_way) := ⟨rfl, rfl, rfl, by decide +kernel, rfl, by decide +kernel, by decide +kernel⟩
def L_l_least_way_1 : MS := sIf (tAndD (tOf (mBin (dinF true) (mVar 8) (mVar 4))) (tOrD (tOf (mBin (eqA false) (mVar 8) (mVar 2))) (tOf (mBin (inA true) (mVar 8) (mVar 3))))) (sSeq (sAsg (mBin addA (mBin dgetF (mVar 4) (mVar 7)) (mCall tupF (mCons (mVar 8) (mNil)))) (gSubD (mVar 4) (mVar 8) dputF))
    (sExpr (mMt appendF (mVar 6) (mCons (mVar 8) (mNil))))) (sNil)
def L_l_least_way_2 : MS := sIf (tOrD (tOf (mBin (eqA false) (mVar 7) (mVar 1))) (tOf (mBin (inA true) (mVar 7) (mVar 3)))) (sFor (iSeq (mBin dgetF (mVar 0) (mVar 7))) (gSet 8) (L_l_least_way_1)) (sNil)
def b_l_least_way : MS := sSeq (sPar 4 5 (mCons (mDisp1 (mVar 1) (mCall tupF (mCons (mVar 1) (mNil)))) (mCons (mCall lstF (mCons (mVar 1) (mNil))) mNil)))
    (sSeq (whileL (tAndD (tOf (mBin (eqA true) (mVar 5) (mCall lstF (mNil)))) (tOf (mBin (dinF true) (mVar 2) (mVar 4)))) (sSeq (sAsg (mCall lstB (mNil)) (gSet 6))
    (sSeq (sFor (iSeq (mVar 5)) (gSet 7) (L_l_least_way_2))
    (sAsg (mFrz (mVar 6)) (gSet 5)))) FUEL)
    (sRet (mGet2' (mVar 4) (mVar 2) (mC .none))))
def f_l_least_way : FS := runF 9 b_l_least_way
theorem ok_l_least_way {P : Program} {w : World} {K : PySem.W.Frag} {mg : Str → Option Value} {base : Heap} {fa : Addr} {fd : FuncData} (F : Fun K "_law_least_way" "_law_least_way" s_l_least_way fa fd) (T : Txt mg)  : FnG P w K mg base 1 fa fd ["_law_graph_here", "_law_one", "_law_other", "_law_barred"] (spD K 4 f_l_least_way) :=
  fnG (k := 0) (N := N_l_least_way) (ps := ["_law_graph_here", "_law_one", "_law_other", "_law_barred"]) (b := b_l_least_way) F sc_l_least_way fun cdv A outer s H E hr hg => dss_cons (ds_par (i := 4) (j := 5) rfl sc_l_least_way.nd rfl rfl (by decide) rfl rfl (da_cons (de_disp1 hr (de_var (pv 1)) (de_tup (da_cons (de_var (pv 1)) (da_nil)))) (da_cons (de_lst (da_cons (de_var (pv 1)) (da_nil))) da_nil)) (by rfl))
    (dss_cons (ds_while PassesOwn.never (PW.pt (dw_and (dt_cmp (op_neA hr.units) (de_var (pv 5)) (de_lst (da_nil))) (dw_and1 (dt_cmp (op_dnotin hr) (de_var (pv 2)) (de_var (pv 4)))))) (dss_cons (ds_set (i := 6) sc_l_least_way.nd rfl (Or.inl rfl) (de_lstB (da_nil)))
    (dss_cons (ds_for (vis := [7]) PassesOwn.never rfl (di_seq (de_var (pv 5))) (dg_name (i := 7) sc_l_least_way.nd rfl (Or.inl rfl)) (dss_one (ds_if (PW.pt (dw_or (dt_cmp (op_eqA hr.units) (de_var (pv 7)) (de_var (pv 1))) (dw_or1 (dt_cmp (op_notInA hr.units65) (de_var (pv 7)) (de_var (pv 3)))))) (dss_one (ds_for (vis := [8]) PassesOwn.never rfl (di_seq (de_dget hr (de_var (pv 0)) (de_var (pv 7)))) (dg_name (i := 8) sc_l_least_way.nd rfl (Or.inl rfl)) (dss_one (ds_if (PW.pt (dw_and (dt_cmp (op_dnotin hr) (de_var (pv 8)) (de_var (pv 4))) (dw_and1 (PW.pt (dw_or (dt_cmp (op_eqA hr.units) (de_var (pv 8)) (de_var (pv 2))) (dw_or1 (dt_cmp (op_notInA hr.units65) (de_var (pv 8)) (de_var (pv 3))))))))) (dss_cons (ds_asg (vis := []) (de_bin op_addA (de_dget hr (de_var (pv 4)) (de_var (pv 7))) (de_tup (da_cons (de_var (pv 8)) (da_nil)))) (dg_sub (vis := []) (de_var (pv 4)) (de_var (pv 8)) (set_dict hr)))
    (dss_one (ds_expr (de_bm PySem.F.slot_list_append PySem.F.type_list_append mt_appendD (de_var (pv 6)) (da_cons (de_var (pv 8)) (da_nil)))))) (dss_nil))))) (dss_nil))))
    (dss_one (ds_set (i := 5) sc_l_least_way.nd rfl (Or.inl rfl) (de_frz (de_var (pv 6))))))))
    (dss_one (ds_ret (de_get2 hr (de_var (pv 4)) (de_var (pv 2)) (de_non) ⟨rfl, rfl, rfl, rfl⟩))))

/-! ### l_flat -/
abbrev s_l_flat : Stmt := top 19
abbrev N_l_flat : List Str := ["_law_rows", "_law_found", "_law_row"]
theorem sc_l_flat : FnScope N_l_flat ["_law_rows"] (defScope s_l_flat) := ⟨rfl, rfl, rfl, by decide +kernel, rfl, by decide +kernel, by decide +kernel⟩
def L_l_flat_1 : MS := sExpr (mMt extendF (mVar 1) (mCons (mVar 2) (mNil)))
def b_l_flat : MS := sSeq (sAsg (mCall lstB (mNil)) (gSet 1))
    (sSeq (sFor (iSeq (mVar 0)) (gSet 2) (L_l_flat_1))
    (sRet (mFrz (mVar 1))))
def f_l_flat : FS := runF 3 b_l_flat
theorem ok_l_flat {P : Program} {w : World} {K : PySem.W.Frag} {mg : Str → Option Value} {base : Heap} {fa : Addr} {fd : FuncData} (F : Fun K "_law_flat" "_law_flat" s_l_flat fa fd) (T : Txt mg)  : FnG P w K mg base 1 fa fd ["_law_rows"] (spD K 1 f_l_flat) :=
  fnG (k := 0) (N := N_l_flat) (ps := ["_law_rows"]) (b := b_l_flat) F sc_l_flat fun cdv A outer s H E hr hg => dss_cons (ds_set (i := 1) sc_l_flat.nd rfl (Or.inl rfl) (de_lstB (da_nil)))
    (dss_cons (ds_for (vis := [2]) PassesOwn.never rfl (di_seq (de_var (pv 0))) (dg_name (i := 2) sc_l_flat.nd rfl (Or.inl rfl)) (dss_one (ds_expr (de_bm PySem.F.slot_list_extend PySem.F.type_list_extend mt_extendD (de_var (pv 1)) (da_cons (de_var (pv 2)) (da_nil))))))
    (dss_one (ds_ret (de_frz (de_var (pv 1))))))

/-! ### steps_left -/
abbrev s_steps_left : Stmt := top 3
abbrev N_steps_left : List Str := ["bench", "other", "barred", "line", "found", "further", "here", "one", "content"]
theorem sc_steps_left : FnScope N_steps_left ["bench", "other", "barred"] (defScope s_steps_left) := ⟨rfl, rfl, rfl, by decide +kernel, rfl, by decide +kernel, by decide +kernel⟩
def L_steps_left_1 : MS := sIf (tOf (mBin (dinF true) (mVar 7) (mVar 4))) (sSeq (sAsg (mBin addA (mBin dgetF (mVar 4) (mVar 6)) (mC (.int 1))) (gSubD (mVar 4) (mVar 7) dputF))
    (sExpr (mMt appendF (mVar 5) (mCons (mVar 7) (mNil))))) (sNil)
def L_steps_left_2 : MS := sFor (iSeq (mCall (callF f_steps_to) (mCons (mVar 0) (mCons (mVar 6) (mNil))))) (gSet 7) (L_steps_left_1)
def b_steps_left : MS := sSeq (sPar 4 3 (mCons (mDisp1 (mVar 1) (mC (.int 0))) (mCons (mCall lstF (mCons (mVar 1) (mNil))) mNil)))
    (sSeq (whileL (tTru (mVar 3)) (sSeq (sAsg (mCall lstB (mNil)) (gSet 5))
    (sSeq (sFor (iSeq (mLc (iSeq (mVar 3)) (gSet 8) (tOrD (tOf (mBin (eqA false) (mVar 8) (mVar 1))) (tOf (mBin (dinF true) (mVar 8) (mVar 2)))) (mVar 8) [8] kFrz)) (gSet 6) (L_steps_left_2))
    (sAsg (mFrz (mVar 5)) (gSet 3)))) FUEL)
    (sRet (mVar 4)))
def f_steps_left : FS := runF 9 b_steps_left
theorem ok_steps_left {P : Program} {w : World} {K : PySem.W.Frag} {mg : Str → Option Value} {base : Heap} {fa : Addr} {fd : FuncData} (F : Fun K "steps_left" "steps_left" s_steps_left fa fd) (T : Txt mg) (c_steps_to : Cal P w K mg base "steps_to" 1 ["bench", "content"] f_steps_to) : FnG P w K mg base 2 fa fd ["bench", "other", "barred"] (spD K 3 f_steps_left) :=
  fnG (k := 1) (N := N_steps_left) (ps := ["bench", "other", "barred"]) (b := b_steps_left) F sc_steps_left fun cdv A outer s H E hr hg => dss_cons (ds_par (i := 4) (j := 3) rfl sc_steps_left.nd rfl rfl (by decide) rfl rfl (da_cons (de_disp1 hr (de_var (pv 1)) (de_int)) (da_cons (de_lst (da_cons (de_var (pv 1)) (da_nil))) da_nil)) (by rfl))
    (dss_cons (ds_while PassesOwn.never (dt_tru (de_var (pv 3))) (dss_cons (ds_set (i := 5) sc_steps_left.nd rfl (Or.inl rfl) (de_lstB (da_nil)))
    (dss_cons (ds_for (vis := [6]) PassesOwn.never rfl (di_seq (de_lc (own := [("content", 8)]) rfl sc_steps_left.nd (di_seq (de_var (pv 3))) (blkOk_by (own := [("content", 8)]) (N := N_steps_left) (sc := defScope s_steps_left) (by decide +kernel)) (fun _ _ _ _ _ => dg_name (i := 8) sc_steps_left.nd rfl (Or.inl rfl)) (fun _ _ _ _ _ => dts_one (PW.pt (dw_or (dt_cmp (op_eqA hr.units) (de_var (pv 8)) (de_var (pv 1))) (dw_or1 (dt_cmp (op_dnotin hr) (de_var (pv 8)) (de_var (pv 2))))))) (fun _ _ _ _ _ => de_var (pv 8)))) (dg_name (i := 6) sc_steps_left.nd rfl (Or.inl rfl)) (dss_one (ds_for (vis := [7]) PassesOwn.never rfl (di_seq (de_callC c_steps_to hr hg (by decide) rfl (da_cons (de_var (pv 0)) (da_cons (de_var (pv 6)) (da_nil))) (ArgN.cons (ArgN.cons ArgN.nil)) rfl)) (dg_name (i := 7) sc_steps_left.nd rfl (Or.inl rfl)) (dss_one (ds_if (dt_cmp (op_dnotin hr) (de_var (pv 7)) (de_var (pv 4))) (dss_cons (ds_asg (vis := []) (de_bin op_addA (de_dget hr (de_var (pv 4)) (de_var (pv 6))) (de_int)) (dg_sub (vis := []) (de_var (pv 4)) (de_var (pv 7)) (set_dict hr)))
    (dss_one (ds_expr (de_bm PySem.F.slot_list_append PySem.F.type_list_append mt_appendD (de_var (pv 5)) (da_cons (de_var (pv 7)) (da_nil)))))) (dss_nil))))))
    (dss_one (ds_set (i := 3) sc_steps_left.nd rfl (Or.inl rfl) (de_frz (de_var (pv 5))))))))
    (dss_one (ds_ret (de_var (pv 4)))))

/-! ### l_some -/
abbrev s_l_some : Stmt := top 9
abbrev N_l_some : List Str := ["_law_bag_here", "_law_things"]
theorem sc_l_some : FnScope N_l_some ["_law_bag_here", "_law_things"] (defScope s_l_some) := ⟨rfl, rfl, rfl, by decide +kernel, rfl, by decide +kernel, by decide +kernel⟩
def b_l_some : MS := sRet (mBin idxD (mVar 1) (mCall (callF f_l_take) (mCons (mVar 0) (mCons (mCall lenD (mCons (mVar 1) (mNil))) (mNil)))))
def f_l_some : FS := runF 2 b_l_some
theorem ok_l_some {P : Program} {w : World} {K : PySem.W.Frag} {mg : Str → Option Value} {base : Heap} {fa : Addr} {fd : FuncData} (F : Fun K "_law_some" "_law_some" s_l_some fa fd) (T : Txt mg) (c_l_take : Cal P w K mg base "_law_take" 1 ["_law_bag_here", "_law_upto"] f_l_take) : FnG P w K mg base 2 fa fd ["_law_bag_here", "_law_things"] (spD K 2 f_l_some) :=
  fnG (k := 1) (N := N_l_some) (ps := ["_law_bag_here", "_law_things"]) (b := b_l_some) F sc_l_some fun cdv A outer s H E hr hg => dss_one (ds_ret (de_ix (de_var (pv 1)) (de_callC c_l_take hr hg (by decide) rfl (da_cons (de_var (pv 0)) (da_cons (de_callB call_lenDD rfl T.n_len (by decide +kernel) (da_cons (de_var (pv 1)) (da_nil))) (da_nil))) (ArgN.cons (ArgN.cons ArgN.nil)) rfl)))

/-! ### l_mixed -/
abbrev s_l_mixed : Stmt := top 11
abbrev N_l_mixed : List Str := ["_law_bag_here", "_law_things", "_law_found", "_law_thing"]
theorem sc_l_mixed : FnScope N_l_mixed ["_law_bag_here", "_law_things"] (defScope s_l_mixed) := ⟨rfl, rfl, rfl, by decide +kernel, rfl, by decide +kernel, by decide +kernel⟩
def L_l_mixed_1 : MS := sExpr (mMt insertF (mVar 2) (mCons (mCall (callF f_l_take) (mCons (mVar 0) (mCons (mBin addA (mCall lenD (mCons (mVar 2) (mNil))) (mC (.int 1))) (mNil)))) (mCons (mVar 3) (mNil))))
def b_l_mixed : MS := sSeq (sAsg (mCall lstB (mNil)) (gSet 2))
    (sSeq (sFor (iSeq (mVar 1)) (gSet 3) (L_l_mixed_1))
    (sRet (mFrz (mVar 2))))
def f_l_mixed : FS := runF 4 b_l_mixed
theorem ok_l_mixed {P : Program} {w : World} {K : PySem.W.Frag} {mg : Str → Option Value} {base : Heap} {fa : Addr} {fd : FuncData} (F : Fun K "_law_mixed" "_law_mixed" s_l_mixed fa fd) (T : Txt mg) (c_l_take : Cal P w K mg base "_law_take" 1 ["_law_bag_here", "_law_upto"] f_l_take) : FnG P w K mg base 2 fa fd ["_law_bag_here", "_law_things"] (spD K 2 f_l_mixed) :=
  fnG (k := 1) (N := N_l_mixed) (ps := ["_law_bag_here", "_law_things"]) (b := b_l_mixed) F sc_l_mixed fun cdv A outer s H E hr hg => dss_cons (ds_set (i := 2) sc_l_mixed.nd rfl (Or.inl rfl) (de_lstB (da_nil)))
    (dss_cons (ds_for (vis := [3]) PassesOwn.never rfl (di_seq (de_var (pv 1))) (dg_name (i := 3) sc_l_mixed.nd rfl (Or.inl rfl)) (dss_one (ds_expr (de_bm PySem.F.slot_list_insert PySem.F.type_list_insert mt_insertD (de_var (pv 2)) (da_cons (de_callC c_l_take hr hg (by decide) rfl (da_cons (de_var (pv 0)) (da_cons (de_bin op_addA (de_callB call_lenDD rfl T.n_len (by decide +kernel) (da_cons (de_var (pv 2)) (da_nil))) (de_int)) (da_nil))) (ArgN.cons (ArgN.cons ArgN.nil)) rfl) (da_cons (de_var (pv 3)) (da_nil)))))))
    (dss_one (ds_ret (de_frz (de_var (pv 2))))))

/-! ### l_contents -/
abbrev s_l_contents : Stmt := top 14
abbrev N_l_contents : List Str := ["_law_bench_here", "_law_found", "_law_place_here", "_law_content", "_law_value"]
theorem sc_l_contents : FnScope N_l_contents ["_law_bench_here"] (defScope s_l_contents) := ⟨rfl, rfl, rfl, by decide +kernel, rfl, by decide +kernel, by decide +kernel⟩
def L_l_contents_1 : MS := sAsg (mCall (callF f_l_flat) (mCons (mLc (iSeq (mVar 1)) (gSet 3) (tTrue) (mLc (iRng1D (mCons (mBin idxD (mVar 2) (mC (.int 0))) (mNil))) (gSet 4) (tTrue) (mBin addA (mVar 3) (mCall tupF (mCons (mVar 4) (mNil)))) [4] kFrz) [3] kFrz) (mNil))) (gSet 1)
def b_l_contents : MS := sSeq (sAsg (mCall lstF (mCons (mCall tupF (mNil)) (mNil))) (gSet 1))
    (sSeq (sFor (iSeq (mVar 0)) (gSet 2) (L_l_contents_1))
    (sRet (mVar 1)))
def f_l_contents : FS := runF 5 b_l_contents
theorem ok_l_contents {P : Program} {w : World} {K : PySem.W.Frag} {mg : Str → Option Value} {base : Heap} {fa : Addr} {fd : FuncData} (F : Fun K "_law_contents" "_law_contents" s_l_contents fa fd) (T : Txt mg) (c_l_flat : Cal P w K mg base "_law_flat" 1 ["_law_rows"] f_l_flat) : FnG P w K mg base 2 fa fd ["_law_bench_here"] (spD K 1 f_l_contents) :=
  fnG (k := 1) (N := N_l_contents) (ps := ["_law_bench_here"]) (b := b_l_contents) F sc_l_contents fun cdv A outer s H E hr hg => dss_cons (ds_set (i := 1) sc_l_contents.nd rfl (Or.inl rfl) (de_lst (da_cons (de_tup (da_nil)) (da_nil))))
    (dss_cons (ds_for (vis := [2]) PassesOwn.never rfl (di_seq (de_var (pv 0))) (dg_name (i := 2) sc_l_contents.nd rfl (Or.inr rfl)) (dss_one (ds_set (i := 1) sc_l_contents.nd rfl (Or.inl rfl) (de_callC c_l_flat hr hg (by decide) rfl (da_cons (de_lc (own := [("_law_content", 3)]) rfl sc_l_contents.nd (di_seq (de_var (pv 1))) (blkOk_by (own := [("_law_content", 3)]) (N := N_l_contents) (sc := defScope s_l_contents) (by decide +kernel)) (fun _ _ _ _ _ => dg_name (i := 3) sc_l_contents.nd rfl (Or.inr rfl)) (fun _ _ _ _ _ => dts_nil) (fun _ _ _ _ _ => de_lc (own := [("_law_value", 4)]) rfl sc_l_contents.nd (di_rng1 rfl T.n_range (da_cons (de_ix (de_var (pv 2)) (de_int)) (da_nil))) (blkOk_by (own := [("_law_value", 4)]) (N := N_l_contents) (sc := { kind := .function, names := [(".0", .local), ("_law_content", .cell), ("range", .globalImplicit), ("_law_place_here", .cell)], isGenerator := false, isCoroutine := false }) (by decide +kernel)) (fun _ _ _ _ _ => dg_name (i := 4) sc_l_contents.nd rfl (Or.inl rfl)) (fun _ _ _ _ _ => dts_nil) (fun _ _ _ _ _ => de_bin op_addA (de_var (pv 3)) (de_tup (da_cons (de_var (pv 4)) (da_nil)))))) (da_nil)) (ArgN.cons ArgN.nil) rfl))))
    (dss_one (ds_ret (de_var (pv 1)))))

/-! ### shortest_way -/
abbrev s_shortest_way : Stmt := top 4
abbrev N_shortest_way : List Str := ["bench", "one", "other", "barred", "left", "way", "here", "nearer", "content"]
theorem sc_shortest_way : FnScope N_shortest_way ["bench", "one", "other", "barred"] (defScope s_shortest_way) := ⟨rfl, rfl, rfl, by decide +kernel, rfl, by decide +kernel, by decide +kernel⟩
def b_shortest_way : MS := sSeq (sAsg (mCall (callF f_steps_left) (mCons (mVar 0) (mCons (mVar 2) (mCons (mDc (iSeq (mVar 3)) (gSet 8) (tTrue) (mVar 8) (mC (.bool true)) [8]) (mNil))))) (gSet 4))
    (sSeq (sIf (tOf (mBin (dinF true) (mVar 1) (mVar 4))) (sRet (mC .none)) (sNil))
    (sSeq (sAsg (mCall tupF (mCons (mVar 1) (mNil))) (gSet 5))
    (sSeq (whileL (tOf (mBin (eqA true) (mBin idxD (mVar 5) (mNeg (mC (.int 1)))) (mVar 2))) (sSeq (sAsg (mBin idxD (mVar 5) (mNeg (mC (.int 1)))) (gSet 6))
    (sSeq (sAsg (mLc (iSeq (mCall (callF f_steps_from) (mCons (mVar 0) (mCons (mVar 6) (mNil))))) (gSet 8) (tOf (mBin (eqA false) (mGet1' (mVar 4) (mVar 8)) (mBin subD (mBin dgetF (mVar 4) (mVar 6)) (mC (.int 1))))) (mVar 8) [8] kFrz) (gSet 7))
    (sAug 5 iaddT (mCall tupF (mCons (mCall minLD (mCons (mLc (iSeq (mVar 7)) (gSet 8) (tOrD (tOf (mBin (eqA false) (mVar 8) (mVar 2))) (tOf (mBin (inA true) (mVar 8) (mVar 3)))) (mVar 8) [8] kFrz) (mNil))) (mNil)))))) FUEL)
    (sRet (mVar 5)))))
def f_shortest_way : FS := runF 9 b_shortest_way
theorem ok_shortest_way {P : Program} {w : World} {K : PySem.W.Frag} {mg : Str → Option Value} {base : Heap} {fa : Addr} {fd : FuncData} (F : Fun K "shortest_way" "shortest_way" s_shortest_way fa fd) (T : Txt mg) (c_steps_left : Cal P w K mg base "steps_left" 2 ["bench", "other", "barred"] f_steps_left) (c_steps_from : Cal P w K mg base "steps_from" 1 ["bench", "content"] f_steps_from) : FnG P w K mg base 3 fa fd ["bench", "one", "other", "barred"] (spD K 4 f_shortest_way) :=
  fnG (k := 2) (N := N_shortest_way) (ps := ["bench", "one", "other", "barred"]) (b := b_shortest_way) F sc_shortest_way fun cdv A outer s H E hr hg => dss_cons (ds_set (i := 4) sc_shortest_way.nd rfl (Or.inr rfl) (de_callC c_steps_left hr hg (by decide) rfl (da_cons (de_var (pv 0)) (da_cons (de_var (pv 2)) (da_cons (de_dc (own := [("content", 8)]) hr rfl sc_shortest_way.nd (di_seq (de_var (pv 3))) (blkOk_by (own := [("content", 8)]) (N := N_shortest_way) (sc := defScope s_shortest_way) (by decide +kernel)) (fun _ _ _ _ _ => dg_name (i := 8) sc_shortest_way.nd rfl (Or.inl rfl)) (fun _ _ _ _ _ => dts_nil) (fun _ _ _ _ _ => de_var (pv 8)) (fun _ _ _ _ _ => de_bl)) (da_nil)))) (ArgN.cons (ArgN.cons (ArgN.cons ArgN.nil))) rfl))
    (dss_cons (ds_if (dt_cmp (op_dnotin hr) (de_var (pv 1)) (de_var (pv 4))) (dss_one (ds_ret (de_non))) (dss_nil))
    (dss_cons (ds_set (i := 5) sc_shortest_way.nd rfl (Or.inl rfl) (de_tup (da_cons (de_var (pv 1)) (da_nil))))
    (dss_cons (ds_while PassesOwn.never (dt_cmp (op_neA hr.units) (de_ix (de_var (pv 5)) (de_neg (de_int))) (de_var (pv 2))) (dss_cons (ds_set (i := 6) sc_shortest_way.nd rfl (Or.inr rfl) (de_ix (de_var (pv 5)) (de_neg (de_int))))
    (dss_cons (ds_setLc (own := [("content", 8)]) rfl sc_shortest_way.nd rfl rfl (sw_true rfl rfl rfl (by decide +kernel)) (di_seq (de_callC c_steps_from hr hg (by decide) rfl (da_cons (de_var (pv 0)) (da_cons (de_var (pv 6)) (da_nil))) (ArgN.cons (ArgN.cons ArgN.nil)) rfl)) (blkOk_by (own := [("content", 8)]) (N := N_shortest_way) (sc := defScope s_shortest_way) (by decide +kernel)) (fun _ _ _ _ _ => dg_name (i := 8) sc_shortest_way.nd rfl (Or.inl rfl)) (fun _ _ _ _ _ => dts_one (dt_cmp (op_eqA hr.units) (de_get1 hr (de_var (pv 4)) (de_var (pv 8)) ⟨rfl, rfl, rfl, rfl⟩) (de_bin op_subD (de_dget hr (de_var (pv 4)) (de_var (pv 6))) (de_int)))) (fun _ _ _ _ _ => de_var (pv 8)))
    (dss_one (ds_aug (i := 5) sc_shortest_way.nd rfl (Or.inl rfl) (de_tup (da_cons (de_callB (call_minDD hr) rfl T.n_min (by decide +kernel) (da_cons (de_lc (own := [("content", 8)]) rfl sc_shortest_way.nd (di_seq (de_var (pv 7))) (blkOk_by (own := [("content", 8)]) (N := N_shortest_way) (sc := defScope s_shortest_way) (by decide +kernel)) (fun _ _ _ _ _ => dg_name (i := 8) sc_shortest_way.nd rfl (Or.inl rfl)) (fun _ _ _ _ _ => dts_one (PW.pt (dw_or (dt_cmp (op_eqA hr.units) (de_var (pv 8)) (de_var (pv 2))) (dw_or1 (dt_cmp (op_notInA hr.units65) (de_var (pv 8)) (de_var (pv 3))))))) (fun _ _ _ _ _ => de_var (pv 8))) (da_nil))) (da_nil))) ip_addT)))))
    (dss_one (ds_ret (de_var (pv 5)))))))

/-! ### distance -/
abbrev s_distance : Stmt := top 5
abbrev N_distance : List Str := ["bench", "one", "other", "barred", "content"]
theorem sc_distance : FnScope N_distance ["bench", "one", "other", "barred"] (defScope s_distance) := ⟨rfl, rfl, rfl, by decide +kernel, rfl, by decide +kernel, by decide +kernel⟩
def b_distance : MS := sRet (mGet1' (mCall (callF f_steps_left) (mCons (mVar 0) (mCons (mVar 2) (mCons (mDc (iSeq (mVar 3)) (gSet 4) (tTrue) (mVar 4) (mC (.bool true)) [4]) (mNil))))) (mVar 1))
def f_distance : FS := runF 5 b_distance
theorem ok_distance {P : Program} {w : World} {K : PySem.W.Frag} {mg : Str → Option Value} {base : Heap} {fa : Addr} {fd : FuncData} (F : Fun K "distance" "distance" s_distance fa fd) (T : Txt mg) (c_steps_left : Cal P w K mg base "steps_left" 2 ["bench", "other", "barred"] f_steps_left) : FnG P w K mg base 3 fa fd ["bench", "one", "other", "barred"] (spD K 4 f_distance) :=
  fnG (k := 2) (N := N_distance) (ps := ["bench", "one", "other", "barred"]) (b := b_distance) F sc_distance fun cdv A outer s H E hr hg => dss_one (ds_ret (de_get1 hr (de_callC c_steps_left hr hg (by decide) rfl (da_cons (de_var (pv 0)) (da_cons (de_var (pv 2)) (da_cons (de_dc (own := [("content", 4)]) hr rfl sc_distance.nd (di_seq (de_var (pv 3))) (blkOk_by (own := [("content", 4)]) (N := N_distance) (sc := defScope s_distance) (by decide +kernel)) (fun _ _ _ _ _ => dg_name (i := 4) sc_distance.nd rfl (Or.inl rfl)) (fun _ _ _ _ _ => dts_nil) (fun _ _ _ _ _ => de_var (pv 4)) (fun _ _ _ _ _ => de_bl)) (da_nil)))) (ArgN.cons (ArgN.cons (ArgN.cons ArgN.nil))) rfl) (de_var (pv 1)) ⟨rfl, rfl, rfl, rfl⟩))

/-! ### l_place -/
abbrev s_l_place : Stmt := top 12
abbrev N_l_place : List Str := ["_law_bag_here", "_law_most", "_law_many", "_law_way", "_law_every", "_law_v", "_law_w"]
theorem sc_l_place : FnScope N_l_place ["_law_bag_here", "_law_most"] (defScope s_l_place) := ⟨rfl, rfl, rfl, by decide +kernel, rfl, by decide +kernel, by decide +kernel⟩
def b_l_place : MS := sSeq (sAsg (mBin addA (mC (.int 2)) (mCall (callF f_l_take) (mCons (mVar 0) (mCons (mBin subD (mVar 1) (mC (.int 1))) (mNil))))) (gSet 2))
    (sSeq (sAsg (mCall (callF f_l_some) (mCons (mVar 0) (mCons (mCall lstF (mCons (mC (.int 0)) (mCons (mC (.int 0)) (mCons (mC (.int 0)) (mCons (mC (.int 2)) (mCons (mC (.int 2)) (mCons (mC (.int 4)) (mCons (mC (.int 4)) (mCons (mC (.int 2)) (mCons (mC (.int 5)) (mCons (mC (.int 6)) (mCons (mC (.int 7)) (mNil))))))))))))) (mNil)))) (gSet 3))
    (sSeq (sAsg (mCall (callF f_l_flat) (mCons (mLc (iRng1D (mCons (mVar 2) (mNil))) (gSet 5) (tTrue) (mLc (iRng1D (mCons (mVar 2) (mNil))) (gSet 6) (tOf (mBin (eqA true) (mVar 6) (mVar 5))) (mCall tupF (mCons (mVar 5) (mCons (mVar 6) (mNil)))) [6] kFrz) [5] kFrz) (mNil))) (gSet 4))
    (sSeq (sIf (tOf (mBin ltD (mVar 3) (mC (.int 2)))) (sRet (mCall tupF (mCons (mVar 2) (mCons (mCall tupleD (mCons (mVar 4) (mNil))) (mNil))))) (sNil))
    (sSeq (sIf (tOrD (tOf (mBin ltD (mVar 3) (mC (.int 4)))) (tAndD (tOf (mBin (eqA false) (mVar 3) (mC (.int 4)))) (tOf (mBin ltD (mVar 2) (mC (.int 3)))))) (sRet (mCall tupF (mCons (mVar 2) (mCons (mCall tupleD (mCons (mLc (iSeq (mVar 4)) (gTupD 2 (gsCons (gSet 5) (gsCons (gSet 6) (gsNil)))) (tOf (mBin (inA false) (mBin subD (mVar 5) (mVar 6)) (mCall tupF (mCons (mC (.int 1)) (mCons (mNeg (mC (.int 1))) (mNil)))))) (mCall tupF (mCons (mVar 5) (mCons (mVar 6) (mNil)))) [5, 6] kFrz) (mNil))) (mNil))))) (sNil))
    (sSeq (sIf (tOf (mBin (eqA false) (mVar 3) (mC (.int 4)))) (sRet (mCall tupF (mCons (mVar 2) (mCons (mCall tupleD (mCons (mLc (iSeq (mVar 4)) (gTupD 2 (gsCons (gSet 5) (gsCons (gSet 6) (gsNil)))) (tOf (mBin (inA false) (mBin modD (mCall intD (mCons (mBin subD (mVar 5) (mVar 6)) (mNil))) (mVar 2)) (mCall tupF (mCons (mC (.int 1)) (mCons (mBin subD (mVar 2) (mC (.int 1))) (mNil)))))) (mCall tupF (mCons (mVar 5) (mCons (mVar 6) (mNil)))) [5, 6] kFrz) (mNil))) (mNil))))) (sNil))
    (sSeq (sIf (tOf (mBin (inA false) (mVar 3) (mCall tupF (mCons (mC (.int 5)) (mCons (mC (.int 7)) (mNil)))))) (sRet (mCall tupF (mCons (mVar 2) (mCons (mCall tupleD (mCons (mLc (iSeq (mVar 4)) (gTupD 2 (gsCons (gSet 5) (gsCons (gSet 6) (gsNil)))) (tAndD (tOf (mBin ltD (mVar 5) (mVar 6))) (tOrD (tOf (mBin (eqA false) (mVar 3) (mC (.int 5)))) (tOf (mBin (eqA false) (mVar 6) (mBin addA (mVar 5) (mC (.int 1))))))) (mCall tupF (mCons (mVar 5) (mCons (mVar 6) (mNil)))) [5, 6] kFrz) (mNil))) (mNil))))) (sNil))
    (sRet (mCall tupF (mCons (mVar 2) (mCons (mCall tupleD (mCons (mCall sortedD (mCons (mSl (mCall (callF f_l_mixed) (mCons (mVar 0) (mCons (mVar 4) (mNil)))) (oNo) (oYes (mCall (callF f_l_take) (mCons (mVar 0) (mCons (mBin addA (mCall lenD (mCons (mVar 4) (mNil))) (mC (.int 1))) (mNil)))))) (mNil))) (mNil))) (mNil)))))))))))
def f_l_place : FS := runF 7 b_l_place
theorem ok_l_place {P : Program} {w : World} {K : PySem.W.Frag} {mg : Str → Option Value} {base : Heap} {fa : Addr} {fd : FuncData} (F : Fun K "_law_place" "_law_place" s_l_place fa fd) (T : Txt mg) (c_l_take : Cal P w K mg base "_law_take" 1 ["_law_bag_here", "_law_upto"] f_l_take) (c_l_some : Cal P w K mg base "_law_some" 2 ["_law_bag_here", "_law_things"] f_l_some) (c_l_flat : Cal P w K mg base "_law_flat" 1 ["_law_rows"] f_l_flat) (c_l_mixed : Cal P w K mg base "_law_mixed" 2 ["_law_bag_here", "_law_things"] f_l_mixed) : FnG P w K mg base 3 fa fd ["_law_bag_here", "_law_most"] (spD K 2 f_l_place) :=
  fnG (k := 2) (N := N_l_place) (ps := ["_law_bag_here", "_law_most"]) (b := b_l_place) F sc_l_place fun cdv A outer s H E hr hg => dss_cons (ds_set (i := 2) sc_l_place.nd rfl (Or.inr rfl) (de_bin op_addA (de_int) (de_callC c_l_take hr hg (by decide) rfl (da_cons (de_var (pv 0)) (da_cons (de_bin op_subD (de_var (pv 1)) (de_int)) (da_nil))) (ArgN.cons (ArgN.cons ArgN.nil)) rfl)))
    (dss_cons (ds_set (i := 3) sc_l_place.nd rfl (Or.inr rfl) (de_callC c_l_some hr hg (by decide) rfl (da_cons (de_var (pv 0)) (da_cons (de_lst (da_cons (de_int) (da_cons (de_int) (da_cons (de_int) (da_cons (de_int) (da_cons (de_int) (da_cons (de_int) (da_cons (de_int) (da_cons (de_int) (da_cons (de_int) (da_cons (de_int) (da_cons (de_int) (da_nil))))))))))))) (da_nil))) (ArgN.cons (ArgN.cons ArgN.nil)) rfl))
    (dss_cons (ds_set (i := 4) sc_l_place.nd rfl (Or.inl rfl) (de_callC c_l_flat hr hg (by decide) rfl (da_cons (de_lc (own := [("_law_v", 5)]) rfl sc_l_place.nd (di_rng1 rfl T.n_range (da_cons (de_var (pv 2)) (da_nil))) (blkOk_by (own := [("_law_v", 5)]) (N := N_l_place) (sc := defScope s_l_place) (by decide +kernel)) (fun _ _ _ _ _ => dg_name (i := 5) sc_l_place.nd rfl (Or.inr rfl)) (fun _ _ _ _ _ => dts_nil) (fun _ _ _ _ _ => de_lc (own := [("_law_w", 6)]) rfl sc_l_place.nd (di_rng1 rfl T.n_range (da_cons (de_var (pv 2)) (da_nil))) (blkOk_by (own := [("_law_w", 6)]) (N := N_l_place) (sc := { kind := .function, names := [(".0", .local), ("_law_v", .cell), ("range", .globalImplicit), ("_law_many", .cell)], isGenerator := false, isCoroutine := false }) (by decide +kernel)) (fun _ _ _ _ _ => dg_name (i := 6) sc_l_place.nd rfl (Or.inl rfl)) (fun _ _ _ _ _ => dts_one (dt_cmp (op_neA hr.units) (de_var (pv 6)) (de_var (pv 5)))) (fun _ _ _ _ _ => de_tup (da_cons (de_var (pv 5)) (da_cons (de_var (pv 6)) (da_nil)))))) (da_nil)) (ArgN.cons ArgN.nil) rfl))
    (dss_cons (ds_if (dt_cmp (op_ltDD hr) (de_var (pv 3)) (de_int)) (dss_one (ds_ret (de_tup (da_cons (de_var (pv 2)) (da_cons (de_callTy call_tupleDD rfl T.n_tuple (by decide +kernel) (da_cons (de_var (pv 4)) (da_nil))) (da_nil)))))) (dss_nil))
    (dss_cons (ds_if (PW.pt (dw_or (dt_cmp (op_ltDD hr) (de_var (pv 3)) (de_int)) (dw_or1 (PW.pt (dw_and (dt_cmp (op_eqA hr.units) (de_var (pv 3)) (de_int)) (dw_and1 (dt_cmp (op_ltDD hr) (de_var (pv 2)) (de_int)))))))) (dss_one (ds_ret (de_tup (da_cons (de_var (pv 2)) (da_cons (de_callTy call_tupleDD rfl T.n_tuple (by decide +kernel) (da_cons (de_lc (own := [("_law_v", 5), ("_law_w", 6)]) rfl sc_l_place.nd (di_seq (de_var (pv 4))) (blkOk_by (own := [("_law_v", 5), ("_law_w", 6)]) (N := N_l_place) (sc := defScope s_l_place) (by decide +kernel)) (fun _ _ _ _ _ => dg_tup rfl (dgs_cons (dg_name (i := 5) sc_l_place.nd rfl (Or.inl rfl)) (dgs_cons (dg_name (i := 6) sc_l_place.nd rfl (Or.inl rfl)) (dgs_nil)))) (fun _ _ _ _ _ => dts_one (dt_cmp (op_inA hr.units65) (de_bin op_subD (de_var (pv 5)) (de_var (pv 6))) (de_tup (da_cons (de_int) (da_cons (de_neg (de_int)) (da_nil)))))) (fun _ _ _ _ _ => de_tup (da_cons (de_var (pv 5)) (da_cons (de_var (pv 6)) (da_nil))))) (da_nil))) (da_nil)))))) (dss_nil))
    (dss_cons (ds_if (dt_cmp (op_eqA hr.units) (de_var (pv 3)) (de_int)) (dss_one (ds_ret (de_tup (da_cons (de_var (pv 2)) (da_cons (de_callTy call_tupleDD rfl T.n_tuple (by decide +kernel) (da_cons (de_lc (own := [("_law_v", 5), ("_law_w", 6)]) rfl sc_l_place.nd (di_seq (de_var (pv 4))) (blkOk_by (own := [("_law_v", 5), ("_law_w", 6)]) (N := N_l_place) (sc := defScope s_l_place) (by decide +kernel)) (fun _ _ _ _ _ => dg_tup rfl (dgs_cons (dg_name (i := 5) sc_l_place.nd rfl (Or.inl rfl)) (dgs_cons (dg_name (i := 6) sc_l_place.nd rfl (Or.inl rfl)) (dgs_nil)))) (fun _ _ _ _ _ => dts_one (dt_cmp (op_inA hr.units65) (de_bin op_modD (de_callTy call_intDD rfl T.n_int (by decide +kernel) (da_cons (de_bin op_subD (de_var (pv 5)) (de_var (pv 6))) (da_nil))) (de_var (pv 2))) (de_tup (da_cons (de_int) (da_cons (de_bin op_subD (de_var (pv 2)) (de_int)) (da_nil)))))) (fun _ _ _ _ _ => de_tup (da_cons (de_var (pv 5)) (da_cons (de_var (pv 6)) (da_nil))))) (da_nil))) (da_nil)))))) (dss_nil))
    (dss_cons (ds_if (dt_cmp (op_inA hr.units65) (de_var (pv 3)) (de_tup (da_cons (de_int) (da_cons (de_int) (da_nil))))) (dss_one (ds_ret (de_tup (da_cons (de_var (pv 2)) (da_cons (de_callTy call_tupleDD rfl T.n_tuple (by decide +kernel) (da_cons (de_lc (own := [("_law_v", 5), ("_law_w", 6)]) rfl sc_l_place.nd (di_seq (de_var (pv 4))) (blkOk_by (own := [("_law_v", 5), ("_law_w", 6)]) (N := N_l_place) (sc := defScope s_l_place) (by decide +kernel)) (fun _ _ _ _ _ => dg_tup rfl (dgs_cons (dg_name (i := 5) sc_l_place.nd rfl (Or.inl rfl)) (dgs_cons (dg_name (i := 6) sc_l_place.nd rfl (Or.inl rfl)) (dgs_nil)))) (fun _ _ _ _ _ => dts_one (PW.pt (dw_and (dt_cmp (op_ltDD hr) (de_var (pv 5)) (de_var (pv 6))) (dw_and1 (PW.pt (dw_or (dt_cmp (op_eqA hr.units) (de_var (pv 3)) (de_int)) (dw_or1 (dt_cmp (op_eqA hr.units) (de_var (pv 6)) (de_bin op_addA (de_var (pv 5)) (de_int)))))))))) (fun _ _ _ _ _ => de_tup (da_cons (de_var (pv 5)) (da_cons (de_var (pv 6)) (da_nil))))) (da_nil))) (da_nil)))))) (dss_nil))
    (dss_one (ds_ret (de_tup (da_cons (de_var (pv 2)) (da_cons (de_callTy call_tupleDD rfl T.n_tuple (by decide +kernel) (da_cons (de_callB (call_sortedDD hr) rfl T.n_sorted (by decide +kernel) (da_cons (de_sl (de_callC c_l_mixed hr hg (by decide) rfl (da_cons (de_var (pv 0)) (da_cons (de_var (pv 4)) (da_nil))) (ArgN.cons (ArgN.cons ArgN.nil)) rfl) (do_no) (do_yes (de_callC c_l_take hr hg (by decide) rfl (da_cons (de_var (pv 0)) (da_cons (de_bin op_addA (de_callB call_lenDD rfl T.n_len (by decide +kernel) (da_cons (de_var (pv 4)) (da_nil))) (de_int)) (da_nil))) (ArgN.cons (ArgN.cons ArgN.nil)) rfl))) (da_nil))) (da_nil))) (da_nil))))))))))))

/-! ### l_graph -/
abbrev s_l_graph : Stmt := top 16
abbrev N_l_graph : List Str := ["_law_bench_here", "_law_content"]
theorem sc_l_graph : FnScope N_l_graph ["_law_bench_here"] (defScope s_l_graph) := ⟨rfl, rfl, rfl, by decide +kernel, rfl, by decide +kernel, by decide +kernel⟩
def b_l_graph : MS := sRet (mCall dictP (mCons (mLc (iSeq (mCall (callF f_l_contents) (mCons (mVar 0) (mNil)))) (gSet 1) (tTrue) (mCall tupF (mCons (mVar 1) (mCons (mCall (callF f_l_steps) (mCons (mVar 0) (mCons (mVar 1) (mNil)))) (mNil)))) [1] kFrz) (mNil)))
def f_l_graph : FS := runF 2 b_l_graph
theorem ok_l_graph {P : Program} {w : World} {K : PySem.W.Frag} {mg : Str → Option Value} {base : Heap} {fa : Addr} {fd : FuncData} (F : Fun K "_law_graph" "_law_graph" s_l_graph fa fd) (T : Txt mg) (c_l_contents : Cal P w K mg base "_law_contents" 2 ["_law_bench_here"] f_l_contents) (c_l_steps : Cal P w K mg base "_law_steps" 1 ["_law_bench_here", "_law_content"] f_l_steps) : FnG P w K mg base 3 fa fd ["_law_bench_here"] (spD K 1 f_l_graph) :=
  fnG (k := 2) (N := N_l_graph) (ps := ["_law_bench_here"]) (b := b_l_graph) F sc_l_graph fun cdv A outer s H E hr hg => dss_one (ds_ret (de_callTy (call_dictDD hr rfl) rfl T.n_dict (by decide +kernel) (da_cons (de_lc (own := [("_law_content", 1)]) rfl sc_l_graph.nd (di_seq (de_callC c_l_contents hr hg (by decide) rfl (da_cons (de_var (pv 0)) (da_nil)) (ArgN.cons ArgN.nil) rfl)) (blkOk_by (own := [("_law_content", 1)]) (N := N_l_graph) (sc := defScope s_l_graph) (by decide +kernel)) (fun _ _ _ _ _ => dg_name (i := 1) sc_l_graph.nd rfl (Or.inl rfl)) (fun _ _ _ _ _ => dts_nil) (fun _ _ _ _ _ => de_tup (da_cons (de_var (pv 1)) (da_cons (de_callC c_l_steps hr hg (by decide) rfl (da_cons (de_var (pv 0)) (da_cons (de_var (pv 1)) (da_nil))) (ArgN.cons (ArgN.cons ArgN.nil)) rfl) (da_nil))))) (da_nil))))

/-! ### l_drawn_contents -/
abbrev s_l_drawn_contents : Stmt := top 18
abbrev N_l_drawn_contents : List Str := ["_law_bag_here", "_law_contents_here", "_law_way", "_law_one"]
theorem sc_l_drawn_contents : FnScope N_l_drawn_contents ["_law_bag_here", "_law_contents_here"] (defScope s_l_drawn_contents) := ⟨rfl, rfl, rfl, by decide +kernel, rfl, by decide +kernel, by decide +kernel⟩
def b_l_drawn_contents : MS := sSeq (sAsg (mCall (callF f_l_take) (mCons (mVar 0) (mCons (mC (.int 4)) (mNil)))) (gSet 2))
    (sSeq (sIf (tOf (mBin (eqA false) (mVar 2) (mC (.int 0)))) (sRet (mCall lstF (mNil))) (sNil))
    (sRet (mCall (callF f_l_mixed) (mCons (mVar 0) (mCons (mLc (iSeq (mVar 1)) (gSet 3) (tOf (mBin (eqA false) (mCall (callF f_l_take) (mCons (mVar 0) (mCons (mBin addA (mC (.int 1)) (mVar 2)) (mNil)))) (mC (.int 0)))) (mVar 3) [3] kFrz) (mNil))))))
def f_l_drawn_contents : FS := runF 4 b_l_drawn_contents
theorem ok_l_drawn_contents {P : Program} {w : World} {K : PySem.W.Frag} {mg : Str → Option Value} {base : Heap} {fa : Addr} {fd : FuncData} (F : Fun K "_law_drawn_contents" "_law_drawn_contents" s_l_drawn_contents fa fd) (T : Txt mg) (c_l_take : Cal P w K mg base "_law_take" 1 ["_law_bag_here", "_law_upto"] f_l_take) (c_l_mixed : Cal P w K mg base "_law_mixed" 2 ["_law_bag_here", "_law_things"] f_l_mixed) : FnG P w K mg base 3 fa fd ["_law_bag_here", "_law_contents_here"] (spD K 2 f_l_drawn_contents) :=
  fnG (k := 2) (N := N_l_drawn_contents) (ps := ["_law_bag_here", "_law_contents_here"]) (b := b_l_drawn_contents) F sc_l_drawn_contents fun cdv A outer s H E hr hg => dss_cons (ds_set (i := 2) sc_l_drawn_contents.nd rfl (Or.inr rfl) (de_callC c_l_take hr hg (by decide) rfl (da_cons (de_var (pv 0)) (da_cons (de_int) (da_nil))) (ArgN.cons (ArgN.cons ArgN.nil)) rfl))
    (dss_cons (ds_if (dt_cmp (op_eqA hr.units) (de_var (pv 2)) (de_int)) (dss_one (ds_ret (de_lst (da_nil)))) (dss_nil))
    (dss_one (ds_ret (de_callC c_l_mixed hr hg (by decide) rfl (da_cons (de_var (pv 0)) (da_cons (de_lc (own := [("_law_one", 3)]) rfl sc_l_drawn_contents.nd (di_seq (de_var (pv 1))) (blkOk_by (own := [("_law_one", 3)]) (N := N_l_drawn_contents) (sc := defScope s_l_drawn_contents) (by decide +kernel)) (fun _ _ _ _ _ => dg_name (i := 3) sc_l_drawn_contents.nd rfl (Or.inl rfl)) (fun _ _ _ _ _ => dts_one (dt_cmp (op_eqA hr.units) (de_callC c_l_take hr hg (by decide) rfl (da_cons (de_var (pv 0)) (da_cons (de_bin op_addA (de_int) (de_var (pv 2))) (da_nil))) (ArgN.cons (ArgN.cons ArgN.nil)) rfl) (de_int))) (fun _ _ _ _ _ => de_var (pv 3))) (da_nil))) (ArgN.cons (ArgN.cons ArgN.nil)) rfl))))

/-! ### l_bench -/
abbrev s_l_bench : Stmt := top 13
abbrev N_l_bench : List Str := ["_law_bag_here", "_law_most", "_law_turn", "_law_places", "_law_size"]
theorem sc_l_bench : FnScope N_l_bench ["_law_bag_here", "_law_most"] (defScope s_l_bench) := ⟨rfl, rfl, rfl, by decide +kernel, rfl, by decide +kernel, by decide +kernel⟩
def L_l_bench_1 : MS := sIf (tOf (mBin leD (mBin mulD (mVar 4) (mC (.int 2))) (mVar 1))) (sSeq (sExpr (mMt appendF (mVar 3) (mCons (mCall (callF f_l_place) (mCons (mVar 0) (mCons (mCall min2D (mCons (mCall (callF f_l_some) (mCons (mVar 0) (mCons (mCall lstF (mCons (mC (.int 6)) (mCons (mC (.int 4)) (mCons (mC (.int 3)) (mCons (mC (.int 3)) (mCons (mC (.int 2)) (mNil))))))) (mNil)))) (mCons (mBin fdivD (mVar 1) (mVar 4)) (mNil)))) (mNil)))) (mNil))))
    (sAsg (mBin mulD (mVar 4) (mBin idxD (mBin idxD (mVar 3) (mNeg (mC (.int 1)))) (mC (.int 0)))) (gSet 4))) (sNil)
def b_l_bench : MS := sSeq (sPar 3 4 (mCons (mCall lstB (mNil)) (mCons (mC (.int 1)) mNil)))
    (sSeq (sFor (iRng1D (mCons (mCall (callF f_l_some) (mCons (mVar 0) (mCons (mCall lstF (mCons (mC (.int 1)) (mCons (mC (.int 2)) (mCons (mC (.int 2)) (mCons (mC (.int 3)) (mCons (mC (.int 3)) (mCons (mC (.int 4)) (mCons (mC (.int 5)) (mNil))))))))) (mNil)))) (mNil))) (gSet 2) (L_l_bench_1))
    (sRet (mCall tupleD (mCons (mVar 3) (mNil)))))
def f_l_bench : FS := runF 5 b_l_bench
theorem ok_l_bench {P : Program} {w : World} {K : PySem.W.Frag} {mg : Str → Option Value} {base : Heap} {fa : Addr} {fd : FuncData} (F : Fun K "_law_bench" "_law_bench" s_l_bench fa fd) (T : Txt mg) (c_l_some : Cal P w K mg base "_law_some" 2 ["_law_bag_here", "_law_things"] f_l_some) (c_l_place : Cal P w K mg base "_law_place" 3 ["_law_bag_here", "_law_most"] f_l_place) : FnG P w K mg base 4 fa fd ["_law_bag_here", "_law_most"] (spD K 2 f_l_bench) :=
  fnG (k := 3) (N := N_l_bench) (ps := ["_law_bag_here", "_law_most"]) (b := b_l_bench) F sc_l_bench fun cdv A outer s H E hr hg => dss_cons (ds_par (i := 3) (j := 4) rfl sc_l_bench.nd rfl rfl (by decide) rfl rfl (da_cons (de_lstB (da_nil)) (da_cons (de_int) da_nil)) (by rfl))
    (dss_cons (ds_for (vis := [2]) PassesOwn.never rfl (di_rng1 rfl T.n_range (da_cons (de_callC c_l_some hr hg (by decide) rfl (da_cons (de_var (pv 0)) (da_cons (de_lst (da_cons (de_int) (da_cons (de_int) (da_cons (de_int) (da_cons (de_int) (da_cons (de_int) (da_cons (de_int) (da_cons (de_int) (da_nil))))))))) (da_nil))) (ArgN.cons (ArgN.cons ArgN.nil)) rfl) (da_nil))) (dg_name (i := 2) sc_l_bench.nd rfl (Or.inl rfl)) (dss_one (ds_if (dt_cmp op_leD (de_bin op_mulD (de_var (pv 4)) (de_int)) (de_var (pv 1))) (dss_cons (ds_expr (de_bm PySem.F.slot_list_append PySem.F.type_list_append mt_appendD (de_var (pv 3)) (da_cons (de_callC c_l_place hr hg (by decide) rfl (da_cons (de_var (pv 0)) (da_cons (de_callB (call_min2D rfl) rfl T.n_min (by decide +kernel) (da_cons (de_callC c_l_some hr hg (by decide) rfl (da_cons (de_var (pv 0)) (da_cons (de_lst (da_cons (de_int) (da_cons (de_int) (da_cons (de_int) (da_cons (de_int) (da_cons (de_int) (da_nil))))))) (da_nil))) (ArgN.cons (ArgN.cons ArgN.nil)) rfl) (da_cons (de_bin op_fdivD (de_var (pv 1)) (de_var (pv 4))) (da_nil)))) (da_nil))) (ArgN.cons (ArgN.cons ArgN.nil)) rfl) (da_nil))))
    (dss_one (ds_set (i := 4) sc_l_bench.nd rfl (Or.inl rfl) (de_bin op_mulD (de_var (pv 4)) (de_ix (de_ix (de_var (pv 3)) (de_neg (de_int))) (de_int)))))) (dss_nil))))
    (dss_one (ds_ret (de_callTy call_tupleDD rfl T.n_tuple (by decide +kernel) (da_cons (de_var (pv 3)) (da_nil))))))

/-! ### law -/
abbrev s_law : Stmt := top 20
abbrev N_law : List Str := ["_law_script", "_law_bag_here", "_law_turn", "_law_bench_here", "_law_graph_here", "_law_contents_here", "_law_pick", "_law_step", "_law_one", "_law_other", "_law_barred", "_law_last", "_law_twice", "_law_handed", "_law_told", "_law_due", "_law_shown", "_law_k"]
theorem sc_law : FnScope N_law ["_law_script"] (defScope s_law) := ⟨rfl, rfl, rfl, by decide +kernel, rfl, by decide +kernel, by decide +kernel⟩
def L_law_1 : MS := sSeq (sAsg (mBin addA (mVar 10) (mSl (mVar 10) (oNo) (oYes (mCall (callF f_l_take) (mCons (mVar 1) (mCons (mC (.int 2)) (mNil))))))) (gSet 12))
    (sSeq (sAsg (vIf (tOf (mBin (eqA false) (mCall (callF f_l_take) (mCons (mVar 1) (mCons (mC (.int 2)) (mNil)))) (mC (.int 0)))) (mCall tupleD (mCons (mVar 12) (mNil))) (mCall listD (mCons (mVar 12) (mNil)))) (gSet 13))
    (sSeq (sPar 15 16 (mCons (mCall (callF f_l_least_way) (mCons (mVar 4) (mCons (mVar 8) (mCons (mVar 9) (mCons (mVar 10) (mNil)))))) (mCons (mCall reprD (mCons (mVar 13) (mNil))) mNil)))
    (sSeq (sAsg (mCall lstF (mCons (mCall (callF f_shortest_way) (mCons (mVar 3) (mCons (mVar 8) (mCons (mVar 9) (mCons (mVar 13) (mNil)))))) (mCons (mCall (callF f_distance) (mCons (mVar 3) (mCons (mVar 8) (mCons (mVar 9) (mCons (mVar 13) (mNil)))))) (mNil)))) (gSet 14))
    (sSeq (sIf (tOrD (tNotD (tTru (mCall (callF f_l_alike) (mCons (mVar 14) (mCons (mCall lstF (mCons (mVar 15) (mCons (vIf (tOf (mBin (isND false) (mVar 15) (mC .none))) (mC .none) (mBin subD (mCall lenD (mCons (mVar 15) (mNil))) (mC (.int 1)))) (mNil)))) (mNil)))))) (tOf (mBin (eqA true) (mCall reprD (mCons (mVar 13) (mNil))) (mVar 16)))) (sRet (mC (.bool false))) (sNil))
    (sSeq (sIf (tAndD (tOf (mBin (isND true) (mVar 11) (mC .none))) (tOrD (tOf (mBin (isND false) (mVar 15) (mC .none))) (tOf (mBin gtD (mCall lenD (mCons (mVar 15) (mNil))) (mVar 11))))) (sRet (mC (.bool false))) (sNil))
    (sSeq (sIf (tOf (mBin (isND true) (mVar 15) (mC .none))) (sSeq (sPar 11 17 (mCons (mCall lenD (mCons (mVar 15) (mNil))) (mCons (mCall (callF f_l_take) (mCons (mVar 1) (mCons (mCall lenD (mCons (mVar 15) (mNil))) (mNil)))) mNil)))
    (sIf (tNotD (tTru (mCall (callF f_l_alike) (mCons (mCall (callF f_shortest_way) (mCons (mVar 3) (mCons (mBin idxD (mVar 15) (mVar 17)) (mCons (mVar 9) (mCons (mVar 13) (mNil)))))) (mCons (mSl (mVar 15) (oYes (mVar 17)) (oNo)) (mNil)))))) (sRet (mC (.bool false))) (sNil))) (sNil))
    (sAsg (mSl (mVar 10) (oYes (mC (.int 1))) (oNo)) (gSet 10))))))))
def L_law_2 : MS := sSeq (sPar 8 9 (mCons (mCall (callF f_l_some) (mCons (mVar 1) (mCons (mVar 5) (mNil)))) (mCons (mCall (callF f_l_some) (mCons (mVar 1) (mCons (mVar 5) (mNil)))) mNil)))
    (sSeq (sPar 10 11 (mCons (mCall (callF f_l_drawn_contents) (mCons (mVar 1) (mCons (mVar 5) (mNil)))) (mCons (mC .none) mNil)))
    (sSeq (sIf (tOf (mBin (eqA false) (mCall (callF f_l_take) (mCons (mVar 1) (mCons (mC (.int 3)) (mNil)))) (mC (.int 0)))) (sAsg (mSl (mCall listD (mCons (vOrT (mCall (callF f_l_least_way) (mCons (mVar 4) (mCons (mVar 8) (mCons (mVar 9) (mCons (mCall lstF (mNil)) (mNil)))))) (mCall lstF (mNil))) (mNil))) (oYes (mCall (callF f_l_take) (mCons (mVar 1) (mCons (mC (.int 3)) (mNil))))) (oNo)) (gSet 10)) (sNil))
    (sFor (iRng1D (mCons (mC (.int 4)) (mNil))) (gSet 7) (L_law_1))))
def L_law_3 : MS := sSeq (sAsg (mCall (callF f_l_bench) (mCons (mVar 1) (mCons (mC (.int 36)) (mNil)))) (gSet 3))
    (sSeq (sAsg (mCall (callF f_l_graph) (mCons (mVar 3) (mNil))) (gSet 4))
    (sSeq (sAsg (mCall sortedKD (mCons (mVar 4) (mNil))) (gSet 5))
    (sFor (iRng1D (mCons (mC (.int 5)) (mNil))) (gSet 6) (L_law_2))))
def b_law : MS := sSeq (sAsg (mCall (callF f_l_bag) (mCons (mVar 0) (mNil))) (gSet 1))
    (sSeq (sFor (iRng1D (mCons (mC (.int 3)) (mNil))) (gSet 2) (L_law_3))
    (sRet (mC (.bool true))))
def f_law : FS := runF 18 b_law
theorem ok_law {P : Program} {w : World} {K : PySem.W.Frag} {mg : Str → Option Value} {base : Heap} {fa : Addr} {fd : FuncData} (F : Fun K "law" "law" s_law fa fd) (T : Txt mg) (c_l_bag : Cal P w K mg base "_law_bag" 1 ["_law_script"] f_l_bag) (c_l_bench : Cal P w K mg base "_law_bench" 4 ["_law_bag_here", "_law_most"] f_l_bench) (c_l_graph : Cal P w K mg base "_law_graph" 3 ["_law_bench_here"] f_l_graph) (c_l_some : Cal P w K mg base "_law_some" 2 ["_law_bag_here", "_law_things"] f_l_some) (c_l_drawn_contents : Cal P w K mg base "_law_drawn_contents" 3 ["_law_bag_here", "_law_contents_here"] f_l_drawn_contents) (c_l_take : Cal P w K mg base "_law_take" 1 ["_law_bag_here", "_law_upto"] f_l_take) (c_l_least_way : Cal P w K mg base "_law_least_way" 1 ["_law_graph_here", "_law_one", "_law_other", "_law_barred"] f_l_least_way) (c_distance : Cal P w K mg base "distance" 3 ["bench", "one", "other", "barred"] f_distance) (c_shortest_way : Cal P w K mg base "shortest_way" 3 ["bench", "one", "other", "barred"] f_shortest_way) (c_l_alike : Cal P w K mg base "_law_alike" 1 ["_law_found", "_law_due"] f_l_alike) : FnG P w K mg base 5 fa fd ["_law_script"] (spD K 1 f_law) :=
  fnG (k := 4) (N := N_law) (ps := ["_law_script"]) (b := b_law) F sc_law fun cdv A outer s H E hr hg => dss_cons (ds_set (i := 1) sc_law.nd rfl (Or.inl rfl) (de_callC c_l_bag hr hg (by decide) rfl (da_cons (de_var (pv 0)) (da_nil)) (ArgN.cons ArgN.nil) rfl))
    (dss_cons (ds_for (vis := [2]) PassesOwn.never rfl (di_rng1 rfl T.n_range (da_cons (de_int) (da_nil))) (dg_name (i := 2) sc_law.nd rfl (Or.inl rfl)) (dss_cons (ds_set (i := 3) sc_law.nd rfl (Or.inl rfl) (de_callC c_l_bench hr hg (by decide) rfl (da_cons (de_var (pv 1)) (da_cons (de_int) (da_nil))) (ArgN.cons (ArgN.cons ArgN.nil)) rfl))
    (dss_cons (ds_set (i := 4) sc_law.nd rfl (Or.inl rfl) (de_callC c_l_graph hr hg (by decide) rfl (da_cons (de_var (pv 3)) (da_nil)) (ArgN.cons ArgN.nil) rfl))
    (dss_cons (ds_set (i := 5) sc_law.nd rfl (Or.inl rfl) (de_callB (call_sortedKD hr) rfl T.n_sorted (by decide +kernel) (da_cons (de_var (pv 4)) (da_nil))))
    (dss_one (ds_for (vis := [6]) PassesOwn.never rfl (di_rng1 rfl T.n_range (da_cons (de_int) (da_nil))) (dg_name (i := 6) sc_law.nd rfl (Or.inl rfl)) (dss_cons (ds_par (i := 8) (j := 9) rfl sc_law.nd rfl rfl (by decide) rfl rfl (da_cons (de_callC c_l_some hr hg (by decide) rfl (da_cons (de_var (pv 1)) (da_cons (de_var (pv 5)) (da_nil))) (ArgN.cons (ArgN.cons ArgN.nil)) rfl) (da_cons (de_callC c_l_some hr hg (by decide) rfl (da_cons (de_var (pv 1)) (da_cons (de_var (pv 5)) (da_nil))) (ArgN.cons (ArgN.cons ArgN.nil)) rfl) da_nil)) (by rfl))
    (dss_cons (ds_par (i := 10) (j := 11) rfl sc_law.nd rfl rfl (by decide) rfl rfl (da_cons (de_callC c_l_drawn_contents hr hg (by decide) rfl (da_cons (de_var (pv 1)) (da_cons (de_var (pv 5)) (da_nil))) (ArgN.cons (ArgN.cons ArgN.nil)) rfl) (da_cons (de_non) da_nil)) (by rfl))
    (dss_cons (ds_if (dt_cmp (op_eqA hr.units) (de_callC c_l_take hr hg (by decide) rfl (da_cons (de_var (pv 1)) (da_cons (de_int) (da_nil))) (ArgN.cons (ArgN.cons ArgN.nil)) rfl) (de_int)) (dss_one (ds_set (i := 10) sc_law.nd rfl (Or.inl rfl) (de_sl (de_callTy call_listDD rfl T.n_list (by decide +kernel) (da_cons (de_orT (de_callC c_l_least_way hr hg (by decide) rfl (da_cons (de_var (pv 4)) (da_cons (de_var (pv 8)) (da_cons (de_var (pv 9)) (da_cons (de_lst (da_nil)) (da_nil))))) (ArgN.cons (ArgN.cons (ArgN.cons (ArgN.cons ArgN.nil)))) rfl) (de_one (de_lst (da_nil)))) (da_nil))) (do_yes (de_callC c_l_take hr hg (by decide) rfl (da_cons (de_var (pv 1)) (da_cons (de_int) (da_nil))) (ArgN.cons (ArgN.cons ArgN.nil)) rfl)) (do_no)))) (dss_nil))
    (dss_one (ds_for (vis := [7]) PassesOwn.never rfl (di_rng1 rfl T.n_range (da_cons (de_int) (da_nil))) (dg_name (i := 7) sc_law.nd rfl (Or.inl rfl)) (dss_cons (ds_set (i := 12) sc_law.nd rfl (Or.inl rfl) (de_bin op_addA (de_var (pv 10)) (de_sl (de_var (pv 10)) (do_no) (do_yes (de_callC c_l_take hr hg (by decide) rfl (da_cons (de_var (pv 1)) (da_cons (de_int) (da_nil))) (ArgN.cons (ArgN.cons ArgN.nil)) rfl)))))
    (dss_cons (ds_set (i := 13) sc_law.nd rfl (Or.inl rfl) (de_if (dt_cmp (op_eqA hr.units) (de_callC c_l_take hr hg (by decide) rfl (da_cons (de_var (pv 1)) (da_cons (de_int) (da_nil))) (ArgN.cons (ArgN.cons ArgN.nil)) rfl) (de_int)) (de_callTy call_tupleDD rfl T.n_tuple (by decide +kernel) (da_cons (de_var (pv 12)) (da_nil))) (de_callTy call_listDD rfl T.n_list (by decide +kernel) (da_cons (de_var (pv 12)) (da_nil)))))
    (dss_cons (ds_par (i := 15) (j := 16) rfl sc_law.nd rfl rfl (by decide) rfl rfl (da_cons (de_callC c_l_least_way hr hg (by decide) rfl (da_cons (de_var (pv 4)) (da_cons (de_var (pv 8)) (da_cons (de_var (pv 9)) (da_cons (de_var (pv 10)) (da_nil))))) (ArgN.cons (ArgN.cons (ArgN.cons (ArgN.cons ArgN.nil)))) rfl) (da_cons (de_callB (call_reprDD hr hg) rfl T.n_repr (by decide +kernel) (da_cons (de_var (pv 13)) (da_nil))) da_nil)) (by rfl))
    (dss_cons (ds_set (i := 14) sc_law.nd rfl (Or.inl rfl) (de_lst (da_cons (de_callC c_shortest_way hr hg (by decide) rfl (da_cons (de_var (pv 3)) (da_cons (de_var (pv 8)) (da_cons (de_var (pv 9)) (da_cons (de_var (pv 13)) (da_nil))))) (ArgN.cons (ArgN.cons (ArgN.cons (ArgN.cons ArgN.nil)))) rfl) (da_cons (de_callC c_distance hr hg (by decide) rfl (da_cons (de_var (pv 3)) (da_cons (de_var (pv 8)) (da_cons (de_var (pv 9)) (da_cons (de_var (pv 13)) (da_nil))))) (ArgN.cons (ArgN.cons (ArgN.cons (ArgN.cons ArgN.nil)))) rfl) (da_nil)))))
    (dss_cons (ds_if (PW.pt (dw_or (dt_not (dt_tru (de_callC c_l_alike hr hg (by decide) rfl (da_cons (de_var (pv 14)) (da_cons (de_lst (da_cons (de_var (pv 15)) (da_cons (de_if (dt_cmp op_isND (de_var (pv 15)) (de_non)) (de_non) (de_bin op_subD (de_callB call_lenDD rfl T.n_len (by decide +kernel) (da_cons (de_var (pv 15)) (da_nil))) (de_int))) (da_nil)))) (da_nil))) (ArgN.cons (ArgN.cons ArgN.nil)) rfl))) (dw_or1 (dt_cmp (op_neA hr.units) (de_callB (call_reprDD hr hg) rfl T.n_repr (by decide +kernel) (da_cons (de_var (pv 13)) (da_nil))) (de_var (pv 16)))))) (dss_one (ds_ret (de_bl))) (dss_nil))
    (dss_cons (ds_if (PW.pt (dw_and (dt_cmp op_notND (de_var (pv 11)) (de_non)) (dw_and1 (PW.pt (dw_or (dt_cmp op_isND (de_var (pv 15)) (de_non)) (dw_or1 (dt_cmp op_gtD (de_callB call_lenDD rfl T.n_len (by decide +kernel) (da_cons (de_var (pv 15)) (da_nil))) (de_var (pv 11))))))))) (dss_one (ds_ret (de_bl))) (dss_nil))
    (dss_cons (ds_if (dt_cmp op_notND (de_var (pv 15)) (de_non)) (dss_cons (ds_par (i := 11) (j := 17) rfl sc_law.nd rfl rfl (by decide) rfl rfl (da_cons (de_callB call_lenDD rfl T.n_len (by decide +kernel) (da_cons (de_var (pv 15)) (da_nil))) (da_cons (de_callC c_l_take hr hg (by decide) rfl (da_cons (de_var (pv 1)) (da_cons (de_callB call_lenDD rfl T.n_len (by decide +kernel) (da_cons (de_var (pv 15)) (da_nil))) (da_nil))) (ArgN.cons (ArgN.cons ArgN.nil)) rfl) da_nil)) (by rfl))
    (dss_one (ds_if (dt_not (dt_tru (de_callC c_l_alike hr hg (by decide) rfl (da_cons (de_callC c_shortest_way hr hg (by decide) rfl (da_cons (de_var (pv 3)) (da_cons (de_ix (de_var (pv 15)) (de_var (pv 17))) (da_cons (de_var (pv 9)) (da_cons (de_var (pv 13)) (da_nil))))) (ArgN.cons (ArgN.cons (ArgN.cons (ArgN.cons ArgN.nil)))) rfl) (da_cons (de_sl (de_var (pv 15)) (do_yes (de_var (pv 17))) (do_no)) (da_nil))) (ArgN.cons (ArgN.cons ArgN.nil)) rfl))) (dss_one (ds_ret (de_bl))) (dss_nil)))) (dss_nil))
    (dss_one (ds_set (i := 10) sc_law.nd rfl (Or.inl rfl) (de_sl (de_var (pv 10)) (do_yes (de_int)) (do_no))))))))))))))))))))))
    (dss_one (ds_ret (de_bl))))

/-! ### the top -/
theorem all_mk {l : PySem.W.OpenLaw} {w : World} {K : PySem.W.Frag} {h : Heap} {mg : Str → Option Value} {fa : Addr} (X : K.In h) (G : h.Ns mainGlobals mg) (hfa : mg "law" = some (.ref fa))
    {g_steps_from g_steps_to g_l_bag g_l_take g_l_alike g_l_steps g_l_least_way g_l_flat g_steps_left g_l_some g_l_mixed g_l_contents g_shortest_way g_distance g_l_place g_l_graph g_l_drawn_contents g_l_bench g_law : Addr} {od0 an0 od1 an1 od2 an2 od3 an3 od4 an4 od5 an5 od6 an6 od7 an7 od8 an8 od9 an9 od10 an10 od11 an11 od12 an12 od13 an13 od14 an14 od15 an15 od16 an16 od17 an17 od18 an18 : Option Addr} {sl0 sl1 sl2 sl3 sl4 sl5 sl6 sl7 sl8 sl9 sl10 sl11 sl12 sl13 sl14 sl15 sl16 sl17 sl18 : Array (Option Value)} {oc0 kV0 dc0 pm0 cd0 ct0 oc1 kV1 dc1 pm1 cd1 ct1 oc2 kV2 dc2 pm2 cd2 ct2 oc3 kV3 dc3 pm3 cd3 ct3 oc4 kV4 dc4 pm4 cd4 ct4 oc5 kV5 dc5 pm5 cd5 ct5 oc6 kV6 dc6 pm6 cd6 ct6 oc7 kV7 dc7 pm7 cd7 ct7 oc8 kV8 dc8 pm8 cd8 ct8 oc9 kV9 dc9 pm9 cd9 ct9 oc10 kV10 dc10 pm10 cd10 ct10 oc11 kV11 dc11 pm11 cd11 ct11 oc12 kV12 dc12 pm12 cd12 ct12 oc13 kV13 dc13 pm13 cd13 ct13 oc14 kV14 dc14 pm14 cd14 ct14 oc15 kV15 dc15 pm15 cd15 ct15 oc16 kV16 dc16 pm16 cd16 ct16 oc17 kV17 dc17 pm17 cd17 ct17 oc18 kV18 dc18 pm18 cd18 ct18 : Value}
    (a_steps_from : PySem.W.nsIn K mainGlobals "steps_from" = some (some (.ref g_steps_from))) (l_steps_from : K.lookup g_steps_from = some ⟨oc0, od0, .func (PySem.W.fnOf "steps_from" "steps_from" (defArgs s_steps_from) (defBody s_steps_from) (defScope s_steps_from) .none kV0 dc0 pm0 an0 cd0 ct0), sl0⟩) (k_steps_from : PySem.W.codeIn K cd0 "steps_from" = true) (p_steps_from : PySem.W.keepIn K (.ref g_steps_from) = true)
    (a_steps_to : PySem.W.nsIn K mainGlobals "steps_to" = some (some (.ref g_steps_to))) (l_steps_to : K.lookup g_steps_to = some ⟨oc1, od1, .func (PySem.W.fnOf "steps_to" "steps_to" (defArgs s_steps_to) (defBody s_steps_to) (defScope s_steps_to) .none kV1 dc1 pm1 an1 cd1 ct1), sl1⟩) (k_steps_to : PySem.W.codeIn K cd1 "steps_to" = true) (p_steps_to : PySem.W.keepIn K (.ref g_steps_to) = true)
    (a_l_bag : PySem.W.nsIn K mainGlobals "_law_bag" = some (some (.ref g_l_bag))) (l_l_bag : K.lookup g_l_bag = some ⟨oc2, od2, .func (PySem.W.fnOf "_law_bag" "_law_bag" (defArgs s_l_bag) (defBody s_l_bag) (defScope s_l_bag) .none kV2 dc2 pm2 an2 cd2 ct2), sl2⟩) (k_l_bag : PySem.W.codeIn K cd2 "_law_bag" = true) (p_l_bag : PySem.W.keepIn K (.ref g_l_bag) = true)
    (a_l_take : PySem.W.nsIn K mainGlobals "_law_take" = some (some (.ref g_l_take))) (l_l_take : K.lookup g_l_take = some ⟨oc3, od3, .func (PySem.W.fnOf "_law_take" "_law_take" (defArgs s_l_take) (defBody s_l_take) (defScope s_l_take) .none kV3 dc3 pm3 an3 cd3 ct3), sl3⟩) (k_l_take : PySem.W.codeIn K cd3 "_law_take" = true) (p_l_take : PySem.W.keepIn K (.ref g_l_take) = true)
    (a_l_alike : PySem.W.nsIn K mainGlobals "_law_alike" = some (some (.ref g_l_alike))) (l_l_alike : K.lookup g_l_alike = some ⟨oc4, od4, .func (PySem.W.fnOf "_law_alike" "_law_alike" (defArgs s_l_alike) (defBody s_l_alike) (defScope s_l_alike) .none kV4 dc4 pm4 an4 cd4 ct4), sl4⟩) (k_l_alike : PySem.W.codeIn K cd4 "_law_alike" = true) (p_l_alike : PySem.W.keepIn K (.ref g_l_alike) = true)
    (a_l_steps : PySem.W.nsIn K mainGlobals "_law_steps" = some (some (.ref g_l_steps))) (l_l_steps : K.lookup g_l_steps = some ⟨oc5, od5, .func (PySem.W.fnOf "_law_steps" "_law_steps" (defArgs s_l_steps) (defBody s_l_steps) (defScope s_l_steps) .none kV5 dc5 pm5 an5 cd5 ct5), sl5⟩) (k_l_steps : PySem.W.codeIn K cd5 "_law_steps" = true) (p_l_steps : PySem.W.keepIn K (.ref g_l_steps) = true)
    (a_l_least_way : PySem.W.nsIn K mainGlobals "_law_least_way" = some (some (.ref g_l_least_way))) (l_l_least_way : K.lookup g_l_least_way = some ⟨oc6, od6, .func (PySem.W.fnOf "_law_least_way" "_law_least_way" (defArgs s_l_least_way) (defBody s_l_least_way) (defScope s_l_least_way) .none kV6 dc6 pm6 an6 cd6 ct6), sl6⟩) (k_l_least_way : PySem.W.codeIn K cd6 "_law_least_way" = true) (p_l_least_way : PySem.W.keepIn K (.ref g_l_least_way) = true)
    (a_l_flat : PySem.W.nsIn K mainGlobals "_law_flat" = some (some (.ref g_l_flat))) (l_l_flat : K.lookup g_l_flat = some ⟨oc7, od7, .func (PySem.W.fnOf "_law_flat" "_law_flat" (defArgs s_l_flat) (defBody s_l_flat) (defScope s_l_flat) .none kV7 dc7 pm7 an7 cd7 ct7), sl7⟩) (k_l_flat : PySem.W.codeIn K cd7 "_law_flat" = true) (p_l_flat : PySem.W.keepIn K (.ref g_l_flat) = true)
    (a_steps_left : PySem.W.nsIn K mainGlobals "steps_left" = some (some (.ref g_steps_left))) (l_steps_left : K.lookup g_steps_left = some ⟨oc8, od8, .func (PySem.W.fnOf "steps_left" "steps_left" (defArgs s_steps_left) (defBody s_steps_left) (defScope s_steps_left) .none kV8 dc8 pm8 an8 cd8 ct8), sl8⟩) (k_steps_left : PySem.W.codeIn K cd8 "steps_left" = true) (p_steps_left : PySem.W.keepIn K (.ref g_steps_left) = true)
    (a_l_some : PySem.W.nsIn K mainGlobals "_law_some" = some (some (.ref g_l_some))) (l_l_some : K.lookup g_l_some = some ⟨oc9, od9, .func (PySem.W.fnOf "_law_some" "_law_some" (defArgs s_l_some) (defBody s_l_some) (defScope s_l_some) .none kV9 dc9 pm9 an9 cd9 ct9), sl9⟩) (k_l_some : PySem.W.codeIn K cd9 "_law_some" = true) (p_l_some : PySem.W.keepIn K (.ref g_l_some) = true)
    (a_l_mixed : PySem.W.nsIn K mainGlobals "_law_mixed" = some (some (.ref g_l_mixed))) (l_l_mixed : K.lookup g_l_mixed = some ⟨oc10, od10, .func (PySem.W.fnOf "_law_mixed" "_law_mixed" (defArgs s_l_mixed) (defBody s_l_mixed) (defScope s_l_mixed) .none kV10 dc10 pm10 an10 cd10 ct10), sl10⟩) (k_l_mixed : PySem.W.codeIn K cd10 "_law_mixed" = true) (p_l_mixed : PySem.W.keepIn K (.ref g_l_mixed) = true)
    (a_l_contents : PySem.W.nsIn K mainGlobals "_law_contents" = some (some (.ref g_l_contents))) (l_l_contents : K.lookup g_l_contents = some ⟨oc11, od11, .func (PySem.W.fnOf "_law_contents" "_law_contents" (defArgs s_l_contents) (defBody s_l_contents) (defScope s_l_contents) .none kV11 dc11 pm11 an11 cd11 ct11), sl11⟩) (k_l_contents : PySem.W.codeIn K cd11 "_law_contents" = true) (p_l_contents : PySem.W.keepIn K (.ref g_l_contents) = true)
    (a_shortest_way : PySem.W.nsIn K mainGlobals "shortest_way" = some (some (.ref g_shortest_way))) (l_shortest_way : K.lookup g_shortest_way = some ⟨oc12, od12, .func (PySem.W.fnOf "shortest_way" "shortest_way" (defArgs s_shortest_way) (defBody s_shortest_way) (defScope s_shortest_way) .none kV12 dc12 pm12 an12 cd12 ct12), sl12⟩) (k_shortest_way : PySem.W.codeIn K cd12 "shortest_way" = true) (p_shortest_way : PySem.W.keepIn K (.ref g_shortest_way) = true)
    (a_distance : PySem.W.nsIn K mainGlobals "distance" = some (some (.ref g_distance))) (l_distance : K.lookup g_distance = some ⟨oc13, od13, .func (PySem.W.fnOf "distance" "distance" (defArgs s_distance) (defBody s_distance) (defScope s_distance) .none kV13 dc13 pm13 an13 cd13 ct13), sl13⟩) (k_distance : PySem.W.codeIn K cd13 "distance" = true) (p_distance : PySem.W.keepIn K (.ref g_distance) = true)
    (a_l_place : PySem.W.nsIn K mainGlobals "_law_place" = some (some (.ref g_l_place))) (l_l_place : K.lookup g_l_place = some ⟨oc14, od14, .func (PySem.W.fnOf "_law_place" "_law_place" (defArgs s_l_place) (defBody s_l_place) (defScope s_l_place) .none kV14 dc14 pm14 an14 cd14 ct14), sl14⟩) (k_l_place : PySem.W.codeIn K cd14 "_law_place" = true) (p_l_place : PySem.W.keepIn K (.ref g_l_place) = true)
    (a_l_graph : PySem.W.nsIn K mainGlobals "_law_graph" = some (some (.ref g_l_graph))) (l_l_graph : K.lookup g_l_graph = some ⟨oc15, od15, .func (PySem.W.fnOf "_law_graph" "_law_graph" (defArgs s_l_graph) (defBody s_l_graph) (defScope s_l_graph) .none kV15 dc15 pm15 an15 cd15 ct15), sl15⟩) (k_l_graph : PySem.W.codeIn K cd15 "_law_graph" = true) (p_l_graph : PySem.W.keepIn K (.ref g_l_graph) = true)
    (a_l_drawn_contents : PySem.W.nsIn K mainGlobals "_law_drawn_contents" = some (some (.ref g_l_drawn_contents))) (l_l_drawn_contents : K.lookup g_l_drawn_contents = some ⟨oc16, od16, .func (PySem.W.fnOf "_law_drawn_contents" "_law_drawn_contents" (defArgs s_l_drawn_contents) (defBody s_l_drawn_contents) (defScope s_l_drawn_contents) .none kV16 dc16 pm16 an16 cd16 ct16), sl16⟩) (k_l_drawn_contents : PySem.W.codeIn K cd16 "_law_drawn_contents" = true) (p_l_drawn_contents : PySem.W.keepIn K (.ref g_l_drawn_contents) = true)
    (a_l_bench : PySem.W.nsIn K mainGlobals "_law_bench" = some (some (.ref g_l_bench))) (l_l_bench : K.lookup g_l_bench = some ⟨oc17, od17, .func (PySem.W.fnOf "_law_bench" "_law_bench" (defArgs s_l_bench) (defBody s_l_bench) (defScope s_l_bench) .none kV17 dc17 pm17 an17 cd17 ct17), sl17⟩) (k_l_bench : PySem.W.codeIn K cd17 "_law_bench" = true) (p_l_bench : PySem.W.keepIn K (.ref g_l_bench) = true)
    (a_law : PySem.W.nsIn K mainGlobals "law" = some (some (.ref g_law))) (l_law : K.lookup g_law = some ⟨oc18, od18, .func (PySem.W.fnOf "law" "law" (defArgs s_law) (defBody s_law) (defScope s_law) .none kV18 dc18 pm18 an18 cd18 ct18), sl18⟩) (k_law : PySem.W.codeIn K cd18 "law" = true) (p_law : PySem.W.keepIn K (.ref g_law) = true)
    (z_abs : PySem.W.nsIn K mainGlobals "abs" = some none)
    (z_dict : PySem.W.nsIn K mainGlobals "dict" = some none)
    (z_enumerate : PySem.W.nsIn K mainGlobals "enumerate" = some none)
    (z_int : PySem.W.nsIn K mainGlobals "int" = some none)
    (z_len : PySem.W.nsIn K mainGlobals "len" = some none)
    (z_list : PySem.W.nsIn K mainGlobals "list" = some none)
    (z_min : PySem.W.nsIn K mainGlobals "min" = some none)
    (z_range : PySem.W.nsIn K mainGlobals "range" = some none)
    (z_repr : PySem.W.nsIn K mainGlobals "repr" = some none)
    (z_sorted : PySem.W.nsIn K mainGlobals "sorted" = some none)
    (z_tuple : PySem.W.nsIn K mainGlobals "tuple" = some none)
    : ∃ fd : FuncData, (∀ (s : Shared) (v : Value), BindsTo s fd ⟨[v], []⟩ [("_law_script", v)]) ∧ ∀ base : Heap, K.In base → base.Ns mainGlobals mg → FnG l.prog w K mg base 5 fa fd ["_law_script"] (spD K 1 f_law) := by
  have e := hfa.symm.trans (PySem.W.mg_of X G a_law)
  cases e
  have T : Txt mg := ⟨PySem.W.mg_none_of X G z_abs, PySem.W.mg_none_of X G z_dict, PySem.W.mg_none_of X G z_enumerate, PySem.W.mg_none_of X G z_int, PySem.W.mg_none_of X G z_len, PySem.W.mg_none_of X G z_list, PySem.W.mg_none_of X G z_min, PySem.W.mg_none_of X G z_range, PySem.W.mg_none_of X G z_repr, PySem.W.mg_none_of X G z_sorted, PySem.W.mg_none_of X G z_tuple⟩
  refine ⟨PySem.W.fnOf "law" "law" (defArgs s_law) (defBody s_law) (defScope s_law) .none kV18 dc18 pm18 an18 cd18 ct18, fun s v => .of_eq rfl, fun base _ _ => ?_⟩
  have c_steps_from : Cal l.prog w K mg base "steps_from" 1 ["bench", "content"] f_steps_from := cal_mk (fun_mk (st := s_steps_from) l_steps_from k_steps_from p_steps_from) (PySem.W.mg_of X G a_steps_from) (fun _ _ _ _ _ _ us hl => match us, hl with | [_, _], _ => rfl) (ok_steps_from (fun_mk (st := s_steps_from) l_steps_from k_steps_from p_steps_from) T )
  have c_steps_to : Cal l.prog w K mg base "steps_to" 1 ["bench", "content"] f_steps_to := cal_mk (fun_mk (st := s_steps_to) l_steps_to k_steps_to p_steps_to) (PySem.W.mg_of X G a_steps_to) (fun _ _ _ _ _ _ us hl => match us, hl with | [_, _], _ => rfl) (ok_steps_to (fun_mk (st := s_steps_to) l_steps_to k_steps_to p_steps_to) T )
  have c_l_bag : Cal l.prog w K mg base "_law_bag" 1 ["_law_script"] f_l_bag := cal_mk (fun_mk (st := s_l_bag) l_l_bag k_l_bag p_l_bag) (PySem.W.mg_of X G a_l_bag) (fun _ _ _ _ _ _ us hl => match us, hl with | [_], _ => rfl) (ok_l_bag (fun_mk (st := s_l_bag) l_l_bag k_l_bag p_l_bag) T )
  have c_l_take : Cal l.prog w K mg base "_law_take" 1 ["_law_bag_here", "_law_upto"] f_l_take := cal_mk (fun_mk (st := s_l_take) l_l_take k_l_take p_l_take) (PySem.W.mg_of X G a_l_take) (fun _ _ _ _ _ _ us hl => match us, hl with | [_, _], _ => rfl) (ok_l_take (fun_mk (st := s_l_take) l_l_take k_l_take p_l_take) T )
  have c_l_alike : Cal l.prog w K mg base "_law_alike" 1 ["_law_found", "_law_due"] f_l_alike := cal_mk (fun_mk (st := s_l_alike) l_l_alike k_l_alike p_l_alike) (PySem.W.mg_of X G a_l_alike) (fun _ _ _ _ _ _ us hl => match us, hl with | [_, _], _ => rfl) (ok_l_alike (fun_mk (st := s_l_alike) l_l_alike k_l_alike p_l_alike) T )
  have c_l_steps : Cal l.prog w K mg base "_law_steps" 1 ["_law_bench_here", "_law_content"] f_l_steps := cal_mk (fun_mk (st := s_l_steps) l_l_steps k_l_steps p_l_steps) (PySem.W.mg_of X G a_l_steps) (fun _ _ _ _ _ _ us hl => match us, hl with | [_, _], _ => rfl) (ok_l_steps (fun_mk (st := s_l_steps) l_l_steps k_l_steps p_l_steps) T )
  have c_l_least_way : Cal l.prog w K mg base "_law_least_way" 1 ["_law_graph_here", "_law_one", "_law_other", "_law_barred"] f_l_least_way := cal_mk (fun_mk (st := s_l_least_way) l_l_least_way k_l_least_way p_l_least_way) (PySem.W.mg_of X G a_l_least_way) (fun _ _ _ _ _ _ us hl => match us, hl with | [_, _, _, _], _ => rfl) (ok_l_least_way (fun_mk (st := s_l_least_way) l_l_least_way k_l_least_way p_l_least_way) T )
  have c_l_flat : Cal l.prog w K mg base "_law_flat" 1 ["_law_rows"] f_l_flat := cal_mk (fun_mk (st := s_l_flat) l_l_flat k_l_flat p_l_flat) (PySem.W.mg_of X G a_l_flat) (fun _ _ _ _ _ _ us hl => match us, hl with | [_], _ => rfl) (ok_l_flat (fun_mk (st := s_l_flat) l_l_flat k_l_flat p_l_flat) T )
  have c_steps_left : Cal l.prog w K mg base "steps_left" 2 ["bench", "other", "barred"] f_steps_left := cal_mk (fun_mk (st := s_steps_left) l_steps_left k_steps_left p_steps_left) (PySem.W.mg_of X G a_steps_left) (fun _ _ _ _ _ _ us hl => match us, hl with | [_, _, _], _ => rfl) (ok_steps_left (fun_mk (st := s_steps_left) l_steps_left k_steps_left p_steps_left) T c_steps_to)
  have c_l_some : Cal l.prog w K mg base "_law_some" 2 ["_law_bag_here", "_law_things"] f_l_some := cal_mk (fun_mk (st := s_l_some) l_l_some k_l_some p_l_some) (PySem.W.mg_of X G a_l_some) (fun _ _ _ _ _ _ us hl => match us, hl with | [_, _], _ => rfl) (ok_l_some (fun_mk (st := s_l_some) l_l_some k_l_some p_l_some) T c_l_take)
  have c_l_mixed : Cal l.prog w K mg base "_law_mixed" 2 ["_law_bag_here", "_law_things"] f_l_mixed := cal_mk (fun_mk (st := s_l_mixed) l_l_mixed k_l_mixed p_l_mixed) (PySem.W.mg_of X G a_l_mixed) (fun _ _ _ _ _ _ us hl => match us, hl with | [_, _], _ => rfl) (ok_l_mixed (fun_mk (st := s_l_mixed) l_l_mixed k_l_mixed p_l_mixed) T c_l_take)
  have c_l_contents : Cal l.prog w K mg base "_law_contents" 2 ["_law_bench_here"] f_l_contents := cal_mk (fun_mk (st := s_l_contents) l_l_contents k_l_contents p_l_contents) (PySem.W.mg_of X G a_l_contents) (fun _ _ _ _ _ _ us hl => match us, hl with | [_], _ => rfl) (ok_l_contents (fun_mk (st := s_l_contents) l_l_contents k_l_contents p_l_contents) T c_l_flat)
  have c_shortest_way : Cal l.prog w K mg base "shortest_way" 3 ["bench", "one", "other", "barred"] f_shortest_way := cal_mk (fun_mk (st := s_shortest_way) l_shortest_way k_shortest_way p_shortest_way) (PySem.W.mg_of X G a_shortest_way) (fun _ _ _ _ _ _ us hl => match us, hl with | [_, _, _, _], _ => rfl) (ok_shortest_way (fun_mk (st := s_shortest_way) l_shortest_way k_shortest_way p_shortest_way) T c_steps_left c_steps_from)
  have c_distance : Cal l.prog w K mg base "distance" 3 ["bench", "one", "other", "barred"] f_distance := cal_mk (fun_mk (st := s_distance) l_distance k_distance p_distance) (PySem.W.mg_of X G a_distance) (fun _ _ _ _ _ _ us hl => match us, hl with | [_, _, _, _], _ => rfl) (ok_distance (fun_mk (st := s_distance) l_distance k_distance p_distance) T c_steps_left)
  have c_l_place : Cal l.prog w K mg base "_law_place" 3 ["_law_bag_here", "_law_most"] f_l_place := cal_mk (fun_mk (st := s_l_place) l_l_place k_l_place p_l_place) (PySem.W.mg_of X G a_l_place) (fun _ _ _ _ _ _ us hl => match us, hl with | [_, _], _ => rfl) (ok_l_place (fun_mk (st := s_l_place) l_l_place k_l_place p_l_place) T c_l_take c_l_some c_l_flat c_l_mixed)
  have c_l_graph : Cal l.prog w K mg base "_law_graph" 3 ["_law_bench_here"] f_l_graph := cal_mk (fun_mk (st := s_l_graph) l_l_graph k_l_graph p_l_graph) (PySem.W.mg_of X G a_l_graph) (fun _ _ _ _ _ _ us hl => match us, hl with | [_], _ => rfl) (ok_l_graph (fun_mk (st := s_l_graph) l_l_graph k_l_graph p_l_graph) T c_l_contents c_l_steps)
  have c_l_drawn_contents : Cal l.prog w K mg base "_law_drawn_contents" 3 ["_law_bag_here", "_law_contents_here"] f_l_drawn_contents := cal_mk (fun_mk (st := s_l_drawn_contents) l_l_drawn_contents k_l_drawn_contents p_l_drawn_contents) (PySem.W.mg_of X G a_l_drawn_contents) (fun _ _ _ _ _ _ us hl => match us, hl with | [_, _], _ => rfl) (ok_l_drawn_contents (fun_mk (st := s_l_drawn_contents) l_l_drawn_contents k_l_drawn_contents p_l_drawn_contents) T c_l_take c_l_mixed)
  have c_l_bench : Cal l.prog w K mg base "_law_bench" 4 ["_law_bag_here", "_law_most"] f_l_bench := cal_mk (fun_mk (st := s_l_bench) l_l_bench k_l_bench p_l_bench) (PySem.W.mg_of X G a_l_bench) (fun _ _ _ _ _ _ us hl => match us, hl with | [_, _], _ => rfl) (ok_l_bench (fun_mk (st := s_l_bench) l_l_bench k_l_bench p_l_bench) T c_l_some c_l_place)
  exact ok_law (fun_mk (st := s_law) l_law k_law p_law) T c_l_bag c_l_bench c_l_graph c_l_some c_l_drawn_contents c_l_take c_l_least_way c_distance c_shortest_way c_l_alike
end K17
end
noncomputable section
namespace K17
open PySem PySem.Spec PyProof.Rows L2 DL
theorem e_take : f_l_take = fTake := rfl
theorem e_some : f_l_some = fSome := rfl
theorem e_flat : f_l_flat = fFlat := rfl
theorem e_mixed : f_l_mixed = fMixed := rfl
theorem e_bag : f_l_bag = fBag := rfl
theorem e_alike : f_l_alike = fAlike := rfl
/-! ### calls that give an object -/
theorem obD_lst (ds : List PyData) : obD (.lst (ds.map W.d)) = true := by simp [obD, allD_map]
theorem callF_new {f : FS} {ws : List W} {S : Sto} {ob : Ob} (h0 : firstLoc ws = none) (h : f ws [] = some (.loc 0, [ob])) (h1 : obD ob = true) : callF f ws S = some (.loc S.length, S ++ [ob]) := by simp [callF, h0, h, h1]
theorem runF_new {N : Nat} {b : MS} {ws : List W} {ob : Ob} {j : Nat} {S' : Sto} (h : ∃ ρ', b (ws.map some ++ List.replicate (N - ws.length) none) [] = some (.rt (.loc j), ρ', S')) (hj : S'[j]? = some ob) (h1 : obD ob = true) : runF N b ws [] = some (.loc 0, [ob]) := by
  obtain ⟨ρ', h⟩ := h
  simp [runF, h, leave, hj, h1]
theorem rng_e (n : Nat) : rngD 0 n = ((List.range n).map fun v : Nat => PyData.int v).map W.d := by
  unfold rngD
  rw [List.map_map]
  refine List.map_congr_left fun v _ => ?_
  simp
theorem sz_of {n : Nat} (h : n ≤ 1000000) : n ≤ sizeLine := Nat.le_trans h (by decide)
theorem add_tI {x : List Int} {v : Int} {S : Sto} (h : x.length ≤ 1000) : addA (.d (tI x)) (.d (.tuple [.int v])) S = some (.d (tI (x ++ [v])), S) := by
  have := ev_addT (S := S) (x := x.map PyData.int) (y := [.int v]) (by simp; exact sz_of (by omega))
  simpa [tI] using this
theorem add_tI2 {x y : List Int} {S : Sto} (h : x.length + y.length ≤ 1000) : addA (.d (tI x)) (.d (tI y)) S = some (.d (tI (x ++ y)), S) := by
  have := ev_addT (S := S) (x := x.map PyData.int) (y := y.map PyData.int) (by simp; exact sz_of (by omega))
  simpa [tI] using this
theorem row_e (acc : List (List Int)) (n : Nat) : (acc.map fun c => (List.range n).map fun v : Nat => tI (c ++ [(v : Int)])).flatten = (ext1 acc n).map tI := by
  unfold ext1
  rw [List.map_flatten, List.map_map]
  congr 1
  refine List.map_congr_left fun c _ => ?_
  simp
theorem contents_len {b : List Pl} {c : List Int} (h : c ∈ conts b) : c.length = b.length := fits_len ((mem_conts _ rfl).mp h)
theorem take_snoc {α : Type} {b : List α} {i : Nat} {p : α} (h : b[i]? = some p) : b.take (i + 1) = b.take i ++ [p] := by rw [List.take_succ, h]; rfl
theorem cont2_step {acc : List (List Int)} {p : Pl} {S : Sto} {b x y : Option W} (h1 : ∀ c ∈ acc, c.length ≤ 1000) (hn : p.1 ≤ 100) (ha : acc.length ≤ 1000000) (hl : acc.length * p.1 ≤ 1000000) :
    L_l_contents_1 [b, some (.d (.list (acc.map tI))), some (.d (pl p)), x, y] S = some (.nx, [b, some (.d (.list ((ext1 acc p.1).map tI))), some (.d (pl p)), x, y], S) := by
  have hr := fun S => rng1_ok (n := p.1) (S := S) (by omega)
  have := lc_e (it := iSeq (mVar 1)) (g := gSet 3) (T := tTrue) (E := mLc (iRng1D (mCons (mBin idxD (mVar 2) (mC (.int 0))) (mNil))) (gSet 4) (tTrue) (mBin addA (mVar 3) (mCall tupF (mCons (mVar 4) (mNil)))) [4] kFrz) (vs := [3]) (ρ := [b, some (.d (.list (acc.map tI))), some (.d (pl p)), x, y]) (S := S) tI (fun _ => true)
    (fun c => .list ((List.range p.1).map fun v : Nat => tI (c ++ [(v : Int)]))) (l := acc) (by simp [DL.sSeq, DL.sNil, DL.sPass, DL.sBreak, DL.sCont, DL.sExpr, DL.sRet, DL.sRetN, DL.sIf, DL.sAsg, DL.sPar, DL.sAug, DL.sAugS, DL.gSet, DL.gTupD, DL.gsNil, DL.gsCons, DL.gSubD, DL.sFor, DL.iRng1D_eq, DL.mVar, DL.mC, DL.mNil, DL.mCons, DL.mCall, DL.mBin, DL.mNeg, DL.mMt, DL.mSl, DL.oNo, DL.oYes, DL.tOf, DL.tNotD, DL.tAndD, DL.tOrD, DL.tTru, DL.truD, DL.tTrue, DL.vAnd, DL.vOr, DL.vNot, DL.vIf, DL.vChain, DL.tupF, DL.lstF, DL.allD, DL.ev_add, DL.ev_sub, DL.ev_iadd, DL.ev_isub, DL.ev_lt, DL.ev_gt, DL.ev_le, DL.ev_ge, DL.ev_eq, DL.ev_ne, DL.ev_min, DL.ev_max, DL.ev_int, DL.ev_abs, DL.sz1, DL.sz2, DL.sz3, DL.sz4, DL.sz5, DL.sz6, DL.sz7, DL.sz8, DL.szp, iSeq]) (fun c hc => by
      refine ⟨[b, some (.d (.list (acc.map tI))), some (.d (pl p)), some (.d (tI c)), y], by simp [DL.sSeq, DL.sNil, DL.sPass, DL.sBreak, DL.sCont, DL.sExpr, DL.sRet, DL.sRetN, DL.sIf, DL.sAsg, DL.sPar, DL.sAug, DL.sAugS, DL.gSet, DL.gTupD, DL.gsNil, DL.gsCons, DL.gSubD, DL.sFor, DL.iRng1D_eq, DL.mVar, DL.mC, DL.mNil, DL.mCons, DL.mCall, DL.mBin, DL.mNeg, DL.mMt, DL.mSl, DL.oNo, DL.oYes, DL.tOf, DL.tNotD, DL.tAndD, DL.tOrD, DL.tTru, DL.truD, DL.tTrue, DL.vAnd, DL.vOr, DL.vNot, DL.vIf, DL.vChain, DL.tupF, DL.lstF, DL.allD, DL.ev_add, DL.ev_sub, DL.ev_iadd, DL.ev_isub, DL.ev_lt, DL.ev_gt, DL.ev_le, DL.ev_ge, DL.ev_eq, DL.ev_ne, DL.ev_min, DL.ev_max, DL.ev_int, DL.ev_abs, DL.sz1, DL.sz2, DL.sz3, DL.sz4, DL.sz5, DL.sz6, DL.sz7, DL.sz8, DL.szp, wipeD], rfl, fun _ => ?_⟩
      have := lc_e (it := iRng1D (mCons (mBin idxD (mVar 2) (mC (.int 0))) (mNil))) (g := gSet 4) (T := tTrue) (E := mBin addA (mVar 3) (mCall tupF (mCons (mVar 4) (mNil)))) (vs := [4]) (ρ := [b, some (.d (.list (acc.map tI))), some (.d (pl p)), some (.d (tI c)), y]) (S := S) (fun v : Nat => PyData.int v) (fun _ => true) (fun v : Nat => tI (c ++ [(v : Int)])) (l := List.range p.1) (by
        rw [← rng_e]
        simp [DL.sSeq, DL.sNil, DL.sPass, DL.sBreak, DL.sCont, DL.sExpr, DL.sRet, DL.sRetN, DL.sIf, DL.sAsg, DL.sPar, DL.sAug, DL.sAugS, DL.gSet, DL.gTupD, DL.gsNil, DL.gsCons, DL.gSubD, DL.sFor, DL.iRng1D_eq, DL.mVar, DL.mC, DL.mNil, DL.mCons, DL.mCall, DL.mBin, DL.mNeg, DL.mMt, DL.mSl, DL.oNo, DL.oYes, DL.tOf, DL.tNotD, DL.tAndD, DL.tOrD, DL.tTru, DL.truD, DL.tTrue, DL.vAnd, DL.vOr, DL.vNot, DL.vIf, DL.vChain, DL.tupF, DL.lstF, DL.allD, DL.ev_add, DL.ev_sub, DL.ev_iadd, DL.ev_isub, DL.ev_lt, DL.ev_gt, DL.ev_le, DL.ev_ge, DL.ev_eq, DL.ev_ne, DL.ev_min, DL.ev_max, DL.ev_int, DL.ev_abs, DL.sz1, DL.sz2, DL.sz3, DL.sz4, DL.sz5, DL.sz6, DL.sz7, DL.sz8, DL.szp, pl, idxD, atI, ixN, hr]) (fun v _ => by
        refine ⟨[b, some (.d (.list (acc.map tI))), some (.d (pl p)), some (.d (tI c)), some (.d (.int v))], by simp [DL.sSeq, DL.sNil, DL.sPass, DL.sBreak, DL.sCont, DL.sExpr, DL.sRet, DL.sRetN, DL.sIf, DL.sAsg, DL.sPar, DL.sAug, DL.sAugS, DL.gSet, DL.gTupD, DL.gsNil, DL.gsCons, DL.gSubD, DL.sFor, DL.iRng1D_eq, DL.mVar, DL.mC, DL.mNil, DL.mCons, DL.mCall, DL.mBin, DL.mNeg, DL.mMt, DL.mSl, DL.oNo, DL.oYes, DL.tOf, DL.tNotD, DL.tAndD, DL.tOrD, DL.tTru, DL.truD, DL.tTrue, DL.vAnd, DL.vOr, DL.vNot, DL.vIf, DL.vChain, DL.tupF, DL.lstF, DL.allD, DL.ev_add, DL.ev_sub, DL.ev_iadd, DL.ev_isub, DL.ev_lt, DL.ev_gt, DL.ev_le, DL.ev_ge, DL.ev_eq, DL.ev_ne, DL.ev_min, DL.ev_max, DL.ev_int, DL.ev_abs, DL.sz1, DL.sz2, DL.sz3, DL.sz4, DL.sz5, DL.sz6, DL.sz7, DL.sz8, DL.szp, wipeD], rfl, fun _ => ?_⟩
        simp [DL.sSeq, DL.sNil, DL.sPass, DL.sBreak, DL.sCont, DL.sExpr, DL.sRet, DL.sRetN, DL.sIf, DL.sAsg, DL.sPar, DL.sAug, DL.sAugS, DL.gSet, DL.gTupD, DL.gsNil, DL.gsCons, DL.gSubD, DL.sFor, DL.iRng1D_eq, DL.mVar, DL.mC, DL.mNil, DL.mCons, DL.mCall, DL.mBin, DL.mNeg, DL.mMt, DL.mSl, DL.oNo, DL.oYes, DL.tOf, DL.tNotD, DL.tAndD, DL.tOrD, DL.tTru, DL.truD, DL.tTrue, DL.vAnd, DL.vOr, DL.vNot, DL.vIf, DL.vChain, DL.tupF, DL.lstF, DL.allD, DL.ev_add, DL.ev_sub, DL.ev_iadd, DL.ev_isub, DL.ev_lt, DL.ev_gt, DL.ev_le, DL.ev_ge, DL.ev_eq, DL.ev_ne, DL.ev_min, DL.ev_max, DL.ev_int, DL.ev_abs, DL.sz1, DL.sz2, DL.sz3, DL.sz4, DL.sz5, DL.sz6, DL.sz7, DL.sz8, DL.szp, add_tI (h1 c hc)]) (by
        rw [List.filter_eq_self.mpr fun _ _ => rfl, List.length_range]; exact sz_of (by omega))
      rwa [List.filter_eq_self.mpr fun _ _ => rfl] at this) (by
      rw [List.filter_eq_self.mpr fun _ _ => rfl]; exact sz_of ha)
  rw [List.filter_eq_self.mpr fun _ _ => rfl] at this
  have hf := flat_ok (acc.map fun c => (List.range p.1).map fun v : Nat => tI (c ++ [(v : Int)])) (by rw [row_e, List.length_map, ext1_len]; exact sz_of hl) S
  rw [row_e, List.map_map] at hf
  rw [L_l_contents_1]
  simp only [sAsg, mCall, mCons, mNil, this, Option.bind_some, e_flat]
  simp only [Function.comp_def] at hf
  rw [hf]
  simp [DL.sSeq, DL.sNil, DL.sPass, DL.sBreak, DL.sCont, DL.sExpr, DL.sRet, DL.sRetN, DL.sIf, DL.sAsg, DL.sPar, DL.sAug, DL.sAugS, DL.gSet, DL.gTupD, DL.gsNil, DL.gsCons, DL.gSubD, DL.sFor, DL.iRng1D_eq, DL.mVar, DL.mC, DL.mNil, DL.mCons, DL.mCall, DL.mBin, DL.mNeg, DL.mMt, DL.mSl, DL.oNo, DL.oYes, DL.tOf, DL.tNotD, DL.tAndD, DL.tOrD, DL.tTru, DL.truD, DL.tTrue, DL.vAnd, DL.vOr, DL.vNot, DL.vIf, DL.vChain, DL.tupF, DL.lstF, DL.allD, DL.ev_add, DL.ev_sub, DL.ev_iadd, DL.ev_isub, DL.ev_lt, DL.ev_gt, DL.ev_le, DL.ev_ge, DL.ev_eq, DL.ev_ne, DL.ev_min, DL.ev_max, DL.ev_int, DL.ev_abs, DL.sz1, DL.sz2, DL.sz3, DL.sz4, DL.sz5, DL.sz6, DL.sz7, DL.sz8, DL.szp]
theorem l_contents_ok {b : List Pl} (g : Good b) (S : Sto) : callF f_l_contents [.d (bn b)] S = some (.d (.list ((conts b).map tI)), S) := by
  refine callF_pure rfl (runF_ret0 ?_)
  obtain ⟨ρ', S', e, x, y, z, rfl⟩ := forL_J (g := gSet 2) (F := L_l_contents_1) (ws := (b.map pl).map W.d) (k := 0)
    (J := fun i ρ S => ∃ x y z, ρ = [some (.d (bn b)), some (.d (.list ((conts (b.take i)).map tI))), x, y, z]) (ρ := [some (.d (bn b)), some (.d (.list [tI []])), none, none, none]) (S := []) (fun i w ρ S hw ⟨x, y, z, e1⟩ => by
      subst e1
      simp only [List.getElem?_map, Option.map_eq_some_iff, Nat.zero_add] at hw ⊢
      obtain ⟨_, ⟨p, hp, rfl⟩, rfl⟩ := hw
      have gp := g.pl p (List.mem_of_getElem? hp)
      have hl := g.take i
      have e3 := cont2_step (p := p) (S := S) (b := some (.d (bn b))) (x := y) (y := z) (acc := conts (b.take i)) (fun c hc => by
        have := contents_len hc; have := g.len; rw [List.length_take] at *; omega) (by have := gp.hi; omega) (by omega) (by
        have := Nat.mul_le_mul hl gp.hi; omega)
      have e4 : ((gSet 2 (.d (pl p)) [some (.d (bn b)), some (.d (.list ((conts (b.take i)).map tI))), x, y, z] S).bind fun p => L_l_contents_1 p.1 p.2) = _ := Eq.trans (by simp [DL.sSeq, DL.sNil, DL.sPass, DL.sBreak, DL.sCont, DL.sExpr, DL.sRet, DL.sRetN, DL.sIf, DL.sAsg, DL.sPar, DL.sAug, DL.sAugS, DL.gSet, DL.gTupD, DL.gsNil, DL.gsCons, DL.gSubD, DL.sFor, DL.iRng1D_eq, DL.mVar, DL.mC, DL.mNil, DL.mCons, DL.mCall, DL.mBin, DL.mNeg, DL.mMt, DL.mSl, DL.oNo, DL.oYes, DL.tOf, DL.tNotD, DL.tAndD, DL.tOrD, DL.tTru, DL.truD, DL.tTrue, DL.vAnd, DL.vOr, DL.vNot, DL.vIf, DL.vChain, DL.tupF, DL.lstF, DL.allD, DL.ev_add, DL.ev_sub, DL.ev_iadd, DL.ev_isub, DL.ev_lt, DL.ev_gt, DL.ev_le, DL.ev_ge, DL.ev_eq, DL.ev_ne, DL.ev_min, DL.ev_max, DL.ev_int, DL.ev_abs, DL.sz1, DL.sz2, DL.sz3, DL.sz4, DL.sz5, DL.sz6, DL.sz7, DL.sz8, DL.szp]) e3
      exact ⟨_, _, e4, some (.d (pl p)), y, z, by rw [take_snoc hp, conts_snoc]⟩) ⟨none, none, none, by simp [conts]⟩
  simp only [Nat.zero_add, List.length_map, List.take_length] at e
  simp only [bn] at e ⊢
  simp [b_l_contents, DL.sSeq, DL.sNil, DL.sPass, DL.sBreak, DL.sCont, DL.sExpr, DL.sRet, DL.sRetN, DL.sIf, DL.sAsg, DL.sPar, DL.sAug, DL.sAugS, DL.gSet, DL.gTupD, DL.gsNil, DL.gsCons, DL.gSubD, DL.sFor, DL.iRng1D_eq, DL.mVar, DL.mC, DL.mNil, DL.mCons, DL.mCall, DL.mBin, DL.mNeg, DL.mMt, DL.mSl, DL.oNo, DL.oYes, DL.tOf, DL.tNotD, DL.tAndD, DL.tOrD, DL.tTru, DL.truD, DL.tTrue, DL.vAnd, DL.vOr, DL.vNot, DL.vIf, DL.vChain, DL.tupF, DL.lstF, DL.allD, DL.ev_add, DL.ev_sub, DL.ev_iadd, DL.ev_isub, DL.ev_lt, DL.ev_gt, DL.ev_le, DL.ev_ge, DL.ev_eq, DL.ev_ne, DL.ev_min, DL.ev_max, DL.ev_int, DL.ev_abs, DL.sz1, DL.sz2, DL.sz3, DL.sz4, DL.sz5, DL.sz6, DL.sz7, DL.sz8, DL.szp, iSeq]
  simp [tI] at e ⊢
  simp [e]
/-! ### one content changed at one place -/
theorem cut_take {α : Type} (xs : List α) (k : Nat) : DL.cutD xs none (some (k : Int)) = xs.take k := by
  have h : HT.sIx xs.length 0 none = 0 := rfl
  unfold DL.cutD
  rw [h, HT.sIx_nat, List.drop_zero, Nat.sub_zero]
  by_cases hk : k ≤ xs.length
  · rw [Nat.min_eq_left hk]
  · rw [Nat.min_eq_right (by omega), List.take_length, List.take_of_length_le (by omega)]
theorem cut_drop {α : Type} (xs : List α) (k : Nat) : DL.cutD xs (some (k : Int)) none = xs.drop k := by
  have h : HT.sIx xs.length xs.length none = xs.length := rfl
  unfold DL.cutD
  rw [h, HT.sIx_nat]
  by_cases hk : k ≤ xs.length
  · rw [Nat.min_eq_left hk, List.take_of_length_le (by rw [List.length_drop]; omega)]
  · rw [Nat.min_eq_right (by omega), List.drop_eq_nil_of_le (by omega : xs.length ≤ k)]; simp
theorem sl_take {c : List Int} {k : Nat} {S : Sto} : sliceD (.d (tI c)) none (some (k : Int)) S = some (.d (tI (c.take k)), S) := by
  simp only [tI, sliceD, cut_take, List.map_take]
theorem sl_drop {c : List Int} {k : Nat} {S : Sto} : sliceD (.d (tI c)) (some ((k : Int) + 1)) none S = some (.d (tI (c.drop (k + 1))), S) := by
  have := cut_drop (c.map PyData.int) (k + 1)
  simp only [tI, sliceD]
  rw [show ((k : Int) + 1) = ((k + 1 : Nat) : Int) by omega, this, List.map_drop]
theorem idx_tI {c : List Int} {k : Nat} {S : Sto} (h : k < c.length) : idxD (.d (tI c)) (.d (.int (k : Nat))) S = some (.d (.int (c.getD k 0)), S) := by
  have := atI_nat (xs := c.map PyData.int) (j := k) (v := .int (c.getD k 0)) (by simp [h, List.getD])
  simp only [tI, idxD, this, Option.map_some]
theorem set_e {c : List Int} {k : Nat} {w : Int} (h : k < c.length) : c.take k ++ [w] ++ c.drop (k + 1) = c.set k w := by
  rw [List.set_eq_take_append_cons_drop, if_pos h]; simp
theorem set_ev {c : List Int} {k : Nat} {w : Int} {S : Sto} (h : k < c.length) (hl : c.length ≤ 500) : addA (.d (tI (c.take k ++ [w]))) (.d (tI (c.drop (k + 1)))) S = some (.d (tI (c.set k w)), S) := by
  rw [add_tI2 (by simp only [List.length_append, List.length_take, List.length_drop, List.length_cons, List.length_nil]; omega), set_e h]
theorem take_le {c : List Int} {k : Nat} (hl : c.length ≤ 500) : (c.take k).length ≤ 1000 := by rw [List.length_take]; omega

end K17
end
noncomputable section
namespace K17
open PySem PySem.Spec PyProof.Rows L2 DL
/-- the steps of one place, found by the package -/
theorem from_step {c : List Int} {k : Nat} {p : Pl} {acc : List (List Int)} {bb x1 x2 x3 x4 x5 x6 : Option W} (hk : k < c.length) (hl : c.length ≤ 500) (hp : p.2.length ≤ 1000) (ha : acc.length ≤ 100000) :
    ∃ ρ2, L_steps_from_1 [bb, some (.d (tI c)), some (.loc 0), some (.d (.int (k : Nat))), x1, x2, some (.d (.tuple (p.2.map mv))), x3, x4] [.lst ((acc.map tI).map W.d)] = some (.nx, ρ2, [.lst (((acc ++ part c k p).map tI).map W.d)]) ∧
      ∃ y1 y2 y3 y4 y5 y6, ρ2 = [bb, some (.d (tI c)), some (.loc 0), y1, y2, y3, y4, y5, y6] := by
  have e1 := lc_e (it := iSeq (mVar 6)) (g := gTupD 2 (gsCons (gSet 7) (gsCons (gSet 8) (gsNil)))) (T := tOf (mBin (eqA false) (mVar 7) (mBin idxD (mVar 1) (mVar 3)))) (E := mVar 8) (vs := [7, 8]) (ρ := [bb, some (.d (tI c)), some (.loc 0), some (.d (.int (k : Nat))), x1, x2, some (.d (.tuple (p.2.map mv))), x3, x4]) (S := [.lst ((acc.map tI).map W.d)]) mv (fun m => decide (m.1 = c.getD k 0)) (fun m => .int m.2) (l := p.2) (by simp [DL.sSeq, DL.sNil, DL.sPass, DL.sBreak, DL.sCont, DL.sExpr, DL.sRet, DL.sRetN, DL.sIf, DL.sAsg, DL.sPar, DL.sAug, DL.sAugS, DL.gSet, DL.gTupD, DL.gsNil, DL.gsCons, DL.gSubD, DL.sFor, DL.iRng1D_eq, DL.mVar, DL.mC, DL.mNil, DL.mCons, DL.mCall, DL.mBin, DL.mNeg, DL.mMt, DL.mSl, DL.oNo, DL.oYes, DL.tOf, DL.tNotD, DL.tAndD, DL.tOrD, DL.tTru, DL.truD, DL.tTrue, DL.vAnd, DL.vOr, DL.vNot, DL.vIf, DL.vChain, DL.tupF, DL.lstF, DL.allD, DL.ev_add, DL.ev_sub, DL.ev_iadd, DL.ev_isub, DL.ev_lt, DL.ev_gt, DL.ev_le, DL.ev_ge, DL.ev_eq, DL.ev_ne, DL.ev_min, DL.ev_max, DL.ev_int, DL.ev_abs, DL.sz1, DL.sz2, DL.sz3, DL.sz4, DL.sz5, DL.sz6, DL.sz7, DL.sz8, DL.szp, iSeq]) (fun m _ => by
    refine ⟨[bb, some (.d (tI c)), some (.loc 0), some (.d (.int (k : Nat))), x1, x2, some (.d (.tuple (p.2.map mv))), some (.d (.int m.1)), some (.d (.int m.2))], by simp [DL.sSeq, DL.sNil, DL.sPass, DL.sBreak, DL.sCont, DL.sExpr, DL.sRet, DL.sRetN, DL.sIf, DL.sAsg, DL.sPar, DL.sAug, DL.sAugS, DL.gSet, DL.gTupD, DL.gsNil, DL.gsCons, DL.gSubD, DL.sFor, DL.iRng1D_eq, DL.mVar, DL.mC, DL.mNil, DL.mCons, DL.mCall, DL.mBin, DL.mNeg, DL.mMt, DL.mSl, DL.oNo, DL.oYes, DL.tOf, DL.tNotD, DL.tAndD, DL.tOrD, DL.tTru, DL.truD, DL.tTrue, DL.vAnd, DL.vOr, DL.vNot, DL.vIf, DL.vChain, DL.tupF, DL.lstF, DL.allD, DL.ev_add, DL.ev_sub, DL.ev_iadd, DL.ev_isub, DL.ev_lt, DL.ev_gt, DL.ev_le, DL.ev_ge, DL.ev_eq, DL.ev_ne, DL.ev_min, DL.ev_max, DL.ev_int, DL.ev_abs, DL.sz1, DL.sz2, DL.sz3, DL.sz4, DL.sz5, DL.sz6, DL.sz7, DL.sz8, DL.szp, wipeD, mv], ?_, fun _ => by simp [DL.sSeq, DL.sNil, DL.sPass, DL.sBreak, DL.sCont, DL.sExpr, DL.sRet, DL.sRetN, DL.sIf, DL.sAsg, DL.sPar, DL.sAug, DL.sAugS, DL.gSet, DL.gTupD, DL.gsNil, DL.gsCons, DL.gSubD, DL.sFor, DL.iRng1D_eq, DL.mVar, DL.mC, DL.mNil, DL.mCons, DL.mCall, DL.mBin, DL.mNeg, DL.mMt, DL.mSl, DL.oNo, DL.oYes, DL.tOf, DL.tNotD, DL.tAndD, DL.tOrD, DL.tTru, DL.truD, DL.tTrue, DL.vAnd, DL.vOr, DL.vNot, DL.vIf, DL.vChain, DL.tupF, DL.lstF, DL.allD, DL.ev_add, DL.ev_sub, DL.ev_iadd, DL.ev_isub, DL.ev_lt, DL.ev_gt, DL.ev_le, DL.ev_ge, DL.ev_eq, DL.ev_ne, DL.ev_min, DL.ev_max, DL.ev_int, DL.ev_abs, DL.sz1, DL.sz2, DL.sz3, DL.sz4, DL.sz5, DL.sz6, DL.sz7, DL.sz8, DL.szp]⟩
    simp [DL.sSeq, DL.sNil, DL.sPass, DL.sBreak, DL.sCont, DL.sExpr, DL.sRet, DL.sRetN, DL.sIf, DL.sAsg, DL.sPar, DL.sAug, DL.sAugS, DL.gSet, DL.gTupD, DL.gsNil, DL.gsCons, DL.gSubD, DL.sFor, DL.iRng1D_eq, DL.mVar, DL.mC, DL.mNil, DL.mCons, DL.mCall, DL.mBin, DL.mNeg, DL.mMt, DL.mSl, DL.oNo, DL.oYes, DL.tOf, DL.tNotD, DL.tAndD, DL.tOrD, DL.tTru, DL.truD, DL.tTrue, DL.vAnd, DL.vOr, DL.vNot, DL.vIf, DL.vChain, DL.tupF, DL.lstF, DL.allD, DL.ev_add, DL.ev_sub, DL.ev_iadd, DL.ev_isub, DL.ev_lt, DL.ev_gt, DL.ev_le, DL.ev_ge, DL.ev_eq, DL.ev_ne, DL.ev_min, DL.ev_max, DL.ev_int, DL.ev_abs, DL.sz1, DL.sz2, DL.sz3, DL.sz4, DL.sz5, DL.sz6, DL.sz7, DL.sz8, DL.szp, idx_tI hk]) (by
    exact Nat.le_trans (List.length_filter_le _ _) (sz_of (by omega)))
  have e2 := lc_e (it := iSeq (mVar 4)) (g := gSet 8) (T := tTrue) (E := mBin addA (mBin addA (mSl (mVar 1) (oNo) (oYes (mVar 3))) (mCall tupF (mCons (mVar 8) (mNil)))) (mSl (mVar 1) (oYes (mBin addA (mVar 3) (mC (.int 1)))) (oNo))) (vs := [8]) (ρ := [bb, some (.d (tI c)), some (.loc 0), some (.d (.int (k : Nat))), some (.d (.list ((p.2.filter fun m => decide (m.1 = c.getD k 0)).map fun m => .int m.2))), x2, some (.d (.tuple (p.2.map mv))), x3, x4]) (S := [.lst ((acc.map tI).map W.d)])
    (fun m : Mv => PyData.int m.2) (fun _ => true) (fun m => tI (c.set k m.2)) (l := p.2.filter fun m => decide (m.1 = c.getD k 0)) (by simp [DL.sSeq, DL.sNil, DL.sPass, DL.sBreak, DL.sCont, DL.sExpr, DL.sRet, DL.sRetN, DL.sIf, DL.sAsg, DL.sPar, DL.sAug, DL.sAugS, DL.gSet, DL.gTupD, DL.gsNil, DL.gsCons, DL.gSubD, DL.sFor, DL.iRng1D_eq, DL.mVar, DL.mC, DL.mNil, DL.mCons, DL.mCall, DL.mBin, DL.mNeg, DL.mMt, DL.mSl, DL.oNo, DL.oYes, DL.tOf, DL.tNotD, DL.tAndD, DL.tOrD, DL.tTru, DL.truD, DL.tTrue, DL.vAnd, DL.vOr, DL.vNot, DL.vIf, DL.vChain, DL.tupF, DL.lstF, DL.allD, DL.ev_add, DL.ev_sub, DL.ev_iadd, DL.ev_isub, DL.ev_lt, DL.ev_gt, DL.ev_le, DL.ev_ge, DL.ev_eq, DL.ev_ne, DL.ev_min, DL.ev_max, DL.ev_int, DL.ev_abs, DL.sz1, DL.sz2, DL.sz3, DL.sz4, DL.sz5, DL.sz6, DL.sz7, DL.sz8, DL.szp, iSeq]) (fun m _ => by
    refine ⟨[bb, some (.d (tI c)), some (.loc 0), some (.d (.int (k : Nat))), some (.d (.list ((p.2.filter fun m => decide (m.1 = c.getD k 0)).map fun m => .int m.2))), x2, some (.d (.tuple (p.2.map mv))), x3, some (.d (.int m.2))], by simp [DL.sSeq, DL.sNil, DL.sPass, DL.sBreak, DL.sCont, DL.sExpr, DL.sRet, DL.sRetN, DL.sIf, DL.sAsg, DL.sPar, DL.sAug, DL.sAugS, DL.gSet, DL.gTupD, DL.gsNil, DL.gsCons, DL.gSubD, DL.sFor, DL.iRng1D_eq, DL.mVar, DL.mC, DL.mNil, DL.mCons, DL.mCall, DL.mBin, DL.mNeg, DL.mMt, DL.mSl, DL.oNo, DL.oYes, DL.tOf, DL.tNotD, DL.tAndD, DL.tOrD, DL.tTru, DL.truD, DL.tTrue, DL.vAnd, DL.vOr, DL.vNot, DL.vIf, DL.vChain, DL.tupF, DL.lstF, DL.allD, DL.ev_add, DL.ev_sub, DL.ev_iadd, DL.ev_isub, DL.ev_lt, DL.ev_gt, DL.ev_le, DL.ev_ge, DL.ev_eq, DL.ev_ne, DL.ev_min, DL.ev_max, DL.ev_int, DL.ev_abs, DL.sz1, DL.sz2, DL.sz3, DL.sz4, DL.sz5, DL.sz6, DL.sz7, DL.sz8, DL.szp, wipeD], rfl, fun _ => ?_⟩
    simp [DL.sSeq, DL.sNil, DL.sPass, DL.sBreak, DL.sCont, DL.sExpr, DL.sRet, DL.sRetN, DL.sIf, DL.sAsg, DL.sPar, DL.sAug, DL.sAugS, DL.gSet, DL.gTupD, DL.gsNil, DL.gsCons, DL.gSubD, DL.sFor, DL.iRng1D_eq, DL.mVar, DL.mC, DL.mNil, DL.mCons, DL.mCall, DL.mBin, DL.mNeg, DL.mMt, DL.mSl, DL.oNo, DL.oYes, DL.tOf, DL.tNotD, DL.tAndD, DL.tOrD, DL.tTru, DL.truD, DL.tTrue, DL.vAnd, DL.vOr, DL.vNot, DL.vIf, DL.vChain, DL.tupF, DL.lstF, DL.allD, DL.ev_add, DL.ev_sub, DL.ev_iadd, DL.ev_isub, DL.ev_lt, DL.ev_gt, DL.ev_le, DL.ev_ge, DL.ev_eq, DL.ev_ne, DL.ev_min, DL.ev_max, DL.ev_int, DL.ev_abs, DL.sz1, DL.sz2, DL.sz3, DL.sz4, DL.sz5, DL.sz6, DL.sz7, DL.sz8, DL.szp, sl_take, sl_drop, add_tI (take_le hl), set_ev hk hl]) (by
    rw [List.filter_eq_self.mpr fun _ _ => rfl]
    exact Nat.le_trans (List.length_filter_le _ _) (sz_of (by omega)))
  rw [List.filter_eq_self.mpr fun _ _ => rfl] at e2
  have hlen : acc.length + (p.2.filter fun m => decide (m.1 = c.getD k 0)).length ≤ sizeLine := by
    have := List.length_filter_le (fun m : Mv => decide (m.1 = c.getD k 0)) p.2
    exact sz_of (by omega)
  refine ⟨[bb, some (.d (tI c)), some (.loc 0), some (.d (.int (k : Nat))), some (.d (.list ((p.2.filter fun m => decide (m.1 = c.getD k 0)).map fun m => .int m.2))), x2, some (.d (.tuple (p.2.map mv))), x3, x4], ?_, _, _, _, _, _, _, rfl⟩
  rw [L_steps_from_1, seq_nx (ρ1 := [bb, some (.d (tI c)), some (.loc 0), some (.d (.int (k : Nat))), some (.d (.list ((p.2.filter fun m => decide (m.1 = c.getD k 0)).map fun m => .int m.2))), x2, some (.d (.tuple (p.2.map mv))), x3, x4]) (S1 := [.lst ((acc.map tI).map W.d)]) (by
    rw [sAsg, e1]; simp [gSet])]
  simp only [sExpr, mMt, mVar, List.getElem?_cons_succ, List.getElem?_cons_zero, Option.bind_some, isLst, if_true, mCons, mNil, e2, extendF, onL, deref, List.length_map, hlen]
  simp [part]
theorem stp_take {b : List Pl} {c : List Int} {i : Nat} {p : Pl} (h : b[i]? = some p) : stp c 0 (b.take (i + 1)) = stp c 0 (b.take i) ++ part c i p := by
  have hi := (List.getElem?_eq_some_iff.mp h).1
  rw [take_snoc h, stp_snoc, List.length_take, Nat.min_eq_left (by omega), Nat.zero_add]
theorem stq_take {b : List Pl} {c : List Int} {i : Nat} {p : Pl} (h : b[i]? = some p) : stq c 0 (b.take (i + 1)) = stq c 0 (b.take i) ++ qart c i p := by
  have hi := (List.getElem?_eq_some_iff.mp h).1
  rw [take_snoc h, stq_snoc, List.length_take, Nat.min_eq_left (by omega), Nat.zero_add]
theorem Good.stp_le {b : List Pl} (g : Good b) (c : List Int) (i : Nat) : (stp c 0 (b.take i)).length ≤ 180 := by
  have := stp_len c 0 (b.take i) fun p hp => (g.pl p (List.mem_of_mem_take hp)).len
  have := g.len; rw [List.length_take] at *; omega
theorem Good.stq_le {b : List Pl} (g : Good b) (c : List Int) (i : Nat) : (stq c 0 (b.take i)).length ≤ 180 := by
  have := stq_len c 0 (b.take i) fun p hp => (g.pl p (List.mem_of_mem_take hp)).len
  have := g.len; rw [List.length_take] at *; omega
theorem steps_from_ok {b : List Pl} {c : List Int} (g : Good b) (hc : Fits c b) (S : Sto) : callF f_steps_from [.d (bn b), .d (tI c)] S = some (.d (.list (sortT (stp c 0 b))), S) := by
  refine callF_pure rfl (runF_ret0 ?_)
  have cl := fits_len hc
  have bl := g.len
  obtain ⟨ρ', S', e, y1, y2, y3, y4, y5, y6, rfl, rfl⟩ := forL_J (g := gTupD 2 (gsCons (gSet 3) (gsCons (gTupD 2 (gsCons (gSet 5) (gsCons (gSet 6) (gsNil)))) (gsNil)))) (F := L_steps_from_1) (ws := pairsF 0 (b.map pl)) (k := 0)
    (J := fun i ρ S => ∃ y1 y2 y3 y4 y5 y6, ρ = [some (.d (bn b)), some (.d (tI c)), some (.loc 0), y1, y2, y3, y4, y5, y6] ∧ S = [.lst (((stp c 0 (b.take i)).map tI).map W.d)]) (ρ := [some (.d (bn b)), some (.d (tI c)), some (.loc 0), none, none, none, none, none, none]) (S := [.lst []]) (fun i w ρ S hw ⟨y1, y2, y3, y4, y5, y6, e1, e2⟩ => by
      subst e1 e2
      obtain ⟨d, hd, rfl⟩ := pairsF_get hw
      simp only [List.getElem?_map, Option.map_eq_some_iff, Nat.zero_add] at hd ⊢
      obtain ⟨p, hp, rfl⟩ := hd
      have gp := g.pl p (List.mem_of_getElem? hp)
      have hi := (List.getElem?_eq_some_iff.mp hp).1
      obtain ⟨ρ2, e3, z⟩ := from_step (c := c) (k := i) (p := p) (acc := stp c 0 (b.take i)) (bb := some (.d (bn b))) (x1 := y2) (x2 := some (.d (.int p.1))) (x3 := y5) (x4 := y6) (x5 := none) (x6 := none) (by omega) (by omega) (by have := gp.len; omega) (by have := g.stp_le c i; omega)
      obtain ⟨z1, z2, z3, z4, z5, z6, rfl⟩ := z
      refine ⟨_, _, Eq.trans (by simp [DL.sSeq, DL.sNil, DL.sPass, DL.sBreak, DL.sCont, DL.sExpr, DL.sRet, DL.sRetN, DL.sIf, DL.sAsg, DL.sPar, DL.sAug, DL.sAugS, DL.gSet, DL.gTupD, DL.gsNil, DL.gsCons, DL.gSubD, DL.sFor, DL.iRng1D_eq, DL.mVar, DL.mC, DL.mNil, DL.mCons, DL.mCall, DL.mBin, DL.mNeg, DL.mMt, DL.mSl, DL.oNo, DL.oYes, DL.tOf, DL.tNotD, DL.tAndD, DL.tOrD, DL.tTru, DL.truD, DL.tTrue, DL.vAnd, DL.vOr, DL.vNot, DL.vIf, DL.vChain, DL.tupF, DL.lstF, DL.allD, DL.ev_add, DL.ev_sub, DL.ev_iadd, DL.ev_isub, DL.ev_lt, DL.ev_gt, DL.ev_le, DL.ev_ge, DL.ev_eq, DL.ev_ne, DL.ev_min, DL.ev_max, DL.ev_int, DL.ev_abs, DL.sz1, DL.sz2, DL.sz3, DL.sz4, DL.sz5, DL.sz6, DL.sz7, DL.sz8, DL.szp, pl]) e3, z1, z2, z3, z4, z5, z6, rfl, by rw [stp_take hp]⟩) ⟨none, none, none, none, none, none, rfl, rfl⟩
  simp only [Nat.zero_add, pairsF_len, List.length_map, List.take_length] at e
  have hs := sorted_ev (l := stp c 0 b) (S := [.lst (((stp c 0 b).map tI).map W.d)]) (w := .loc 0) (stp_ne g hc) (by simp only [deref, List.getElem?_cons_zero, allD_map, Option.map_some])
  refine ⟨[some (.d (bn b)), some (.d (tI c)), some (.loc 0), y1, y2, y3, y4, y5, y6], [.lst (((stp c 0 b).map tI).map W.d)], ?_⟩
  simp only [bn] at e ⊢
  simp [b_steps_from, DL.sSeq, DL.sNil, DL.sPass, DL.sBreak, DL.sCont, DL.sExpr, DL.sRet, DL.sRetN, DL.sIf, DL.sAsg, DL.sPar, DL.sAug, DL.sAugS, DL.gSet, DL.gTupD, DL.gsNil, DL.gsCons, DL.gSubD, DL.sFor, DL.iRng1D_eq, DL.mVar, DL.mC, DL.mNil, DL.mCons, DL.mCall, DL.mBin, DL.mNeg, DL.mMt, DL.mSl, DL.oNo, DL.oYes, DL.tOf, DL.tNotD, DL.tAndD, DL.tOrD, DL.tTru, DL.truD, DL.tTrue, DL.vAnd, DL.vOr, DL.vNot, DL.vIf, DL.vChain, DL.tupF, DL.lstF, DL.allD, DL.ev_add, DL.ev_sub, DL.ev_iadd, DL.ev_isub, DL.ev_lt, DL.ev_gt, DL.ev_le, DL.ev_ge, DL.ev_eq, DL.ev_ne, DL.ev_min, DL.ev_max, DL.ev_int, DL.ev_abs, DL.sz1, DL.sz2, DL.sz3, DL.sz4, DL.sz5, DL.sz6, DL.sz7, DL.sz8, DL.szp, lstB, iEnumD]
  simp at e hs
  simp [e, hs]
/-- the same, backward -/
theorem to_step {c : List Int} {k : Nat} {p : Pl} {acc : List (List Int)} {bb x1 x2 x3 x4 : Option W} (hk : k < c.length) (hl : c.length ≤ 500) (hp : p.2.length ≤ 1000) (ha : acc.length ≤ 100000) :
    ∃ ρ2, L_steps_to_1 [bb, some (.d (tI c)), some (.loc 0), some (.d (.int (k : Nat))), x1, x2, some (.d (.tuple (p.2.map mv))), x3, x4] [.lst ((acc.map tI).map W.d)] = some (.nx, ρ2, [.lst (((acc ++ qart c k p).map tI).map W.d)]) ∧
      ∃ y1 y2 y3 y4 y5 y6, ρ2 = [bb, some (.d (tI c)), some (.loc 0), y1, y2, y3, y4, y5, y6] := by
  have e1 := lc_e (it := iSeq (mVar 6)) (g := gTupD 2 (gsCons (gSet 7) (gsCons (gSet 8) (gsNil)))) (T := tOf (mBin (eqA false) (mVar 8) (mBin idxD (mVar 1) (mVar 3)))) (E := mVar 7) (vs := [7, 8]) (ρ := [bb, some (.d (tI c)), some (.loc 0), some (.d (.int (k : Nat))), x1, x2, some (.d (.tuple (p.2.map mv))), x3, x4]) (S := [.lst ((acc.map tI).map W.d)]) mv (fun m => decide (m.2 = c.getD k 0)) (fun m => .int m.1) (l := p.2) (by simp [DL.sSeq, DL.sNil, DL.sPass, DL.sBreak, DL.sCont, DL.sExpr, DL.sRet, DL.sRetN, DL.sIf, DL.sAsg, DL.sPar, DL.sAug, DL.sAugS, DL.gSet, DL.gTupD, DL.gsNil, DL.gsCons, DL.gSubD, DL.sFor, DL.iRng1D_eq, DL.mVar, DL.mC, DL.mNil, DL.mCons, DL.mCall, DL.mBin, DL.mNeg, DL.mMt, DL.mSl, DL.oNo, DL.oYes, DL.tOf, DL.tNotD, DL.tAndD, DL.tOrD, DL.tTru, DL.truD, DL.tTrue, DL.vAnd, DL.vOr, DL.vNot, DL.vIf, DL.vChain, DL.tupF, DL.lstF, DL.allD, DL.ev_add, DL.ev_sub, DL.ev_iadd, DL.ev_isub, DL.ev_lt, DL.ev_gt, DL.ev_le, DL.ev_ge, DL.ev_eq, DL.ev_ne, DL.ev_min, DL.ev_max, DL.ev_int, DL.ev_abs, DL.sz1, DL.sz2, DL.sz3, DL.sz4, DL.sz5, DL.sz6, DL.sz7, DL.sz8, DL.szp, iSeq]) (fun m _ => by
    refine ⟨[bb, some (.d (tI c)), some (.loc 0), some (.d (.int (k : Nat))), x1, x2, some (.d (.tuple (p.2.map mv))), some (.d (.int m.1)), some (.d (.int m.2))], by simp [DL.sSeq, DL.sNil, DL.sPass, DL.sBreak, DL.sCont, DL.sExpr, DL.sRet, DL.sRetN, DL.sIf, DL.sAsg, DL.sPar, DL.sAug, DL.sAugS, DL.gSet, DL.gTupD, DL.gsNil, DL.gsCons, DL.gSubD, DL.sFor, DL.iRng1D_eq, DL.mVar, DL.mC, DL.mNil, DL.mCons, DL.mCall, DL.mBin, DL.mNeg, DL.mMt, DL.mSl, DL.oNo, DL.oYes, DL.tOf, DL.tNotD, DL.tAndD, DL.tOrD, DL.tTru, DL.truD, DL.tTrue, DL.vAnd, DL.vOr, DL.vNot, DL.vIf, DL.vChain, DL.tupF, DL.lstF, DL.allD, DL.ev_add, DL.ev_sub, DL.ev_iadd, DL.ev_isub, DL.ev_lt, DL.ev_gt, DL.ev_le, DL.ev_ge, DL.ev_eq, DL.ev_ne, DL.ev_min, DL.ev_max, DL.ev_int, DL.ev_abs, DL.sz1, DL.sz2, DL.sz3, DL.sz4, DL.sz5, DL.sz6, DL.sz7, DL.sz8, DL.szp, wipeD, mv], ?_, fun _ => by simp [DL.sSeq, DL.sNil, DL.sPass, DL.sBreak, DL.sCont, DL.sExpr, DL.sRet, DL.sRetN, DL.sIf, DL.sAsg, DL.sPar, DL.sAug, DL.sAugS, DL.gSet, DL.gTupD, DL.gsNil, DL.gsCons, DL.gSubD, DL.sFor, DL.iRng1D_eq, DL.mVar, DL.mC, DL.mNil, DL.mCons, DL.mCall, DL.mBin, DL.mNeg, DL.mMt, DL.mSl, DL.oNo, DL.oYes, DL.tOf, DL.tNotD, DL.tAndD, DL.tOrD, DL.tTru, DL.truD, DL.tTrue, DL.vAnd, DL.vOr, DL.vNot, DL.vIf, DL.vChain, DL.tupF, DL.lstF, DL.allD, DL.ev_add, DL.ev_sub, DL.ev_iadd, DL.ev_isub, DL.ev_lt, DL.ev_gt, DL.ev_le, DL.ev_ge, DL.ev_eq, DL.ev_ne, DL.ev_min, DL.ev_max, DL.ev_int, DL.ev_abs, DL.sz1, DL.sz2, DL.sz3, DL.sz4, DL.sz5, DL.sz6, DL.sz7, DL.sz8, DL.szp]⟩
    simp [DL.sSeq, DL.sNil, DL.sPass, DL.sBreak, DL.sCont, DL.sExpr, DL.sRet, DL.sRetN, DL.sIf, DL.sAsg, DL.sPar, DL.sAug, DL.sAugS, DL.gSet, DL.gTupD, DL.gsNil, DL.gsCons, DL.gSubD, DL.sFor, DL.iRng1D_eq, DL.mVar, DL.mC, DL.mNil, DL.mCons, DL.mCall, DL.mBin, DL.mNeg, DL.mMt, DL.mSl, DL.oNo, DL.oYes, DL.tOf, DL.tNotD, DL.tAndD, DL.tOrD, DL.tTru, DL.truD, DL.tTrue, DL.vAnd, DL.vOr, DL.vNot, DL.vIf, DL.vChain, DL.tupF, DL.lstF, DL.allD, DL.ev_add, DL.ev_sub, DL.ev_iadd, DL.ev_isub, DL.ev_lt, DL.ev_gt, DL.ev_le, DL.ev_ge, DL.ev_eq, DL.ev_ne, DL.ev_min, DL.ev_max, DL.ev_int, DL.ev_abs, DL.sz1, DL.sz2, DL.sz3, DL.sz4, DL.sz5, DL.sz6, DL.sz7, DL.sz8, DL.szp, idx_tI hk]) (by
    exact Nat.le_trans (List.length_filter_le _ _) (sz_of (by omega)))
  have e2 := lc_e (it := iSeq (mVar 4)) (g := gSet 7) (T := tTrue) (E := mBin addA (mBin addA (mSl (mVar 1) (oNo) (oYes (mVar 3))) (mCall tupF (mCons (mVar 7) (mNil)))) (mSl (mVar 1) (oYes (mBin addA (mVar 3) (mC (.int 1)))) (oNo))) (vs := [7]) (ρ := [bb, some (.d (tI c)), some (.loc 0), some (.d (.int (k : Nat))), some (.d (.list ((p.2.filter fun m => decide (m.2 = c.getD k 0)).map fun m => .int m.1))), x2, some (.d (.tuple (p.2.map mv))), x3, x4]) (S := [.lst ((acc.map tI).map W.d)])
    (fun m : Mv => PyData.int m.1) (fun _ => true) (fun m => tI (c.set k m.1)) (l := p.2.filter fun m => decide (m.2 = c.getD k 0)) (by simp [DL.sSeq, DL.sNil, DL.sPass, DL.sBreak, DL.sCont, DL.sExpr, DL.sRet, DL.sRetN, DL.sIf, DL.sAsg, DL.sPar, DL.sAug, DL.sAugS, DL.gSet, DL.gTupD, DL.gsNil, DL.gsCons, DL.gSubD, DL.sFor, DL.iRng1D_eq, DL.mVar, DL.mC, DL.mNil, DL.mCons, DL.mCall, DL.mBin, DL.mNeg, DL.mMt, DL.mSl, DL.oNo, DL.oYes, DL.tOf, DL.tNotD, DL.tAndD, DL.tOrD, DL.tTru, DL.truD, DL.tTrue, DL.vAnd, DL.vOr, DL.vNot, DL.vIf, DL.vChain, DL.tupF, DL.lstF, DL.allD, DL.ev_add, DL.ev_sub, DL.ev_iadd, DL.ev_isub, DL.ev_lt, DL.ev_gt, DL.ev_le, DL.ev_ge, DL.ev_eq, DL.ev_ne, DL.ev_min, DL.ev_max, DL.ev_int, DL.ev_abs, DL.sz1, DL.sz2, DL.sz3, DL.sz4, DL.sz5, DL.sz6, DL.sz7, DL.sz8, DL.szp, iSeq]) (fun m _ => by
    refine ⟨[bb, some (.d (tI c)), some (.loc 0), some (.d (.int (k : Nat))), some (.d (.list ((p.2.filter fun m => decide (m.2 = c.getD k 0)).map fun m => .int m.1))), x2, some (.d (.tuple (p.2.map mv))), some (.d (.int m.1)), x4], by simp [DL.sSeq, DL.sNil, DL.sPass, DL.sBreak, DL.sCont, DL.sExpr, DL.sRet, DL.sRetN, DL.sIf, DL.sAsg, DL.sPar, DL.sAug, DL.sAugS, DL.gSet, DL.gTupD, DL.gsNil, DL.gsCons, DL.gSubD, DL.sFor, DL.iRng1D_eq, DL.mVar, DL.mC, DL.mNil, DL.mCons, DL.mCall, DL.mBin, DL.mNeg, DL.mMt, DL.mSl, DL.oNo, DL.oYes, DL.tOf, DL.tNotD, DL.tAndD, DL.tOrD, DL.tTru, DL.truD, DL.tTrue, DL.vAnd, DL.vOr, DL.vNot, DL.vIf, DL.vChain, DL.tupF, DL.lstF, DL.allD, DL.ev_add, DL.ev_sub, DL.ev_iadd, DL.ev_isub, DL.ev_lt, DL.ev_gt, DL.ev_le, DL.ev_ge, DL.ev_eq, DL.ev_ne, DL.ev_min, DL.ev_max, DL.ev_int, DL.ev_abs, DL.sz1, DL.sz2, DL.sz3, DL.sz4, DL.sz5, DL.sz6, DL.sz7, DL.sz8, DL.szp, wipeD], rfl, fun _ => ?_⟩
    simp [DL.sSeq, DL.sNil, DL.sPass, DL.sBreak, DL.sCont, DL.sExpr, DL.sRet, DL.sRetN, DL.sIf, DL.sAsg, DL.sPar, DL.sAug, DL.sAugS, DL.gSet, DL.gTupD, DL.gsNil, DL.gsCons, DL.gSubD, DL.sFor, DL.iRng1D_eq, DL.mVar, DL.mC, DL.mNil, DL.mCons, DL.mCall, DL.mBin, DL.mNeg, DL.mMt, DL.mSl, DL.oNo, DL.oYes, DL.tOf, DL.tNotD, DL.tAndD, DL.tOrD, DL.tTru, DL.truD, DL.tTrue, DL.vAnd, DL.vOr, DL.vNot, DL.vIf, DL.vChain, DL.tupF, DL.lstF, DL.allD, DL.ev_add, DL.ev_sub, DL.ev_iadd, DL.ev_isub, DL.ev_lt, DL.ev_gt, DL.ev_le, DL.ev_ge, DL.ev_eq, DL.ev_ne, DL.ev_min, DL.ev_max, DL.ev_int, DL.ev_abs, DL.sz1, DL.sz2, DL.sz3, DL.sz4, DL.sz5, DL.sz6, DL.sz7, DL.sz8, DL.szp, sl_take, sl_drop, add_tI (take_le hl), set_ev hk hl]) (by
    rw [List.filter_eq_self.mpr fun _ _ => rfl]
    exact Nat.le_trans (List.length_filter_le _ _) (sz_of (by omega)))
  rw [List.filter_eq_self.mpr fun _ _ => rfl] at e2
  have hlen : acc.length + (p.2.filter fun m => decide (m.2 = c.getD k 0)).length ≤ sizeLine := by
    have := List.length_filter_le (fun m : Mv => decide (m.2 = c.getD k 0)) p.2
    exact sz_of (by omega)
  refine ⟨[bb, some (.d (tI c)), some (.loc 0), some (.d (.int (k : Nat))), some (.d (.list ((p.2.filter fun m => decide (m.2 = c.getD k 0)).map fun m => .int m.1))), x2, some (.d (.tuple (p.2.map mv))), x3, x4], ?_, _, _, _, _, _, _, rfl⟩
  rw [L_steps_to_1, seq_nx (ρ1 := [bb, some (.d (tI c)), some (.loc 0), some (.d (.int (k : Nat))), some (.d (.list ((p.2.filter fun m => decide (m.2 = c.getD k 0)).map fun m => .int m.1))), x2, some (.d (.tuple (p.2.map mv))), x3, x4]) (S1 := [.lst ((acc.map tI).map W.d)]) (by
    rw [sAsg, e1]; simp [gSet])]
  simp only [sExpr, mMt, mVar, List.getElem?_cons_succ, List.getElem?_cons_zero, Option.bind_some, isLst, if_true, mCons, mNil, e2, extendF, onL, deref, List.length_map, hlen]
  simp [qart]
theorem steps_to_ok {b : List Pl} {c : List Int} (g : Good b) (hc : Fits c b) (S : Sto) : callF f_steps_to [.d (bn b), .d (tI c)] S = some (.d (.list (sortT (stq c 0 b))), S) := by
  refine callF_pure rfl (runF_ret0 ?_)
  have cl := fits_len hc
  have bl := g.len
  obtain ⟨ρ', S', e, y1, y2, y3, y4, y5, y6, rfl, rfl⟩ := forL_J (g := gTupD 2 (gsCons (gSet 3) (gsCons (gTupD 2 (gsCons (gSet 5) (gsCons (gSet 6) (gsNil)))) (gsNil)))) (F := L_steps_to_1) (ws := pairsF 0 (b.map pl)) (k := 0)
    (J := fun i ρ S => ∃ y1 y2 y3 y4 y5 y6, ρ = [some (.d (bn b)), some (.d (tI c)), some (.loc 0), y1, y2, y3, y4, y5, y6] ∧ S = [.lst (((stq c 0 (b.take i)).map tI).map W.d)]) (ρ := [some (.d (bn b)), some (.d (tI c)), some (.loc 0), none, none, none, none, none, none]) (S := [.lst []]) (fun i w ρ S hw ⟨y1, y2, y3, y4, y5, y6, e1, e2⟩ => by
      subst e1 e2
      obtain ⟨d, hd, rfl⟩ := pairsF_get hw
      simp only [List.getElem?_map, Option.map_eq_some_iff, Nat.zero_add] at hd ⊢
      obtain ⟨p, hp, rfl⟩ := hd
      have gp := g.pl p (List.mem_of_getElem? hp)
      have hi := (List.getElem?_eq_some_iff.mp hp).1
      obtain ⟨ρ2, e3, z⟩ := to_step (c := c) (k := i) (p := p) (acc := stq c 0 (b.take i)) (bb := some (.d (bn b))) (x1 := y2) (x2 := some (.d (.int p.1))) (x3 := y5) (x4 := y6) (by omega) (by omega) (by have := gp.len; omega) (by have := g.stq_le c i; omega)
      obtain ⟨z1, z2, z3, z4, z5, z6, rfl⟩ := z
      refine ⟨_, _, Eq.trans (by simp [DL.sSeq, DL.sNil, DL.sPass, DL.sBreak, DL.sCont, DL.sExpr, DL.sRet, DL.sRetN, DL.sIf, DL.sAsg, DL.sPar, DL.sAug, DL.sAugS, DL.gSet, DL.gTupD, DL.gsNil, DL.gsCons, DL.gSubD, DL.sFor, DL.iRng1D_eq, DL.mVar, DL.mC, DL.mNil, DL.mCons, DL.mCall, DL.mBin, DL.mNeg, DL.mMt, DL.mSl, DL.oNo, DL.oYes, DL.tOf, DL.tNotD, DL.tAndD, DL.tOrD, DL.tTru, DL.truD, DL.tTrue, DL.vAnd, DL.vOr, DL.vNot, DL.vIf, DL.vChain, DL.tupF, DL.lstF, DL.allD, DL.ev_add, DL.ev_sub, DL.ev_iadd, DL.ev_isub, DL.ev_lt, DL.ev_gt, DL.ev_le, DL.ev_ge, DL.ev_eq, DL.ev_ne, DL.ev_min, DL.ev_max, DL.ev_int, DL.ev_abs, DL.sz1, DL.sz2, DL.sz3, DL.sz4, DL.sz5, DL.sz6, DL.sz7, DL.sz8, DL.szp, pl]) e3, z1, z2, z3, z4, z5, z6, rfl, by rw [stq_take hp]⟩) ⟨none, none, none, none, none, none, rfl, rfl⟩
  simp only [Nat.zero_add, pairsF_len, List.length_map, List.take_length] at e
  have hs := sorted_ev (l := stq c 0 b) (S := [.lst (((stq c 0 b).map tI).map W.d)]) (w := .loc 0) (stq_ne g hc) (by simp only [deref, List.getElem?_cons_zero, allD_map, Option.map_some])
  refine ⟨[some (.d (bn b)), some (.d (tI c)), some (.loc 0), y1, y2, y3, y4, y5, y6], [.lst (((stq c 0 b).map tI).map W.d)], ?_⟩
  simp only [bn] at e ⊢
  simp [b_steps_to, DL.sSeq, DL.sNil, DL.sPass, DL.sBreak, DL.sCont, DL.sExpr, DL.sRet, DL.sRetN, DL.sIf, DL.sAsg, DL.sPar, DL.sAug, DL.sAugS, DL.gSet, DL.gTupD, DL.gsNil, DL.gsCons, DL.gSubD, DL.sFor, DL.iRng1D_eq, DL.mVar, DL.mC, DL.mNil, DL.mCons, DL.mCall, DL.mBin, DL.mNeg, DL.mMt, DL.mSl, DL.oNo, DL.oYes, DL.tOf, DL.tNotD, DL.tAndD, DL.tOrD, DL.tTru, DL.truD, DL.tTrue, DL.vAnd, DL.vOr, DL.vNot, DL.vIf, DL.vChain, DL.tupF, DL.lstF, DL.allD, DL.ev_add, DL.ev_sub, DL.ev_iadd, DL.ev_isub, DL.ev_lt, DL.ev_gt, DL.ev_le, DL.ev_ge, DL.ev_eq, DL.ev_ne, DL.ev_min, DL.ev_max, DL.ev_int, DL.ev_abs, DL.sz1, DL.sz2, DL.sz3, DL.sz4, DL.sz5, DL.sz6, DL.sz7, DL.sz8, DL.szp, lstB, iEnumD]
  simp at e hs
  simp [e, hs]
theorem part_snoc (c : List Int) (k n : Nat) (ms : List Mv) (m : Mv) : part c k (n, ms ++ [m]) = part c k (n, ms) ++ (if m.1 = c.getD k 0 then [c.set k m.2] else []) := by
  unfold part
  generalize c.getD k 0 = v
  simp only [List.filter_append, List.map_append]
  by_cases h : m.1 = v <;> simp [h]
theorem rep_ev {x : PyData} {q : Prop} [Decidable q] {S : Sto} : repL (.d (.list [x])) (.d (.int (if q then 1 else 0))) S = some (.d (.list (if q then [x] else [])), S) := by
  by_cases h : q
  · simp only [repL, deref, Option.bind_some, if_pos h]
    rw [if_pos ⟨by decide, by decide, by show 1 * Int.toNat 1 ≤ sizeLine; decide⟩]; rfl
  · simp only [repL, deref, Option.bind_some, if_neg h]
    rw [if_pos ⟨by decide, by decide, by show 1 * Int.toNat 0 ≤ sizeLine; decide⟩]; rfl
theorem lstep1 {c : List Int} {k : Nat} {m : Mv} {acc : List (List Int)} {bb : Option W} (hk : k < c.length) (hl : c.length ≤ 500) (ha : acc.length ≤ 100000) :
    L_l_steps_1 [bb, some (.d (tI c)), some (.loc 0), some (.d (.int (k : Nat))), some (.d (.int m.1)), some (.d (.int m.2))] [.lst ((acc.map tI).map W.d)] = some (.nx, [bb, some (.d (tI c)), some (.loc 0), some (.d (.int (k : Nat))), some (.d (.int m.1)), some (.d (.int m.2))], [.lst (((acc ++ (if m.1 = c.getD k 0 then [c.set k m.2] else [])).map tI).map W.d)]) := by
  have hix := fun S => idx_tI (S := S) hk
  generalize c.getD k 0 = v at hix ⊢
  have hi : ∀ S, DL.intD [.d (.bool (decide (m.1 = v)))] S = some (.d (.int (if m.1 = v then 1 else 0)), S) := fun S => by simp [DL.intD, on1]
  have hlen : acc.length + 1 ≤ sizeLine := sz_of (by omega)
  have hlen0 : acc.length ≤ sizeLine := sz_of (by omega)
  have e := fun S => rep_ev (x := tI (c.set k m.2)) (q := m.1 = v) (S := S)
  unfold L_l_steps_1
  simp only [sExpr, mMt, mVar, List.getElem?_cons_succ, List.getElem?_cons_zero, Option.bind_some, isLst, if_true, mCons, mNil, mBin, mCall, mSl, oNo, oYes, mC, sl_take, sl_drop, tupF, lstF, allD, Option.map_some, List.length_cons, List.length_nil, ev_add, sz1, add_tI (take_le hl), set_ev hk hl, hix, ev_eq, hi, e, extendF, onL, deref, Nat.zero_add]
  by_cases h : m.1 = v
  · simp [h, hlen]
  · simp [h, hlen0]
theorem lstep2 {c : List Int} {b : List Pl} {k : Nat} {p : Pl} {acc : List (List Int)} {x y : Option W} (hb : b[k]? = some p) (hk : k < c.length) (hl : c.length ≤ 500) (ha : acc.length + p.2.length ≤ 100000) :
    ∃ x' y', L_l_steps_2 [some (.d (bn b)), some (.d (tI c)), some (.loc 0), some (.d (.int (k : Nat))), x, y] [.lst ((acc.map tI).map W.d)] = some (.nx, [some (.d (bn b)), some (.d (tI c)), some (.loc 0), some (.d (.int (k : Nat))), x', y'], [.lst (((acc ++ part c k p).map tI).map W.d)]) := by
  obtain ⟨ρ', S', e, x', y', rfl, rfl⟩ := forL_J (g := gTupD 2 (gsCons (gSet 4) (gsCons (gSet 5) (gsNil)))) (F := L_l_steps_1) (ws := (p.2.map mv).map W.d) (k := 0)
    (J := fun i ρ S => ∃ x y, ρ = [some (.d (bn b)), some (.d (tI c)), some (.loc 0), some (.d (.int (k : Nat))), x, y] ∧ S = [.lst (((acc ++ part c k (p.1, p.2.take i)).map tI).map W.d)]) (ρ := [some (.d (bn b)), some (.d (tI c)), some (.loc 0), some (.d (.int (k : Nat))), x, y]) (S := [.lst ((acc.map tI).map W.d)]) (fun i w ρ S hw ⟨x, y, e1, e2⟩ => by
      subst e1 e2
      simp only [List.getElem?_map, Option.map_eq_some_iff, Nat.zero_add] at hw ⊢
      obtain ⟨_, ⟨m, hm, rfl⟩, rfl⟩ := hw
      have hpl := part_len c k (p.1, p.2.take i)
      simp only [List.length_take] at hpl
      have e3 := lstep1 (c := c) (k := k) (m := m) (acc := acc ++ part c k (p.1, p.2.take i)) (bb := some (.d (bn b))) hk hl (by rw [List.length_append]; omega)
      refine ⟨_, _, Eq.trans (by simp [DL.sSeq, DL.sNil, DL.sPass, DL.sBreak, DL.sCont, DL.sExpr, DL.sRet, DL.sRetN, DL.sIf, DL.sAsg, DL.sPar, DL.sAug, DL.sAugS, DL.gSet, DL.gTupD, DL.gsNil, DL.gsCons, DL.gSubD, DL.sFor, DL.iRng1D_eq, DL.mVar, DL.mC, DL.mNil, DL.mCons, DL.mCall, DL.mBin, DL.mNeg, DL.mMt, DL.mSl, DL.oNo, DL.oYes, DL.tOf, DL.tNotD, DL.tAndD, DL.tOrD, DL.tTru, DL.truD, DL.tTrue, DL.vAnd, DL.vOr, DL.vNot, DL.vIf, DL.vChain, DL.tupF, DL.lstF, DL.allD, DL.ev_add, DL.ev_sub, DL.ev_iadd, DL.ev_isub, DL.ev_lt, DL.ev_gt, DL.ev_le, DL.ev_ge, DL.ev_eq, DL.ev_ne, DL.ev_min, DL.ev_max, DL.ev_int, DL.ev_abs, DL.sz1, DL.sz2, DL.sz3, DL.sz4, DL.sz5, DL.sz6, DL.sz7, DL.sz8, DL.szp, mv]) e3, _, _, rfl, ?_⟩
      rw [take_snoc hm, part_snoc, List.append_assoc]) ⟨x, y, rfl, by simp [part]⟩
  simp only [Nat.zero_add, List.length_map, List.take_length] at e
  have hat : atI (b.map pl) (k : Int) = some (pl p) := atI_nat (by simp [hb])
  refine ⟨x', y', ?_⟩
  unfold L_l_steps_2
  have hi : iSeq (mBin idxD (mBin idxD (mVar 0) (mVar 3)) (mC (.int 1))) [some (.d (bn b)), some (.d (tI c)), some (.loc 0), some (.d (.int (k : Nat))), x, y] [.lst ((acc.map tI).map W.d)] = some ((p.2.map mv).map W.d, [.lst ((acc.map tI).map W.d)]) := by
    have h1 : ∀ S, idxD (.d (bn b)) (.d (.int (k : Nat))) S = some (.d (pl p), S) := fun S => by simp [idxD, bn, hat]
    have h2 : ∀ S, idxD (.d (pl p)) (.d (.int 1)) S = some (.d (.tuple (p.2.map mv)), S) := fun S => rfl
    simp [iSeq, DL.sSeq, DL.sNil, DL.sPass, DL.sBreak, DL.sCont, DL.sExpr, DL.sRet, DL.sRetN, DL.sIf, DL.sAsg, DL.sPar, DL.sAug, DL.sAugS, DL.gSet, DL.gTupD, DL.gsNil, DL.gsCons, DL.gSubD, DL.sFor, DL.iRng1D_eq, DL.mVar, DL.mC, DL.mNil, DL.mCons, DL.mCall, DL.mBin, DL.mNeg, DL.mMt, DL.mSl, DL.oNo, DL.oYes, DL.tOf, DL.tNotD, DL.tAndD, DL.tOrD, DL.tTru, DL.truD, DL.tTrue, DL.vAnd, DL.vOr, DL.vNot, DL.vIf, DL.vChain, DL.tupF, DL.lstF, DL.allD, DL.ev_add, DL.ev_sub, DL.ev_iadd, DL.ev_isub, DL.ev_lt, DL.ev_gt, DL.ev_le, DL.ev_ge, DL.ev_eq, DL.ev_ne, DL.ev_min, DL.ev_max, DL.ev_int, DL.ev_abs, DL.sz1, DL.sz2, DL.sz3, DL.sz4, DL.sz5, DL.sz6, DL.sz7, DL.sz8, DL.szp, h1, h2]
  simp only [sFor, hi, Option.bind_some]
  exact e
theorem l_steps_ok {b : List Pl} {c : List Int} (g : Good b) (hc : Fits c b) (S : Sto) : callF f_l_steps [.d (bn b), .d (tI c)] S = some (.d (.list (sortT (stp c 0 b))), S) := by
  refine callF_pure rfl (runF_ret0 ?_)
  have cl := fits_len hc
  have bl := g.len
  obtain ⟨ρ', S', e, x, y, z, rfl, rfl⟩ := forL_rng (g := gSet 3) (F := L_l_steps_2) (lo := 0) (n := b.length)
    (J := fun i ρ S => ∃ x y z, ρ = [some (.d (bn b)), some (.d (tI c)), some (.loc 0), x, y, z] ∧ S = [.lst (((stp c 0 (b.take i)).map tI).map W.d)]) (ρ := [some (.d (bn b)), some (.d (tI c)), some (.loc 0), none, none, none]) (S := [.lst []]) (fun i ρ S hi ⟨x, y, z, e1, e2⟩ => by
      subst e1 e2
      have hp : b[i]? = some b[i] := List.getElem?_eq_getElem hi
      have gp := g.pl b[i] (List.getElem_mem hi)
      obtain ⟨x', y', e3⟩ := lstep2 (c := c) (b := b) (k := i) (acc := stp c 0 (b.take i)) (x := y) (y := z) hp (by omega) (by omega) (by have := gp.len; have := g.stp_le c i; omega)
      refine ⟨_, _, Eq.trans (by simp [DL.sSeq, DL.sNil, DL.sPass, DL.sBreak, DL.sCont, DL.sExpr, DL.sRet, DL.sRetN, DL.sIf, DL.sAsg, DL.sPar, DL.sAug, DL.sAugS, DL.gSet, DL.gTupD, DL.gsNil, DL.gsCons, DL.gSubD, DL.sFor, DL.iRng1D_eq, DL.mVar, DL.mC, DL.mNil, DL.mCons, DL.mCall, DL.mBin, DL.mNeg, DL.mMt, DL.mSl, DL.oNo, DL.oYes, DL.tOf, DL.tNotD, DL.tAndD, DL.tOrD, DL.tTru, DL.truD, DL.tTrue, DL.vAnd, DL.vOr, DL.vNot, DL.vIf, DL.vChain, DL.tupF, DL.lstF, DL.allD, DL.ev_add, DL.ev_sub, DL.ev_iadd, DL.ev_isub, DL.ev_lt, DL.ev_gt, DL.ev_le, DL.ev_ge, DL.ev_eq, DL.ev_ne, DL.ev_min, DL.ev_max, DL.ev_int, DL.ev_abs, DL.sz1, DL.sz2, DL.sz3, DL.sz4, DL.sz5, DL.sz6, DL.sz7, DL.sz8, DL.szp]) e3, _, _, _, rfl, ?_⟩
      rw [stp_take hp]) ⟨none, none, none, rfl, by simp [stp]⟩
  rw [List.take_length] at e
  have hs := sorted_ev (l := stp c 0 b) (S := [.lst (((stp c 0 b).map tI).map W.d)]) (w := .loc 0) (stp_ne g hc) (by simp only [deref, List.getElem?_cons_zero, allD_map, Option.map_some])
  have hr := fun S => rng1_ok (n := b.length) (S := S) (by omega)
  refine ⟨[some (.d (bn b)), some (.d (tI c)), some (.loc 0), x, y, z], [.lst (((stp c 0 b).map tI).map W.d)], ?_⟩
  simp only [bn] at e ⊢
  simp [b_l_steps, DL.sSeq, DL.sNil, DL.sPass, DL.sBreak, DL.sCont, DL.sExpr, DL.sRet, DL.sRetN, DL.sIf, DL.sAsg, DL.sPar, DL.sAug, DL.sAugS, DL.gSet, DL.gTupD, DL.gsNil, DL.gsCons, DL.gSubD, DL.sFor, DL.iRng1D_eq, DL.mVar, DL.mC, DL.mNil, DL.mCons, DL.mCall, DL.mBin, DL.mNeg, DL.mMt, DL.mSl, DL.oNo, DL.oYes, DL.tOf, DL.tNotD, DL.tAndD, DL.tOrD, DL.tTru, DL.truD, DL.tTrue, DL.vAnd, DL.vOr, DL.vNot, DL.vIf, DL.vChain, DL.tupF, DL.lstF, DL.allD, DL.ev_add, DL.ev_sub, DL.ev_iadd, DL.ev_isub, DL.ev_lt, DL.ev_gt, DL.ev_le, DL.ev_ge, DL.ev_eq, DL.ev_ne, DL.ev_min, DL.ev_max, DL.ev_int, DL.ev_abs, DL.sz1, DL.sz2, DL.sz3, DL.sz4, DL.sz5, DL.sz6, DL.sz7, DL.sz8, DL.szp, lstB, lenD, on1, len0, hr]
  simp at e hs
  rw [e]
  simp [hs]

end K17
end
noncomputable section
namespace K17
open PySem PySem.Spec PyProof.Rows L2 DL
theorem set_same {S : Sto} {j : Nat} {ob : Ob} (h : S[j]? = some ob) : S.set j ob = S := by
  apply List.ext_getElem?
  intro i
  by_cases hi : j = i
  · subst hi
    rw [List.getElem?_set_self (List.getElem?_eq_some_iff.mp h).1, h]
  · rw [List.getElem?_set_ne hi]
/-! ### what is told is nice -/
theorem nice_c {b : List Pl} {c : List Int} (g : Good b) (h : Fits c b) (dp : Nat) : Nice 8 30 (dp + 1) (tI c) := by
  have hl := fits_len h
  have := g.len
  refine Nice.up (w := (5 + 1) * (c.map PyData.int).length) (niceTup (niceAll_of fun d hd => ?_)) (by rw [List.length_map]; omega) (Nat.le_refl _)
  obtain ⟨x, hx, rfl⟩ := List.mem_map.mp hd
  obtain ⟨k, hk, ek⟩ := List.getElem_of_mem hx
  have hb : b[k]? = some (b[k]'(by omega)) := List.getElem?_eq_getElem _
  obtain ⟨y, hy, h0, h1⟩ := fits_get h hb
  have : y = x := by rw [List.getElem?_eq_getElem hk, ek] at hy; exact (Option.some.inj hy).symm
  subst this
  have := (g.pl _ (List.mem_of_getElem? hb)).hi
  exact niceInt (k := 1) (by omega) (by decide) (by decide) (by decide)
theorem nice_cs {b : List Pl} {l : List (List Int)} (g : Good b) (h : ∀ c ∈ l, Fits c b) (dp : Nat) : Nice 8 (31 * l.length) (dp + 2) (.list (l.map tI)) := by
  have := niceList (B := 8) (niceAll_of (w := 30) (dp := dp + 1) (xs := l.map tI) fun d hd => by
    obtain ⟨c, hc, rfl⟩ := List.mem_map.mp hd
    exact nice_c g (h c hc) dp)
  rwa [List.length_map] at this
theorem nice_conts {b : List Pl} (g : Good b) (dp : Nat) : Nice 8 241056 (dp + 2) (.list ((conts b).map tI)) := (nice_cs g (fun c hc => (mem_conts _ rfl).mp hc) dp).up (by have := g.clen; omega) (Nat.le_refl _)
theorem nice_sort {b : List Pl} {l : List (List Int)} (g : Good b) (h : ∀ c ∈ l, Fits c b) (hl : l.length ≤ 180) : Nice 8 5580 2 (.list (sortT l)) := by
  obtain ⟨r, hr, e⟩ := sortT_ex l
  rw [e]
  exact (nice_cs g (fun c hc => h c (hr.subset hc)) 0).up (by rw [hr.length_eq]; omega) (Nat.le_refl _)
theorem nice_pl {p : Pl} (g : GoodP p) : Nice 8 475 3 (pl p) := by
  have h1 : NiceAll 8 ((12 + 1) * (p.2.map mv).length) 1 (p.2.map mv) := niceAll_of fun d hd => by
    obtain ⟨m, hm, rfl⟩ := List.mem_map.mp hd
    have := g.mv m hm
    have := g.hi
    exact niceTup (niceCons (w := 5) (w' := 6) (niceInt (k := 1) (by omega) (by decide) (by decide) (by decide)) (niceCons (w := 5) (w' := 0) (niceInt (k := 1) (by omega) (by decide) (by decide) (by decide)) niceNil))
  rw [List.length_map] at h1
  have h2 := g.len; have h3 := g.hi
  have : Nice 8 (5 + 1 + ((12 + 1) * p.2.length + 1 + 0)) (2 + 1) (pl p) := niceTup (niceCons (niceInt (k := 1) (by omega) (by decide) (by decide) (by decide)) (niceCons (niceTup h1) niceNil))
  exact this.up (by omega) (Nat.le_refl _)
theorem nice_bn {b : List Pl} (g : Good b) : Nice 8 2380 4 (bn b) := by
  have h1 : NiceAll 8 ((475 + 1) * (b.map pl).length) 3 (b.map pl) := niceAll_of fun d hd => by
    obtain ⟨p, hp, rfl⟩ := List.mem_map.mp hd
    exact nice_pl (g.pl p hp)
  rw [List.length_map] at h1
  have := g.len
  exact (niceTup h1).up (by omega) (Nat.le_refl _)
/-! ### the table of who comes -/
def kc (c : List Int) : List Key := c.map Sum.inl
theorem keys_tI (c : List Int) : keysD (c.map PyData.int) = some (kc c) := by
  induction c with
  | nil => rfl
  | cons x c ih => simp [keysD, keyD, ih, kc]
theorem kc_inj {a b : List Int} (h : kc a = kc b) : a = b := by
  induction a generalizing b with
  | nil =>
    cases b with
    | nil => rfl
    | cons y b => simp [kc] at h
  | cons x a ih =>
    cases b with
    | nil => simp [kc] at h
    | cons y b =>
      simp only [kc, List.map_cons, List.cons.injEq] at h
      rw [ih h.2, Sum.inl.inj h.1]
def every (n : Nat) : List Mv := ((List.range n).map fun v : Nat => ((List.range n).filter fun w : Nat => !decide (w = v)).map fun w : Nat => ((v : Int), (w : Int))).flatten
theorem good_sub {n : Nat} {l : List Mv} (h1 : 2 ≤ n) (h2 : n ≤ 6) (hl : l.length ≤ 36) (h : ∀ m ∈ l, m ∈ every n) : GoodP (n, l) := by
  refine ⟨h1, h2, hl, fun m hm => ?_⟩
  have := h m hm
  unfold every at this
  obtain ⟨a, ha, hb⟩ := List.mem_flatten.mp this
  obtain ⟨v, hv, rfl⟩ := List.mem_map.mp ha
  obtain ⟨w, hw, rfl⟩ := List.mem_map.mp hb
  have := List.mem_range.mp hv
  have := List.mem_range.mp (List.mem_filter.mp hw).1
  simp only
  omega
theorem every_len {n : Nat} (h : n ≤ 6) : (every n).length ≤ 36 := by
  have : n = 0 ∨ n = 1 ∨ n = 2 ∨ n = 3 ∨ n = 4 ∨ n = 5 ∨ n = 6 := by omega
  rcases this with rfl | rfl | rfl | rfl | rfl | rfl | rfl <;> decide +kernel
theorem mvs_tI (l : List Mv) : l.map mv = (l.map fun q => [q.1, q.2]).map tI := by rw [List.map_map]; rfl
theorem ev_in2 {i a b : Int} {S : Sto} : inA false (.d (.int i)) (.d (.tuple [.int a, .int b])) S = some (.d (.bool (decide (i ∈ [a, b]))), S) := ev_inI (xs := [a, b])
/-- [(v, w) for v, w in every if ..] -/
theorem pick_ok {l : List Mv} {T : MT} {P : Mv → Bool} {ρ : DEnv} {S : Sto} {z0 z1 z2 z3 z5 z6 : Option W} (hl : l.length ≤ 1000) (hρ : ρ = [z0, z1, z2, z3, some (.d (.list (l.map mv))), z5, z6])
    (hT : ∀ m ∈ l, T [z0, z1, z2, z3, some (.d (.list (l.map mv))), some (.d (.int m.1)), some (.d (.int m.2))] S = some (P m, S)) :
    mLc (iSeq (mVar 4)) (gTupD 2 (gsCons (gSet 5) (gsCons (gSet 6) (gsNil)))) T (mCall tupF (mCons (mVar 5) (mCons (mVar 6) (mNil)))) [5, 6] kFrz ρ S = some (.d (.list ((l.filter P).map mv)), S) := by
  subst hρ
  refine lc_e mv P mv (l := l) (by simp [iSeq, mVar]) (fun m hm => ⟨[z0, z1, z2, z3, some (.d (.list (l.map mv))), some (.d (.int m.1)), some (.d (.int m.2))], by simp [DL.sSeq, DL.sNil, DL.sPass, DL.sBreak, DL.sCont, DL.sExpr, DL.sRet, DL.sRetN, DL.sIf, DL.sAsg, DL.sPar, DL.sAug, DL.sAugS, DL.gSet, DL.gTupD, DL.gsNil, DL.gsCons, DL.gSubD, DL.sFor, DL.iRng1D_eq, DL.mVar, DL.mC, DL.mNil, DL.mCons, DL.mCall, DL.mBin, DL.mNeg, DL.mMt, DL.mSl, DL.oNo, DL.oYes, DL.tOf, DL.tNotD, DL.tAndD, DL.tOrD, DL.tTru, DL.truD, DL.tTrue, DL.vAnd, DL.vOr, DL.vNot, DL.vIf, DL.vChain, DL.tupF, DL.lstF, DL.allD, DL.ev_add, DL.ev_sub, DL.ev_iadd, DL.ev_isub, DL.ev_lt, DL.ev_gt, DL.ev_le, DL.ev_ge, DL.ev_eq, DL.ev_ne, DL.ev_min, DL.ev_max, DL.ev_int, DL.ev_abs, DL.sz1, DL.sz2, DL.sz3, DL.sz4, DL.sz5, DL.sz6, DL.sz7, DL.sz8, DL.szp, wipeD, mv], hT m hm, fun _ => by simp [DL.sSeq, DL.sNil, DL.sPass, DL.sBreak, DL.sCont, DL.sExpr, DL.sRet, DL.sRetN, DL.sIf, DL.sAsg, DL.sPar, DL.sAug, DL.sAugS, DL.gSet, DL.gTupD, DL.gsNil, DL.gsCons, DL.gSubD, DL.sFor, DL.iRng1D_eq, DL.mVar, DL.mC, DL.mNil, DL.mCons, DL.mCall, DL.mBin, DL.mNeg, DL.mMt, DL.mSl, DL.oNo, DL.oYes, DL.tOf, DL.tNotD, DL.tAndD, DL.tOrD, DL.tTru, DL.truD, DL.tTrue, DL.vAnd, DL.vOr, DL.vNot, DL.vIf, DL.vChain, DL.tupF, DL.lstF, DL.allD, DL.ev_add, DL.ev_sub, DL.ev_iadd, DL.ev_isub, DL.ev_lt, DL.ev_gt, DL.ev_le, DL.ev_ge, DL.ev_eq, DL.ev_ne, DL.ev_min, DL.ev_max, DL.ev_int, DL.ev_abs, DL.sz1, DL.sz2, DL.sz3, DL.sz4, DL.sz5, DL.sz6, DL.sz7, DL.sz8, DL.szp, mv]⟩) (Nat.le_trans (List.length_filter_le _ _) (sz_of (by omega)))
theorem every_ok {n : Nat} {z0 z1 z3 z4 z5 z6 : Option W} (hn : n ≤ 6) (S : Sto) :
    sAsg (mCall (callF f_l_flat) (mCons (mLc (iRng1D (mCons (mVar 2) (mNil))) (gSet 5) (tTrue) (mLc (iRng1D (mCons (mVar 2) (mNil))) (gSet 6) (tOf (mBin (eqA true) (mVar 6) (mVar 5))) (mCall tupF (mCons (mVar 5) (mCons (mVar 6) (mNil)))) [6] kFrz) [5] kFrz) (mNil))) (gSet 4) [z0, z1, some (.d (.int n)), z3, z4, z5, z6] S =
      some (.nx, [z0, z1, some (.d (.int n)), z3, some (.d (.list ((every n).map mv))), z5, z6], S) := by
  have hr := fun S => rng1_ok (n := n) (S := S) (by omega)
  have hi : ∀ (z5 z6 : Option W) S, iRng1D (mCons (mVar 2) (mNil)) [z0, z1, some (.d (.int n)), z3, z4, z5, z6] S = some (((List.range n).map fun v : Nat => PyData.int v).map W.d, S) := fun z5 z6 S => by
    rw [← rng_e, iRng1D_eq]
    simp [mCons, mVar, mNil, hr]
  have e := lc_e (it := iRng1D (mCons (mVar 2) (mNil))) (g := gSet 5) (T := tTrue) (E := mLc (iRng1D (mCons (mVar 2) (mNil))) (gSet 6) (tOf (mBin (eqA true) (mVar 6) (mVar 5))) (mCall tupF (mCons (mVar 5) (mCons (mVar 6) (mNil)))) [6] kFrz) (vs := [5]) (ρ := [z0, z1, some (.d (.int n)), z3, z4, z5, z6]) (S := S) (fun v : Nat => PyData.int v) (fun _ => true)
    (fun v => .list ((((List.range n).filter fun w : Nat => !decide (w = v)).map fun w : Nat => ((v : Int), (w : Int))).map mv)) (l := List.range n) (hi z5 z6 S) (fun v _ => by
      refine ⟨[z0, z1, some (.d (.int n)), z3, z4, some (.d (.int v)), z6], by simp [DL.sSeq, DL.sNil, DL.sPass, DL.sBreak, DL.sCont, DL.sExpr, DL.sRet, DL.sRetN, DL.sIf, DL.sAsg, DL.sPar, DL.sAug, DL.sAugS, DL.gSet, DL.gTupD, DL.gsNil, DL.gsCons, DL.gSubD, DL.sFor, DL.iRng1D_eq, DL.mVar, DL.mC, DL.mNil, DL.mCons, DL.mCall, DL.mBin, DL.mNeg, DL.mMt, DL.mSl, DL.oNo, DL.oYes, DL.tOf, DL.tNotD, DL.tAndD, DL.tOrD, DL.tTru, DL.truD, DL.tTrue, DL.vAnd, DL.vOr, DL.vNot, DL.vIf, DL.vChain, DL.tupF, DL.lstF, DL.allD, DL.ev_add, DL.ev_sub, DL.ev_iadd, DL.ev_isub, DL.ev_lt, DL.ev_gt, DL.ev_le, DL.ev_ge, DL.ev_eq, DL.ev_ne, DL.ev_min, DL.ev_max, DL.ev_int, DL.ev_abs, DL.sz1, DL.sz2, DL.sz3, DL.sz4, DL.sz5, DL.sz6, DL.sz7, DL.sz8, DL.szp, wipeD], rfl, fun _ => ?_⟩
      have := lc_e (it := iRng1D (mCons (mVar 2) (mNil))) (g := gSet 6) (T := tOf (mBin (eqA true) (mVar 6) (mVar 5))) (E := mCall tupF (mCons (mVar 5) (mCons (mVar 6) (mNil)))) (vs := [6]) (ρ := [z0, z1, some (.d (.int n)), z3, z4, some (.d (.int v)), z6]) (S := S) (fun w : Nat => PyData.int w) (fun w => !decide (w = v)) (fun w => mv ((v : Int), (w : Int))) (l := List.range n) (hi _ z6 S) (fun w _ => by
        refine ⟨[z0, z1, some (.d (.int n)), z3, z4, some (.d (.int v)), some (.d (.int w))], by simp [DL.sSeq, DL.sNil, DL.sPass, DL.sBreak, DL.sCont, DL.sExpr, DL.sRet, DL.sRetN, DL.sIf, DL.sAsg, DL.sPar, DL.sAug, DL.sAugS, DL.gSet, DL.gTupD, DL.gsNil, DL.gsCons, DL.gSubD, DL.sFor, DL.iRng1D_eq, DL.mVar, DL.mC, DL.mNil, DL.mCons, DL.mCall, DL.mBin, DL.mNeg, DL.mMt, DL.mSl, DL.oNo, DL.oYes, DL.tOf, DL.tNotD, DL.tAndD, DL.tOrD, DL.tTru, DL.truD, DL.tTrue, DL.vAnd, DL.vOr, DL.vNot, DL.vIf, DL.vChain, DL.tupF, DL.lstF, DL.allD, DL.ev_add, DL.ev_sub, DL.ev_iadd, DL.ev_isub, DL.ev_lt, DL.ev_gt, DL.ev_le, DL.ev_ge, DL.ev_eq, DL.ev_ne, DL.ev_min, DL.ev_max, DL.ev_int, DL.ev_abs, DL.sz1, DL.sz2, DL.sz3, DL.sz4, DL.sz5, DL.sz6, DL.sz7, DL.sz8, DL.szp, wipeD], ?_, fun _ => by simp [DL.sSeq, DL.sNil, DL.sPass, DL.sBreak, DL.sCont, DL.sExpr, DL.sRet, DL.sRetN, DL.sIf, DL.sAsg, DL.sPar, DL.sAug, DL.sAugS, DL.gSet, DL.gTupD, DL.gsNil, DL.gsCons, DL.gSubD, DL.sFor, DL.iRng1D_eq, DL.mVar, DL.mC, DL.mNil, DL.mCons, DL.mCall, DL.mBin, DL.mNeg, DL.mMt, DL.mSl, DL.oNo, DL.oYes, DL.tOf, DL.tNotD, DL.tAndD, DL.tOrD, DL.tTru, DL.truD, DL.tTrue, DL.vAnd, DL.vOr, DL.vNot, DL.vIf, DL.vChain, DL.tupF, DL.lstF, DL.allD, DL.ev_add, DL.ev_sub, DL.ev_iadd, DL.ev_isub, DL.ev_lt, DL.ev_gt, DL.ev_le, DL.ev_ge, DL.ev_eq, DL.ev_ne, DL.ev_min, DL.ev_max, DL.ev_int, DL.ev_abs, DL.sz1, DL.sz2, DL.sz3, DL.sz4, DL.sz5, DL.sz6, DL.sz7, DL.sz8, DL.szp, mv]⟩
        simp [DL.sSeq, DL.sNil, DL.sPass, DL.sBreak, DL.sCont, DL.sExpr, DL.sRet, DL.sRetN, DL.sIf, DL.sAsg, DL.sPar, DL.sAug, DL.sAugS, DL.gSet, DL.gTupD, DL.gsNil, DL.gsCons, DL.gSubD, DL.sFor, DL.iRng1D_eq, DL.mVar, DL.mC, DL.mNil, DL.mCons, DL.mCall, DL.mBin, DL.mNeg, DL.mMt, DL.mSl, DL.oNo, DL.oYes, DL.tOf, DL.tNotD, DL.tAndD, DL.tOrD, DL.tTru, DL.truD, DL.tTrue, DL.vAnd, DL.vOr, DL.vNot, DL.vIf, DL.vChain, DL.tupF, DL.lstF, DL.allD, DL.ev_add, DL.ev_sub, DL.ev_iadd, DL.ev_isub, DL.ev_lt, DL.ev_gt, DL.ev_le, DL.ev_ge, DL.ev_eq, DL.ev_ne, DL.ev_min, DL.ev_max, DL.ev_int, DL.ev_abs, DL.sz1, DL.sz2, DL.sz3, DL.sz4, DL.sz5, DL.sz6, DL.sz7, DL.sz8, DL.szp]; omega) (Nat.le_trans (List.length_filter_le _ _) (by rw [List.length_range]; exact sz_of (by omega)))
      rw [this, List.map_map]; rfl) (by
      rw [List.filter_eq_self.mpr fun _ _ => rfl, List.length_range]
      exact sz_of (by omega))
  rw [List.filter_eq_self.mpr fun _ _ => rfl] at e
  have hm : ((List.range n).map fun v : Nat => (((List.range n).filter fun w : Nat => !decide (w = v)).map fun w : Nat => ((v : Int), (w : Int))).map mv).flatten = (every n).map mv := by
    unfold every
    rw [List.map_flatten, List.map_map]; rfl
  have hf := flat_ok ((List.range n).map fun v : Nat => (((List.range n).filter fun w : Nat => !decide (w = v)).map fun w : Nat => ((v : Int), (w : Int))).map mv) (by
    rw [hm, List.length_map]; exact sz_of (by have := every_len hn; omega)) S
  rw [hm, List.map_map] at hf
  simp only [Function.comp_def] at hf
  simp only [sAsg, mCall, mCons, mNil, e, Option.bind_some, e_flat, hf]
  simp [gSet]
/-- the places' end -/
theorem tup_ok {n : Nat} {l : List Mv} {A : ME} {ρ : DEnv} {S S1 : Sto} (h2 : ρ[2]? = some (some (.d (.int n)))) (h : A ρ S = some (.d (.list (l.map mv)), S1)) :
    sRet (mCall tupF (mCons (mVar 2) (mCons (mCall tupleD (mCons A (mNil))) (mNil)))) ρ S = some (.rt (.d (pl (n, l))), ρ, S1) := by
  simp only [sRet, mCall, mCons, mNil, mVar, h2, Option.bind_some, h, tupleD, on1, deref, tupF, allD, Option.map_some, List.length_cons, List.length_nil]
  rw [if_pos (show 0 + 1 + 1 ≤ sizeLine from sz2)]
  rfl
theorem if_t {T : MT} {F G : MS} {ρ : DEnv} {S : Sto} (h : T ρ S = some (true, S)) : sIf T F G ρ S = F ρ S := by simp [sIf, h]
theorem if_f {T : MT} {F G : MS} {ρ : DEnv} {S : Sto} (h : T ρ S = some (false, S)) : sIf T F G ρ S = G ρ S := by simp [sIf, h]
def ways : List Int := [0, 0, 0, 2, 2, 4, 4, 2, 5, 6, 7]
theorem place_ok {c n : Nat} {most : Int} {ob : Ob} {S : Sto} (hS : S[n]? = some ob) (hb : BagOk c ob) (hc : c + 100 < 2 ^ 1000) (h2 : 2 ≤ most) (h6 : most ≤ 6) :
    ∃ p ob', callF f_l_place [.loc n, .d (.int most)] S = some (.d (pl p), S.set n ob') ∧ GoodP p ∧ BagOk (c + 50) ob' := by
  obtain ⟨v, ob1, e1, v0, v1, hb1⟩ := take_ok (S := [ob]) (n := 0) (upto := most - 1) rfl hb (by omega) (by omega) (by
    have : (most - 1).natAbs.log2 ≤ 3 := lg_le (by omega)
    omega)
  obtain ⟨x, hx, ob2, e2, hb2⟩ := some_ok (S := [ob1]) (n := 0) (xs := ways.map .int) rfl hb1 (by omega) (by decide) (by decide)
  obtain ⟨way, hway, rfl⟩ := List.mem_map.mp hx
  obtain ⟨m, hm⟩ : ∃ m : Nat, 2 + v = m := ⟨(2 + v).toNat, by omega⟩
  have hm2 : 2 ≤ m := by omega
  have hm6 : m ≤ 6 := by omega
  have el := every_len hm6
  have hlw : ([PyData.int 0, .int 0, .int 0, .int 2, .int 2, .int 4, .int 4, .int 2, .int 5, .int 6, .int 7] : List PyData) = ways.map .int := rfl
  have hend : ∀ (l : List Mv) (ob3 : Ob), BagOk (c + 50) ob3 → GoodP (m, l) → (∃ ρ' S', b_l_place [some (.loc 0), some (.d (.int most)), none, none, none, none, none] [ob] = some (.rt (.d (pl (m, l))), ρ', ob3 :: S')) →
      ∃ p ob', callF f_l_place [.loc n, .d (.int most)] S = some (.d (pl p), S.set n ob') ∧ GoodP p ∧ BagOk (c + 50) ob' := fun l ob3 h3 hg ⟨ρ', S', h⟩ =>
    ⟨(m, l), ob3, callF_loc (n := n) rfl (by simp [allLoc]) hS hb.obD (runF_ret1 ⟨ρ', S', h⟩ h3.obD) h3.obD, hg, h3⟩
  have st : ∀ R : MS, sSeq (sAsg (mBin addA (mC (.int 2)) (mCall (callF f_l_take) (mCons (mVar 0) (mCons (mBin subD (mVar 1) (mC (.int 1))) (mNil))))) (gSet 2))
      (sSeq (sAsg (mCall (callF f_l_some) (mCons (mVar 0) (mCons (mCall lstF (mCons (mC (.int 0)) (mCons (mC (.int 0)) (mCons (mC (.int 0)) (mCons (mC (.int 2)) (mCons (mC (.int 2)) (mCons (mC (.int 4)) (mCons (mC (.int 4)) (mCons (mC (.int 2)) (mCons (mC (.int 5)) (mCons (mC (.int 6)) (mCons (mC (.int 7)) (mNil))))))))))))) (mNil)))) (gSet 3))
      (sSeq (sAsg (mCall (callF f_l_flat) (mCons (mLc (iRng1D (mCons (mVar 2) (mNil))) (gSet 5) (tTrue) (mLc (iRng1D (mCons (mVar 2) (mNil))) (gSet 6) (tOf (mBin (eqA true) (mVar 6) (mVar 5))) (mCall tupF (mCons (mVar 5) (mCons (mVar 6) (mNil)))) [6] kFrz) [5] kFrz) (mNil))) (gSet 4)) R)) [some (.loc 0), some (.d (.int most)), none, none, none, none, none] [ob] =
      R [some (.loc 0), some (.d (.int most)), some (.d (.int m)), some (.d (.int way)), some (.d (.list ((every m).map mv))), none, none] [ob2] := fun R => by
    simp only [List.set_cons_zero] at e1 e2
    rw [seq_nx (ρ1 := [some (.loc 0), some (.d (.int most)), some (.d (.int m)), none, none, none, none]) (S1 := [ob1]) (by
      simp [DL.sSeq, DL.sNil, DL.sPass, DL.sBreak, DL.sCont, DL.sExpr, DL.sRet, DL.sRetN, DL.sIf, DL.sAsg, DL.sPar, DL.sAug, DL.sAugS, DL.gSet, DL.gTupD, DL.gsNil, DL.gsCons, DL.gSubD, DL.sFor, DL.iRng1D_eq, DL.mVar, DL.mC, DL.mNil, DL.mCons, DL.mCall, DL.mBin, DL.mNeg, DL.mMt, DL.mSl, DL.oNo, DL.oYes, DL.tOf, DL.tNotD, DL.tAndD, DL.tOrD, DL.tTru, DL.truD, DL.tTrue, DL.vAnd, DL.vOr, DL.vNot, DL.vIf, DL.vChain, DL.tupF, DL.lstF, DL.allD, DL.ev_add, DL.ev_sub, DL.ev_iadd, DL.ev_isub, DL.ev_lt, DL.ev_gt, DL.ev_le, DL.ev_ge, DL.ev_eq, DL.ev_ne, DL.ev_min, DL.ev_max, DL.ev_int, DL.ev_abs, DL.sz1, DL.sz2, DL.sz3, DL.sz4, DL.sz5, DL.sz6, DL.sz7, DL.sz8, DL.szp, e_take, e1, hm])]
    rw [seq_nx (ρ1 := [some (.loc 0), some (.d (.int most)), some (.d (.int m)), some (.d (.int way)), none, none, none]) (S1 := [ob2]) (by
      have h11 : (11 : Nat) ≤ sizeLine := by decide
      simp only [sAsg, mCall, mCons, mNil, mC, mVar, List.getElem?_cons_zero, Option.bind_some, lstF, allD, Option.map_some, hlw, e_some]
      rw [if_pos (show (ways.map PyData.int).length ≤ sizeLine by decide)]
      simp only [Option.bind_some, e2]
      simp [gSet])]
    rw [seq_nx (every_ok hm6 _)]
  have c1 := hb2.up (d := c + 50) (by omega)
  have hsub : ∀ P : Mv → Bool, GoodP (m, (every m).filter P) := fun P => good_sub hm2 hm6 (Nat.le_trans (List.length_filter_le _ _) el) fun q hq => (List.mem_filter.mp hq).1
  have hmod := fun (z : Int) S => ev_mod (S := S) (i := z) (j := (m : Int)) (by omega)
  have near := pick_ok (l := every m) (T := tOf (mBin (inA false) (mBin subD (mVar 5) (mVar 6)) (mCall tupF (mCons (mC (.int 1)) (mCons (mNeg (mC (.int 1))) (mNil)))))) (P := fun q => decide (q.1 - q.2 ∈ [(1 : Int), -1])) (z0 := some (.loc 0)) (z1 := some (.d (.int most))) (z2 := some (.d (.int m))) (z3 := some (.d (.int way))) (z5 := none) (z6 := none) (S := [ob2]) (by omega) rfl (fun q _ => by simp [DL.sSeq, DL.sNil, DL.sPass, DL.sBreak, DL.sCont, DL.sExpr, DL.sRet, DL.sRetN, DL.sIf, DL.sAsg, DL.sPar, DL.sAug, DL.sAugS, DL.gSet, DL.gTupD, DL.gsNil, DL.gsCons, DL.gSubD, DL.sFor, DL.iRng1D_eq, DL.mVar, DL.mC, DL.mNil, DL.mCons, DL.mCall, DL.mBin, DL.mNeg, DL.mMt, DL.mSl, DL.oNo, DL.oYes, DL.tOf, DL.tNotD, DL.tAndD, DL.tOrD, DL.tTru, DL.truD, DL.tTrue, DL.vAnd, DL.vOr, DL.vNot, DL.vIf, DL.vChain, DL.tupF, DL.lstF, DL.allD, DL.ev_add, DL.ev_sub, DL.ev_iadd, DL.ev_isub, DL.ev_lt, DL.ev_gt, DL.ev_le, DL.ev_ge, DL.ev_eq, DL.ev_ne, DL.ev_min, DL.ev_max, DL.ev_int, DL.ev_abs, DL.sz1, DL.sz2, DL.sz3, DL.sz4, DL.sz5, DL.sz6, DL.sz7, DL.sz8, DL.szp, ev_in2])
  have round := pick_ok (l := every m) (T := tOf (mBin (inA false) (mBin modD (mCall DL.intD (mCons (mBin subD (mVar 5) (mVar 6)) (mNil))) (mVar 2)) (mCall tupF (mCons (mC (.int 1)) (mCons (mBin subD (mVar 2) (mC (.int 1))) (mNil)))))) (P := fun q => decide ((q.1 - q.2) % (m : Int) ∈ [(1 : Int), (m : Int) - 1])) (z0 := some (.loc 0)) (z1 := some (.d (.int most))) (z2 := some (.d (.int m))) (z3 := some (.d (.int way))) (z5 := none) (z6 := none) (S := [ob2]) (by omega) rfl (fun q _ => by simp [DL.sSeq, DL.sNil, DL.sPass, DL.sBreak, DL.sCont, DL.sExpr, DL.sRet, DL.sRetN, DL.sIf, DL.sAsg, DL.sPar, DL.sAug, DL.sAugS, DL.gSet, DL.gTupD, DL.gsNil, DL.gsCons, DL.gSubD, DL.sFor, DL.iRng1D_eq, DL.mVar, DL.mC, DL.mNil, DL.mCons, DL.mCall, DL.mBin, DL.mNeg, DL.mMt, DL.mSl, DL.oNo, DL.oYes, DL.tOf, DL.tNotD, DL.tAndD, DL.tOrD, DL.tTru, DL.truD, DL.tTrue, DL.vAnd, DL.vOr, DL.vNot, DL.vIf, DL.vChain, DL.tupF, DL.lstF, DL.allD, DL.ev_add, DL.ev_sub, DL.ev_iadd, DL.ev_isub, DL.ev_lt, DL.ev_gt, DL.ev_le, DL.ev_ge, DL.ev_eq, DL.ev_ne, DL.ev_min, DL.ev_max, DL.ev_int, DL.ev_abs, DL.sz1, DL.sz2, DL.sz3, DL.sz4, DL.sz5, DL.sz6, DL.sz7, DL.sz8, DL.szp, ev_in2, hmod])
  have rise := pick_ok (l := every m) (T := tAndD (tOf (mBin ltD (mVar 5) (mVar 6))) (tOrD (tOf (mBin (eqA false) (mVar 3) (mC (.int 5)))) (tOf (mBin (eqA false) (mVar 6) (mBin addA (mVar 5) (mC (.int 1))))))) (P := fun q => decide (q.1 < q.2) && (decide (way = 5) || decide (q.2 = q.1 + 1))) (z0 := some (.loc 0)) (z1 := some (.d (.int most))) (z2 := some (.d (.int m))) (z3 := some (.d (.int way))) (z5 := none) (z6 := none) (S := [ob2]) (by omega) rfl (fun q _ => by
    by_cases h1 : q.1 < q.2 <;> by_cases h2 : way = 5 <;> simp [DL.sSeq, DL.sNil, DL.sPass, DL.sBreak, DL.sCont, DL.sExpr, DL.sRet, DL.sRetN, DL.sIf, DL.sAsg, DL.sPar, DL.sAug, DL.sAugS, DL.gSet, DL.gTupD, DL.gsNil, DL.gsCons, DL.gSubD, DL.sFor, DL.iRng1D_eq, DL.mVar, DL.mC, DL.mNil, DL.mCons, DL.mCall, DL.mBin, DL.mNeg, DL.mMt, DL.mSl, DL.oNo, DL.oYes, DL.tOf, DL.tNotD, DL.tAndD, DL.tOrD, DL.tTru, DL.truD, DL.tTrue, DL.vAnd, DL.vOr, DL.vNot, DL.vIf, DL.vChain, DL.tupF, DL.lstF, DL.allD, DL.ev_add, DL.ev_sub, DL.ev_iadd, DL.ev_isub, DL.ev_lt, DL.ev_gt, DL.ev_le, DL.ev_ge, DL.ev_eq, DL.ev_ne, DL.ev_min, DL.ev_max, DL.ev_int, DL.ev_abs, DL.sz1, DL.sz2, DL.sz3, DL.sz4, DL.sz5, DL.sz6, DL.sz7, DL.sz8, DL.szp, h1, h2])
  have ρ2 : ([some (.loc 0), some (.d (.int most)), some (.d (.int m)), some (.d (.int way)), some (.d (.list ((every m).map mv))), none, none] : DEnv)[2]? = some (some (.d (.int m))) := rfl
  obtain ⟨ρ, hρ⟩ : ∃ ρ : DEnv, [some (.loc 0), some (.d (.int most)), some (.d (.int m)), some (.d (.int way)), some (.d (.list ((every m).map mv))), none, none] = ρ := ⟨_, rfl⟩
  have t1 : tOf (mBin ltD (mVar 3) (mC (.int 2))) ρ [ob2] = some (decide (way < 2), [ob2]) := by subst hρ; simp [DL.sSeq, DL.sNil, DL.sPass, DL.sBreak, DL.sCont, DL.sExpr, DL.sRet, DL.sRetN, DL.sIf, DL.sAsg, DL.sPar, DL.sAug, DL.sAugS, DL.gSet, DL.gTupD, DL.gsNil, DL.gsCons, DL.gSubD, DL.sFor, DL.iRng1D_eq, DL.mVar, DL.mC, DL.mNil, DL.mCons, DL.mCall, DL.mBin, DL.mNeg, DL.mMt, DL.mSl, DL.oNo, DL.oYes, DL.tOf, DL.tNotD, DL.tAndD, DL.tOrD, DL.tTru, DL.truD, DL.tTrue, DL.vAnd, DL.vOr, DL.vNot, DL.vIf, DL.vChain, DL.tupF, DL.lstF, DL.allD, DL.ev_add, DL.ev_sub, DL.ev_iadd, DL.ev_isub, DL.ev_lt, DL.ev_gt, DL.ev_le, DL.ev_ge, DL.ev_eq, DL.ev_ne, DL.ev_min, DL.ev_max, DL.ev_int, DL.ev_abs, DL.sz1, DL.sz2, DL.sz3, DL.sz4, DL.sz5, DL.sz6, DL.sz7, DL.sz8, DL.szp]
  have t2 : tOrD (tOf (mBin ltD (mVar 3) (mC (.int 4)))) (tAndD (tOf (mBin (eqA false) (mVar 3) (mC (.int 4)))) (tOf (mBin ltD (mVar 2) (mC (.int 3))))) ρ [ob2] = some (decide (way < 4) || (decide (way = 4) && decide ((m : Int) < 3)), [ob2]) := by
    subst hρ
    by_cases h1 : way < 4 <;> by_cases h2 : way = 4 <;> simp [DL.sSeq, DL.sNil, DL.sPass, DL.sBreak, DL.sCont, DL.sExpr, DL.sRet, DL.sRetN, DL.sIf, DL.sAsg, DL.sPar, DL.sAug, DL.sAugS, DL.gSet, DL.gTupD, DL.gsNil, DL.gsCons, DL.gSubD, DL.sFor, DL.iRng1D_eq, DL.mVar, DL.mC, DL.mNil, DL.mCons, DL.mCall, DL.mBin, DL.mNeg, DL.mMt, DL.mSl, DL.oNo, DL.oYes, DL.tOf, DL.tNotD, DL.tAndD, DL.tOrD, DL.tTru, DL.truD, DL.tTrue, DL.vAnd, DL.vOr, DL.vNot, DL.vIf, DL.vChain, DL.tupF, DL.lstF, DL.allD, DL.ev_add, DL.ev_sub, DL.ev_iadd, DL.ev_isub, DL.ev_lt, DL.ev_gt, DL.ev_le, DL.ev_ge, DL.ev_eq, DL.ev_ne, DL.ev_min, DL.ev_max, DL.ev_int, DL.ev_abs, DL.sz1, DL.sz2, DL.sz3, DL.sz4, DL.sz5, DL.sz6, DL.sz7, DL.sz8, DL.szp, h1, h2]
  have t3 : tOf (mBin (eqA false) (mVar 3) (mC (.int 4))) ρ [ob2] = some (decide (way = 4), [ob2]) := by subst hρ; simp [DL.sSeq, DL.sNil, DL.sPass, DL.sBreak, DL.sCont, DL.sExpr, DL.sRet, DL.sRetN, DL.sIf, DL.sAsg, DL.sPar, DL.sAug, DL.sAugS, DL.gSet, DL.gTupD, DL.gsNil, DL.gsCons, DL.gSubD, DL.sFor, DL.iRng1D_eq, DL.mVar, DL.mC, DL.mNil, DL.mCons, DL.mCall, DL.mBin, DL.mNeg, DL.mMt, DL.mSl, DL.oNo, DL.oYes, DL.tOf, DL.tNotD, DL.tAndD, DL.tOrD, DL.tTru, DL.truD, DL.tTrue, DL.vAnd, DL.vOr, DL.vNot, DL.vIf, DL.vChain, DL.tupF, DL.lstF, DL.allD, DL.ev_add, DL.ev_sub, DL.ev_iadd, DL.ev_isub, DL.ev_lt, DL.ev_gt, DL.ev_le, DL.ev_ge, DL.ev_eq, DL.ev_ne, DL.ev_min, DL.ev_max, DL.ev_int, DL.ev_abs, DL.sz1, DL.sz2, DL.sz3, DL.sz4, DL.sz5, DL.sz6, DL.sz7, DL.sz8, DL.szp]
  have t4 : tOf (mBin (inA false) (mVar 3) (mCall tupF (mCons (mC (.int 5)) (mCons (mC (.int 7)) (mNil))))) ρ [ob2] = some (decide (way ∈ [5, 7]), [ob2]) := by subst hρ; simp [DL.sSeq, DL.sNil, DL.sPass, DL.sBreak, DL.sCont, DL.sExpr, DL.sRet, DL.sRetN, DL.sIf, DL.sAsg, DL.sPar, DL.sAug, DL.sAugS, DL.gSet, DL.gTupD, DL.gsNil, DL.gsCons, DL.gSubD, DL.sFor, DL.iRng1D_eq, DL.mVar, DL.mC, DL.mNil, DL.mCons, DL.mCall, DL.mBin, DL.mNeg, DL.mMt, DL.mSl, DL.oNo, DL.oYes, DL.tOf, DL.tNotD, DL.tAndD, DL.tOrD, DL.tTru, DL.truD, DL.tTrue, DL.vAnd, DL.vOr, DL.vNot, DL.vIf, DL.vChain, DL.tupF, DL.lstF, DL.allD, DL.ev_add, DL.ev_sub, DL.ev_iadd, DL.ev_isub, DL.ev_lt, DL.ev_gt, DL.ev_le, DL.ev_ge, DL.ev_eq, DL.ev_ne, DL.ev_min, DL.ev_max, DL.ev_int, DL.ev_abs, DL.sz1, DL.sz2, DL.sz3, DL.sz4, DL.sz5, DL.sz6, DL.sz7, DL.sz8, DL.szp, ev_in2]
  rw [hρ] at near round rise ρ2 st
  by_cases h1 : way < 2
  · refine hend (every m) ob2 c1 (good_sub hm2 hm6 el fun q hq => hq) ⟨ρ, [], ?_⟩
    unfold b_l_place
    rw [st, seq_rt ((if_t (t1.trans (by rw [decide_eq_true h1]))).trans (tup_ok (A := mVar 4) (l := every m) ρ2 (by subst hρ; rfl)))]
  have t1' := t1.trans (by rw [decide_eq_false h1])
  by_cases h2 : (decide (way < 4) || (decide (way = 4) && decide ((m : Int) < 3))) = true
  · refine hend ((every m).filter (fun q => decide (q.1 - q.2 ∈ [(1 : Int), -1]))) ob2 c1 (hsub _) ⟨ρ, [], ?_⟩
    unfold b_l_place
    rw [st, seq_nx ((if_f (G := sNil) t1').trans rfl), seq_rt ((if_t (t2.trans (by rw [h2]))).trans (tup_ok ρ2 near))]
  have t2' := t2.trans (by rw [Bool.eq_false_iff.mpr h2])
  by_cases h3 : way = 4
  · refine hend ((every m).filter (fun q => decide ((q.1 - q.2) % (m : Int) ∈ [(1 : Int), (m : Int) - 1]))) ob2 c1 (hsub _) ⟨ρ, [], ?_⟩
    unfold b_l_place
    rw [st, seq_nx ((if_f (G := sNil) t1').trans rfl), seq_nx ((if_f (G := sNil) t2').trans rfl), seq_rt ((if_t (t3.trans (by rw [decide_eq_true h3]))).trans (tup_ok ρ2 round))]
  have t3' := t3.trans (by rw [decide_eq_false h3])
  by_cases h4 : way ∈ [(5 : Int), 7]
  · refine hend ((every m).filter (fun q => decide (q.1 < q.2) && (decide (way = 5) || decide (q.2 = q.1 + 1)))) ob2 c1 (hsub _) ⟨ρ, [], ?_⟩
    unfold b_l_place
    rw [st, seq_nx ((if_f (G := sNil) t1').trans rfl), seq_nx ((if_f (G := sNil) t2').trans rfl), seq_nx ((if_f (G := sNil) t3').trans rfl), seq_rt ((if_t (t4.trans (by rw [decide_eq_true h4]))).trans (tup_ok ρ2 rise))]
  have t4' := t4.trans (by rw [decide_eq_false h4])
  obtain ⟨ys, ob3, e3, hp, hb3⟩ := mixed_ok (S := [ob2]) (n := 0) (xs := (every m).map mv) rfl hb2 (by rw [List.length_map]; omega) (by rw [List.length_map]; exact sz_of (by omega))
  obtain ⟨r, hr, rfl⟩ := perm_map_ex hp
  obtain ⟨k, ob4, e4, k0, k1, hb4⟩ := take_ok (S := [ob3]) (n := 0) (upto := ((every m).length : Int) + 1) rfl hb3 (by rw [List.length_map]; omega) (by omega) (by
    have := size_lg (n := (every m).length + 1) (sz_of (by omega)); simpa using this)
  obtain ⟨j, rfl⟩ := Int.eq_ofNat_of_zero_le k0
  obtain ⟨r2, hr2, er2⟩ := sortT_ex ((r.take j).map fun q => [q.1, q.2])
  obtain ⟨r3, hr3, rfl⟩ := perm_map_ex hr2
  have hs := sorted_ev (l := (r.take j).map fun q => [q.1, q.2]) (S := [ob4]) (w := .d (.list ((r.take j).map mv))) (fun a ha => by
    obtain ⟨q, _, rfl⟩ := List.mem_map.mp ha
    simp) (by simp only [deref, mvs_tI])
  rw [er2, ← mvs_tI] at hs
  rw [List.length_map] at hb4
  have hgood : GoodP (m, r3) := good_sub hm2 hm6 (by
    rw [hr3.length_eq, List.length_take]; have := hr.length_eq; omega) fun q hq => hr.subset (List.mem_of_mem_take (hr3.subset hq))
  refine hend r3 ob4 (hb4.up (by omega)) hgood ⟨ρ, [], ?_⟩
  unfold b_l_place
  rw [st, seq_nx ((if_f (G := sNil) t1').trans rfl), seq_nx ((if_f (G := sNil) t2').trans rfl), seq_nx ((if_f (G := sNil) t3').trans rfl), seq_nx ((if_f (G := sNil) t4').trans rfl)]
  refine tup_ok ρ2 ?_
  subst hρ
  simp only [List.set_cons_zero] at e3 e4
  have hcut : DL.cutD (r.map mv) none (some (j : Int)) = (r.take j).map mv := by rw [cut_take, List.map_take]
  simp only [mCall, mCons, mNil, mVar, mSl, oNo, oYes, mBin, mC, List.getElem?_cons_succ, List.getElem?_cons_zero, Option.bind_some, e_mixed, e3, e_take, lenD, on1, len0, List.length_map, Option.map_some, ev_add, e4, sliceD, hcut, hs]
theorem append_ev {ws : List W} {w : W} {S : Sto} {j : Nat} (hS : S[j]? = some (.lst ws)) (h : ws.length < sizeLine) : appendF (.loc j) [w] S = some (.d .none, S.set j (.lst (ws ++ [w]))) := by
  simp only [appendF, onL, hS, h, if_true, Option.bind_some]
theorem at_last {α : Type} (xs : List α) (x : α) : atI (xs ++ [x]) (-1) = some x := by
  have h : ixN (xs ++ [x]).length (-1) = some xs.length := by
    unfold ixN
    rw [if_neg (by decide), if_pos (by rw [List.length_append]; simp; omega)]
    congr 1
    rw [List.length_append]; simp; omega
  unfold atI
  rw [h]; simp
def plsO (ps : List Pl) : Ob := .lst ((ps.map pl).map W.d)
theorem bench_step {c i s : Nat} {ob : Ob} {ps : List Pl} {x : Option W} (hb : BagOk c ob) (hc : c + 200 < 2 ^ 1000) (hp : ∀ p ∈ ps, GoodP p) (hl : ps.length ≤ 100) (s1 : 1 ≤ s) (s2 : s ≤ 108) :
    ∃ s' ob' ps', L_l_bench_1 [some (.loc 0), some (.d (.int 36)), x, some (.loc 1), some (.d (.int (s : Nat)))] [ob, plsO ps] = some (.nx, [some (.loc 0), some (.d (.int 36)), x, some (.loc 1), some (.d (.int (s' : Nat)))], [ob', plsO ps']) ∧
      BagOk (c + 60) ob' ∧ (∀ p ∈ ps', GoodP p) ∧ ps'.length ≤ ps.length + 1 ∧ 1 ≤ s' ∧ s' ≤ 108 ∧ (ps' = [] → ps = [] ∧ 36 < s * 2) := by
  have m2 : ∀ S, mulD (.d (.int (s : Nat))) (.d (.int 2)) S = some (.d (.int ((s : Int) * 2)), S) := fun S => ev_mul (by
    have : ((s : Nat) : Int).natAbs.log2 ≤ 7 := lg_le (by simp; omega)
    have : (2 : Int).natAbs.log2 ≤ 2 := by decide
    omega)
  have t : tOf (mBin leD (mBin mulD (mVar 4) (mC (.int 2))) (mVar 1)) [some (.loc 0), some (.d (.int 36)), x, some (.loc 1), some (.d (.int (s : Nat)))] [ob, plsO ps] = some (decide ((s : Int) * 2 ≤ 36), [ob, plsO ps]) := by simp [DL.sSeq, DL.sNil, DL.sPass, DL.sBreak, DL.sCont, DL.sExpr, DL.sRet, DL.sRetN, DL.sIf, DL.sAsg, DL.sPar, DL.sAug, DL.sAugS, DL.gSet, DL.gTupD, DL.gsNil, DL.gsCons, DL.gSubD, DL.sFor, DL.iRng1D_eq, DL.mVar, DL.mC, DL.mNil, DL.mCons, DL.mCall, DL.mBin, DL.mNeg, DL.mMt, DL.mSl, DL.oNo, DL.oYes, DL.tOf, DL.tNotD, DL.tAndD, DL.tOrD, DL.tTru, DL.truD, DL.tTrue, DL.vAnd, DL.vOr, DL.vNot, DL.vIf, DL.vChain, DL.tupF, DL.lstF, DL.allD, DL.ev_add, DL.ev_sub, DL.ev_iadd, DL.ev_isub, DL.ev_lt, DL.ev_gt, DL.ev_le, DL.ev_ge, DL.ev_eq, DL.ev_ne, DL.ev_min, DL.ev_max, DL.ev_int, DL.ev_abs, DL.sz1, DL.sz2, DL.sz3, DL.sz4, DL.sz5, DL.sz6, DL.sz7, DL.sz8, DL.szp, m2]
  by_cases h : (s : Int) * 2 ≤ 36
  · obtain ⟨y, hy, ob1, e1, hb1⟩ := some_ok (S := [ob, plsO ps]) (n := 0) (xs := [6, 4, 3, 3, 2].map PyData.int) rfl hb (by omega) (by simp) (by decide)
    obtain ⟨k, hk, rfl⟩ := List.mem_map.mp hy
    simp only [List.mem_cons, List.not_mem_nil, or_false] at hk
    obtain ⟨q, hq⟩ : ∃ q : Int, 36 / (s : Int) = q := ⟨_, rfl⟩
    have hq2 : 2 ≤ q := by
      rw [← hq]; exact (Int.le_ediv_iff_mul_le (by omega)).mpr (by omega)
    have hd := fun S => ev_fdiv (S := S) (i := 36) (j := (s : Int)) (by omega) (by
      have : ((s : Nat) : Int).natAbs.log2 ≤ 7 := lg_le (by simp; omega)
      omega)
    rw [hq] at hd
    obtain ⟨most, hmost⟩ : ∃ mo : Int, (if q < k then q else k) = mo := ⟨_, rfl⟩
    have hm2 : 2 ≤ most := by rw [← hmost]; split <;> omega
    have hm6 : most ≤ 6 := by rw [← hmost]; split <;> omega
    obtain ⟨p, ob2, e2, gp, hb2⟩ := place_ok (S := [ob1, plsO ps]) (n := 0) rfl hb1 (by omega) hm2 hm6
    have hS : ([ob2, plsO ps] : Sto)[1]? = some (.lst ((ps.map pl).map W.d)) := rfl
    have ha := append_ev (w := .d (pl p)) hS (by
      rw [List.length_map, List.length_map]
      have : 1000 < sizeLine := by decide
      omega)
    have hps : ([ob2, plsO ps] : Sto).set 1 (.lst ((ps.map pl).map W.d ++ [.d (pl p)])) = [ob2, plsO (ps ++ [p])] := by simp [plsO]
    rw [hps] at ha
    have hi : ∀ S : Sto, S[1]? = some (plsO (ps ++ [p])) → idxD (.loc 1) (.d (.int (-1))) S = some (.d (pl p), S) := fun S hS => by
      have := at_last ((ps.map pl).map W.d) (.d (pl p))
      simp only [plsO, List.map_append, List.map_cons, List.map_nil] at hS
      simp only [idxD, hS, this, Option.map_some]
    have h0 : ∀ S, idxD (.d (pl p)) (.d (.int 0)) S = some (.d (.int p.1), S) := fun S => rfl
    have mm : ∀ S, mulD (.d (.int (s : Nat))) (.d (.int (p.1 : Nat))) S = some (.d (.int ((s * p.1 : Nat) : Int)), S) := fun S => by
      rw [ev_mul]
      · simp
      · have : ((s : Nat) : Int).natAbs.log2 ≤ 7 := lg_le (by simp; omega)
        have : ((p.1 : Nat) : Int).natAbs.log2 ≤ 3 := lg_le (by have := gp.hi; simp; omega)
        omega
    have hs6 : s * p.1 ≤ 18 * 6 := Nat.mul_le_mul (by omega) gp.hi
    have hs1 : 1 * 1 ≤ s * p.1 := Nat.mul_le_mul s1 (by have := gp.lo; omega)
    refine ⟨s * p.1, ob2, ps ++ [p], ?_, hb2.up (by omega), fun r hr => ?_, by simp, by omega, by omega, fun e => by simp at e⟩
    · unfold L_l_bench_1
      simp only [List.set_cons_zero] at e1 e2
      rw [if_t (t.trans (by rw [decide_eq_true h]))]
      have hl : isLst [ob, plsO ps] (.loc 1) = true := rfl
      have hx : ([PyData.int 6, .int 4, .int 3, .int 3, .int 2] : List PyData) = [6, 4, 3, 3, 2].map PyData.int := rfl
      rw [seq_nx (ρ1 := [some (.loc 0), some (.d (.int 36)), x, some (.loc 1), some (.d (.int (s : Nat)))]) (S1 := [ob2, plsO (ps ++ [p])]) (by
        simp only [sExpr, mMt, mVar, List.getElem?_cons_succ, List.getElem?_cons_zero, Option.bind_some, hl, if_true, mCons, mCall, mNil, mC, lstF, allD, Option.map_some, hx]
        rw [if_pos (show ([6, 4, 3, 3, 2].map PyData.int).length ≤ sizeLine by decide)]
        simp only [Option.bind_some, e_some, e1, mBin, mVar, List.getElem?_cons_succ, List.getElem?_cons_zero, hd, ev_min, hmost, e2, ha])]
      have hi' := hi [ob2, plsO (ps ++ [p])] rfl
      simp only [sAsg, mBin, mVar, mNeg, mC, List.getElem?_cons_succ, List.getElem?_cons_zero, Option.bind_some, hi', h0, mm]
      simp [gSet]
    · rcases List.mem_append.mp hr with z | z
      · exact hp r z
      · rw [List.mem_singleton.mp z]; exact gp
  · refine ⟨s, ob, ps, ?_, hb.up (by omega), hp, by omega, s1, s2, fun e => ⟨e, by omega⟩⟩
    unfold L_l_bench_1
    rw [if_f (t.trans (by rw [decide_eq_false h]))]
    rfl
theorem bench_ok {c n : Nat} {ob : Ob} {S : Sto} (hS : S[n]? = some ob) (hb : BagOk c ob) (hc : c + 1000 < 2 ^ 1000) :
    ∃ b ob', callF f_l_bench [.loc n, .d (.int 36)] S = some (.d (bn b), S.set n ob') ∧ Good b ∧ BagOk (c + 400) ob' := by
  obtain ⟨y, hy, ob1, e1, hb1⟩ := some_ok (S := [ob, plsO []]) (n := 0) (xs := [1, 2, 2, 3, 3, 4, 5].map PyData.int) rfl hb (by omega) (by simp) (by decide)
  obtain ⟨k, hk, rfl⟩ := List.mem_map.mp hy
  simp only [List.mem_cons, List.not_mem_nil, or_false] at hk
  obtain ⟨t, ht⟩ : ∃ t : Nat, k = t := ⟨k.toNat, by omega⟩
  subst ht
  have ht : 1 ≤ t ∧ t ≤ 5 := by omega
  obtain ⟨ρ', S', e, x, ps, s, ob2, rfl, rfl, hb2, hp, hl, s1, s2, hz, hne⟩ := forL_rng (g := gSet 2) (F := L_l_bench_1) (lo := 0) (n := t)
    (J := fun i ρ S => ∃ x ps s ob', ρ = [some (.loc 0), some (.d (.int 36)), x, some (.loc 1), some (.d (.int ((s : Nat) : Int)))] ∧ S = [ob', plsO ps] ∧ BagOk (c + 1 + 60 * i) ob' ∧ (∀ p ∈ ps, GoodP p) ∧ ps.length ≤ i ∧ 1 ≤ s ∧ s ≤ 108 ∧ (i = 0 → s = 1) ∧ (0 < i → ps ≠ []))
    (ρ := [some (.loc 0), some (.d (.int 36)), none, some (.loc 1), some (.d (.int 1))]) (S := [ob1, plsO []]) (fun i ρ S hi ⟨x, ps, s, ob', e1, e2, hb', hp, hl, s1, s2, hz, hne⟩ => by
      subst e1 e2
      obtain ⟨s', ob3, ps', e3, hb3, hp3, hl3, s13, s23, hq⟩ := bench_step (i := i) (x := some (.d (.int (0 + (i : Int))))) hb' (by omega) hp (by omega) s1 s2
      refine ⟨_, _, Eq.trans (by simp [gSet]) e3, some (.d (.int (0 + (i : Int)))), ps', s', ob3, rfl, rfl, hb3.up (by omega), hp3, by omega, s13, s23, fun h => by omega, fun _ h => ?_⟩
      obtain ⟨h1, h2⟩ := hq h
      by_cases hi0 : i = 0
      · have := hz hi0; omega
      · exact hne (by omega) h1) ⟨none, [], 1, ob1, rfl, rfl, hb1, fun p hp => by simp at hp, by simp, by omega, by omega, fun _ => rfl, fun h => by omega⟩
  have hr := fun S => rng1_ok (n := t) (S := S) (by omega)
  have hx : ([PyData.int 1, .int 2, .int 2, .int 3, .int 3, .int 4, .int 5] : List PyData) = [1, 2, 2, 3, 3, 4, 5].map PyData.int := rfl
  refine ⟨ps, ob2, callF_loc (n := n) rfl (by simp [allLoc]) hS hb.obD (runF_ret1 ⟨[some (.loc 0), some (.d (.int 36)), x, some (.loc 1), some (.d (.int ((s : Nat) : Int)))], [plsO ps], ?_⟩ hb2.obD) hb2.obD, ⟨hne (by omega), by omega, hp⟩, hb2.up (by omega)⟩
  show b_l_bench [some (.loc 0), some (.d (.int 36)), none, none, none] [ob] = _
  unfold b_l_bench
  simp only [List.set_cons_zero] at e1
  rw [seq_nx (ρ1 := [some (.loc 0), some (.d (.int 36)), none, some (.loc 1), some (.d (.int 1))]) (S1 := [ob, plsO []]) (by
    simp [sPar, mCons, mCall, lstB, mNil, mC, plsO])]
  have hi : iRng1D (mCons (mCall (callF f_l_some) (mCons (mVar 0) (mCons (mCall lstF (mCons (mC (.int 1)) (mCons (mC (.int 2)) (mCons (mC (.int 2)) (mCons (mC (.int 3)) (mCons (mC (.int 3)) (mCons (mC (.int 4)) (mCons (mC (.int 5)) (mNil))))))))) (mNil)))) (mNil)) [some (.loc 0), some (.d (.int 36)), none, some (.loc 1), some (.d (.int 1))] [ob, plsO []] = some (rngD 0 t, [ob1, plsO []]) := by
    rw [iRng1D_eq]
    simp only [mCons, mCall, mNil, mC, mVar, List.getElem?_cons_zero, Option.bind_some, lstF, allD, Option.map_some, hx]
    rw [if_pos (show ([1, 2, 2, 3, 3, 4, 5].map PyData.int).length ≤ sizeLine by decide)]
    simp only [Option.bind_some, e_some, e1, hr]
  rw [seq_nx (by
    simp only [sFor, hi, Option.bind_some]
    exact e)]
  simp only [sRet, mCall, mCons, mNil, mVar, List.getElem?_cons_succ, List.getElem?_cons_zero, Option.bind_some, tupleD, on1, deref, plsO, allD_map, Option.map_some]
  rfl

end K17
end
/-! the shortest ways, in plain Lean -/
noncomputable section
namespace K17
section
variable {α : Type} [DecidableEq α] (adj : α → List α) (t : α) (B : α → Bool)
def okN (y : α) : Bool := decide (y = t) || !B y
/-- t is come to from x by n steps -/
def Dn : Nat → α → Bool
  | 0, x => decide (x = t)
  | n + 1, x => (adj x).any fun y => okN t B y && Dn n y
structure IsD (n : Nat) (x : α) : Prop where
  is : Dn adj t B n x = true
  no : ∀ m, m < n → Dn adj t B m x = false
def nxt (n : Nat) (x : α) : Option α := ((adj x).filter fun y => okN t B y && Dn adj t B n y).head?
/-- the way by the first of the next ones -/
def gp : Nat → α → List α
  | 0, x => [x]
  | n + 1, x => match nxt adj t B n x with
    | some y => x :: gp n y
    | none => [x]
variable {adj t B}
theorem Dn_step {x y : α} {n : Nat} (h : y ∈ adj x) (ok : okN t B y = true) (d : Dn adj t B n y = true) : Dn adj t B (n + 1) x = true := by
  simp only [Dn, List.any_eq_true, Bool.and_eq_true]
  exact ⟨y, h, ok, d⟩
theorem Dn_not {x y : α} {n : Nat} (h : y ∈ adj x) (ok : okN t B y = true) (d : Dn adj t B (n + 1) x = false) : Dn adj t B n y = false := by
  cases e : Dn adj t B n y with
  | false => rfl
  | true => rw [Dn_step h ok e] at d; cases d
theorem IsD.uniq {n m : Nat} {x : α} (h : IsD adj t B n x) (k : IsD adj t B m x) : n = m := by
  rcases Nat.lt_trichotomy n m with z | z | z
  · have := k.no n z; rw [h.is] at this; cases this
  · exact z
  · have := h.no m z; rw [k.is] at this; cases this
theorem least : ∀ (n : Nat) {x : α}, Dn adj t B n x = true → ∃ m, m ≤ n ∧ IsD adj t B m x := by
  intro n
  induction n using Nat.strongRecOn with
  | ind n ih =>
    intro x h
    by_cases c : ∃ m, m < n ∧ Dn adj t B m x = true
    · obtain ⟨m, hm, hd⟩ := c
      obtain ⟨k, hk, hi⟩ := ih m hm hd
      exact ⟨k, by omega, hi⟩
    · refine ⟨n, Nat.le_refl _, h, fun m hm => ?_⟩
      cases e : Dn adj t B m x with
      | false => rfl
      | true => exact absurd ⟨m, hm, e⟩ c
theorem isD_zero : IsD adj t B 0 t := ⟨by simp [Dn], fun m h => by omega⟩
theorem isD_0 {x : α} (h : IsD adj t B 0 x) : x = t := by simpa [Dn] using h.is
/-- the first of the next ones, and what stands ahead of it -/
theorem nxt_ex {n : Nat} {x : α} (h : IsD adj t B (n + 1) x) : ∃ y X Y, nxt adj t B n x = some y ∧ adj x = X ++ y :: Y ∧ (∀ z ∈ X, okN t B z = true → Dn adj t B n z = false) ∧ okN t B y = true ∧ IsD adj t B n y := by
  have hd := h.is
  simp only [Dn, List.any_eq_true, Bool.and_eq_true] at hd
  obtain ⟨z, hz, oz, dz⟩ := hd
  cases e : (adj x).filter (fun y => okN t B y && Dn adj t B n y) with
  | nil =>
    have : z ∈ (adj x).filter (fun y => okN t B y && Dn adj t B n y) := List.mem_filter.mpr ⟨hz, by rw [oz, dz]; rfl⟩
    rw [e] at this; cases this
  | cons y ys =>
    obtain ⟨X, Y, e1, hX, hy, _⟩ := List.filter_eq_cons_iff.mp e
    rw [Bool.and_eq_true] at hy
    refine ⟨y, X, Y, by simp [nxt, e], e1, fun z hz oz => ?_, hy.1, hy.2, fun m hm => ?_⟩
    · have := hX z hz
      rw [oz, Bool.true_and] at this
      simpa using this
    · cases e2 : Dn adj t B m y with
      | false => rfl
      | true =>
        have := Dn_step (x := x) (by rw [e1]; simp) hy.1 e2
        rw [h.no (m + 1) (by omega)] at this; cases this
theorem gp_succ {n : Nat} {x y : α} (h : nxt adj t B n x = some y) : gp adj t B (n + 1) x = x :: gp adj t B n y := by simp only [gp, h]
theorem gp_len : ∀ {n : Nat} {x : α}, IsD adj t B n x → (gp adj t B n x).length = n + 1
  | 0, x, _ => rfl
  | n + 1, x, h => by
    obtain ⟨y, X, Y, e, _, _, _, hy⟩ := nxt_ex h
    rw [gp_succ e, List.length_cons, gp_len hy]
theorem gp_at : ∀ {n k : Nat} {x : α}, IsD adj t B n x → k ≤ n → ∃ y, (gp adj t B n x)[k]? = some y ∧ IsD adj t B (n - k) y ∧ (gp adj t B n x).drop k = gp adj t B (n - k) y ∧ (k = 0 → y = x)
  | n, 0, x, h, _ => by
    refine ⟨x, ?_, h, rfl, fun _ => rfl⟩
    cases n with
    | zero => rfl
    | succ n =>
      obtain ⟨y, X, Y, e, _⟩ := nxt_ex h
      rw [gp_succ e]; rfl
  | n + 1, k + 1, x, h, hk => by
    obtain ⟨y, X, Y, e, _, _, _, hy⟩ := nxt_ex h
    obtain ⟨z, h1, h2, h3, _⟩ := gp_at (k := k) hy (by omega)
    refine ⟨z, ?_, ?_, ?_, fun h => by omega⟩
    · rw [gp_succ e]; simpa using h1
    · rw [show n + 1 - (k + 1) = n - k by omega]; exact h2
    · rw [gp_succ e, show n + 1 - (k + 1) = n - k by omega]; simpa using h3
/-- the next one on the way -/
theorem gp_next {n k : Nat} {x g : α} (h : IsD adj t B n x) (hk : k + 1 ≤ n) (hg : (gp adj t B n x)[k]? = some g) :
    ∃ y X Y, (gp adj t B n x)[k + 1]? = some y ∧ adj g = X ++ y :: Y ∧ (∀ z ∈ X, okN t B z = true → Dn adj t B (n - (k + 1)) z = false) ∧ okN t B y = true ∧ Dn adj t B (n - (k + 1)) y = true ∧ nxt adj t B (n - (k + 1)) g = some y ∧ IsD adj t B (n - (k + 1)) y := by
  obtain ⟨g', e1, e2, e3, _⟩ := gp_at h (show k ≤ n by omega)
  rw [hg] at e1; cases e1
  have h2 : IsD adj t B ((n - (k + 1)) + 1) g := by rw [show n - (k + 1) + 1 = n - k by omega]; exact e2
  obtain ⟨y, X, Y, a1, a2, a3, a4, a5⟩ := nxt_ex h2
  refine ⟨y, X, Y, ?_, a2, a3, a4, a5.is, a1, a5⟩
  rw [show n - k = n - (k + 1) + 1 by omega, gp_succ a1] at e3
  have : ((gp adj t B n x).drop k)[1]? = some y := by
    rw [e3]
    obtain ⟨z, h1, _, _, h4⟩ := gp_at (k := 0) a5 (by omega)
    have := h4 rfl; subst this
    simpa using h1
  rw [List.getElem?_drop] at this
  exact this
theorem gp_end {n : Nat} {x : α} (h : IsD adj t B n x) : (gp adj t B n x)[n]? = some t := by
  obtain ⟨y, h1, h2, _, _⟩ := gp_at h (Nat.le_refl n)
  rw [Nat.sub_self] at h2
  rw [h1, isD_0 h2]
theorem gp_mem {V : α → Prop} (hV : ∀ x, V x → ∀ y ∈ adj x, V y) : ∀ {n : Nat} {x : α}, IsD adj t B n x → V x → ∀ y ∈ gp adj t B n x, V y
  | 0, x, _, hx, y, hy => by
    have : y = x := by simpa [gp] using hy
    rw [this]; exact hx
  | n + 1, x, h, hx, y, hy => by
    obtain ⟨z, X, Y, e, e2, _, _, hz⟩ := nxt_ex h
    rw [gp_succ e] at hy
    rcases List.mem_cons.mp hy with c | c
    · rw [c]; exact hx
    · exact gp_mem hV hz (hV x hx z (by rw [e2]; simp)) y c
/-- fewer barred: never longer -/
theorem Dn_less {B' : α → Bool} (hB : ∀ x, B' x = true → B x = true) : ∀ {n : Nat} {x : α}, Dn adj t B n x = true → Dn adj t B' n x = true
  | 0, _, h => h
  | n + 1, x, h => by
    simp only [Dn, List.any_eq_true, Bool.and_eq_true] at h
    obtain ⟨y, hy, oy, dy⟩ := h
    refine Dn_step hy ?_ (Dn_less hB dy)
    simp only [okN, Bool.or_eq_true, decide_eq_true_eq, Bool.not_eq_true'] at oy ⊢
    rcases oy with c | c
    · exact .inl c
    · right
      cases e : B' y with
      | false => rfl
      | true => rw [hB y e] at c; cases c

/-! ### the table of what is left, level by level -/
structure LInv (V : List α) (k : Nat) (found : List (α × Nat)) (line : List α) : Prop where
  nd : (found.map (·.1)).Nodup
  inV : ∀ q ∈ found, q.1 ∈ V
  val : ∀ q ∈ found, IsD adj t B q.2 q.1 ∧ q.2 ≤ k
  all : ∀ x d, x ∈ V → IsD adj t B d x → d ≤ k → (x, d) ∈ found
  ln : ∀ x, x ∈ line ↔ (x, k) ∈ found
  lnd : line.Nodup
/-- within a level: done tells which are seen to -/
structure MInv (V : List α) (k : Nat) (found : List (α × Nat)) (done : α → Prop) (found' : List (α × Nat)) (further : List α) : Prop where
  ex : ∃ ext, found' = found ++ ext ∧ further = ext.map (·.1) ∧ ∀ q ∈ ext, q.2 = k + 1 ∧ IsD adj t B (k + 1) q.1 ∧ q.1 ∈ V
  nd : (found'.map (·.1)).Nodup
  dn : ∀ x, done x → x ∈ found'.map (·.1)
variable {V : List α} {k : Nat} {found found' : List (α × Nat)} {line further : List α} {done : α → Prop}
theorem LInv.zero (ht : t ∈ V) : LInv (adj := adj) (t := t) (B := B) V 0 [(t, 0)] [t] := by
  refine ⟨by simp, fun q h => ?_, fun q h => ?_, fun x d hx hd h0 => ?_, fun x => by simp, by simp⟩
  · rw [List.mem_singleton.mp h]; exact ht
  · rw [List.mem_singleton.mp h]; exact ⟨isD_zero, Nat.le_refl _⟩
  · have : d = 0 := by omega
    subst this
    rw [isD_0 hd]; simp
theorem LInv.start (L : LInv (adj := adj) (t := t) (B := B) V k found line) : MInv (adj := adj) (t := t) (B := B) V k found (fun _ => False) found [] :=
  ⟨⟨[], by simp, rfl, fun q h => by simp at h⟩, L.nd, fun x h => h.elim⟩
/-- one that is found already -/
theorem MInv.skip (M : MInv (adj := adj) (t := t) (B := B) V k found done found' further) {x : α} (hx : x ∈ found'.map (·.1)) : MInv (adj := adj) (t := t) (B := B) V k found (fun z => done z ∨ z = x) found' further :=
  ⟨M.ex, M.nd, fun z h => by
    rcases h with h | h
    · exact M.dn z h
    · rw [h]; exact hx⟩
/-- a new one -/
theorem MInv.add (L : LInv (adj := adj) (t := t) (B := B) V k found line) (M : MInv (adj := adj) (t := t) (B := B) V k found done found' further) {x y : α} (hx : x ∉ found'.map (·.1)) (hV : x ∈ V) (hy : y ∈ adj x) (oy : okN t B y = true) (dy : IsD adj t B k y) :
    MInv (adj := adj) (t := t) (B := B) V k found (fun z => done z ∨ z = x) (found' ++ [(x, k + 1)]) (further ++ [x]) := by
  obtain ⟨ext, rfl, rfl, he⟩ := M.ex
  have hd : IsD adj t B (k + 1) x := by
    refine ⟨Dn_step hy oy dy.is, fun m hm => ?_⟩
    cases e : Dn adj t B m x with
    | false => rfl
    | true =>
      obtain ⟨j, hj, ij⟩ := least m e
      have := L.all x j hV ij (by omega)
      exact absurd (List.mem_map.mpr ⟨(x, j), List.mem_append_left _ this, rfl⟩) hx
  refine ⟨⟨ext ++ [(x, k + 1)], by simp, by simp, fun q h => ?_⟩, ?_, fun z h => ?_⟩
  · rcases List.mem_append.mp h with h | h
    · exact he q h
    · rw [List.mem_singleton.mp h]; exact ⟨rfl, hd, hV⟩
  · rw [List.map_append, List.nodup_append]
    refine ⟨M.nd, by simp, fun a ha b hb => ?_⟩
    have : b = x := by simpa using hb
    rw [this]; rintro rfl; exact hx ha
  · rw [List.map_append]
    rcases h with h | h
    · exact List.mem_append_left _ (M.dn z h)
    · rw [h]; simp
theorem MInv.finish (L : LInv (adj := adj) (t := t) (B := B) V k found line) (M : MInv (adj := adj) (t := t) (B := B) V k found done found' further)
    (hall : ∀ x, x ∈ V → ∀ y ∈ adj x, okN t B y = true → y ∈ line → done x) (hadj : ∀ x, x ∈ V → ∀ y ∈ adj x, y ∈ V) : LInv (adj := adj) (t := t) (B := B) V (k + 1) found' further := by
  obtain ⟨ext, rfl, rfl, he⟩ := M.ex
  have hval : ∀ q ∈ found ++ ext, IsD adj t B q.2 q.1 ∧ q.2 ≤ k + 1 := fun q h => by
    rcases List.mem_append.mp h with h | h
    · have := L.val q h; exact ⟨this.1, by omega⟩
    · obtain ⟨e1, e2, _⟩ := he q h
      rw [e1]; exact ⟨e2, Nat.le_refl _⟩
  refine ⟨M.nd, fun q h => ?_, hval, fun x d hx hd hk => ?_, fun x => ?_, by
    have := M.nd
    rw [List.map_append, List.nodup_append] at this
    exact this.2.1⟩
  · rcases List.mem_append.mp h with h | h
    · exact L.inV q h
    · exact (he q h).2.2
  · by_cases c : d ≤ k
    · exact List.mem_append_left _ (L.all x d hx hd c)
    · have : d = k + 1 := by omega
      subst this
      obtain ⟨y, X, Y, _, e2, _, oy, dy⟩ := nxt_ex hd
      have hy : y ∈ adj x := by rw [e2]; simp
      have hl : y ∈ line := (L.ln y).mpr (L.all y k (hadj x hx y hy) dy (Nat.le_refl _))
      obtain ⟨q, hq, eq⟩ := List.mem_map.mp (M.dn x (hall x hx y hy oy hl))
      have := (hval q hq).1
      rw [eq] at this
      have e : q = (x, k + 1) := Prod.ext eq (this.uniq hd)
      rw [← e]; exact hq
  · constructor
    · intro h
      obtain ⟨q, hq, e⟩ := List.mem_map.mp h
      obtain ⟨e1, _, _⟩ := he q hq
      have : q = (x, k + 1) := Prod.ext e e1
      rw [← this]; exact List.mem_append_right _ hq
    · intro h
      rcases List.mem_append.mp h with h | h
      · have := (L.val _ h).2; simp at this; omega
      · exact List.mem_map.mpr ⟨_, h, rfl⟩
/-- the end: all that come to t -/
theorem LInv.whole (L : LInv (adj := adj) (t := t) (B := B) V k found []) (hadj : ∀ x, x ∈ V → ∀ y ∈ adj x, y ∈ V) : ∀ d x, x ∈ V → IsD adj t B d x → (x, d) ∈ found := by
  have hno : ∀ x, x ∈ V → ¬ IsD adj t B k x := fun x hx hd => by
    have := (L.ln x).mpr (L.all x k hx hd (Nat.le_refl _))
    cases this
  intro d x hx hd
  by_cases c : d ≤ k
  · exact L.all x d hx hd c
  · -- the way passes level k
    obtain ⟨y, h1, h2, _, _⟩ := gp_at hd (show d - k ≤ d by omega)
    rw [show d - (d - k) = k by omega] at h2
    have hm : y ∈ gp adj t B d x := List.mem_of_getElem? h1
    exact absurd h2 (hno y (gp_mem (V := fun z => z ∈ V) hadj hd hx y hm))

/-! ### ways from one on, level by level -/
variable {one : α} {fnd fnd' : List (α × List α)} {front later : List α}
def Fw (adj : α → List α) (t : α) (B : α → Bool) (one : α) (j : Nat) (v : α) : Prop := ∀ m, Dn adj t B m v = true → Dn adj t B (j + m) one = true
structure FInv (adj : α → List α) (t : α) (B : α → Bool) (V : List α) (one : α) (k : Nat) (fnd : List (α × List α)) (front : List α) : Prop where
  nd : (fnd.map (·.1)).Nodup
  inV : ∀ q ∈ fnd, q.1 ∈ V
  fw : ∀ q ∈ fnd, ∃ j, j ≤ k ∧ Fw adj t B one j q.1
  fr : ∀ v ∈ front, v ∈ fnd.map (·.1) ∧ Fw adj t B one k v ∧ (v = one ∨ okN t B v = true)
  good : ∀ n, IsD adj t B n one → k ≤ n ∧ ∃ g A C, (gp adj t B n one)[k]? = some g ∧ front = A ++ g :: C ∧ (g, (gp adj t B n one).take (k + 1)) ∈ fnd ∧ ∀ a ∈ A, Dn adj t B (n - k) a = false
theorem FInv.zero (h1 : one ∈ V) : FInv adj t B V one 0 [(one, [one])] [one] := by
  refine ⟨by simp, fun q h => ?_, fun q h => ?_, fun v h => ?_, fun n hn => ⟨Nat.zero_le _, one, [], [], ?_, rfl, ?_, fun a h => by cases h⟩⟩
  · rw [List.mem_singleton.mp h]; exact h1
  · rw [List.mem_singleton.mp h]; exact ⟨0, Nat.le_refl _, fun m hm => by rw [Nat.zero_add]; exact hm⟩
  · rw [List.mem_singleton.mp h]; exact ⟨by simp, fun m hm => by rw [Nat.zero_add]; exact hm, .inl rfl⟩
  · obtain ⟨y, e1, _, _, e4⟩ := gp_at hn (Nat.zero_le n)
    rw [e1, e4 rfl]
  · obtain ⟨y, e1, _, _, e4⟩ := gp_at hn (Nat.zero_le n)
    rw [e4 rfl] at e1
    have : (gp adj t B n one).take 1 = [one] := by rw [List.take_succ, e1]; simp
    rw [this]; simp
/-- which of the new ones are good: none yet, or the way's next one ahead of all other good ones -/
def NG (adj : α → List α) (t : α) (B : α → Bool) (one : α) (k n : Nat) (ext : List (α × List α)) : Prop := ∀ q ∈ ext, Dn adj t B (n - (k + 1)) q.1 = false
def GG (adj : α → List α) (t : α) (B : α → Bool) (one : α) (k n : Nat) (ext : List (α × List α)) : Prop :=
  ∃ g A C, (gp adj t B n one)[k + 1]? = some g ∧ ext.map (·.1) = A ++ g :: C ∧ (g, (gp adj t B n one).take (k + 2)) ∈ ext ∧ ∀ a ∈ A, Dn adj t B (n - (k + 1)) a = false
structure NInv (adj : α → List α) (t : α) (B : α → Bool) (V : List α) (one : α) (k : Nat) (fnd : List (α × List α)) (P : Nat → Bool) (fnd' : List (α × List α)) (later : List α) : Prop where
  ex : ∃ ext, fnd' = fnd ++ ext ∧ later = ext.map (·.1) ∧ (∀ q ∈ ext, q.1 ∈ V ∧ Fw adj t B one (k + 1) q.1 ∧ okN t B q.1 = true) ∧
    ∀ n, IsD adj t B n one → if P n = true then GG adj t B one k n ext else NG adj t B one k n ext
  nd : (fnd'.map (·.1)).Nodup
variable {P P' : Nat → Bool}
theorem FInv.start (L : FInv adj t B V one k fnd front) : NInv adj t B V one k fnd (fun _ => false) fnd [] :=
  ⟨⟨[], by simp, rfl, fun q h => by simp at h, fun n hn => by simp [NG]⟩, L.nd⟩
theorem NInv.mono (M : NInv adj t B V one k fnd P fnd' later) (h : ∀ n, IsD adj t B n one → P' n = P n) : NInv adj t B V one k fnd P' fnd' later := by
  obtain ⟨ext, e1, e2, e3, e4⟩ := M.ex
  exact ⟨⟨ext, e1, e2, e3, fun n hn => by rw [h n hn]; exact e4 n hn⟩, M.nd⟩
/-- a new one, u its parent; where the parent is no good one, or is beyond the good one, or the new one is not good, nothing changes; the way's next one, after none, changes the phase -/
theorem NInv.add (M : NInv adj t B V one k fnd P fnd' later) {u v : α} {p : List α} (hx : v ∉ fnd'.map (·.1)) (hV : v ∈ V) (hv : v ∈ adj u) (ov : okN t B v = true) (fu : Fw adj t B one k u)
    (h : ∀ n, IsD adj t B n one → (P' n = P n ∧ (P n = true ∨ Dn adj t B (n - (k + 1)) v = false)) ∨ (P n = false ∧ P' n = true ∧ (gp adj t B n one)[k + 1]? = some v ∧ p = (gp adj t B n one).take (k + 2))) :
    NInv adj t B V one k fnd P' (fnd' ++ [(v, p)]) (later ++ [v]) := by
  obtain ⟨ext, rfl, rfl, he, hg⟩ := M.ex
  refine ⟨⟨ext ++ [(v, p)], by simp, by simp, fun q hq => ?_, fun n hn => ?_⟩, ?_⟩
  · rcases List.mem_append.mp hq with hq | hq
    · exact he q hq
    · rw [List.mem_singleton.mp hq]
      refine ⟨hV, fun m hm => ?_, ov⟩
      have := fu (m + 1) (Dn_step hv ov hm)
      rwa [show k + (m + 1) = k + 1 + m by omega] at this
  · have hgn := hg n hn
    rcases h n hn with ⟨h1, h2⟩ | ⟨h1, h2, h3, h4⟩
    · rw [h1]
      cases hP : P n with
      | true =>
        rw [hP] at hgn
        simp only [if_true] at hgn ⊢
        obtain ⟨g, A, C, a1, a2, a3, a4⟩ := hgn
        exact ⟨g, A, C ++ [v], a1, by simp [a2], List.mem_append_left _ a3, a4⟩
      | false =>
        rw [hP] at hgn h2
        simp only [Bool.false_eq_true, if_false] at hgn ⊢
        intro q hq
        rcases List.mem_append.mp hq with hq | hq
        · exact hgn q hq
        · rw [List.mem_singleton.mp hq]
          rcases h2 with h2 | h2
          · cases h2
          · exact h2
    · rw [h1] at hgn
      rw [h2]
      simp only [Bool.false_eq_true, if_false] at hgn
      simp only [if_true]
      refine ⟨v, ext.map (·.1), [], h3, by simp, ?_, fun a ha => ?_⟩
      · rw [← h4]; simp
      · obtain ⟨q, hq, rfl⟩ := List.mem_map.mp ha
        exact hgn q hq
  · rw [List.map_append, List.nodup_append]
    refine ⟨M.nd, by simp, fun a ha b hb => ?_⟩
    have : b = v := by simpa using hb
    rw [this]; rintro rfl; exact hx ha
theorem NInv.finish (L : FInv adj t B V one k fnd front) (M : NInv adj t B V one k fnd P fnd' later) (hP : ∀ n, IsD adj t B n one → P n = true ∧ k + 1 ≤ n) : FInv adj t B V one (k + 1) fnd' later := by
  obtain ⟨ext, rfl, rfl, he, hg⟩ := M.ex
  refine ⟨M.nd, fun q h => ?_, fun q h => ?_, fun v h => ?_, fun n hn => ?_⟩
  · rcases List.mem_append.mp h with h | h
    · exact L.inV q h
    · exact (he q h).1
  · rcases List.mem_append.mp h with h | h
    · obtain ⟨j, hj, f⟩ := L.fw q h
      exact ⟨j, by omega, f⟩
    · exact ⟨k + 1, Nat.le_refl _, (he q h).2.1⟩
  · obtain ⟨q, hq, rfl⟩ := List.mem_map.mp h
    obtain ⟨_, f, o⟩ := he q hq
    exact ⟨List.mem_map.mpr ⟨q, List.mem_append_right _ hq, rfl⟩, f, .inr o⟩
  · have hgn := hg n hn
    obtain ⟨h1, h2⟩ := hP n hn
    rw [h1] at hgn
    simp only [if_true] at hgn
    obtain ⟨g, A, C, a1, a2, a3, a4⟩ := hgn
    exact ⟨h2, g, A, C, a1, a2, List.mem_append_right _ a3, a4⟩
/-- t is found just at the way's length -/
theorem FInv.met (L : FInv adj t B V one k fnd front) (h : t ∈ fnd.map (·.1)) : ∃ n, n ≤ k ∧ IsD adj t B n one := by
  obtain ⟨q, hq, e⟩ := List.mem_map.mp h
  obtain ⟨j, hj, f⟩ := L.fw q hq
  rw [e] at f
  have := f 0 (by simp [Dn])
  obtain ⟨n, hn, hi⟩ := least _ this
  exact ⟨n, by omega, hi⟩
theorem FInv.way (L : FInv adj t B V one k fnd front) {n : Nat} (hn : IsD adj t B n one) (h : front = [] ∨ t ∈ fnd.map (·.1)) : (t, gp adj t B n one) ∈ fnd := by
  obtain ⟨hk, g, A, C, a1, a2, a3, _⟩ := L.good n hn
  rcases h with h | h
  · rw [h] at a2; simp at a2
  · obtain ⟨m, hm, im⟩ := L.met h
    have : n = m := hn.uniq im
    subst this
    have : k = n := by omega
    subst this
    rw [gp_end hn] at a1; cases a1
    have hl := gp_len hn
    rwa [List.take_of_length_le (by omega)] at a3
end
end K17
end
/-! tables of the store; the next contents -/
noncomputable section
namespace K17
open PySem PySem.Spec PyProof.Rows L2 DL
section
variable {β : Type} {f : β → W} {found : List (List Int × β)} {x : List Int} {v : β} {n : Nat} {S : Sto}
def tabF (f : β → W) (found : List (List Int × β)) : List (List Key × W) := found.map fun q => (kc q.1, f q.2)
theorem val_tab : valW (tabF f found) (kc x) = (found.find? fun q => decide (q.1 = x)).map fun q => f q.2 := by
  unfold valW tabF
  induction found with
  | nil => rfl
  | cons q l ih =>
    rw [List.map_cons, List.find?_cons, List.find?_cons]
    by_cases h : q.1 = x
    · simp [h]
    · have : kc q.1 ≠ kc x := fun e => h (kc_inj e)
      simp only [this, h, decide_false]
      exact ih
theorem find_isSome : (found.find? fun q => decide (q.1 = x)).isSome = decide (x ∈ found.map (·.1)) := by
  induction found with
  | nil => simp
  | cons q l ih =>
    rw [List.find?_cons]
    by_cases h : q.1 = x
    · simp [h]
    · have h' : x ≠ q.1 := fun e => h e.symm
      simp only [h, decide_false, ih, List.map_cons, List.mem_cons, h', false_or]
theorem find_at (hn : (found.map (·.1)).Nodup) (h : (x, v) ∈ found) : (found.find? fun q => decide (q.1 = x)) = some (x, v) := by
  induction found with
  | nil => cases h
  | cons q l ih =>
    rw [List.map_cons, List.nodup_cons] at hn
    rw [List.find?_cons]
    rcases List.mem_cons.mp h with e | e
    · subst e; simp
    · have : q.1 ≠ x := fun z => hn.1 (List.mem_map.mpr ⟨_, e, z.symm⟩)
      simp only [this, decide_false]
      exact ih hn.2 e
theorem look_tab (hS : S[n]? = some (.dicT (tabF f found))) : dlook S (.loc n) (.d (tI x)) = some ((found.find? fun q => decide (q.1 = x)).map fun q => f q.2) := by
  simp only [tI, dlook, hS, keys_tI, Option.map_some, val_tab]
theorem din_tab (neg : Bool) (hS : S[n]? = some (.dicT (tabF f found))) : dinF neg (.d (tI x)) (.loc n) S = some (.d (.bool (decide (x ∈ found.map (·.1)) ^^ neg)), S) := by
  simp only [dinF, look_tab hS, Option.map_some, Option.isSome_map, find_isSome]
theorem dget_tab (hS : S[n]? = some (.dicT (tabF f found))) (hn : (found.map (·.1)).Nodup) (h : (x, v) ∈ found) : dgetF (.loc n) (.d (tI x)) S = some (f v, S) := by
  simp only [tI, dgetF, hS, keys_tI, Option.bind_some, val_tab, find_at hn h, Option.map_some]
theorem put_new (h : x ∉ found.map (·.1)) : putW (tabF f found) (kc x) (f v) = tabF f (found ++ [(x, v)]) := by
  have : ((tabF f found).any fun kv => decide (kv.1 = kc x)) = false := by
    rw [List.any_eq_false]
    intro q hq
    obtain ⟨r, hr, rfl⟩ := List.mem_map.mp hq
    simp only [decide_eq_true_eq]
    exact fun e => h (List.mem_map.mpr ⟨r, hr, kc_inj e⟩)
  unfold putW
  rw [this]
  simp [tabF]
theorem put_tab (hS : S[n]? = some (.dicT (tabF f found))) (h : x ∉ found.map (·.1)) (hl : found.length < sizeLine) : dputF (.loc n) (.d (tI x)) (f v) S = some (S.set n (.dicT (tabF f (found ++ [(x, v)])))) := by
  have : (tabF f found).length < sizeLine := by simp [tabF]; exact hl
  simp only [tI, dputF, hS, keys_tI, Option.bind_some, this, if_true, put_new h]
theorem obD_tab (f : β → PyData) : obD (.dicT (tabF (fun b => .d (f b)) found)) = true := by
  simp only [obD, tabF, List.map_map]
  have : found.map ((fun q : List Key × W => q.2) ∘ fun q : List Int × β => (kc q.1, W.d (f q.2))) = (found.map fun q => f q.2).map W.d := by rw [List.map_map]; rfl
  rw [this, allD_map]; rfl
end
/-! ### the next contents, in their order -/
theorem sortL_ex (l : List (List Int)) : ∃ r : List (List Int), r.Perm l ∧ sortC (l.map cI) = r.map cI := by
  obtain ⟨r, hr, e⟩ := perm_map_ex (sortC_perm (l.map cI))
  exact ⟨r, hr, e⟩
def sortL (l : List (List Int)) : List (List Int) := Classical.choose (sortL_ex l)
theorem sortL_perm (l : List (List Int)) : (sortL l).Perm l := (Classical.choose_spec (sortL_ex l)).1
theorem sortL_cI (l : List (List Int)) : sortC (l.map cI) = (sortL l).map cI := (Classical.choose_spec (sortL_ex l)).2
theorem sortL_tI (l : List (List Int)) : sortT l = (sortL l).map tI := by
  unfold sortT
  rw [sortL_cI, toPs_map, List.map_map]
  exact List.map_congr_left fun a _ => (ofP_eq _ _ (ofP_tI a)).symm
theorem sortL_srtd (l : List (List Int)) : (sortL l).Pairwise fun x y => ltC (cI y) (cI x) = false := by
  have := sortC_srtd (l.map cI)
  rw [sortL_cI, List.pairwise_map] at this
  exact this
def adjC (b : List Pl) (x : List Int) : List (List Int) := sortL (stp x 0 b)
def radjC (b : List Pl) (x : List Int) : List (List Int) := sortL (stq x 0 b)
theorem adj_radj {b : List Pl} {x y : List Int} (hx : Fits x b) (hy : Fits y b) : y ∈ adjC b x ↔ x ∈ radjC b y := by
  have hc := cnt_stp (x := x) (c := y) (by rw [fits_len hx, fits_len hy]) (k := 0) (b := b) (by rw [fits_len hx]; omega)
  unfold adjC radjC
  rw [(sortL_perm _).mem_iff, (sortL_perm _).mem_iff, ← List.count_pos_iff, ← List.count_pos_iff, hc]
theorem adj_fits {b : List Pl} {x y : List Int} (g : Good b) (hx : Fits x b) (h : y ∈ adjC b x) : Fits y b := stp_fits g hx ((sortL_perm _).subset h)
theorem radj_fits {b : List Pl} {x y : List Int} (g : Good b) (hx : Fits x b) (h : y ∈ radjC b x) : Fits y b := stq_fits g hx ((sortL_perm _).subset h)
theorem inV {b : List Pl} {x : List Int} : x ∈ conts b ↔ Fits x b := mem_conts _ rfl
theorem from_ev {b : List Pl} {c : List Int} (g : Good b) (hc : Fits c b) (S : Sto) : callF f_steps_from [.d (bn b), .d (tI c)] S = some (.d (.list ((adjC b c).map tI)), S) := by
  rw [steps_from_ok g hc, sortL_tI]; rfl
theorem to_ev {b : List Pl} {c : List Int} (g : Good b) (hc : Fits c b) (S : Sto) : callF f_steps_to [.d (bn b), .d (tI c)] S = some (.d (.list ((radjC b c).map tI)), S) := by
  rw [steps_to_ok g hc, sortL_tI]; rfl
/-! ### calls that take an object and give one -/
theorem callF_both {f : FS} {ws : List W} {S : Sto} {n : Nat} {ob ob2 : Ob} (h0 : firstLoc ws = some n) (h1 : allLoc n ws = true) (h2 : S[n]? = some ob) (h3 : obD ob = true) (h : f (ws.map toZero) [ob] = some (.loc 1, [ob, ob2])) (h4 : obD ob2 = true) : callF f ws S = some (.loc S.length, S ++ [ob2]) := by
  have : S.set n ob = S := set_same h2
  simp [callF, h0, h1, h2, h3, h, h4, this]
theorem runF_both {N : Nat} {b : MS} {ws : List W} {ob ob2 : Ob} {junk : Sto} (h : ∃ ρ', b (ws.map some ++ List.replicate (N - ws.length) none) [ob] = some (.rt (.loc 1), ρ', ob :: ob2 :: junk)) (h1 : obD ob = true) (h2 : obD ob2 = true) : runF N b ws [ob] = some (.loc 1, [ob, ob2]) := by
  obtain ⟨ρ', h⟩ := h
  simp [runF, h, leave, h1, h2]
/-- the barred ones as a table -/
def barT (ks : List (List Int)) : Ob := .dicT (tabF (fun _ : Unit => .d (.bool true)) (ks.map fun x => (x, ())))
theorem bar_keys (ks : List (List Int)) : ((ks.map fun x => (x, ())).map (·.1)) = ks := by
  induction ks with
  | nil => rfl
  | cons x l ih => rw [List.map_cons, List.map_cons, ih]
def fI (d : Nat) : W := .d (.int d)
/-- one step's end seen to -/
def slS (bar : Ob) (found : List (List Int × Nat)) (junk : Sto) (further : List (List Int)) : Sto := bar :: .dicT (tabF fI found) :: (junk ++ [.lst ((further.map tI).map W.d)])
theorem sl_step {bar : Ob} {found : List (List Int × Nat)} {junk : Sto} {further : List (List Int)} {one here : List Int} {k : Nat} {z0 z1 z3 z8 : Option W} (hn : (found.map (·.1)).Nodup) (hh : (here, k) ∈ found) (hl : found.length ≤ 100000) (hf : further.length ≤ 100000) :
    L_steps_left_1 [z0, z1, some (.loc 0), z3, some (.loc 1), some (.loc (2 + junk.length)), some (.d (tI here)), some (.d (tI one)), z8] (slS bar found junk further) =
      some (.nx, [z0, z1, some (.loc 0), z3, some (.loc 1), some (.loc (2 + junk.length)), some (.d (tI here)), some (.d (tI one)), z8], if one ∈ found.map (·.1) then slS bar found junk further else slS bar (found ++ [(one, k + 1)]) junk (further ++ [one])) := by
  have hS : (slS bar found junk further)[1]? = some (.dicT (tabF fI found)) := rfl
  have hd := din_tab (x := one) true hS
  unfold L_steps_left_1
  by_cases h : one ∈ found.map (·.1)
  · rw [if_f (by simp only [tOf, mBin, mVar, List.getElem?_cons_succ, List.getElem?_cons_zero, Option.bind_some, hd, h, decide_true]; rfl), if_pos h]
    rfl
  · rw [if_t (by simp only [tOf, mBin, mVar, List.getElem?_cons_succ, List.getElem?_cons_zero, Option.bind_some, hd, h, decide_false]; rfl), if_neg h]
    have hg := dget_tab hS hn hh
    have hp := put_tab (v := k + 1) hS h (by have : 100000 < sizeLine := by decide
                                             omega)
    have hset : (slS bar found junk further).set 1 (.dicT (tabF fI (found ++ [(one, k + 1)]))) = slS bar (found ++ [(one, k + 1)]) junk further := rfl
    rw [hset] at hp
    have hS2 : (slS bar (found ++ [(one, k + 1)]) junk further)[2 + junk.length]? = some (.lst ((further.map tI).map W.d)) := by
      rw [show 2 + junk.length = junk.length + 1 + 1 by omega]
      simp [slS]
    have ha := append_ev (w := .d (tI one)) hS2 (by
      rw [List.length_map, List.length_map]
      have : 100000 < sizeLine := by decide
      omega)
    have hset2 : (slS bar (found ++ [(one, k + 1)]) junk further).set (2 + junk.length) (.lst ((further.map tI).map W.d ++ [.d (tI one)])) = slS bar (found ++ [(one, k + 1)]) junk (further ++ [one]) := by
      rw [show 2 + junk.length = junk.length + 1 + 1 by omega]
      simp [slS]
    rw [hset2] at ha
    have hil : isLst (slS bar (found ++ [(one, k + 1)]) junk further) (.loc (2 + junk.length)) = true := by simp only [isLst, hS2]
    have hadd : ∀ S, addA (fI k) (.d (.int 1)) S = some (fI (k + 1), S) := fun S => by simp [fI, ev_add]
    rw [seq_nx (ρ1 := [z0, z1, some (.loc 0), z3, some (.loc 1), some (.loc (2 + junk.length)), some (.d (tI here)), some (.d (tI one)), z8]) (S1 := slS bar (found ++ [(one, k + 1)]) junk further) (by
      simp only [sAsg, mBin, mVar, mC, List.getElem?_cons_succ, List.getElem?_cons_zero, Option.bind_some, hg, hadd, gSubD, hp])]
    simp only [sExpr, mMt, mVar, mCons, mNil, List.getElem?_cons_succ, List.getElem?_cons_zero, Option.bind_some, hil, if_true, ha]
end K17
end
/-! steps_left -/
noncomputable section
namespace K17
open PySem PySem.Spec PyProof.Rows L2 DL
theorem nodup_len {α : Type} [DecidableEq α] : ∀ {l m : List α}, l.Nodup → (∀ x ∈ l, x ∈ m) → l.length ≤ m.length
  | [], _, _, _ => Nat.zero_le _
  | a :: l, m, hn, h => by
    have hn' := List.nodup_cons.mp hn
    have ha : a ∈ m := h a (by simp)
    have := nodup_len (l := l) (m := m.erase a) hn'.2 (fun x hx => by
      have : x ≠ a := fun e => hn'.1 (e ▸ hx)
      exact (List.mem_erase_of_ne this).mpr (h x (by simp [hx])))
    rw [List.length_erase_of_mem ha] at this
    have : 0 < m.length := List.length_pos_of_mem ha
    rw [List.length_cons]; omega
def bB (ks : List (List Int)) (x : List Int) : Bool := decide (x ∈ ks)
section
variable {b : List Pl} {t : List Int} {ks : List (List Int)} {k : Nat} {found found' : List (List Int × Nat)} {line further : List (List Int)} {junk : Sto} {done : List Int → Prop}
abbrev LI (b : List Pl) (t : List Int) (ks : List (List Int)) := LInv (adj := adjC b) (t := t) (B := bB ks) (conts b)
abbrev MI' (b : List Pl) (t : List Int) (ks : List (List Int)) := MInv (adj := adjC b) (t := t) (B := bB ks) (conts b)
theorem LI.len (L : LI b t ks k found line) : found.length ≤ (conts b).length := by
  have := nodup_len (m := conts b) L.nd fun x hx => by
    obtain ⟨q, hq, rfl⟩ := List.mem_map.mp hx
    exact L.inV q hq
  rwa [List.length_map] at this
theorem MI'.len (L : LI b t ks k found line) (M : MI' b t ks k found done found' further) : found'.length ≤ (conts b).length ∧ further.length ≤ (conts b).length ∧ found'.length = found.length + further.length := by
  have h1 := nodup_len (m := conts b) M.nd fun x hx => by
    obtain ⟨q, hq, rfl⟩ := List.mem_map.mp hx
    obtain ⟨ext, e1, _, he⟩ := M.ex
    rw [e1] at hq
    rcases List.mem_append.mp hq with z | z
    · exact L.inV q z
    · exact (he q z).2.2
  rw [List.length_map] at h1
  obtain ⟨ext, rfl, rfl, _⟩ := M.ex
  rw [List.length_append] at h1
  refine ⟨by rw [List.length_append]; exact h1, by rw [List.length_map]; omega, by rw [List.length_append, List.length_map]⟩
/-- all ends of one -/
theorem sl_row {here : List Int} {z0 z1 z3 z7 z8 : Option W} (g : Good b) (L : LI b t ks k found line) (M : MI' b t ks k found done found' further) (hh : (here, k) ∈ found) (ok : okN t (bB ks) here = true) :
    ∃ ρ' found2 further2 y7, forL (gSet 7) L_steps_left_1 (((radjC b here).map tI).map W.d) [z0, z1, some (.loc 0), z3, some (.loc 1), some (.loc (2 + junk.length)), some (.d (tI here)), z7, z8] (slS (barT ks) found' junk further) = some (.nx, ρ', slS (barT ks) found2 junk further2) ∧
      ρ' = [z0, z1, some (.loc 0), z3, some (.loc 1), some (.loc (2 + junk.length)), some (.d (tI here)), y7, z8] ∧ MI' b t ks k found (fun z => done z ∨ z ∈ radjC b here) found2 further2 := by
  have hV := L.inV _ hh
  have hd := (L.val _ hh).1
  obtain ⟨ρ', S', e, found2, further2, y7, rfl, rfl, M2⟩ := forL_J (g := gSet 7) (F := L_steps_left_1) (ws := ((radjC b here).map tI).map W.d) (k := 0)
    (J := fun j ρ S => ∃ found2 further2 y7, ρ = [z0, z1, some (.loc 0), z3, some (.loc 1), some (.loc (2 + junk.length)), some (.d (tI here)), y7, z8] ∧ S = slS (barT ks) found2 junk further2 ∧ MI' b t ks k found (fun z => done z ∨ z ∈ (radjC b here).take j) found2 further2)
    (ρ := [z0, z1, some (.loc 0), z3, some (.loc 1), some (.loc (2 + junk.length)), some (.d (tI here)), z7, z8]) (S := slS (barT ks) found' junk further) (fun j w ρ S hw ⟨found2, further2, y7, e1, e2, M2⟩ => by
      subst e1 e2
      simp only [List.getElem?_map, Option.map_eq_some_iff, Nat.zero_add] at hw M2 ⊢
      obtain ⟨_, ⟨x, hx, rfl⟩, rfl⟩ := hw
      have hlen := MI'.len L M2
      have hc := g.clen
      have hmem : (here, k) ∈ found2 := by
        obtain ⟨ext, e1, _⟩ := M2.ex
        rw [e1]; exact List.mem_append_left _ hh
      have e3 := sl_step (bar := barT ks) (one := x) (z0 := z0) (z1 := z1) (z3 := z3) (z8 := z8) (junk := junk) (further := further2) M2.nd hmem (by omega) (by omega)
      have e4 : ((gSet 7 (.d (tI x)) [z0, z1, some (.loc 0), z3, some (.loc 1), some (.loc (2 + junk.length)), some (.d (tI here)), y7, z8] (slS (barT ks) found2 junk further2)).bind fun p => L_steps_left_1 p.1 p.2) = _ := Eq.trans (by simp [gSet]) e3
      have hxr : x ∈ radjC b here := List.mem_of_getElem? hx
      have hxf : Fits x b := radj_fits g (inV.mp hV) hxr
      have hdone : ∀ z, (done z ∨ z ∈ (radjC b here).take (j + 1)) ↔ ((done z ∨ z ∈ (radjC b here).take j) ∨ z = x) := fun z => by
        rw [take_snoc hx, List.mem_append, List.mem_singleton, or_assoc]
      have hfun : (fun z => done z ∨ z ∈ (radjC b here).take (j + 1)) = fun z => (done z ∨ z ∈ (radjC b here).take j) ∨ z = x := funext fun z => propext (hdone z)
      rw [hfun]
      by_cases h : x ∈ found2.map (·.1)
      · rw [if_pos h] at e4
        exact ⟨_, _, e4, _, _, _, rfl, rfl, M2.skip h⟩
      · rw [if_neg h] at e4
        exact ⟨_, _, e4, _, _, _, rfl, rfl, M2.add L h (inV.mpr hxf) ((adj_radj hxf (inV.mp hV)).mpr hxr) ok hd⟩) ⟨found', further, z7, rfl, rfl, by simpa using M⟩
  simp only [Nat.zero_add, List.length_map, List.take_length] at e M2
  exact ⟨_, _, _, _, e, rfl, M2⟩
/-- a whole level -/
theorem sl_level {hs : List (List Int)} {z0 z3 z6 z7 z8 : Option W} (g : Good b) (L : LI b t ks k found line) (hs0 : ∀ x ∈ hs, x ∈ line ∧ okN t (bB ks) x = true) (h0 : z0 = some (.d (bn b))) {z1 : Option W} :
    ∃ ρ' found2 further2, forL (gSet 6) L_steps_left_2 ((hs.map tI).map W.d) [z0, z1, some (.loc 0), z3, some (.loc 1), some (.loc (2 + junk.length)), z6, z7, z8] (slS (barT ks) found junk []) = some (.nx, ρ', slS (barT ks) found2 junk further2) ∧
      (∃ y6 y7, ρ' = [z0, z1, some (.loc 0), z3, some (.loc 1), some (.loc (2 + junk.length)), y6, y7, z8]) ∧ MI' b t ks k found (fun z => ∃ y ∈ hs, z ∈ radjC b y) found2 further2 := by
  obtain ⟨ρ', S', e, found2, further2, y6, y7, rfl, rfl, M2⟩ := forL_J (g := gSet 6) (F := L_steps_left_2) (ws := (hs.map tI).map W.d) (k := 0)
    (J := fun i ρ S => ∃ found2 further2 y6 y7, ρ = [z0, z1, some (.loc 0), z3, some (.loc 1), some (.loc (2 + junk.length)), y6, y7, z8] ∧ S = slS (barT ks) found2 junk further2 ∧ MI' b t ks k found (fun z => ∃ y ∈ hs.take i, z ∈ radjC b y) found2 further2)
    (ρ := [z0, z1, some (.loc 0), z3, some (.loc 1), some (.loc (2 + junk.length)), z6, z7, z8]) (S := slS (barT ks) found junk []) (fun i w ρ S hw ⟨found2, further2, y6, y7, e1, e2, M2⟩ => by
      subst e1 e2
      simp only [List.getElem?_map, Option.map_eq_some_iff, Nat.zero_add] at hw M2 ⊢
      obtain ⟨_, ⟨x, hx, rfl⟩, rfl⟩ := hw
      obtain ⟨hl, ok⟩ := hs0 x (List.mem_of_getElem? hx)
      have hh := (L.ln x).mp hl
      have hxf := inV.mp (L.inV _ hh)
      obtain ⟨ρ', found3, further3, y7', e3, e3', M3⟩ := sl_row (here := x) (z0 := z0) (z1 := z1) (z3 := z3) (z7 := y7) (z8 := z8) (junk := junk) g L M2 hh ok
      subst e3'
      have hi : iSeq (mCall (callF f_steps_to) (mCons (mVar 0) (mCons (mVar 6) (mNil)))) [z0, z1, some (.loc 0), z3, some (.loc 1), some (.loc (2 + junk.length)), some (.d (tI x)), y7, z8] (slS (barT ks) found2 junk further2) = some (((radjC b x).map tI).map W.d, slS (barT ks) found2 junk further2) := by
        simp only [iSeq, mCall, mCons, mNil, mVar, h0, List.getElem?_cons_succ, List.getElem?_cons_zero, Option.bind_some, to_ev g hxf]
      have e4 : ((gSet 6 (.d (tI x)) [z0, z1, some (.loc 0), z3, some (.loc 1), some (.loc (2 + junk.length)), y6, y7, z8] (slS (barT ks) found2 junk further2)).bind fun p => L_steps_left_2 p.1 p.2) = _ := Eq.trans (by
        rw [show gSet 6 (.d (tI x)) [z0, z1, some (.loc 0), z3, some (.loc 1), some (.loc (2 + junk.length)), y6, y7, z8] (slS (barT ks) found2 junk further2) = some ([z0, z1, some (.loc 0), z3, some (.loc 1), some (.loc (2 + junk.length)), some (.d (tI x)), y7, z8], slS (barT ks) found2 junk further2) by simp [gSet]]
        simp only [Option.bind_some, L_steps_left_2, sFor, hi]) e3
      refine ⟨_, _, e4, _, _, _, _, rfl, rfl, ?_⟩
      have hfun : (fun z => ∃ y ∈ hs.take (i + 1), z ∈ radjC b y) = fun z => (∃ y ∈ hs.take i, z ∈ radjC b y) ∨ z ∈ radjC b x := funext fun z => propext (by
        rw [take_snoc hx]
        constructor
        · rintro ⟨y, hy, hz⟩
          rcases List.mem_append.mp hy with c | c
          · exact .inl ⟨y, c, hz⟩
          · rw [List.mem_singleton.mp c] at hz; exact .inr hz
        · rintro (⟨y, hy, hz⟩ | hz)
          · exact ⟨y, List.mem_append_left _ hy, hz⟩
          · exact ⟨x, by simp, hz⟩)
      rw [hfun]
      exact M3) ⟨found, [], z6, z7, rfl, rfl, by simpa using L.start⟩
  simp only [Nat.zero_add, List.length_map, List.take_length] at e M2
  exact ⟨_, _, _, e, ⟨_, _, rfl⟩, M2⟩
/-- what is told of what is left -/
structure Left (b : List Pl) (t : List Int) (ks : List (List Int)) (found : List (List Int × Nat)) : Prop where
  nd : (found.map (·.1)).Nodup
  iff : ∀ x d, x ∈ conts b → ((x, d) ∈ found ↔ IsD (adjC b) t (bB ks) d x)
  inV : ∀ q ∈ found, q.1 ∈ conts b
theorem steps_left_ok {n : Nat} {S : Sto} (g : Good b) (ht : Fits t b) (hS : S[n]? = some (barT ks)) :
    ∃ found, callF f_steps_left [.d (bn b), .d (tI t), .loc n] S = some (.loc S.length, S ++ [.dicT (tabF fI found)]) ∧ Left b t ks found := by
  have hob : obD (barT ks) = true := obD_tab (fun _ => .bool true)
  have hadj : ∀ x, x ∈ conts b → ∀ y ∈ adjC b x, y ∈ conts b := fun x hx y hy => inV.mpr (adj_fits g (inV.mp hx) hy)
  obtain ⟨ρ', S', e, k, found, junk, x3, x5, x6, x7, x8, rfl, rfl, L⟩ := whileL_J (α := Nat × List (List Int × Nat) × List (List Int) × Sto) (T := tTru (mVar 3)) (F := sSeq (sAsg (mCall lstB (mNil)) (gSet 5))
    (sSeq (sFor (iSeq (mLc (iSeq (mVar 3)) (gSet 8) (tOrD (tOf (mBin (eqA false) (mVar 8) (mVar 1))) (tOf (mBin (dinF true) (mVar 8) (mVar 2)))) (mVar 8) [8] kFrz)) (gSet 6) (L_steps_left_2))
    (sAsg (mFrz (mVar 5)) (gSet 3))))
    (J := fun a ρ S => ∃ x5 x6 x7 x8, ρ = [some (.d (bn b)), some (.d (tI t)), some (.loc 0), some (.d (.list (a.2.2.1.map tI))), some (.loc 1), x5, x6, x7, x8] ∧ S = barT ks :: .dicT (tabF fI a.2.1) :: a.2.2.2 ∧ LI b t ks a.1 a.2.1 a.2.2.1)
    (μ := fun a => 2 * ((conts b).length - a.2.1.length) + if a.2.2.1 = [] then 0 else 1)
    (P := fun ρ S => ∃ k found junk x3 x5 x6 x7 x8, ρ = [some (.d (bn b)), some (.d (tI t)), some (.loc 0), x3, some (.loc 1), x5, x6, x7, x8] ∧ S = barT ks :: .dicT (tabF fI found) :: junk ∧ LI b t ks k found [])
    (fun a ρ S ⟨x5, x6, x7, x8, e1, e2, L⟩ => by
      obtain ⟨k, found, line, junk⟩ := a
      simp only at e1 e2 L
      subst e1 e2
      by_cases hl : line = []
      · subst hl
        exact .inl ⟨by simp [tTru, truD, mVar], k, found, junk, _, x5, x6, x7, x8, rfl, rfl, L⟩
      · right
        refine ⟨by
          have : (line.map tI).isEmpty = false := by cases line with
            | nil => exact absurd rfl hl
            | cons x l => rfl
          simp [tTru, truD, mVar, this], ?_⟩
        have hc := g.clen
        have hlv : ∀ x ∈ line, x ∈ conts b := fun x hx => L.inV _ ((L.ln x).mp hx)
        have hll : line.length ≤ sizeLine := by
          have := nodup_len L.lnd hlv
          exact sz_of (by omega)
        have e3 := lc_e (it := iSeq (mVar 3)) (g := gSet 8) (T := tOrD (tOf (mBin (eqA false) (mVar 8) (mVar 1))) (tOf (mBin (dinF true) (mVar 8) (mVar 2)))) (E := mVar 8) (vs := [8]) (ρ := [some (.d (bn b)), some (.d (tI t)), some (.loc 0), some (.d (.list (line.map tI))), some (.loc 1), some (.loc (2 + junk.length)), x6, x7, x8]) (S := slS (barT ks) found junk []) tI (okN t (bB ks)) tI (l := line) (by simp [iSeq, mVar]) (fun x _ => by
          refine ⟨[some (.d (bn b)), some (.d (tI t)), some (.loc 0), some (.d (.list (line.map tI))), some (.loc 1), some (.loc (2 + junk.length)), x6, x7, some (.d (tI x))], by simp [gSet, wipeD], ?_, fun _ => by simp [mVar]⟩
          have hd := din_tab (x := x) true (S := slS (barT ks) found junk []) (n := 0) (f := fun _ : Unit => .d (.bool true)) (found := ks.map fun x => (x, ())) rfl
          rw [bar_keys] at hd
          simp only [tOrD, tOf, mBin, mVar, List.getElem?_cons_succ, List.getElem?_cons_zero, Option.bind_some, eq_tI, hd, okN, bB]
          by_cases h : x = t <;> simp [h]) (Nat.le_trans (List.length_filter_le _ _) hll)
        obtain ⟨ρ', found2, further2, e4, ⟨y6, y7, rfl⟩, M2⟩ := sl_level (hs := line.filter (okN t (bB ks))) (z0 := some (.d (bn b))) (z1 := some (.d (tI t))) (z3 := some (.d (.list (line.map tI)))) (z6 := x6) (z7 := x7) (z8 := x8) (junk := junk) g L (fun x hx => List.mem_filter.mp hx) rfl
        have L2 := M2.finish L (fun x hx y hy oy hyl => ⟨y, List.mem_filter.mpr ⟨hyl, oy⟩, (adj_radj (inV.mp hx) (inV.mp (hlv y hyl))).mp hy⟩) hadj
        have hml := MI'.len L M2
        have hlen2 : (slS (barT ks) found2 junk further2)[2 + junk.length]? = some (.lst ((further2.map tI).map W.d)) := by
          rw [show 2 + junk.length = junk.length + 1 + 1 by omega]; simp [slS]
        refine ⟨[some (.d (bn b)), some (.d (tI t)), some (.loc 0), some (.d (.list (further2.map tI))), some (.loc 1), some (.loc (2 + junk.length)), y6, y7, x8], barT ks :: .dicT (tabF fI found2) :: (junk ++ [.dead]), ?_, (k + 1, found2, further2, junk ++ [.dead]), ⟨_, _, _, _, rfl, rfl, L2⟩, ?_⟩
        · rw [seq_nx (ρ1 := [some (.d (bn b)), some (.d (tI t)), some (.loc 0), some (.d (.list (line.map tI))), some (.loc 1), some (.loc (2 + junk.length)), x6, x7, x8]) (S1 := slS (barT ks) found junk []) (by
            simp [sAsg, mCall, lstB, mNil, gSet, slS]; omega)]
          rw [seq_nx (by
            simp only [sFor]
            rw [show iSeq (mLc (iSeq (mVar 3)) (gSet 8) (tOrD (tOf (mBin (eqA false) (mVar 8) (mVar 1))) (tOf (mBin (dinF true) (mVar 8) (mVar 2)))) (mVar 8) [8] kFrz) [some (.d (bn b)), some (.d (tI t)), some (.loc 0), some (.d (.list (line.map tI))), some (.loc 1), some (.loc (2 + junk.length)), x6, x7, x8] (slS (barT ks) found junk []) = some (((line.filter (okN t (bB ks))).map tI).map W.d, slS (barT ks) found junk []) by simp only [iSeq, e3, Option.bind_some]]
            exact e4)]
          have hset : (slS (barT ks) found2 junk further2).set (2 + junk.length) .dead = barT ks :: .dicT (tabF fI found2) :: (junk ++ [.dead]) := by
            rw [show 2 + junk.length = junk.length + 1 + 1 by omega]; simp [slS]
          simp only [sAsg, mFrz, mVar, List.getElem?_cons_succ, List.getElem?_cons_zero, Option.bind_some, hlen2, allD_map, Option.map_some, hset]
          simp [gSet]
        · have hne : (if line = [] then 0 else 1) = 1 := if_neg hl
          simp only [hne]
          by_cases hf : further2 = []
          · subst hf
            simp only [List.length_nil] at hml
            simp only [if_true]
            omega
          · have : 0 < further2.length := List.length_pos_iff.mpr hf
            simp only [hf, if_false]
            omega) (n := FUEL) (a := (0, [(t, 0)], [t], [])) (ρ := [some (.d (bn b)), some (.d (tI t)), some (.loc 0), some (.d (.list [tI t])), some (.loc 1), none, none, none, none]) (S := [barT ks, .dicT (tabF fI [(t, 0)])]) ⟨none, none, none, none, rfl, rfl, LInv.zero (inV.mpr ht)⟩ (by
      have hc := g.clen
      simp only [FUEL]
      split <;> omega)
  refine ⟨found, ?_, L.nd, fun x d hx => ⟨fun h => (L.val _ h).1, fun h => L.whole hadj d x hx h⟩, L.inV⟩
  have ob2 : obD (.dicT (tabF fI found)) = true := obD_tab (fun d : Nat => .int d)
  refine callF_both (n := n) (ob := barT ks) rfl (by simp [allLoc]) hS hob (runF_both (junk := junk) ⟨[some (.d (bn b)), some (.d (tI t)), some (.loc 0), x3, some (.loc 1), x5, x6, x7, x8], ?_⟩ hob ob2) ob2
  show b_steps_left [some (.d (bn b)), some (.d (tI t)), some (.loc 0), none, none, none, none, none, none] [barT ks] = _
  unfold b_steps_left
  rw [seq_nx (ρ1 := [some (.d (bn b)), some (.d (tI t)), some (.loc 0), some (.d (.list [tI t])), some (.loc 1), none, none, none, none]) (S1 := [barT ks, .dicT (tabF fI [(t, 0)])]) (by
    simp only [sPar, mCons, mDisp1, mVar, List.getElem?_cons_succ, List.getElem?_cons_zero, Option.bind_some, mC, tI, keys_tI, mCall, lstF, allD, Option.map_some, mNil]
    rw [if_pos (show [PyData.tuple (t.map .int)].length ≤ sizeLine from sz1)]
    simp [tabF, fI])]
  rw [seq_nx e]
  rfl
end
end K17
end
/-! shortest_way, distance -/
noncomputable section
namespace K17
open PySem PySem.Spec PyProof.Rows L2 DL
/-! ### the least of sorted contents is the first -/
theorem toks_nil : PySem.W.keyToks (tI []) = [.inl 0] := by simp [tI, PySem.W.keyToks, PySem.W.keyToksAll]
theorem toks_cons (x : Int) (a : List Int) : PySem.W.keyToks (tI (x :: a)) = .inl 1 :: .inl x :: PySem.W.keyToks (tI a) := by simp [tI, PySem.W.keyToks, PySem.W.keyToksAll]
theorem dlt (a b : List Int) : PySem.W.dataLt (tI a) (tI b) = ltC (cI a) (cI b) := by
  induction a generalizing b with
  | nil =>
    cases b with
    | nil => decide +kernel
    | cons y b =>
      have h1 : ltC (cI []) (cI (y :: b)) = true := by simp [ltC, cI, cmpC, cmpCs]
      rw [h1]
      unfold PySem.W.dataLt
      rw [toks_nil, toks_cons, PySem.W.lex_atom (by decide)]
      decide +kernel
  | cons x a ih =>
    cases b with
    | nil =>
      have h1 : ltC (cI (x :: a)) (cI []) = false := by simp [ltC, cI, cmpC, cmpCs]
      rw [h1]
      unfold PySem.W.dataLt
      rw [toks_nil, toks_cons, PySem.W.lex_atom (by decide)]
      decide +kernel
    | cons y b =>
      unfold PySem.W.dataLt at ih ⊢
      rw [toks_cons, toks_cons, lex_self]
      by_cases h : x = y
      · subst h
        rw [lex_self, ih]
        simp [ltC, cI, cmpC, cmpCs, cmpI2]
      · rw [PySem.W.lex_atom (by simpa using h)]
        have e : PyProof.Rows.lexLt itemOrd [Sum.inl x] [Sum.inl y] = decide (x < y) := by
          have := PySem.W.dataLt_int x y
          simpa [PySem.W.dataLt, PySem.W.keyToks] using this
        rw [e]
        by_cases h2 : x < y <;> simp [ltC, cI, cmpC, cmpCs, cmpI2, h, h2]
theorem minD_first {y : List Int} : ∀ {l : List (List Int)}, (∀ z ∈ l, ltC (cI z) (cI y) = false) → PySem.W.minD (tI y) (l.map tI) = tI y
  | [], _ => rfl
  | z :: l, h => by
    have hz : PySem.W.dataLt (tI z) (tI y) = false := by rw [dlt]; exact h z (by simp)
    have ih := minD_first (y := y) (l := l) fun w hw => h w (by simp [hw])
    unfold PySem.W.minD at ih ⊢
    rw [List.map_cons, List.foldl_cons, hz]
    exact ih

/-! ### what is barred, as a list or a tuple -/
/-- a value that holds just these contents -/
def Holds (w : PyData) (bs : List (List Int)) : Prop := w = .list (bs.map tI) ∨ w = .tuple (bs.map tI)
theorem holds_iter {w : PyData} {bs : List (List Int)} (h : Holds w bs) {A : ME} {ρ : DEnv} {S S' : Sto} (e : A ρ S = some (.d w, S')) : iSeq A ρ S = some ((bs.map tI).map W.d, S') := by
  rcases h with rfl | rfl <;> simp only [iSeq, e, Option.bind_some]
theorem eqv_any (c : List Int) (l : List (List Int)) : ((l.map tI).any fun z => PyData.eqv z (tI c)) = decide (c ∈ l) := by
  induction l with
  | nil => simp
  | cons x xs ih =>
    rw [List.map_cons, List.any_cons, ih, eqv_tI]
    simp only [List.mem_cons]
    by_cases h : x = c
    · subst h; simp
    · have : c ≠ x := fun e => h e.symm
      by_cases h2 : c ∈ xs <;> simp [h, this, h2]
theorem shaped_l (l : List (List Int)) : SeqAt.shaped (.list (l.map tI)) = true := by
  have a : PyData.canLayAll0 (l.map tI) = true := by
    induction l with
    | nil => rfl
    | cons x l ih => simp [PyData.canLayAll0, ih]; simp [tI, PyData.canLay0, lay_ints]
  have b : PyData.depthAll (l.map tI) ≤ 1 := by
    clear a
    induction l with
    | nil => decide
    | cons x l ih => simp only [List.map_cons, PyData.depthAll, dep_tI]; exact Nat.max_le.mpr ⟨Nat.le_refl _, ih⟩
  have d : (PyData.list (l.map tI)).depth ≤ 64 := by simp only [PyData.depth]; exact Nat.le_trans (Nat.succ_le_succ b) (by decide)
  simp only [SeqAt.shaped, PyData.canLay0, a, Bool.true_and, decide_eq_true_eq]
  exact d
theorem in_holds {w : PyData} {bs : List (List Int)} {c : List Int} {S : Sto} (neg : Bool) (h : Holds w bs) : inA neg (.d (tI c)) (.d w) S = some (.d (.bool (decide (c ∈ bs) ^^ neg)), S) := by
  have h1 := shaped_l bs
  have h2 := shaped_tI c
  have h3 := eqv_any c bs
  have h4 : deref S (.d (tI c)) = some (tI c) := rfl
  rcases h with rfl | rfl
  · have h5 : seqOf S (.d (.list (bs.map tI))) = some (bs.map tI) := rfl
    simp only [inA, h4, h5, Option.bind_some, h1, h2, h3, Bool.and_self, if_true]
  · have h5 : seqOf S (.d (.tuple (bs.map tI))) = some (bs.map tI) := rfl
    simp only [inA, h4, h5, Option.bind_some, h1, h2, h3, Bool.and_self, if_true]
theorem put_old {ks : List (List Int)} {x : List Int} (h : x ∈ ks) : putW (tabF (fun _ : Unit => .d (.bool true)) (ks.map fun x => (x, ()))) (kc x) (.d (.bool true)) = tabF (fun _ : Unit => .d (.bool true)) (ks.map fun x => (x, ())) := by
  unfold putW
  have : ((tabF (fun _ : Unit => W.d (.bool true)) (ks.map fun x => (x, ()))).any fun kv => decide (kv.1 = kc x)) = true := by
    rw [List.any_eq_true]
    exact ⟨(kc x, .d (.bool true)), List.mem_map.mpr ⟨(x, ()), List.mem_map.mpr ⟨x, h, rfl⟩, rfl⟩, by simp⟩
  rw [this, if_pos rfl]
  unfold tabF
  rw [List.map_map]
  refine List.map_congr_left fun q _ => ?_
  simp only [Function.comp]
  split <;> rfl
theorem dc_bar {i : Nat} {ρ : DEnv} {S : Sto} (hi : i < ρ.length) : ∀ {bs ks : List (List Int)}, ks.length + bs.length ≤ 100000 → ∃ ks' : List (List Int), dcL (gSet i) tTrue (mVar i) (mC (.bool true)) [i] ρ ((bs.map tI).map W.d) (tabF (fun _ : Unit => .d (.bool true)) (ks.map fun x => (x, ()))) S = some (tabF (fun _ : Unit => .d (.bool true)) (ks'.map fun x => (x, ())), S) ∧ ∀ x, x ∈ ks' ↔ x ∈ ks ∨ x ∈ bs
  | [], ks, _ => ⟨ks, rfl, fun x => by simp⟩
  | c :: bs, ks, h => by
    simp only [List.length_cons] at h
    have e1 : gSet i (.d (tI c)) (wipeD ρ [i]) S = some ((wipeD ρ [i]).set i (some (.d (tI c))), S) := by simp [gSet, wipeD, hi]
    have e2 : mVar i ((wipeD ρ [i]).set i (some (.d (tI c)))) S = some (.d (tI c), S) := by
      have : ((wipeD ρ [i]).set i (some (W.d (tI c))))[i]? = some (some (.d (tI c))) := by simp [wipeD, hi]
      simp only [mVar, this]
    have hl : (tabF (fun _ : Unit => W.d (.bool true)) (ks.map fun x => (x, ()))).length < sizeLine := by
      simp only [tabF, List.length_map]
      have : 100000 < sizeLine := by decide
      omega
    by_cases hc : c ∈ ks
    · obtain ⟨ks', e, hk⟩ := dc_bar hi (bs := bs) (ks := ks) (by omega)
      refine ⟨ks', ?_, fun x => ?_⟩
      · simp only [List.map_cons, dcL, e1, Option.bind_some, tTrue, if_true, e2]
        simp only [tI, keys_tI, Option.bind_some, mC, hl, if_true, put_old hc]
        exact e
      · rw [hk]
        constructor
        · rintro (z | z)
          · exact .inl z
          · exact .inr (List.mem_cons_of_mem _ z)
        · rintro (z | z)
          · exact .inl z
          · rcases List.mem_cons.mp z with z | z
            · rw [z]; exact .inl hc
            · exact .inr z
    · obtain ⟨ks', e, hk⟩ := dc_bar hi (bs := bs) (ks := ks ++ [c]) (by simp; omega)
      have hp := put_new (f := fun _ : Unit => W.d (.bool true)) (found := ks.map fun x => (x, ())) (x := c) (v := ()) (by rw [bar_keys]; exact hc)
      refine ⟨ks', ?_, fun x => ?_⟩
      · simp only [List.map_cons, dcL, e1, Option.bind_some, tTrue, if_true, e2]
        simp only [tI, keys_tI, Option.bind_some, mC, hl, if_true]
        rw [hp]
        rw [show (ks.map fun x => (x, ())) ++ [(c, ())] = (ks ++ [c]).map fun x => (x, ()) by simp]
        exact e
      · rw [hk]
        simp only [List.mem_append, List.mem_cons, List.not_mem_nil, or_false, List.mem_singleton]
        constructor
        · rintro ((z | z) | z)
          · exact .inl z
          · exact .inr (.inl z)
          · exact .inr (.inr z)
        · rintro (z | z | z)
          · exact .inl (.inl z)
          · exact .inl (.inr z)
          · exact .inr z
theorem bar_made {i : Nat} {ρ : DEnv} {A : ME} {w : PyData} {bs : List (List Int)} (hi : i < ρ.length) (h : Holds w bs) (hb : bs.length ≤ 100000) (e : ∀ S, A ρ S = some (.d w, S)) (S : Sto) :
    ∃ ks, mDc (iSeq A) (gSet i) tTrue (mVar i) (mC (.bool true)) [i] ρ S = some (.loc S.length, S ++ [barT ks]) ∧ ∀ x, x ∈ ks ↔ x ∈ bs := by
  obtain ⟨ks, e1, hk⟩ := dc_bar (ρ := ρ) (S := S) hi (bs := bs) (ks := []) (by simpa using hb)
  refine ⟨ks, ?_, fun x => by simpa using hk x⟩
  have e1' : dcL (gSet i) tTrue (mVar i) (mC (.bool true)) [i] ρ ((bs.map tI).map W.d) [] S = _ := e1
  simp only [mDc, holds_iter h (e S), Option.bind_some, e1']
  rfl
/-- the barred ones alone tell -/
theorem isD_ks {b : List Pl} {t : List Int} {ks bs : List (List Int)} (h : ∀ x, x ∈ ks ↔ x ∈ bs) : bB ks = bB bs := funext fun x => by
  unfold bB
  by_cases c : x ∈ bs
  · rw [decide_eq_true c, decide_eq_true ((h x).mpr c)]
  · rw [decide_eq_false c, decide_eq_false fun z => c ((h x).mp z)]
theorem left_ok {b : List Pl} {t : List Int} {bs : List (List Int)} {w : PyData} {i : Nat} {ρ : DEnv} {A : ME} (g : Good b) (ht : Fits t b) (hi : i < ρ.length) (h : Holds w bs) (hb : bs.length ≤ 100000) (e : ∀ S, A ρ S = some (.d w, S)) (h0 : ρ[0]? = some (some (.d (bn b)))) (h2 : ρ[2]? = some (some (.d (tI t)))) :
    ∃ ks found, mCall (callF f_steps_left) (mCons (mVar 0) (mCons (mVar 2) (mCons (mDc (iSeq A) (gSet i) tTrue (mVar i) (mC (.bool true)) [i]) mNil))) ρ [] = some (.loc 1, [barT ks, .dicT (tabF fI found)]) ∧ Left b t bs found := by
  obtain ⟨ks, e1, hk⟩ := bar_made hi h hb e []
  obtain ⟨found, e2, hL⟩ := steps_left_ok (ks := ks) (n := 0) (S := [barT ks]) g ht rfl
  refine ⟨ks, found, ?_, hL.nd, fun x d hx => by rw [hL.iff x d hx, isD_ks (b := b) (t := t) hk], hL.inV⟩
  simp only [mCall, mCons, mNil, mVar, h0, h2, Option.bind_some, e1, List.length_nil, List.nil_append, e2]
  rfl
/-- the answer, as data -/
def lenO (d : Option Nat) : PyData := match d with
  | some n => .int n
  | none => .none
def wayO (w : Option (List (List Int))) : PyData := match w with
  | some p => .tuple (p.map tI)
  | none => .none
theorem find_left {b : List Pl} {t : List Int} {bs : List (List Int)} {found : List (List Int × Nat)} {x : List Int} (hL : Left b t bs found) (hx : x ∈ conts b) :
    (∀ n, IsD (adjC b) t (bB bs) n x → (found.find? fun q => decide (q.1 = x)) = some (x, n)) ∧ ((∀ n, ¬ IsD (adjC b) t (bB bs) n x) → (found.find? fun q => decide (q.1 = x)) = none) := by
  refine ⟨fun n hn => find_at hL.nd ((hL.iff x n hx).mpr hn), fun h => ?_⟩
  rw [List.find?_eq_none]
  intro q hq
  simp only [decide_eq_true_eq]
  rintro rfl
  exact h q.2 ((hL.iff _ _ hx).mp hq)
theorem distance_ok {b : List Pl} {one t : List Int} {bs : List (List Int)} {w : PyData} (g : Good b) (h1 : Fits one b) (ht : Fits t b) (h : Holds w bs) (hb : bs.length ≤ 100000) (S : Sto) :
    (∀ n, IsD (adjC b) t (bB bs) n one → callF f_distance [.d (bn b), .d (tI one), .d (tI t), .d w] S = some (.d (.int n), S)) ∧
    ((∀ n, ¬ IsD (adjC b) t (bB bs) n one) → callF f_distance [.d (bn b), .d (tI one), .d (tI t), .d w] S = some (.d .none, S)) := by
  obtain ⟨ks, found, e, hL⟩ := left_ok (i := 4) (ρ := [some (.d (bn b)), some (.d (tI one)), some (.d (tI t)), some (.d w), none]) (A := mVar 3) g ht (show 4 < 5 by decide) h hb (fun S => rfl) rfl rfl
  obtain ⟨f1, f2⟩ := find_left (x := one) hL (inV.mpr h1)
  have hl := look_tab (x := one) (f := fI) (found := found) (n := 1) (S := [barT ks, .dicT (tabF fI found)]) rfl
  have body : ∀ r : PyData, ((found.find? fun q => decide (q.1 = one)).map fun q => fI q.2).getD (.d .none) = .d r → callF f_distance [.d (bn b), .d (tI one), .d (tI t), .d w] S = some (.d r, S) := fun r hr => by
    refine callF_pure rfl (runF_ret0 ⟨[some (.d (bn b)), some (.d (tI one)), some (.d (tI t)), some (.d w), none], [barT ks, .dicT (tabF fI found)], ?_⟩)
    show b_distance [some (.d (bn b)), some (.d (tI one)), some (.d (tI t)), some (.d w), none] [] = _
    unfold b_distance
    simp only [sRet, mGet1', e, Option.bind_some, isDic, List.getElem?_cons_succ, List.getElem?_cons_zero, if_true, mVar, hl, Option.map_some, hr]
  exact ⟨fun n hn => body _ (by rw [f1 n hn]; rfl), fun hn => body _ (by rw [f2 hn]; rfl)⟩
end K17
end
/-! shortest_way -/
noncomputable section
namespace K17
open PySem PySem.Spec PyProof.Rows L2 DL
theorem alike_tI : ∀ (a b : List Int), PySem.W.alike (tI a) (tI b) = true := by
  intro a b
  simp only [tI, PySem.W.alike]
  induction a generalizing b with
  | nil => simp [PySem.W.alikeAll]
  | cons x a ih =>
    cases b with
    | nil => simp [PySem.W.alikeAll]
    | cons y b => simp [PySem.W.alikeAll, PySem.W.alike, ih b]
theorem min_ev {y : List Int} {l : List (List Int)} {S : Sto} (h : ∀ z ∈ l, ltC (cI z) (cI y) = false) : minLD [.d (.list ((y :: l).map tI))] S = some (.d (tI y), S) := by
  have hb : ∀ l : List (List Int), PyData.depthAll (l.map tI) ≤ 1 ∧ PyData.canLayAll0 (l.map tI) = true := fun l => by
    induction l with
    | nil => exact ⟨by decide, rfl⟩
    | cons x l ih =>
      refine ⟨by simp only [List.map_cons, PyData.depthAll, dep_tI]; exact Nat.max_le.mpr ⟨Nat.le_refl _, ih.1⟩, ?_⟩
      simp only [List.map_cons, PyData.canLayAll0, ih.2, Bool.and_true]
      simp [tI, PyData.canLay0, lay_ints]
  have hc : PySem.W.AlikeAll ((y :: l).map tI) ∧ PyData.depthAll ((y :: l).map tI) ≤ 100 ∧ PyData.canLayAll0 ((y :: l).map tI) = true := by
    refine ⟨⟨fun a ha b hb => ?_, fun a ha => ?_⟩, Nat.le_trans (hb _).1 (by decide), (hb _).2⟩
    · obtain ⟨p, _, rfl⟩ := List.mem_map.mp ha
      obtain ⟨q, _, rfl⟩ := List.mem_map.mp hb
      exact alike_tI p q
    · obtain ⟨p, _, rfl⟩ := List.mem_map.mp ha
      simp [tI]
  simp only [List.map_cons] at hc
  simp only [minLD, on1, deref, Option.bind_some, List.map_cons]
  rw [if_pos hc, minD_first h]
section
variable {b : List Pl} {one t : List Int} {bs ks : List (List Int)} {w : PyData} {found : List (List Int × Nat)} {n : Nat}
/-- one step more on the way -/
theorem way_step {i : Nat} {x6 x7 x8 : Option W} (g : Good b) (h1 : Fits one b) (ht : Fits t b) (h : Holds w bs) (hL : Left b t bs found) (hn : IsD (adjC b) t (bB bs) n one) (hi : i < n) (hn1 : n ≤ 100000) :
    ∃ y6 y7, (sSeq (sAsg (mBin idxD (mVar 5) (mNeg (mC (.int 1)))) (gSet 6))
    (sSeq (sAsg (mLc (iSeq (mCall (callF f_steps_from) (mCons (mVar 0) (mCons (mVar 6) (mNil))))) (gSet 8) (tOf (mBin (eqA false) (mGet1' (mVar 4) (mVar 8)) (mBin subD (mBin dgetF (mVar 4) (mVar 6)) (mC (.int 1))))) (mVar 8) [8] kFrz) (gSet 7))
    (sAug 5 iaddT (mCall tupF (mCons (mCall minLD (mCons (mLc (iSeq (mVar 7)) (gSet 8) (tOrD (tOf (mBin (eqA false) (mVar 8) (mVar 2))) (tOf (mBin (inA true) (mVar 8) (mVar 3)))) (mVar 8) [8] kFrz) (mNil))) (mNil))))))
      [some (.d (bn b)), some (.d (tI one)), some (.d (tI t)), some (.d w), some (.loc 1), some (.d (.tuple (((gp (adjC b) t (bB bs) n one).take (i + 1)).map tI))), x6, x7, x8] [barT ks, .dicT (tabF fI found)] =
      some (.nx, [some (.d (bn b)), some (.d (tI one)), some (.d (tI t)), some (.d w), some (.loc 1), some (.d (.tuple (((gp (adjC b) t (bB bs) n one).take (i + 2)).map tI))), y6, y7, x8], [barT ks, .dicT (tabF fI found)]) := by
  obtain ⟨c, hc, hdc, _, _⟩ := gp_at hn (show i ≤ n by omega)
  obtain ⟨y, X, Y, hy, hadj, hX, oy, dy, hnx, iy⟩ := gp_next hn (show i + 1 ≤ n by omega) hc
  have hV : ∀ x, x ∈ conts b → ∀ y ∈ adjC b x, y ∈ conts b := fun x hx y hy => inV.mpr (adj_fits g (inV.mp hx) hy)
  have hcV : c ∈ conts b := gp_mem (V := fun z => z ∈ conts b) hV hn (inV.mpr h1) c (List.mem_of_getElem? hc)
  have hcf := inV.mp hcV
  have htk : (gp (adjC b) t (bB bs) n one).take (i + 1) = (gp (adjC b) t (bB bs) n one).take i ++ [c] := take_snoc hc
  have htk2 : (gp (adjC b) t (bB bs) n one).take (i + 2) = (gp (adjC b) t (bB bs) n one).take (i + 1) ++ [y] := take_snoc hy
  have hlast : ∀ S, idxD (.d (.tuple (((gp (adjC b) t (bB bs) n one).take (i + 1)).map tI))) (.d (.int (-1))) S = some (.d (tI c), S) := fun S => by
    have := at_last (((gp (adjC b) t (bB bs) n one).take i).map tI) (tI c)
    rw [htk, List.map_append]
    simp only [idxD, List.map_cons, List.map_nil, this, Option.map_some]
  obtain ⟨S0, hS0⟩ : ∃ S0 : Sto, [barT ks, .dicT (tabF fI found)] = S0 := ⟨_, rfl⟩
  have hS1 : S0[1]? = some (.dicT (tabF fI found)) := by rw [← hS0]; rfl
  have hdk := dget_tab (x := c) (v := n - i) hS1 hL.nd ((hL.iff c (n - i) hcV).mpr hdc)
  have hlk := fun x => look_tab (x := x) hS1
  obtain ⟨P, hP⟩ : ∃ P : List Int → Bool, P = fun z => (found.find? fun q => decide (q.1 = z)).any fun q => decide ((q.2 : Int) = ((n - i : Nat) : Int) - 1) := ⟨_, rfl⟩
  obtain ⟨hd, ehd⟩ : ∃ e : DEnv, [some (.d (bn b)), some (.d (tI one)), some (.d (tI t)), some (.d w), some (.loc 1), some (.d (.tuple (((gp (adjC b) t (bB bs) n one).take (i + 1)).map tI)))] = e := ⟨_, rfl⟩
  have e1 := lc_e (it := iSeq (mCall (callF f_steps_from) (mCons (mVar 0) (mCons (mVar 6) (mNil))))) (g := gSet 8) (T := tOf (mBin (eqA false) (mGet1' (mVar 4) (mVar 8)) (mBin subD (mBin dgetF (mVar 4) (mVar 6)) (mC (.int 1))))) (E := mVar 8) (vs := [8])
    (ρ := [some (.d (bn b)), some (.d (tI one)), some (.d (tI t)), some (.d w), some (.loc 1), some (.d (.tuple (((gp (adjC b) t (bB bs) n one).take (i + 1)).map tI))), some (.d (tI c)), x7, x8]) (S := S0) tI P tI (l := adjC b c) (by
      simp only [iSeq, mCall, mCons, mNil, mVar, List.getElem?_cons_succ, List.getElem?_cons_zero, Option.bind_some, from_ev g hcf]) (fun z _ => by
      refine ⟨[some (.d (bn b)), some (.d (tI one)), some (.d (tI t)), some (.d w), some (.loc 1), some (.d (.tuple (((gp (adjC b) t (bB bs) n one).take (i + 1)).map tI))), some (.d (tI c)), x7, some (.d (tI z))], by simp [gSet, wipeD], ?_, fun _ => by simp [mVar]⟩
      have hi1 : isDic S0 (.loc 1) = true := by simp only [isDic, hS1]
      simp only [tOf, mBin, mGet1', mVar, mC, List.getElem?_cons_succ, List.getElem?_cons_zero, Option.bind_some, hi1, if_true, hlk, Option.map_some, hdk, fI, ev_sub, hP]
      cases hf : (found.find? fun q => decide (q.1 = z)) with
      | none =>
        have : eqA false (.d .none) (.d (.int (((n - i : Nat) : Int) - 1))) S0 = some (.d (.bool false), S0) := by simp [eqA, eqD, deref, SeqAt.shaped, PyData.canLay0, PyData.depth, PyData.eqv]
        simp [this]
      | some q => simp [fI, ev_eq]) (by
      have h2 := Nat.le_trans (List.length_filter_le P (adjC b c)) (Nat.le_of_eq (sortL_perm (stp c 0 b)).length_eq)
      have h3 := stp_len c 0 b fun p hp => (g.pl p hp).len
      have h4 := g.len
      exact sz_of (by omega))
  have e2 := lc_e (it := iSeq (mVar 7)) (g := gSet 8) (T := tOrD (tOf (mBin (eqA false) (mVar 8) (mVar 2))) (tOf (mBin (inA true) (mVar 8) (mVar 3)))) (E := mVar 8) (vs := [8])
    (ρ := [some (.d (bn b)), some (.d (tI one)), some (.d (tI t)), some (.d w), some (.loc 1), some (.d (.tuple (((gp (adjC b) t (bB bs) n one).take (i + 1)).map tI))), some (.d (tI c)), some (.d (.list (((adjC b c).filter P).map tI))), x8]) (S := S0) tI (okN t (bB bs)) tI (l := (adjC b c).filter P) (by
      simp only [iSeq, mVar, List.getElem?_cons_succ, List.getElem?_cons_zero, Option.bind_some]) (fun z _ => by
      refine ⟨[some (.d (bn b)), some (.d (tI one)), some (.d (tI t)), some (.d w), some (.loc 1), some (.d (.tuple (((gp (adjC b) t (bB bs) n one).take (i + 1)).map tI))), some (.d (tI c)), some (.d (.list (((adjC b c).filter P).map tI))), some (.d (tI z))], by simp [gSet, wipeD], ?_, fun _ => by simp [mVar]⟩
      simp only [tOrD, tOf, mBin, mVar, List.getElem?_cons_succ, List.getElem?_cons_zero, Option.bind_some, eq_tI, in_holds true h, okN, bB]
      by_cases c : z = t <;> simp [c]) (by
      have h2 := Nat.le_trans (List.length_filter_le (okN t (bB bs)) _) (Nat.le_trans (List.length_filter_le P (adjC b c)) (Nat.le_of_eq (sortL_perm (stp c 0 b)).length_eq))
      have h3 := stp_len c 0 b fun p hp => (g.pl p hp).len
      have h4 := g.len
      exact sz_of (by omega))
  -- the ones that count are the good ones
  have hgood : ∀ z ∈ adjC b c, okN t (bB bs) z = true → P z = Dn (adjC b) t (bB bs) (n - (i + 1)) z := fun z hz oz => by
    have hzV := hV c hcV z hz
    obtain ⟨f1, f2⟩ := find_left (x := z) hL hzV
    have hPz : P z = (found.find? fun q => decide (q.1 = z)).any fun q => decide ((q.2 : Int) = ((n - i : Nat) : Int) - 1) := by rw [hP]
    rw [hPz]
    cases e : Dn (adjC b) t (bB bs) (n - (i + 1)) z with
    | true =>
      obtain ⟨m, hm, im⟩ := least _ e
      have : ¬ m < n - (i + 1) := fun hlt => by
        have := Dn_step hz oz im.is
        rw [hdc.no (m + 1) (by omega)] at this; cases this
      have hmm : m = n - (i + 1) := by omega
      rw [f1 m im]
      simp only [Option.any_some, decide_eq_true_eq]
      omega
    | false =>
      cases hf : (found.find? fun q => decide (q.1 = z)) with
      | none => rfl
      | some q =>
        simp only [Option.any_some, decide_eq_false_iff_not]
        intro he
        have hq := List.mem_of_find?_eq_some hf
        have hq1 : q.1 = z := by simpa using List.find?_some hf
        have := (hL.iff z q.2 hzV).mp (by rw [← hq1]; exact hq)
        have h3 : q.2 = n - (i + 1) := by omega
        rw [h3] at this
        rw [this.is] at e; cases e
  have hfil : ((adjC b c).filter P).filter (okN t (bB bs)) = (adjC b c).filter fun z => okN t (bB bs) z && Dn (adjC b) t (bB bs) (n - (i + 1)) z := by
    rw [List.filter_filter]
    refine List.filter_congr fun z hz => ?_
    cases oz : okN t (bB bs) z with
    | false => rfl
    | true => rw [hgood z hz oz]
  obtain ⟨rest, hrest⟩ : ∃ rest, ((adjC b c).filter P).filter (okN t (bB bs)) = y :: rest := by
    rw [hfil]
    unfold nxt at hnx
    cases e : (adjC b c).filter (fun z => okN t (bB bs) z && Dn (adjC b) t (bB bs) (n - (i + 1)) z) with
    | nil => rw [e] at hnx; cases hnx
    | cons z l =>
      rw [e] at hnx
      have : z = y := by simpa using hnx
      rw [this]; exact ⟨l, rfl⟩
  have hmin := fun S => min_ev (y := y) (l := rest) (S := S) (by
    have hs := (sortL_srtd (stp c 0 b)).sublist (List.filter_sublist (p := P))
    have hs2 := hs.sublist (List.filter_sublist (p := okN t (bB bs)))
    have hrest' : ((sortL (stp c 0 b)).filter P).filter (okN t (bB bs)) = y :: rest := hrest
    rw [hrest'] at hs2
    exact (List.pairwise_cons.mp hs2).1)
  rw [hrest] at e2
  have hia : ∀ S, iaddT (.d (.tuple (((gp (adjC b) t (bB bs) n one).take (i + 1)).map tI))) (.d (.tuple [tI y])) S = some (.d (.tuple (((gp (adjC b) t (bB bs) n one).take (i + 2)).map tI)), S) := fun S => by
    have h1 : (((gp (adjC b) t (bB bs) n one).take (i + 1)).map tI).isEmpty = false := by rw [htk, List.map_append]; simp
    have h2 : (((gp (adjC b) t (bB bs) n one).take (i + 1)).map tI).length + [tI y].length ≤ sizeLine := by
      rw [List.length_map, List.length_take]
      exact sz_of (by simp; omega)
    simp only [iaddT, h1, List.isEmpty_cons, h2, and_self, if_true, htk2, List.map_append, List.map_cons, List.map_nil]
  refine ⟨some (.d (tI c)), some (.d (.list (((adjC b c).filter P).map tI))), ?_⟩
  rw [hS0]
  rw [seq_nx (ρ1 := [some (.d (bn b)), some (.d (tI one)), some (.d (tI t)), some (.d w), some (.loc 1), some (.d (.tuple (((gp (adjC b) t (bB bs) n one).take (i + 1)).map tI))), some (.d (tI c)), x7, x8]) (S1 := S0) (by
    simp only [sAsg, mBin, mVar, mNeg, mC, List.getElem?_cons_succ, List.getElem?_cons_zero, Option.bind_some, hlast]
    simp [gSet])]
  rw [seq_nx (ρ1 := [some (.d (bn b)), some (.d (tI one)), some (.d (tI t)), some (.d w), some (.loc 1), some (.d (.tuple (((gp (adjC b) t (bB bs) n one).take (i + 1)).map tI))), some (.d (tI c)), some (.d (.list (((adjC b c).filter P).map tI))), x8]) (S1 := S0) (by
    rw [sAsg, e1]
    simp [gSet])]
  simp only [sAug, List.getElem?_cons_succ, List.getElem?_cons_zero, mCall, mCons, mNil, e2, Option.bind_some, hmin, tupF, allD, Option.map_some, List.length_cons, List.length_nil]
  rw [if_pos (show 0 + 1 ≤ sizeLine from sz1)]
  simp only [Option.bind_some, hia]
  simp
theorem shortest_ok (g : Good b) (h1 : Fits one b) (ht : Fits t b) (h : Holds w bs) (hb : bs.length ≤ 100000) (S : Sto) :
    (∀ n, IsD (adjC b) t (bB bs) n one → n ≤ 100000 → callF f_shortest_way [.d (bn b), .d (tI one), .d (tI t), .d w] S = some (.d (.tuple ((gp (adjC b) t (bB bs) n one).map tI)), S)) ∧
    ((∀ n, ¬ IsD (adjC b) t (bB bs) n one) → callF f_shortest_way [.d (bn b), .d (tI one), .d (tI t), .d w] S = some (.d .none, S)) := by
  obtain ⟨ks, found, e, hL⟩ := left_ok (i := 8) (ρ := [some (.d (bn b)), some (.d (tI one)), some (.d (tI t)), some (.d w), none, none, none, none, none]) (A := mVar 3) g ht (show 8 < 9 by decide) h hb (fun S => rfl) rfl rfl
  obtain ⟨f1, f2⟩ := find_left (x := one) hL (inV.mpr h1)
  have hd := din_tab (x := one) true (f := fI) (found := found) (n := 1) (S := [barT ks, .dicT (tabF fI found)]) rfl
  have hkey : decide (one ∈ found.map (·.1)) = (found.find? fun q => decide (q.1 = one)).isSome := find_isSome.symm
  rw [hkey] at hd
  have s1 : ∀ R : MS, sSeq (sAsg (mCall (callF f_steps_left) (mCons (mVar 0) (mCons (mVar 2) (mCons (mDc (iSeq (mVar 3)) (gSet 8) (tTrue) (mVar 8) (mC (.bool true)) [8]) (mNil))))) (gSet 4)) R [some (.d (bn b)), some (.d (tI one)), some (.d (tI t)), some (.d w), none, none, none, none, none] [] = R [some (.d (bn b)), some (.d (tI one)), some (.d (tI t)), some (.d w), some (.loc 1), none, none, none, none] [barT ks, .dicT (tabF fI found)] := fun R =>
    seq_nx (by rw [sAsg, e]; simp [gSet])
  refine ⟨fun n hn hn1 => ?_, fun hn => ?_⟩
  · have hV : ∀ x, x ∈ conts b → ∀ y ∈ adjC b x, y ∈ conts b := fun x hx y hy => inV.mpr (adj_fits g (inV.mp hx) hy)
    obtain ⟨ρ', S', e2, x6, x7, x8, rfl, rfl⟩ := whileL_J (α := Nat) (T := tOf (mBin (eqA true) (mBin idxD (mVar 5) (mNeg (mC (.int 1)))) (mVar 2))) (F := (sSeq (sAsg (mBin idxD (mVar 5) (mNeg (mC (.int 1)))) (gSet 6))
    (sSeq (sAsg (mLc (iSeq (mCall (callF f_steps_from) (mCons (mVar 0) (mCons (mVar 6) (mNil))))) (gSet 8) (tOf (mBin (eqA false) (mGet1' (mVar 4) (mVar 8)) (mBin subD (mBin dgetF (mVar 4) (mVar 6)) (mC (.int 1))))) (mVar 8) [8] kFrz) (gSet 7))
    (sAug 5 iaddT (mCall tupF (mCons (mCall minLD (mCons (mLc (iSeq (mVar 7)) (gSet 8) (tOrD (tOf (mBin (eqA false) (mVar 8) (mVar 2))) (tOf (mBin (inA true) (mVar 8) (mVar 3)))) (mVar 8) [8] kFrz) (mNil))) (mNil)))))))
      (J := fun i ρ S => i ≤ n ∧ ∃ x6 x7 x8, ρ = [some (.d (bn b)), some (.d (tI one)), some (.d (tI t)), some (.d w), some (.loc 1), some (.d (.tuple (((gp (adjC b) t (bB bs) n one).take (i + 1)).map tI))), x6, x7, x8] ∧ S = [barT ks, .dicT (tabF fI found)])
      (μ := fun i => n - i) (P := fun ρ S => ∃ x6 x7 x8, ρ = [some (.d (bn b)), some (.d (tI one)), some (.d (tI t)), some (.d w), some (.loc 1), some (.d (.tuple ((gp (adjC b) t (bB bs) n one).map tI))), x6, x7, x8] ∧ S = [barT ks, .dicT (tabF fI found)])
      (fun i ρ S ⟨hi, x6, x7, x8, e1, e2⟩ => by
        subst e1 e2
        obtain ⟨c, hc, hdc, _, _⟩ := gp_at hn hi
        have htk : (gp (adjC b) t (bB bs) n one).take (i + 1) = (gp (adjC b) t (bB bs) n one).take i ++ [c] := take_snoc hc
        have hlast : ∀ S, idxD (.d (.tuple (((gp (adjC b) t (bB bs) n one).take (i + 1)).map tI))) (.d (.int (-1))) S = some (.d (tI c), S) := fun S => by
          have := at_last (((gp (adjC b) t (bB bs) n one).take i).map tI) (tI c)
          rw [htk, List.map_append]
          simp only [idxD, List.map_cons, List.map_nil, this, Option.map_some]
        have hT : tOf (mBin (eqA true) (mBin idxD (mVar 5) (mNeg (mC (.int 1)))) (mVar 2)) [some (.d (bn b)), some (.d (tI one)), some (.d (tI t)), some (.d w), some (.loc 1), some (.d (.tuple (((gp (adjC b) t (bB bs) n one).take (i + 1)).map tI))), x6, x7, x8] [barT ks, .dicT (tabF fI found)] = some (!decide (c = t), [barT ks, .dicT (tabF fI found)]) := by
          simp only [tOf, mBin, mVar, mNeg, mC, List.getElem?_cons_succ, List.getElem?_cons_zero, Option.bind_some, hlast, ne_tI]
        by_cases hin : i = n
        · subst hin
          left
          rw [Nat.sub_self] at hdc
          have hct := isD_0 hdc
          subst hct
          have hl := gp_len hn
          refine ⟨by rw [hT]; simp, x6, x7, x8, ?_, rfl⟩
          rw [List.take_of_length_le (by omega)]
        · right
          have hct : c ≠ t := fun z => by
            have := hdc.no 0 (by omega)
            rw [z] at this; simp [Dn] at this
          obtain ⟨y6, y7, e3⟩ := way_step (ks := ks) (x6 := x6) (x7 := x7) (x8 := x8) g h1 ht h hL hn (show i < n by omega) hn1
          exact ⟨by rw [hT]; simp [hct], _, _, e3, i + 1, ⟨by omega, y6, y7, x8, rfl, rfl⟩, by omega⟩) (n := FUEL) (a := 0) (ρ := [some (.d (bn b)), some (.d (tI one)), some (.d (tI t)), some (.d w), some (.loc 1), some (.d (.tuple (((gp (adjC b) t (bB bs) n one).take 1).map tI))), none, none, none]) (S := [barT ks, .dicT (tabF fI found)]) ⟨Nat.zero_le _, none, none, none, rfl, rfl⟩ (by simp only [FUEL]; omega)
    have htk1 : (gp (adjC b) t (bB bs) n one).take 1 = [one] := by
      obtain ⟨y, a1, _, _, a4⟩ := gp_at hn (Nat.zero_le n)
      rw [a4 rfl] at a1
      rw [List.take_succ, a1]; simp
    rw [htk1, show ([one] : List (List Int)).map tI = [tI one] from rfl] at e2
    refine callF_pure rfl (runF_ret0 ⟨[some (.d (bn b)), some (.d (tI one)), some (.d (tI t)), some (.d w), some (.loc 1), some (.d (.tuple ((gp (adjC b) t (bB bs) n one).map tI))), x6, x7, x8], [barT ks, .dicT (tabF fI found)], ?_⟩)
    show b_shortest_way [some (.d (bn b)), some (.d (tI one)), some (.d (tI t)), some (.d w), none, none, none, none, none] [] = _
    unfold b_shortest_way
    rw [s1]
    rw [seq_nx ((if_f (G := sNil) (by
      simp only [tOf, mBin, mVar, List.getElem?_cons_succ, List.getElem?_cons_zero, Option.bind_some, hd, f1 n hn]; rfl)).trans rfl)]
    rw [seq_nx (ρ1 := [some (.d (bn b)), some (.d (tI one)), some (.d (tI t)), some (.d w), some (.loc 1), some (.d (.tuple [tI one])), none, none, none]) (S1 := [barT ks, .dicT (tabF fI found)]) (by
      simp [sAsg, mCall, mCons, mNil, mVar, tupF, allD, sz1, gSet])]
    rw [seq_nx e2]
    rfl
  · refine callF_pure rfl (runF_ret0 ⟨[some (.d (bn b)), some (.d (tI one)), some (.d (tI t)), some (.d w), some (.loc 1), none, none, none, none], [barT ks, .dicT (tabF fI found)], ?_⟩)
    show b_shortest_way [some (.d (bn b)), some (.d (tI one)), some (.d (tI t)), some (.d w), none, none, none, none, none] [] = _
    unfold b_shortest_way
    rw [s1]
    rw [seq_rt ((if_t (by
      simp only [tOf, mBin, mVar, List.getElem?_cons_succ, List.getElem?_cons_zero, Option.bind_some, hd, f2 hn]; rfl)).trans rfl)]
end
end K17
end
/-! the law's graph, its least way -/
noncomputable section
namespace K17
open PySem PySem.Spec PyProof.Rows L2 DL
def fA (b : List Pl) (x : List Int) : PyData := .list ((adjC b x).map tI)
def graO (b : List Pl) : Ob := .dicT (tabF (fun x => .d (fA b x)) ((conts b).map fun x => (x, x)))
theorem gra_keys (l : List (List Int)) : (l.map fun x => (x, x)).map (·.1) = l := by
  induction l with
  | nil => rfl
  | cons x l ih => rw [List.map_cons, List.map_cons, ih]
theorem pairs_gra (b : List Pl) (l : List (List Int)) : pairsT (l.map fun c => .tuple [tI c, fA b c]) = some (tabF (fun x => .d (fA b x)) (l.map fun x => (x, x))) := by
  induction l with
  | nil => rfl
  | cons c l ih =>
    simp only [List.map_cons]
    have : pairsT (.tuple [tI c, fA b c] :: l.map fun c => .tuple [tI c, fA b c]) = (keysD (c.map .int)).bind fun k => (pairsT (l.map fun c => .tuple [tI c, fA b c])).map fun r => (k, .d (fA b c)) :: r := rfl
    rw [this, keys_tI, ih]; rfl
theorem graO_obD (b : List Pl) : obD (graO b) = true := obD_tab (fA b)
theorem l_steps_ev {b : List Pl} {c : List Int} (g : Good b) (hc : Fits c b) (S : Sto) : callF f_l_steps [.d (bn b), .d (tI c)] S = some (.d (fA b c), S) := by
  rw [l_steps_ok g hc, sortL_tI]; rfl
theorem graph_ok {b : List Pl} (g : Good b) (S : Sto) : callF f_l_graph [.d (bn b)] S = some (.loc S.length, S ++ [graO b]) := by
  refine callF_new rfl ?_ (graO_obD b)
  have e := lc_e (it := iSeq (mCall (callF f_l_contents) (mCons (mVar 0) (mNil)))) (g := gSet 1) (T := tTrue) (E := mCall tupF (mCons (mVar 1) (mCons (mCall (callF f_l_steps) (mCons (mVar 0) (mCons (mVar 1) (mNil)))) (mNil)))) (vs := [1]) (ρ := [some (.d (bn b)), none]) (S := []) tI (fun _ => true) (fun c => .tuple [tI c, fA b c]) (l := conts b) (by
    simp only [iSeq, mCall, mCons, mNil, mVar, List.getElem?_cons_zero, Option.bind_some, l_contents_ok g]) (fun c hc => by
    refine ⟨[some (.d (bn b)), some (.d (tI c))], by simp [gSet, wipeD], rfl, fun _ => ?_⟩
    simp only [mCall, mCons, mNil, mVar, List.getElem?_cons_succ, List.getElem?_cons_zero, Option.bind_some, l_steps_ev g (inV.mp hc), tupF, allD, Option.map_some, List.length_cons, List.length_nil]
    rw [if_pos (show 0 + 1 + 1 ≤ sizeLine from sz2)]) (by
    rw [List.filter_eq_self.mpr fun _ _ => rfl]
    exact sz_of (by have := g.clen; omega))
  rw [List.filter_eq_self.mpr fun _ _ => rfl] at e
  have hn : ((tabF (fun x => W.d (fA b x)) ((conts b).map fun x => (x, x))).map (·.1)).Nodup := by
    have : (tabF (fun x => W.d (fA b x)) ((conts b).map fun x => (x, x))).map (·.1) = (conts b).map kc := by
      unfold tabF; rw [List.map_map, List.map_map]; rfl
    rw [this]
    exact List.Pairwise.map _ (R := fun a b => a ≠ b) (fun a b hab e => hab (kc_inj e)) (conts_nodup _ rfl)
  refine runF_new (j := 0) (S' := [graO b]) ⟨[some (.d (bn b)), none], ?_⟩ rfl (graO_obD b)
  show b_l_graph [some (.d (bn b)), none] [] = _
  unfold b_l_graph
  simp only [sRet, mCall, mCons, mNil] at e ⊢
  simp only [e, Option.bind_some, dictP, on1, deref, pairs_gra]
  rw [if_pos hn]
  rfl
theorem gra_get {b : List Pl} {x : List Int} {n : Nat} {S : Sto} (hS : S[n]? = some (graO b)) (hx : x ∈ conts b) : dgetF (.loc n) (.d (tI x)) S = some (.d (fA b x), S) :=
  dget_tab (f := fun x => .d (fA b x)) (v := x) hS (by rw [gra_keys]; exact conts_nodup _ rfl) (List.mem_map.mpr ⟨x, hx, rfl⟩)
/-! ### the ways found -/
def fP (p : List (List Int)) : W := .d (.tuple (p.map tI))
def lwS (gra : Ob) (found : List (List Int × List (List Int))) (junk : Sto) (later : List (List Int)) : Sto := gra :: .dicT (tabF fP found) :: (junk ++ [.lst ((later.map tI).map W.d)])
theorem lw_step {gra : Ob} {found : List (List Int × List (List Int))} {junk : Sto} {later bs p : List (List Int)} {to u t : List Int} {z1 z5 : Option W} (hn : (found.map (·.1)).Nodup) (hh : (u, p) ∈ found) (hl : found.length ≤ 100000) (hf : later.length ≤ 100000) (hp : p.length ≤ 100000) :
    L_l_least_way_1 [some (.loc 0), z1, some (.d (tI t)), some (.d (.list (bs.map tI))), some (.loc 1), z5, some (.loc (2 + junk.length)), some (.d (tI u)), some (.d (tI to))] (lwS gra found junk later) =
      some (.nx, [some (.loc 0), z1, some (.d (tI t)), some (.d (.list (bs.map tI))), some (.loc 1), z5, some (.loc (2 + junk.length)), some (.d (tI u)), some (.d (tI to))], if to ∉ found.map (·.1) ∧ okN t (bB bs) to = true then lwS gra (found ++ [(to, p ++ [to])]) junk (later ++ [to]) else lwS gra found junk later) := by
  have hS : (lwS gra found junk later)[1]? = some (.dicT (tabF fP found)) := rfl
  have hd := din_tab (x := to) true hS
  have hi := fun S => in_holds (c := to) (S := S) true (.inl rfl : Holds (.list (bs.map tI)) bs)
  have ht : tAndD (tOf (mBin (dinF true) (mVar 8) (mVar 4))) (tOrD (tOf (mBin (eqA false) (mVar 8) (mVar 2))) (tOf (mBin (inA true) (mVar 8) (mVar 3)))) [some (.loc 0), z1, some (.d (tI t)), some (.d (.list (bs.map tI))), some (.loc 1), z5, some (.loc (2 + junk.length)), some (.d (tI u)), some (.d (tI to))] (lwS gra found junk later) = some (!decide (to ∈ found.map (·.1)) && okN t (bB bs) to, lwS gra found junk later) := by
    have hd' := hd
    obtain ⟨d, hdd⟩ : ∃ d, decide (to ∈ found.map (·.1)) = d := ⟨_, rfl⟩
    rw [hdd] at hd' ⊢
    simp only [tAndD, tOrD, tOf, mBin, mVar, List.getElem?_cons_succ, List.getElem?_cons_zero, Option.bind_some, hd', eq_tI, hi, okN, bB]
    cases d <;> by_cases h2 : to = t <;> simp [h2]
  unfold L_l_least_way_1
  by_cases h : to ∉ found.map (·.1) ∧ okN t (bB bs) to = true
  · rw [if_t (ht.trans (by rw [decide_eq_false h.1, h.2]; rfl)), if_pos h]
    have hg := dget_tab hS hn hh
    have hpp := put_tab (f := fP) (v := p ++ [to]) hS h.1 (by have : 100000 < sizeLine := by decide
                                                              omega)
    have hset : (lwS gra found junk later).set 1 (.dicT (tabF fP (found ++ [(to, p ++ [to])]))) = lwS gra (found ++ [(to, p ++ [to])]) junk later := rfl
    rw [hset] at hpp
    have hS2 : (lwS gra (found ++ [(to, p ++ [to])]) junk later)[2 + junk.length]? = some (.lst ((later.map tI).map W.d)) := by
      rw [show 2 + junk.length = junk.length + 1 + 1 by omega]
      simp [lwS]
    have ha := append_ev (w := .d (tI to)) hS2 (by
      rw [List.length_map, List.length_map]
      have : 100000 < sizeLine := by decide
      omega)
    have hset2 : (lwS gra (found ++ [(to, p ++ [to])]) junk later).set (2 + junk.length) (.lst ((later.map tI).map W.d ++ [.d (tI to)])) = lwS gra (found ++ [(to, p ++ [to])]) junk (later ++ [to]) := by
      rw [show 2 + junk.length = junk.length + 1 + 1 by omega]
      simp [lwS]
    rw [hset2] at ha
    have hil : isLst (lwS gra (found ++ [(to, p ++ [to])]) junk later) (.loc (2 + junk.length)) = true := by simp only [isLst, hS2]
    have hadd : ∀ S, addA (fP p) (.d (.tuple [tI to])) S = some (fP (p ++ [to]), S) := fun S => by
      have := ev_addT (S := S) (x := p.map tI) (y := [tI to]) (by
        rw [List.length_map]
        exact sz_of (by simp; omega))
      simpa [fP] using this
    rw [seq_nx (ρ1 := [some (.loc 0), z1, some (.d (tI t)), some (.d (.list (bs.map tI))), some (.loc 1), z5, some (.loc (2 + junk.length)), some (.d (tI u)), some (.d (tI to))]) (S1 := lwS gra (found ++ [(to, p ++ [to])]) junk later) (by
      simp only [sAsg, mBin, mVar, mCall, mCons, mNil, tupF, allD, Option.map_some, List.length_cons, List.length_nil, List.getElem?_cons_succ, List.getElem?_cons_zero, Option.bind_some, hg]
      rw [if_pos (show 0 + 1 ≤ sizeLine from sz1)]
      simp only [Option.bind_some, hadd, gSubD, mVar, List.getElem?_cons_succ, List.getElem?_cons_zero, hpp])]
    simp only [sExpr, mMt, mVar, mCons, mNil, List.getElem?_cons_succ, List.getElem?_cons_zero, Option.bind_some, hil, if_true, ha]
  · rw [if_f (ht.trans (by
      by_cases h1 : to ∈ found.map (·.1)
      · rw [decide_eq_true h1]; rfl
      · have : okN t (bB bs) to = false := Bool.eq_false_iff.mpr fun z => h ⟨h1, z⟩
        rw [this, Bool.and_false])), if_neg h]
    rfl
section
variable {b : List Pl} {one t : List Int} {bs : List (List Int)} {k : Nat} {fnd fnd' : List (List Int × List (List Int))} {front later : List (List Int)} {junk : Sto} {P : Nat → Bool}
abbrev FI (b : List Pl) (t : List Int) (bs : List (List Int)) (one : List Int) := FInv (adjC b) t (bB bs) (conts b) one
abbrev NI (b : List Pl) (t : List Int) (bs : List (List Int)) (one : List Int) := NInv (adjC b) t (bB bs) (conts b) one
theorem NI.len (L : FI b t bs one k fnd front) (M : NI b t bs one k fnd P fnd' later) : fnd'.length ≤ (conts b).length ∧ later.length ≤ (conts b).length ∧ fnd'.length = fnd.length + later.length := by
  have h1 := nodup_len (m := conts b) M.nd fun x hx => by
    obtain ⟨q, hq, rfl⟩ := List.mem_map.mp hx
    obtain ⟨ext, e1, _, he, _⟩ := M.ex
    rw [e1] at hq
    rcases List.mem_append.mp hq with z | z
    · exact L.inV q z
    · exact (he q z).1
  rw [List.length_map] at h1
  obtain ⟨ext, rfl, rfl, _⟩ := M.ex
  rw [List.length_append] at h1
  refine ⟨by rw [List.length_append]; exact h1, by rw [List.length_map]; omega, by rw [List.length_append, List.length_map]⟩
/-- where the way's content stands in the front, and its next one among its ends -/
structure Spot (b : List Pl) (t : List Int) (bs : List (List Int)) (one : List Int) (k : Nat) (fnd : List (List Int × List (List Int))) (front : List (List Int)) (a x0 : Nat) : Prop where
  at_ : ∀ n, IsD (adjC b) t (bB bs) n one → k + 1 ≤ n ∧ ∃ g y, front[a]? = some g ∧ (gp (adjC b) t (bB bs) n one)[k]? = some g ∧ (g, (gp (adjC b) t (bB bs) n one).take (k + 1)) ∈ fnd ∧
    (∀ i u, i < a → front[i]? = some u → Dn (adjC b) t (bB bs) (n - k) u = false) ∧ (gp (adjC b) t (bB bs) n one)[k + 1]? = some y ∧ (adjC b g)[x0]? = some y ∧
    (∀ j v, j < x0 → (adjC b g)[j]? = some v → okN t (bB bs) v = true → Dn (adjC b) t (bB bs) (n - (k + 1)) v = false) ∧ okN t (bB bs) y = true ∧ Dn (adjC b) t (bB bs) (n - (k + 1)) y = true
theorem spot (L : FI b t bs one k fnd front) (ht : t ∉ fnd.map (·.1)) : ∃ a x0, Spot b t bs one k fnd front a x0 := by
  by_cases hex : ∃ n, IsD (adjC b) t (bB bs) n one
  · obtain ⟨n, hn⟩ := hex
    obtain ⟨hk, g, A, C, h1, h2, h3, h4⟩ := L.good n hn
    have hkn : k + 1 ≤ n := by
      by_cases e : k = n
      · subst e
        rw [gp_end hn] at h1; cases h1
        exact absurd (List.mem_map.mpr ⟨_, h3, rfl⟩) ht
      · omega
    obtain ⟨y, X, Y, a1, a2, a3, a4, a5, _, _⟩ := gp_next hn hkn h1
    refine ⟨A.length, X.length, ⟨fun m hm => ?_⟩⟩
    have := hm.uniq hn
    subst this
    refine ⟨hkn, g, y, by rw [h2]; simp, h1, h3, fun i u hi hu => ?_, a1, by rw [a2]; simp, fun j v hj hv ov => ?_, a4, a5⟩
    · rw [h2, List.getElem?_append_left hi] at hu
      exact h4 u (List.mem_of_getElem? hu)
    · rw [a2, List.getElem?_append_left hj] at hv
      exact a3 v (List.mem_of_getElem? hv) ov
  · exact ⟨0, 0, ⟨fun n hn => absurd ⟨n, hn⟩ hex⟩⟩
def phase (a x0 i j : Nat) : Bool := decide (a < i) || (decide (a = i) && decide (x0 < j))
/-- the ends of one of the front -/
theorem lw_row {i a x0 : Nat} {u : List Int} {z1 z5 z8 : Option W} (g : Good b) (L : FI b t bs one k fnd front) (hs : Spot b t bs one k fnd front a x0) (M : NI b t bs one k fnd (fun _ => phase a x0 i 0) fnd' later) (hu : front[i]? = some u) (hpl : ∀ q ∈ fnd, q.2.length ≤ k + 1) (hpl' : ∀ q ∈ fnd', q.2.length ≤ k + 2) (hk : k ≤ 10000) :
    ∃ fnd2 later2 y8, forL (gSet 8) L_l_least_way_1 (((adjC b u).map tI).map W.d) [some (.loc 0), z1, some (.d (tI t)), some (.d (.list (bs.map tI))), some (.loc 1), z5, some (.loc (2 + junk.length)), some (.d (tI u)), z8] (lwS (graO b) fnd' junk later) = some (.nx, [some (.loc 0), z1, some (.d (tI t)), some (.d (.list (bs.map tI))), some (.loc 1), z5, some (.loc (2 + junk.length)), some (.d (tI u)), y8], lwS (graO b) fnd2 junk later2) ∧
      NI b t bs one k fnd (fun _ => phase a x0 i (adjC b u).length) fnd2 later2 ∧ ∀ q ∈ fnd2, q.2.length ≤ k + 2 := by
  obtain ⟨hku, hfu, _⟩ := L.fr u (List.mem_of_getElem? hu)
  obtain ⟨⟨u', pu⟩, hpu, rfl⟩ := List.mem_map.mp hku
  have huV := L.inV _ hpu
  obtain ⟨ρ', S', e, fnd2, later2, y8, rfl, rfl, M2, h2⟩ := forL_J (g := gSet 8) (F := L_l_least_way_1) (ws := ((adjC b u').map tI).map W.d) (k := 0)
    (J := fun j ρ S => ∃ fnd2 later2 y8, ρ = [some (.loc 0), z1, some (.d (tI t)), some (.d (.list (bs.map tI))), some (.loc 1), z5, some (.loc (2 + junk.length)), some (.d (tI u')), y8] ∧ S = lwS (graO b) fnd2 junk later2 ∧ NI b t bs one k fnd (fun _ => phase a x0 i j) fnd2 later2 ∧ ∀ q ∈ fnd2, q.2.length ≤ k + 2)
    (ρ := [some (.loc 0), z1, some (.d (tI t)), some (.d (.list (bs.map tI))), some (.loc 1), z5, some (.loc (2 + junk.length)), some (.d (tI u')), z8]) (S := lwS (graO b) fnd' junk later) (fun j w ρ S hw ⟨fnd2, later2, y8, e1, e2, M2, h2⟩ => by
      subst e1 e2
      simp only [List.getElem?_map, Option.map_eq_some_iff, Nat.zero_add] at hw M2 ⊢
      obtain ⟨_, ⟨v, hv, rfl⟩, rfl⟩ := hw
      have hml := NI.len L M2
      have hc := g.clen
      have hpu2 : (u', pu) ∈ fnd2 := by
        obtain ⟨ext, e1, _⟩ := M2.ex
        rw [e1]; exact List.mem_append_left _ hpu
      have hpl2 := hpl _ hpu
      have e3 := lw_step (gra := graO b) (bs := bs) (to := v) (t := t) (z1 := z1) (z5 := z5) (junk := junk) (later := later2) M2.nd hpu2 (by omega) (by omega) (by simp only at hpl2; omega)
      have e4 : ((gSet 8 (.d (tI v)) [some (.loc 0), z1, some (.d (tI t)), some (.d (.list (bs.map tI))), some (.loc 1), z5, some (.loc (2 + junk.length)), some (.d (tI u')), y8] (lwS (graO b) fnd2 junk later2)).bind fun p => L_l_least_way_1 p.1 p.2) = _ := Eq.trans (by simp [gSet]) e3
      have hva : v ∈ adjC b u' := List.mem_of_getElem? hv
      have hvV : v ∈ conts b := inV.mpr (adj_fits g (inV.mp huV) hva)
      -- which good ones
      have key : ∀ n, IsD (adjC b) t (bB bs) n one → okN t (bB bs) v = true → (phase a x0 i (j + 1) = phase a x0 i j ∧ (phase a x0 i j = true ∨ Dn (adjC b) t (bB bs) (n - (k + 1)) v = false)) ∨
          (phase a x0 i j = false ∧ phase a x0 i (j + 1) = true ∧ (gp (adjC b) t (bB bs) n one)[k + 1]? = some v ∧ pu ++ [v] = (gp (adjC b) t (bB bs) n one).take (k + 2) ∧ Dn (adjC b) t (bB bs) (n - (k + 1)) v = true) := fun n hn ov => by
        obtain ⟨hkn, gg, y, s1, s2, s3, s4, s5, s6, s7, s8, s9⟩ := hs.at_ n hn
        by_cases c1 : a < i
        · left
          have p1 : ∀ j, phase a x0 i j = true := fun j => by simp [phase, c1]
          exact ⟨by rw [p1, p1], .inl (p1 j)⟩
        · by_cases c2 : a = i
          · subst c2
            rw [hu] at s1; cases s1
            have pj : ∀ j, phase a x0 a j = decide (x0 < j) := fun j => by simp [phase]
            rw [pj, pj]
            by_cases c3 : j < x0
            · left
              have : Dn (adjC b) t (bB bs) (n - (k + 1)) v = false := s7 j v c3 hv ov
              exact ⟨by rw [decide_eq_false (by omega), decide_eq_false (by omega)], .inr this⟩
            · by_cases c4 : j = x0
              · right
                subst c4
                rw [hv] at s6; cases s6
                have hpe : pu = (gp (adjC b) t (bB bs) n one).take (k + 1) := by
                  have h1 := find_at L.nd hpu
                  have h2 := find_at L.nd s3
                  rw [h1] at h2
                  exact congrArg Prod.snd (Option.some.inj h2)
                exact ⟨by simp, by simp, s5, by rw [hpe, take_snoc s5], s9⟩
              · left
                exact ⟨by rw [decide_eq_true (by omega), decide_eq_true (by omega)], .inl (by rw [decide_eq_true (by omega)])⟩
          · left
            have p1 : ∀ j, phase a x0 i j = false := fun j => by simp [phase, c1, c2]
            have hD := s4 i u' (by omega) hu
            refine ⟨by rw [p1, p1], .inr (Dn_not hva ov ?_)⟩
            rw [show n - (k + 1) + 1 = n - k by omega]; exact hD
      by_cases h : v ∉ fnd2.map (·.1) ∧ okN t (bB bs) v = true
      · rw [if_pos h] at e4
        refine ⟨_, _, e4, _, _, _, rfl, rfl, M2.add h.1 hvV hva h.2 hfu fun n hn => ?_, fun q hq => ?_⟩
        · rcases key n hn h.2 with c | ⟨c1, c2, c3, c4, _⟩
          · exact .inl c
          · exact .inr ⟨c1, c2, c3, c4⟩
        · rcases List.mem_append.mp hq with z | z
          · exact h2 q z
          · rw [List.mem_singleton.mp z]
            simp only [List.length_append, List.length_cons, List.length_nil]
            simp only at hpl2
            omega
      · rw [if_neg h] at e4
        refine ⟨_, _, e4, _, _, _, rfl, rfl, M2.mono fun n hn => ?_, h2⟩
        cases ov : okN t (bB bs) v with
        | true =>
          rcases key n hn ov with c | ⟨c1, c2, c3, c4, c5⟩
          · exact c.1
          · -- the way's next one is new
            exfalso
            refine h ⟨fun hm => ?_, ov⟩
            obtain ⟨ext, e1, _, _, eg⟩ := M2.ex
            have hng := eg n hn
            rw [c1] at hng
            simp only [Bool.false_eq_true, if_false] at hng
            obtain ⟨q, hq, eq⟩ := List.mem_map.mp hm
            rw [e1] at hq
            rcases List.mem_append.mp hq with z | z
            · obtain ⟨j', hj', fw⟩ := L.fw q z
              rw [eq] at fw
              have := fw _ c5
              have hkn := (hs.at_ n hn).1
              rw [hn.no (j' + (n - (k + 1))) (by omega)] at this; cases this
            · have := hng q z
              rw [eq, c5] at this; cases this
        | false =>
          -- not to be entered: it isn't the way's next one
          obtain ⟨hkn, gg, y, s1, s2, s3, s4, s5, s6, s7, s8, s9⟩ := hs.at_ n hn
          by_cases c1 : a < i
          · simp [phase, c1]
          · by_cases c2 : a = i
            · subst c2
              rw [hu] at s1; cases s1
              have c4 : j ≠ x0 := fun z => by
                subst z
                rw [hv] at s6; cases s6
                rw [ov] at s8; cases s8
              simp only [phase, decide_true, Bool.true_and]
              congr 1
              by_cases c5 : x0 < j
              · rw [decide_eq_true c5, decide_eq_true (by omega)]
              · rw [decide_eq_false c5, decide_eq_false (by omega)]
            · simp [phase, c1, c2]) ⟨fnd', later, z8, rfl, rfl, M, hpl'⟩
  simp only [Nat.zero_add, List.length_map] at e M2
  exact ⟨_, _, _, e, M2, h2⟩
end
end K17
end
/-! the law's least way -/
noncomputable section
namespace K17
open PySem PySem.Spec PyProof.Rows L2 DL
section
variable {b : List Pl} {one t : List Int} {bs : List (List Int)} {k : Nat} {fnd fnd' : List (List Int × List (List Int))} {front later : List (List Int)} {junk : Sto} {P : Nat → Bool}
theorem lw_level {a x0 : Nat} {z5 z7 z8 : Option W} (g : Good b) (L : FI b t bs one k fnd front) (hs : Spot b t bs one k fnd front a x0) (ht : t ∉ fnd.map (·.1)) (hpl : ∀ q ∈ fnd, q.2.length ≤ k + 1) (hk : k ≤ 10000) :
    ∃ fnd2 later2 y7 y8, forL (gSet 7) L_l_least_way_2 ((front.map tI).map W.d) [some (.loc 0), some (.d (tI one)), some (.d (tI t)), some (.d (.list (bs.map tI))), some (.loc 1), z5, some (.loc (2 + junk.length)), z7, z8] (lwS (graO b) fnd junk []) = some (.nx, [some (.loc 0), some (.d (tI one)), some (.d (tI t)), some (.d (.list (bs.map tI))), some (.loc 1), z5, some (.loc (2 + junk.length)), y7, y8], lwS (graO b) fnd2 junk later2) ∧
      NI b t bs one k fnd (fun _ => phase a x0 front.length 0) fnd2 later2 ∧ ∀ q ∈ fnd2, q.2.length ≤ k + 2 := by
  obtain ⟨ρ', S', e, fnd2, later2, y7, y8, rfl, rfl, M2, h2⟩ := forL_J (g := gSet 7) (F := L_l_least_way_2) (ws := (front.map tI).map W.d) (k := 0)
    (J := fun i ρ S => ∃ fnd2 later2 y7 y8, ρ = [some (.loc 0), some (.d (tI one)), some (.d (tI t)), some (.d (.list (bs.map tI))), some (.loc 1), z5, some (.loc (2 + junk.length)), y7, y8] ∧ S = lwS (graO b) fnd2 junk later2 ∧ NI b t bs one k fnd (fun _ => phase a x0 i 0) fnd2 later2 ∧ ∀ q ∈ fnd2, q.2.length ≤ k + 2)
    (ρ := [some (.loc 0), some (.d (tI one)), some (.d (tI t)), some (.d (.list (bs.map tI))), some (.loc 1), z5, some (.loc (2 + junk.length)), z7, z8]) (S := lwS (graO b) fnd junk []) (fun i w ρ S hw ⟨fnd2, later2, y7, y8, e1, e2, M2, h2⟩ => by
      subst e1 e2
      simp only [List.getElem?_map, Option.map_eq_some_iff, Nat.zero_add] at hw M2 ⊢
      obtain ⟨_, ⟨u, hu, rfl⟩, rfl⟩ := hw
      obtain ⟨hku, _, hou⟩ := L.fr u (List.mem_of_getElem? hu)
      have hut : u ≠ t := fun z => ht (z ▸ hku)
      have huV : u ∈ conts b := by
        obtain ⟨q, hq, rfl⟩ := List.mem_map.mp hku
        exact L.inV q hq
      obtain ⟨fnd3, later3, y8', e3, M3, h3⟩ := lw_row (a := a) (x0 := x0) (z1 := some (.d (tI one))) (z5 := z5) (z8 := y8) (junk := junk) g L hs M2 hu hpl h2 hk
      have hi := fun S => in_holds (c := u) (S := S) true (.inl rfl : Holds (.list (bs.map tI)) bs)
      have hT : tOrD (tOf (mBin (eqA false) (mVar 7) (mVar 1))) (tOf (mBin (inA true) (mVar 7) (mVar 3))) [some (.loc 0), some (.d (tI one)), some (.d (tI t)), some (.d (.list (bs.map tI))), some (.loc 1), z5, some (.loc (2 + junk.length)), some (.d (tI u)), y8] (lwS (graO b) fnd2 junk later2) = some (true, lwS (graO b) fnd2 junk later2) := by
        simp only [tOrD, tOf, mBin, mVar, List.getElem?_cons_succ, List.getElem?_cons_zero, Option.bind_some, eq_tI, hi]
        rcases hou with z | z
        · simp [z]
        · have : (!bB bs u) = true := by
            simp only [okN, Bool.or_eq_true, decide_eq_true_eq] at z
            rcases z with z | z
            · exact absurd z hut
            · exact z
          have : ¬ u ∈ bs := by simpa [bB] using this
          by_cases c : u = one <;> simp [c, this]
      have hg : iSeq (mBin dgetF (mVar 0) (mVar 7)) [some (.loc 0), some (.d (tI one)), some (.d (tI t)), some (.d (.list (bs.map tI))), some (.loc 1), z5, some (.loc (2 + junk.length)), some (.d (tI u)), y8] (lwS (graO b) fnd2 junk later2) = some (((adjC b u).map tI).map W.d, lwS (graO b) fnd2 junk later2) := by
        have := gra_get (b := b) (x := u) (n := 0) (S := lwS (graO b) fnd2 junk later2) rfl huV
        simp only [iSeq, mBin, mVar, List.getElem?_cons_succ, List.getElem?_cons_zero, Option.bind_some, this, fA]
      have e4 : ((gSet 7 (.d (tI u)) [some (.loc 0), some (.d (tI one)), some (.d (tI t)), some (.d (.list (bs.map tI))), some (.loc 1), z5, some (.loc (2 + junk.length)), y7, y8] (lwS (graO b) fnd2 junk later2)).bind fun p => L_l_least_way_2 p.1 p.2) = _ := Eq.trans (by
        rw [show gSet 7 (.d (tI u)) [some (.loc 0), some (.d (tI one)), some (.d (tI t)), some (.d (.list (bs.map tI))), some (.loc 1), z5, some (.loc (2 + junk.length)), y7, y8] (lwS (graO b) fnd2 junk later2) = some ([some (.loc 0), some (.d (tI one)), some (.d (tI t)), some (.d (.list (bs.map tI))), some (.loc 1), z5, some (.loc (2 + junk.length)), some (.d (tI u)), y8], lwS (graO b) fnd2 junk later2) by simp [gSet]]
        simp only [Option.bind_some, L_l_least_way_2]
        rw [if_t hT]
        simp only [sFor, hg, Option.bind_some]) e3
      refine ⟨_, _, e4, fnd3, later3, _, _, rfl, rfl, M3.mono fun n hn => ?_, h3⟩
      obtain ⟨_, gg, y, s1, _, _, _, _, s6, _⟩ := hs.at_ n hn
      by_cases c1 : a < i
      · simp [phase, c1, Nat.lt_succ_of_lt c1]
      · by_cases c2 : a = i
        · subst c2
          rw [hu] at s1; cases s1
          have := (List.getElem?_eq_some_iff.mp s6).1
          simp [phase, this]
        · have : ¬ a < i + 1 := by omega
          simp [phase, c1, c2, this]) ⟨fnd, [], z7, z8, rfl, rfl, L.start.mono fun n hn => by simp [phase], fun q hq => Nat.le_succ_of_le (hpl q hq)⟩
  simp only [Nat.zero_add, List.length_map] at e M2
  exact ⟨_, _, _, _, e, M2, h2⟩
theorem ne_nil (l : List (List Int)) (S : Sto) : eqA true (.d (.list (l.map tI))) (.d (.list [])) S = some (.d (.bool (!l.isEmpty)), S) := by
  have h1 := shaped_l l
  have h2 : SeqAt.shaped (.list []) = true := by decide
  have h3 : PyData.eqv (.list (l.map tI)) (.list []) = l.isEmpty := by cases l <;> simp [PyData.eqv, PyData.eqvAll]
  simp [eqA, eqD, deref, h1, h2, h3]
theorem FI.len (L : FI b t bs one k fnd front) : fnd.length ≤ (conts b).length := by
  have := nodup_len (m := conts b) L.nd fun x hx => by
    obtain ⟨q, hq, rfl⟩ := List.mem_map.mp hx
    exact L.inV q hq
  rwa [List.length_map] at this
theorem least_ok {n : Nat} {S : Sto} (g : Good b) (h1 : Fits one b) (hS : S[n]? = some (graO b)) :
    ∃ r : Option (List (List Int)), callF f_l_least_way [.loc n, .d (tI one), .d (tI t), .d (.list (bs.map tI))] S = some (.d (wayO r), S) ∧
      (∀ m, IsD (adjC b) t (bB bs) m one → r = some (gp (adjC b) t (bB bs) m one) ∧ m ≤ 7776) ∧ ((∀ m, ¬ IsD (adjC b) t (bB bs) m one) → r = none) := by
  have hc := g.clen
  obtain ⟨ρ', S', e, k, fnd, front, junk, x5, x6, x7, x8, rfl, rfl, L, hpl, hlen, hend⟩ := whileL_J (α := Nat × List (List Int × List (List Int)) × List (List Int) × Sto) (T := tAndD (tOf (mBin (eqA true) (mVar 5) (mCall lstF (mNil)))) (tOf (mBin (dinF true) (mVar 2) (mVar 4)))) (F := sSeq (sAsg (mCall lstB (mNil)) (gSet 6))
    (sSeq (sFor (iSeq (mVar 5)) (gSet 7) (L_l_least_way_2))
    (sAsg (mFrz (mVar 6)) (gSet 5))))
    (J := fun a ρ S => ∃ x6 x7 x8, ρ = [some (.loc 0), some (.d (tI one)), some (.d (tI t)), some (.d (.list (bs.map tI))), some (.loc 1), some (.d (.list (a.2.2.1.map tI))), x6, x7, x8] ∧ S = graO b :: .dicT (tabF fP a.2.1) :: a.2.2.2 ∧ FI b t bs one a.1 a.2.1 a.2.2.1 ∧ (∀ q ∈ a.2.1, q.2.length ≤ a.1 + 1) ∧ (a.2.2.1 ≠ [] → a.1 + 1 ≤ a.2.1.length) ∧ a.1 ≤ a.2.1.length)
    (μ := fun a => 2 * ((conts b).length - a.2.1.length) + if a.2.2.1 = [] then 0 else 1)
    (P := fun ρ S => ∃ k fnd front junk x5 x6 x7 x8, ρ = [some (.loc 0), some (.d (tI one)), some (.d (tI t)), some (.d (.list (bs.map tI))), some (.loc 1), x5, x6, x7, x8] ∧ S = graO b :: .dicT (tabF fP fnd) :: junk ∧ FI b t bs one k fnd front ∧ (∀ q ∈ fnd, q.2.length ≤ k + 1) ∧ k ≤ fnd.length ∧ (front = [] ∨ t ∈ fnd.map (·.1)))
    (fun a ρ S ⟨x6, x7, x8, e1, e2, L, hpl, hfr, hkl⟩ => by
      obtain ⟨k, fnd, front, junk⟩ := a
      simp only at e1 e2 L hpl hfr hkl
      subst e1 e2
      have hd := din_tab (x := t) true (S := graO b :: .dicT (tabF fP fnd) :: junk) (n := 1) (f := fP) (found := fnd) rfl
      have hT : ∀ d, decide (t ∈ fnd.map (·.1)) = d → tAndD (tOf (mBin (eqA true) (mVar 5) (mCall lstF (mNil)))) (tOf (mBin (dinF true) (mVar 2) (mVar 4))) [some (.loc 0), some (.d (tI one)), some (.d (tI t)), some (.d (.list (bs.map tI))), some (.loc 1), some (.d (.list (front.map tI))), x6, x7, x8] (graO b :: .dicT (tabF fP fnd) :: junk) = some (!front.isEmpty && !d, graO b :: .dicT (tabF fP fnd) :: junk) := fun d hdd => by
        rw [hdd] at hd
        simp only [tAndD, tOf, mBin, mVar, mCall, mNil, lstF, allD, Option.map_some, List.length_nil, List.getElem?_cons_succ, List.getElem?_cons_zero, Option.bind_some]
        rw [if_pos (show 0 ≤ sizeLine from Nat.zero_le _)]
        simp only [Option.bind_some, ne_nil, hd]
        cases front.isEmpty <;> cases d <;> rfl
      by_cases ht : t ∈ fnd.map (·.1)
      · refine .inl ⟨by rw [hT true (decide_eq_true ht)]; simp, k, fnd, front, junk, _, x6, x7, x8, rfl, rfl, L, hpl, hkl, .inr ht⟩
      · by_cases hl : front = []
        · subst hl
          exact .inl ⟨by rw [hT false (decide_eq_false ht)]; simp, k, fnd, [], junk, _, x6, x7, x8, rfl, rfl, L, hpl, hkl, .inl rfl⟩
        · right
          have hie : front.isEmpty = false := by cases front with
            | nil => exact absurd rfl hl
            | cons x l => rfl
          refine ⟨by rw [hT false (decide_eq_false ht), hie]; rfl, ?_⟩
          have hfl := FI.len L
          have hk1 := hfr hl
          obtain ⟨a, x0, hs⟩ := spot L ht
          obtain ⟨fnd2, later2, y7, y8, e4, M2, h2⟩ := lw_level (z5 := some (.d (.list (front.map tI)))) (z7 := x7) (z8 := x8) (junk := junk) g L hs ht hpl (by omega)
          have L2 := M2.finish L fun n hn => by
            obtain ⟨q1, gg, y, s1, _⟩ := hs.at_ n hn
            have := (List.getElem?_eq_some_iff.mp s1).1
            exact ⟨by simp [phase, this], q1⟩
          have hml := NI.len L M2
          have hlen2 : (lwS (graO b) fnd2 junk later2)[2 + junk.length]? = some (.lst ((later2.map tI).map W.d)) := by
            rw [show 2 + junk.length = junk.length + 1 + 1 by omega]; simp [lwS]
          refine ⟨[some (.loc 0), some (.d (tI one)), some (.d (tI t)), some (.d (.list (bs.map tI))), some (.loc 1), some (.d (.list (later2.map tI))), some (.loc (2 + junk.length)), y7, y8], graO b :: .dicT (tabF fP fnd2) :: (junk ++ [.dead]), ?_, (k + 1, fnd2, later2, junk ++ [.dead]), ⟨_, _, _, rfl, rfl, L2, h2, fun z => ?_, ?_⟩, ?_⟩
          · rw [seq_nx (ρ1 := [some (.loc 0), some (.d (tI one)), some (.d (tI t)), some (.d (.list (bs.map tI))), some (.loc 1), some (.d (.list (front.map tI))), some (.loc (2 + junk.length)), x7, x8]) (S1 := lwS (graO b) fnd junk []) (by
              simp [sAsg, mCall, lstB, mNil, gSet, lwS]; omega)]
            rw [seq_nx (by
              simp only [sFor]
              rw [show iSeq (mVar 5) [some (.loc 0), some (.d (tI one)), some (.d (tI t)), some (.d (.list (bs.map tI))), some (.loc 1), some (.d (.list (front.map tI))), some (.loc (2 + junk.length)), x7, x8] (lwS (graO b) fnd junk []) = some ((front.map tI).map W.d, lwS (graO b) fnd junk []) by simp [iSeq, mVar]]
              exact e4)]
            have hset : (lwS (graO b) fnd2 junk later2).set (2 + junk.length) .dead = graO b :: .dicT (tabF fP fnd2) :: (junk ++ [.dead]) := by
              rw [show 2 + junk.length = junk.length + 1 + 1 by omega]; simp [lwS]
            simp only [sAsg, mFrz, mVar, List.getElem?_cons_succ, List.getElem?_cons_zero, Option.bind_some, hlen2, allD_map, Option.map_some, hset]
            simp [gSet]
          · have : 0 < later2.length := List.length_pos_iff.mpr z
            simp only
            omega
          · simp only
            omega
          · have hne : (if front = [] then 0 else 1) = 1 := if_neg hl
            simp only [hne]
            by_cases hf : later2 = []
            · subst hf
              simp only [List.length_nil] at hml
              simp only [if_true]
              omega
            · have : 0 < later2.length := List.length_pos_iff.mpr hf
              simp only [hf, if_false]
              omega) (n := FUEL) (a := (0, [(one, [one])], [one], [])) (ρ := [some (.loc 0), some (.d (tI one)), some (.d (tI t)), some (.d (.list (bs.map tI))), some (.loc 1), some (.d (.list [tI one])), none, none, none]) (S := [graO b, .dicT (tabF fP [(one, [one])])]) ⟨none, none, none, rfl, rfl, FInv.zero (inV.mpr h1), fun q hq => by rw [List.mem_singleton.mp hq]; simp, fun _ => by simp, by simp⟩ (by
      simp only [FUEL]
      split <;> omega)
  have hfl := FI.len L
  obtain ⟨r, hr⟩ : ∃ r, r = (fnd.find? fun q => decide (q.1 = t)).map (·.2) := ⟨_, rfl⟩
  refine ⟨r, ?_, fun m hm => ?_, fun hno => ?_⟩
  · have hset : S.set n (graO b) = S := set_same hS
    have hlk := look_tab (x := t) (S := graO b :: .dicT (tabF fP fnd) :: junk) (n := 1) (f := fP) (found := fnd) rfl
    have hc2 := callF_loc (f := f_l_least_way) (ws := [.loc n, .d (tI one), .d (tI t), .d (.list (bs.map tI))]) (x := wayO r) (S := S) (n := n) (ob := graO b) (ob' := graO b) rfl (by simp [allLoc]) hS (graO_obD b) (runF_ret1 (ob' := graO b) ⟨[some (.loc 0), some (.d (tI one)), some (.d (tI t)), some (.d (.list (bs.map tI))), some (.loc 1), x5, x6, x7, x8], .dicT (tabF fP fnd) :: junk, by
      show b_l_least_way [some (.loc 0), some (.d (tI one)), some (.d (tI t)), some (.d (.list (bs.map tI))), none, none, none, none, none] [graO b] = _
      unfold b_l_least_way
      rw [seq_nx (ρ1 := [some (.loc 0), some (.d (tI one)), some (.d (tI t)), some (.d (.list (bs.map tI))), some (.loc 1), some (.d (.list [tI one])), none, none, none]) (S1 := [graO b, .dicT (tabF fP [(one, [one])])]) (by
        simp only [sPar, mCons, mDisp1, mVar, List.getElem?_cons_succ, List.getElem?_cons_zero, Option.bind_some, mCall, lstF, tupF, allD, Option.map_some, mNil, List.length_cons, List.length_nil]
        simp [sz1, tI, keys_tI, tabF, fP])]
      rw [seq_nx e]
      simp only [sRet, mGet2', mVar, mC, List.getElem?_cons_succ, List.getElem?_cons_zero, Option.bind_some, isDic, if_true, hlk, Option.map_some]
      rw [hr]
      cases (fnd.find? fun q => decide (q.1 = t)) with
      | none => rfl
      | some q => rfl⟩ (graO_obD b)) (graO_obD b)
    rw [hset] at hc2; exact hc2
  · have := L.way hm hend
    have hk := (L.good m hm).1
    rw [hr, find_at L.nd this]
    have hl := gp_len hm
    have hp := hpl _ this
    refine ⟨rfl, ?_⟩
    simp only at hp
    omega
  · rw [hr]
    cases hf : (fnd.find? fun q => decide (q.1 = t)) with
    | none => rfl
    | some q =>
      exfalso
      have hq := List.mem_of_find?_eq_some hf
      have hq1 : q.1 = t := by simpa using List.find?_some hf
      obtain ⟨m, _, hm⟩ := L.met (List.mem_map.mpr ⟨q, hq, hq1⟩)
      exact hno m hm
end
end K17
end
/-! the law's draws -/
noncomputable section
namespace K17
open PySem PySem.Spec PyProof.Rows L2 DL
theorem keyI_kc (c : List Int) : keyI (kc c) = some c := by
  induction c with
  | nil => rfl
  | cons x c ih =>
    have : kc (x :: c) = .inl x :: kc c := rfl
    rw [this, keyI, ih]; rfl
theorem keysI_kc (l : List (List Int)) : keysI (l.map kc) = some l := by
  induction l with
  | nil => rfl
  | cons x l ih => rw [List.map_cons, keysI, keyI_kc, ih]; rfl
theorem sortable_cI {l : List (List Int)} (h0 : ∀ a ∈ l, a ≠ []) : sortable (l.map cI) = true := by
  simp only [sortable, Bool.and_eq_true, List.all_eq_true, List.mem_map, decide_eq_true_eq]
  refine ⟨?_, ?_⟩
  · rintro _ ⟨a, ha, rfl⟩
    refine ⟨?_, by rw [toP_cI, dep_tI]; decide⟩
    cases a with
    | nil => exact absurd rfl (h0 _ ha)
    | cons x a => rfl
  · rintro _ ⟨a, ha, rfl⟩ _ ⟨b, hb, rfl⟩
    exact kind_cI a b
theorem gra_sorted {b : List Pl} {n : Nat} {S : Sto} (g : Good b) (hS : S[n]? = some (graO b)) : sortedKD [.loc n] S = some (.d (.list ((sortL (conts b)).map tI)), S) := by
  have h1 : (tabF (fun x => W.d (fA b x)) ((conts b).map fun x => (x, x))).map (·.1) = (conts b).map kc := by
    unfold tabF; rw [List.map_map, List.map_map]; rfl
  have h2 := sortable_cI (l := conts b) fun a ha => ne_of_fits g (inV.mp ha)
  simp only [sortedKD, on1, hS, graO, h1, keysI_kc, Option.bind_some, h2, if_true, sortL_tI]
theorem drawn_ok {c n : Nat} {ob : Ob} {S : Sto} {cs : List (List Int)} (hS : S[n]? = some ob) (hb : BagOk c ob) (hc : c + 1 + 2 * cs.length + 10 < 2 ^ 1000) (hl : cs.length ≤ 10000) :
    ∃ (bs : List (List Int)) (ob' : Ob), callF f_l_drawn_contents [.loc n, .d (.list (cs.map tI))] S = some (.d (.list (bs.map tI)), S.set n ob') ∧ (∀ x ∈ bs, x ∈ cs) ∧ bs.length ≤ cs.length ∧ BagOk (c + 1 + 2 * cs.length) ob' := by
  obtain ⟨v, ob1, e1, v0, v1, hb1⟩ := take_ok (S := [ob]) (n := 0) (upto := 4) rfl hb (by omega) (by decide) (by decide)
  simp only [List.set_cons_zero] at e1
  have hv : ∀ S, eqA false (.d (.int v)) (.d (.int 0)) S = some (.d (.bool (decide (v = 0))), S) := fun S => ev_eq
  by_cases h : v = 0
  · refine ⟨[], ob1, callF_loc (n := n) rfl (by simp [allLoc]) hS hb.obD (runF_ret1 ⟨[some (.loc 0), some (.d (.list (cs.map tI))), some (.d (.int v)), none], [], ?_⟩ hb1.obD) hb1.obD, fun x hx => by simp at hx, Nat.zero_le _, hb1.up (by omega)⟩
    show b_l_drawn_contents [some (.loc 0), some (.d (.list (cs.map tI))), none, none] [ob] = _
    unfold b_l_drawn_contents
    rw [seq_nx (ρ1 := [some (.loc 0), some (.d (.list (cs.map tI))), some (.d (.int v)), none]) (S1 := [ob1]) (by
      simp only [sAsg, mCall, mCons, mNil, mC, mVar, List.getElem?_cons_succ, List.getElem?_cons_zero, Option.bind_some, e_take, e1]
      simp [gSet])]
    rw [seq_rt ((if_t (by
      simp only [tOf, mBin, mVar, mC, List.getElem?_cons_succ, List.getElem?_cons_zero, Option.bind_some, hv, h]; rfl)).trans (by
      simp only [sRet, mCall, mNil, lstF, allD, Option.map_some, Option.bind_some, List.length_nil]
      rw [if_pos (Nat.zero_le _)]
      rfl))]
    rfl
  · have key : ∀ {l : List (List Int)} {d : Nat} {o : Ob}, BagOk d o → d + l.length + 10 < 2 ^ 1000 → ∃ (r : List (List Int)) (o' : Ob), lcL (gSet 3) (tOf (mBin (eqA false) (mCall (callF f_l_take) (mCons (mVar 0) (mCons (mBin addA (mC (.int 1)) (mVar 2)) (mNil)))) (mC (.int 0)))) (mVar 3) [3] [some (.loc 0), some (.d (.list (cs.map tI))), some (.d (.int v)), none] ((l.map tI).map W.d) [o] = some ((r.map tI).map W.d, [o']) ∧ r.Sublist l ∧ BagOk (d + l.length) o' := by
      intro l
      induction l with
      | nil => exact fun {d o} hd _ => ⟨[], o, rfl, List.Sublist.refl _, hd⟩
      | cons x l ih =>
        intro d o hd hdl
        simp only [List.length_cons] at hdl
        obtain ⟨u, o1, e2, u0, u1, hd1⟩ := take_ok (S := [o]) (n := 0) (upto := 1 + v) rfl hd (by omega) (by omega) (by
          have : (1 + v).natAbs.log2 ≤ 3 := lg_le (by omega)
          omega)
        simp only [List.set_cons_zero] at e2
        obtain ⟨r, o2, e3, hr, hd2⟩ := ih hd1 (by omega)
        have hu : ∀ S, eqA false (.d (.int u)) (.d (.int 0)) S = some (.d (.bool (decide (u = 0))), S) := fun S => ev_eq
        have ha : ∀ S, addA (.d (.int 1)) (.d (.int v)) S = some (.d (.int (1 + v)), S) := fun S => ev_add
        have e4 : gSet 3 (.d (tI x)) (wipeD [some (.loc 0), some (.d (.list (cs.map tI))), some (.d (.int v)), none] [3]) [o] = some ([some (.loc 0), some (.d (.list (cs.map tI))), some (.d (.int v)), some (.d (tI x))], [o]) := by simp [gSet, wipeD]
        have e5 : tOf (mBin (eqA false) (mCall (callF f_l_take) (mCons (mVar 0) (mCons (mBin addA (mC (.int 1)) (mVar 2)) (mNil)))) (mC (.int 0))) [some (.loc 0), some (.d (.list (cs.map tI))), some (.d (.int v)), some (.d (tI x))] [o] = some (decide (u = 0), [o1]) := by
          simp only [tOf, mBin, mCall, mCons, mNil, mC, mVar, List.getElem?_cons_succ, List.getElem?_cons_zero, Option.bind_some, ha, e_take, e2, hu]
        by_cases hu0 : u = 0
        · refine ⟨x :: r, o2, ?_, hr.cons_cons x, hd2.up (by simp; omega)⟩
          simp only [List.map_cons, lcL, e4, e5, Option.bind_some, hu0, decide_true, if_true, mVar, List.getElem?_cons_succ, List.getElem?_cons_zero, e3]
        · refine ⟨r, o2, ?_, hr.cons x, hd2.up (by simp; omega)⟩
          simp only [List.map_cons, lcL, e4, e5, Option.bind_some, hu0, decide_false, Bool.false_eq_true, if_false, e3]
    obtain ⟨r, ob2, e2, hr, hb2⟩ := key (l := cs) hb1 (by omega)
    have hrl := hr.length_le
    obtain ⟨ys, ob3, e3, hp, hb3⟩ := mixed_ok (S := [ob2]) (n := 0) (xs := r.map tI) rfl hb2 (by rw [List.length_map]; omega) (by rw [List.length_map]; exact sz_of (by omega))
    simp only [List.set_cons_zero] at e3
    obtain ⟨bs, hbs, rfl⟩ := perm_map_ex hp
    rw [List.length_map] at hb3
    refine ⟨bs, ob3, callF_loc (n := n) rfl (by simp [allLoc]) hS hb.obD (runF_ret1 ⟨[some (.loc 0), some (.d (.list (cs.map tI))), some (.d (.int v)), none], [], ?_⟩ hb3.obD) hb3.obD, fun x hx => hr.subset (hbs.subset hx), by rw [hbs.length_eq]; exact hrl, hb3.up (by omega)⟩
    show b_l_drawn_contents [some (.loc 0), some (.d (.list (cs.map tI))), none, none] [ob] = _
    unfold b_l_drawn_contents
    rw [seq_nx (ρ1 := [some (.loc 0), some (.d (.list (cs.map tI))), some (.d (.int v)), none]) (S1 := [ob1]) (by
      simp only [sAsg, mCall, mCons, mNil, mC, mVar, List.getElem?_cons_succ, List.getElem?_cons_zero, Option.bind_some, e_take, e1]
      simp [gSet])]
    rw [seq_nx ((if_f (G := sNil) (by
      simp only [tOf, mBin, mVar, mC, List.getElem?_cons_succ, List.getElem?_cons_zero, Option.bind_some, hv, h]; rfl)).trans rfl)]
    have hk : kFrz ((r.map tI).map W.d) [ob2] = some (.d (.list (r.map tI)), [ob2]) := by
      have : (r.map tI).length ≤ sizeLine := by rw [List.length_map]; exact sz_of (by omega)
      simp only [kFrz, allD_map, Option.bind_some, this, if_true]
    have hm : mLc (iSeq (mVar 1)) (gSet 3) (tOf (mBin (eqA false) (mCall (callF f_l_take) (mCons (mVar 0) (mCons (mBin addA (mC (.int 1)) (mVar 2)) (mNil)))) (mC (.int 0)))) (mVar 3) [3] kFrz [some (.loc 0), some (.d (.list (cs.map tI))), some (.d (.int v)), none] [ob1] = some (.d (.list (r.map tI)), [ob2]) := by
      rw [mLc, show iSeq (mVar 1) [some (.loc 0), some (.d (.list (cs.map tI))), some (.d (.int v)), none] [ob1] = some ((cs.map tI).map W.d, [ob1]) by simp [iSeq, mVar]]
      simp only [Option.bind_some, e2, hk]
    simp only [sRet, mCall, mCons, mNil, mVar, List.getElem?_cons_succ, List.getElem?_cons_zero, Option.bind_some, hm, e_mixed, e3]
end K17
end
/-! one step of the law -/
noncomputable section
namespace K17
open PySem PySem.Spec PyProof.Rows L2 DL
section
variable {b : List Pl} {one t : List Int} {bs : List (List Int)}
theorem nice_w {w : PyData} {l : List (List Int)} (g : Good b) (h : ∀ c ∈ l, Fits c b) (hw : Holds w l) (dp : Nat) : Nice 8 (31 * l.length) (dp + 2) w := by
  have h0 : ∀ d ∈ l.map tI, Nice 8 30 (dp + 1) d := fun d hd => by
    obtain ⟨c, hc, rfl⟩ := List.mem_map.mp hd
    exact nice_c g (h c hc) dp
  have := niceAll_of h0
  rw [List.length_map] at this
  rcases hw with rfl | rfl
  · exact niceList this
  · exact niceTup this
theorem nice_way {r : Option (List (List Int))} (g : Good b) (h : ∀ p, r = some p → p.length ≤ 10000 ∧ ∀ c ∈ p, Fits c b) : Nice 8 310000 2 (wayO r) := by
  cases r with
  | none => exact (niceNone (dp := 2)).up (by omega) (by omega)
  | some p =>
    obtain ⟨h1, h2⟩ := h p rfl
    exact (nice_w g h2 (.inr rfl) 0).up (by omega) (by omega)
theorem nice_len {n : Nat} (h : n ≤ 100000) (dp : Nat) : Nice 8 29 dp (.int n) := (niceInt (k := 7) (by simp; omega) (by decide) (by decide) (by decide)).up (by omega) (Nat.le_refl _)
/-- the law's state within one question -/
abbrev lwE (b : List Pl) (j : Nat) (one t : List Int) (x0 x2 x5 x6 x7 : Option W) (bs : List (List Int)) (lst : Option Nat) (x12 x13 x14 x15 x16 x17 : Option W) : DEnv :=
  [x0, some (.loc 0), x2, some (.d (bn b)), some (.loc j), x5, x6, x7, some (.d (tI one)), some (.d (tI t)), some (.d (.list (bs.map tI))), some (.d (lenO lst)), x12, x13, x14, x15, x16, x17]
def Last (b : List Pl) (t : List Int) (bs : List (List Int)) (one : List Int) (lst : Option Nat) : Prop := ∀ l, lst = some l → ∃ n, Dn (adjC b) t (bB bs) n one = true ∧ n + 1 ≤ l
theorem Last.less {bs' : List (List Int)} {lst : Option Nat} (h : Last b t bs one lst) (hb : ∀ x ∈ bs', x ∈ bs) : Last b t bs' one lst := fun l hl => by
  obtain ⟨n, h1, h2⟩ := h l hl
  refine ⟨n, Dn_less (fun x hx => ?_) h1, h2⟩
  simp only [bB, decide_eq_true_eq] at hx ⊢
  exact hb x hx
theorem bB_twice (v : Nat) : bB (bs ++ bs.take v) = bB bs := funext fun x => by
  unfold bB
  by_cases c : x ∈ bs
  · rw [decide_eq_true c, decide_eq_true (List.mem_append_left _ c)]
  · rw [decide_eq_false c, decide_eq_false fun z => by
      rcases List.mem_append.mp z with z | z
      · exact c z
      · exact c (List.mem_of_mem_take z)]
theorem isN_len {l : Option Nat} {S : Sto} : isND true (.d (lenO l)) (.d .none) S = some (.d (.bool l.isSome), S) := by cases l <;> rfl
theorem isN_way {r : Option (List (List Int))} {S : Sto} (neg : Bool) : isND neg (.d (wayO r)) (.d .none) S = some (.d (.bool (r.isNone ^^ neg)), S) := by cases r <;> rfl
theorem len_way {p : List (List Int)} {S : Sto} : lenD [.d (wayO (some p))] S = some (.d (.int p.length), S) := by simp [lenD, on1, len0, wayO]
theorem law1_step {c j : Nat} {ob : Ob} {R : Sto} {lst : Option Nat} {x0 x2 x5 x6 x7 x12 x13 x14 x15 x16 x17 : Option W} (g : Good b) (h1 : Fits one b) (ht : Fits t b) (hR : R[j]? = some (graO b)) (hb : BagOk c ob) (hc : c + 10 < 2 ^ 1000)
    (hbs : ∀ x ∈ bs, Fits x b) (hl : bs.length ≤ 10000) (hL : Last b t bs one lst) :
    ∃ lst' ob' y12 y13 y14 y15 y16 y17, L_law_1 (lwE b (j + 1) one t x0 x2 x5 x6 x7 bs lst x12 x13 x14 x15 x16 x17) (ob :: R) = some (.nx, lwE b (j + 1) one t x0 x2 x5 x6 x7 (bs.drop 1) lst' y12 y13 y14 y15 y16 y17, ob' :: R) ∧ BagOk (c + 3) ob' ∧ Last b t (bs.drop 1) one lst' := by
  obtain ⟨v1, ob1, e1, v10, v11, hb1⟩ := take_ok (S := ob :: R) (n := 0) (upto := 2) rfl hb (by omega) (by decide) (by decide)
  obtain ⟨v, rfl⟩ := Int.eq_ofNat_of_zero_le v10
  obtain ⟨v2, ob2, e2, _, _, hb2⟩ := take_ok (S := ob1 :: R) (n := 0) (upto := 2) rfl hb1 (by omega) (by decide) (by decide)
  simp only [List.set_cons_zero] at e1 e2
  obtain ⟨bt, hbt⟩ : ∃ bt, bs ++ bs.take v = bt := ⟨_, rfl⟩
  have hbB : bB bt = bB bs := by rw [← hbt]; exact bB_twice v
  have hbtl : bt.length ≤ 20000 := by rw [← hbt, List.length_append, List.length_take]; omega
  have hbtf : ∀ x ∈ bt, Fits x b := fun x hx => by
    rw [← hbt] at hx
    rcases List.mem_append.mp hx with z | z
    · exact hbs x z
    · exact hbs x (List.mem_of_mem_take z)
  obtain ⟨w, hw⟩ : ∃ w, (if v2 = 0 then PyData.tuple (bt.map tI) else .list (bt.map tI)) = w := ⟨_, rfl⟩
  have hH : Holds w bt := by
    rw [← hw]
    by_cases z : v2 = 0
    · rw [if_pos z]; exact .inr rfl
    · rw [if_neg z]; exact .inl rfl
  -- twice
  have s1 : sAsg (mBin addA (mVar 10) (mSl (mVar 10) (oNo) (oYes (mCall (callF f_l_take) (mCons (mVar 1) (mCons (mC (.int 2)) (mNil))))))) (gSet 12) (lwE b (j + 1) one t x0 x2 x5 x6 x7 bs lst x12 x13 x14 x15 x16 x17) (ob :: R) = some (.nx, lwE b (j + 1) one t x0 x2 x5 x6 x7 bs lst (some (.d (.list (bt.map tI)))) x13 x14 x15 x16 x17, ob1 :: R) := by
    have h3 : sliceD (.d (.list (bs.map tI))) none (some ((v : Nat) : Int)) (ob1 :: R) = some (.d (.list ((bs.take v).map tI)), ob1 :: R) := by
      simp only [sliceD, cut_take, List.map_take]
    have h4 := ev_addL (S := ob1 :: R) (x := bs.map tI) (y := (bs.take v).map tI) (by
      rw [List.length_map, List.length_map, List.length_take]; exact sz_of (by omega))
    rw [← List.map_append, hbt] at h4
    simp only [sAsg, mBin, mSl, oNo, oYes, mCall, mCons, mNil, mC, mVar, List.getElem?_cons_succ, List.getElem?_cons_zero, Option.bind_some, e_take, e1, Int.ofNat_eq_natCast, h3, h4]
    simp [gSet]
  have s2 : sAsg (vIf (tOf (mBin (eqA false) (mCall (callF f_l_take) (mCons (mVar 1) (mCons (mC (.int 2)) (mNil)))) (mC (.int 0)))) (mCall tupleD (mCons (mVar 12) (mNil))) (mCall listD (mCons (mVar 12) (mNil)))) (gSet 13) (lwE b (j + 1) one t x0 x2 x5 x6 x7 bs lst (some (.d (.list (bt.map tI)))) x13 x14 x15 x16 x17) (ob1 :: R) = some (.nx, lwE b (j + 1) one t x0 x2 x5 x6 x7 bs lst (some (.d (.list (bt.map tI)))) (some (.d w)) x14 x15 x16 x17, ob2 :: R) := by
    have hv : ∀ S, eqA false (.d (.int v2)) (.d (.int 0)) S = some (.d (.bool (decide (v2 = 0))), S) := fun S => ev_eq
    rw [← hw]
    by_cases z : v2 = 0
    · have hv' : ∀ S, eqA false (.d (.int v2)) (.d (.int 0)) S = some (.d (.bool true), S) := fun S => by rw [hv, decide_eq_true z]
      rw [if_pos z]
      simp only [sAsg, vIf, tOf, mBin, mCall, mCons, mNil, mC, mVar, List.getElem?_cons_succ, List.getElem?_cons_zero, Option.bind_some, e_take, e2, hv', if_true, tupleD, on1, seqOf, deref, Option.map_some]
      simp [gSet]
    · have hv' : ∀ S, eqA false (.d (.int v2)) (.d (.int 0)) S = some (.d (.bool false), S) := fun S => by rw [hv, decide_eq_false z]
      rw [if_neg z]
      simp only [sAsg, vIf, tOf, mBin, mCall, mCons, mNil, mC, mVar, List.getElem?_cons_succ, List.getElem?_cons_zero, Option.bind_some, e_take, e2, hv', if_false, listD, on1, seqOf, deref, Option.map_some, Bool.false_eq_true]
      simp [gSet]
  -- the least way, the text
  obtain ⟨r, e3, hr1, hr2⟩ := least_ok (b := b) (one := one) (t := t) (bs := bs) (n := j + 1) (S := ob2 :: R) g h1 (by simpa using hR)
  have hrep : ∀ S, reprD [.d w] S = some (.d (.str w.shown), S) := fun S => by
    have := ((nice_w g hbtf hH 0).up (show 31 * bt.length ≤ 620000 by omega) (Nat.le_refl _)).reprOk (by decide) (by decide) (by decide)
    simp only [reprD, on1, deref, Option.bind_some, this, if_true]
  have s3 : sPar 15 16 (mCons (mCall (callF f_l_least_way) (mCons (mVar 4) (mCons (mVar 8) (mCons (mVar 9) (mCons (mVar 10) (mNil)))))) (mCons (mCall reprD (mCons (mVar 13) (mNil))) mNil)) (lwE b (j + 1) one t x0 x2 x5 x6 x7 bs lst (some (.d (.list (bt.map tI)))) (some (.d w)) x14 x15 x16 x17) (ob2 :: R) = some (.nx, lwE b (j + 1) one t x0 x2 x5 x6 x7 bs lst (some (.d (.list (bt.map tI)))) (some (.d w)) x14 (some (.d (wayO r))) (some (.d (.str w.shown))) x17, ob2 :: R) := by
    simp only [sPar, mCall, mCons, mNil, mVar, List.getElem?_cons_succ, List.getElem?_cons_zero, Option.bind_some, e3, hrep]
    simp
  -- the length told
  obtain ⟨dO, hdO⟩ : ∃ dO : Option Nat, dO = r.map fun p => p.length - 1 := ⟨_, rfl⟩
  have hst : ∀ S, callF f_shortest_way [.d (bn b), .d (tI one), .d (tI t), .d w] S = some (.d (wayO r), S) ∧ callF f_distance [.d (bn b), .d (tI one), .d (tI t), .d w] S = some (.d (lenO dO), S) := fun S => by
    obtain ⟨q1, q2⟩ := shortest_ok (S := S) g h1 ht hH (by omega)
    obtain ⟨q3, q4⟩ := distance_ok (S := S) g h1 ht hH (by omega)
    rw [hbB] at q1 q2 q3 q4
    by_cases hex : ∃ n, IsD (adjC b) t (bB bs) n one
    · obtain ⟨n, hn⟩ := hex
      obtain ⟨e5, hn7⟩ := hr1 n hn
      rw [q1 n hn (by omega), q3 n hn, hdO, e5]
      simp only [wayO, lenO, Option.map_some, gp_len hn, Nat.add_sub_cancel, and_self]
    · have hno : ∀ n, ¬ IsD (adjC b) t (bB bs) n one := fun n hn => hex ⟨n, hn⟩
      rw [q2 hno, q4 hno, hdO, hr2 hno]
      exact ⟨rfl, rfl⟩
  have s4 : sAsg (mCall lstF (mCons (mCall (callF f_shortest_way) (mCons (mVar 3) (mCons (mVar 8) (mCons (mVar 9) (mCons (mVar 13) (mNil)))))) (mCons (mCall (callF f_distance) (mCons (mVar 3) (mCons (mVar 8) (mCons (mVar 9) (mCons (mVar 13) (mNil)))))) (mNil)))) (gSet 14) (lwE b (j + 1) one t x0 x2 x5 x6 x7 bs lst (some (.d (.list (bt.map tI)))) (some (.d w)) x14 (some (.d (wayO r))) (some (.d (.str w.shown))) x17) (ob2 :: R) = some (.nx, lwE b (j + 1) one t x0 x2 x5 x6 x7 bs lst (some (.d (.list (bt.map tI)))) (some (.d w)) (some (.d (.list [wayO r, lenO dO]))) (some (.d (wayO r))) (some (.d (.str w.shown))) x17, ob2 :: R) := by
    simp only [sAsg, mCall, mCons, mNil, mVar, List.getElem?_cons_succ, List.getElem?_cons_zero, Option.bind_some, (hst _).1, (hst _).2, lstF, allD, Option.map_some, List.length_cons, List.length_nil]
    rw [if_pos (show 0 + 1 + 1 ≤ sizeLine from sz2)]
    simp [gSet]
  -- what the way holds
  have hway : ∀ p, r = some p → ∃ n, IsD (adjC b) t (bB bs) n one ∧ n ≤ 7776 ∧ p = gp (adjC b) t (bB bs) n one ∧ p.length = n + 1 ∧ ∀ x ∈ p, Fits x b := fun p hp => by
    by_cases hex : ∃ n, IsD (adjC b) t (bB bs) n one
    · obtain ⟨n, hn⟩ := hex
      obtain ⟨e5, hn7⟩ := hr1 n hn
      have hpp : p = gp (adjC b) t (bB bs) n one := by rw [e5] at hp; exact (Option.some.inj hp).symm
      refine ⟨n, hn, hn7, hpp, by rw [hpp]; exact gp_len hn, fun x hx => ?_⟩
      rw [hpp] at hx
      exact inV.mp (gp_mem (V := fun z => z ∈ conts b) (fun x hx y hy => inV.mpr (adj_fits g (inV.mp hx) hy)) hn (inV.mpr h1) x hx)
    · have hno : ∀ n, ¬ IsD (adjC b) t (bB bs) n one := fun n hn => hex ⟨n, hn⟩
      rw [hr2 hno] at hp; cases hp
  have hnw : Nice 8 310000 2 (wayO r) := nice_way g fun p hp => by
    obtain ⟨n, _, q2, _, q4, q5⟩ := hway p hp
    exact ⟨by omega, q5⟩
  have hnl : Nice 8 29 2 (lenO dO) := by
    cases hr : r with
    | none => rw [hdO, hr]; exact (niceNone (dp := 2)).up (by omega) (by omega)
    | some p =>
      obtain ⟨n, _, q2, _, q4, _⟩ := hway p hr
      rw [hdO, hr]
      exact nice_len (n := p.length - 1) (by omega) 2
  have hal : ∀ S, callF f_l_alike [.d (.list [wayO r, lenO dO]), .d (.list [wayO r, lenO dO])] S = some (.d (.bool true), S) := fun S => by
    rw [e_alike]
    exact alike_ok (niceList (niceCons hnw (niceCons hnl niceNil))) (by decide) (by decide) (by decide) S
  have hne : ∀ S, eqA true (.d (.str w.shown)) (.d (.str w.shown)) S = some (.d (.bool false), S) := fun S => by simp [eqA]
  have hlen : ∀ S, (vIf (tOf (mBin (isND false) (mVar 15) (mC .none))) (mC .none) (mBin subD (mCall lenD (mCons (mVar 15) (mNil))) (mC (.int 1)))) (lwE b (j + 1) one t x0 x2 x5 x6 x7 bs lst (some (.d (.list (bt.map tI)))) (some (.d w)) (some (.d (.list [wayO r, lenO dO]))) (some (.d (wayO r))) (some (.d (.str w.shown))) x17) S = some (.d (lenO dO), S) := fun S => by
    cases hr : r with
    | none =>
      have : dO = none := by rw [hdO, hr]; rfl
      simp only [vIf, tOf, mBin, mC, mVar, List.getElem?_cons_succ, List.getElem?_cons_zero, Option.bind_some, isN_way, Option.isNone_none, Bool.xor_false, if_true, this, lenO]
    | some p =>
      obtain ⟨n, _, q2, _, q4, _⟩ := hway p hr
      have : dO = some n := by rw [hdO, hr]; simp [q4]
      simp only [vIf, tOf, mBin, mC, mVar, mCall, mCons, mNil, List.getElem?_cons_succ, List.getElem?_cons_zero, Option.bind_some, isN_way, Option.isNone_some, Bool.xor_false, Bool.false_eq_true, if_false, len_way, ev_sub, this, lenO, q4]
      congr 4
      omega
  obtain ⟨ρ5, hρ5⟩ : ∃ ρ5, lwE b (j + 1) one t x0 x2 x5 x6 x7 bs lst (some (.d (.list (bt.map tI)))) (some (.d w)) (some (.d (.list [wayO r, lenO dO]))) (some (.d (wayO r))) (some (.d (.str w.shown))) x17 = ρ5 := ⟨_, rfl⟩
  have s5 : tOrD (tNotD (tTru (mCall (callF f_l_alike) (mCons (mVar 14) (mCons (mCall lstF (mCons (mVar 15) (mCons (vIf (tOf (mBin (isND false) (mVar 15) (mC .none))) (mC .none) (mBin subD (mCall lenD (mCons (mVar 15) (mNil))) (mC (.int 1)))) (mNil)))) (mNil)))))) (tOf (mBin (eqA true) (mCall reprD (mCons (mVar 13) (mNil))) (mVar 16))) ρ5 (ob2 :: R) = some (false, ob2 :: R) := by
    have k13 : mVar 13 ρ5 (ob2 :: R) = some (.d w, ob2 :: R) := by rw [← hρ5]; rfl
    have k14 : mVar 14 ρ5 (ob2 :: R) = some (.d (.list [wayO r, lenO dO]), ob2 :: R) := by rw [← hρ5]; rfl
    have k15 : mVar 15 ρ5 (ob2 :: R) = some (.d (wayO r), ob2 :: R) := by rw [← hρ5]; rfl
    have k16 : mVar 16 ρ5 (ob2 :: R) = some (.d (.str w.shown), ob2 :: R) := by rw [← hρ5]; rfl
    have hlen' := hlen (ob2 :: R)
    rw [hρ5] at hlen'
    have hL2 : mCall lstF (mCons (mVar 15) (mCons (vIf (tOf (mBin (isND false) (mVar 15) (mC .none))) (mC .none) (mBin subD (mCall lenD (mCons (mVar 15) (mNil))) (mC (.int 1)))) (mNil))) ρ5 (ob2 :: R) = some (.d (.list [wayO r, lenO dO]), ob2 :: R) := by
      rw [mCall, mCons, k15, Option.bind_some, mCons, hlen']
      simp only [Option.bind_some, mNil, lstF, allD, Option.map_some, List.length_cons, List.length_nil]
      rw [if_pos (show 0 + 1 + 1 ≤ sizeLine from sz2)]
    have hA : mCall (callF f_l_alike) (mCons (mVar 14) (mCons (mCall lstF (mCons (mVar 15) (mCons (vIf (tOf (mBin (isND false) (mVar 15) (mC .none))) (mC .none) (mBin subD (mCall lenD (mCons (mVar 15) (mNil))) (mC (.int 1)))) (mNil)))) (mNil))) ρ5 (ob2 :: R) = some (.d (.bool true), ob2 :: R) := by
      rw [mCall, mCons, k14, Option.bind_some, mCons, hL2]
      simp only [Option.bind_some, mNil, hal]
    have hB : tOf (mBin (eqA true) (mCall reprD (mCons (mVar 13) (mNil))) (mVar 16)) ρ5 (ob2 :: R) = some (false, ob2 :: R) := by
      rw [tOf, mBin, mCall, mCons, k13]
      simp only [Option.bind_some, mNil, hrep, k16, hne]
    simp only [tOrD, tNotD, tTru, hA, Option.bind_some, truD, Bool.not_true, Bool.false_eq_true, if_false, hB]
  -- not longer than the last
  have s6 : tAndD (tOf (mBin (isND true) (mVar 11) (mC .none))) (tOrD (tOf (mBin (isND false) (mVar 15) (mC .none))) (tOf (mBin gtD (mCall lenD (mCons (mVar 15) (mNil))) (mVar 11)))) ρ5 (ob2 :: R) = some (false, ob2 :: R) := by
    have k11 : mVar 11 ρ5 (ob2 :: R) = some (.d (lenO lst), ob2 :: R) := by rw [← hρ5]; rfl
    have k15 : mVar 15 ρ5 (ob2 :: R) = some (.d (wayO r), ob2 :: R) := by rw [← hρ5]; rfl
    have hA : tOf (mBin (isND true) (mVar 11) (mC .none)) ρ5 (ob2 :: R) = some (lst.isSome, ob2 :: R) := by
      rw [tOf, mBin, k11]
      simp only [Option.bind_some, mC, isN_len]
    rw [tAndD, hA]
    cases hls : lst with
    | none => rfl
    | some l =>
      obtain ⟨n0, hd, hnl0⟩ := hL l hls
      obtain ⟨m, hm, im⟩ := least n0 hd
      obtain ⟨e5, hm7⟩ := hr1 m im
      have hB : tOf (mBin (isND false) (mVar 15) (mC .none)) ρ5 (ob2 :: R) = some (false, ob2 :: R) := by
        rw [tOf, mBin, k15]
        simp only [Option.bind_some, mC, isN_way, e5, Option.isNone_some, Bool.xor_false]
      have hC : tOf (mBin gtD (mCall lenD (mCons (mVar 15) (mNil))) (mVar 11)) ρ5 (ob2 :: R) = some (false, ob2 :: R) := by
        rw [tOf, mBin, mCall, mCons, k15]
        simp only [Option.bind_some, mNil, e5, len_way, k11, hls, lenO, ev_gt, gp_len im]
        rw [decide_eq_false (by omega)]
      simp only [Option.bind_some, Option.isSome_some, if_true, tOrD, hB, Bool.false_eq_true, if_false, hC]
  have hdrop : ∀ (S : Sto), sliceD (.d (.list (bs.map tI))) (some 1) none S = some (.d (.list ((bs.drop 1).map tI)), S) := fun S => by
    have := cut_drop (bs.map tI) 1
    simp only [sliceD, List.map_drop]
    rw [show (1 : Int) = ((1 : Nat) : Int) from rfl, this]
  have s8 : ∀ (l' : Option Nat) (S : Sto) (x17 : Option W), sAsg (mSl (mVar 10) (oYes (mC (.int 1))) (oNo)) (gSet 10) (lwE b (j + 1) one t x0 x2 x5 x6 x7 bs l' (some (.d (.list (bt.map tI)))) (some (.d w)) (some (.d (.list [wayO r, lenO dO]))) (some (.d (wayO r))) (some (.d (.str w.shown))) x17) S = some (.nx, lwE b (j + 1) one t x0 x2 x5 x6 x7 (bs.drop 1) l' (some (.d (.list (bt.map tI)))) (some (.d w)) (some (.d (.list [wayO r, lenO dO]))) (some (.d (wayO r))) (some (.d (.str w.shown))) x17, S) := fun l' S x17 => by
    simp only [sAsg, mSl, oNo, oYes, mC, mVar, List.getElem?_cons_succ, List.getElem?_cons_zero, Option.bind_some, hdrop]
    simp [gSet]
  have hsub : ∀ x ∈ bs.drop 1, x ∈ bs := fun x hx => List.mem_of_mem_drop hx
  have body : L_law_1 (lwE b (j + 1) one t x0 x2 x5 x6 x7 bs lst x12 x13 x14 x15 x16 x17) (ob :: R) = (sSeq (sIf (tOf (mBin (isND true) (mVar 15) (mC .none))) (sSeq (sPar 11 17 (mCons (mCall lenD (mCons (mVar 15) (mNil))) (mCons (mCall (callF f_l_take) (mCons (mVar 1) (mCons (mCall lenD (mCons (mVar 15) (mNil))) (mNil)))) mNil)))
    (sIf (tNotD (tTru (mCall (callF f_l_alike) (mCons (mCall (callF f_shortest_way) (mCons (mVar 3) (mCons (mBin idxD (mVar 15) (mVar 17)) (mCons (mVar 9) (mCons (mVar 13) (mNil)))))) (mCons (mSl (mVar 15) (oYes (mVar 17)) (oNo)) (mNil)))))) (sRet (mC (.bool false))) (sNil))) (sNil))
    (sAsg (mSl (mVar 10) (oYes (mC (.int 1))) (oNo)) (gSet 10))) ρ5 (ob2 :: R) := by
    unfold L_law_1
    rw [seq_nx s1, seq_nx s2, seq_nx s3, seq_nx s4, hρ5]
    rw [seq_nx ((if_f (G := sNil) s5).trans rfl), seq_nx ((if_f (G := sNil) s6).trans rfl)]
  have k15 : ∀ S, mVar 15 ρ5 S = some (.d (wayO r), S) := fun S => by rw [← hρ5]; rfl
  have hT7 : tOf (mBin (isND true) (mVar 15) (mC .none)) ρ5 (ob2 :: R) = some (r.isSome, ob2 :: R) := by
    rw [tOf, mBin, k15]
    simp only [Option.bind_some, mC, isN_way]
    cases r <;> rfl
  rw [body]
  cases hr : r with
  | none =>
    rw [hr] at hT7
    rw [seq_nx ((if_f (G := sNil) hT7).trans rfl), ← hρ5]
    exact ⟨lst, ob2, _, _, _, _, _, _, s8 _ _ _, hb2.up (by omega), hL.less hsub⟩
  | some p =>
    obtain ⟨n, hn, hn7, hpp, hpl, hpf⟩ := hway p hr
    rw [hr] at hT7
    obtain ⟨kI, ob3, e6, k0, k1, hb3⟩ := take_ok (S := ob2 :: R) (n := 0) (upto := p.length) rfl hb2 (by omega) (by omega) (by
      have : ((p.length : Nat) : Int).natAbs.log2 ≤ 14 := lg_le (by simp; omega)
      omega)
    simp only [List.set_cons_zero] at e6
    obtain ⟨k, rfl⟩ := Int.eq_ofNat_of_zero_le k0
    obtain ⟨y, hy, hdy, hdr, _⟩ := gp_at hn (show k ≤ n by omega)
    have hyf : Fits y b := hpf y (by rw [hpp]; exact List.mem_of_getElem? hy)
    have hsw : ∀ S, callF f_shortest_way [.d (bn b), .d (tI y), .d (tI t), .d w] S = some (.d (.tuple ((gp (adjC b) t (bB bs) (n - k) y).map tI)), S) := fun S => by
      obtain ⟨q1, _⟩ := shortest_ok (S := S) g hyf ht hH (by omega)
      rw [hbB] at q1
      exact q1 _ hdy (by omega)
    have hix : ∀ S, idxD (.d (wayO r)) (.d (.int (k : Nat))) S = some (.d (tI y), S) := fun S => by
      rw [hr]
      have : atI (p.map tI) (k : Int) = some (tI y) := atI_nat (by rw [List.getElem?_map, hpp, hy]; rfl)
      simp only [wayO, idxD, this, Option.map_some]
    have hsl : ∀ S, sliceD (.d (wayO r)) (some (k : Int)) none S = some (.d (.tuple ((gp (adjC b) t (bB bs) (n - k) y).map tI)), S) := fun S => by
      rw [hr]
      simp only [wayO, sliceD, cut_drop]
      rw [← List.map_drop, hpp, hdr]
    have hal2 : ∀ S, callF f_l_alike [.d (.tuple ((gp (adjC b) t (bB bs) (n - k) y).map tI)), .d (.tuple ((gp (adjC b) t (bB bs) (n - k) y).map tI))] S = some (.d (.bool true), S) := fun S => by
      rw [e_alike]
      have hnw2 : Nice 8 310000 2 (wayO (some (gp (adjC b) t (bB bs) (n - k) y))) := nice_way g fun q hq => by
        cases hq
        refine ⟨by rw [gp_len hdy]; omega, fun x hx => ?_⟩
        rw [← hdr] at hx
        exact hpf x (by rw [hpp]; exact List.mem_of_mem_drop hx)
      exact alike_ok hnw2 (by decide) (by decide) (by decide) S
    have hlw : ∀ S, lenD [.d (wayO r)] S = some (.d (.int p.length), S) := fun S => by rw [hr]; exact len_way
    obtain ⟨ρ7, hρ7⟩ : ∃ ρ7, lwE b (j + 1) one t x0 x2 x5 x6 x7 bs (some p.length) (some (.d (.list (bt.map tI)))) (some (.d w)) (some (.d (.list [wayO r, lenO dO]))) (some (.d (wayO r))) (some (.d (.str w.shown))) (some (.d (.int (k : Nat)))) = ρ7 := ⟨_, rfl⟩
    have s7 : sPar 11 17 (mCons (mCall lenD (mCons (mVar 15) (mNil))) (mCons (mCall (callF f_l_take) (mCons (mVar 1) (mCons (mCall lenD (mCons (mVar 15) (mNil))) (mNil)))) mNil)) ρ5 (ob2 :: R) = some (.nx, ρ7, ob3 :: R) := by
      rw [← hρ5, ← hρ7]
      simp only [sPar, mCall, mCons, mNil, mVar, List.getElem?_cons_succ, List.getElem?_cons_zero, Option.bind_some, hlw, e_take, e6]
      simp [lenO]
    have s9 : tNotD (tTru (mCall (callF f_l_alike) (mCons (mCall (callF f_shortest_way) (mCons (mVar 3) (mCons (mBin idxD (mVar 15) (mVar 17)) (mCons (mVar 9) (mCons (mVar 13) (mNil)))))) (mCons (mSl (mVar 15) (oYes (mVar 17)) (oNo)) (mNil))))) ρ7 (ob3 :: R) = some (false, ob3 :: R) := by
      rw [← hρ7]
      simp only [tNotD, tTru, mCall, mCons, mNil, mBin, mSl, oYes, oNo, mVar, List.getElem?_cons_succ, List.getElem?_cons_zero, Option.bind_some, hix, hsw, hsl, hal2, truD, Bool.not_true]
    rw [seq_nx ((if_t hT7).trans ((seq_nx s7).trans ((if_f (G := sNil) s9).trans rfl))), ← hρ7]
    refine ⟨some p.length, ob3, _, _, _, _, _, _, s8 _ _ _, hb3.up (by omega), ?_⟩
    have : Last b t bs one (some p.length) := fun l hl => ⟨n, hn.is, by cases hl; omega⟩
    exact this.less hsub
end
end K17
end
/-! the law -/
noncomputable section
namespace K17
open PySem PySem.Spec PyProof.Rows L2 DL
section
variable {b : List Pl}
theorem cs_fits {x : List Int} (h : x ∈ sortL (conts b)) : Fits x b := inV.mp ((sortL_perm _).subset h)
theorem cs_len : (sortL (conts b)).length = (conts b).length := (sortL_perm _).length_eq
theorem conts_ne (g : Good b) : (sortL (conts b)).map tI ≠ [] := by
  intro h
  have h1 := congrArg List.length h
  rw [List.length_map, cs_len, List.length_nil] at h1
  have h2 : conts b = [] := List.length_eq_zero_iff.mp h1
  have : ∀ l : List Pl, (∀ p ∈ l, 2 ≤ p.1) → ∃ c, Fits c l := by
    intro l
    induction l with
    | nil => exact fun _ => ⟨[], trivial⟩
    | cons p l ih =>
      intro h
      obtain ⟨c, hc⟩ := ih fun q hq => h q (by simp [hq])
      have := h p (by simp)
      exact ⟨0 :: c, ⟨⟨by omega, by omega⟩, hc⟩⟩
  obtain ⟨c, hc⟩ := this b fun p hp => (g.pl p hp).lo
  have := inV.mpr hc
  rw [h2] at this; cases this
/-- one question -/
theorem law2_step {c j : Nat} {ob : Ob} {R : Sto} {x0 x2 x6 x7 x8 x9 x10 x11 x12 x13 x14 x15 x16 x17 : Option W} (g : Good b) (hR : R[j]? = some (graO b)) (hb : BagOk c ob) (hc : c + 100000 < 2 ^ 1000) :
    ∃ ob' y7 y8 y9 y10 y11 y12 y13 y14 y15 y16 y17, L_law_2 [x0, some (.loc 0), x2, some (.d (bn b)), some (.loc (j + 1)), some (.d (.list ((sortL (conts b)).map tI))), x6, x7, x8, x9, x10, x11, x12, x13, x14, x15, x16, x17] (ob :: R) = some (.nx, [x0, some (.loc 0), x2, some (.d (bn b)), some (.loc (j + 1)), some (.d (.list ((sortL (conts b)).map tI))), x6, y7, y8, y9, y10, y11, y12, y13, y14, y15, y16, y17], ob' :: R) ∧ BagOk (c + 20000) ob' := by
  have hcl := g.clen
  have hsl : ((sortL (conts b)).map tI).length ≤ sizeLine := by rw [List.length_map, cs_len]; exact sz_of (by omega)
  obtain ⟨o1, ho1, ob1, e1, hb1⟩ := some_ok (S := ob :: R) (n := 0) (xs := (sortL (conts b)).map tI) rfl hb (by omega) (conts_ne g) hsl
  obtain ⟨one, hone, rfl⟩ := List.mem_map.mp ho1
  obtain ⟨o2, ho2, ob2, e2, hb2⟩ := some_ok (S := ob1 :: R) (n := 0) (xs := (sortL (conts b)).map tI) rfl hb1 (by omega) (conts_ne g) hsl
  obtain ⟨t, htt, rfl⟩ := List.mem_map.mp ho2
  have h1 := cs_fits hone
  have ht := cs_fits htt
  obtain ⟨bs0, ob3, e3, hbs0, hbl0, hb3⟩ := drawn_ok (S := ob2 :: R) (n := 0) (cs := sortL (conts b)) rfl hb2 (by rw [cs_len]; omega) (by rw [cs_len]; omega)
  rw [cs_len] at hbl0 hb3
  obtain ⟨v, ob4, e4, v0, v1, hb4⟩ := take_ok (S := ob3 :: R) (n := 0) (upto := 3) rfl hb3 (by omega) (by decide) (by decide)
  obtain ⟨u, ob5, e5, u0, u1, hb5⟩ := take_ok (S := ob4 :: R) (n := 0) (upto := 3) rfl hb4 (by omega) (by decide) (by decide)
  obtain ⟨k, rfl⟩ := Int.eq_ofNat_of_zero_le u0
  simp only [List.set_cons_zero, Int.ofNat_eq_natCast] at e1 e2 e3 e4 e5
  obtain ⟨r, e6, hr1, hr2⟩ := least_ok (b := b) (one := one) (t := t) (bs := []) (n := j + 1) (S := ob4 :: R) g h1 (by simpa using hR)
  have hway : ∀ p, r = some p → p ≠ [] ∧ p.length ≤ 10000 ∧ ∀ x ∈ p, Fits x b := fun p hp => by
    by_cases hex : ∃ n, IsD (adjC b) t (bB []) n one
    · obtain ⟨n, hn⟩ := hex
      obtain ⟨e5, hn7⟩ := hr1 n hn
      have hpp : p = gp (adjC b) t (bB []) n one := by rw [e5] at hp; exact (Option.some.inj hp).symm
      have hl := gp_len hn
      refine ⟨fun z => (by rw [← hpp, z] at hl; cases hl), by rw [hpp, hl]; omega, fun x hx => ?_⟩
      rw [hpp] at hx
      exact inV.mp (gp_mem (V := fun z => z ∈ conts b) (fun x hx y hy => inV.mpr (adj_fits g (inV.mp hx) hy)) hn (inV.mpr h1) x hx)
    · have hno : ∀ n, ¬ IsD (adjC b) t (bB []) n one := fun n hn => hex ⟨n, hn⟩
      rw [hr2 hno] at hp; cases hp
  -- what is barred
  obtain ⟨bs, ob6, s3, hbs, hbl, hb6⟩ : ∃ (bs : List (List Int)) (ob6 : Ob), sIf (tOf (mBin (eqA false) (mCall (callF f_l_take) (mCons (mVar 1) (mCons (mC (.int 3)) (mNil)))) (mC (.int 0)))) (sAsg (mSl (mCall listD (mCons (vOrT (mCall (callF f_l_least_way) (mCons (mVar 4) (mCons (mVar 8) (mCons (mVar 9) (mCons (mCall lstF (mNil)) (mNil)))))) (mCall lstF (mNil))) (mNil))) (oYes (mCall (callF f_l_take) (mCons (mVar 1) (mCons (mC (.int 3)) (mNil))))) (oNo)) (gSet 10)) (sNil) (lwE b (j + 1) one t x0 x2 (some (.d (.list ((sortL (conts b)).map tI)))) x6 x7 bs0 none x12 x13 x14 x15 x16 x17) (ob3 :: R) = some (.nx, lwE b (j + 1) one t x0 x2 (some (.d (.list ((sortL (conts b)).map tI)))) x6 x7 bs none x12 x13 x14 x15 x16 x17, ob6 :: R) ∧ (∀ x ∈ bs, Fits x b) ∧ bs.length ≤ 10000 ∧ BagOk (c + 17000) ob6 := by
    have hv : ∀ S, eqA false (.d (.int v)) (.d (.int 0)) S = some (.d (.bool (decide (v = 0))), S) := fun S => ev_eq
    have hT : tOf (mBin (eqA false) (mCall (callF f_l_take) (mCons (mVar 1) (mCons (mC (.int 3)) (mNil)))) (mC (.int 0))) (lwE b (j + 1) one t x0 x2 (some (.d (.list ((sortL (conts b)).map tI)))) x6 x7 bs0 none x12 x13 x14 x15 x16 x17) (ob3 :: R) = some (decide (v = 0), ob4 :: R) := by
      simp only [tOf, mBin, mCall, mCons, mNil, mC, mVar, List.getElem?_cons_succ, List.getElem?_cons_zero, Option.bind_some, e_take, e4, hv]
    by_cases z : v = 0
    · obtain ⟨q, hq⟩ : ∃ q : List (List Int), q = r.getD [] := ⟨_, rfl⟩
      have hqp : q.length ≤ 10000 ∧ ∀ x ∈ q, Fits x b := by
        cases hr : r with
        | none => rw [hq, hr]; exact ⟨Nat.zero_le _, fun x hx => by simp at hx⟩
        | some p => rw [hq, hr]; exact (hway p hr).2
      have hlst : ∀ ρ S, mCall lstF mNil ρ S = some (.d (.list []), S) := fun ρ S => by
        simp only [mCall, mNil, lstF, allD, Option.map_some, Option.bind_some, List.length_nil]
        rw [if_pos (Nat.zero_le _)]
      have hor : mCall listD (mCons (vOrT (mCall (callF f_l_least_way) (mCons (mVar 4) (mCons (mVar 8) (mCons (mVar 9) (mCons (mCall lstF (mNil)) (mNil)))))) (mCall lstF (mNil))) (mNil)) (lwE b (j + 1) one t x0 x2 (some (.d (.list ((sortL (conts b)).map tI)))) x6 x7 bs0 none x12 x13 x14 x15 x16 x17) (ob4 :: R) = some (.d (.list (q.map tI)), ob4 :: R) := by
        have e6' : callF f_l_least_way [.loc (j + 1), .d (tI one), .d (tI t), .d (.list [])] (ob4 :: R) = some (.d (wayO r), ob4 :: R) := e6
        have hcall : mCall (callF f_l_least_way) (mCons (mVar 4) (mCons (mVar 8) (mCons (mVar 9) (mCons (mCall lstF (mNil)) (mNil))))) (lwE b (j + 1) one t x0 x2 (some (.d (.list ((sortL (conts b)).map tI)))) x6 x7 bs0 none x12 x13 x14 x15 x16 x17) (ob4 :: R) = some (.d (wayO r), ob4 :: R) := by
          rw [mCall]
          simp only [mCons, mVar, List.getElem?_cons_succ, List.getElem?_cons_zero, Option.bind_some, hlst, mNil, e6']
        rw [mCall, mCons, vOrT, hcall]
        cases hr : r with
        | none =>
          have : q = [] := by rw [hq, hr]; rfl
          subst this
          simp only [Option.bind_some, wayO, truD, Bool.false_eq_true, if_false, hlst, mNil, listD, on1, seqOf, deref, Option.map_some]
          rfl
        | some p =>
          have : q = p := by rw [hq, hr]; rfl
          subst this
          have hne : (q.map tI).isEmpty = false := by
            have := (hway q hr).1
            cases q with
            | nil => exact absurd rfl this
            | cons x l => rfl
          simp only [Option.bind_some, wayO, truD, hne, Bool.not_false, if_true, mNil, listD, on1, seqOf, deref, Option.map_some]
      refine ⟨q.drop k, ob5, ?_, fun x hx => hqp.2 x (List.mem_of_mem_drop hx), by rw [List.length_drop]; omega, hb5.up (by omega)⟩
      rw [sIf, hT, decide_eq_true z]
      have hdr : ∀ S, sliceD (.d (.list (q.map tI))) (some (k : Int)) none S = some (.d (.list ((q.drop k).map tI)), S) := fun S => by
        simp only [sliceD, cut_drop, List.map_drop]
      simp only [Option.bind_some, if_true]
      rw [sAsg, mSl, hor]
      simp only [Option.bind_some, oYes, oNo, mCall, mCons, mNil, mC, mVar, List.getElem?_cons_succ, List.getElem?_cons_zero, e_take, e5, hdr]
      simp [gSet]
    · refine ⟨bs0, ob4, ?_, fun x hx => cs_fits (hbs0 x hx), by omega, hb4.up (by omega)⟩
      rw [sIf, hT, decide_eq_false z]
      rfl
  obtain ⟨ρ', S', e, bs', lst', ob', y7, y12, y13, y14, y15, y16, y17, rfl, rfl, hb', _, _, _⟩ := forL_rng (g := gSet 7) (F := L_law_1) (lo := 0) (n := 4)
    (J := fun i ρ S => ∃ bs lst ob' y7 y12 y13 y14 y15 y16 y17, ρ = lwE b (j + 1) one t x0 x2 (some (.d (.list ((sortL (conts b)).map tI)))) x6 y7 bs lst y12 y13 y14 y15 y16 y17 ∧ S = ob' :: R ∧ BagOk (c + 17000 + 3 * i) ob' ∧ (∀ x ∈ bs, Fits x b) ∧ bs.length ≤ 10000 ∧ Last b t bs one lst)
    (ρ := lwE b (j + 1) one t x0 x2 (some (.d (.list ((sortL (conts b)).map tI)))) x6 x7 bs none x12 x13 x14 x15 x16 x17) (S := ob6 :: R) (fun i ρ S hi ⟨bs, lst, ob', y7, y12, y13, y14, y15, y16, y17, q1, q2, q3, q4, q5, q6⟩ => by
      subst q1 q2
      obtain ⟨lst2, ob2, w12, w13, w14, w15, w16, w17, e7, hb7, hL7⟩ := law1_step (x0 := x0) (x2 := x2) (x5 := some (.d (.list ((sortL (conts b)).map tI)))) (x6 := x6) (x7 := some (.d (.int (0 + (i : Int))))) (x12 := y12) (x13 := y13) (x14 := y14) (x15 := y15) (x16 := y16) (x17 := y17) g h1 ht hR q3 (by omega) q4 q5 q6
      exact ⟨_, _, Eq.trans (by simp [gSet]) e7, _, _, _, _, _, _, _, _, _, _, rfl, rfl, hb7.up (by omega), fun x hx => q4 x (List.mem_of_mem_drop hx), by rw [List.length_drop]; omega, hL7⟩) ⟨bs, none, ob6, _, _, _, _, _, _, _, rfl, rfl, hb6, hbs, hbl, fun l hl => by cases hl⟩
  refine ⟨ob', y7, some (.d (tI one)), some (.d (tI t)), some (.d (.list (bs'.map tI))), some (.d (lenO lst')), y12, y13, y14, y15, y16, y17, ?_, hb'.up (by omega)⟩
  unfold L_law_2
  rw [seq_nx (ρ1 := [x0, some (.loc 0), x2, some (.d (bn b)), some (.loc (j + 1)), some (.d (.list ((sortL (conts b)).map tI))), x6, x7, some (.d (tI one)), some (.d (tI t)), x10, x11, x12, x13, x14, x15, x16, x17]) (S1 := ob2 :: R) (by
    simp only [sPar, mCall, mCons, mNil, mVar, List.getElem?_cons_succ, List.getElem?_cons_zero, Option.bind_some, e_some, e1, e2]
    simp)]
  rw [seq_nx (ρ1 := lwE b (j + 1) one t x0 x2 (some (.d (.list ((sortL (conts b)).map tI)))) x6 x7 bs0 none x12 x13 x14 x15 x16 x17) (S1 := ob3 :: R) (by
    simp only [sPar, mCall, mCons, mNil, mC, mVar, List.getElem?_cons_succ, List.getElem?_cons_zero, Option.bind_some, e3]
    simp [lenO])]
  rw [seq_nx s3]
  have hr4 := fun S => rng1_ok (n := 4) (S := S) (by decide)
  rw [sFor, iRng1D_eq]
  simp only [mCons, mNil, mC, Option.bind_some]
  rw [show rng1D [.d (.int 4)] (ob6 :: R) = some (rngD 0 4, ob6 :: R) from hr4 _]
  simp only [Option.bind_some]
  exact e
/-- one bench -/
theorem law3_step {c : Nat} {ob : Ob} {R : Sto} {x0 x2 x3 x4 x5 x6 x7 x8 x9 x10 x11 x12 x13 x14 x15 x16 x17 : Option W} (hb : BagOk c ob) (hc : c + 300000 < 2 ^ 1000) :
    ∃ R' ob' y3 y4 y5 y6 y7 y8 y9 y10 y11 y12 y13 y14 y15 y16 y17, L_law_3 [x0, some (.loc 0), x2, x3, x4, x5, x6, x7, x8, x9, x10, x11, x12, x13, x14, x15, x16, x17] (ob :: R) = some (.nx, [x0, some (.loc 0), x2, y3, y4, y5, y6, y7, y8, y9, y10, y11, y12, y13, y14, y15, y16, y17], ob' :: R') ∧ BagOk (c + 150000) ob' := by
  obtain ⟨b, ob1, e1, g, hb1⟩ := bench_ok (S := ob :: R) (n := 0) rfl hb (by omega)
  simp only [List.set_cons_zero] at e1
  have e2 := graph_ok g (ob1 :: R)
  have hR : (R ++ [graO b])[R.length]? = some (graO b) := by simp
  have hS : (ob1 :: (R ++ [graO b]))[R.length + 1]? = some (graO b) := by simp
  have e3 := gra_sorted g hS
  obtain ⟨ρ', S', e, ob', y6, y7, y8, y9, y10, y11, y12, y13, y14, y15, y16, y17, rfl, rfl, hb'⟩ := forL_rng (g := gSet 6) (F := L_law_2) (lo := 0) (n := 5)
    (J := fun i ρ S => ∃ ob' y6 y7 y8 y9 y10 y11 y12 y13 y14 y15 y16 y17, ρ = [x0, some (.loc 0), x2, some (.d (bn b)), some (.loc (R.length + 1)), some (.d (.list ((sortL (conts b)).map tI))), y6, y7, y8, y9, y10, y11, y12, y13, y14, y15, y16, y17] ∧ S = ob' :: (R ++ [graO b]) ∧ BagOk (c + 400 + 20000 * i) ob')
    (ρ := [x0, some (.loc 0), x2, some (.d (bn b)), some (.loc (R.length + 1)), some (.d (.list ((sortL (conts b)).map tI))), x6, x7, x8, x9, x10, x11, x12, x13, x14, x15, x16, x17]) (S := ob1 :: (R ++ [graO b])) (fun i ρ S hi ⟨ob', y6, y7, y8, y9, y10, y11, y12, y13, y14, y15, y16, y17, q1, q2, q3⟩ => by
      subst q1 q2
      obtain ⟨ob2, w7, w8, w9, w10, w11, w12, w13, w14, w15, w16, w17, e7, hb7⟩ := law2_step (x0 := x0) (x2 := x2) (x6 := some (.d (.int (0 + (i : Int))))) (x7 := y7) (x8 := y8) (x9 := y9) (x10 := y10) (x11 := y11) (x12 := y12) (x13 := y13) (x14 := y14) (x15 := y15) (x16 := y16) (x17 := y17) g hR q3 (by omega)
      exact ⟨_, _, Eq.trans (by simp [gSet]) e7, _, _, _, _, _, _, _, _, _, _, _, _, _, rfl, rfl, hb7.up (by omega)⟩) ⟨ob1, _, _, _, _, _, _, _, _, _, _, _, _, rfl, rfl, hb1⟩
  refine ⟨R ++ [graO b], ob', some (.d (bn b)), some (.loc (R.length + 1)), some (.d (.list ((sortL (conts b)).map tI))), y6, y7, y8, y9, y10, y11, y12, y13, y14, y15, y16, y17, ?_, hb'.up (by omega)⟩
  unfold L_law_3
  rw [seq_nx (ρ1 := [x0, some (.loc 0), x2, some (.d (bn b)), x4, x5, x6, x7, x8, x9, x10, x11, x12, x13, x14, x15, x16, x17]) (S1 := ob1 :: R) (by
    simp only [sAsg, mCall, mCons, mNil, mC, mVar, List.getElem?_cons_succ, List.getElem?_cons_zero, Option.bind_some, e1]
    simp [gSet])]
  rw [seq_nx (ρ1 := [x0, some (.loc 0), x2, some (.d (bn b)), some (.loc (R.length + 1)), x5, x6, x7, x8, x9, x10, x11, x12, x13, x14, x15, x16, x17]) (S1 := ob1 :: (R ++ [graO b])) (by
    simp only [sAsg, mCall, mCons, mNil, mC, mVar, List.getElem?_cons_succ, List.getElem?_cons_zero, Option.bind_some, e2]
    simp [gSet])]
  rw [seq_nx (ρ1 := [x0, some (.loc 0), x2, some (.d (bn b)), some (.loc (R.length + 1)), some (.d (.list ((sortL (conts b)).map tI))), x6, x7, x8, x9, x10, x11, x12, x13, x14, x15, x16, x17]) (S1 := ob1 :: (R ++ [graO b])) (by
    simp only [sAsg, mCall, mCons, mNil, mC, mVar, List.getElem?_cons_succ, List.getElem?_cons_zero, Option.bind_some, e3]
    simp [gSet])]
  have hr5 := fun S => rng1_ok (n := 5) (S := S) (by decide)
  rw [sFor, iRng1D_eq]
  simp only [mCons, mNil, mC, Option.bind_some]
  rw [show rng1D [.d (.int 5)] (ob1 :: (R ++ [graO b])) = some (rngD 0 5, ob1 :: (R ++ [graO b])) from hr5 _]
  simp only [Option.bind_some]
  exact e
end
theorem law_true : ∀ ns : List Int, ns.length ≤ 63 → f_law [.d (.list (ns.map .int))] [] = some (.d (.bool true), []) := by
  intro ns _
  have hK : 1000000 < 2 ^ 1000 := Nat.lt_of_lt_of_le (by decide : 1000000 < 2 ^ 20) (Nat.pow_le_pow_right (by decide) (by decide))
  refine runF_ret0 ?_
  obtain ⟨sc, hsc⟩ : ∃ sc, PyData.list (ns.map PyData.int) = sc := ⟨_, rfl⟩
  obtain ⟨ob0, e0, hb0⟩ := bag_ok ns []
  rw [hsc] at e0
  show ∃ ρ' S', b_law [some (.d (.list (ns.map .int))), none, none, none, none, none, none, none, none, none, none, none, none, none, none, none, none, none] [] = _
  rw [hsc]
  obtain ⟨ρ', S', e, R, ob', y2, y3, y4, y5, y6, y7, y8, y9, y10, y11, y12, y13, y14, y15, y16, y17, rfl, rfl, hb'⟩ := forL_rng (g := gSet 2) (F := L_law_3) (lo := 0) (n := 3)
    (J := fun i ρ S => ∃ R ob' y2 y3 y4 y5 y6 y7 y8 y9 y10 y11 y12 y13 y14 y15 y16 y17, ρ = [some (.d sc), some (.loc 0), y2, y3, y4, y5, y6, y7, y8, y9, y10, y11, y12, y13, y14, y15, y16, y17] ∧ S = ob' :: R ∧ BagOk (150000 * i) ob')
    (ρ := [some (.d sc), some (.loc 0), none, none, none, none, none, none, none, none, none, none, none, none, none, none, none, none]) (S := [ob0]) (fun i ρ S hi ⟨R, ob', y2, y3, y4, y5, y6, y7, y8, y9, y10, y11, y12, y13, y14, y15, y16, y17, q1, q2, q3⟩ => by
      subst q1 q2
      obtain ⟨R2, ob2, w3, w4, w5, w6, w7, w8, w9, w10, w11, w12, w13, w14, w15, w16, w17, e7, hb7⟩ := law3_step (R := R) (x0 := some (.d sc)) (x2 := some (.d (.int (0 + (i : Int))))) (x3 := y3) (x4 := y4) (x5 := y5) (x6 := y6) (x7 := y7) (x8 := y8) (x9 := y9) (x10 := y10) (x11 := y11) (x12 := y12) (x13 := y13) (x14 := y14) (x15 := y15) (x16 := y16) (x17 := y17) q3 (by omega)
      exact ⟨_, _, Eq.trans (by simp [gSet]) e7, _, _, _, _, _, _, _, _, _, _, _, _, _, _, _, _, _, _, rfl, rfl, hb7.up (by omega)⟩) ⟨[], ob0, _, _, _, _, _, _, _, _, _, _, _, _, _, _, _, _, rfl, rfl, hb0⟩
  refine ⟨[some (.d sc), some (.loc 0), y2, y3, y4, y5, y6, y7, y8, y9, y10, y11, y12, y13, y14, y15, y16, y17], ob' :: R, ?_⟩
  unfold b_law
  rw [seq_nx (ρ1 := [some (.d sc), some (.loc 0), none, none, none, none, none, none, none, none, none, none, none, none, none, none, none, none]) (S1 := [ob0]) (by
    simp only [sAsg, mCall, mCons, mNil, mVar, List.getElem?_cons_zero, Option.bind_some, e_bag, e0]
    simp [gSet])]
  have hr3 := fun S => rng1_ok (n := 3) (S := S) (by decide)
  rw [seq_nx (by
    rw [sFor, iRng1D_eq]
    simp only [mCons, mNil, mC, Option.bind_some]
    rw [show rng1D [.d (.int 3)] [ob0] = some (rngD 0 3, [ob0]) from hr3 _]
    simp only [Option.bind_some]
    exact e)]
  rfl
end K17
end
open PySem PySem.Spec PyProof.Rows L2
theorem PySem.Challenge.cw_onorback_k17_least_of_the_shortest_ways_holds : PySem.Challenge.rw_onorback_k17_least_of_the_shortest_ways.Holds := by
  w_on; o_law; k_head; (case hw => w_witness2)
  k_fill
  refine DL.walkG (x := "_law_script") (l := PySem.Challenge.rw_onorback_k17_least_of_the_shortest_ways) (f := K17.f_law) (k := 5) rfl (by decide) rfl ⟨rfl, by decide, by decide⟩ (fun w h Y => PySem.W.kIn_of Y) ?F ?hf
  case F =>
    intro w mg fa h KX G hmg
    refine' K17.all_mk KX G hmg ?a_steps_from ?l_steps_from ?k_steps_from ?p_steps_from ?a_steps_to ?l_steps_to ?k_steps_to ?p_steps_to ?a_l_bag ?l_l_bag ?k_l_bag ?p_l_bag ?a_l_take ?l_l_take ?k_l_take ?p_l_take ?a_l_alike ?l_l_alike ?k_l_alike ?p_l_alike ?a_l_steps ?l_l_steps ?k_l_steps ?p_l_steps ?a_l_least_way ?l_l_least_way ?k_l_least_way ?p_l_least_way ?a_l_flat ?l_l_flat ?k_l_flat ?p_l_flat ?a_steps_left ?l_steps_left ?k_steps_left ?p_steps_left ?a_l_some ?l_l_some ?k_l_some ?p_l_some ?a_l_mixed ?l_l_mixed ?k_l_mixed ?p_l_mixed ?a_l_contents ?l_l_contents ?k_l_contents ?p_l_contents ?a_shortest_way ?l_shortest_way ?k_shortest_way ?p_shortest_way ?a_distance ?l_distance ?k_distance ?p_distance ?a_l_place ?l_l_place ?k_l_place ?p_l_place ?a_l_graph ?l_l_graph ?k_l_graph ?p_l_graph ?a_l_drawn_contents ?l_l_drawn_contents ?k_l_drawn_contents ?p_l_drawn_contents ?a_l_bench ?l_l_bench ?k_l_bench ?p_l_bench ?a_law ?l_law ?k_law ?p_law ?z_abs ?z_dict ?z_enumerate ?z_int ?z_len ?z_list ?z_min ?z_range ?z_repr ?z_sorted ?z_tuple
    (case a_steps_from => k_is)
    (case l_steps_from => k_is)
    (case k_steps_from => k_is)
    (case p_steps_from => k_is)
    (case a_steps_to => k_is)
    (case l_steps_to => k_is)
    (case k_steps_to => k_is)
    (case p_steps_to => k_is)
    (case a_l_bag => k_is)
    (case l_l_bag => k_is)
    (case k_l_bag => k_is)
    (case p_l_bag => k_is)
    (case a_l_take => k_is)
    (case l_l_take => k_is)
    (case k_l_take => k_is)
    (case p_l_take => k_is)
    (case a_l_alike => k_is)
    (case l_l_alike => k_is)
    (case k_l_alike => k_is)
    (case p_l_alike => k_is)
    (case a_l_steps => k_is)
    (case l_l_steps => k_is)
    (case k_l_steps => k_is)
    (case p_l_steps => k_is)
    (case a_l_least_way => k_is)
    (case l_l_least_way => k_is)
    (case k_l_least_way => k_is)
    (case p_l_least_way => k_is)
    (case a_l_flat => k_is)
    (case l_l_flat => k_is)
    (case k_l_flat => k_is)
    (case p_l_flat => k_is)
    (case a_steps_left => k_is)
    (case l_steps_left => k_is)
    (case k_steps_left => k_is)
    (case p_steps_left => k_is)
    (case a_l_some => k_is)
    (case l_l_some => k_is)
    (case k_l_some => k_is)
    (case p_l_some => k_is)
    (case a_l_mixed => k_is)
    (case l_l_mixed => k_is)
    (case k_l_mixed => k_is)
    (case p_l_mixed => k_is)
    (case a_l_contents => k_is)
    (case l_l_contents => k_is)
    (case k_l_contents => k_is)
    (case p_l_contents => k_is)
    (case a_shortest_way => k_is)
    (case l_shortest_way => k_is)
    (case k_shortest_way => k_is)
    (case p_shortest_way => k_is)
    (case a_distance => k_is)
    (case l_distance => k_is)
    (case k_distance => k_is)
    (case p_distance => k_is)
    (case a_l_place => k_is)
    (case l_l_place => k_is)
    (case k_l_place => k_is)
    (case p_l_place => k_is)
    (case a_l_graph => k_is)
    (case l_l_graph => k_is)
    (case k_l_graph => k_is)
    (case p_l_graph => k_is)
    (case a_l_drawn_contents => k_is)
    (case l_l_drawn_contents => k_is)
    (case k_l_drawn_contents => k_is)
    (case p_l_drawn_contents => k_is)
    (case a_l_bench => k_is)
    (case l_l_bench => k_is)
    (case k_l_bench => k_is)
    (case p_l_bench => k_is)
    (case a_law => k_is)
    (case l_law => k_is)
    (case k_law => k_is)
    (case p_law => k_is)
    (case z_abs => k_is)
    (case z_dict => k_is)
    (case z_enumerate => k_is)
    (case z_int => k_is)
    (case z_len => k_is)
    (case z_list => k_is)
    (case z_min => k_is)
    (case z_range => k_is)
    (case z_repr => k_is)
    (case z_sorted => k_is)
    (case z_tuple => k_is)
  case hf => exact K17.law_true
