import PyProof.Rows.All
import Wide.All
import OpenK.AllK
import Wide.FinOn
import HandS.ForMost
import HandS.Walk
import HandS.Wide
import HandS.TupAny
import HandS.TupMul
import HandS.Deep
import HandS.IsInst
import HandS.Zip
import HandS.RaiseMore
import HandS.More
import HandS.SortOrd
import HandS.Sort
import PyProof.P3Eq
import PyProof.Rows.RowHeap
import HandS.Zip0
import PySem.Challenge.RW_onorback_k75_whole_half_of_the_places
set_option Elab.async false
set_option linter.all false
set_option maxRecDepth 100000
set_option maxHeartbeats 4000000
namespace DL
open PySem PySem.Spec PyProof.Rows L2

/-- a decision that nothing computes -/
noncomputable def gd (p : Prop) : Decidable p := Classical.propDecidable p
/-- a value: data (never changed from now on), or the n-th object of the store -/
inductive W where
  | d (x : PyData)
  | loc (n : Nat)
/-- an object that may change -/
inductive Ob where
  | lst (ws : List W)
  | dicK (kvs : List (Key × W))
  | dicT (kvs : List (List Key × W))
  | dead
abbrev Sto := List Ob
abbrev DEnv := List (Option W)

/-- a list of the written part -/
def WrL (K : PySem.W.Frag) (a : Addr) (xs : List V) : Prop := SqL K (fun _ => none) a xs
def FzL (K : PySem.W.Frag) (H : Hp) (a : Addr) (xs : List V) : Prop := (∃ o, H a = some (.frz o (.lst xs))) ∨ WrL K a xs
theorem FzL.sq {K : PySem.W.Frag} {H : Hp} {a : Addr} {xs : List V} (h : FzL K H a xs) : SqL K H a xs := by
  rcases h with ⟨o, h⟩ | (h | h)
  · exact .inl (.inr ⟨o, h⟩)
  · rcases h with h | ⟨o, h⟩ <;> cases h
  · exact .inr h

/-- what never changes -/
def Imm : HO → Prop
  | .tup _ => True
  | .frz _ _ => True
  | _ => False
def Kp (H H' : Hp) : Prop := ∀ a o, H a = some o → Imm o → H' a = some o
theorem Kp.refl (H : Hp) : Kp H H := fun _ _ h _ => h
theorem Kp.trans {H H1 H2 : Hp} (a : Kp H H1) (b : Kp H1 H2) : Kp H H2 := fun c o h i => b c o (a c o h i) i
theorem FzL.mono {K : PySem.W.Frag} {H H' : Hp} {a : Addr} {xs : List V} (h : FzL K H a xs) (k : Kp H H') : FzL K H' a xs := by
  rcases h with ⟨o, h⟩ | h
  · exact .inl ⟨o, k _ _ h trivial⟩
  · exact .inr h
theorem sqT_mono {K : PySem.W.Frag} {H H' : Hp} {a : Addr} {xs : List V} (h : SqT K H a xs) (k : Kp H H') : SqT K H' a xs := by
  rcases h with (h | ⟨o, h⟩) | h
  · exact .inl (.inl (k _ _ h trivial))
  · exact .inl (.inr ⟨o, k _ _ h trivial⟩)
  · exact .inr h

/-! ### data in the heap -/
mutual
inductive Rp (K : PySem.W.Frag) (H : Hp) : V → PyData → Prop
  | non : Rp K H .non .none
  | bl (b : Bool) : Rp K H (.bl b) (.bool b)
  | int (i : Int) : Rp K H (.int i) (.int i)
  | str (x : Str) : Rp K H (.str x) (.str x)
  | lst {a : Addr} {xs : List V} {ds : List PyData} : FzL K H a xs → RpAll K H xs ds → Rp K H (.ref a) (.list ds)
  | tup {a : Addr} {xs : List V} {ds : List PyData} : SqT K H a xs → RpAll K H xs ds → Rp K H (.ref a) (.tuple ds)
inductive RpAll (K : PySem.W.Frag) (H : Hp) : List V → List PyData → Prop
  | nil : RpAll K H [] []
  | cons {v : V} {vs : List V} {d : PyData} {ds : List PyData} : Rp K H v d → RpAll K H vs ds → RpAll K H (v :: vs) (d :: ds)
end
section
variable {K : PySem.W.Frag} {H H' : Hp}
mutual
theorem Rp.mono (k : Kp H H') : ∀ (d : PyData) (v : V), Rp K H v d → Rp K H' v d
  | .none, _, h => by cases h; exact .non
  | .bool _, _, h => by cases h; exact .bl _
  | .int _, _, h => by cases h; exact .int _
  | .str _, _, h => by cases h; exact .str _
  | .list ds, _, h => by
    cases h with
    | lst f r => exact .lst (f.mono k) (RpAll.mono k ds _ r)
  | .tuple ds, _, h => by
    cases h with
    | tup f r => exact .tup (sqT_mono f k) (RpAll.mono k ds _ r)
  | .dict _, _, h => by cases h
theorem RpAll.mono (k : Kp H H') : ∀ (ds : List PyData) (vs : List V), RpAll K H vs ds → RpAll K H' vs ds
  | [], _, h => by cases h; exact .nil
  | d :: ds, _, h => by
    cases h with
    | cons h t => exact .cons (Rp.mono k d _ h) (RpAll.mono k ds _ t)
end
mutual
theorem Rp.dp : ∀ (d : PyData) (v : V), Rp K H v d → Dp K H v d
  | .none, _, h => by cases h; exact .non
  | .bool _, _, h => by cases h; exact .bl _
  | .int _, _, h => by cases h; exact .int _
  | .str _, _, h => by cases h; exact .str _
  | .list ds, _, h => by
    cases h with
    | lst f r => exact .lst f.sq (RpAll.dp ds _ r)
  | .tuple ds, _, h => by
    cases h with
    | tup f r => exact .tup f (RpAll.dp ds _ r)
  | .dict _, _, h => by cases h
theorem RpAll.dp : ∀ (ds : List PyData) (vs : List V), RpAll K H vs ds → DpAll K H vs ds
  | [], _, h => by cases h; exact .nil
  | d :: ds, _, h => by
    cases h with
    | cons h t => exact .cons (Rp.dp d _ h) (RpAll.dp ds _ t)
end
theorem RpAll.length : ∀ {ds : List PyData} {vs : List V}, RpAll K H vs ds → vs.length = ds.length
  | _, _, .nil => rfl
  | _, _, .cons _ t => by simp [RpAll.length t]
theorem RpAll.get : ∀ {ds : List PyData} {vs : List V} {i : Nat} {d : PyData}, RpAll K H vs ds → ds[i]? = some d → ∃ v, vs[i]? = some v ∧ Rp K H v d
  | _, _, _, _, .nil, e => by simp at e
  | _, _, 0, _, .cons r _, e => by simp at e; subst e; exact ⟨_, rfl, r⟩
  | _, _, i + 1, d, .cons _ t, e => by
    obtain ⟨v, h1, h2⟩ := RpAll.get (i := i) (d := d) t (by simpa using e)
    exact ⟨v, by simpa using h1, h2⟩
theorem RpAll.append : ∀ {ds es : List PyData} {vs us : List V}, RpAll K H vs ds → RpAll K H us es → RpAll K H (vs ++ us) (ds ++ es)
  | _, _, _, _, .nil, s => s
  | _, _, _, _, .cons r t, s => .cons r (RpAll.append t s)
theorem RpAll.take : ∀ {ds : List PyData} {vs : List V} (n : Nat), RpAll K H vs ds → RpAll K H (vs.take n) (ds.take n)
  | _, _, 0, _ => .nil
  | _, _, _ + 1, .nil => .nil
  | _, _, n + 1, .cons r t => .cons r (RpAll.take n t)
theorem RpAll.drop : ∀ {ds : List PyData} {vs : List V} (n : Nat), RpAll K H vs ds → RpAll K H (vs.drop n) (ds.drop n)
  | _, _, 0, r => r
  | _, _, _ + 1, .nil => .nil
  | _, _, n + 1, .cons _ t => RpAll.drop n t
end

/-! ### values and objects of the store -/
/-- W in the heap, m telling where the store's objects stand -/
def RW (K : PySem.W.Frag) (m : List Addr) (H : Hp) (v : V) : W → Prop
  | .d x => Rp K H v x
  | .loc n => ∃ a, m[n]? = some a ∧ v = .ref a
def RO (K : PySem.W.Frag) (m : List Addr) (H : Hp) (a : Addr) : Ob → Prop
  | .lst ws => ∃ vs, H a = some (.lst vs) ∧ Paired (RW K m H) vs ws
  | .dicK kvs => ∃ us, H a = some (.dK us) ∧ Paired (fun (p : Key × V) (q : Key × W) => p.1 = q.1 ∧ RW K m H p.2 q.2) us kvs
  | .dicT kvs => ∃ us, H a = some (.dT us) ∧ Paired (fun (p : List Key × V) (q : List Key × W) => p.1 = q.1 ∧ RW K m H p.2 q.2) us kvs
  | .dead => ∃ o, H a = some o
structure Sim (K : PySem.W.Frag) (m : List Addr) (S : Sto) (ρ : DEnv) (σ : L2.St) (H : Hp) : Prop where
  slot : ∀ (i : Nat) (w : W), ρ[i]? = some (some w) → ∃ v, σ[i]? = some (some v) ∧ RW K m H v w
  len : m.length = S.length
  nd : m.Nodup
  obs : ∀ (n : Nat) (ob : Ob), S[n]? = some ob → ∃ a, m[n]? = some a ∧ RO K m H a ob
  rl : ρ.length ≤ σ.length
/-- what stood ahead stands, but for the objects at m -/
def Fr (m : List Addr) (H H' : Hp) : Prop := ∀ a o, H a = some o → (a ∉ m ∨ Imm o) → H' a = some o
def Fresh (ext : List Addr) (H : Hp) : Prop := ∀ a ∈ ext, H a = none

section
variable {K : PySem.W.Frag} {H H1 H2 : Hp} {m ext : List Addr} {S : Sto} {ρ : DEnv} {σ : L2.St}
theorem Fr.kp (f : Fr m H H1) : Kp H H1 := fun a o h i => f a o h (.inr i)
theorem Fr.refl : Fr m H H := fun _ _ h _ => h
theorem Fr.trans (f : Fr m H H1) (fr : Fresh ext H) (g : Fr (m ++ ext) H1 H2) : Fr m H H2 := fun a o h c => by
  have h1 := f a o h c
  refine g a o h1 ?_
  rcases c with c | c
  · refine .inl fun q => ?_
    rcases List.mem_append.mp q with q | q
    · exact c q
    · rw [fr a q] at h; cases h
  · exact .inr c
theorem Sim.mem (q : Sim K m S ρ σ H) {a : Addr} (h : a ∈ m) : ∃ o, H a = some o := by
  obtain ⟨n, hn, e⟩ := List.getElem_of_mem h
  have hs : n < S.length := by rw [← q.len]; exact hn
  obtain ⟨b, hb, r⟩ := q.obs n S[n] (List.getElem?_eq_getElem hs)
  have eb : a = b := by
    rw [List.getElem?_eq_getElem hn] at hb
    exact e.symm.trans (Option.some.inj hb)
  subst eb
  cases h2 : S[n] with
  | lst ws => rw [h2] at r; obtain ⟨vs, r, _⟩ := r; exact ⟨_, r⟩
  | dicK ws => rw [h2] at r; obtain ⟨vs, r, _⟩ := r; exact ⟨_, r⟩
  | dicT ws => rw [h2] at r; obtain ⟨vs, r, _⟩ := r; exact ⟨_, r⟩
  | dead => rw [h2] at r; exact r
theorem Sim.nomem (q : Sim K m S ρ σ H) {a : Addr} (h : H a = none) : a ∉ m := fun c => by
  obtain ⟨o, e⟩ := q.mem c
  rw [h] at e; cases e
theorem Fresh.append {e2 : List Addr} (a : Fresh ext H) (f : Fr m H H1) (q : Sim K (m ++ ext) S ρ σ H1) (hm : Fresh e2 H1) : Fresh (ext ++ e2) H := fun b hb => by
  rcases List.mem_append.mp hb with c | c
  · exact a b c
  · cases e : H b with
    | none => rfl
    | some o =>
      have n1 := hm b c
      have nm : b ∉ m := fun z => q.nomem n1 (List.mem_append_left _ z)
      rw [f b o e (.inl nm)] at n1; cases n1
theorem RW.mono {v : V} {w : W} (r : RW K m H v w) (k : Kp H H1) : RW K (m ++ ext) H1 v w := by
  cases w with
  | d x => exact Rp.mono k x v r
  | loc n =>
    obtain ⟨a, h, e⟩ := r
    exact ⟨a, by rw [List.getElem?_append_left (List.getElem?_eq_some_iff.mp h).1]; exact h, e⟩
theorem RW.mono0 {v : V} {w : W} (r : RW K m H v w) (k : Kp H H1) : RW K m H1 v w := by
  have := RW.mono (ext := []) r k
  rwa [List.append_nil] at this
theorem pRW.mono {vs : List V} {ws : List W} (r : Paired (RW K m H) vs ws) (k : Kp H H1) : Paired (RW K (m ++ ext) H1) vs ws :=
  Paired.mapP r fun _ _ h => h.mono k
theorem RO.mono {a : Addr} {ob : Ob} (r : RO K m H a ob) (k : Kp H H1) (e : ∀ o, H a = some o → H1 a = some o) : RO K (m ++ ext) H1 a ob := by
  cases ob with
  | lst ws => obtain ⟨vs, h, p⟩ := r; exact ⟨vs, e _ h, pRW.mono p k⟩
  | dicK ws => obtain ⟨vs, h, p⟩ := r; exact ⟨vs, e _ h, Paired.mapP p fun _ _ q => ⟨q.1, q.2.mono k⟩⟩
  | dicT ws => obtain ⟨vs, h, p⟩ := r; exact ⟨vs, e _ h, Paired.mapP p fun _ _ q => ⟨q.1, q.2.mono k⟩⟩
  | dead => obtain ⟨o, h⟩ := r; exact ⟨o, e o h⟩
/-- nothing tracked is lost: the simulation stands -/
theorem Sim.same (q : Sim K m S ρ σ H) (k : ∀ a o, H a = some o → H1 a = some o) : Sim K m S ρ σ H1 := by
  have kp : Kp H H1 := fun a o h _ => k a o h
  refine ⟨fun i w e => ?_, q.len, q.nd, fun n ob e => ?_, q.rl⟩
  · obtain ⟨v, h, r⟩ := q.slot i w e
    exact ⟨v, h, r.mono0 kp⟩
  · obtain ⟨a, h, r⟩ := q.obs n ob e
    have := RO.mono (ext := []) r kp (k a)
    rw [List.append_nil] at this
    exact ⟨a, h, this⟩
/-- one object more -/
theorem Sim.push {a : Addr} {ob : Ob} (q : Sim K m S ρ σ H) (k : ∀ a o, H a = some o → H1 a = some o) (hn : H a = none) (r : RO K (m ++ [a]) H1 a ob) : Sim K (m ++ [a]) (S ++ [ob]) ρ σ H1 := by
  have kp : Kp H H1 := fun a o h _ => k a o h
  have nm := q.nomem hn
  refine ⟨fun i w e => ?_, by simp [q.len], ?_, fun n o e => ?_, q.rl⟩
  · obtain ⟨v, h, r⟩ := q.slot i w e
    exact ⟨v, h, r.mono kp⟩
  · rw [List.nodup_append]
    refine ⟨q.nd, by simp, fun x hx y hy e => ?_⟩
    have ey : y = a := by simpa using hy
    exact nm (by rw [← ey, ← e]; exact hx)
  · by_cases hlt : n < S.length
    · rw [List.getElem?_append_left hlt] at e
      obtain ⟨b, h, r⟩ := q.obs n o e
      refine ⟨b, ?_, RO.mono r kp (k b)⟩
      rw [List.getElem?_append_left (by rw [q.len]; exact hlt)]; exact h
    · have h2 : n < (S ++ [ob]).length := (List.getElem?_eq_some_iff.mp e).1
      have en : n = S.length := by simp at h2; omega
      subst en
      have eo : ob = o := by simpa using e
      subst eo
      refine ⟨a, ?_, r⟩
      rw [List.getElem?_append_right (by rw [q.len]; exact Nat.le_refl _), q.len]; simp
/-- an object changed -/
theorem Sim.put {a : Addr} {n : Nat} {ob : Ob} {o : HO} (q : Sim K m S ρ σ H) (hm : m[n]? = some a) (k : ∀ u, H a = some u → ¬ Imm u) (hn : n < S.length) (r : RO K m (upd H a o) a ob) : Sim K m (S.set n ob) ρ σ (upd H a o) := by
  have kp : Kp H (upd H a o) := fun b u h i => by
    by_cases e : b = a
    · subst e; exact absurd i (k _ h)
    · rw [upd_ne e]; exact h
  refine ⟨fun i w e => ?_, by simp [q.len], q.nd, fun j ob' e => ?_, q.rl⟩
  · obtain ⟨v, h, r⟩ := q.slot i w e
    exact ⟨v, h, r.mono0 kp⟩
  · by_cases hj : j = n
    · subst hj
      rw [List.getElem?_set_self hn] at e
      cases e
      exact ⟨a, hm, r⟩
    · rw [List.getElem?_set_ne (Ne.symm hj)] at e
      obtain ⟨b, h, r'⟩ := q.obs j ob' e
      refine ⟨b, h, ?_⟩
      have hb : b ≠ a := fun z => by
        subst z
        obtain ⟨h1, e1⟩ := List.getElem?_eq_some_iff.mp h
        obtain ⟨h2, e2⟩ := List.getElem?_eq_some_iff.mp hm
        exact hj ((List.getElem_inj q.nd).mp (e1.trans e2.symm))
      have := RO.mono (ext := []) r' kp (fun u hu => by rw [upd_ne hb]; exact hu)
      rw [List.append_nil] at this
      exact this
theorem Sim.slotset {v : V} {w : W} {i : Nat} (q : Sim K m S ρ σ H) (r : RW K m H v w) : Sim K m S (ρ.set i (some w)) (σ.set i (some v)) H := by
  have hl := q.rl
  refine ⟨fun j w' e => ?_, q.len, q.nd, q.obs, by simpa using q.rl⟩
  by_cases hj : i = j
  · subst hj
    have hi : i < ρ.length := by
      have := (List.getElem?_eq_some_iff.mp e).1
      simpa using this
    rw [List.getElem?_set_self hi] at e
    cases e
    exact ⟨v, by rw [List.getElem?_set_self (by omega)], r⟩
  · rw [List.getElem?_set_ne hj] at e
    obtain ⟨v', h, r'⟩ := q.slot j w' e
    exact ⟨v', by rw [List.getElem?_set_ne hj]; exact h, r'⟩
end

/-! ### readings -/
/-- what is to be shown behind an expression that gives w and the store S' -/
def Post (K : PySem.W.Frag) (m : List Addr) (S' : Sto) (ρ : DEnv) (σ : L2.St) (H : Hp) (w : W) (Q : VK) : Prop :=
  ∀ ext H' v, Fresh ext H → Sim K (m ++ ext) S' ρ σ H' → Fr m H H' → RW K (m ++ ext) H' v w → Q v H'
abbrev ME := DEnv → Sto → Option (W × Sto)
def rdE (K : PySem.W.Frag) (f : ME) : TE := fun σ H Q => ∃ m S ρ w S', Sim K m S ρ σ H ∧ f ρ S = some (w, S') ∧ Post K m S' ρ σ H w Q
def PostB (K : PySem.W.Frag) (m : List Addr) (S' : Sto) (ρ : DEnv) (σ : L2.St) (H : Hp) (b : Bool) (Q : Bool → Hp → Prop) : Prop :=
  ∀ ext H', Fresh ext H → Sim K (m ++ ext) S' ρ σ H' → Fr m H H' → Q b H'
abbrev MT := DEnv → Sto → Option (Bool × Sto)
def rdT (K : PySem.W.Frag) (f : MT) : TT := fun σ H Q => ∃ m S ρ b S', Sim K m S ρ σ H ∧ f ρ S = some (b, S') ∧ PostB K m S' ρ σ H b Q
def PostL (K : PySem.W.Frag) (m : List Addr) (S' : Sto) (ρ : DEnv) (σ : L2.St) (H : Hp) (ws : List W) (Q : List V → Hp → Prop) : Prop :=
  ∀ ext H' vs, Fresh ext H → Sim K (m ++ ext) S' ρ σ H' → Fr m H H' → Paired (RW K (m ++ ext) H') vs ws → Q vs H'
abbrev MA := DEnv → Sto → Option (List W × Sto)
def rdA (K : PySem.W.Frag) (f : MA) : TA := fun σ H Q => ∃ m S ρ ws S', Sim K m S ρ σ H ∧ f ρ S = some (ws, S') ∧ PostL K m S' ρ σ H ws Q

section
variable {K : PySem.W.Frag} {H H1 : Hp} {m ext : List Addr} {S S1 S' : Sto} {ρ : DEnv} {σ : L2.St} {w : W} {Q : VK}
theorem Post.at (p : Post K m S' ρ σ H w Q) (f : Fresh ext H) (q : Sim K (m ++ ext) S1 ρ σ H1) (fr : Fr m H H1) : Post K (m ++ ext) S' ρ σ H1 w Q := fun e2 H2 v f2 q2 fr2 r =>
  p (ext ++ e2) H2 v (f.append fr q f2) (by rwa [← List.append_assoc]) (fr.trans f fr2) (by rwa [← List.append_assoc])
theorem PostB.at {b : Bool} {Q : Bool → Hp → Prop} (p : PostB K m S' ρ σ H b Q) (f : Fresh ext H) (q : Sim K (m ++ ext) S1 ρ σ H1) (fr : Fr m H H1) : PostB K (m ++ ext) S' ρ σ H1 b Q := fun e2 H2 f2 q2 fr2 =>
  p (ext ++ e2) H2 (f.append fr q f2) (by rwa [← List.append_assoc]) (fr.trans f fr2)
theorem PostL.at {ws : List W} {Q : List V → Hp → Prop} (p : PostL K m S' ρ σ H ws Q) (f : Fresh ext H) (q : Sim K (m ++ ext) S1 ρ σ H1) (fr : Fr m H H1) : PostL K (m ++ ext) S' ρ σ H1 ws Q := fun e2 H2 vs f2 q2 fr2 r =>
  p (ext ++ e2) H2 vs (f.append fr q f2) (by rwa [← List.append_assoc]) (fr.trans f fr2) (by rwa [← List.append_assoc])
/-- the value at hand -/
theorem Post.now {v : V} (p : Post K m S' ρ σ H w Q) (q : Sim K m S' ρ σ H) (r : RW K m H v w) : Q v H :=
  p [] H v (fun _ h => absurd h (by simp)) (by rwa [List.append_nil]) Fr.refl (by rwa [List.append_nil])
theorem PostB.now {b : Bool} {Q : Bool → Hp → Prop} (p : PostB K m S' ρ σ H b Q) (q : Sim K m S' ρ σ H) : Q b H :=
  p [] H (fun _ h => absurd h (by simp)) (by rwa [List.append_nil]) Fr.refl
theorem PostL.now {vs : List V} {ws : List W} {Q : List V → Hp → Prop} (p : PostL K m S' ρ σ H ws Q) (q : Sim K m S' ρ σ H) (r : Paired (RW K m H) vs ws) : Q vs H :=
  p [] H vs (fun _ h => absurd h (by simp)) (by rwa [List.append_nil]) Fr.refl (by rwa [List.append_nil])
/-- the heap has grown by immutable things -/
theorem Post.grown {v : V} (p : Post K m S ρ σ H w Q) (q : Sim K m S ρ σ H) (k : ∀ a o, H a = some o → H1 a = some o) (r : RW K m H1 v w) : Q v H1 :=
  p [] H1 v (fun _ h => absurd h (by simp)) (by rw [List.append_nil]; exact q.same k) (fun a o h _ => k a o h) (by rwa [List.append_nil])
theorem upd_keeps {a : Addr} {o : HO} (h : H a = none) : ∀ b u, H b = some u → upd H a o b = some u := fun b u e => by
  rw [upd_ne (ne_of_none e h)]; exact e
theorem upd_kp {a : Addr} {o : HO} (h : H a = none) : Kp H (upd H a o) := fun b u e _ => upd_keeps h b u e
end

/-! ### weakening -/
section
variable {X : Cx}
theorem wkE {e : Expr} {t t' : TE} (h : PE X e t) (w : ∀ σ H Q, t' σ H Q → t σ H Q) : PE X e t' := ⟨fun p s σ H Q I q => h.run p s σ H Q I (w σ H Q q)⟩
theorem wkT {e : Expr} {t t' : TT} (h : PT X e t) (w : ∀ σ H Q, t' σ H Q → t σ H Q) : PT X e t' := ⟨fun p s σ H Q I q => h.run p s σ H Q I (w σ H Q q)⟩
theorem wkW {e : Expr} {t t' : TT} (h : PW X e t) (w : ∀ σ H Q, t' σ H Q → t σ H Q) : PW X e t' := ⟨fun wh p s σ H Q I q => h.run wh p s σ H Q I (w σ H Q q)⟩
theorem wkA {es : List Expr} {t t' : TA} (h : PA X es t) (w : ∀ σ H Q, t' σ H Q → t σ H Q) : PA X es t' := ⟨fun ps p s σ H Q I q => h.run ps p s σ H Q I (w σ H Q q)⟩
theorem wkS {st : Stmt} {t t' : TS} (h : PS X st t) (w : ∀ D σ H, t' D σ H → t D σ H) : PS X st t' := ⟨fun p s σ H D I q => h.run p s σ H D I (w D σ H q)⟩
theorem wkSs {st : List Stmt} {t t' : TS} (h : PSs X st t) (w : ∀ D σ H, t' D σ H → t D σ H) : PSs X st t' := ⟨fun p s σ H D I q => h.run p s σ H D I (w D σ H q)⟩
/-- a value made: a new list is locked for ever -/
theorem peFrz {e : Expr} {t : TE} (h : PE X e t) : PE X e (fun σ H Q => t σ H fun v H1 => ∃ a xs, v = .ref a ∧ H1 a = some (.lst xs) ∧ ∀ o, Q v (upd H1 a (.frz o (.lst xs)))) := by
  refine ⟨fun pins s σ H Q I q => thn (h.run pins s σ H _ I q) fun u s1 ⟨v, H1, I1, r, a, xs, e, hl, q1⟩ => ?_⟩
  obtain ⟨o, I2⟩ := I1.lock hl trivial
  exact ⟨v, _, I2, r, q1 o⟩
end
end DL
noncomputable section
namespace DL
open PySem PySem.Spec PyProof.Rows L2
section
variable {K : PySem.W.Frag} {H H1 H2 : Hp} {m ext : List Addr} {S S1 S' : Sto} {ρ : DEnv} {σ : L2.St} {w : W} {Q : VK}

/-! ### binding -/
theorem bindE {A : ME} {k : W → Sto → Option (W × Sto)} (q : Sim K m S ρ σ H) (e : ((A ρ S).bind fun p => k p.1 p.2) = some (w, S')) (p : Post K m S' ρ σ H w Q) :
    rdE K A σ H fun x H1 => ∃ m1 S1 wx, Sim K m1 S1 ρ σ H1 ∧ RW K m1 H1 x wx ∧ k wx S1 = some (w, S') ∧ Post K m1 S' ρ σ H1 w Q ∧ Kp H H1 ∧ ∃ ext, m1 = m ++ ext := by
  obtain ⟨⟨wx, S1⟩, e1, e2⟩ := Option.bind_eq_some_iff.mp e
  exact ⟨m, S, ρ, wx, S1, q, e1, fun ext H1 x f q1 fr r => ⟨m ++ ext, S1, wx, q1, r, e2, p.at f q1 fr, fr.kp, ext, rfl⟩⟩

/-- the readings of an operator on values of the store -/
def rOp (K : PySem.W.Frag) (f : W → W → Sto → Option (W × Sto)) : R2 := fun x y H Q =>
  ∃ m S ρ σ wx wy w S', Sim K m S ρ σ H ∧ RW K m H x wx ∧ RW K m H y wy ∧ f wx wy S = some (w, S') ∧ Post K m S' ρ σ H w Q
def mBin (f : W → W → Sto → Option (W × Sto)) (A B : ME) : ME := fun ρ S => (A ρ S).bind fun p => (B ρ p.2).bind fun q => f p.1 q.1 q.2
theorem binE {f : W → W → Sto → Option (W × Sto)} {A B : ME} (h : rdE K (mBin f A B) σ H Q) : rdE K A σ H fun x H1 => rdE K B σ H1 fun y H2 => rOp K f x y H2 Q := by
  obtain ⟨m, S, ρ, w, S', q, e, p⟩ := h
  obtain ⟨m', S0, ρ', w', S0', q', e', p'⟩ := bindE (K := K) (Q := Q) (k := fun wx S1 => (B ρ S1).bind fun q => f wx q.1 q.2) q e p
  refine ⟨m', S0, ρ', w', S0', q', e', fun ext H1 x fr q1 f1 r => ?_⟩
  obtain ⟨m1, S1, wx, q1, r1, e1, p1, k1, _⟩ := p' ext H1 x fr q1 f1 r
  obtain ⟨m2, S2, ρ2, w2, S2', q2, e2, p2⟩ := bindE (K := K) (Q := Q) (k := fun wy S1 => f wx wy S1) q1 e1 p1
  refine ⟨m2, S2, ρ2, w2, S2', q2, e2, fun ext H2 y fr q2 f2 r => ?_⟩
  obtain ⟨m3, S3, wy, q3, r3, e3, p3, k3, ext', rfl⟩ := p2 ext H2 y fr q2 f2 r
  exact ⟨_, S3, ρ, σ, wx, wy, w, S', q3, r1.mono k3, r3, e3, p3⟩

/-! ### lists of values -/
def allD : List W → Option (List PyData)
  | [] => some []
  | .d x :: ws => (allD ws).map (x :: ·)
  | .loc _ :: _ => none
theorem allD_of : ∀ {ws : List W} {ds : List PyData} {vs : List V}, allD ws = some ds → Paired (RW K m H) vs ws → RpAll K H vs ds
  | [], _, _, e, .nil => by cases e; exact .nil
  | .d x :: ws, ds, _, e, .cons r t => by
    simp only [allD, Option.map_eq_some_iff] at e
    obtain ⟨es, e1, rfl⟩ := e
    exact .cons r (allD_of e1 t)
  | .loc _ :: _, _, _, e, _ => by cases e
theorem allD_map (ds : List PyData) : allD (ds.map W.d) = some ds := by
  induction ds with
  | nil => rfl
  | cons x ds ih => simp [allD, ih]
theorem rpAll_rw : ∀ {ds : List PyData} {vs : List V}, RpAll K H vs ds → Paired (RW K m H) vs (ds.map W.d)
  | _, _, .nil => .nil
  | _, _, .cons h t => .cons h (rpAll_rw t)

/-! ### what a new thing is worth -/
theorem newT {vs : List V} {ds : List PyData} (p : Post K m S ρ σ H (.d (.tuple ds)) Q) (q : Sim K m S ρ σ H) (r : RpAll K H vs ds) (t : Addr) (ht : H t = none) : Q (.ref t) (upd H t (.tup vs)) :=
  p.grown q (upd_keeps ht) (Rp.tup (.of upd_same) (RpAll.mono (upd_kp ht) ds vs r))
/-- a new list, locked -/
def Lk (Q : VK) : VK := fun v H1 => ∃ a xs, v = .ref a ∧ H1 a = some (.lst xs) ∧ ∀ o, Q v (upd H1 a (.frz o (.lst xs)))
theorem newL {vs : List V} {ds : List PyData} (p : Post K m S ρ σ H (.d (.list ds)) Q) (q : Sim K m S ρ σ H) (r : RpAll K H vs ds) (t : Addr) (ht : H t = none) : Lk Q (.ref t) (upd H t (.lst vs)) := by
  refine ⟨t, vs, rfl, upd_same, fun o => ?_⟩
  rw [upd_upd]
  exact p.grown q (upd_keeps ht) (Rp.lst (.inl ⟨o, upd_same⟩) (RpAll.mono (upd_kp ht) ds vs r))
/-- a new object of the store -/
theorem newB {vs : List V} {ws : List W} (p : Post K m (S ++ [.lst ws]) ρ σ H (.loc S.length) Q) (q : Sim K m S ρ σ H) (r : Paired (RW K m H) vs ws) (t : Addr) (ht : H t = none) : Q (.ref t) (upd H t (.lst vs)) := by
  refine p [t] _ _ (fun a h => by simp at h; subst h; exact ht) (q.push (upd_keeps ht) ht ⟨vs, upd_same, pRW.mono r (upd_kp ht)⟩) (fun a o h _ => upd_keeps ht a o h) ⟨t, ?_, rfl⟩
  rw [← q.len, List.getElem?_append_right (Nat.le_refl _)]; simp
end

section
variable {X : Cx} {e a b : Expr} {es : List Expr} {pos : Pos}
/-- new lists of an operator, a call, a slice are locked -/
theorem opFrz {f : Value → Value → Sem Value} {r : R2} (h : OpR X f r) : OpR X f fun x y H Q => r x y H (Lk Q) := by
  intro pins s σ H x y v u Q I rx ry q
  refine thn (h pins s σ H x y v u _ I rx ry q) fun z s1 ⟨v, H1, I1, r, a, xs, e, hl, q1⟩ => ?_
  obtain ⟨o, I2⟩ := I1.lock hl trivial
  exact ⟨v, _, I2, r, q1 o⟩
theorem callFrz {f : Value} {r : List V → Hp → VK → Prop} (h : CallR X f r) : CallR X f fun xs H Q => r xs H (Lk Q) := by
  intro pins s σ H vs us Q I rx q
  refine thn (h pins s σ H vs us _ I rx q) fun z s1 ⟨v, H1, I1, r, a, xs, e, hl, q1⟩ => ?_
  obtain ⟨o, I2⟩ := I1.lock hl trivial
  exact ⟨v, _, I2, r, q1 o⟩
theorem slFrz {r : V → Option Int → Option Int → Hp → VK → Prop} (h : SlR X r) : SlR X fun x lo hi H Q => r x lo hi H (Lk Q) := by
  intro pins s σ H x v vl vu lo hi sl Q I rx h1 h2 h3 q
  obtain ⟨T, id, e1, e2, run⟩ := h pins s σ H x v vl vu lo hi sl _ I rx h1 h2 h3 q
  refine ⟨T, id, e1, e2, thn run fun z s1 ⟨v, H1, I1, r, a, xs, e, hl, q1⟩ => ?_⟩
  obtain ⟨o, I2⟩ := I1.lock hl trivial
  exact ⟨v, _, I2, r, q1 o⟩
theorem mtFrz {id : String} {r : V → List V → Hp → VK → Prop} (h : MtR X id r) : MtR X id fun x xs H Q => r x xs H (Lk Q) := by
  intro pins s σ H x xs v us Q I rx rs q
  refine thn (h pins s σ H x xs v us _ I rx rs q) fun z s1 ⟨v, H1, I1, r, a, xs, e, hl, q1⟩ => ?_
  obtain ⟨o, I2⟩ := I1.lock hl trivial
  exact ⟨v, _, I2, r, q1 o⟩
end

/-! ### names, constants -/
def mVar (i : Nat) : ME := fun ρ S => match ρ[i]? with
  | some (some w) => some (w, S)
  | _ => none
def mC (x : PyData) : ME := fun _ S => some (.d x, S)
section
variable {X : Cx} {e a b : Expr} {es : List Expr} {pos : Pos} {A B : ME} {R : MA}
theorem rd_var {i : Nat} {σ : L2.St} {H : Hp} {Q : VK} (h : rdE X.K (mVar i) σ H Q) : tVar i σ H Q := by
  obtain ⟨m, S, ρ, w, S', q, e, p⟩ := h
  unfold mVar at e
  split at e
  · rename_i w' e1
    cases e
    obtain ⟨v, h1, r⟩ := q.slot i _ e1
    exact ⟨v, h1, p.now q r⟩
  · cases e
theorem de_var (h : PE X e (tVar i)) : PE X e (rdE X.K (mVar i)) := wkE h fun σ H Q q => rd_var q
theorem rd_c {x : PyData} {v : V} {K : PySem.W.Frag} {σ : L2.St} {H : Hp} {Q : VK} (r : ∀ H, Rp K H v x) (h : rdE K (mC x) σ H Q) : Q v H := by
  obtain ⟨m, S, ρ, w, S', q, e, p⟩ := h
  cases e
  exact p.now q (r H)
theorem de_int {i : Int} {j} : PE X (.Constant (.int i) j pos) (rdE X.K (mC (.int i))) := wkE pe_int fun _ _ _ q => rd_c (fun _ => .int i) q
theorem de_bl {i : Bool} {j} : PE X (.Constant (.bool i) j pos) (rdE X.K (mC (.bool i))) := wkE pe_bl fun _ _ _ q => rd_c (fun _ => .bl i) q
theorem de_non {j} : PE X (.Constant .none j pos) (rdE X.K (mC .none)) := wkE pe_non fun _ _ _ q => rd_c (fun _ => .non) q
theorem de_str {x : Str} {j} : PE X (.Constant (.str x) j pos) (rdE X.K (mC (.str x))) := wkE pe_str fun _ _ _ q => rd_c (fun _ => .str x) q

/-! ### arguments -/
def mNil : MA := fun _ S => some ([], S)
def mCons (A : ME) (R : MA) : MA := fun ρ S => (A ρ S).bind fun p => (R ρ p.2).bind fun q => some (p.1 :: q.1, q.2)
theorem da_nil : PA X [] (rdA X.K mNil) := wkA pa_nil fun σ H Q q => by
  obtain ⟨m, S, ρ, w, S', q, e, p⟩ := q
  cases e
  exact p.now q .nil
theorem da_cons (ha : PE X e (rdE X.K A)) (hr : PA X es (rdA X.K R)) (hs : starEach (e :: es) X.env = (false, eval e X.env) :: starEach es X.env := by rfl) : PA X (e :: es) (rdA X.K (mCons A R)) :=
  wkA (pa_cons ha hr hs) fun σ H Q q => by
    obtain ⟨m, S, ρ, w, S', q, e, p⟩ := q
    obtain ⟨⟨wx, S1⟩, e1, e2⟩ := Option.bind_eq_some_iff.mp e
    obtain ⟨⟨ws, S2⟩, e3, e4⟩ := Option.bind_eq_some_iff.mp e2
    cases e4
    refine ⟨m, S, ρ, wx, S1, q, e1, fun ext H1 x f q1 fr r => ⟨m ++ ext, S1, ρ, ws, _, q1, e3, fun ext2 H2 xs f2 q2 fr2 r2 => ?_⟩⟩
    refine (p.at f q1 fr) ext2 H2 (x :: xs) f2 q2 fr2 (.cons (r.mono fr2.kp) r2)

/-- what comes of a list of values -/
def rC (K : PySem.W.Frag) (f : List W → Sto → Option (W × Sto)) : List V → Hp → VK → Prop := fun vs H Q =>
  ∃ m S ρ σ ws w S', Sim K m S ρ σ H ∧ Paired (RW K m H) vs ws ∧ f ws S = some (w, S') ∧ Post K m S' ρ σ H w Q
def mCall (f : List W → Sto → Option (W × Sto)) (R : MA) : ME := fun ρ S => (R ρ S).bind fun p => f p.1 p.2
theorem callE {K : PySem.W.Frag} {f : List W → Sto → Option (W × Sto)} {σ : L2.St} {H : Hp} {Q : VK} {Q' : List V → Hp → Prop} (h : rdE K (mCall f R) σ H Q) (hq : ∀ vs H1, rC K f vs H1 Q → Q' vs H1) : rdA K R σ H Q' := by
  obtain ⟨m, S, ρ, w, S', q, e, p⟩ := h
  obtain ⟨⟨ws, S1⟩, e1, e2⟩ := Option.bind_eq_some_iff.mp e
  exact ⟨m, S, ρ, ws, S1, q, e1, fun ext H1 vs f q1 fr r => hq _ _ ⟨m ++ ext, S1, ρ, σ, ws, w, S', q1, r, e2, p.at f q1 fr⟩⟩

/-! ### displays -/
def tupF : List W → Sto → Option (W × Sto) := fun ws S => (allD ws).bind fun ds => if ds.length ≤ sizeLine then some (.d (.tuple ds), S) else none
def lstF : List W → Sto → Option (W × Sto) := fun ws S => (allD ws).bind fun ds => if ds.length ≤ sizeLine then some (.d (.list ds), S) else none
def lstB : List W → Sto → Option (W × Sto) := fun ws S => if ws.length ≤ sizeLine then some (.loc S.length, S ++ [.lst ws]) else none
theorem de_tup {x1} (h : PA X es (rdA X.K R)) : PE X (.Tuple es x1 pos) (rdE X.K (mCall tupF R)) := wkE (pe_tup h) fun σ H Q q => callE q fun vs H1 q => by
  obtain ⟨m, S, ρ, σ, ws, w, S', q, r, e, p⟩ := q
  obtain ⟨ds, e1, e2⟩ := Option.bind_eq_some_iff.mp e
  split at e2
  · rename_i hl
    cases e2
    have r1 := allD_of e1 r
    exact ⟨by rw [r1.length]; exact hl, fun t ht => newT p q r1 t ht⟩
  · cases e2
theorem de_lst (h : PA X es (rdA X.K R)) : PE X (.List es pos) (rdE X.K (mCall lstF R)) := wkE (peFrz (pe_lst h)) fun σ H Q q => callE q fun vs H1 q => by
  obtain ⟨m, S, ρ, σ, ws, w, S', q, r, e, p⟩ := q
  obtain ⟨ds, e1, e2⟩ := Option.bind_eq_some_iff.mp e
  split at e2
  · rename_i hl
    cases e2
    have r1 := allD_of e1 r
    exact ⟨by rw [r1.length]; exact hl, fun t ht => newL p q r1 t ht⟩
  · cases e2
theorem de_lstB (h : PA X es (rdA X.K R)) : PE X (.List es pos) (rdE X.K (mCall lstB R)) := wkE (pe_lst h) fun σ H Q q => callE q fun vs H1 q => by
  obtain ⟨m, S, ρ, σ, ws, w, S', q, r, e, p⟩ := q
  unfold lstB at e
  split at e
  · rename_i hl
    cases e
    exact ⟨by rw [r.length]; exact hl, fun t ht => newB p q r t ht⟩
  · cases e
end

/-! ### operators -/
section
variable {X : Cx} {e a b : Expr} {es : List Expr} {pos : Pos} {A B : ME} {R : MA} {K : PySem.W.Frag} {H : Hp} {v : V}
theorem de_bin {op : Operator} {f : W → W → Sto → Option (W × Sto)} (ho : OpR X (binaryOp op) (rOp X.K f)) (ha : PE X a (rdE X.K A)) (hb : PE X b (rdE X.K B)) : PE X (.BinOp a op b pos) (rdE X.K (mBin f A B)) :=
  wkE (pe_op ho ha hb) fun σ H Q q => binE q
theorem de_cmp {op : CmpOp} {f : W → W → Sto → Option (W × Sto)} (ho : OpR X (compareOp op) (rOp X.K f)) (ha : PE X a (rdE X.K A)) (hb : PE X b (rdE X.K B)) (hm : behindInMarks op b = false := by first | exact nomark _ | rfl) : PE X (.Compare a [op] [b] pos) (rdE X.K (mBin f A B)) :=
  wkE (pe_cmpR ho ha hb hm) fun σ H Q q => binE q
theorem rp_int {x : V} {i : Int} (h : Rp K H x (.int i)) : x = .int i := by cases h; rfl
theorem rp_str {x : V} {i : Str} (h : Rp K H x (.str i)) : x = .str i := by cases h; rfl
theorem rp_bl {x : V} {i : Bool} (h : Rp K H x (.bool i)) : x = .bl i := by cases h; rfl
theorem rp_non {x : V} (h : Rp K H x .none) : x = .non := by cases h; rfl
theorem rp_tup {x : V} {ds : List PyData} (h : Rp K H x (.tuple ds)) : ∃ a xs, x = .ref a ∧ SqT K H a xs ∧ RpAll K H xs ds := by
  cases h with
  | tup h1 h2 => exact ⟨_, _, rfl, h1, h2⟩
theorem rp_lst {x : V} {ds : List PyData} (h : Rp K H x (.list ds)) : ∃ a xs, x = .ref a ∧ FzL K H a xs ∧ RpAll K H xs ds := by
  cases h with
  | lst h1 h2 => exact ⟨_, _, rfl, h1, h2⟩

/-- + of ints, texts, tuples -/
def addD : W → W → Sto → Option (W × Sto)
  | .d (.int i), .d (.int j), S => some (.d (.int (i + j)), S)
  | .d (.str i), .d (.str j), S => if i.length + j.length ≤ sizeLine then some (.d (.str (i ++ j)), S) else none
  | .d (.tuple i), .d (.tuple j), S => if i.length + j.length ≤ sizeLine then some (.d (.tuple (i ++ j)), S) else none
  | _, _, _ => none
theorem op_addD : OpR X (binaryOp .Add) (rOp X.K addD) := by
  intro pins s σ H x y v u Q I rx ry h
  obtain ⟨m, S, ρ, σ', wx, wy, w, S', q, hx, hy, e, p⟩ := h
  unfold addD at e
  split at e
  · cases e
    obtain rfl := rp_int hx
    obtain rfl := rp_int hy
    exact op_add pins s σ H _ _ v u Q I rx ry ⟨_, _, rfl, rfl, p.now q (.int _)⟩
  · split at e
    · rename_i hl
      cases e
      obtain rfl := rp_str hx
      obtain rfl := rp_str hy
      exact op_add_str pins s σ H _ _ v u Q I rx ry ⟨_, _, rfl, rfl, hl, p.now q (.str _)⟩
    · cases e
  · split at e
    · rename_i ds es _ hl
      cases e
      obtain ⟨a, xs, rfl, h1, r1⟩ := rp_tup hx
      obtain ⟨b, ys, rfl, h2, r2⟩ := rp_tup hy
      refine op_catA pins s σ H _ _ v u Q I rx ry ⟨a, b, xs, ys, rfl, rfl, h1, h2, by rw [r1.length, r2.length]; exact hl, ?_⟩
      refine ⟨fun e => ?_, fun e1 e2 => ?_, fun _ _ t ht => newT p q (r1.append r2) t ht⟩
      · subst e
        cases r1
        exact p.now q (.tup h2 (by simpa using r2))
      · subst e2
        cases r2
        exact p.now q (.tup h1 (by simpa using r1))
    · cases e
  · cases e
/-- an operator on ints -/
def iiD (c : Int → Int → Bool) (g : Int → Int → PyData) : W → W → Sto → Option (W × Sto)
  | .d (.int i), .d (.int j), S => if c i j = true then some (.d (g i j), S) else none
  | _, _, _ => none
theorem iiD_of {f : Value → Value → Sem Value} {C : Int → Int → Prop} {c : Int → Int → Bool} {g : Int → Int → PyData} {gv : Int → Int → V} (h : OpR X f (rI C gv)) (hc : ∀ i j, c i j = true → C i j) (hg : ∀ i j H, Rp X.K H (gv i j) (g i j)) : OpR X f (rOp X.K (iiD c g)) := by
  intro pins s σ H x y v u Q I rx ry h2
  obtain ⟨m, S, ρ, σ', wx, wy, w, S', q, hx, hy, e, p⟩ := h2
  unfold iiD at e
  split at e
  · split at e
    · rename_i hl
      cases e
      obtain rfl := rp_int hx
      obtain rfl := rp_int hy
      exact h pins s σ H _ _ v u Q I rx ry ⟨_, _, rfl, rfl, hc _ _ hl, p.now q (hg _ _ _)⟩
    · cases e
  · cases e
theorem rI_of0 {f : Value → Value → Sem Value} {gv : Int → Int → V} (h : OpR X f (rI0 gv)) : OpR X f (rI (fun _ _ => True) gv) := by
  intro pins s σ H x y v u Q I rx ry ⟨i, j, e1, e2, _, q⟩
  exact h pins s σ H x y v u Q I rx ry ⟨i, j, e1, e2, q⟩
def yes2 : Int → Int → Bool := fun _ _ => true
def subD := iiD yes2 fun i j => .int (i - j)
theorem op_subD : OpR X (binaryOp .Sub) (rOp X.K subD) := iiD_of (rI_of0 op_sub) (fun _ _ _ => trivial) fun _ _ _ => .int _
def divOk : Int → Int → Bool := fun _ j => decide (0 < j) && decide (j.natAbs.log2 < 9000)
def fdivD := iiD divOk fun i j => .int (i / j)
theorem op_fdivD : OpR X (binaryOp .FloorDiv) (rOp X.K fdivD) := iiD_of op_fdivW (fun i j h => by
  simp only [divOk, Bool.and_eq_true, decide_eq_true_eq] at h
  exact h) fun _ _ _ => .int _
def modOk : Int → Int → Bool := fun _ j => decide (0 < j)
def modD := iiD modOk fun i j => .int (i % j)
theorem op_modD : OpR X (binaryOp .Mod) (rOp X.K modD) := iiD_of op_mod (fun i j h => by simpa [modOk] using h) fun _ _ _ => .int _
def powOk : Int → Int → Bool := fun i j => decide (0 ≤ j) && decide (j ≤ 1000000) && decide (i.natAbs < 2 ^ 64)
def powD := iiD powOk fun i j => .int (i ^ j.toNat)
theorem op_powD : OpR X (binaryOp .Pow) (rOp X.K powD) := iiD_of op_pow (fun i j h => by
  simp only [powOk, Bool.and_eq_true, decide_eq_true_eq] at h
  exact ⟨h.1.1, h.1.2, h.2⟩) fun _ _ _ => .int _
/-- * of ints, of a tuple and an int -/
def mulD : W → W → Sto → Option (W × Sto)
  | .d (.int i), .d (.int j), S => @ite _ (i.natAbs.log2 + j.natAbs.log2 < 1000000) (gd _) (some (.d (.int (i * j)), S)) none
  | .d (.tuple i), .d (.int k), S => @ite _ (i ≠ [] ∧ 2 ≤ k ∧ k ≤ 1000 ∧ i.length ≤ 1000) (gd _) (some (.d (.tuple (List.replicate k.toNat i).flatten), S)) none
  | _, _, _ => none
theorem rpAll_rep {K : PySem.W.Frag} {H : Hp} {xs : List V} {ds : List PyData} (h : RpAll K H xs ds) : ∀ n : Nat, RpAll K H (List.replicate n xs).flatten (List.replicate n ds).flatten
  | 0 => .nil
  | n + 1 => by
    rw [List.replicate_succ, List.replicate_succ, List.flatten_cons, List.flatten_cons]
    exact h.append (rpAll_rep h n)
theorem op_mulD : OpR X (binaryOp .Mult) (rOp X.K mulD) := by
  intro pins s σ H x y v u Q I rx ry h
  obtain ⟨m, S, ρ, σ', wx, wy, w, S', q, hx, hy, e, p⟩ := h
  unfold mulD at e
  split at e
  · split at e
    · rename_i hl
      cases e
      obtain rfl := rp_int hx
      obtain rfl := rp_int hy
      exact op_mulW pins s σ H _ _ v u Q I rx ry ⟨_, _, rfl, rfl, hl, p.now q (.int _)⟩
    · cases e
  · split at e
    · rename_i hl
      cases e
      obtain ⟨a, xs, rfl, h1, r1⟩ := rp_tup hx
      obtain rfl := rp_int hy
      refine op_repT pins s σ H _ _ v u Q I rx ry ⟨a, _, xs, rfl, rfl, h1, fun e => ?_, hl.2.1, hl.2.2.1, by rw [r1.length]; exact hl.2.2.2, fun t ht => newT p q (rpAll_rep r1 _) t ht⟩
      subst e
      cases r1
      exact hl.1 rfl
    · cases e
  · cases e
/-- comparisons of ints -/
def cmpI (g : Int → Int → Bool) := iiD yes2 fun i j => .bool (g i j)
theorem op_cmpI {op : CmpOp} {g : Int → Int → Bool} (h : OpR X (compareOp op) (rI0 fun i j => .bl (g i j))) : OpR X (compareOp op) (rOp X.K (cmpI g)) := iiD_of (rI_of0 h) (fun _ _ _ => trivial) fun _ _ _ => .bl _

/-! ### == on data -/
def deref (S : Sto) : W → Option PyData
  | .d x => some x
  | .loc n => match S[n]? with
    | some (.lst ws) => (allD ws).map .list
    | _ => none
theorem RpAll.dpAll {K : PySem.W.Frag} {H : Hp} {ds : List PyData} {vs : List V} (h : RpAll K H vs ds) : DpAll K H vs ds := RpAll.dp ds vs h
theorem deref_dp {K : PySem.W.Frag} {m : List Addr} {S : Sto} {ρ : DEnv} {σ : L2.St} {H : Hp} {v : V} {w : W} {d : PyData} (q : Sim K m S ρ σ H) (r : RW K m H v w) (e : deref S w = some d) : Dp K H v d := by
  cases w with
  | d x => cases e; exact Rp.dp _ _ r
  | loc n =>
    obtain ⟨a, h, rfl⟩ := r
    simp only [deref] at e
    split at e
    · rename_i ws hs
      obtain ⟨ds, e1, rfl⟩ := Option.map_eq_some_iff.mp e
      obtain ⟨b, hb, vs, hv, pr⟩ := q.obs n _ hs
      rw [h] at hb; cases hb
      exact .lst (.of hv) (allD_of e1 pr).dpAll
    · cases e
def eqD (neg : Bool) : W → W → Sto → Option (W × Sto) := fun x y S => (deref S x).bind fun d => (deref S y).bind fun e =>
  if SeqAt.shaped d && SeqAt.shaped e then some (.d (.bool (PyData.eqv d e ^^ neg)), S) else none
theorem op_eqDD (hu : X.A.units + 64 < cLine) : OpR X (compareOp .Eq) (rOp X.K (eqD false)) := by
  intro pins s σ H x y v u Q I rx ry h
  obtain ⟨m, S, ρ, σ', wx, wy, w, S', q, hx, hy, e, p⟩ := h
  obtain ⟨d, e1, e⟩ := Option.bind_eq_some_iff.mp e
  obtain ⟨d2, e2, e⟩ := Option.bind_eq_some_iff.mp e
  split at e
  · rename_i hs
    simp only [Bool.and_eq_true] at hs
    cases e
    refine op_eqD hu pins s σ H x y v u Q I rx ry ⟨d, d2, deref_dp q hx e1, deref_dp q hy e2, hs.1, hs.2, ?_⟩
    have := p.now q (v := .bl (PyData.eqv d d2)) (by rw [Bool.xor_false]; exact .bl _)
    exact this
  · cases e
theorem op_neDD (hu : X.A.units + 64 < cLine) : OpR X (compareOp .NotEq) (rOp X.K (eqD true)) := by
  intro pins s σ H x y v u Q I rx ry h
  obtain ⟨m, S, ρ, σ', wx, wy, w, S', q, hx, hy, e, p⟩ := h
  obtain ⟨d, e1, e⟩ := Option.bind_eq_some_iff.mp e
  obtain ⟨d2, e2, e⟩ := Option.bind_eq_some_iff.mp e
  split at e
  · rename_i hs
    simp only [Bool.and_eq_true] at hs
    cases e
    refine op_neD hu pins s σ H x y v u Q I rx ry ⟨d, d2, deref_dp q hx e1, deref_dp q hy e2, hs.1, hs.2, ?_⟩
    have := p.now q (v := .bl (!PyData.eqv d d2)) (by rw [Bool.xor_true]; exact .bl _)
    exact this
  · cases e
/-- is None, is not None -/
def isNon : PyData → Bool
  | .none => true
  | _ => false
def isND (neg : Bool) : W → W → Sto → Option (W × Sto)
  | .d x, .d .none, S => some (.d (.bool (isNon x ^^ neg)), S)
  | .loc _, .d .none, S => some (.d (.bool neg), S)
  | _, _, _ => none
theorem rp_isnon {K : PySem.W.Frag} {H : Hp} {x : V} {d : PyData} (h : Rp K H x d) : decide (x = .non) = isNon d := by
  cases h <;> rfl
theorem op_isND : OpR X (compareOp .Is) (rOp X.K (isND false)) := by
  intro pins s σ H x y v u Q I rx ry h
  obtain ⟨m, S, ρ, σ', wx, wy, w, S', q, hx, hy, e, p⟩ := h
  unfold isND at e
  split at e
  · cases e
    obtain rfl := rp_non hy
    refine op_isN pins s σ H x _ v u Q I rx ry ⟨rfl, ?_⟩
    rw [rp_isnon hx]
    exact p.now q (by rw [Bool.xor_false]; exact .bl _)
  · cases e
    obtain rfl := rp_non hy
    obtain ⟨a, _, rfl⟩ := hx
    exact op_isN pins s σ H _ _ v u Q I rx ry ⟨rfl, p.now q (.bl _)⟩
  · cases e
theorem op_notND : OpR X (compareOp .IsNot) (rOp X.K (isND true)) := by
  intro pins s σ H x y v u Q I rx ry h
  obtain ⟨m, S, ρ, σ', wx, wy, w, S', q, hx, hy, e, p⟩ := h
  unfold isND at e
  split at e
  · cases e
    obtain rfl := rp_non hy
    refine op_notN pins s σ H x _ v u Q I rx ry ⟨rfl, ?_⟩
    rw [rp_isnon hx]
    exact p.now q (by rw [Bool.xor_true]; exact .bl _)
  · cases e
    obtain rfl := rp_non hy
    obtain ⟨a, _, rfl⟩ := hx
    exact op_notN pins s σ H _ _ v u Q I rx ry ⟨rfl, p.now q (.bl _)⟩
  · cases e
/-- in, not in a list -/
def inD (neg : Bool) : W → W → Sto → Option (W × Sto) := fun x y S => (deref S x).bind fun d => (deref S y).bind fun e => match e with
  | .list ds => if SeqAt.shaped d && SeqAt.shaped (.list ds) then some (.d (.bool ((ds.any fun z => PyData.eqv z d) ^^ neg)), S) else none
  | _ => none
theorem op_inDD (hu : X.A.units + 65 < cLine) : OpR X (compareOp .In) (rOp X.K (inD false)) := by
  intro pins s σ H x y v u Q I rx ry h
  obtain ⟨m, S, ρ, σ', wx, wy, w, S', q, hx, hy, e, p⟩ := h
  obtain ⟨d, e1, e⟩ := Option.bind_eq_some_iff.mp e
  obtain ⟨d2, e2, e⟩ := Option.bind_eq_some_iff.mp e
  split at e
  · split at e
    · rename_i hs
      simp only [Bool.and_eq_true] at hs
      cases e
      refine op_inD hu pins s σ H x y v u Q I rx ry ⟨d, _, deref_dp q hx e1, deref_dp q hy e2, hs.1, hs.2, ?_⟩
      exact p.now q (by rw [Bool.xor_false]; exact .bl _)
    · cases e
  · cases e
theorem op_notInDD (hu : X.A.units + 65 < cLine) : OpR X (compareOp .NotIn) (rOp X.K (inD true)) := by
  intro pins s σ H x y v u Q I rx ry h
  obtain ⟨m, S, ρ, σ', wx, wy, w, S', q, hx, hy, e, p⟩ := h
  obtain ⟨d, e1, e⟩ := Option.bind_eq_some_iff.mp e
  obtain ⟨d2, e2, e⟩ := Option.bind_eq_some_iff.mp e
  split at e
  · split at e
    · rename_i hs
      simp only [Bool.and_eq_true] at hs
      cases e
      refine op_notInD hu pins s σ H x y v u Q I rx ry ⟨d, _, deref_dp q hx e1, deref_dp q hy e2, hs.1, hs.2, ?_⟩
      exact p.now q (by rw [Bool.xor_true]; exact .bl _)
    · cases e
  · cases e
/-- -a -/
def mNeg (A : ME) : ME := fun ρ S => (A ρ S).bind fun p => match p.1 with
  | .d (.int i) => some (.d (.int (-i)), p.2)
  | _ => none
theorem de_neg (ha : PE X a (rdE X.K A)) : PE X (.UnaryOp .USub a pos) (rdE X.K (mNeg A)) := wkE (pe_un un_neg ha) fun σ H Q q => by
  obtain ⟨m, S, ρ, w, S', q, e, p⟩ := q
  obtain ⟨⟨wx, S1⟩, e1, e2⟩ := Option.bind_eq_some_iff.mp e
  refine ⟨m, S, ρ, wx, S1, q, e1, fun ext H1 x f q1 fr r => ?_⟩
  simp only at e2
  split at e2
  · cases e2
    obtain rfl := rp_int r
    exact ⟨_, rfl, (p.at f q1 fr).now q1 (.int _)⟩
  · cases e2
end
end DL
end
noncomputable section
namespace DL
open PySem PySem.Spec PyProof.Rows L2

/-! ### tests -/
def tOf (A : ME) : MT := fun ρ S => (A ρ S).bind fun p => match p.1 with
  | .d (.bool b) => some (b, p.2)
  | _ => none
def tNotD (A : MT) : MT := fun ρ S => (A ρ S).bind fun p => some (!p.1, p.2)
def tAndD (A B : MT) : MT := fun ρ S => (A ρ S).bind fun p => if p.1 = true then B ρ p.2 else some (false, p.2)
def tOrD (A B : MT) : MT := fun ρ S => (A ρ S).bind fun p => if p.1 = true then some (true, p.2) else B ρ p.2
section
variable {K : PySem.W.Frag} {H : Hp} {σ : L2.St} {Q : Bool → Hp → Prop} {A : ME} {T U : MT}
theorem rd_tof (h : rdT K (tOf A) σ H Q) : rdE K A σ H fun x H1 => ∃ k, x = .bl k ∧ Q k H1 := by
  obtain ⟨m, S, ρ, b, S', q, e, p⟩ := h
  obtain ⟨⟨wx, S1⟩, e1, e2⟩ := Option.bind_eq_some_iff.mp e
  refine ⟨m, S, ρ, wx, S1, q, e1, fun ext H1 x f q1 fr r => ?_⟩
  simp only at e2
  split at e2
  · cases e2
    obtain rfl := rp_bl r
    exact ⟨_, rfl, (p.at f q1 fr).now q1⟩
  · cases e2
theorem rd_not (h : rdT K (tNotD T) σ H Q) : rdT K T σ H fun c H1 => Q (!c) H1 := by
  obtain ⟨m, S, ρ, b, S', q, e, p⟩ := h
  obtain ⟨⟨c, S1⟩, e1, e2⟩ := Option.bind_eq_some_iff.mp e
  cases e2
  exact ⟨m, S, ρ, c, _, q, e1, p⟩
theorem rd_and (h : rdT K (tAndD T U) σ H Q) : rdT K T σ H fun c H1 => if c = true then rdT K U σ H1 Q else Q false H1 := by
  obtain ⟨m, S, ρ, b, S', q, e, p⟩ := h
  obtain ⟨⟨c, S1⟩, e1, e2⟩ := Option.bind_eq_some_iff.mp e
  refine ⟨m, S, ρ, c, S1, q, e1, fun ext H1 f q1 fr => ?_⟩
  cases c with
  | true => exact ⟨_, S1, ρ, b, S', q1, by simpa using e2, p.at f q1 fr⟩
  | false =>
    simp only [Bool.false_eq_true, if_false] at e2
    cases e2
    exact (p.at f q1 fr).now q1
theorem rd_or (h : rdT K (tOrD T U) σ H Q) : rdT K T σ H fun c H1 => if c = true then Q true H1 else rdT K U σ H1 Q := by
  obtain ⟨m, S, ρ, b, S', q, e, p⟩ := h
  obtain ⟨⟨c, S1⟩, e1, e2⟩ := Option.bind_eq_some_iff.mp e
  refine ⟨m, S, ρ, c, S1, q, e1, fun ext H1 f q1 fr => ?_⟩
  cases c with
  | false => exact ⟨_, S1, ρ, b, S', q1, by simpa using e2, p.at f q1 fr⟩
  | true =>
    simp only [if_true] at e2
    cases e2
    exact (p.at f q1 fr).now q1
theorem rdT_mono {Q' : Bool → Hp → Prop} (h : rdT K T σ H Q) (w : ∀ b H1, Q b H1 → Q' b H1) : rdT K T σ H Q' := by
  obtain ⟨m, S, ρ, b, S', q, e, p⟩ := h
  exact ⟨m, S, ρ, b, S', q, e, fun ext H1 f q1 fr => w _ _ (p ext H1 f q1 fr)⟩
end
section
variable {X : Cx} {e a b c : Expr} {rest es : List Expr} {pos : Pos} {A B C : ME} {T U : MT}
theorem dt_cmp {op : CmpOp} {f : W → W → Sto → Option (W × Sto)} (ho : OpR X (compareOp op) (rOp X.K f)) (ha : PE X a (rdE X.K A)) (hb : PE X b (rdE X.K B)) (hm : behindInMarks op b = false := by first | exact nomark _ | rfl) : PT X (.Compare a [op] [b] pos) (rdT X.K (tOf (mBin f A B))) :=
  wkT (pt_cmpR ho ha hb hm) fun σ H Q q => binE (rd_tof q)
theorem dt_val (ha : PE X a (rdE X.K A)) (he : ∀ whole, isTrue a X.env whole = (do let v ← whole; standAt a.pos; holding [v] (truthy v)) := by intro _; rfl) : PT X a (rdT X.K (tOf A)) :=
  wkT (pt_val ha he) fun σ H Q q => rd_tof q
theorem dt_not (h : PT X a (rdT X.K T)) : PT X (.UnaryOp .Not a pos) (rdT X.K (tNotD T)) := wkT (pt_not h) fun σ H Q q => rd_not q
theorem dw_and1 (h : PT X a (rdT X.K T)) : PW X (.BoolOp .And [a] pos) (rdT X.K T) := pw_and1 h
theorem dw_or1 (h : PT X a (rdT X.K T)) : PW X (.BoolOp .Or [a] pos) (rdT X.K T) := pw_or1 h
theorem dw_and (h : PT X a (rdT X.K T)) (h2 : PW X (.BoolOp .And (b :: rest) pos) (rdT X.K U)) : PW X (.BoolOp .And (a :: b :: rest) pos) (rdT X.K (tAndD T U)) := wkW (pw_and h h2) fun σ H Q q => rd_and q
theorem dw_or (h : PT X a (rdT X.K T)) (h2 : PW X (.BoolOp .Or (b :: rest) pos) (rdT X.K U)) : PW X (.BoolOp .Or (a :: b :: rest) pos) (rdT X.K (tOrD T U)) := wkW (pw_or h h2) fun σ H Q q => rd_or q

/-- truth of any value -/
def truD (S : Sto) : W → Option Bool
  | .d .none => some false
  | .d (.bool b) => some b
  | .d (.int i) => some (i != 0)
  | .d (.str y) => if y.length ≤ sizeLine then some ((y.length : Int) != 0) else none
  | .d (.list ds) => some (!ds.isEmpty)
  | .d (.tuple ds) => some (!ds.isEmpty)
  | .d (.dict _) => none
  | .loc n => match S[n]? with
    | some (.lst ws) => some (!ws.isEmpty)
    | some (.dicK kvs) => some (!kvs.isEmpty)
    | _ => none
def tTru (A : ME) : MT := fun ρ S => (A ρ S).bind fun p => (truD p.2 p.1).bind fun b => some (b, p.2)
theorem paired_empty {α β : Type} {F : α → β → Prop} {xs : List α} {ys : List β} (h : Paired F xs ys) : ys.isEmpty = xs.isEmpty := by cases h <;> rfl
theorem rpAll_empty {K : PySem.W.Frag} {H : Hp} {xs : List V} {ys : List PyData} (h : RpAll K H xs ys) : ys.isEmpty = xs.isEmpty := by cases h <;> rfl
theorem truD_of {K : PySem.W.Frag} {m : List Addr} {S : Sto} {ρ : DEnv} {σ : L2.St} {H : Hp} {v : V} {w : W} {b : Bool} (q : Sim K m S ρ σ H) (r : RW K m H v w) (e : truD S w = some b) : TruV K v H b := by
  cases w with
  | d x =>
    cases x with
    | none => obtain rfl := rp_non r; cases e; rfl
    | bool b => obtain rfl := rp_bl r; cases e; rfl
    | int i => obtain rfl := rp_int r; cases e; rfl
    | str y =>
      obtain rfl := rp_str r
      simp only [truD] at e
      split at e
      · cases e; exact ⟨by assumption, rfl⟩
      · cases e
    | list ds =>
      obtain ⟨a, xs, rfl, h, r1⟩ := rp_lst r
      cases e
      exact .inl ⟨xs, h.sq, by rw [rpAll_empty r1]⟩
    | tuple ds =>
      obtain ⟨a, xs, rfl, h, r1⟩ := rp_tup r
      cases e
      exact .inr (.inl ⟨xs, h, by rw [rpAll_empty r1]⟩)
    | dict kvs => cases e
  | loc n =>
    obtain ⟨a, h, rfl⟩ := r
    simp only [truD] at e
    split at e
    · rename_i ws hs
      cases e
      obtain ⟨b, hb, vs, hv, pr⟩ := q.obs n _ hs
      rw [h] at hb; cases hb
      exact .inl ⟨vs, .of hv, by rw [paired_empty pr]⟩
    · rename_i ws hs
      cases e
      obtain ⟨b, hb, vs, hv, pr⟩ := q.obs n _ hs
      rw [h] at hb; cases hb
      exact .inr (.inr ⟨vs, hv, by rw [paired_empty pr]⟩)
    · cases e
theorem dt_tru (ha : PE X a (rdE X.K A)) (he : ∀ whole, isTrue a X.env whole = (do let v ← whole; standAt a.pos; holding [v] (truthy v)) := by intro _; rfl) : PT X a (rdT X.K (tTru A)) :=
  wkT (pt_truth ha he) fun σ H Q q => by
    obtain ⟨m, S, ρ, b, S', q, e, p⟩ := q
    obtain ⟨⟨wx, S1⟩, e1, e2⟩ := Option.bind_eq_some_iff.mp e
    obtain ⟨c, e3, e4⟩ := Option.bind_eq_some_iff.mp e2
    cases e4
    exact ⟨m, S, ρ, wx, _, q, e1, fun ext H1 x f q1 fr r => ⟨_, truD_of q1 r e3, (p.at f q1 fr).now q1⟩⟩

/-! ### and, or, not, if else as values -/
def vAnd (A B : ME) : ME := fun ρ S => (A ρ S).bind fun p => match p.1 with
  | .d (.bool c) => if c = true then B ρ p.2 else some (.d (.bool false), p.2)
  | _ => none
def vOr (A B : ME) : ME := fun ρ S => (A ρ S).bind fun p => match p.1 with
  | .d (.bool c) => if c = true then some (.d (.bool true), p.2) else B ρ p.2
  | _ => none
def vNot (A : ME) : ME := fun ρ S => (A ρ S).bind fun p => match p.1 with
  | .d (.bool c) => some (.d (.bool (!c)), p.2)
  | _ => none
def vIf (T : MT) (A B : ME) : ME := fun ρ S => (T ρ S).bind fun p => if p.1 = true then A ρ p.2 else B ρ p.2
theorem de_and (ha : PE X a (rdE X.K A)) (hb : PE X (.BoolOp .And (b :: rest) pos) (rdE X.K B)) : PE X (.BoolOp .And (a :: b :: rest) pos) (rdE X.K (vAnd A B)) := wkE (pe_and ha hb) fun σ H Q q => by
  obtain ⟨m, S, ρ, w, S', q, e, p⟩ := q
  obtain ⟨⟨wx, S1⟩, e1, e2⟩ := Option.bind_eq_some_iff.mp e
  refine ⟨m, S, ρ, wx, S1, q, e1, fun ext H1 x f q1 fr r => ?_⟩
  simp only at e2
  split at e2
  · rename_i c
    obtain rfl := rp_bl r
    refine ⟨_, rfl, ?_⟩
    cases c with
    | true => exact ⟨_, S1, ρ, w, S', q1, by simpa using e2, p.at f q1 fr⟩
    | false =>
      simp only [Bool.false_eq_true, if_false] at e2
      cases e2
      exact (p.at f q1 fr).now q1 (.bl _)
  · cases e2
theorem de_or (ha : PE X a (rdE X.K A)) (hb : PE X (.BoolOp .Or (b :: rest) pos) (rdE X.K B)) : PE X (.BoolOp .Or (a :: b :: rest) pos) (rdE X.K (vOr A B)) := wkE (pe_or ha hb) fun σ H Q q => by
  obtain ⟨m, S, ρ, w, S', q, e, p⟩ := q
  obtain ⟨⟨wx, S1⟩, e1, e2⟩ := Option.bind_eq_some_iff.mp e
  refine ⟨m, S, ρ, wx, S1, q, e1, fun ext H1 x f q1 fr r => ?_⟩
  simp only at e2
  split at e2
  · rename_i c
    obtain rfl := rp_bl r
    refine ⟨_, rfl, ?_⟩
    cases c with
    | false => exact ⟨_, S1, ρ, w, S', q1, by simpa using e2, p.at f q1 fr⟩
    | true =>
      simp only [if_true] at e2
      cases e2
      exact (p.at f q1 fr).now q1 (.bl _)
  · cases e2
theorem de_one {op} (ha : PE X a (rdE X.K A)) : PE X (.BoolOp op [a] pos) (rdE X.K A) := pe_one ha
theorem de_not (ha : PE X a (rdE X.K A)) : PE X (.UnaryOp .Not a pos) (rdE X.K (vNot A)) := wkE (pe_not ha) fun σ H Q q => by
  obtain ⟨m, S, ρ, w, S', q, e, p⟩ := q
  obtain ⟨⟨wx, S1⟩, e1, e2⟩ := Option.bind_eq_some_iff.mp e
  refine ⟨m, S, ρ, wx, S1, q, e1, fun ext H1 x f q1 fr r => ?_⟩
  simp only at e2
  split at e2
  · cases e2
    obtain rfl := rp_bl r
    exact ⟨_, rfl, (p.at f q1 fr).now q1 (.bl _)⟩
  · cases e2
theorem de_if (hc : PT X c (rdT X.K T)) (ha : PE X a (rdE X.K A)) (hb : PE X b (rdE X.K B)) : PE X (.IfExp c a b pos) (rdE X.K (vIf T A B)) := wkE (pe_ifExp hc ha hb) fun σ H Q q => by
  obtain ⟨m, S, ρ, w, S', q, e, p⟩ := q
  obtain ⟨⟨c, S1⟩, e1, e2⟩ := Option.bind_eq_some_iff.mp e
  refine ⟨m, S, ρ, c, S1, q, e1, fun ext H1 f q1 fr => ?_⟩
  cases c with
  | true => exact ⟨_, S1, ρ, w, S', q1, by simpa using e2, p.at f q1 fr⟩
  | false => exact ⟨_, S1, ρ, w, S', q1, by simpa using e2, p.at f q1 fr⟩

/-! ### chains -/
def vChain (f g : W → W → Sto → Option (W × Sto)) (A B C : ME) : ME := fun ρ S => (A ρ S).bind fun p => (B ρ p.2).bind fun q => (f p.1 q.1 q.2).bind fun z => match z.1 with
  | .d (.bool k) => if k = true then (C ρ z.2).bind fun r => g q.1 r.1 r.2 else some (.d (.bool false), z.2)
  | _ => none
theorem rd_chain {f g : W → W → Sto → Option (W × Sto)} {K : PySem.W.Frag} {σ : L2.St} {H : Hp} {Q : VK} (h : rdE K (vChain f g A B C) σ H Q) : tChain (rOp K f) (rOp K g) (rdE K A) (rdE K B) (rdE K C) σ H Q := by
  obtain ⟨m, S, ρ, w, S', q, e, p⟩ := h
  obtain ⟨⟨wx, S1⟩, e1, e⟩ := Option.bind_eq_some_iff.mp e
  obtain ⟨⟨wy, S2⟩, e2, e⟩ := Option.bind_eq_some_iff.mp e
  obtain ⟨⟨wz, S3⟩, e3, e⟩ := Option.bind_eq_some_iff.mp e
  refine ⟨m, S, ρ, wx, S1, q, e1, fun ext H1 x f1 q1 fr1 r1 => ⟨_, S1, ρ, wy, S2, q1, e2, fun ext2 H2 y f2 q2 fr2 r2 => ?_⟩⟩
  have p1 := p.at f1 q1 fr1
  have p2 := p1.at f2 q2 fr2
  refine ⟨_, S2, ρ, σ, wx, wy, wz, S3, q2, r1.mono fr2.kp, r2, e3, fun ext3 H3 z f3 q3 fr3 r3 => ?_⟩
  have p3 := p2.at f3 q3 fr3
  simp only at e
  split at e
  · rename_i k
    obtain rfl := rp_bl r3
    refine ⟨_, rfl, ?_⟩
    cases k with
    | false =>
      simp only [Bool.false_eq_true, if_false] at e
      cases e
      exact p3.now q3 (.bl _)
    | true =>
      simp only [if_true] at e
      obtain ⟨⟨wc, S4⟩, e4, e5⟩ := Option.bind_eq_some_iff.mp e
      exact ⟨_, S3, ρ, wc, S4, q3, e4, fun ext4 H4 z f4 q4 fr4 r4 => ⟨_, S4, ρ, σ, wy, wc, w, S', q4, (r2.mono fr3.kp).mono fr4.kp, r4, e5, p3.at f4 q4 fr4⟩⟩
  · cases e
theorem de_chain {op op' : CmpOp} {f g : W → W → Sto → Option (W × Sto)} (ho : OpR X (compareOp op) (rOp X.K f)) (ho' : OpR X (compareOp op') (rOp X.K g)) (ha : PE X a (rdE X.K A)) (hb : PE X b (rdE X.K B)) (hc : PE X c (rdE X.K C))
    (hm : lastMarks [op, op'] [b, c] = false := by with_unfolding_all rfl) : PE X (.Compare a [op, op'] [b, c] pos) (rdE X.K (vChain f g A B C)) := wkE (pe_chain ho ho' ha hb hc hm) fun σ H Q q => rd_chain q
theorem dt_chain {op op' : CmpOp} {f g : W → W → Sto → Option (W × Sto)} (ho : OpR X (compareOp op) (rOp X.K f)) (ho' : OpR X (compareOp op') (rOp X.K g)) (ha : PE X a (rdE X.K A)) (hb : PE X b (rdE X.K B)) (hc : PE X c (rdE X.K C))
    (hm : lastMarks [op, op'] [b, c] = false := by with_unfolding_all rfl) : PT X (.Compare a [op, op'] [b, c] pos) (rdT X.K (tOf (vChain f g A B C))) := wkT (pt_chain ho ho' ha hb hc hm) fun σ H Q q => rd_chain (rd_tof q)
end
end DL
end
noncomputable section
namespace DL
open PySem PySem.Spec PyProof.Rows L2

section
variable {X : Cx} {e a b c : Expr} {rest es : List Expr} {pos : Pos} {A B C : ME} {T U : MT} {R : MA}

/-! ### subscripts -/
def idxD : W → W → Sto → Option (W × Sto)
  | .d (.list ds), .d (.int i), S => (atI ds i).map fun x => (.d x, S)
  | .d (.tuple ds), .d (.int i), S => (atI ds i).map fun x => (.d x, S)
  | .loc n, .d (.int i), S => match S[n]? with
    | some (.lst ws) => (atI ws i).map fun w => (w, S)
    | _ => none
  | _, _, _ => none
theorem rpAll_at {K : PySem.W.Frag} {H : Hp} {vs : List V} {ds : List PyData} {i : Int} {x : PyData} (r : RpAll K H vs ds) (e : atI ds i = some x) : ∃ v, atI vs i = some v ∧ Rp K H v x := by
  unfold atI at *
  rw [r.length]
  obtain ⟨j, e1, e2⟩ := Option.bind_eq_some_iff.mp e
  obtain ⟨v, h1, h2⟩ := r.get e2
  exact ⟨v, by rw [e1]; exact h1, h2⟩
theorem paired_getR {α β : Type} {F : α → β → Prop} : ∀ {xs : List α} {ys : List β} {i : Nat} {y : β}, Paired F xs ys → ys[i]? = some y → ∃ x, xs[i]? = some x ∧ F x y
  | _, _, _, _, .nil, e => by simp at e
  | _, _, 0, _, .cons r _, e => by simp at e; subst e; exact ⟨_, rfl, r⟩
  | _, _, i + 1, y, .cons _ t, e => by
    obtain ⟨v, h1, h2⟩ := paired_getR (i := i) (y := y) t (by simpa using e)
    exact ⟨v, by simpa using h1, h2⟩
theorem paired_at {α β : Type} {F : α → β → Prop} {vs : List α} {ds : List β} {i : Int} {x : β} (r : Paired F vs ds) (e : atI ds i = some x) : ∃ v, atI vs i = some v ∧ F v x := by
  unfold atI at *
  rw [r.length]
  obtain ⟨j, e1, e2⟩ := Option.bind_eq_some_iff.mp e
  obtain ⟨v, h1, h2⟩ := paired_getR r e2
  exact ⟨v, by rw [e1]; exact h1, h2⟩
theorem ix_D : IxR X (rOp X.K idxD) := by
  intro value slice pins s σ H x y v u Q I rx ry h hs
  obtain ⟨m, S, ρ, σ', wx, wy, w, S', q, hx, hy, e, p⟩ := h
  unfold idxD at e
  split at e
  · obtain ⟨z, e1, e2⟩ := Option.map_eq_some_iff.mp e
    cases e2
    obtain ⟨t, xs, rfl, h1, r1⟩ := rp_lst hx
    obtain rfl := rp_int hy
    obtain ⟨v2, h2, r2⟩ := rpAll_at r1 e1
    exact ix_list value slice pins s σ H _ _ v u Q I rx ry ⟨t, xs, _, v2, rfl, rfl, h1.sq, h2, p.now q r2⟩ hs
  · obtain ⟨z, e1, e2⟩ := Option.map_eq_some_iff.mp e
    cases e2
    obtain ⟨t, xs, rfl, h1, r1⟩ := rp_tup hx
    obtain rfl := rp_int hy
    obtain ⟨v2, h2, r2⟩ := rpAll_at r1 e1
    exact ix_tup value slice pins s σ H _ _ v u Q I rx ry ⟨t, xs, _, v2, rfl, rfl, h1, h2, p.now q r2⟩ hs
  · split at e
    · rename_i ws hws
      obtain ⟨z, e1, e2⟩ := Option.map_eq_some_iff.mp e
      cases e2
      obtain ⟨t, ht, rfl⟩ := hx
      obtain rfl := rp_int hy
      obtain ⟨t2, ht2, vs, hv, pr⟩ := q.obs _ _ hws
      rw [ht] at ht2; cases ht2
      obtain ⟨v2, h2, r2⟩ := paired_at pr e1
      exact ix_list value slice pins s σ H _ _ v u Q I rx ry ⟨t, vs, _, v2, rfl, rfl, .of hv, h2, p.now q r2⟩ hs
    · cases e
  · cases e
theorem de_ix (ha : PE X a (rdE X.K A)) (hb : PE X b (rdE X.K B)) (hs : PlainIx b := by exact fun _ _ => rfl) : PE X (.Subscript a b pos) (rdE X.K (mBin idxD A B)) := wkE (pe_ix ix_D ha hb hs) fun σ H Q q => binE q

/-! ### slices -/
abbrev MO := DEnv → Sto → Option (Option Int × Sto)
def oNo : MO := fun _ S => some (none, S)
def oYes (A : ME) : MO := fun ρ S => (A ρ S).bind fun p => match p.1 with
  | .d (.int i) => some (some i, p.2)
  | _ => none
def PostO (K : PySem.W.Frag) (m : List Addr) (S' : Sto) (ρ : DEnv) (σ : L2.St) (H : Hp) (o : Option Int) (Q : Option Int → Hp → Prop) : Prop :=
  ∀ ext H', Fresh ext H → Sim K (m ++ ext) S' ρ σ H' → Fr m H H' → Q o H'
def rdO (K : PySem.W.Frag) (f : MO) : TO := fun σ H Q => ∃ m S ρ o S', Sim K m S ρ σ H ∧ f ρ S = some (o, S') ∧ PostO K m S' ρ σ H o Q
theorem do_no : PO X none (rdO X.K oNo) := ⟨fun pins s σ H Q I h => po_none.run pins s σ H Q I (by
  obtain ⟨m, S, ρ, o, S', q, e, p⟩ := h
  cases e
  exact p [] H (fun _ h => absurd h (by simp)) (by rwa [List.append_nil]) Fr.refl)⟩
theorem do_yes (ha : PE X a (rdE X.K A)) : PO X (some a) (rdO X.K (oYes A)) := ⟨fun pins s σ H Q I h => (po_some ha).run pins s σ H Q I (by
  obtain ⟨m, S, ρ, o, S', q, e, p⟩ := h
  obtain ⟨⟨wx, S1⟩, e1, e2⟩ := Option.bind_eq_some_iff.mp e
  refine ⟨m, S, ρ, wx, S1, q, e1, fun ext H1 x f q1 fr r => ?_⟩
  simp only at e2
  split at e2
  · cases e2
    obtain rfl := rp_int r
    exact ⟨_, rfl, p ext H1 f q1 fr⟩
  · cases e2)⟩
def cutD {α : Type} (xs : List α) (lo hi : Option Int) : List α := (xs.drop (HT.sIx xs.length 0 lo)).take (HT.sIx xs.length xs.length hi - HT.sIx xs.length 0 lo)
def sliceD : W → Option Int → Option Int → Sto → Option (W × Sto)
  | .d (.list ds), lo, hi, S => some (.d (.list (cutD ds lo hi)), S)
  | .d (.tuple ds), lo, hi, S => some (.d (.tuple (cutD ds lo hi)), S)
  | .loc n, lo, hi, S => match S[n]? with
    | some (.lst ws) => (allD ws).bind fun ds => some (.d (.list (cutD ds lo hi)), S)
    | _ => none
  | _, _, _, _ => none
def mSl (A : ME) (L U : MO) : ME := fun ρ S => (A ρ S).bind fun p => (L ρ p.2).bind fun l => (U ρ l.2).bind fun u => sliceD p.1 l.1 u.1 u.2
def rSl (K : PySem.W.Frag) : V → Option Int → Option Int → Hp → VK → Prop := fun x lo hi H Q => ∃ m S ρ σ wx w S', Sim K m S ρ σ H ∧ RW K m H x wx ∧ sliceD wx lo hi S = some (w, S') ∧ Post K m S' ρ σ H w Q
theorem rpAll_cut {K : PySem.W.Frag} {H : Hp} {vs : List V} {ds : List PyData} (r : RpAll K H vs ds) (lo hi : Option Int) : RpAll K H (cutV vs lo hi) (cutD ds lo hi) := by
  unfold cutV cutD
  rw [r.length]
  exact (r.drop _).take _
theorem sl_D : SlR X (rSl X.K) := by
  intro pins s σ H x v vl vu lo hi sl Q I rx hs pl pu h
  obtain ⟨m, S, ρ, σ', wx, w, S', q, hx, e, p⟩ := h
  unfold sliceD at e
  split at e
  · cases e
    obtain ⟨t, xs, rfl, h1, r1⟩ := rp_lst hx
    exact slFrz sl_list pins s σ H _ v vl vu _ _ sl Q I rx hs pl pu ⟨t, xs, rfl, h1.sq, fun t ht => newL p q (rpAll_cut r1 _ _) t ht⟩
  · cases e
    obtain ⟨t, xs, rfl, h1, r1⟩ := rp_tup hx
    refine sl_tupA pins s σ H _ v vl vu _ _ sl Q I rx hs pl pu ⟨t, xs, rfl, h1, fun hw => ?_, fun _ t ht => newT p q (rpAll_cut r1 _ _) t ht⟩
    refine p.now q ?_
    have e : ∀ ds : List PyData, RpAll X.K H xs ds → cutD ds lo hi = ds := fun ds r => by
      unfold cutD
      rw [← r.length, hw.1, hw.2]
      simp [r.length]
    rw [e _ r1]
    exact .tup h1 r1
  · split at e
    · rename_i ws hws
      obtain ⟨ds, e1, e2⟩ := Option.bind_eq_some_iff.mp e
      cases e2
      obtain ⟨t, ht, rfl⟩ := hx
      obtain ⟨t2, ht2, vs, hv, pr⟩ := q.obs _ _ hws
      rw [ht] at ht2; cases ht2
      exact slFrz sl_list pins s σ H _ v vl vu _ _ sl Q I rx hs pl pu ⟨t, vs, rfl, .of hv, fun t ht => newL p q (rpAll_cut (allD_of e1 pr) _ _) t ht⟩
    · cases e
  · cases e
theorem de_sl {lo hi : Option Expr} {p2 : Pos} {L U : MO} (ha : PE X a (rdE X.K A)) (hl : PO X lo (rdO X.K L)) (hu : PO X hi (rdO X.K U)) : PE X (.Subscript a (.Slice lo hi none p2) pos) (rdE X.K (mSl A L U)) := wkE (pe_slice sl_D ha hl hu) fun σ H Q q => by
  obtain ⟨m, S, ρ, w, S', q, e, p⟩ := q
  obtain ⟨⟨wx, S1⟩, e1, e⟩ := Option.bind_eq_some_iff.mp e
  obtain ⟨⟨l, S2⟩, e2, e⟩ := Option.bind_eq_some_iff.mp e
  obtain ⟨⟨u, S3⟩, e3, e⟩ := Option.bind_eq_some_iff.mp e
  refine ⟨m, S, ρ, wx, S1, q, e1, fun ext H1 x f1 q1 fr1 r1 => ⟨_, S1, ρ, l, S2, q1, e2, fun ext2 H2 f2 q2 fr2 => ⟨_, S2, ρ, u, S3, q2, e3, fun ext3 H3 f3 q3 fr3 => ?_⟩⟩⟩
  exact ⟨_, S3, ρ, σ, wx, w, S', q3, (r1.mono fr2.kp).mono fr3.kp, e, ((p.at f1 q1 fr1).at f2 q2 fr2).at f3 q3 fr3⟩

/-! ### calls of built-ins -/
theorem de_callB {f : List W → Sto → Option (W × Sto)} {x : Str} {id : String} {p : Pos} (hc : CallR X (.builtin id) (rC X.K f)) (hg : Gl X x) (hm : X.mg x = none) (hv : bootBuiltins x = some (.builtin id)) (ha : PA X (e :: es) (rdA X.K R)) (hn : x ≠ "__name__" := by decide) (hdb : (x == ("__debug__" : Str)) = false := by decide)
    (he : starEach (e :: es) X.env = (false, eval e X.env) :: starEach es X.env := by rfl) (hpl : (backTo pos (starEach es X.env)).any (·.1) = false := by rfl) : PE X (.Call (.Name x p) (e :: es) [] pos) (rdE X.K (mCall f R)) :=
  wkE (pe_callB hc hg hm hv ha hn hdb he hpl) fun σ H Q q => callE q fun _ _ h => h
theorem de_callTy {f : List W → Sto → Option (W × Sto)} {x : Str} {T : String} {p : Pos} (hc : CallR X (.type T) (rC X.K f)) (hg : Gl X x) (hm : X.mg x = none) (hv : bootBuiltins x = some (.type T)) (ha : PA X (e :: es) (rdA X.K R)) (hn : x ≠ "__name__" := by decide) (hdb : (x == ("__debug__" : Str)) = false := by decide)
    (he : starEach (e :: es) X.env = (false, eval e X.env) :: starEach es X.env := by rfl) (hpl : (backTo pos (starEach es X.env)).any (·.1) = false := by rfl) : PE X (.Call (.Name x p) (e :: es) [] pos) (rdE X.K (mCall f R)) :=
  wkE (pe_callTy hc hg hm hv ha hn hdb he hpl) fun σ H Q q => callE q fun _ _ h => h
theorem prd1 {K : PySem.W.Frag} {m : List Addr} {H : Hp} {vs : List V} {w : W} (r : Paired (RW K m H) vs [w]) : ∃ v, vs = [v] ∧ RW K m H v w := by
  cases r with
  | cons r t => cases t; exact ⟨_, rfl, r⟩
theorem prd2 {K : PySem.W.Frag} {m : List Addr} {H : Hp} {vs : List V} {w w' : W} (r : Paired (RW K m H) vs [w, w']) : ∃ v v', vs = [v, v'] ∧ RW K m H v w ∧ RW K m H v' w' := by
  cases r with
  | cons r t =>
    obtain ⟨v, rfl, r2⟩ := prd1 t
    exact ⟨_, _, rfl, r, r2⟩
/-- one argument -/
def on1 (f : W → Sto → Option (W × Sto)) : List W → Sto → Option (W × Sto)
  | [w], S => f w S
  | _, _ => none
theorem rC1 {K : PySem.W.Frag} {f : W → Sto → Option (W × Sto)} {vs : List V} {H : Hp} {Q : VK} (h : rC K (on1 f) vs H Q) : ∃ m S ρ σ w0 w S' v, vs = [v] ∧ Sim K m S ρ σ H ∧ RW K m H v w0 ∧ f w0 S = some (w, S') ∧ Post K m S' ρ σ H w Q := by
  obtain ⟨m, S, ρ, σ, ws, w, S', q, r, e, p⟩ := h
  unfold on1 at e
  split at e
  · obtain ⟨v, rfl, r1⟩ := prd1 r
    exact ⟨m, S, ρ, σ, _, w, S', v, rfl, q, r1, e, p⟩
  · cases e
def len0 (S : Sto) : W → Option Nat
  | .d (.str y) => if y.length ≤ sizeLine then some y.length else none
  | .d (.list ds) => some ds.length
  | .d (.tuple ds) => some ds.length
  | .loc n => match S[n]? with
    | some (.lst ws) => some ws.length
    | _ => none
  | _ => none
def lenD := on1 fun w S => (len0 S w).map fun n => (.d (.int (n : Nat)), S)
theorem call_lenDD : CallR X (.builtin "len") (rC X.K lenD) := by
  intro pins s σ H vs us Q I rx h
  obtain ⟨m, S, ρ, σ', w0, w, S', v, rfl, q, r, e, p⟩ := rC1 h
  obtain ⟨n, e1, e2⟩ := Option.map_eq_some_iff.mp e
  cases e2
  refine call_len pins s σ H _ us Q I rx ⟨v, n, rfl, ?_, p.now q (.int _)⟩
  cases w0 with
  | d x =>
    cases x with
    | str y =>
      obtain rfl := rp_str r
      simp only [len0] at e1
      split at e1
      · cases e1; exact ⟨by assumption, rfl⟩
      · cases e1
    | list ds =>
      obtain ⟨a, xs, rfl, h, r1⟩ := rp_lst r
      cases e1
      exact .inl ⟨xs, h.sq, r1.length.symm⟩
    | tuple ds =>
      obtain ⟨a, xs, rfl, h, r1⟩ := rp_tup r
      cases e1
      exact .inr ⟨xs, h, r1.length.symm⟩
    | none => cases e1
    | bool _ => cases e1
    | int _ => cases e1
    | dict _ => cases e1
  | loc n =>
    obtain ⟨a, hm, rfl⟩ := r
    simp only [len0] at e1
    split at e1
    · rename_i ws hs
      cases e1
      obtain ⟨b, hb, vs, hv, pr⟩ := q.obs _ _ hs
      rw [hm] at hb; cases hb
      exact .inl ⟨vs, .of hv, pr.length.symm⟩
    · cases e1
def intD := on1 fun w S => match w with
  | .d (.int i) => some (.d (.int i), S)
  | .d (.bool b) => some (.d (.int (if b then 1 else 0)), S)
  | _ => none
theorem call_intDD : CallR X (.type "int") (rC X.K intD) := by
  intro pins s σ H vs us Q I rx h
  obtain ⟨m, S, ρ, σ', w0, w, S', v, rfl, q, r, e, p⟩ := rC1 h
  split at e
  · cases e
    obtain rfl := rp_int r
    exact call_int1 pins s σ H _ us Q I rx (.inl ⟨_, rfl, p.now q (.int _)⟩)
  · cases e
    obtain rfl := rp_bl r
    exact call_int1 pins s σ H _ us Q I rx (.inr ⟨_, rfl, p.now q (.int _)⟩)
  · cases e
def absD := on1 fun w S => match w with
  | .d (.int i) => some (.d (.int (if i < 0 then -i else i)), S)
  | _ => none
theorem call_absDD : CallR X (.builtin "abs") (rC X.K absD) := by
  intro pins s σ H vs us Q I rx h
  obtain ⟨m, S, ρ, σ', w0, w, S', v, rfl, q, r, e, p⟩ := rC1 h
  split at e
  · cases e
    obtain rfl := rp_int r
    exact call_abs pins s σ H _ us Q I rx ⟨_, rfl, p.now q (.int _)⟩
  · cases e
def ii2 (g : Int → Int → Int) : List W → Sto → Option (W × Sto)
  | [.d (.int i), .d (.int j)], S => some (.d (.int (g i j)), S)
  | _, _ => none
theorem call_ii2 {f : Value} {g : Int → Int → Int} (h : CallR X f (fun xs H Q => ∃ i j, xs = [.int i, .int j] ∧ Q (.int (g i j)) H)) : CallR X f (rC X.K (ii2 g)) := by
  intro pins s σ H vs us Q I rx h2
  obtain ⟨m, S, ρ, σ', ws, w, S', q, r, e, p⟩ := h2
  unfold ii2 at e
  split at e
  · cases e
    obtain ⟨v, v', rfl, r1, r2⟩ := prd2 r
    obtain rfl := rp_int r1
    obtain rfl := rp_int r2
    exact h pins s σ H _ us Q I rx ⟨_, _, rfl, p.now q (.int _)⟩
  · cases e
/-- tuple(x) -/
def tupleD := on1 fun w S => match w with
  | .d (.tuple ds) => some (.d (.tuple ds), S)
  | w => (deref S w).bind fun d => match d with
    | .list ds => some (.d (.tuple ds), S)
    | _ => none
theorem deref_list {K : PySem.W.Frag} {m : List Addr} {S : Sto} {ρ : DEnv} {σ : L2.St} {H : Hp} {v : V} {w : W} {ds : List PyData} (q : Sim K m S ρ σ H) (r : RW K m H v w) (e : deref S w = some (.list ds)) : ∃ a xs, v = .ref a ∧ SqL K H a xs ∧ RpAll K H xs ds := by
  cases w with
  | d x =>
    cases e
    obtain ⟨a, xs, rfl, h, r1⟩ := rp_lst r
    exact ⟨a, xs, rfl, h.sq, r1⟩
  | loc n =>
    obtain ⟨a, h, rfl⟩ := r
    simp only [deref] at e
    split at e
    · rename_i ws hs
      obtain ⟨ds, e1, e2⟩ := Option.map_eq_some_iff.mp e
      cases e2
      obtain ⟨b, hb, vs, hv, pr⟩ := q.obs n _ hs
      rw [h] at hb; cases hb
      exact ⟨a, vs, rfl, .of hv, allD_of e1 pr⟩
    · cases e
theorem call_tupleDD : CallR X (.type "tuple") (rC X.K tupleD) := by
  intro pins s σ H vs us Q I rx h
  obtain ⟨m, S, ρ, σ', w0, w, S', v, rfl, q, r, e, p⟩ := rC1 h
  split at e
  · cases e
    obtain ⟨a, xs, rfl, h, r1⟩ := rp_tup r
    exact call_tuple_of pins s σ H _ us Q I rx ⟨a, xs, rfl, .inr ⟨h, p.now q (.tup h r1)⟩⟩
  · obtain ⟨d, e1, e2⟩ := Option.bind_eq_some_iff.mp e
    split at e2
    · cases e2
      obtain ⟨a, xs, rfl, h, r1⟩ := deref_list q r e1
      exact call_tuple_of pins s σ H _ us Q I rx ⟨a, xs, rfl, .inl ⟨h, fun t ht => newT p q r1 t ht⟩⟩
    · cases e2
/-- list(x): a new list, locked, or an object -/
def seqOf (S : Sto) : W → Option (List PyData)
  | .d (.tuple ds) => some ds
  | w => (deref S w).bind fun d => match d with
    | .list ds => some ds
    | _ => none
theorem seqOf_of {K : PySem.W.Frag} {m : List Addr} {S : Sto} {ρ : DEnv} {σ : L2.St} {H : Hp} {v : V} {w : W} {ds : List PyData} (q : Sim K m S ρ σ H) (r : RW K m H v w) (e : seqOf S w = some ds) : ∃ a xs, v = .ref a ∧ (SqL K H a xs ∨ SqT K H a xs) ∧ RpAll K H xs ds := by
  unfold seqOf at e
  split at e
  · cases e
    obtain ⟨a, xs, rfl, h, r1⟩ := rp_tup r
    exact ⟨a, xs, rfl, .inr h, r1⟩
  · obtain ⟨d, e1, e2⟩ := Option.bind_eq_some_iff.mp e
    split at e2
    · cases e2
      obtain ⟨a, xs, rfl, h, r1⟩ := deref_list q r e1
      exact ⟨a, xs, rfl, .inl h, r1⟩
    · cases e2
def listD := on1 fun w S => (seqOf S w).map fun ds => (.d (.list ds), S)
def listB := on1 fun w S => (seqOf S w).map fun ds => (.loc S.length, S ++ [.lst (ds.map W.d)])
theorem call_listDD : CallR X (.type "list") (rC X.K listD) := by
  intro pins s σ H vs us Q I rx h
  obtain ⟨m, S, ρ, σ', w0, w, S', v, rfl, q, r, e, p⟩ := rC1 h
  obtain ⟨ds, e1, e2⟩ := Option.map_eq_some_iff.mp e
  cases e2
  obtain ⟨a, xs, rfl, h, r1⟩ := seqOf_of q r e1
  exact callFrz call_list_of pins s σ H _ us Q I rx ⟨a, xs, rfl, h, fun t ht => newL p q r1 t ht⟩
theorem call_listBB : CallR X (.type "list") (rC X.K listB) := by
  intro pins s σ H vs us Q I rx h
  obtain ⟨m, S, ρ, σ', w0, w, S', v, rfl, q, r, e, p⟩ := rC1 h
  obtain ⟨ds, e1, e2⟩ := Option.map_eq_some_iff.mp e
  cases e2
  obtain ⟨a, xs, rfl, h, r1⟩ := seqOf_of q r e1
  exact call_list_of pins s σ H _ us Q I rx ⟨a, xs, rfl, h, fun t ht => newB p q (rpAll_rw r1) t ht⟩
/-- lists of ints, of bools -/
def intsD : List PyData → Option (List Int)
  | [] => some []
  | .int i :: ds => (intsD ds).map (i :: ·)
  | _ :: _ => none
def blsD : List PyData → Option (List Bool)
  | [] => some []
  | .bool i :: ds => (blsD ds).map (i :: ·)
  | _ :: _ => none
theorem intsD_of {K : PySem.W.Frag} {H : Hp} : ∀ {ds : List PyData} {ns : List Int} {vs : List V}, intsD ds = some ns → RpAll K H vs ds → vs = ns.map V.int
  | [], _, _, e, .nil => by cases e; rfl
  | .int i :: ds, ns, _, e, .cons r t => by
    simp only [intsD, Option.map_eq_some_iff] at e
    obtain ⟨es, e1, rfl⟩ := e
    obtain rfl := rp_int r
    rw [intsD_of e1 t]; rfl
  | .none :: _, _, _, e, _ => by cases e
  | .bool _ :: _, _, _, e, _ => by cases e
  | .str _ :: _, _, _, e, _ => by cases e
  | .list _ :: _, _, _, e, _ => by cases e
  | .tuple _ :: _, _, _, e, _ => by cases e
  | .dict _ :: _, _, _, e, _ => by cases e
theorem blsD_of {K : PySem.W.Frag} {H : Hp} : ∀ {ds : List PyData} {ns : List Bool} {vs : List V}, blsD ds = some ns → RpAll K H vs ds → vs = ns.map V.bl
  | [], _, _, e, .nil => by cases e; rfl
  | .bool i :: ds, ns, _, e, .cons r t => by
    simp only [blsD, Option.map_eq_some_iff] at e
    obtain ⟨es, e1, rfl⟩ := e
    obtain rfl := rp_bl r
    rw [blsD_of e1 t]; rfl
  | .none :: _, _, _, e, _ => by cases e
  | .int _ :: _, _, _, e, _ => by cases e
  | .str _ :: _, _, _, e, _ => by cases e
  | .list _ :: _, _, _, e, _ => by cases e
  | .tuple _ :: _, _, _, e, _ => by cases e
  | .dict _ :: _, _, _, e, _ => by cases e
def sumD := on1 fun w S => (deref S w).bind fun d => match d with
  | .list ds => (intsD ds).map fun ns => (.d (.int ns.sum), S)
  | _ => none
theorem call_sumDD (hc : X.calm = true) : CallR X (.builtin "sum") (rC X.K sumD) := by
  intro pins s σ H vs us Q I rx h
  obtain ⟨m, S, ρ, σ', w0, w, S', v, rfl, q, r, e, p⟩ := rC1 h
  obtain ⟨d, e1, e⟩ := Option.bind_eq_some_iff.mp e
  split at e
  · obtain ⟨ns, e2, e3⟩ := Option.map_eq_some_iff.mp e
    cases e3
    obtain ⟨a, xs, rfl, h, r1⟩ := deref_list q r e1
    obtain rfl := intsD_of e2 r1
    exact cr_sum hc pins s σ H _ us Q I rx ⟨a, ns, rfl, h, p.now q (.int _)⟩
  · cases e
def allDD := on1 fun w S => (deref S w).bind fun d => match d with
  | .list ds => (blsD ds).map fun ns => (.d (.bool (ns.all id)), S)
  | _ => none
def anyDD := on1 fun w S => (deref S w).bind fun d => match d with
  | .list ds => (blsD ds).map fun ns => (.d (.bool (ns.any id)), S)
  | _ => none
theorem call_allDD (hc : X.calm = true) : CallR X (.builtin "all") (rC X.K allDD) := by
  intro pins s σ H vs us Q I rx h
  obtain ⟨m, S, ρ, σ', w0, w, S', v, rfl, q, r, e, p⟩ := rC1 h
  obtain ⟨d, e1, e⟩ := Option.bind_eq_some_iff.mp e
  split at e
  · obtain ⟨ns, e2, e3⟩ := Option.map_eq_some_iff.mp e
    cases e3
    obtain ⟨a, xs, rfl, h, r1⟩ := deref_list q r e1
    obtain rfl := blsD_of e2 r1
    exact cr_all hc pins s σ H _ us Q I rx ⟨a, ns, rfl, h, p.now q (.bl _)⟩
  · cases e
theorem call_anyDD (hc : X.calm = true) : CallR X (.builtin "any") (rC X.K anyDD) := by
  intro pins s σ H vs us Q I rx h
  obtain ⟨m, S, ρ, σ', w0, w, S', v, rfl, q, r, e, p⟩ := rC1 h
  obtain ⟨d, e1, e⟩ := Option.bind_eq_some_iff.mp e
  split at e
  · obtain ⟨ns, e2, e3⟩ := Option.map_eq_some_iff.mp e
    cases e3
    obtain ⟨a, xs, rfl, h, r1⟩ := deref_list q r e1
    obtain rfl := blsD_of e2 r1
    exact cr_any hc pins s σ H _ us Q I rx ⟨a, ns, rfl, h, p.now q (.bl _)⟩
  · cases e
end
end DL
end
noncomputable section
namespace DL
open PySem PySem.Spec PyProof.Rows L2

section
variable {K : PySem.W.Frag} {H : Hp} {m : List Addr} {S : Sto} {ρ : DEnv} {σ : L2.St} {w : W} {Q : VK} {a : Addr} {n : Nat} {ws ws' : List W} {vs vs' : List V}
theorem put_kp {o : HO} (hv : H a = some (.lst vs)) : Kp H (upd H a o) := fun b u h i => by
  by_cases e : b = a
  · subst e; rw [hv] at h; cases h; exact absurd i (fun z => z)
  · rw [upd_ne e]; exact h
theorem put_fr {o : HO} (hm : m[n]? = some a) (hv : H a = some (.lst vs)) : Fr m H (upd H a o) := fun b u h c => by
  by_cases e : b = a
  · subst e
    rw [hv] at h; cases h
    rcases c with c | c
    · exact absurd (List.mem_of_getElem? hm) c
    · exact absurd c (fun z => z)
  · rw [upd_ne e]; exact h
theorem put_sim (q : Sim K m S ρ σ H) (hm : m[n]? = some a) (hS : S[n]? = some (.lst ws)) (hv : H a = some (.lst vs)) (pr : Paired (RW K m H) vs' ws') : Sim K m (S.set n (.lst ws')) ρ σ (upd H a (.lst vs')) :=
  q.put hm (fun u h => by rw [hv] at h; cases h; exact fun z => z) (List.getElem?_eq_some_iff.mp hS).1 ⟨vs', upd_same, Paired.mapP pr fun _ _ r => r.mono0 (put_kp hv)⟩
theorem Post.put {v : V} (p : Post K m (S.set n (.lst ws')) ρ σ H w Q) (q : Sim K m S ρ σ H) (hm : m[n]? = some a) (hS : S[n]? = some (.lst ws)) (hv : H a = some (.lst vs)) (pr : Paired (RW K m H) vs' ws') (r : RW K m H v w) : Q v (upd H a (.lst vs')) :=
  p [] _ v (fun _ h => absurd h (by simp)) (by rw [List.append_nil]; exact put_sim q hm hS hv pr) (put_fr hm hv) (by rw [List.append_nil]; exact r.mono0 (put_kp hv))
theorem paired_app {α β : Type} {F : α → β → Prop} : ∀ {xs us : List α} {ys zs : List β}, Paired F xs ys → Paired F us zs → Paired F (xs ++ us) (ys ++ zs)
  | _, _, _, _, .nil, s => s
  | _, _, _, _, .cons r t, s => .cons r (paired_app t s)
theorem paired_take {α β : Type} {F : α → β → Prop} : ∀ {xs : List α} {ys : List β} (n : Nat), Paired F xs ys → Paired F (xs.take n) (ys.take n)
  | _, _, 0, _ => .nil
  | _, _, _ + 1, .nil => .nil
  | _, _, n + 1, .cons r t => .cons r (paired_take n t)
theorem paired_drop {α β : Type} {F : α → β → Prop} : ∀ {xs : List α} {ys : List β} (n : Nat), Paired F xs ys → Paired F (xs.drop n) (ys.drop n)
  | _, _, 0, r => r
  | _, _, _ + 1, .nil => .nil
  | _, _, n + 1, .cons _ t => paired_drop n t
theorem paired_rev {α β : Type} {F : α → β → Prop} : ∀ {xs : List α} {ys : List β}, Paired F xs ys → Paired F xs.reverse ys.reverse
  | _, _, .nil => .nil
  | _, _, .cons r t => by
    rw [List.reverse_cons, List.reverse_cons]
    exact paired_app (paired_rev t) (.cons r .nil)
theorem paired_set {α β : Type} {F : α → β → Prop} {x : α} {y : β} (r : F x y) : ∀ {xs : List α} {ys : List β} (i : Nat), Paired F xs ys → Paired F (xs.set i x) (ys.set i y)
  | _, _, _, .nil => .nil
  | _, _, 0, .cons _ t => .cons r t
  | _, _, i + 1, .cons q t => .cons q (paired_set r i t)
theorem paired_erase {α β : Type} {F : α → β → Prop} : ∀ {xs : List α} {ys : List β} (i : Nat), Paired F xs ys → Paired F (xs.eraseIdx i) (ys.eraseIdx i)
  | _, _, _, .nil => .nil
  | _, _, 0, .cons _ t => t
  | _, _, i + 1, .cons q t => .cons q (paired_erase i t)
theorem paired_dropLast {α β : Type} {F : α → β → Prop} {xs : List α} {ys : List β} (h : Paired F xs ys) : Paired F xs.dropLast ys.dropLast := by
  rw [List.dropLast_eq_take, List.dropLast_eq_take, h.length]
  exact paired_take _ h
end

/-! ### methods of a list of the store -/
/-- the n-th object is a list -/
def onL (f : List W → List W → Sto → Option (W × List W × Sto)) : W → List W → Sto → Option (W × Sto)
  | .loc n, us, S => match S[n]? with
    | some (.lst ws) => (f ws us S).bind fun p => some (p.1, p.2.2.set n (.lst p.2.1))
    | _ => none
  | _, _, _ => none
def isLst (S : Sto) : W → Bool
  | .loc n => match S[n]? with
    | some (.lst _) => true
    | _ => false
  | _ => false
def mMt (f : W → List W → Sto → Option (W × Sto)) (A : ME) (R : MA) : ME := fun ρ S => (A ρ S).bind fun p => if isLst p.2 p.1 = true then (R ρ p.2).bind fun q => f p.1 q.1 q.2 else none
def rM (K : PySem.W.Frag) (f : W → List W → Sto → Option (W × Sto)) : V → List V → Hp → VK → Prop := fun x vs H Q =>
  ∃ m S ρ σ wx ws w S', Sim K m S ρ σ H ∧ RW K m H x wx ∧ Paired (RW K m H) vs ws ∧ f wx ws S = some (w, S') ∧ Post K m S' ρ σ H w Q
section
variable {X : Cx} {e o a b c : Expr} {rest es : List Expr} {pos : Pos} {A B C : ME} {T U : MT} {R : MA} {f : W → List W → Sto → Option (W × Sto)}
theorem isLst_ty {K : PySem.W.Frag} {m : List Addr} {S : Sto} {ρ : DEnv} {σ : L2.St} {H : Hp} {v : V} {w : W} (q : Sim K m S ρ σ H) (r : RW K m H v w) (e : isLst S w = true) : tyV K "list" v H := by
  cases w with
  | d x => cases e
  | loc n =>
    obtain ⟨a, h, rfl⟩ := r
    simp only [isLst] at e
    split at e
    · rename_i ws hs
      obtain ⟨b, hb, vs, hv, pr⟩ := q.obs n _ hs
      rw [h] at hb; cases hb
      exact Or.inl ⟨rfl, _, .of hv⟩
    · cases e
theorem rd_mt {K : PySem.W.Frag} {σ : L2.St} {H : Hp} {Q : VK} (h : rdE K (mMt f A R) σ H Q) : tBM K "list" (rM K f) (rdE K A) (rdA K R) σ H Q := by
  obtain ⟨m, S, ρ, w, S', q, e, p⟩ := h
  obtain ⟨⟨wx, S1⟩, e1, e⟩ := Option.bind_eq_some_iff.mp e
  split at e
  · rename_i hl
    obtain ⟨⟨ws, S2⟩, e2, e3⟩ := Option.bind_eq_some_iff.mp e
    refine ⟨m, S, ρ, wx, S1, q, e1, fun ext H1 x f1 q1 fr1 r1 => ⟨isLst_ty q1 r1 hl, _, S1, ρ, ws, S2, q1, e2, fun ext2 H2 vs f2 q2 fr2 r2 => ?_⟩⟩
    exact ⟨_, S2, ρ, σ, wx, ws, w, S', q2, r1.mono fr2.kp, r2, e3, (p.at f1 q1 fr1).at f2 q2 fr2⟩
  · cases e
theorem rd_mt0 {K : PySem.W.Frag} {σ : L2.St} {H : Hp} {Q : VK} (h : rdE K (mMt f A mNil) σ H Q) : tBM0 K "list" (rM K f) (rdE K A) σ H Q := by
  obtain ⟨m, S, ρ, w, S', q, e, p⟩ := h
  obtain ⟨⟨wx, S1⟩, e1, e⟩ := Option.bind_eq_some_iff.mp e
  split at e
  · rename_i hl
    refine ⟨m, S, ρ, wx, S1, q, e1, fun ext H1 x f1 q1 fr1 r1 => ⟨isLst_ty q1 r1 hl, ?_⟩⟩
    exact ⟨_, S1, ρ, σ, wx, [], w, S', q1, r1, .nil, by simpa [mNil] using e, p.at f1 q1 fr1⟩
  · cases e
variable {name : Str} {apos cpos : Pos} {id : String}
theorem de_bm0 (slot : Slot "list" name id) (hty : typeOf (.builtin id) = pure (.type "method_descriptor")) (hm : MtR X id (rM X.K f)) (ho : PE X o (rdE X.K A))
    (hbase : attributeBase o name X.env (eval o X.env) = eval o X.env := by rfl) (hline : (apos.endLine == cpos.line) = true := by rfl) : PE X (.Call (.Attribute o name apos) [] [] cpos) (rdE X.K (mMt f A mNil)) :=
  wkE (pe_bm0 PySem.F.plainAttrs_list slot hty hm ho hbase hline) fun σ H Q q => rd_mt0 q
theorem de_bm (slot : Slot "list" name id) (hty : typeOf (.builtin id) = pure (.type "method_descriptor")) (hm : MtR X id (rM X.K f)) (ho : PE X o (rdE X.K A)) (ha : PA X (e :: es) (rdA X.K R))
    (hbase : attributeBase o name X.env (eval o X.env) = eval o X.env := by rfl)
    (hfew : ((backTo cpos (starEach (e :: es) X.env)).all (fun x => !x.1) && (backToKw cpos (keywordEach [] X.env)).all (fun x => x.1.isSome)
      && decide ((e :: es).length + ([] : List Keyword).length + (if ([] : List Keyword).isEmpty then 0 else 1) < 30)) = true := by rfl)
    (hline : (apos.endLine == cpos.line) = true := by rfl) (hs : starEach (e :: es) X.env = (false, eval e X.env) :: starEach es X.env := by rfl) (hplain : (backTo cpos (starEach es X.env)).any (·.1) = false := by rfl) :
    PE X (.Call (.Attribute o name apos) (e :: es) [] cpos) (rdE X.K (mMt f A R)) :=
  wkE (pe_bm PySem.F.plainAttrs_list slot hty hm ho ha hbase hfew hline hs hplain) fun σ H Q q => rd_mt q
/-- the list at hand -/
theorem rM_L {K : PySem.W.Frag} {f : List W → List W → Sto → Option (W × List W × Sto)} {x : V} {vs : List V} {H : Hp} {Q : VK} (h : rM K (onL f) x vs H Q) :
    ∃ m S ρ σ n a ws us w ws' S' zs, x = .ref a ∧ Sim K m S ρ σ H ∧ m[n]? = some a ∧ S[n]? = some (.lst ws) ∧ H a = some (.lst zs) ∧ Paired (RW K m H) zs ws ∧ Paired (RW K m H) vs us ∧ f ws us S = some (w, ws', S') ∧ Post K m (S'.set n (.lst ws')) ρ σ H w Q := by
  obtain ⟨m, S, ρ, σ, wx, us, w, S', q, r, ra, e, p⟩ := h
  unfold onL at e
  split at e
  · split at e
    · rename_i ws hs
      obtain ⟨⟨w0, ws', S0⟩, e1, e2⟩ := Option.bind_eq_some_iff.mp e
      cases e2
      obtain ⟨a, hm, rfl⟩ := r
      obtain ⟨b, hb, zs, hv, pr⟩ := q.obs _ _ hs
      rw [hm] at hb; cases hb
      exact ⟨m, S, ρ, σ, _, a, ws, _, _, ws', S0, zs, rfl, q, hm, hs, hv, pr, ra, e1, p⟩
    · cases e
  · cases e
def appendF := onL fun ws us S => match us with
  | [w] => if ws.length < sizeLine then some (.d .none, ws ++ [w], S) else none
  | _ => none
theorem mt_appendD : MtR X "list.append" (rM X.K appendF) := by
  intro pins s σ H x xs v us Q I rx rs h
  obtain ⟨m, S, ρ, σ', n, a, ws, us', w, ws', S', zs, rfl, q, hm, hs, hv, pr, ra, e, p⟩ := rM_L h
  split at e
  · split at e
    · rename_i hl
      cases e
      obtain ⟨y, rfl, ry⟩ := prd1 ra
      exact mt_append pins s σ H _ _ v us Q I rx rs ⟨a, zs, y, rfl, rfl, hv, by rw [pr.length]; exact hl, p.put q hm hs hv (paired_app pr (.cons ry .nil)) .non⟩
    · cases e
  · cases e
def popF := onL fun ws us S => match us with
  | [] => (ws[ws.length - 1]?).map fun w => (w, ws.dropLast, S)
  | _ => none
theorem mt_popD : MtR X "list.pop" (rM X.K popF) := by
  intro pins s σ H x xs v us Q I rx rs h
  obtain ⟨m, S, ρ, σ', n, a, ws, us', w, ws', S', zs, rfl, q, hm, hs, hv, pr, ra, e, p⟩ := rM_L h
  split at e
  · obtain ⟨w0, e1, e2⟩ := Option.map_eq_some_iff.mp e
    cases e2
    cases ra
    obtain ⟨y, hy, ry⟩ := paired_getR pr e1
    exact mt_pop pins s σ H _ _ v us Q I rx rs ⟨a, zs, y, rfl, rfl, hv, by rw [pr.length]; exact hy, p.put q hm hs hv (paired_dropLast pr) ry⟩
  · cases e
def reverseF := onL fun ws us S => match us with
  | [] => some (.d .none, ws.reverse, S)
  | _ => none
theorem mt_reverseD : MtR X "list.reverse" (rM X.K reverseF) := by
  intro pins s σ H x xs v us Q I rx rs h
  obtain ⟨m, S, ρ, σ', n, a, ws, us', w, ws', S', zs, rfl, q, hm, hs, hv, pr, ra, e, p⟩ := rM_L h
  split at e
  · cases e
    cases ra
    exact mt_reverse pins s σ H _ _ v us Q I rx rs ⟨a, zs, rfl, rfl, hv, p.put q hm hs hv (paired_rev pr) .non⟩
  · cases e
def popAtF := onL fun ws us S => match us with
  | [.d (.int i)] => if -(2 ^ 63) ≤ i ∧ i < 2 ^ 63 then (seqIndex? i ws.length).bind fun k => (ws[k]?).map fun w => (w, ws.eraseIdx k, S) else none
  | _ => none
theorem mt_popAtD : MtR X "list.pop" (rM X.K popAtF) := by
  intro pins s σ H x xs v us Q I rx rs h
  obtain ⟨m, S, ρ, σ', n, a, ws, us', w, ws', S', zs, rfl, q, hm, hs, hv, pr, ra, e, p⟩ := rM_L h
  split at e
  · split at e
    · rename_i hl
      obtain ⟨k, e1, e2⟩ := Option.bind_eq_some_iff.mp e
      obtain ⟨w0, e3, e4⟩ := Option.map_eq_some_iff.mp e2
      cases e4
      obtain ⟨y, rfl, ry⟩ := prd1 ra
      obtain rfl := rp_int ry
      obtain ⟨y, hy, ry⟩ := paired_getR pr e3
      exact mt_popAt pins s σ H _ _ v us Q I rx rs ⟨a, zs, _, k, y, rfl, rfl, hv, hl.1, hl.2, by rw [pr.length]; exact e1, hy, p.put q hm hs hv (paired_erase k pr) ry⟩
    · cases e
  · cases e
def insertF := onL fun ws us S => match us with
  | [.d (.int i), w] => @ite _ (ws.length < sizeLine ∧ 0 ≤ i ∧ i < 2 ^ 63) (gd _) (some (.d .none, ws.take i.toNat ++ [w] ++ ws.drop i.toNat, S)) none
  | _ => none
theorem mt_insertD : MtR X "list.insert" (rM X.K insertF) := by
  intro pins s σ H x xs v us Q I rx rs h
  obtain ⟨m, S, ρ, σ', n, a, ws, us', w, ws', S', zs, rfl, q, hm, hs, hv, pr, ra, e, p⟩ := rM_L h
  split at e
  · split at e
    · rename_i hl
      cases e
      obtain ⟨y, z, rfl, ry, rz⟩ := prd2 ra
      obtain rfl := rp_int ry
      exact mt_insert pins s σ H _ _ v us Q I rx rs ⟨a, zs, _, z, rfl, rfl, hv, by rw [pr.length]; exact hl.1, hl.2.1, hl.2.2,
        p.put q hm hs hv (paired_app (paired_app (paired_take _ pr) (.cons rz .nil)) (paired_drop _ pr)) .non⟩
    · cases e
  · cases e

/-! ### extend by any list that is read -/
open PySem.AutoSeq1 in
theorem ext_run (l : Addr) (items : Array Value) (n : Nat) (b : Addr) (items2 : Array Value) (n2 : Nat) (sl : Array (Option Value)) (hc0 : ¬(!items.isEmpty && Builtin.List.listTooLong (items.size + items2.size)) = true) (hc1 : items.size ≤ sizeLine) (hs2 : items.size + items2.size ≤ sizeLine + 1) :
    Meets (Builtin.«list.extend» ⟨[.ref l, .ref b], []⟩) (fun _ R s => s.heap.get? l = some { cls := .type "list", data := .seq items n } ∧ s.heap.get? b = some { cls := .type "list", data := .seq items2 n2, slots := sl } ∧ R (.ok (.ret Value.none)) { s with heap := s.heap.update l (Obj.mapSeq fun x => x ++ items2), toks := s.toks }) :=
  .of_wp fun prog w A R s h => by
    obtain ⟨hp, g, d, tk, os⟩ := s
    obtain ⟨h1, h2, h⟩ := h
    have f1 := AutoSeq1.idx_int
    have f2 := AutoSeq1.sub_tuple_tuple
    have f3 := AutoSeq1.sub_list_list
    have f4 := AutoSeq1.sub_tuple_list
    have f5 := AutoSeq1.sub_list_tuple
    have hz : (items ++ items2).size ≤ sizeLine + 1 := by rw [Array.size_append]; exact hs2
    wp_walk using (wpAny_updateSeq h1 rfl (hz := hc1) (_hz' := hz)), wpAny_loadPart' h1, wpAny_loadPart' h2
    exact ⟨_, rfl, h⟩
theorem mt_extS : MtR X "list.extend" (fun x vs H Q => ∃ l b xs zs, x = .ref l ∧ vs = [.ref b] ∧ H l = some (.lst xs) ∧ SqL X.K H b zs ∧ xs.length + zs.length ≤ sizeLine ∧ Q .non (upd H l (.lst (xs ++ zs)))) := by
  intro pins s σ H x vs v us Q I rx rv h
  obtain ⟨l, b, xs, zs, rfl, rfl, hH, hB, hz, q⟩ := h
  cases rx
  obtain ⟨u, rfl, ru⟩ := rv.one
  cases ru
  obtain ⟨_, its, n, r, hl, e⟩ := I.lstM hH
  obtain ⟨its2, r2, ⟨ob, n2, e2, hc, hd, hdat⟩, _⟩ := I.list hB
  have hl2 := r2.length
  obtain ⟨cls, dict, data, slots⟩ := ob
  simp only at hc hd hdat
  subst hc hd hdat
  have hsz : its.toArray.size + its2.toArray.size ≤ sizeLine := by rw [List.size_toArray, List.size_toArray]; omega
  have nl : ¬ (!its.toArray.isEmpty && Builtin.List.listTooLong (its.toArray.size + its2.toArray.size)) = true := by
    have z : Builtin.List.listTooLong (its.toArray.size + its2.toArray.size) = false := decide_eq_false (by omega)
    rw [z, Bool.and_false]
    exact Bool.false_ne_true
  refine call_meets F.slot_list_extend ⟨_, e, rfl⟩ F.entry_list_extend (F.args_list_extend_2 _ _) (ext_run l its.toArray n b its2.toArray n2 slots nl (by rw [List.size_toArray]; omega) (by omega)) ⟨e, e2, ?_⟩
  refine ⟨.non, _, I.lset (its' := its ++ its2) hH e (by simp) (r.append r2) ?_, rfl, q⟩
  rw [List.length_append]
  exact hz
def extendF := onL fun ws us S => match us with
  | [w] => (deref S w).bind fun d => match d with
    | .list ds => if ws.length + ds.length ≤ sizeLine then some (.d .none, ws ++ ds.map W.d, S) else none
    | _ => none
  | _ => none
theorem mt_extendD : MtR X "list.extend" (rM X.K extendF) := by
  intro pins s σ H x xs v us Q I rx rs h
  obtain ⟨m, S, ρ, σ', n, a, ws, us', w, ws', S', zs, rfl, q, hm, hs, hv, pr, ra, e, p⟩ := rM_L h
  split at e
  · obtain ⟨d, e1, e2⟩ := Option.bind_eq_some_iff.mp e
    split at e2
    · split at e2
      · rename_i hl
        cases e2
        obtain ⟨y, rfl, ry⟩ := prd1 ra
        obtain ⟨b, ys, rfl, hb, r1⟩ := deref_list q ry e1
        exact mt_extS pins s σ H _ _ v us Q I rx rs ⟨a, b, zs, ys, rfl, rfl, hv, hb, by rw [pr.length, r1.length]; exact hl, p.put q hm hs hv (paired_app pr (rpAll_rw r1)) .non⟩
      · cases e2
    · cases e2
  · cases e
/-- + of lists -/
theorem cat_run (l : Addr) (items : Array Value) (n : Nat) (sa : Array (Option Value)) (b : Addr) (items2 : Array Value) (n2 : Nat) (sb : Array (Option Value)) (hc0 : items.size + items2.size ≤ sizeLine) :
    Meets (Builtin.«list.__add__» ⟨[.ref l, .ref b], []⟩) (fun _ R s => s.heap.get? l = some { cls := .type "list", data := .seq items n, slots := sa } ∧ s.heap.get? b = some { cls := .type "list", data := .seq items2 n2, slots := sb } ∧ R (.ok (.ret (Value.ref s.heap.objs.size))) { s with heap := s.heap.push { cls := Value.type "list", data := Data.seq (items ++ items2) }, toks := s.toks }) :=
  .of_wp fun prog w A R s h => by
    obtain ⟨hp, g, d, tk, os⟩ := s
    obtain ⟨h1, h2, h⟩ := h
    have f1 := AutoSeq1.idx_int
    have f2 := AutoSeq1.sub_tuple_tuple
    have f3 := AutoSeq1.sub_list_list
    have f4 := AutoSeq1.sub_tuple_list
    have f5 := AutoSeq1.sub_list_tuple
    wp_walk using AutoSeq1.wpAny_loadPart' h1, AutoSeq1.wpAny_loadPart' h2
    exact ⟨_, rfl, h⟩
theorem op_catS : OpR X (binaryOp .Add) (fun x y H Q => ∃ l b xs zs, x = .ref l ∧ y = .ref b ∧ SqL X.K H l xs ∧ SqL X.K H b zs ∧ xs.length + zs.length ≤ sizeLine ∧ ∀ p, H p = none → Q (.ref p) (upd H p (.lst (xs ++ zs)))) := by
  intro pins s σ H x y v u Q I rx ry h
  obtain ⟨l, b, xs, zs, rfl, rfl, hA, hB, hz, q⟩ := h
  cases rx
  cases ry
  obtain ⟨its, r1, ⟨oa, n1, e1, hc1, hd1, hdat1⟩, _⟩ := I.list hA
  obtain ⟨its2, r2, ⟨ob, n2, e2, hc, hd, hdat⟩, _⟩ := I.list hB
  have l1 := r1.length
  have l2 := r2.length
  obtain ⟨c1, d1, da1, sl1⟩ := oa
  obtain ⟨c2, d2, da2, sl2⟩ := ob
  simp only at hc hd hdat hc1 hd1 hdat1
  subst hc hd hdat hc1 hd1 hdat1
  have hsz : its.toArray.size + its2.toArray.size ≤ sizeLine := by rw [List.size_toArray, List.size_toArray]; omega
  refine concat_meets ⟨_, e1, rfl⟩ ⟨_, e2, rfl⟩ noFill_list_add seq_list_add F.slot_list_add F.entry_list_add (F.args_list_add_2 _ _) (cat_run l its.toArray n1 sl1 b its2.toArray n2 sl2 hsz) ⟨e1, e2, ?_⟩
  have ea : its.toArray ++ its2.toArray = (its ++ its2).toArray := by simp
  rw [ea]
  exact ⟨.ref _, _, I.lnew (t' := s.toks) (r1.append r2) (by rw [List.length_append]; omega), rfl, q _ I.fresh⟩
def catL : W → W → Sto → Option (W × Sto) := fun x y S => (deref S x).bind fun d => (deref S y).bind fun e => match d, e with
  | .list i, .list j => if i.length + j.length ≤ sizeLine then some (.d (.list (i ++ j)), S) else none
  | _, _ => none
theorem op_catL : OpR X (binaryOp .Add) (rOp X.K catL) := by
  intro pins s σ H x y v u Q I rx ry h
  obtain ⟨m, S, ρ, σ', wx, wy, w, S', q, hx, hy, e, p⟩ := h
  obtain ⟨d, e1, e⟩ := Option.bind_eq_some_iff.mp e
  obtain ⟨d2, e2, e⟩ := Option.bind_eq_some_iff.mp e
  split at e
  · split at e
    · rename_i hl
      cases e
      obtain ⟨a, xs, rfl, ha, r1⟩ := deref_list q hx e1
      obtain ⟨b, ys, rfl, hb, r2⟩ := deref_list q hy e2
      exact opFrz op_catS pins s σ H _ _ v u Q I rx ry ⟨a, b, xs, ys, rfl, rfl, ha, hb, by rw [r1.length, r2.length]; exact hl, fun t ht => newL p q (r1.append r2) t ht⟩
    · cases e
  · cases e

/-! ### o[i] = v, o[i] op= v by values -/
def setF : W → W → W → Sto → Option Sto
  | .loc n, .d (.int k), w, S => match S[n]? with
    | some (.lst ws) => (ixN ws.length k).map fun j => S.set n (.lst (ws.set j w))
    | _ => none
  | _, _, _, _ => none
def PostH (K : PySem.W.Frag) (m : List Addr) (S' : Sto) (ρ : DEnv) (σ : L2.St) (H : Hp) (Q : Hp → Prop) : Prop :=
  ∀ ext H', Fresh ext H → Sim K (m ++ ext) S' ρ σ H' → Fr m H H' → Q H'
def rSet (K : PySem.W.Frag) (f : W → W → W → Sto → Option Sto) : TSet := fun o i v H Q => ∃ m S ρ σ wo wi wv S', Sim K m S ρ σ H ∧ RW K m H o wo ∧ RW K m H i wi ∧ RW K m H v wv ∧ f wo wi wv S = some S' ∧ PostH K m S' ρ σ H Q
theorem set_D : PSet X (rSet X.K setF) := by
  intro pins s σ H o i v ov iv u Q I ro ri rv h
  obtain ⟨m, S, ρ, σ', wo, wi, wv, S', q, h1, h2, h3, e, p⟩ := h
  unfold setF at e
  split at e
  · split at e
    · rename_i ws hs
      obtain ⟨j, e1, e2⟩ := Option.map_eq_some_iff.mp e
      cases e2
      obtain ⟨a, hm, rfl⟩ := h1
      obtain rfl := rp_int h2
      obtain ⟨b, hb, zs, hv, pr⟩ := q.obs _ _ hs
      rw [hm] at hb; cases hb
      refine set_list pins s σ H _ _ v ov iv u Q I ro ri rv ⟨a, zs, _, j, rfl, rfl, hv, by rw [pr.length]; exact e1, ?_⟩
      exact p [] _ (fun _ h => absurd h (by simp)) (by rw [List.append_nil]; exact put_sim q hm hs hv (paired_set h3 j pr)) (put_fr hm hv)
    · cases e
  · cases e
/-- the read of o[i] op= v -/
def getF : W → W → Sto → Option (W × Sto)
  | .loc n, .d (.int i), S => match S[n]? with
    | some (.lst ws) => if 0 ≤ i then (ws[i.toNat]?).map fun w => (w, S) else none
    | _ => none
  | _, _, _ => none
theorem get_D : PGet X (rOp X.K getF) := by
  intro pins s σ H o i ov iv Q I ro ri h
  obtain ⟨m, S, ρ, σ', wx, wy, w, S', q, hx, hy, e, p⟩ := h
  unfold getF at e
  split at e
  · split at e
    · rename_i k _ ws hs
      split at e
      · rename_i h0
        obtain ⟨z, e1, e2⟩ := Option.map_eq_some_iff.mp e
        cases e2
        obtain ⟨a, hm, rfl⟩ := hx
        obtain rfl := rp_int hy
        obtain ⟨b, hb, zs, hv, pr⟩ := q.obs _ _ hs
        rw [hm] at hb; cases hb
        obtain ⟨y, hy, ry⟩ := paired_getR pr e1
        cases ro
        obtain ⟨t, rfl⟩ := ri
        obtain ⟨its, r, pl, hz⟩ := I.list (.of hv)
        obtain ⟨u, hu, ru⟩ := r.get hy
        have hl := r.length
        have hn := line63
        have hb := (List.getElem?_eq_some_iff.mp hy).1
        exact wpAny_getItem_list pl.isList h0 (by omega) (by simpa using hu) ⟨y, H, I, ru, p.now q ry⟩
      · cases e
    · cases e
  · cases e

/-! ### statements -/
inductive Fl where
  | nx
  | rt (w : W)
  | bk
  | ct
abbrev MS := DEnv → Sto → Option (Fl × DEnv × Sto)
def EndsOk (K : PySem.W.Frag) (D : Ends) (m : List Addr) (σ : L2.St) (H : Hp) : Fl → Prop
  | .nx => D.nx σ H
  | .rt w => ∀ v, RW K m H v w → D.rt v H
  | .bk => D.bk σ H
  | .ct => D.ct σ H
def PostS (K : PySem.W.Frag) (m : List Addr) (S' : Sto) (ρ' : DEnv) (σ : L2.St) (H : Hp) (fl : Fl) (D : Ends) : Prop :=
  ∀ ext σ' H', Fresh ext H → Sim K (m ++ ext) S' ρ' σ' H' → Fr m H H' → EndsOk K D (m ++ ext) σ' H' fl
def rdS (K : PySem.W.Frag) (f : MS) : L2.TS := fun D σ H => ∃ m S ρ fl ρ' S', Sim K m S ρ σ H ∧ f ρ S = some (fl, ρ', S') ∧ PostS K m S' ρ' σ H fl D
end
section
variable {K : PySem.W.Frag} {H H1 : Hp} {m ext : List Addr} {S S1 S' : Sto} {ρ ρ1 ρ' : DEnv} {σ σ1 : L2.St} {w : W} {D : Ends} {fl : Fl}
theorem PostS.at (p : PostS K m S' ρ' σ H fl D) (f : Fresh ext H) (q : Sim K (m ++ ext) S1 ρ1 σ1 H1) (fr : Fr m H H1) : PostS K (m ++ ext) S' ρ' σ1 H1 fl D := fun e2 σ2 H2 f2 q2 fr2 => by
  have := p (ext ++ e2) σ2 H2 (f.append fr q f2) (by rwa [← List.append_assoc]) (fr.trans f fr2)
  rwa [← List.append_assoc] at this
theorem PostS.now (p : PostS K m S' ρ' σ H fl D) (q : Sim K m S' ρ' σ1 H) : EndsOk K D m σ1 H fl := by
  have := p [] σ1 H (fun _ h => absurd h (by simp)) (by rwa [List.append_nil]) Fr.refl
  rwa [List.append_nil] at this
end
section
variable {X : Cx} {e o a b c : Expr} {st : Stmt} {rest body els : List Stmt} {pos : Pos} {A B C : ME} {T U : MT} {F G : MS}
def sNil : MS := fun ρ S => some (.nx, ρ, S)
def sSeq (F G : MS) : MS := fun ρ S => (F ρ S).bind fun p => match p.1 with
  | .nx => G p.2.1 p.2.2
  | _ => some p
theorem dss_nil : PSs X [] (rdS X.K sNil) := wkSs pss_nil fun D σ H q => by
  obtain ⟨m, S, ρ, fl, ρ', S', q, e, p⟩ := q
  cases e
  exact p.now q
theorem rd_seq {K : PySem.W.Frag} {D : Ends} {σ : L2.St} {H : Hp} (h : rdS K (sSeq F G) D σ H) : tSeq (rdS K F) (rdS K G) D σ H := by
  obtain ⟨m, S, ρ, fl, ρ', S', q, e, p⟩ := h
  obtain ⟨⟨f1, ρ1, S1⟩, e1, e2⟩ := Option.bind_eq_some_iff.mp e
  refine ⟨m, S, ρ, f1, ρ1, S1, q, e1, fun ext σ1 H1 f q1 fr => ?_⟩
  have p1 := p.at f q1 fr
  cases f1 with
  | nx => exact ⟨m ++ ext, S1, ρ1, fl, ρ', S', q1, e2, p1⟩
  | rt w => cases e2; exact p1.now q1
  | bk => cases e2; exact p1.now q1
  | ct => cases e2; exact p1.now q1
theorem dss_cons (h : PS X st (rdS X.K F)) (h2 : PSs X rest (rdS X.K G)) : PSs X (st :: rest) (rdS X.K (sSeq F G)) := wkSs (pss_cons h h2) fun D σ H q => rd_seq q
theorem dss_one (h : PS X st (rdS X.K F)) : PSs X [st] (rdS X.K F) := pss_one h

/-! ### small statements -/
def sPass : MS := sNil
def sBreak : MS := fun ρ S => some (.bk, ρ, S)
def sCont : MS := fun ρ S => some (.ct, ρ, S)
theorem ds_pass : PS X (.Pass pos) (rdS X.K sPass) := wkS ps_pass fun D σ H q => by
  obtain ⟨m, S, ρ, fl, ρ', S', q, e, p⟩ := q
  cases e
  exact p.now q
theorem ds_break : PS X (.Break pos) (rdS X.K sBreak) := wkS ps_break fun D σ H q => by
  obtain ⟨m, S, ρ, fl, ρ', S', q, e, p⟩ := q
  cases e
  exact p.now q
theorem ds_continue : PS X (.Continue pos) (rdS X.K sCont) := wkS ps_continue fun D σ H q => by
  obtain ⟨m, S, ρ, fl, ρ', S', q, e, p⟩ := q
  cases e
  exact p.now q
theorem ds_never {st : Stmt} : PS X st (rdS X.K fun _ _ => none) := wkS ps_never fun D σ H q => by
  obtain ⟨m, S, ρ, fl, ρ', S', q, e, p⟩ := q
  cases e
def sExpr (A : ME) : MS := fun ρ S => (A ρ S).bind fun p => some (.nx, ρ, p.2)
theorem ds_expr (he : PE X e (rdE X.K A)) (hs : swapsWith e none pos.line X.env = pure false := by rfl) : PS X (.Expr e pos) (rdS X.K (sExpr A)) := wkS (ps_expr he hs) fun D σ H q => by
  obtain ⟨m, S, ρ, fl, ρ', S', q, e, p⟩ := q
  obtain ⟨⟨wx, S1⟩, e1, e2⟩ := Option.bind_eq_some_iff.mp e
  cases e2
  exact ⟨m, S, ρ, wx, _, q, e1, fun ext H1 x f q1 fr r => (p.at f q1 fr).now q1⟩
def sRet (A : ME) : MS := fun ρ S => (A ρ S).bind fun p => some (.rt p.1, ρ, p.2)
theorem ds_ret (he : PE X e (rdE X.K A)) : PS X (.Return (some e) pos) (rdS X.K (sRet A)) := wkS (ps_ret he) fun D σ H q => by
  obtain ⟨m, S, ρ, fl, ρ', S', q, e, p⟩ := q
  obtain ⟨⟨wx, S1⟩, e1, e2⟩ := Option.bind_eq_some_iff.mp e
  cases e2
  exact ⟨m, S, ρ, wx, _, q, e1, fun ext H1 x f q1 fr r => (p.at f q1 fr).now q1 x r⟩
def sRetN : MS := fun ρ S => some (.rt (.d .none), ρ, S)
theorem ds_retN : PS X (.Return none pos) (rdS X.K sRetN) := wkS ps_retN fun D σ H q => by
  obtain ⟨m, S, ρ, fl, ρ', S', q, e, p⟩ := q
  cases e
  exact p.now q _ .non
def sIf (T : MT) (F G : MS) : MS := fun ρ S => (T ρ S).bind fun p => if p.1 = true then F ρ p.2 else G ρ p.2
theorem ds_if (hc : PT X c (rdT X.K T)) (ha : PSs X body (rdS X.K F)) (hb : PSs X els (rdS X.K G)) : PS X (.If c body els pos) (rdS X.K (sIf T F G)) := wkS (ps_if hc ha hb) fun D σ H q => by
  obtain ⟨m, S, ρ, fl, ρ', S', q, e, p⟩ := q
  obtain ⟨⟨b, S1⟩, e1, e2⟩ := Option.bind_eq_some_iff.mp e
  refine ⟨m, S, ρ, b, S1, q, e1, fun ext H1 f q1 fr => ?_⟩
  cases b with
  | true => exact ⟨_, S1, ρ, fl, ρ', S', q1, by simpa using e2, p.at f q1 fr⟩
  | false => exact ⟨_, S1, ρ, fl, ρ', S', q1, by simpa using e2, p.at f q1 fr⟩

/-! ### targets -/
abbrev MG := W → DEnv → Sto → Option (DEnv × Sto)
abbrev MGs := List W → DEnv → Sto → Option (DEnv × Sto)
/-- vis: the slots that may change -/
def PostG (K : PySem.W.Frag) (vis : List Nat) (m : List Addr) (S' : Sto) (ρ' : DEnv) (σ : L2.St) (H : Hp) (Q : L2.St → Hp → Prop) : Prop :=
  ∀ ext σ' H', wipe σ' vis = wipe σ vis → Fresh ext H → Sim K (m ++ ext) S' ρ' σ' H' → Fr m H H' → Q σ' H'
def rdG (K : PySem.W.Frag) (vis : List Nat) (g : MG) : TG := fun v σ H Q => ∃ m S ρ w ρ' S', Sim K m S ρ σ H ∧ RW K m H v w ∧ g w ρ S = some (ρ', S') ∧ PostG K vis m S' ρ' σ H Q
def rdGs (K : PySem.W.Frag) (vis : List Nat) (g : MGs) : TGs := fun vs σ H Q => ∃ m S ρ ws ρ' S', Sim K m S ρ σ H ∧ Paired (RW K m H) vs ws ∧ g ws ρ S = some (ρ', S') ∧ PostG K vis m S' ρ' σ H Q
theorem wipe_set {α : Type} {σ : L2.St} {i : Nat} {v : Option V} : ∀ {vis : List Nat}, i ∈ vis → wipe (σ.set i v) vis = wipe σ vis
  | j :: vis, h => by
    show (wipe (σ.set i v) vis).set j none = (wipe σ vis).set j none
    by_cases hm : i ∈ vis
    · rw [wipe_set (α := α) hm]
    · have e : i = j := by
        rcases List.mem_cons.mp h with z | z
        · exact z
        · exact absurd z hm
      subst e
      have key : ∀ (l : List Nat), i ∉ l → wipe (σ.set i v) l = (wipe σ l).set i v := by
        intro l
        induction l with
        | nil => intro _; rfl
        | cons k l ih =>
          intro hk
          simp only [List.mem_cons, not_or] at hk
          show (wipe (σ.set i v) l).set k none = ((wipe σ l).set k none).set i v
          rw [ih hk.2, List.set_comm _ _ hk.1]
      rw [key vis hm, List.set_set]
end
section
variable {K : PySem.W.Frag} {H H1 : Hp} {m ext : List Addr} {S S1 S' : Sto} {ρ ρ1 ρ' : DEnv} {σ σ1 : L2.St} {Q : L2.St → Hp → Prop} {vis : List Nat}
theorem PostG.at (p : PostG K vis m S' ρ' σ H Q) (hw : wipe σ1 vis = wipe σ vis) (f : Fresh ext H) (q : Sim K (m ++ ext) S1 ρ1 σ1 H1) (fr : Fr m H H1) : PostG K vis (m ++ ext) S' ρ' σ1 H1 Q := fun e2 σ2 H2 hw2 f2 q2 fr2 =>
  p (ext ++ e2) σ2 H2 (hw2.trans hw) (f.append fr q f2) (by rwa [← List.append_assoc]) (fr.trans f fr2)
theorem PostG.now (p : PostG K vis m S' ρ' σ H Q) (hw : wipe σ1 vis = wipe σ vis) (q : Sim K m S' ρ' σ1 H) : Q σ1 H :=
  p [] σ1 H hw (fun _ h => absurd h (by simp)) (by rwa [List.append_nil]) Fr.refl
end
section
variable {X : Cx} {e o a b c : Expr} {es : List Expr} {st : Stmt} {rest body els : List Stmt} {pos : Pos} {A B C : ME} {T U : MT} {F G : MS} {g : MG} {gs : MGs} {vis : List Nat}
def gSet (i : Nat) : MG := fun w ρ S => if i < ρ.length then some (ρ.set i (some w), S) else none
theorem dg_name {i : Nat} {x : Str} (hN : X.N.Nodup) (hi : X.N[i]? = some x) (hx : Loc X.env.scope x) (hv : i ∈ vis := by decide) (hf : X.fn x = true ∨ X.env.scope.names.lookup x = some .local := by first | exact .inl rfl | exact .inr rfl | assumption) : PG X (.Name x pos) (rdG X.K vis (gSet i)) := by
  refine ⟨fun pins s σ H v u Q I r h => (pg_name (pos := pos) hN hi hx hf).run pins s σ H v u Q I r ?_⟩
  obtain ⟨m, S, ρ, w, ρ', S', q, r, e, p⟩ := h
  unfold gSet at e
  split at e
  · cases e
    exact p.now (wipe_set (α := Nat) hv) (q.slotset r)
  · cases e
def gsNil : MGs := fun ws ρ S => match ws with
  | [] => some (ρ, S)
  | _ => none
def gsCons (g : MG) (gs : MGs) : MGs := fun ws ρ S => match ws with
  | w :: ws => (g w ρ S).bind fun p => gs ws p.1 p.2
  | [] => none
theorem dgs_nil : PGs X [] (rdGs X.K vis gsNil) := by
  refine ⟨fun pins s σ H v u Q I r h => pgs_nil.run pins s σ H v u Q I r ?_⟩
  obtain ⟨m, S, ρ, ws, ρ', S', q, r, e, p⟩ := h
  unfold gsNil at e
  split at e
  · cases e
    cases r
    exact ⟨rfl, p.now rfl q⟩
  · cases e
theorem dgs_cons (h1 : PG X e (rdG X.K vis g)) (h2 : PGs X es (rdGs X.K vis gs)) (hs : (assignEach (e :: es) X.env).map (·.2) = assign e X.env :: (assignEach es X.env).map (·.2) := by rfl) : PGs X (e :: es) (rdGs X.K vis (gsCons g gs)) := by
  refine ⟨fun pins s σ H v u Q I r h => (pgs_cons h1 h2 hs).run pins s σ H v u Q I r ?_⟩
  obtain ⟨m, S, ρ, ws, ρ', S', q, r, e, p⟩ := h
  unfold gsCons at e
  split at e
  · obtain ⟨⟨ρ1, S1⟩, e1, e2⟩ := Option.bind_eq_some_iff.mp e
    cases r with
    | cons r t =>
      refine ⟨_, _, rfl, m, S, ρ, _, ρ1, S1, q, r, e1, fun ext σ1 H1 hw f q1 fr => ⟨m ++ ext, S1, ρ1, _, ρ', S', q1, pRW.mono t fr.kp, e2, p.at hw f q1 fr⟩⟩
  · cases e
def gTupD (n : Nat) (gs : MGs) : MG := fun w ρ S => match w with
  | .d (.tuple ds) => if ds.length = n then gs (ds.map W.d) ρ S else none
  | _ => none
theorem dg_tup {k n : Nat} (hc : X.calm = true) (h : PGs X es (rdGs X.K vis gs)) (hn : (assignEach es X.env).length = n := by rfl) (hst : (assignEach es X.env).findIdx? (·.1) = none := by rfl) : PG X (.Tuple es k pos) (rdG X.K vis (gTupD n gs)) := by
  refine ⟨fun pins s σ H v u Q I r h2 => (pg_tup (k := k) (pos := pos) hc h hn hst).run pins s σ H v u Q I r ?_⟩
  obtain ⟨m, S, ρ, w, ρ', S', q, r, e, p⟩ := h2
  unfold gTupD at e
  split at e
  · split at e
    · rename_i hl
      obtain ⟨a, xs, rfl, ha, r1⟩ := rp_tup r
      exact ⟨a, xs, rfl, ha, by rw [r1.length]; exact hl, m, S, ρ, _, ρ', S', q, rpAll_rw r1, e, p⟩
    · cases e
  · cases e
/-- target = value -/
def sAsg (A : ME) (g : MG) : MS := fun ρ S => (A ρ S).bind fun p => (g p.1 ρ p.2).bind fun q => some (.nx, q.1, q.2)
theorem rd_asg {K : PySem.W.Frag} {D : Ends} {σ : L2.St} {H : Hp} (h : rdS K (sAsg A g) D σ H) : tAsg (rdE K A) (rdG K vis g) D σ H := by
  obtain ⟨m, S, ρ, fl, ρ', S', q, e, p⟩ := h
  obtain ⟨⟨wx, S1⟩, e1, e2⟩ := Option.bind_eq_some_iff.mp e
  obtain ⟨⟨ρ2, S2⟩, e3, e4⟩ := Option.bind_eq_some_iff.mp e2
  cases e4
  refine ⟨m, S, ρ, wx, S1, q, e1, fun ext H1 x f q1 fr r => ⟨m ++ ext, S1, ρ, wx, ρ2, S2, q1, r, e3, fun ext2 σ2 H2 _ f2 q2 fr2 => ?_⟩⟩
  exact ((p.at f q1 fr).at f2 q2 fr2).now q2
theorem ds_asg {tg : Expr} (he : PE X e (rdE X.K A)) (hg : PG X tg (rdG X.K vis g)) (hs : swapsWithSole [tg] e pos.line X.env = pure false := by rfl) (hw : swappedStores [tg] e X.env = pure none := by rfl)
    (h1 : (assignEach [tg] X.env).map (·.2) = [assign tg X.env] := by rfl) : PS X (.Assign [tg] e pos) (rdS X.K (sAsg A g)) := wkS (ps_asg he hg hs hw h1) fun D σ H q => rd_asg q
theorem ds_set {i : Nat} {x : Str} {pos' : Pos} (hN : X.N.Nodup) (hi : X.N[i]? = some x) (hx : Loc X.env.scope x) (he : PE X e (rdE X.K A)) (hs : swapsWith e (some (.Name x pos')) pos.line X.env = pure false := by rfl) (hf : X.fn x = true ∨ X.env.scope.names.lookup x = some .local := by first | exact .inl rfl | exact .inr rfl | assumption) :
    PS X (.Assign [.Name x pos'] e pos) (rdS X.K (sAsg A (gSet i))) := wkS (ps_set hN hi hx he hs hf) fun D σ H q => by
  obtain ⟨m, S, ρ, fl, ρ', S', q, e, p⟩ := q
  obtain ⟨⟨wx, S1⟩, e1, e2⟩ := Option.bind_eq_some_iff.mp e
  obtain ⟨⟨ρ2, S2⟩, e3, e4⟩ := Option.bind_eq_some_iff.mp e2
  cases e4
  unfold gSet at e3
  split at e3
  · cases e3
    exact ⟨m, S, ρ, wx, _, q, e1, fun ext H1 x f q1 fr r => ((p.at f q1 fr).now (q1.slotset r))⟩
  · cases e3
/-- a, b = x, y -/
def sPar (i j : Nat) (R : MA) : MS := fun ρ S => (R ρ S).bind fun p => match p.1 with
  | [w, u] => if i < ρ.length ∧ j < ρ.length then some (.nx, (ρ.set i (some w)).set j (some u), p.2) else none
  | _ => none
theorem ds_par {i j : Nat} {x y : Str} {a b : Expr} {R : MA} {px py pt : Pos} {kt k2 pt2} (hc : X.calm = true) (hN : X.N.Nodup) (hi : X.N[i]? = some x) (hj : X.N[j]? = some y) (hij : i ≠ j)
    (hx : X.env.scope.names.lookup x = some .local) (hy : X.env.scope.names.lookup y = some .local) (ha : PA X [a, b] (rdA X.K R))
    (hw : swappedStores [.Tuple [.Name x px, .Name y py] kt pt] (.Tuple [a, b] k2 pt2) X.env = pure (some [x, y]))
    (hs : swapsWithSole [.Tuple [.Name x px, .Name y py] kt pt] (.Tuple [a, b] k2 pt2) pos.line X.env = pure false := by rfl) :
    PS X (.Assign [.Tuple [.Name x px, .Name y py] kt pt] (.Tuple [a, b] k2 pt2) pos) (rdS X.K (sPar i j R)) := wkS (ps_par hc hN hi hj hij hx hy ha hw hs) fun D σ H q => by
  obtain ⟨m, S, ρ, fl, ρ', S', q, e, p⟩ := q
  obtain ⟨⟨ws, S1⟩, e1, e2⟩ := Option.bind_eq_some_iff.mp e
  refine ⟨m, S, ρ, ws, S1, q, e1, fun ext H1 vs f q1 fr r => ?_⟩
  simp only at e2
  split at e2
  · split at e2
    · cases e2
      obtain ⟨v, v', rfl, r1, r2⟩ := prd2 r
      exact ⟨v, v', rfl, (p.at f q1 fr).now ((q1.slotset r1).slotset r2)⟩
    · cases e2
  · cases e2
/-- name op= e -/
def sAug (i : Nat) (f : W → W → Sto → Option (W × Sto)) (A : ME) : MS := fun ρ S => match ρ[i]? with
  | some (some w) => (A ρ S).bind fun p => (f w p.1 p.2).bind fun q => some (.nx, ρ.set i (some q.1), q.2)
  | _ => none
theorem ds_aug {i : Nat} {x : Str} {op : Operator} {f : W → W → Sto → Option (W × Sto)} {pos' : Pos} (hN : X.N.Nodup) (hi : X.N[i]? = some x) (hx : Loc X.env.scope x) (he : PE X e (rdE X.K A)) (ho : PIp X op (rOp X.K f)) (hf : X.fn x = true ∨ X.env.scope.names.lookup x = some .local := by first | exact .inl rfl | exact .inr rfl | assumption) :
    PS X (.AugAssign (.Name x pos') op e pos) (rdS X.K (sAug i f A)) := wkS (ps_aug hN hi hx he ho hf) fun D σ H q => by
  obtain ⟨m, S, ρ, fl, ρ', S', q, e, p⟩ := q
  unfold sAug at e
  split at e
  · rename_i w0 hw0
    obtain ⟨⟨wx, S1⟩, e1, e2⟩ := Option.bind_eq_some_iff.mp e
    obtain ⟨⟨wz, S2⟩, e3, e4⟩ := Option.bind_eq_some_iff.mp e2
    cases e4
    obtain ⟨v, hv, rv⟩ := q.slot _ _ hw0
    refine ⟨v, hv, m, S, ρ, wx, S1, q, e1, fun ext H1 y f q1 fr r => ?_⟩
    refine ⟨_, S1, ρ, σ, w0, wx, wz, S2, q1, rv.mono fr.kp, r, e3, fun ext2 H2 z f2 q2 fr2 r2 => ?_⟩
    exact ((p.at f q1 fr).at f2 q2 fr2).now (q2.slotset r2)
  · cases e
theorem ip_of {op : Operator} {f : W → W → Sto → Option (W × Sto)} (h : OpR X (inplaceOp op) (rOp X.K f)) : PIp X op (rOp X.K f) := fun pins s σ H x y v u Q I rx ry q => h pins s σ H x y v u Q I rx ry q
def iaddI := iiD yes2 fun i j => .int (i + j)
def isubI := iiD yes2 fun i j => .int (i - j)
theorem ip_addI : PIp X .Add (rOp X.K iaddI) := ip_of (iiD_of (rI_of0 iop_add) (fun _ _ _ => trivial) fun _ _ _ => .int _)
theorem ip_subI : PIp X .Sub (rOp X.K isubI) := ip_of (iiD_of (rI_of0 iop_sub) (fun _ _ _ => trivial) fun _ _ _ => .int _)
/-- o[i] = e, o[i] op= e -/
def gSubD (A B : ME) (f : W → W → W → Sto → Option Sto) : MG := fun w ρ S => (A ρ S).bind fun p => (B ρ p.2).bind fun q => (f p.1 q.1 w q.2).bind fun S' => some (ρ, S')
theorem dg_sub {f : W → W → W → Sto → Option Sto} (ho : PE X o (rdE X.K A)) (hi : PE X a (rdE X.K B)) (hs : PSet X (rSet X.K f))
    (ha : ∀ v, assign (.Subscript o a pos) X.env v = (do
      let ov ← holding [v] (eval o X.env)
      let iv ← holding [v, ov] (eval a X.env)
      standAt pos
      holding [v, ov, iv] (setItem ov iv v)
      release [v, ov, iv] []) := by intro _; rfl) : PG X (.Subscript o a pos) (rdG X.K vis (gSubD A B f)) := by
  refine ⟨fun pins s σ H v u Q I r h => (pg_sub ho hi hs ha).run pins s σ H v u Q I r ?_⟩
  obtain ⟨m, S, ρ, w, ρ', S', q, r, e, p⟩ := h
  obtain ⟨⟨wo, S1⟩, e1, e⟩ := Option.bind_eq_some_iff.mp e
  obtain ⟨⟨wi, S2⟩, e2, e⟩ := Option.bind_eq_some_iff.mp e
  obtain ⟨S3, e3, e⟩ := Option.bind_eq_some_iff.mp e
  cases e
  refine ⟨m, S, ρ, wo, S1, q, e1, fun ext H1 x f q1 fr r1 => ⟨_, S1, ρ, wi, S2, q1, e2, fun ext2 H2 y f2 q2 fr2 r2 => ?_⟩⟩
  refine ⟨_, S2, ρ, σ, wo, wi, w, _, q2, r1.mono fr2.kp, r2, (r.mono fr.kp).mono fr2.kp, e3, fun ext3 H3 f3 q3 fr3 => ?_⟩
  exact ((p.at rfl f q1 fr).at rfl f2 q2 fr2).at rfl f3 q3 fr3 |>.now rfl q3
def sAugS (A B C : ME) (g f : W → W → Sto → Option (W × Sto)) (t : W → W → W → Sto → Option Sto) : MS := fun ρ S => (A ρ S).bind fun p => (B ρ p.2).bind fun q => (g p.1 q.1 q.2).bind fun x => (C ρ x.2).bind fun y => (f x.1 y.1 y.2).bind fun z => (t p.1 q.1 z.1 z.2).bind fun S' => some (.nx, ρ, S')
theorem ds_augS {op : Operator} {tpos : Pos} {g f : W → W → Sto → Option (W × Sto)} {t : W → W → W → Sto → Option Sto} (ho : PE X o (rdE X.K A)) (hi : PE X a (rdE X.K B)) (hg : PGet X (rOp X.K g)) (he : PE X e (rdE X.K C)) (hp : PIp X op (rOp X.K f)) (hs : PSet X (rSet X.K t))
    (ha : ∀ ov iv new, augStore a ov iv new = (do holding [new, ov, iv] (setItem ov iv new); release [new, ov, iv] []; pure .next) := by intros; rfl) : PS X (.AugAssign (.Subscript o a tpos) op e pos) (rdS X.K (sAugS A B C g f t)) := wkS (ps_augS ho hi hg he hp hs ha) fun D σ H q => by
  obtain ⟨m, S, ρ, fl, ρ', S', q, e, p⟩ := q
  obtain ⟨⟨wo, S1⟩, e1, e⟩ := Option.bind_eq_some_iff.mp e
  obtain ⟨⟨wi, S2⟩, e2, e⟩ := Option.bind_eq_some_iff.mp e
  obtain ⟨⟨wg, S3⟩, e3, e⟩ := Option.bind_eq_some_iff.mp e
  obtain ⟨⟨wc, S4⟩, e4, e⟩ := Option.bind_eq_some_iff.mp e
  obtain ⟨⟨wz, S5⟩, e5, e⟩ := Option.bind_eq_some_iff.mp e
  obtain ⟨S6, e6, e⟩ := Option.bind_eq_some_iff.mp e
  cases e
  refine ⟨m, S, ρ, wo, S1, q, e1, fun ext H1 x f q1 fr r1 => ⟨_, S1, ρ, wi, S2, q1, e2, fun ext2 H2 y f2 q2 fr2 r2 => ?_⟩⟩
  refine ⟨_, S2, ρ, σ, wo, wi, wg, S3, q2, r1.mono fr2.kp, r2, e3, fun ext3 H3 z f3 q3 fr3 r3 => ⟨_, S3, ρ, wc, S4, q3, e4, fun ext4 H4 y4 f4 q4 fr4 r4 => ?_⟩⟩
  refine ⟨_, S4, ρ, σ, wg, wc, wz, S5, q4, r3.mono fr4.kp, r4, e5, fun ext5 H5 z5 f5 q5 fr5 r5 => ?_⟩
  refine ⟨_, S5, ρ, σ, wo, wi, wz, _, q5, (((r1.mono fr2.kp).mono fr3.kp).mono fr4.kp).mono fr5.kp, ((r2.mono fr3.kp).mono fr4.kp).mono fr5.kp, r5, e6, fun ext6 H6 f6 q6 fr6 => ?_⟩
  exact (((((p.at f q1 fr).at f2 q2 fr2).at f3 q3 fr3).at f4 q4 fr4).at f5 q5 fr5).at f6 q6 fr6 |>.now q6
end
end DL
end
noncomputable section
namespace DL
open PySem PySem.Spec PyProof.Rows L2

/-- J gives ws one by one, whatever has grown since -/
structure Yl (K : PySem.W.Frag) (m : List Addr) (J : It) (ws : List W) (H1 : Hp) : Prop where
  go : ∀ i H', i < ws.length → Kp H1 H' → J.go i H'
  stop : ∀ H', Kp H1 H' → J.stop ws.length H'
  yld : ∀ i H' x H'' w, ws[i]? = some w → Kp H1 H' → J.yld i H' x H'' → (∀ a o, H' a = some o → H'' a = some o) ∧ RW K m H'' x w
abbrev MI := DEnv → Sto → Option (List W × Sto)
def PostI (K : PySem.W.Frag) (m : List Addr) (S' : Sto) (ρ : DEnv) (σ : L2.St) (H : Hp) (ws : List W) (R : It → Hp → Prop) : Prop :=
  ∀ ext J H', Fresh ext H → Sim K (m ++ ext) S' ρ σ H' → Fr m H H' → Yl K (m ++ ext) J ws H' → R J H'
def rdI (K : PySem.W.Frag) (f : MI) : TI := fun σ H R => ∃ m S ρ ws S', Sim K m S ρ σ H ∧ f ρ S = some (ws, S') ∧ PostI K m S' ρ σ H ws R
theorem yl_of {K : PySem.W.Frag} {m : List Addr} {J : It} {ws : List W} {H1 : Hp} {G : Hp → Prop} {Y : Nat → Hp → V → Hp → Prop} (w : Walk J ws.length G Y) (hG : ∀ H', Kp H1 H' → G H')
    (hy : ∀ i H' x H'' w, ws[i]? = some w → Kp H1 H' → Y i H' x H'' → (∀ a o, H' a = some o → H'' a = some o) ∧ RW K m H'' x w) : Yl K m J ws H1 :=
  ⟨fun i H' hi k => w.goes i H' hi (hG H' k), fun H' k => w.stops H' (hG H' k), fun i H' x H'' u e k y => hy i H' x H'' u e k (w.yields i H' x H'' (List.getElem?_eq_some_iff.mp e).1 (hG H' k) y)⟩

section
variable {X : Cx} {tg e a b c : Expr} {es : List Expr} {body : List Stmt} {pos : Pos} {A B C : ME} {T U : MT} {F : MS} {g : MG} {R : MA} {it : MI} {vis : List Nat}
/-- a locked list, a tuple -/
def iLst (A : ME) : MI := fun ρ S => (A ρ S).bind fun p => match p.1 with
  | .d (.list ds) => some (ds.map W.d, p.2)
  | _ => none
def iTupD (A : ME) : MI := fun ρ S => (A ρ S).bind fun p => match p.1 with
  | .d (.tuple ds) => some (ds.map W.d, p.2)
  | _ => none
theorem rpAll_getV {K : PySem.W.Frag} {H : Hp} {ds : List PyData} {vs : List V} {i : Nat} {x : V} {w : W} {m : List Addr} (r : RpAll K H vs ds) (e : vs[i]? = some x) (e2 : (ds.map W.d)[i]? = some w) : RW K m H x w := by
  rw [List.getElem?_map] at e2
  obtain ⟨d, h1, rfl⟩ := Option.map_eq_some_iff.mp e2
  obtain ⟨v, h2, r2⟩ := r.get h1
  rw [e] at h2; cases h2
  exact r2
theorem di_lst (h : PE X e (rdE X.K A)) : PI X tg e (rdI X.K (iLst A)) := ⟨fun pins s σ H R I q => (pi_list h).run pins s σ H R I (by
  obtain ⟨m, S, ρ, ws, S', q, e, p⟩ := q
  obtain ⟨⟨wx, S1⟩, e1, e2⟩ := Option.bind_eq_some_iff.mp e
  refine ⟨m, S, ρ, wx, S1, q, e1, fun ext H1 x f q1 fr r => ?_⟩
  simp only at e2
  split at e2
  · rename_i ds
    cases e2
    obtain ⟨a, xs, rfl, h, r1⟩ := rp_lst r
    refine ⟨a, rfl, ⟨xs, h.sq⟩, p ext _ H1 f q1 fr (yl_of (by rw [List.length_map, ← r1.length]; exact walk_list) (fun H' k => (h.mono k).sq) fun i H' x H'' w ew k y => ?_)⟩
    obtain ⟨rfl, hx⟩ := y
    exact ⟨fun _ _ z => z, rpAll_getV (RpAll.mono k _ _ r1) hx ew⟩
  · cases e2)⟩
theorem di_tup (h : PE X e (rdE X.K A)) : PI X tg e (rdI X.K (iTupD A)) := ⟨fun pins s σ H R I q => (pi_tup h).run pins s σ H R I (by
  obtain ⟨m, S, ρ, ws, S', q, e, p⟩ := q
  obtain ⟨⟨wx, S1⟩, e1, e2⟩ := Option.bind_eq_some_iff.mp e
  refine ⟨m, S, ρ, wx, S1, q, e1, fun ext H1 x f q1 fr r => ?_⟩
  simp only at e2
  split at e2
  · rename_i ds
    cases e2
    obtain ⟨a, xs, rfl, h, r1⟩ := rp_tup r
    refine ⟨a, rfl, ⟨xs, h⟩, p ext _ H1 f q1 fr (yl_of (by rw [List.length_map, ← r1.length]; exact walk_tup) (fun H' k => sqT_mono h k) fun i H' x H'' w ew k y => ?_)⟩
    obtain ⟨rfl, hx⟩ := y
    exact ⟨fun _ _ z => z, rpAll_getV (RpAll.mono k _ _ r1) hx ew⟩
  · cases e2)⟩
def rngD (lo : Int) (n : Nat) : List W := (List.range n).map fun i => W.d (.int (lo + (i : Nat)))
def iRng1D (R : MA) : MI := fun ρ S => (R ρ S).bind fun p => match p.1 with
  | [.d (.int n)] => if n.toNat < 2 ^ 61 ∧ (-n).toNat < 2 ^ 61 then some (rngD 0 n.toNat, p.2) else none
  | _ => none
def iRng2D (R : MA) : MI := fun ρ S => (R ρ S).bind fun p => match p.1 with
  | [.d (.int lo), .d (.int hi)] => if (lo.toNat < 2 ^ 61 ∧ (-lo).toNat < 2 ^ 61) ∧ hi.toNat < 2 ^ 61 ∧ (-hi).toNat < 2 ^ 61 then some (rngD lo (hi - lo).toNat, p.2) else none
  | _ => none
theorem yl_rng {K : PySem.W.Frag} {m : List Addr} {H1 : Hp} {lo : Int} {n : Nat} : Yl K m (Itr lo n) (rngD lo n) H1 := by
  refine yl_of (G := fun _ => True) (Y := YFn fun i => .int (lo + i)) ?_ (fun _ _ => trivial) fun i H' x H'' w ew k y => ?_
  · have : (rngD lo n).length = n := by simp [rngD]
    rw [this]; exact walk_range
  · obtain ⟨rfl, rfl⟩ := y
    refine ⟨fun _ _ z => z, ?_⟩
    simp only [rngD, List.getElem?_map] at ew
    obtain ⟨j, h1, rfl⟩ := Option.map_eq_some_iff.mp ew
    obtain ⟨h2, h3⟩ := List.getElem?_eq_some_iff.mp h1
    rw [List.getElem_range] at h3
    subst h3
    exact .int _
theorem di_rng1 {p : Pos} (hg : Gl X "range") (hm : X.mg "range" = none) (ha : PA X [a] (rdA X.K R)) (hs : starEach [a] X.env = [(false, eval a X.env)] := by rfl) : PI X tg (.Call (.Name "range" p) [a] [] pos) (rdI X.K (iRng1D R)) := ⟨fun pins s σ H R' I q => (pi_range1 hg hm ha hs).run pins s σ H R' I (by
  obtain ⟨m, S, ρ, ws, S', q, e, p⟩ := q
  obtain ⟨⟨us, S1⟩, e1, e2⟩ := Option.bind_eq_some_iff.mp e
  refine ⟨m, S, ρ, us, S1, q, e1, fun ext H1 vs f q1 fr r => ?_⟩
  simp only at e2
  split at e2
  · split at e2
    · rename_i hb
      cases e2
      obtain ⟨v, rfl, r1⟩ := prd1 r
      obtain rfl := rp_int r1
      exact ⟨_, rfl, by omega, by omega, p ext _ H1 f q1 fr yl_rng⟩
    · cases e2
  · cases e2)⟩
theorem di_rng2 {p : Pos} (hg : Gl X "range") (hm : X.mg "range" = none) (ha : PA X [a, b] (rdA X.K R)) (hs : starEach [a, b] X.env = [(false, eval a X.env), (false, eval b X.env)] := by rfl) (hs2 : starEach [b] X.env = [(false, eval b X.env)] := by rfl) :
    PI X tg (.Call (.Name "range" p) [a, b] [] pos) (rdI X.K (iRng2D R)) := ⟨fun pins s σ H R' I q => (pi_range2 hg hm ha hs hs2).run pins s σ H R' I (by
  obtain ⟨m, S, ρ, ws, S', q, e, p⟩ := q
  obtain ⟨⟨us, S1⟩, e1, e2⟩ := Option.bind_eq_some_iff.mp e
  refine ⟨m, S, ρ, us, S1, q, e1, fun ext H1 vs f q1 fr r => ?_⟩
  simp only at e2
  split at e2
  · split at e2
    · rename_i hb
      cases e2
      obtain ⟨v, v', rfl, r1, r2⟩ := prd2 r
      obtain rfl := rp_int r1
      obtain rfl := rp_int r2
      exact ⟨_, _, rfl, ⟨by omega, by omega, by omega, by omega⟩, p ext _ H1 f q1 fr yl_rng⟩
    · cases e2
  · cases e2)⟩

/-! ### for -/
def forL (g : MG) (F : MS) : List W → MS
  | [], ρ, S => some (.nx, ρ, S)
  | w :: ws, ρ, S => (g w ρ S).bind fun p => (F p.1 p.2).bind fun q => match q.1 with
    | .nx => forL g F ws q.2.1 q.2.2
    | .ct => forL g F ws q.2.1 q.2.2
    | .bk => some (.nx, q.2.1, q.2.2)
    | .rt w => some (.rt w, q.2.1, q.2.2)
def sFor (it : MI) (g : MG) (F : MS) : MS := fun ρ S => (it ρ S).bind fun p => forL g F p.1 ρ p.2
theorem rd_for {K : PySem.W.Frag} {D : Ends} {σ : L2.St} {H : Hp} (h : rdS K (sFor it g F) D σ H) : tFor (rdI K it) (rdG K vis g) (rdS K F) D σ H := by
  obtain ⟨m, S, ρ, fl, ρ', S', q, e, p⟩ := h
  obtain ⟨⟨ws, S1⟩, e1, e2⟩ := Option.bind_eq_some_iff.mp e
  refine ⟨m, S, ρ, ws, S1, q, e1, fun ext J H1 f q1 fr yl => ?_⟩
  have p1 := p.at f q1 fr
  clear p fr f q e e1
  generalize m ++ ext = m at *
  refine ⟨fun i n σ' H' => ∃ e2 S2 ρ2, n = ws.length - i ∧ i ≤ ws.length ∧ Fresh e2 H1 ∧ Sim K (m ++ e2) S2 ρ2 σ' H' ∧ Fr m H1 H' ∧ forL g F (ws.drop i) ρ2 S2 = some (fl, ρ', S'),
    ⟨_, [], S1, ρ, rfl, Nat.zero_le _, fun _ h => absurd h (by simp), by rwa [List.append_nil], Fr.refl, e2⟩, ?_⟩
  rintro i n σ' H' ⟨e2, S2, ρ2, rfl, hi, f2, q2, fr2, e⟩
  have p2 := p1.at f2 q2 fr2
  by_cases hlt : i < ws.length
  · rw [List.drop_eq_getElem_cons hlt] at e
    simp only [forL] at e
    obtain ⟨⟨ρ3, S3⟩, e3, e⟩ := Option.bind_eq_some_iff.mp e
    obtain ⟨⟨f1, ρ4, S4⟩, e4, e⟩ := Option.bind_eq_some_iff.mp e
    refine .inr ⟨yl.go i H' hlt fr2.kp, fun σ4 H4 => ∃ n', n' < ws.length - i ∧ ∃ e2 S2 ρ2, n' = ws.length - (i + 1) ∧ i + 1 ≤ ws.length ∧ Fresh e2 H1 ∧ Sim K (m ++ e2) S2 ρ2 σ4 H4 ∧ Fr m H1 H4 ∧ forL g F (ws.drop (i + 1)) ρ2 S2 = some (fl, ρ', S'), fun σ4 H4 z => z, fun x H2 y => ?_⟩
    obtain ⟨kp, rx⟩ := yl.yld i H' x H2 ws[i] (List.getElem?_eq_getElem hlt) fr2.kp y
    have q3 := q2.same kp
    have fr3 : Fr (m ++ e2) H' H2 := fun a o h _ => kp a o h
    refine ⟨m ++ e2, S2, ρ2, ws[i], ρ3, S3, q3, rx.mono (Kp.refl _), e3, fun ext3 σ3 H3 _ f3 q4 fr4 => ⟨_, S3, ρ3, f1, ρ4, S4, q4, e4, fun ext4 σ4 H4 f4 q5 fr5 => ?_⟩⟩
    have q3' : Sim K ((m ++ e2) ++ []) S2 ρ2 σ' H2 := by rwa [List.append_nil]
    have fr4' : Fr (m ++ e2) H' H3 := fun a o h c => fr4 a o (kp a o h) c
    have f3' : Fresh ext3 H' := fun a ha => by
      cases z : H' a with
      | none => rfl
      | some o => have := kp a o z; rw [f3 a ha] at this; cases this
    have p3 := (p2.at f3' q4 fr4').at f4 q5 fr5
    have ff : Fresh (e2 ++ ext3) H1 := f2.append fr2 q2 f3'
    have q4' : Sim K (m ++ (e2 ++ ext3)) S3 ρ3 σ3 H3 := by rwa [← List.append_assoc]
    have fr4'' : Fr m H1 H3 := fr2.trans f2 fr4'
    have q5' : Sim K (m ++ (e2 ++ ext3 ++ ext4)) S4 ρ4 σ4 H4 := by rw [← List.append_assoc, ← List.append_assoc]; exact q5
    have fr5' : Fr m H1 H4 := fr4''.trans ff (by rwa [← List.append_assoc])
    have next : forL g F (ws.drop (i + 1)) ρ4 S4 = some (fl, ρ', S') → ∃ n', n' < ws.length - i ∧ ∃ e2 S2 ρ2, n' = ws.length - (i + 1) ∧ i + 1 ≤ ws.length ∧ Fresh e2 H1 ∧ Sim K (m ++ e2) S2 ρ2 σ4 H4 ∧ Fr m H1 H4 ∧ forL g F (ws.drop (i + 1)) ρ2 S2 = some (fl, ρ', S') := fun e =>
      ⟨_, by omega, e2 ++ ext3 ++ ext4, S4, ρ4, rfl, hlt, ff.append fr4'' q4' f4, q5', fr5', e⟩
    cases f1 with
    | nx => exact next e
    | ct => exact next e
    | bk => cases e; exact p3.now q5
    | rt w => cases e; exact p3.now q5
  · have ei : i = ws.length := by omega
    subst ei
    rw [List.drop_length] at e
    cases e
    exact .inl ⟨yl.stop H' fr2.kp, p2.now q2⟩
theorem ds_for (hp : PassesOwn (model X.prog X.w) X.A X.env X.xe) (hc : X.calm = true) (hi : PI X tg e (rdI X.K it)) (hg : PG X tg (rdG X.K vis g)) (hb : PSs X body (rdS X.K F))
    (hs : ∀ x, foldedSetIterable e X.env x = pure x := by intro _; rfl) : PS X (.For tg e body [] pos) (rdS X.K (sFor it g F)) := wkS (ps_for hp hc hi hg hb hs) fun D σ H q => rd_for q

/-! ### while -/
def whileL (T : MT) (F : MS) : Nat → MS
  | 0, _, _ => none
  | n + 1, ρ, S => (T ρ S).bind fun p => if p.1 = true then (F ρ p.2).bind fun q => (match q.1 with
    | .nx => whileL T F n q.2.1 q.2.2
    | .ct => whileL T F n q.2.1 q.2.2
    | .bk => some (.nx, q.2.1, q.2.2)
    | .rt w => some (.rt w, q.2.1, q.2.2)) else some (.nx, ρ, p.2)
/-- it ends, behind some number of turns -/
theorem rd_while {K : PySem.W.Frag} {D : Ends} {σ : L2.St} {H : Hp} {n : Nat} (h : rdS K (whileL T F n) D σ H) : tWhile (rdT K T) (rdS K F) D σ H := by
  obtain ⟨m, S, ρ, fl, ρ', S', q, e, p⟩ := h
  refine ⟨fun n σ' H' => ∃ e2 S2 ρ2, Fresh e2 H ∧ Sim K (m ++ e2) S2 ρ2 σ' H' ∧ Fr m H H' ∧ whileL T F n ρ2 S2 = some (fl, ρ', S'), ⟨n, [], S, ρ, fun _ h => absurd h (by simp), by rwa [List.append_nil], Fr.refl, e⟩, ?_⟩
  rintro n σ' H' ⟨e2, S2, ρ2, f2, q2, fr2, e⟩
  have p2 := p.at f2 q2 fr2
  cases n with
  | zero => cases e
  | succ n =>
    simp only [whileL] at e
    obtain ⟨⟨b, S3⟩, e3, e⟩ := Option.bind_eq_some_iff.mp e
    refine ⟨m ++ e2, S2, ρ2, b, S3, q2, e3, fun ext3 H3 f3 q3 fr3 => ?_⟩
    have p3 := p2.at f3 q3 fr3
    have ff : Fresh (e2 ++ ext3) H := f2.append fr2 q2 f3
    have q3' : Sim K (m ++ (e2 ++ ext3)) S3 ρ2 σ' H3 := by rwa [← List.append_assoc]
    have fr3' : Fr m H H3 := fr2.trans f2 fr3
    cases b with
    | false =>
      simp only [Bool.false_eq_true, if_false] at e ⊢
      cases e
      exact p3.now q3
    | true =>
      simp only [if_true] at e ⊢
      obtain ⟨⟨f1, ρ4, S4⟩, e4, e⟩ := Option.bind_eq_some_iff.mp e
      refine ⟨fun σ4 H4 => ∃ n', n' < n + 1 ∧ ∃ e2 S2 ρ2, Fresh e2 H ∧ Sim K (m ++ e2) S2 ρ2 σ4 H4 ∧ Fr m H H4 ∧ whileL T F n' ρ2 S2 = some (fl, ρ', S'), fun _ _ z => z, _, S3, ρ2, f1, ρ4, S4, q3, e4, fun ext4 σ4 H4 f4 q5 fr5 => ?_⟩
      have p4 := p3.at f4 q5 fr5
      have q5' : Sim K (m ++ (e2 ++ ext3 ++ ext4)) S4 ρ4 σ4 H4 := by rw [← List.append_assoc, ← List.append_assoc]; exact q5
      have fr5' : Fr m H H4 := fr3'.trans ff (by rwa [← List.append_assoc])
      have next : whileL T F n ρ4 S4 = some (fl, ρ', S') → ∃ n', n' < n + 1 ∧ ∃ e2 S2 ρ2, Fresh e2 H ∧ Sim K (m ++ e2) S2 ρ2 σ4 H4 ∧ Fr m H H4 ∧ whileL T F n' ρ2 S2 = some (fl, ρ', S') := fun e =>
        ⟨n, Nat.lt_succ_self _, e2 ++ ext3 ++ ext4, S4, ρ4, ff.append fr3' q3' f4, q5', fr5', e⟩
      cases f1 with
      | nx => exact next e
      | ct => exact next e
      | bk => cases e; exact p4.now q5
      | rt w => cases e; exact p4.now q5
theorem ds_while {c : Expr} {n : Nat} (hp : PassesOwn (model X.prog X.w) X.A X.env X.xe) (hc : PT X c (rdT X.K T)) (hb : PSs X body (rdS X.K F)) : PS X (.While c body [] pos) (rdS X.K (whileL T F n)) := wkS (ps_while hp hc hb) fun D σ H q => rd_while q
end
end DL
end
noncomputable section
namespace DL
open PySem PySem.Spec PyProof.Rows L2

def wipeD (ρ : DEnv) : List Nat → DEnv
  | [] => ρ
  | v :: vs => (wipeD ρ vs).set v none
theorem wipeD_len (ρ : DEnv) : ∀ vs : List Nat, (wipeD ρ vs).length = ρ.length
  | [] => rfl
  | v :: vs => by simp [wipeD, wipeD_len ρ vs]
theorem wipeD_some {ρ : DEnv} {i : Nat} {x : W} : ∀ {vs : List Nat}, (wipeD ρ vs)[i]? = some (some x) → ρ[i]? = some (some x) ∧ i ∉ vs
  | [], h => ⟨h, by simp⟩
  | v :: vs, h => by
    simp only [wipeD] at h
    by_cases hi : v = i
    · subst hi
      by_cases hv : v < (wipeD ρ vs).length
      · rw [List.getElem?_set_self hv] at h; cases h
      · rw [List.getElem?_eq_none (by simpa using hv)] at h; cases h
    · rw [List.getElem?_set_ne hi] at h
      obtain ⟨h1, h2⟩ := wipeD_some h
      exact ⟨h1, by simp only [List.mem_cons, not_or]; exact ⟨fun e => hi e.symm, h2⟩⟩
section
variable {K : PySem.W.Frag} {H H1 : Hp} {m ext : List Addr} {S S1 S' : Sto} {ρ : DEnv} {σ : L2.St}
theorem Sim.wipe (q : Sim K m S ρ σ H) (vs : List Nat) : Sim K m S (wipeD ρ vs) (wipe σ vs) H := by
  refine ⟨fun i w e => ?_, q.len, q.nd, q.obs, by rw [wipeD_len, wipe_length]; exact q.rl⟩
  obtain ⟨h1, h2⟩ := wipeD_some e
  obtain ⟨v, h, r⟩ := q.slot i w h1
  exact ⟨v, by rw [wipe_out h2]; exact h, r⟩
/-- something else changed -/
theorem Sim.other {a : Addr} {o u : HO} (q : Sim K m S ρ σ H) (nm : a ∉ m) (ha : H a = some u) (hi : ¬ Imm u) : Sim K m S ρ σ (upd H a o) := by
  have kp : Kp H (upd H a o) := fun b x h i => by
    by_cases e : b = a
    · subst e; rw [ha] at h; cases h; exact absurd i hi
    · rw [upd_ne e]; exact h
  refine ⟨fun i w e => ?_, q.len, q.nd, fun n ob e => ?_, q.rl⟩
  · obtain ⟨v, h, r⟩ := q.slot i w e
    exact ⟨v, h, r.mono0 kp⟩
  · obtain ⟨b, h, r⟩ := q.obs n ob e
    have hb : b ≠ a := fun z => nm (by rw [← z]; exact List.mem_of_getElem? h)
    have := RO.mono (ext := []) r kp (fun x hx => by rw [upd_ne hb]; exact hx)
    rw [List.append_nil] at this
    exact ⟨b, h, this⟩
theorem Sim.adopt {a : Addr} {ob : Ob} (q : Sim K m S ρ σ H) (nm : a ∉ m) (r : RO K (m ++ [a]) H a ob) : Sim K (m ++ [a]) (S ++ [ob]) ρ σ H := by
  refine ⟨fun i w e => ?_, by simp [q.len], ?_, fun n o e => ?_, q.rl⟩
  · obtain ⟨v, h, r⟩ := q.slot i w e
    exact ⟨v, h, r.mono (Kp.refl _)⟩
  · rw [List.nodup_append]
    refine ⟨q.nd, by simp, fun x hx y hy e => ?_⟩
    have ey : y = a := by simpa using hy
    exact nm (by rw [← ey, ← e]; exact hx)
  · by_cases hlt : n < S.length
    · rw [List.getElem?_append_left hlt] at e
      obtain ⟨b, h, r⟩ := q.obs n o e
      refine ⟨b, ?_, RO.mono r (Kp.refl _) (fun _ z => z)⟩
      rw [List.getElem?_append_left (by rw [q.len]; exact hlt)]; exact h
    · have h2 : n < (S ++ [ob]).length := (List.getElem?_eq_some_iff.mp e).1
      have en : n = S.length := by simp at h2; omega
      subst en
      have eo : ob = o := by simpa using e
      subst eo
      refine ⟨a, ?_, r⟩
      rw [List.getElem?_append_right (by rw [q.len]; exact Nat.le_refl _), q.len]; simp
theorem kp_other {a : Addr} {o u : HO} (ha : H a = some u) (hi : ¬ Imm u) : Kp H (upd H a o) := fun b x h i => by
  by_cases e : b = a
  · subst e; rw [ha] at h; cases h; exact absurd i hi
  · rw [upd_ne e]; exact h
theorem fresh_old (f : Fresh ext H1) (k : ∀ a o, H a = some o → H1 a = some o) : Fresh ext H := fun a h => by
  cases e : H a with
  | none => rfl
  | some o =>
    have := k a o e
    rw [f a h] at this; cases this
end

theorem wipe_at (σ : L2.St) : ∀ (vs : List Nat) (i : Nat), (wipe σ vs)[i]? = if i ∈ vs then (σ[i]?).map (fun _ => none) else σ[i]?
  | [], i => by simp [wipe]
  | v :: vs, i => by
    show ((wipe σ vs).set v none)[i]? = _
    by_cases hv : v = i
    · subst hv
      by_cases hl : v < σ.length
      · rw [List.getElem?_set_self (by rw [wipe_length]; exact hl)]
        simp [hl]
      · rw [List.getElem?_eq_none (by rw [List.length_set, wipe_length]; omega), List.getElem?_eq_none (by omega : σ.length ≤ v)]
        simp
    · rw [List.getElem?_set_ne hv, wipe_at σ vs i]
      have : i ≠ v := fun e => hv e.symm
      simp [this]
theorem wipe_twice (σ : L2.St) (vs : List Nat) : wipe (wipe σ vs) vs = wipe σ vs := by
  apply List.ext_getElem?
  intro i
  rw [wipe_at, wipe_at]
  by_cases h : i ∈ vs
  · simp only [h, if_true]
    cases σ[i]? <;> rfl
  · simp only [h, if_false]

/-! ### one clause -/
def lcL (g : MG) (T : MT) (E : ME) (vs : List Nat) (ρ : DEnv) : List W → Sto → Option (List W × Sto)
  | [], S => some ([], S)
  | w :: ws, S => (g w (wipeD ρ vs) S).bind fun p => (T p.1 p.2).bind fun b => if b.1 = true then (E p.1 b.2).bind fun y => (lcL g T E vs ρ ws y.2).bind fun r => some (y.1 :: r.1, r.2) else lcL g T E vs ρ ws b.2
def mLc (it : MI) (g : MG) (T : MT) (E : ME) (vs : List Nat) (k : List W → Sto → Option (W × Sto)) : ME := fun ρ S => (it ρ S).bind fun p => (lcL g T E vs ρ p.1 p.2).bind fun r => k r.1 r.2
section
variable {K : PySem.W.Frag} {it : MI} {g : MG} {T : MT} {E : ME} {vs : List Nat} {k : List W → Sto → Option (W × Sto)} {σ : L2.St} {H : Hp} {Q : VK}
/-- the core: the list stands at D, outside of the store -/
theorem rd_lc (h : rdE K (mLc it g T E vs k) σ H Q) (hk : ∀ ws S w S', k ws S = some (w, S') → ws.length ≤ sizeLine) {Q' : VK}
    (fin : ∀ m S ρ H1 D acc zs w S', Sim K m S ρ σ H1 → D ∉ m → H1 D = some (.lst zs) → Paired (RW K m H1) zs acc → k acc S = some (w, S') →
      (∀ ext H2 v, D ∉ m → (∀ a ∈ ext, a = D) → Sim K (m ++ ext) S' ρ σ H2 → (∀ a o, H1 a = some o → a ≠ D → H2 a = some o) → RW K (m ++ ext) H2 v w → Q v H2) → Q' (.ref D) H1) :
    tLc (rdI K it) (rdG K vs g) (rdT K T) (rdE K E) vs σ H Q' := by
  obtain ⟨m, S, ρ, w, S', q, e, p⟩ := h
  obtain ⟨⟨ws, S1⟩, e1, e⟩ := Option.bind_eq_some_iff.mp e
  obtain ⟨⟨all, S9⟩, hh2, e3⟩ := Option.bind_eq_some_iff.mp e
  have hlen : all.length ≤ sizeLine := hk _ _ _ _ e3
  refine ⟨m, S, ρ, ws, S1, q, e1, fun ext J H1 f q1 fr yl D hD => ?_⟩
  have p1 := p.at f q1 fr
  clear p fr f q e e1
  generalize m ++ ext = m at *
  have keepD := upd_keeps (o := HO.lst []) hD
  have q2 := q1.same keepD
  have nD := q1.nomem hD
  have kpD : Kp H1 (upd H1 D (.lst [])) := upd_kp hD
  refine ⟨fun i n H' => ∃ e2 S2 acc r zs, n = ws.length - i ∧ i ≤ ws.length ∧ Fresh e2 (upd H1 D (.lst [])) ∧ Sim K (m ++ e2) S2 ρ σ H' ∧ (∀ a o, H1 a = some o → (a ∉ m ∨ Imm o) → H' a = some o) ∧ D ∉ m ++ e2 ∧ H' D = some (.lst zs) ∧ Paired (RW K (m ++ e2) H') zs acc ∧ lcL g T E vs ρ (ws.drop i) S2 = some (r, S9) ∧ all = acc ++ r,
    ⟨_, [], S1, [], all, [], rfl, Nat.zero_le _, fun _ h => absurd h (by simp), by rwa [List.append_nil], fun a o h _ => keepD a o h, by rwa [List.append_nil], upd_same, .nil, hh2, rfl⟩, ?_⟩
  rintro i n H' ⟨e2, S2, acc, r, zs, rfl, hi, f2, q3, fr2, n2, hzs, pz, e, hall⟩
  have fr2' : Fr m H1 H' := fr2
  have kp2 : Kp H1 H' := fr2'.kp
  have f2o : Fresh e2 H1 := fresh_old f2 keepD
  by_cases hlt : i < ws.length
  · rw [List.drop_eq_getElem_cons hlt] at e
    simp only [lcL] at e
    obtain ⟨⟨ρ3, S3⟩, e3', e⟩ := Option.bind_eq_some_iff.mp e
    obtain ⟨⟨b, S4⟩, e4, e⟩ := Option.bind_eq_some_iff.mp e
    refine .inr ⟨yl.go i H' hlt kp2, fun H4 => ∃ n', n' < ws.length - i ∧ ∃ e2 S2 acc r zs, n' = ws.length - (i + 1) ∧ i + 1 ≤ ws.length ∧ Fresh e2 (upd H1 D (.lst [])) ∧ Sim K (m ++ e2) S2 ρ σ H4 ∧ (∀ a o, H1 a = some o → (a ∉ m ∨ Imm o) → H4 a = some o) ∧ D ∉ m ++ e2 ∧ H4 D = some (.lst zs) ∧ Paired (RW K (m ++ e2) H4) zs acc ∧ lcL g T E vs ρ (ws.drop (i + 1)) S2 = some (r, S9) ∧ all = acc ++ r, fun H4 z => z, fun x H2 y => ?_⟩
    obtain ⟨kp, rx⟩ := yl.yld i H' x H2 ws[i] (List.getElem?_eq_getElem hlt) kp2 y
    have q4 := q3.same kp
    have base : Fresh e2 (upd H1 D (.lst [])) := f2
    have hD2 : H2 D = some (.lst zs) := kp _ _ hzs
    refine ⟨m ++ e2, S2, wipeD ρ vs, ws[i], ρ3, S3, q4.wipe vs, rx.mono (Kp.refl _), e3', fun ext3 σ3 H3 hw f3 q5 fr3 => ⟨by rw [hw, wipe_twice], ?_⟩⟩
    -- the frame's own slots are as they were
    have simAt : ∀ (ext : List Addr) (S5 : Sto) (ρ5 : DEnv) (σ5 : L2.St) (H5 : Hp), Fresh ext H2 → Sim K (m ++ e2 ++ ext) S5 ρ5 σ5 H5 → Fr (m ++ e2) H2 H5 →
        Sim K (m ++ (e2 ++ ext)) S5 ρ σ H5 ∧ Fresh (e2 ++ ext) (upd H1 D (.lst [])) ∧ (∀ a o, H1 a = some o → (a ∉ m ∨ Imm o) → H5 a = some o) ∧ D ∉ m ++ (e2 ++ ext) ∧ H5 D = some (.lst zs) ∧ Paired (RW K (m ++ (e2 ++ ext)) H5) zs acc := fun ext S5 ρ5 σ5 H5 f5 q6 fr5 => by
      have k5 : Kp H' H5 := (fun a o h i => fr5 a o (kp a o h) (.inr i))
      have nde : D ∉ ext := fun z => by rw [f5 D z] at hD2; cases hD2
      refine ⟨⟨fun j w' ej => ?_, by rw [← List.append_assoc]; exact q6.len, by rw [← List.append_assoc]; exact q6.nd, by rw [← List.append_assoc]; exact q6.obs, q3.rl⟩, ?_, fun a o h c => ?_, ?_, ?_, ?_⟩
      · obtain ⟨v, hv, rv⟩ := q3.slot j w' ej
        refine ⟨v, hv, ?_⟩
        rw [← List.append_assoc]
        exact rv.mono k5
      · intro a ha
        rcases List.mem_append.mp ha with z | z
        · exact f2 a z
        · have h2 := f5 a z
          have nD' : a ≠ D := fun w => nde (w ▸ z)
          rw [upd_ne nD']
          cases z3 : H1 a with
          | none => rfl
          | some o =>
            by_cases c : a ∉ m ∨ Imm o
            · have := kp a o (fr2 a o z3 c)
              rw [h2] at this; cases this
            · have am : a ∈ m := Classical.byContradiction fun w => c (.inl w)
              obtain ⟨o', ho⟩ := q4.mem (List.mem_append_left e2 am)
              rw [h2] at ho; cases ho
      · have h1 := fr2 a o h c
        have h2 := kp a o h1
        refine fr5 a o h2 ?_
        rcases c with c | c
        · refine .inl fun z => ?_
          rcases List.mem_append.mp z with z | z
          · exact c z
          · rw [f2o a z] at h; cases h
        · exact .inr c
      · intro z
        rcases List.mem_append.mp z with z | z
        · exact n2 (List.mem_append_left _ z)
        · rcases List.mem_append.mp z with z | z
          · exact n2 (List.mem_append_right _ z)
          · exact nde z
      · exact fr5 D _ hD2 (.inl n2)
      · rw [← List.append_assoc]
        exact pRW.mono pz k5
    refine ⟨_, S3, ρ3, b, S4, q5, e4, fun ext4 H4 f4 q6 fr4 => ?_⟩
    have ff : Fresh (ext3 ++ ext4) H2 := f3.append fr3 q5 f4
    have fr24 : Fr (m ++ e2) H2 H4 := fr3.trans f3 fr4
    cases b with
    | false =>
      simp only [Bool.false_eq_true, if_false] at e ⊢
      obtain ⟨s1, s2, s3, s4, s5, s6⟩ := simAt (ext3 ++ ext4) S4 _ _ H4 ff (by rwa [← List.append_assoc]) fr24
      exact ⟨_, by omega, _, S4, acc, r, zs, rfl, hlt, s2, s1, s3, s4, s5, s6, e, hall⟩
    | true =>
      simp only [if_true] at e ⊢
      obtain ⟨⟨y, S5⟩, e5, e⟩ := Option.bind_eq_some_iff.mp e
      obtain ⟨⟨r', S6⟩, e6, e7⟩ := Option.bind_eq_some_iff.mp e
      cases e7
      refine ⟨_, S4, ρ3, y, S5, q6, e5, fun ext5 H5 yv f5 q7 fr5 ry => ?_⟩
      have ff5 : Fresh (ext3 ++ ext4 ++ ext5) H2 := ff.append fr24 (by rwa [← List.append_assoc]) f5
      have fr25 : Fr (m ++ e2) H2 H5 := fr24.trans ff (by rwa [← List.append_assoc])
      obtain ⟨s1, s2, s3, s4, s5, s6⟩ := simAt (ext3 ++ ext4 ++ ext5) S5 _ _ H5 ff5 (by rw [← List.append_assoc, ← List.append_assoc]; exact q7) fr25
      have hacc : acc.length < sizeLine := by
        have : all.length = acc.length + (r'.length + 1) := by rw [hall, List.length_append, List.length_cons]
        omega
      refine ⟨zs, s5, by rw [s6.length]; exact hacc, _, by omega, _, S5, acc ++ [y], r', zs ++ [yv], rfl, hlt, s2, s1.other s4 s5 (fun z => z), fun a o h c => ?_, s4, upd_same, ?_, e6, by rw [hall, List.append_assoc]; rfl⟩
      · have : a ≠ D := fun z => by subst z; rw [hD] at h; cases h
        rw [upd_ne this]
        exact s3 a o h c
      · have kk : Kp H5 (upd H5 D (.lst (zs ++ [yv]))) := kp_other s5 fun z => z
        refine paired_app (Paired.mapP s6 fun _ _ z => z.mono0 kk) (.cons ?_ .nil)
        have := ry.mono0 kk
        rwa [show m ++ e2 ++ ext3 ++ ext4 ++ ext5 = m ++ (e2 ++ (ext3 ++ ext4 ++ ext5)) by simp] at this
  · have ei : i = ws.length := by omega
    subst ei
    rw [List.drop_length] at e
    cases e
    rw [List.append_nil] at hall
    subst hall
    refine .inl ⟨yl.stop H' kp2, fin (m ++ e2) S9 ρ H' D all zs w S' q3 n2 hzs pz e3 fun ext H2 v _ hext q9 k9 r9 => ?_⟩
    have dext : Fresh (e2 ++ ext) H1 := fun a ha => by
      rcases List.mem_append.mp ha with z | z
      · exact f2o a z
      · rw [hext a z]; exact hD
    refine p1 (e2 ++ ext) H2 v dext (by rwa [← List.append_assoc]) (fun a o h c => ?_) (by rwa [← List.append_assoc])
    exact k9 a o (fr2 a o h c) fun z => by subst z; rw [hD] at h; cases h
/-- the list locked -/
def kFrz : List W → Sto → Option (W × Sto) := fun ws S => (allD ws).bind fun ds => if ds.length ≤ sizeLine then some (.d (.list ds), S) else none
def kBox : List W → Sto → Option (W × Sto) := fun ws S => if ws.length ≤ sizeLine then some (.loc S.length, S ++ [.lst ws]) else none
theorem allD_len : ∀ {ws : List W} {ds : List PyData}, allD ws = some ds → ds.length = ws.length
  | [], _, e => by cases e; rfl
  | .d x :: ws, ds, e => by
    simp only [allD, Option.map_eq_some_iff] at e
    obtain ⟨es, e1, rfl⟩ := e
    simp [allD_len e1]
  | .loc _ :: _, _, e => by cases e
theorem kFrz_len {ws : List W} {S S' : Sto} {w : W} (h : kFrz ws S = some (w, S')) : ws.length ≤ sizeLine := by
  obtain ⟨ds, e1, e2⟩ := Option.bind_eq_some_iff.mp h
  split at e2
  · rw [← allD_len e1]; assumption
  · cases e2
theorem kBox_len {ws : List W} {S S' : Sto} {w : W} (h : kBox ws S = some (w, S')) : ws.length ≤ sizeLine := by
  unfold kBox at h
  split at h
  · assumption
  · cases h
theorem rd_lcF (h : rdE K (mLc it g T E vs kFrz) σ H Q) : tLc (rdI K it) (rdG K vs g) (rdT K T) (rdE K E) vs σ H (Lk Q) :=
  rd_lc h (fun _ _ _ _ => kFrz_len) fun m S ρ H1 D acc zs w S' q nD hD pz e p => by
    obtain ⟨ds, e1, e2⟩ := Option.bind_eq_some_iff.mp e
    split at e2
    · cases e2
      refine ⟨D, zs, rfl, hD, fun o => ?_⟩
      have k : Kp H1 (upd H1 D (.frz o (.lst zs))) := kp_other hD fun z => z
      refine p [] _ _ nD (fun _ h => absurd h (by simp)) (by rw [List.append_nil]; exact q.other nD hD fun z => z) (fun a o h n => by rw [upd_ne n]; exact h) ?_
      exact Rp.lst (.inl ⟨o, upd_same⟩) (RpAll.mono k _ _ (allD_of e1 pz))
    · cases e2
theorem rd_lcB (h : rdE K (mLc it g T E vs kBox) σ H Q) : tLc (rdI K it) (rdG K vs g) (rdT K T) (rdE K E) vs σ H Q :=
  rd_lc h (fun _ _ _ _ => kBox_len) fun m S ρ H1 D acc zs w S' q nD hD pz e p => by
    unfold kBox at e
    split at e
    · cases e
      refine p [D] _ _ nD (fun _ h => by simpa using h) (q.adopt nD ⟨zs, hD, pRW.mono pz (Kp.refl _)⟩) (fun a o h n => h) ⟨D, ?_, rfl⟩
      rw [← q.len, List.getElem?_append_right (Nat.le_refl _)]; simp
    · cases e
end
section
variable {X : Cx} {elt tg iter : Expr} {ifs : List Expr} {scope : Scope} {own : List (Str × Nat)} {pos spos py : Pos} {it : MI} {g : MG} {T : MT} {E : ME}
def tTrue : MT := fun _ S => some (true, S)
theorem dts_nil : PTs X [] (rdT X.K tTrue) := ⟨fun p s σ H Q I q => pts_nil.run p s σ H Q I (by
  obtain ⟨m, S, ρ, b, S', q, e, p⟩ := q
  cases e
  exact p.now q)⟩
theorem dts_one {c : Expr} (h : PT X c (rdT X.K T)) : PTs X [c] (rdT X.K T) := pts_one h
theorem de_lc (hc : X.calm = true) (hN : X.N.Nodup) (hi : PI X tg iter (rdI X.K it)) (ok : BlkOk X.N X.env.scope scope own)
    (hg : ∀ (s : Shared) (H : Hp) (C : Addr) (cl : List (Str × Addr)) (fp : List Addr), PG (X.blk s H scope (compEnvC scope cl C X.env) fp) tg (rdG X.K (own.map (·.2)) g)) (ht : ∀ (s : Shared) (H : Hp) (C : Addr) (cl : List (Str × Addr)) (fp : List Addr), PTs (X.blk s H scope (compEnvC scope cl C X.env) fp) ifs (rdT X.K T))
    (he : ∀ (s : Shared) (H : Hp) (C : Addr) (cl : List (Str × Addr)) (fp : List Addr), PE (X.blk s H scope (compEnvC scope cl C X.env) fp) elt (rdE X.K E)) (hs : ∀ x, foldedSetIterable iter X.env x = pure x := by intro _; rfl) :
    PE X (.ListComp elt [⟨tg, iter, ifs, 0⟩] scope pos) (rdE X.K (mLc it g T E (own.map (·.2)) kFrz)) := wkE (peFrz (pe_lc hc hN hi ok hg ht he hs)) fun σ H Q q => rd_lcF q
theorem de_lcB (hc : X.calm = true) (hN : X.N.Nodup) (hi : PI X tg iter (rdI X.K it)) (ok : BlkOk X.N X.env.scope scope own)
    (hg : ∀ (s : Shared) (H : Hp) (C : Addr) (cl : List (Str × Addr)) (fp : List Addr), PG (X.blk s H scope (compEnvC scope cl C X.env) fp) tg (rdG X.K (own.map (·.2)) g)) (ht : ∀ (s : Shared) (H : Hp) (C : Addr) (cl : List (Str × Addr)) (fp : List Addr), PTs (X.blk s H scope (compEnvC scope cl C X.env) fp) ifs (rdT X.K T))
    (he : ∀ (s : Shared) (H : Hp) (C : Addr) (cl : List (Str × Addr)) (fp : List Addr), PE (X.blk s H scope (compEnvC scope cl C X.env) fp) elt (rdE X.K E)) (hs : ∀ x, foldedSetIterable iter X.env x = pure x := by intro _; rfl) :
    PE X (.ListComp elt [⟨tg, iter, ifs, 0⟩] scope pos) (rdE X.K (mLc it g T E (own.map (·.2)) kBox)) := wkE (pe_lc hc hN hi ok hg ht he hs) fun σ H Q q => rd_lcB q
/-- name = a new list, locked -/
def LkS (i : Nat) (D : Ends) : L2.St → Hp → Prop := fun σ' H1 => ∃ a xs, σ'[i]? = some (some (.ref a)) ∧ H1 a = some (.lst xs) ∧ ∀ o, D.nx σ' (upd H1 a (.frz o (.lst xs)))
theorem psFrz {st : Stmt} {t : TE} {i : Nat} (h : PS X st (tAsg t (gName i))) : PS X st fun D σ H => t σ H fun v H1 => LkS i D (σ.set i (some v)) H1 := by
  refine ⟨fun pins s σ H D I q => ?_⟩
  refine thn (h.run pins s σ H { nx := LkS i D, rt := fun _ _ => False } I q) fun f s1 q1 => ?_
  cases f with
  | next =>
    obtain ⟨σ', H', I', a, xs, e1, hl, q⟩ := q1
    obtain ⟨o, I2⟩ := I'.lock hl trivial
    exact ⟨σ', _, I2, q o⟩
  | brk => obtain ⟨_, _, _, z⟩ := q1; exact z.elim
  | cont => obtain ⟨_, _, _, z⟩ := q1; exact z.elim
  | ret v => obtain ⟨_, _, _, _, _, z⟩ := q1; exact z.elim
theorem asgE {A : ME} {i : Nat} {K : PySem.W.Frag} {D : Ends} {σ : L2.St} {H : Hp} (h : rdS K (sAsg A (gSet i)) D σ H) : rdE K A σ H (fun v H1 => D.nx (σ.set i (some v)) H1) ∧ i < σ.length := by
  obtain ⟨m, S, ρ, fl, ρ', S', q, e, p⟩ := h
  obtain ⟨⟨wx, S1⟩, e1, e2⟩ := Option.bind_eq_some_iff.mp e
  obtain ⟨⟨ρ2, S2⟩, e3, e4⟩ := Option.bind_eq_some_iff.mp e2
  cases e4
  unfold gSet at e3
  split at e3
  · rename_i hi
    cases e3
    have := q.rl
    exact ⟨⟨m, S, ρ, wx, _, q, e1, fun ext H1 x f q1 fr r => ((p.at f q1 fr).now (q1.slotset r))⟩, by omega⟩
  · cases e3
theorem ds_setLc {i : Nat} {y : Str} (hc : X.calm = true) (hN : X.N.Nodup) (hy : X.N[i]? = some y) (hyl : X.env.scope.names.lookup y = some .local)
    (hsw : swapsWith (.ListComp elt [⟨tg, iter, ifs, 0⟩] scope pos) (some (.Name y py)) spos.line X.env = pure true) (hi : PI X tg iter (rdI X.K it)) (ok : BlkOk X.N X.env.scope scope own)
    (hg : ∀ (s : Shared) (H : Hp) (C : Addr) (cl : List (Str × Addr)) (fp : List Addr), PG (X.blk s H scope (compEnvC scope cl C X.env) fp) tg (rdG X.K (own.map (·.2)) g)) (ht : ∀ (s : Shared) (H : Hp) (C : Addr) (cl : List (Str × Addr)) (fp : List Addr), PTs (X.blk s H scope (compEnvC scope cl C X.env) fp) ifs (rdT X.K T))
    (he : ∀ (s : Shared) (H : Hp) (C : Addr) (cl : List (Str × Addr)) (fp : List Addr), PE (X.blk s H scope (compEnvC scope cl C X.env) fp) elt (rdE X.K E)) (hs : ∀ x, foldedSetIterable iter X.env x = pure x := by intro _; rfl) :
    PS X (.Assign [.Name y py] (.ListComp elt [⟨tg, iter, ifs, 0⟩] scope pos) spos) (rdS X.K (sAsg (mLc it g T E (own.map (·.2)) kFrz) (gSet i))) := wkS (psFrz (ps_setLc hc hN hy hyl hsw hi ok hg ht he hs)) fun D σ H q => by
  obtain ⟨q1, hi⟩ := asgE q
  refine rd_lc q1 (fun _ _ _ _ => kFrz_len) fun m S ρ H1 D acc zs w S' q nD hD pz e p => ?_
  obtain ⟨ds, e1, e2⟩ := Option.bind_eq_some_iff.mp e
  split at e2
  · cases e2
    refine ⟨D, zs, by rw [List.getElem?_set_self hi], hD, fun o => ?_⟩
    have k : Kp H1 (upd H1 D (.frz o (.lst zs))) := kp_other hD fun z => z
    refine p [] _ _ nD (fun _ h => absurd h (by simp)) (by rw [List.append_nil]; exact q.other nD hD fun z => z) (fun a o h n => by rw [upd_ne n]; exact h) ?_
    exact Rp.lst (.inl ⟨o, upd_same⟩) (RpAll.mono k _ _ (allD_of e1 pz))
  · cases e2
theorem ds_setLcB {i : Nat} {y : Str} (hc : X.calm = true) (hN : X.N.Nodup) (hy : X.N[i]? = some y) (hyl : X.env.scope.names.lookup y = some .local)
    (hsw : swapsWith (.ListComp elt [⟨tg, iter, ifs, 0⟩] scope pos) (some (.Name y py)) spos.line X.env = pure true) (hi : PI X tg iter (rdI X.K it)) (ok : BlkOk X.N X.env.scope scope own)
    (hg : ∀ (s : Shared) (H : Hp) (C : Addr) (cl : List (Str × Addr)) (fp : List Addr), PG (X.blk s H scope (compEnvC scope cl C X.env) fp) tg (rdG X.K (own.map (·.2)) g)) (ht : ∀ (s : Shared) (H : Hp) (C : Addr) (cl : List (Str × Addr)) (fp : List Addr), PTs (X.blk s H scope (compEnvC scope cl C X.env) fp) ifs (rdT X.K T))
    (he : ∀ (s : Shared) (H : Hp) (C : Addr) (cl : List (Str × Addr)) (fp : List Addr), PE (X.blk s H scope (compEnvC scope cl C X.env) fp) elt (rdE X.K E)) (hs : ∀ x, foldedSetIterable iter X.env x = pure x := by intro _; rfl) :
    PS X (.Assign [.Name y py] (.ListComp elt [⟨tg, iter, ifs, 0⟩] scope pos) spos) (rdS X.K (sAsg (mLc it g T E (own.map (·.2)) kBox) (gSet i))) := wkS (ps_setLc hc hN hy hyl hsw hi ok hg ht he hs) fun D σ H q => by
  obtain ⟨q1, hi⟩ := asgE q
  exact rd_lcB q1
end
end DL
end
noncomputable section
namespace DL
open PySem PySem.Spec PyProof.Rows L2

/-- a def as a function of data: the arguments, the objects that they point to -/
abbrev FS := List W → Sto → Option (W × Sto)
def spD (K : PySem.W.Frag) (n : Nat) (f : FS) : Sp := fun vs H Q _ =>
  ∃ m S ws w S', Sim K m S [] [] H ∧ Paired (RW K m H) vs ws ∧ ws.length = n ∧ f ws S = some (w, S') ∧ Post K m S' [] [] H w Q
/-- a def's promise where no guard is up -/
structure FnG (P : Program) (w : World) (K : PySem.W.Frag) (mg : Str → Option Value) (base : Heap) (k : Nat) (f : Addr) (fd : FuncData) (ps : List Str) (sp : Sp) : Prop where
  len : ∀ vs H Q E, sp vs H Q E → vs.length = ps.length
  run : ∀ (A : Around) (outer : List Env) (s : Shared) (H : Hp) (args : Args) (us : List Value) (vs : List V) (Q : VK) (E : XK), Room k A → A.guards = some [] → Env0 P w K mg base A outer s H → BindsTo s fd args (ps.zip us) → Vals vs us → sp vs H Q E →
    codeAny (model P w) A (.call (.ref f) args) (CR CX0 outer P w H s Q E) s

/-! ### a body -/
def obD : Ob → Bool
  | .lst ws => (allD ws).isSome
  | .dicK kvs => (allD (kvs.map (·.2))).isSome
  | .dicT kvs => (allD (kvs.map (·.2))).isSome
  | .dead => true
def wD : W → Bool
  | .d _ => true
  | .loc _ => false
theorem allD_wD : ∀ {ws : List W}, (allD ws).isSome = true → ∀ w ∈ ws, wD w = true
  | [], _, w, h => by simp at h
  | .d x :: ws, e, w, h => by
    simp only [allD, Option.isSome_map] at e
    rcases List.mem_cons.mp h with z | z
    · rw [z]; rfl
    · exact allD_wD e w z
  | .loc _ :: _, e, _, _ => by cases e
theorem RW.anyM {K : PySem.W.Frag} {m m2 : List Addr} {H : Hp} {v : V} {w : W} (h : wD w = true) (r : RW K m H v w) : RW K m2 H v w := by
  cases w with
  | d x => exact r
  | loc n => cases h
theorem paired_anyM {K : PySem.W.Frag} {m m2 : List Addr} {H : Hp} : ∀ {vs : List V} {ws : List W}, (∀ w ∈ ws, wD w = true) → Paired (RW K m H) vs ws → Paired (RW K m2 H) vs ws
  | _, _, _, .nil => .nil
  | _, _, h, .cons r t => .cons (r.anyM (h _ (by simp))) (paired_anyM (fun w hw => h w (by simp [hw])) t)
theorem pairedK_anyM {κ : Type} {K : PySem.W.Frag} {m m2 : List Addr} {H : Hp} : ∀ {vs : List (κ × V)} {ws : List (κ × W)}, (∀ w ∈ ws.map (·.2), wD w = true) → Paired (fun p q => p.1 = q.1 ∧ RW K m H p.2 q.2) vs ws → Paired (fun p q => p.1 = q.1 ∧ RW K m2 H p.2 q.2) vs ws
  | _, _, _, .nil => .nil
  | _, _, h, .cons r t => .cons ⟨r.1, r.2.anyM (h _ (by simp))⟩ (pairedK_anyM (fun w hw => h w (by simp at hw ⊢; exact .inr hw)) t)
theorem RO.anyM {K : PySem.W.Frag} {m m2 : List Addr} {H : Hp} {a : Addr} {ob : Ob} (h : obD ob = true) (r : RO K m H a ob) : RO K m2 H a ob := by
  cases ob with
  | lst ws => obtain ⟨vs, e, p⟩ := r; exact ⟨vs, e, paired_anyM (allD_wD h) p⟩
  | dicK kvs => obtain ⟨vs, e, p⟩ := r; exact ⟨vs, e, pairedK_anyM (allD_wD h) p⟩
  | dicT kvs => obtain ⟨vs, e, p⟩ := r; exact ⟨vs, e, pairedK_anyM (allD_wD h) p⟩
  | dead => exact r
/-- what leaves a body: the value, the first n objects, and a new one if the value is it -/
def leave (n : Nat) (w : W) (S : Sto) : Option (W × Sto) :=
  if (S.take n).all obD = true then match w with
    | .d x => some (.d x, S.take n)
    | .loc j => match S[j]? with
      | some ob => if n ≤ j ∧ obD ob = true then some (.loc n, S.take n ++ [ob]) else none
      | none => none
  else none
def runF (N : Nat) (b : MS) : FS := fun ws S => (b (ws.map some ++ List.replicate (N - ws.length) none) S).bind fun p => match p.1 with
  | .nx => leave S.length (.d .none) p.2.2
  | .rt w => leave S.length w p.2.2
  | _ => none
section
variable {K : PySem.W.Frag} {H H' : Hp} {m ext : List Addr} {S S1 S' : Sto} {ρ : DEnv} {σ : L2.St} {w w' : W} {Q : VK}
theorem sim_take (q : Sim K (m ++ ext) S1 ρ σ H') (hl : m.length = S.length) (h : (S1.take S.length).all obD = true) : Sim K m (S1.take S.length) [] [] H' := by
  have l1 : m.length + ext.length = S1.length := by have := q.len; rwa [List.length_append] at this
  refine ⟨fun i w e => by simp at e, by rw [List.length_take]; omega, (List.nodup_append.mp q.nd).1, fun n ob e => ?_, Nat.le_refl _⟩
  have hn : n < (S1.take S.length).length := (List.getElem?_eq_some_iff.mp e).1
  rw [List.length_take] at hn
  have e' : S1[n]? = some ob := by rw [List.getElem?_take_of_lt (by omega)] at e; exact e
  obtain ⟨a, ha, r⟩ := q.obs n ob e'
  rw [List.getElem?_append_left (by omega)] at ha
  exact ⟨a, ha, r.anyM (List.all_eq_true.mp h ob (List.mem_of_getElem? e))⟩
theorem leave_ok (q0 : Sim K m S [] [] H) (p : Post K m S' [] [] H w' Q) (hf : Fresh ext H) (q : Sim K (m ++ ext) S1 ρ σ H') (fr : Fr m H H') (e : leave S.length w S1 = some (w', S')) {v : V} (r : RW K (m ++ ext) H' v w) : Q v H' := by
  unfold leave at e
  split at e
  · rename_i hd
    have q1 := sim_take q q0.len hd
    split at e
    · cases e
      exact p [] H' v (fun _ h => absurd h (by simp)) (by rwa [List.append_nil]) fr (RW.anyM (m := m ++ ext) rfl r)
    · rename_i j
      split at e
      · rename_i ob hj
        split at e
        · rename_i hob
          cases e
          obtain ⟨a, ha, rfl⟩ := r
          obtain ⟨a2, ha2, ro⟩ := q.obs j ob hj
          rw [ha] at ha2; cases ha2
          have hlen := q0.len
          have hae : ext[j - m.length]? = some a := by
            rw [List.getElem?_append_right (by omega)] at ha
            exact ha
          have am : a ∈ ext := List.mem_of_getElem? hae
          have nm : a ∉ m := fun z => (List.nodup_append.mp q.nd).2.2 a z a am rfl
          refine p [a] H' _ (fun b hb => by simp at hb; subst hb; exact hf _ am) (q1.adopt nm (ro.anyM hob.2)) fr ⟨a, ?_, rfl⟩
          rw [← q0.len, List.getElem?_append_right (Nat.le_refl _)]; simp
        · cases e
      · cases e
  · cases e
end
theorem guards_deeper (A : Around) (e : Env) : (A.deeper e).guards = A.guards := rfl
section
variable {P : Program} {w : World} {K : PySem.W.Frag} {mg : Str → Option Value} {base : Heap}
/-- a def keeps the promise of its body's function -/
theorem fnG {x qual : Str} {st : Stmt} {f : Addr} {fd : FuncData} {N ps : List Str} {k : Nat} {b : MS} (F : Fun K x qual st f fd) (sc : FnScope N ps (defScope st))
    (body : ∀ (cdv : Value) (A : Around) (outer : List Env) (s : Shared) (H : Hp) (E : XK), Room k (A.deeper (envOfC qual (defScope st) s.heap.objs.size f cdv)) → (A.deeper (envOfC qual (defScope st) s.heap.objs.size f cdv)).guards = some [] →
      PSs (cxOf CX0 P w K mg base N qual (defScope st) f cdv A outer s H E).nox (defBody st) (rdS K b)) : FnG P w K mg base (k + 1) f fd ps (spD K ps.length (runF N.length b)) := by
  obtain ⟨oc, od, kV, doc, pm, an, cdv, ct, osl, rfl, lk, hcd⟩ := F.ex
  have plen : ∀ vs H Q E, spD K ps.length (runF N.length b) vs H Q E → vs.length = ps.length := fun vs H Q E ⟨_, _, ws, _, _, _, r, hl, _⟩ => r.length.trans hl
  refine ⟨plen, ?_⟩
  intro A outer s H args us vs Q E room hgd e0 bind rel want
  have argl := plen _ _ _ _ want
  have inK : K.In s.heap := e0.mod.kin.keeps fun z o e => (e0.bs z o e).1
  have nolim : s.heap.NoLimit := e0.mod.nolimit.keeps fun z o e => (e0.bs z o e).1
  have kinds : ∀ y ∈ ps.zip us, (defScope st).names.lookup y.1 = some .local ∨ ((defScope st).names.lookup y.1 = some .cell ∧ ((cellsFrom (s.heap.objs.size + 1) (defScope st).names []).lookup y.1).isSome = true) := by
    rintro ⟨n, z⟩ hy
    rcases sc.par n (List.of_mem_zip hy).1 with c | c
    · exact Or.inl c
    · exact Or.inr ⟨c, PySem.W.cellsFrom_some _ _ _ (Or.inl c)⟩
  refine codeAny_call_function room.depth (inK _ _ lk) rfl sc.co sc.gen rfl (PySem.W.codeRec_of inK hcd) (bind _ _ _ _ (wpAny_newFunctionEnv_cells sc.kind kinds fun env ee s1 made => ?_))
  subst ee
  refine ⟨nolim.keeps made.toInCall.keep, codeAny_func ?_⟩
  have I0 : Inv (cxOf CX0 P w K mg base N qual (defScope st) f cdv A outer s H E) [] (start N vs) H s1 := inv_start sc room.hd e0 argl rel made
  have run := ((body cdv A outer s H E (room.deeper _) hgd).nox).run [] s1 (start N vs) H { nx := fun _ H' => Q .non H', rt := Q } I0 (by
    obtain ⟨m, S, ws, w0, S', q0, pr, hl, e, p⟩ := want
    obtain ⟨⟨fl, ρ', S1⟩, e1, e2⟩ := Option.bind_eq_some_iff.mp e
    have npl : ps.length ≤ N.length := by
      have := congrArg List.length sc.pre
      rw [List.length_take] at this
      omega
    have vl := pr.length
    refine ⟨m, S, _, fl, ρ', S1, ⟨fun i w' ei => ?_, q0.len, q0.nd, q0.obs, ?_⟩, e1, fun ext σ' H' hf q fr => ?_⟩
    · by_cases hi : i < ws.length
      · rw [List.getElem?_append_left (by simpa using hi), List.getElem?_map] at ei
        obtain ⟨w2, h2, h3⟩ := Option.map_eq_some_iff.mp ei
        cases h3
        obtain ⟨v, hv, rv⟩ := paired_getR pr h2
        refine ⟨v, ?_, rv⟩
        unfold L2.start
        rw [List.getElem?_append_left (by rw [List.length_map]; omega), List.getElem?_map, hv]; rfl
      · rw [List.getElem?_append_right (by simpa using Nat.le_of_not_lt hi), List.getElem?_replicate] at ei
        split at ei <;> cases ei
    · unfold L2.start
      simp only [List.length_append, List.length_map, List.length_replicate]
      omega
    · cases fl with
      | nx => exact leave_ok q0 p hf q fr e2 (v := .non) .non
      | rt w2 => exact fun v r => leave_ok q0 p hf q fr e2 r
      | bk => cases e2
      | ct => cases e2)
  refine wpAny_mono run (fun fl s' hs => ?_) fun e s' hs => hs
  cases fl with
  | ret u =>
    obtain ⟨v, σ', H', J, rv, q⟩ := hs
    exact ⟨v, H', J.os, J.bare, J.base, J.hok, rv, q⟩
  | next =>
    obtain ⟨σ', H', J, q⟩ := hs
    exact ⟨.non, H', J.os, J.bare, J.base, J.hok, rfl, q⟩
  | brk => obtain ⟨_, _, _, q⟩ := hs; exact False.elim q
  | cont => obtain ⟨_, _, _, q⟩ := hs; exact False.elim q
end

/-! ### a call -/
def firstLoc : List W → Option Nat
  | [] => none
  | .loc n :: _ => some n
  | .d _ :: ws => firstLoc ws
def allLoc (n : Nat) : List W → Bool
  | [] => true
  | .loc j :: ws => j == n && allLoc n ws
  | .d _ :: ws => allLoc n ws
def toZero : W → W
  | .d x => .d x
  | .loc _ => .loc 0
def callF (f : FS) : List W → Sto → Option (W × Sto) := fun ws S => match firstLoc ws with
  | none => (f ws []).bind fun r => match r.1, r.2 with
    | .d x, [] => some (.d x, S)
    | .loc 0, [ob] => if obD ob = true then some (.loc S.length, S ++ [ob]) else none
    | _, _ => none
  | some n => if allLoc n ws = true then match S[n]? with
    | some ob => if obD ob = true then (f (ws.map toZero) [ob]).bind fun r => match r.1, r.2 with
      | .d x, [ob'] => if obD ob' = true then some (.d x, S.set n ob') else none
      | .loc 1, [ob', ob2] => if obD ob' = true ∧ obD ob2 = true then some (.loc S.length, S.set n ob' ++ [ob2]) else none
      | _, _ => none
      else none
    | none => none
    else none
section
variable {K : PySem.W.Frag} {H H1 H' : Hp} {m ext : List Addr} {S S1 S' : Sto} {ρ : DEnv} {σ : L2.St} {w w' : W} {Q : VK}
theorem noLoc_anyM : ∀ {ws : List W} {vs : List V} {m m2 : List Addr}, firstLoc ws = none → Paired (RW K m H) vs ws → Paired (RW K m2 H) vs ws
  | [], _, _, _, _, .nil => .nil
  | .d x :: ws, _, _, _, h, .cons r t => .cons r (noLoc_anyM h t)
  | .loc _ :: _, _, _, _, h, _ => by cases h
theorem oneLoc {a : Addr} : ∀ {ws : List W} {vs : List V} {n : Nat}, m[n]? = some a → allLoc n ws = true → Paired (RW K m H) vs ws → Paired (RW K [a] H) vs (ws.map toZero)
  | [], _, _, _, _, .nil => .nil
  | .d x :: ws, _, _, ha, h, .cons r t => .cons r (oneLoc ha h t)
  | .loc j :: ws, _, n, ha, h, .cons r t => by
    simp only [allLoc, Bool.and_eq_true, beq_iff_eq] at h
    refine .cons ?_ (oneLoc ha h.2 t)
    obtain ⟨b, hb, e⟩ := r
    rw [h.1, ha] at hb; cases hb
    exact ⟨a, rfl, e⟩
theorem RO.there {a : Addr} {ob : Ob} (r : RO K m H a ob) : ∃ o, H a = some o := by
  cases ob with
  | lst ws => obtain ⟨vs, h, _⟩ := r; exact ⟨_, h⟩
  | dicK ws => obtain ⟨vs, h, _⟩ := r; exact ⟨_, h⟩
  | dicT ws => obtain ⟨vs, h, _⟩ := r; exact ⟨_, h⟩
  | dead => exact r
/-- the store behind a call that may have changed the n-th object -/
theorem Sim.after {a : Addr} {n : Nat} {ob' : Ob} {m2 : List Addr} (q : Sim K m S ρ σ H) (ha : m[n]? = some a) (hn : n < S.length) (k : ∀ b o, H b = some o → (b ≠ a ∨ Imm o) → H' b = some o) (r : RO K m2 H' a ob') (hd : obD ob' = true) : Sim K m (S.set n ob') ρ σ H' := by
  have kp : Kp H H' := fun b o h i => k b o h (.inr i)
  refine ⟨fun i w e => ?_, by simp [q.len], q.nd, fun j ob2 e => ?_, q.rl⟩
  · obtain ⟨v, h, r⟩ := q.slot i w e
    exact ⟨v, h, r.mono0 kp⟩
  · by_cases hj : j = n
    · subst hj
      rw [List.getElem?_set_self hn] at e
      cases e
      exact ⟨a, ha, r.anyM hd⟩
    · rw [List.getElem?_set_ne (Ne.symm hj)] at e
      obtain ⟨b, h, r'⟩ := q.obs j ob2 e
      refine ⟨b, h, ?_⟩
      have hb : b ≠ a := fun z => by
        subst z
        obtain ⟨h1, e1⟩ := List.getElem?_eq_some_iff.mp h
        obtain ⟨h2, e2⟩ := List.getElem?_eq_some_iff.mp ha
        exact hj ((List.getElem_inj q.nd).mp (e1.trans e2.symm))
      have := RO.mono (ext := []) r' kp (fun u hu => k b u hu (.inl hb))
      rw [List.append_nil] at this
      exact this
theorem callF_sp {f : FS} {ws : List W} {vs : List V} {E : XK} (q : Sim K m S ρ σ H) (pr : Paired (RW K m H) vs ws) (e : callF f ws S = some (w, S')) (p : Post K m S' ρ σ H w Q) : spD K ws.length f vs H Q E := by
  unfold callF at e
  split at e
  · rename_i hnl
    obtain ⟨⟨w1, S1⟩, e1, e2⟩ := Option.bind_eq_some_iff.mp e
    refine ⟨[], [], ws, w1, S1, ⟨fun i w h => by simp at h, rfl, by simp, fun n ob h => by simp at h, Nat.le_refl _⟩, noLoc_anyM hnl pr, rfl, e1, fun ext H' v hf q1 fr r => ?_⟩
    have keep : ∀ b o, H b = some o → H' b = some o := fun b o h => fr b o h (.inl (by simp))
    simp only at e2
    split at e2
    · cases e2
      exact p.grown q keep (RW.anyM (m := [] ++ ext) rfl r)
    · rename_i _ _ ob
      split at e2
      · rename_i hob
        cases e2
        obtain ⟨a, ha, rfl⟩ := r
        obtain ⟨a2, ha2, ro⟩ := q1.obs 0 ob rfl
        rw [ha] at ha2; cases ha2
        have am : a ∈ ext := by
          rw [List.nil_append] at ha
          exact List.mem_of_getElem? ha
        have nm : a ∉ m := q.nomem (hf a am)
        refine p [a] H' _ (fun b hb => by simp at hb; subst hb; exact hf _ am) ((q.same keep).adopt nm (ro.anyM hob)) (fun b o h _ => keep b o h) ⟨a, ?_, rfl⟩
        rw [← q.len, List.getElem?_append_right (Nat.le_refl _)]; simp
      · cases e2
    · cases e2
  · rename_i n hfl
    split at e
    · rename_i hal
      split at e
      · rename_i ob hob
        split at e
        · rename_i hod
          obtain ⟨⟨w1, S1⟩, e1, e2⟩ := Option.bind_eq_some_iff.mp e
          obtain ⟨a, ha, ro⟩ := q.obs n ob hob
          have hn : n < S.length := (List.getElem?_eq_some_iff.mp hob).1
          refine ⟨[a], [ob], ws.map toZero, w1, S1, ⟨fun i w h => by simp at h, rfl, by simp, fun j o h => ?_, Nat.le_refl _⟩, oneLoc ha hal pr, by simp, e1, fun ext H' v hf q1 fr r => ?_⟩
          · cases j with
            | zero =>
              have : ob = o := by simpa using h
              subst this
              exact ⟨a, rfl, ro.anyM hod⟩
            | succ j => simp at h
          have keep : ∀ b o, H b = some o → (b ≠ a ∨ Imm o) → H' b = some o := fun b o h c => fr b o h (by
            rcases c with c | c
            · exact .inl (by simpa using c)
            · exact .inr c)
          have hfm : Fr m H H' := fun b o h c => keep b o h (by
            rcases c with c | c
            · exact .inl fun z => c (by rw [z]; exact List.mem_of_getElem? ha)
            · exact .inr c)
          simp only at e2
          split at e2
          · rename_i _ _ _ ob'
            split at e2
            · rename_i hd'
              cases e2
              obtain ⟨b, hb, ro'⟩ := q1.obs 0 ob' rfl
              simp only [List.cons_append, List.getElem?_cons_zero, Option.some.injEq] at hb
              subst hb
              have q2 := q.after ha hn keep ro' hd'
              exact p [] H' v (fun _ h => absurd h (by simp)) (by rwa [List.append_nil]) hfm (RW.anyM (m := [a] ++ ext) rfl r)
            · cases e2
          · rename_i _ _ ob' ob2
            split at e2
            · rename_i hd'
              cases e2
              obtain ⟨b, hb, ro'⟩ := q1.obs 0 ob' rfl
              simp only [List.cons_append, List.getElem?_cons_zero, Option.some.injEq] at hb
              subst hb
              obtain ⟨c, hc, ro2⟩ := q1.obs 1 ob2 rfl
              obtain ⟨c2, hc2, rfl⟩ := r
              rw [hc] at hc2; cases hc2
              have cm : c ∈ ext := by
                simp only [List.cons_append, List.nil_append, List.getElem?_cons_succ] at hc
                exact List.mem_of_getElem? hc
              have q2 := q.after ha hn keep ro' hd'.1
              have nm : c ∉ m := q.nomem (hf c cm)
              refine p [c] H' _ (fun b hb => by simp at hb; subst hb; exact hf _ cm) (q2.adopt nm (ro2.anyM hd'.2)) hfm ⟨c, ?_, rfl⟩
              have : (S.set n ob').length = m.length := by rw [List.length_set, q.len]
              rw [← q.len, List.getElem?_append_right (Nat.le_refl _)]; simp
            · cases e2
          · cases e2
        · cases e
      · cases e
    · cases e
end
section
variable {X : Cx} {k : Nat} {f : Addr} {fd : FuncData} {ps : List Str} {fs : FS} {x : Str} {p pos : Pos} {e : Expr} {es : List Expr} {R : MA} {A : ME}
theorem runG {sp : Sp} {pins : List (Addr × Obj)} {σ : L2.St} {H : Hp} {s : Shared} {Q : VK} {us : List Value} {vs : List V} {E : XK} (F : FnG X.prog X.w X.K X.mg X.base k f fd ps sp) (room : Room k X.A) (hgd : X.A.guards = some []) (hb : Binds X.K fd ps [])
    (I : Inv X pins σ H s) (r : Vals vs us) (h : sp vs H Q E) : wpAny (model X.prog X.w) X.A (call (.ref f) us) (EP X pins σ Q) X.xe s := by
  have ll : us.length = ps.length := by rw [← r.length]; exact F.len _ _ _ _ h
  have bb := hb s us I.kIn (by rw [List.append_nil]; exact ll)
  rw [List.append_nil] at bb
  refine wpAny_call (codeAny_mono (F.run X.A X.stack s H ⟨us, []⟩ us vs Q E room hgd I.env0 bb r h) fun r s' hq => ?_)
  cases r with
  | error e => exact False.elim hq
  | ok fl =>
    cases fl with
    | ret u => exact I.after hq
    | next => exact hq.elim
    | brk => exact hq.elim
    | cont => exact hq.elim
theorem de_call (F : FnG X.prog X.w X.K X.mg X.base k f fd ps (spD X.K ps.length fs)) (room : Room k X.A) (hgd : X.A.guards = some []) (hg : Gl X x) (hm : X.mg x = some (.ref f)) (hk : PySem.W.keepIn X.K (.ref f) = true) (hb : Binds X.K fd ps [])
    (ha : PA X (e :: es) (rdA X.K R)) (hps : ps.length = (e :: es).length) (hR : ∀ ρ S ws S', R ρ S = some (ws, S') → ws.length = (e :: es).length) (hdb : (x == ("__debug__" : Str)) = false := by decide) (he : starEach (e :: es) X.env = (false, eval e X.env) :: starEach es X.env := by rfl) (hpl : (backTo pos (starEach es X.env)).any (·.1) = false := by rfl) :
    PE X (.Call (.Name x p) (e :: es) [] pos) (rdE X.K (mCall (callF fs) R)) := by
  refine ⟨fun pins s σ H Q I h => ?_⟩
  refine wpAny_Call_Name_kw (ld_glob I hg hm ?_ hdb)
  have h2 : rdA X.K R σ H fun vs H1 => spD X.K ps.length fs vs H1 Q (fun _ _ _ => False) := by
    obtain ⟨m, S, ρ, w, S', q, e, p⟩ := h
    obtain ⟨⟨ws, S1⟩, e1, e2⟩ := Option.bind_eq_some_iff.mp e
    refine ⟨m, S, ρ, ws, S1, q, e1, fun ext H1 vs f q1 fr r => ?_⟩
    have := callF_sp (E := fun _ _ _ => False) q1 r e2 (p.at f q1 fr)
    rwa [hR _ _ _ _ e1, ← hps] at this
  exact PySem.W.callWith_K (h₀ := X.base) I.ok.mod.kin hk (thn (ha.run pos pins s σ H _ I h2) fun us s1 ⟨vs, H1, I1, r, q⟩ => ⟨I1.kIn, runG F room hgd hb I1 r q⟩) he hpl
/-- a list that nobody else will change: locked -/
def mFrz (A : ME) : ME := fun ρ S => (A ρ S).bind fun p => match p.1 with
  | .loc j => match p.2[j]? with
    | some (.lst ws) => (allD ws).map fun ds => (.d (.list ds), p.2.set j .dead)
    | _ => none
  | .d _ => none
theorem de_frz (h : PE X e (rdE X.K A)) : PE X e (rdE X.K (mFrz A)) := wkE (peFrz h) fun σ H Q q => by
  obtain ⟨m, S, ρ, w, S', q, e, p⟩ := q
  obtain ⟨⟨wx, S1⟩, e1, e2⟩ := Option.bind_eq_some_iff.mp e
  refine ⟨m, S, ρ, wx, S1, q, e1, fun ext H1 x f q1 fr r => ?_⟩
  have p1 := p.at f q1 fr
  simp only at e2
  split at e2
  · split at e2
    · rename_i j _ ws hj
      obtain ⟨ds, e3, e4⟩ := Option.map_eq_some_iff.mp e2
      cases e4
      obtain ⟨a, ha, rfl⟩ := r
      obtain ⟨a2, ha2, vs, hv, pr⟩ := q1.obs j _ hj
      rw [ha] at ha2; cases ha2
      refine ⟨a, vs, rfl, hv, fun o => ?_⟩
      have hn := (List.getElem?_eq_some_iff.mp hj).1
      have q2 := q1.put (ob := .dead) (o := .frz o (.lst vs)) ha (fun u h => by rw [hv] at h; cases h; exact fun z => z) hn ⟨_, upd_same⟩
      refine p1 [] _ _ (fun _ h => absurd h (by simp)) (by rw [List.append_nil]; exact q2) (put_fr ha hv) ?_
      exact Rp.lst (.inl ⟨o, upd_same⟩) (RpAll.mono (put_kp hv) _ _ (allD_of e3 pr))
    · cases e2
  · cases e2
end
end DL
end
noncomputable section
namespace DL
open PySem PySem.Spec PyProof.Rows L2

/-- what can be put in order -/
inductive Cd where
  | int (i : Int)
  | tup (cs : List Cd)
mutual
def toP : Cd → PyData
  | .int i => .int i
  | .tup cs => .tuple (toPs cs)
def toPs : List Cd → List PyData
  | [] => []
  | c :: cs => toP c :: toPs cs
end
mutual
def ofP : PyData → Option Cd
  | .int i => some (.int i)
  | .tuple ds => (ofPs ds).map .tup
  | _ => none
def ofPs : List PyData → Option (List Cd)
  | [] => some []
  | d :: ds => (ofP d).bind fun c => (ofPs ds).map (c :: ·)
end
mutual
theorem ofP_eq : ∀ (d : PyData) (c : Cd), ofP d = some c → d = toP c
  | .int i, c, h => by simp only [ofP, Option.some.injEq] at h; subst h; rfl
  | .tuple ds, c, h => by
    simp only [ofP, Option.map_eq_some_iff] at h
    obtain ⟨cs, h1, rfl⟩ := h
    rw [ofPs_eq ds cs h1]; rfl
  | .none, _, h => by simp [ofP] at h
  | .bool _, _, h => by simp [ofP] at h
  | .str _, _, h => by simp [ofP] at h
  | .list _, _, h => by simp [ofP] at h
  | .dict _, _, h => by simp [ofP] at h
theorem ofPs_eq : ∀ (ds : List PyData) (cs : List Cd), ofPs ds = some cs → ds = toPs cs
  | [], cs, h => by simp only [ofPs, Option.some.injEq] at h; subst h; rfl
  | d :: ds, cs, h => by
    simp only [ofPs] at h
    obtain ⟨c, h1, h2⟩ := Option.bind_eq_some_iff.mp h
    obtain ⟨r, h3, rfl⟩ := Option.map_eq_some_iff.mp h2
    rw [ofP_eq d c h1, ofPs_eq ds r h3]; rfl
end
mutual
theorem ofP_toP : ∀ c : Cd, ofP (toP c) = some c
  | .int i => rfl
  | .tup cs => by simp only [toP, ofP, ofPs_toPs cs, Option.map_some]
theorem ofPs_toPs : ∀ cs : List Cd, ofPs (toPs cs) = some cs
  | [] => rfl
  | c :: cs => by simp only [toPs, ofPs, ofP_toP c, ofPs_toPs cs, Option.bind_some, Option.map_some]
end
theorem toPs_map (cs : List Cd) : toPs cs = cs.map toP := by
  induction cs with
  | nil => rfl
  | cons c cs ih => simp [toPs, ih]
theorem toPs_len (cs : List Cd) : (toPs cs).length = cs.length := by rw [toPs_map]; simp

/-! ### the order -/
def cmpI2 (a b : Int) : Ordering := if a < b then .lt else if a = b then .eq else .gt
mutual
def cmpC : Cd → Cd → Ordering
  | .int a, .int b => cmpI2 a b
  | .int _, .tup _ => .lt
  | .tup _, .int _ => .gt
  | .tup xs, .tup ys => cmpCs xs ys
def cmpCs : List Cd → List Cd → Ordering
  | [], [] => .eq
  | [], _ :: _ => .lt
  | _ :: _, [] => .gt
  | x :: xs, y :: ys => match cmpC x y with
    | .eq => cmpCs xs ys
    | .lt => .lt
    | .gt => .gt
end
theorem cmpI2_eq {a b : Int} : cmpI2 a b = .eq ↔ a = b := by unfold cmpI2; split <;> simp <;> omega
theorem cmpI2_lt {a b : Int} : cmpI2 a b = .lt ↔ a < b := by
  unfold cmpI2
  by_cases h : a < b
  · simp [h]
  · by_cases h2 : a = b <;> simp [h, h2]
theorem cmpI2_gt {a b : Int} : cmpI2 a b = .gt ↔ b < a := by unfold cmpI2; split <;> simp <;> omega
mutual
theorem cmpC_eq : ∀ x y : Cd, cmpC x y = .eq ↔ x = y
  | .int a, .int b => by simp only [cmpC, cmpI2_eq, Cd.int.injEq]
  | .int _, .tup _ => by simp [cmpC]
  | .tup _, .int _ => by simp [cmpC]
  | .tup xs, .tup ys => by simp only [cmpC, cmpCs_eq xs ys, Cd.tup.injEq]
theorem cmpCs_eq : ∀ xs ys : List Cd, cmpCs xs ys = .eq ↔ xs = ys
  | [], [] => by simp [cmpCs]
  | [], _ :: _ => by simp [cmpCs]
  | _ :: _, [] => by simp [cmpCs]
  | x :: xs, y :: ys => by
    have h1 := cmpC_eq x y
    have h2 := cmpCs_eq xs ys
    simp only [cmpCs, List.cons.injEq]
    cases e : cmpC x y with
    | eq => simp [h1.mp e, h2]
    | lt => rw [e] at h1; simp at h1; simp [h1]
    | gt => rw [e] at h1; simp at h1; simp [h1]
end
mutual
theorem cmpC_sw : ∀ x y : Cd, cmpC y x = (cmpC x y).swap
  | .int a, .int b => by
    simp only [cmpC, cmpI2]
    by_cases h : a < b
    · have h1 : ¬ b < a := by omega
      have h2 : ¬ b = a := by omega
      simp [h, h1, h2]
    · by_cases h2 : a = b
      · simp [h2]
      · have h3 : b < a := by omega
        simp [h, h2, h3]
  | .int _, .tup _ => by simp [cmpC]
  | .tup _, .int _ => by simp [cmpC]
  | .tup xs, .tup ys => by simp only [cmpC, cmpCs_sw xs ys]
theorem cmpCs_sw : ∀ xs ys : List Cd, cmpCs ys xs = (cmpCs xs ys).swap
  | [], [] => by simp [cmpCs]
  | [], _ :: _ => by simp [cmpCs]
  | _ :: _, [] => by simp [cmpCs]
  | x :: xs, y :: ys => by
    simp only [cmpCs, cmpC_sw x y, cmpCs_sw xs ys]
    cases cmpC x y <;> simp
end
theorem cmpC_swap (x y : Cd) : cmpC y x = .lt ↔ cmpC x y = .gt := by
  rw [cmpC_sw x y]
  cases cmpC x y <;> simp
mutual
theorem cmpC_trans : ∀ x y z : Cd, cmpC x y = .lt → cmpC y z = .lt → cmpC x z = .lt
  | .int a, .int b, .int c => by simp only [cmpC, cmpI2_lt]; omega
  | .int _, .int _, .tup _ => by simp [cmpC]
  | .int _, .tup _, .int _ => by simp [cmpC]
  | .int _, .tup _, .tup _ => by simp [cmpC]
  | .tup _, .int _, .int _ => by simp [cmpC]
  | .tup _, .int _, .tup _ => by simp [cmpC]
  | .tup _, .tup _, .int _ => by simp [cmpC]
  | .tup xs, .tup ys, .tup zs => by simp only [cmpC]; exact cmpCs_trans xs ys zs
theorem cmpCs_trans : ∀ xs ys zs : List Cd, cmpCs xs ys = .lt → cmpCs ys zs = .lt → cmpCs xs zs = .lt
  | [], [], [] => by simp [cmpCs]
  | [], [], _ :: _ => by simp [cmpCs]
  | [], _ :: _, [] => by simp [cmpCs]
  | [], _ :: _, _ :: _ => by simp [cmpCs]
  | _ :: _, [], [] => by simp [cmpCs]
  | _ :: _, [], _ :: _ => by simp [cmpCs]
  | _ :: _, _ :: _, [] => by simp [cmpCs]
  | x :: xs, y :: ys, z :: zs => by
    have t := cmpC_trans x y z
    have ts := cmpCs_trans xs ys zs
    have e1 := cmpC_eq x y
    have e2 := cmpC_eq y z
    simp only [cmpCs]
    intro h1 h2
    cases a : cmpC x y with
    | gt => rw [a] at h1; cases h1
    | eq =>
      rw [a] at h1
      have := e1.mp a
      subst this
      cases b : cmpC x z with
      | gt => rw [b] at h2; cases h2
      | lt => rfl
      | eq => rw [b] at h2; exact ts h1 h2
    | lt =>
      cases b : cmpC y z with
      | gt => rw [b] at h2; cases h2
      | lt => rw [t a b]
      | eq =>
        have := e2.mp b
        subst this
        rw [a]
end
def ltC (x y : Cd) : Bool := cmpC x y == .lt
theorem ltC_iff {x y : Cd} : ltC x y = true ↔ cmpC x y = .lt := by simp [ltC]
theorem ltC_tot {x y : Cd} (h : ltC x y = false) : x = y ∨ ltC y x = true := by
  cases e : cmpC x y with
  | lt => simp [ltC, e] at h
  | eq => exact .inl ((cmpC_eq x y).mp e)
  | gt => exact .inr (ltC_iff.mpr ((cmpC_swap x y).mpr e))
theorem ltC_irr (x : Cd) : ltC x x = false := by
  have := (cmpC_eq x x).mpr rfl
  simp [ltC, this]
theorem ltC_trans {x y z : Cd} (h1 : ltC x y = true) (h2 : ltC y z = true) : ltC x z = true := ltC_iff.mpr (cmpC_trans x y z (ltC_iff.mp h1) (ltC_iff.mp h2))
theorem ltC_asym {x y : Cd} (h : ltC x y = true) : ltC y x = false := by
  cases e : ltC y x with
  | false => rfl
  | true => have := ltC_trans h e; rw [ltC_irr] at this; cases this
theorem ltC_neg {x y z : Cd} (h1 : ltC x y = false) (h2 : ltC y z = false) : ltC x z = false := by
  cases e : ltC x z with
  | false => rfl
  | true =>
    rcases ltC_tot h1 with rfl | h1
    · rw [h2] at e; cases e
    · rcases ltC_tot h2 with rfl | h2
      · rw [ltC_asym h1] at e; cases e
      · have := ltC_trans h2 h1
        rw [ltC_asym this] at e; cases e
theorem swo_cd {α : Type} (κ : α → Cd) : SrtO.Swo fun u v => ltC (κ u) (κ v) := ⟨fun _ _ h => ltC_asym h, fun _ _ _ h1 h2 => ltC_neg h2 h1⟩

/-! ### == on such data -/
mutual
theorem eqv_toP : ∀ x y : Cd, PyData.eqv (toP x) (toP y) = (cmpC x y == .eq)
  | .int a, .int b => by
    have := @cmpI2_eq a b
    simp only [toP, PyData.eqv, cmpC]
    by_cases h : a = b
    · simp [h, (@cmpI2_eq b b).mpr rfl]
    · have h2 : cmpI2 a b ≠ .eq := fun e => h (this.mp e)
      cases e : cmpI2 a b <;> simp_all
  | .int _, .tup _ => by simp [toP, PyData.eqv, cmpC]
  | .tup _, .int _ => by simp [toP, PyData.eqv, cmpC]
  | .tup xs, .tup ys => by simp only [toP, PyData.eqv, cmpC, eqv_toPs xs ys]
theorem eqv_toPs : ∀ xs ys : List Cd, PyData.eqvAll (toPs xs) (toPs ys) = (cmpCs xs ys == .eq)
  | [], [] => by simp [toPs, PyData.eqvAll, cmpCs]
  | [], _ :: _ => by simp [toPs, PyData.eqvAll, cmpCs]
  | _ :: _, [] => by simp [toPs, PyData.eqvAll, cmpCs]
  | x :: xs, y :: ys => by
    simp only [toPs, PyData.eqvAll, cmpCs, eqv_toP x y, eqv_toPs xs ys]
    cases cmpC x y <;> simp
end
mutual
theorem lay_toP : ∀ x : Cd, (toP x).canLay0 = true
  | .int a => rfl
  | .tup xs => by simp only [toP, PyData.canLay0, lay_toPs xs]
theorem lay_toPs : ∀ xs : List Cd, PyData.canLayAll0 (toPs xs) = true
  | [] => rfl
  | x :: xs => by simp only [toPs, PyData.canLayAll0, lay_toP x, lay_toPs xs, Bool.and_self]
end

/-! ### < of tuples, by their items -/
def LtAt (A : Around) (s : Shared) (u v : Value) (b : Bool) : Prop :=
  ∀ (prog : Program) (w : World) (E : Value → Shared → Prop) (Q : Value → Shared → Prop), Q (.bool b) s → wpAny (model prog w) A (richCompare .Lt u v) Q E s
inductive LexAt (A : Around) (s : Shared) : List Value → List Value → Bool → Prop
  | nn : LexAt A s [] [] false
  | nc (v : Value) (vs : List Value) : LexAt A s [] (v :: vs) true
  | cn (u : Value) (us : List Value) : LexAt A s (u :: us) [] false
  | same {u v : Value} {us vs : List Value} {b : Bool} : SeqAt.EqAt A s u v true → LexAt A s us vs b → LexAt A s (u :: us) (v :: vs) b
  | other {u v : Value} {us vs : List Value} {b : Bool} : SeqAt.EqAt A s u v false → LtAt A s u v b → LexAt A s (u :: us) (v :: vs) b
section
open PySem.MeetsSeq PySem.MeetsSeq2 PySem.MeetsSeq3
theorem tup_lt_run (l b : Addr) (xs ys : Array Value) (n k : Nat) (dx dy : Option Addr) (sx sy : Array (Option Value)) (r : Bool) :
    Meets (Builtin.«tuple.__lt__» ⟨[.ref l, .ref b], []⟩) (fun A R s => s.heap.get? l = some { cls := .type "tuple", dict := dx, data := .seq xs n, slots := sx } ∧
      s.heap.get? b = some { cls := .type "tuple", dict := dy, data := .seq ys k, slots := sy } ∧ LexAt A.in1 s xs.toList ys.toList r ∧ R (.ok (.ret (.bool r))) s) :=
  .of_wp fun prog w A R s h => by
    obtain ⟨hp, g, d, tk, os⟩ := s
    obtain ⟨h1, h2, hx, h⟩ := h
    have tt := AutoSeq1.sub_tuple_tuple
    wp_walk using AutoSeq1.wpAny_loadPart' h1, AutoSeq1.wpAny_loadPart' h2, wpAny_forIn_list _ (fun todo c s' => c.1 = none ∧ s' = ⟨hp, g, d, tk, os⟩ ∧ ∃ us vs : List Value, todo = us.zip vs ∧
      LexAt A.in1 ⟨hp, g, d, tk, os⟩ us vs r ∧ us.length + ys.size = vs.length + xs.size) _
    case h => exact ⟨rfl, rfl, xs.toList, ys.toList, rfl, hx, by simp; omega⟩
    case turn =>
      rintro ⟨p, q⟩ todo c s' ⟨hc, rfl, us, vs, ez, lx, el⟩
      cases lx with
      | nn => rw [List.zip_nil_left] at ez; cases ez
      | nc v vs => rw [List.zip_nil_left] at ez; cases ez
      | cn u us => rw [List.zip_nil_right] at ez; cases ez
      | same e lx =>
        rw [List.zip_cons_cons] at ez
        obtain ⟨e1, rfl⟩ := List.cons.inj ez
        obtain ⟨rfl, rfl⟩ := Prod.mk.inj e1
        simp only [List.length_cons] at el
        refine wpAny_bind (e prog w _ _ ?_)
        wp_walk
        exact ⟨rfl, rfl, _, _, rfl, lx, by omega⟩
      | other e lt =>
        rw [List.zip_cons_cons] at ez
        obtain ⟨e1, rfl⟩ := List.cons.inj ez
        obtain ⟨rfl, rfl⟩ := Prod.mk.inj e1
        refine wpAny_bind (e prog w _ _ ?_)
        have go := lt prog w
        wp_walk using go
        exact ⟨_, rfl, by simpa using h⟩
    case fin =>
      rintro ⟨c1, c2⟩ s' ⟨hc, rfl, us, vs, ez, lx, el⟩
      simp only at hc
      subst hc
      have hr : r = decide (xs.size < ys.size) := by
        cases lx with
        | nn => simp only [List.length_nil] at el; exact (decide_eq_false (by omega)).symm
        | nc v vs => simp only [List.length_nil, List.length_cons] at el; exact (decide_eq_true (by omega)).symm
        | cn u us => simp only [List.length_nil, List.length_cons] at el; exact (decide_eq_false (by omega)).symm
        | same e lx => rw [List.zip_cons_cons] at ez; cases ez
        | other e lt => rw [List.zip_cons_cons] at ez; cases ez
      rw [hr] at h
      wp_walk
      exact ⟨_, rfl, by simpa [Builtin.Tuple.tupleCompareSizes] using h⟩
end
theorem tup_ltAt {A : Around} {s : Shared} {l b : Addr} {xs ys : Array Value} {r : Bool} (h1 : IsTup s.heap l xs) (h2 : IsTup s.heap b ys) (lx : LexAt A.in1 s xs.toList ys.toList r) (hu : A.units < cLine) : LtAt A s (.ref l) (.ref b) r := by
  intro prog w E Q hq
  obtain ⟨⟨c1, d1, a1, s1⟩, o1, e1, n1, f1⟩ := h1
  obtain ⟨⟨c2, d2, a2, s2⟩, o2, e2, n2, f2⟩ := h2
  simp only at e1 f1 e2 f2
  subst e1 f1 e2 f2
  refine richCompare_meets_room (op := .Lt) ⟨_, o1, rfl⟩ ⟨_, o2, rfl⟩ PySem.F.slot_tuple_lt PySem.F.entry_tuple_lt (PySem.F.args_tuple_lt_2 _ _) (tup_lt_run l b xs ys n1 n2 d1 d2 s1 s2 r) ⟨o1, o2, lx, ?_⟩ hu
  exact (⟨(fun x => nomatch x), hq⟩ : Value.bool r ≠ Value.notImplemented ∧ Q (.bool r) s)

/-! ### what can be compared -/
mutual
def kindC : Cd → Cd → Bool
  | .int _, .int _ => true
  | .tup xs, .tup ys => kindCs xs ys
  | _, _ => false
def kindCs : List Cd → List Cd → Bool
  | [], _ => true
  | _, [] => true
  | x :: xs, y :: ys => kindC x y && kindCs xs ys
end
theorem cmpI2_dec {a b : Int} : (cmpI2 a b == .lt) = decide (a < b) := by
  have := @cmpI2_lt a b
  by_cases h : a < b
  · simp [h, this.mpr h]
  · have h2 : cmpI2 a b ≠ .lt := fun e => h (this.mp e)
    cases e : cmpI2 a b <;> simp_all
theorem units_in1 (A : Around) : A.in1.units = A.units + 1 := rfl
mutual
theorem lt_reads : ∀ (c d : Cd) (A : Around) (s : Shared) (u v : Value) (as bs : List Addr), kindC c d = true → Reads s.heap u (toP c) as → Reads s.heap v (toP d) bs → A.units + (toP c).depth < cLine → LtAt A s u v (ltC c d)
  | .int a, .int b, A, s, u, v, _, _, _, r1, r2, _ => by
    cases r1
    cases r2
    intro prog w E Q h
    refine PyProof.Rows.lt_int (A := A) ?_
    rwa [show ltC (.int a) (.int b) = decide (a < b) from cmpI2_dec] at h
  | .int _, .tup _, _, _, _, _, _, _, hk, _, _, _ => by simp [kindC] at hk
  | .tup _, .int _, _, _, _, _, _, _, hk, _, _, _ => by simp [kindC] at hk
  | .tup xs, .tup ys, A, s, u, v, _, _, hk, r1, r2, hu => by
    cases r1 with
    | tuple h1 c1 d1 q1 =>
      cases r2 with
      | tuple h2 c2 d2 q2 =>
        simp only [toP, PyData.depth] at hu
        exact tup_ltAt ⟨_, h1, c1, _, d1⟩ ⟨_, h2, c2, _, d2⟩ (lex_reads xs ys A.in1 s _ _ _ _ (by simpa [kindC] using hk) q1 q2 (by rw [units_in1]; omega)) (by omega)
theorem lex_reads : ∀ (cs ds : List Cd) (A : Around) (s : Shared) (us vs : List Value) (as bs : List Addr), kindCs cs ds = true → ReadsAll s.heap us (toPs cs) as → ReadsAll s.heap vs (toPs ds) bs → A.units + PyData.depthAll (toPs cs) < cLine → LexAt A s us vs (cmpCs cs ds == .lt)
  | [], [], _, _, _, _, _, _, _, r1, r2, _ => by
    cases r1
    cases r2
    exact .nn
  | [], _ :: _, _, _, _, _, _, _, _, r1, r2, _ => by
    cases r1
    cases r2
    exact .nc _ _
  | _ :: _, [], _, _, _, _, _, _, _, r1, r2, _ => by
    cases r1
    cases r2
    exact .cn _ _
  | x :: xs, y :: ys, A, s, _, _, _, _, hk, r1, r2, hu => by
    simp only [kindCs, Bool.and_eq_true] at hk
    simp only [toPs, PyData.depthAll] at hu
    cases r1 with
    | cons p1 q1 =>
      cases r2 with
      | cons p2 q2 =>
        have eqA := SeqAt.eqAt_reads (toP x) (toP y) A s _ _ _ _ p1 p2 (lay_toP x) (lay_toP y) (by omega)
        rw [eqv_toP] at eqA
        have ltA := lt_reads x y A s _ _ _ _ hk.1 p1 p2 (by omega)
        have tl := lex_reads xs ys A s _ _ _ _ hk.2 q1 q2 (by omega)
        simp only [cmpCs]
        cases e : cmpC x y with
        | eq =>
          rw [e] at eqA
          exact .same eqA tl
        | lt =>
          rw [e] at eqA
          rw [show ltC x y = true by simp [ltC, e]] at ltA
          exact .other eqA ltA
        | gt =>
          rw [e] at eqA
          rw [show ltC x y = false by simp [ltC, e]] at ltA
          exact .other eqA ltA
end

/-! ### sorted -/
def leC (x y : Cd) : Bool := !ltC y x
def sortC (cs : List Cd) : List Cd := cs.mergeSort leC
def isTupNE : Cd → Bool
  | .tup (_ :: _) => true
  | _ => false
def sortable (cs : List Cd) : Bool := (cs.all fun c => isTupNE c && decide ((toP c).depth ≤ 60)) && cs.all fun c => cs.all fun d => kindC c d
theorem sortC_srtd (cs : List Cd) : (sortC cs).Pairwise fun x y => ltC y x = false := by
  have h := List.pairwise_mergeSort (le := leC) (fun a b c h1 h2 => by
    simp only [leC, Bool.not_eq_true'] at *
    exact ltC_neg h2 h1) (fun a b => by
    simp only [leC]
    cases e : ltC b a with
    | false => rfl
    | true => simp [ltC_asym e]) cs
  exact h.imp fun h => by simpa [leC] using h
theorem sortC_perm (cs : List Cd) : (sortC cs).Perm cs := List.mergeSort_perm cs leC
theorem sortC_uniq {cs ds : List Cd} (hs : ds.Pairwise fun x y => ltC y x = false) (hp : ds.Perm cs) : ds = sortC cs :=
  List.Perm.eq_of_pairwise (le := fun x y => ltC y x = false) (fun a b _ _ h1 h2 => by
    rcases ltC_tot h1 with e | e
    · exact e.symm
    · rw [h2] at e; cases e) hs (sortC_srtd cs) (hp.trans (sortC_perm cs).symm)
section
variable {prog : Program} {w : World} {A : Around} {s : Shared}
theorem kat_of_lex {Q : Bool → Shared → Prop} {r b fin : Bool} : ∀ {us vs : List Value} {i : Nat} {n k : Nat}, LexAt A s us vs r → (b && i == 0) = false → fin = decide (n < k) → us.length + k = vs.length + n → Q r s → PySem.W.KatLex prog w A b fin Q (us.zip vs) i s
  | _, _, i, n, k, .nn, _, hf, hl, q => by
    simp only [List.length_nil] at hl
    have : fin = false := by rw [hf]; exact decide_eq_false (by omega)
    rw [List.zip_nil_left]
    exact PySem.W.kat_nil (by rw [this]; exact q)
  | _, _, i, n, k, .nc v vs, _, hf, hl, q => by
    simp only [List.length_nil, List.length_cons] at hl
    have : fin = true := by rw [hf]; exact decide_eq_true (by omega)
    rw [List.zip_nil_left]
    exact PySem.W.kat_nil (by rw [this]; exact q)
  | _, _, i, n, k, .cn u us, _, hf, hl, q => by
    simp only [List.length_nil, List.length_cons] at hl
    have : fin = false := by rw [hf]; exact decide_eq_false (by omega)
    rw [List.zip_nil_right]
    exact PySem.W.kat_nil (by rw [this]; exact q)
  | _, _, i, n, k, .same e lx, hb, hf, hl, q => by
    simp only [List.length_cons] at hl
    rw [List.zip_cons_cons]
    exact PySem.W.kat_cons (e prog w _ _ (PySem.W.kat_yes (kat_of_lex lx (by simp) hf (by omega) q)))
  | _, _, i, n, k, .other e lt, hb, hf, hl, q => by
    rw [List.zip_cons_cons]
    refine PySem.W.kat_cons (e prog w _ _ (PySem.W.kat_no ?_))
    rw [hb]
    exact PySem.W.kat_one _ _ (lt prog w _ _ q)
/-- by the first int, then by the rest -/
theorem kat_of_int {Q : Bool → Shared → Prop} {x y : Int} {t u : Tok} {cs ds : List Cd} {us vs : List Value} {n k : Nat} (lx : LexAt A s us vs (cmpCs cs ds == .lt)) (hl : us.length + k = vs.length + n) (q : Q (ltC (.tup (.int x :: cs)) (.tup (.int y :: ds))) s) :
    PySem.W.KatLex prog w A true (decide (n + 1 < k + 1)) Q ((Value.int x t :: us).zip (Value.int y u :: vs)) 0 s := by
  have hq : ltC (.tup (.int x :: cs)) (.tup (.int y :: ds)) = if x = y then (cmpCs cs ds == .lt) else decide (x < y) := by
    simp only [ltC, cmpC, cmpCs]
    by_cases h : x = y
    · subst h
      simp [(@cmpI2_eq x x).mpr rfl]
    · have h1 : cmpI2 x y ≠ .eq := fun e => h (cmpI2_eq.mp e)
      rw [if_neg h, ← cmpI2_dec]
      cases e : cmpI2 x y <;> simp_all
  rw [hq] at q
  rw [List.zip_cons_cons]
  refine PySem.W.kat_cons (SeqAt.EqAt.int_int x t y u prog w _ _ (PySem.W.kat_go (fun e => ?_) fun e => ?_))
  · have e' : x = y := by simpa using e
    rw [if_pos e'] at q
    exact PySem.W.kat_yes (kat_of_lex lx (by simp) (decide_eq_decide.mpr (by omega)) hl q)
  · have e' : ¬ x = y := by simpa using e
    rw [if_neg e'] at q
    exact PySem.W.kat_no (oneLt_int q)
end
/-- what a value reads as -/
noncomputable def keyAt (h : Heap) (u : Value) : Cd := by
  classical
  exact if e : ∃ c as, Reads h u (toP c) as then e.choose else .int 0
mutual
theorem toP_inj : ∀ c d : Cd, toP c = toP d → c = d
  | .int a, .int b, h => by simp only [toP, PyData.int.injEq] at h; rw [h]
  | .int _, .tup _, h => by simp [toP] at h
  | .tup _, .int _, h => by simp [toP] at h
  | .tup xs, .tup ys, h => by simp only [toP, PyData.tuple.injEq] at h; rw [toPs_inj xs ys h]
theorem toPs_inj : ∀ cs ds : List Cd, toPs cs = toPs ds → cs = ds
  | [], [], _ => rfl
  | [], _ :: _, h => by simp [toPs] at h
  | _ :: _, [], h => by simp [toPs] at h
  | x :: xs, y :: ys, h => by
    simp only [toPs, List.cons.injEq] at h
    rw [toP_inj x y h.1, toPs_inj xs ys h.2]
end
theorem keyAt_of {h : Heap} {u : Value} {c : Cd} {as : List Addr} (r : Reads h u (toP c) as) : keyAt h u = c := by
  unfold keyAt
  have e : ∃ c as, Reads h u (toP c) as := ⟨c, as, r⟩
  rw [dif_pos e]
  obtain ⟨as', r'⟩ := e.choose_spec
  exact toP_inj _ _ (SeqAt.Reads.unique _ _ u as' as (lay_toP _) r' r)
section
variable {X : Cx} {pins : List (Addr × Obj)} {σ : L2.St} {H : Hp} {s : Shared}
/-- the values of a list of such data -/
theorem reads_list (I : Inv X pins σ H s) : ∀ {cs : List Cd} {xs : List V} {us : List Value}, RpAll X.K H xs (toPs cs) → Vals xs us →
    us.map (keyAt s.heap) = cs ∧ ∀ u ∈ us, ∃ v as, RelV v u ∧ Rp X.K H v (toP (keyAt s.heap u)) ∧ Reads s.heap u (toP (keyAt s.heap u)) as
  | [], _, _, .nil, .nil => ⟨rfl, fun u h => by simp at h⟩
  | c :: cs, _, _, .cons r t, .cons rv tv => by
    obtain ⟨e, h⟩ := reads_list I t tv
    obtain ⟨as, rd⟩ := Dp.reads I (toP c) _ _ (Rp.dp _ _ r) rv
    have k := keyAt_of rd
    refine ⟨by rw [List.map_cons, k, e], fun u hu => ?_⟩
    rcases List.mem_cons.mp hu with z | z
    · subst z
      rw [k]
      exact ⟨_, as, rv, r, rd⟩
    · exact h u z
def backV (u : Value) : V := (absV u).getD .non
theorem backV_of {v : V} {u : Value} (r : RelV v u) : backV u = v := by unfold backV; rw [r.abs]; rfl
theorem rpAll_back {K : PySem.W.Frag} {k : Value → Cd} : ∀ {us : List Value}, (∀ u ∈ us, ∃ v, RelV v u ∧ Rp K H v (toP (k u))) → RpAll K H (us.map backV) (toPs (us.map k)) ∧ Vals (us.map backV) us
  | [], _ => ⟨.nil, .nil⟩
  | u :: us, h => by
    obtain ⟨v, r, rp⟩ := h u (by simp)
    obtain ⟨h1, h2⟩ := rpAll_back (us := us) fun w hw => h w (by simp [hw])
    have e := backV_of r
    exact ⟨.cons (by rw [e]; exact rp) h1, .cons (by rw [e]; exact r) h2⟩
theorem firsts_at {h : Heap} : ∀ {us : List Value}, (∀ u ∈ us, ∃ c cs as, Reads h u (toP (.tup (c :: cs))) as) → ∃ fs, PySem.W.KatTups h us fs ∧ fs.length = us.length ∧ ∀ f ∈ fs, ∃ u ∈ us, ∃ c cs as bs, Reads h u (toP (.tup (c :: cs))) as ∧ Reads h f (toP c) bs
  | [], _ => ⟨[], .nil, rfl, fun f h => by simp at h⟩
  | u :: us, h => by
    obtain ⟨fs, k, l, hi⟩ := firsts_at (us := us) fun w hw => h w (by simp [hw])
    obtain ⟨c, cs, as, r⟩ := h u (by simp)
    have r0 := r
    cases r with
    | tuple h1 c1 d1 q1 =>
      rename_i vs n
      cases e : vs.toList with
      | nil => rw [e] at q1; cases q1
      | cons f rest =>
        rw [e] at q1
        cases q1 with
        | cons p1 q1 =>
          refine ⟨f :: fs, .cons h1 c1 d1 ?_ k, by simp [l], fun g hg => ?_⟩
          · rw [← Array.getElem?_toList, e]; rfl
          · rcases List.mem_cons.mp hg with z | z
            · subst z
              exact ⟨_, by simp, c, cs, _, _, r0, p1⟩
            · obtain ⟨u', hu', rest'⟩ := hi g z
              exact ⟨u', by simp [hu'], rest'⟩
def tyC : Cd → String
  | .int _ => "int"
  | .tup _ => "tuple"
theorem looks_of {M : Model} {h : Heap} {u : Value} {c : Cd} {as : List Addr} (r : Reads h u (toP c) as) : PySem.W.Looks M h (typeOf u) (.type (tyC c)) := by
  cases c with
  | int i => cases r; exact PySem.W.Looks.now
  | tup cs =>
    cases r with
    | tuple h1 c1 d1 q1 =>
      have z : PySem.W.Looks M h (typeOf (.ref _)) _ := (PySem.W.Looks.ld h1).andThen .now
      rw [c1] at z
      exact z
theorem sort_cmp {prog : Program} {w : World} {A : Around} {h : Heap} {s : Shared} {b : Bool} {us : List Value} {k : Value → Cd} (hs : s.heap = h) (hr : ∀ u ∈ us, ∃ as, Reads h u (toP (k u)) as) (hd : ∀ u ∈ us, (toP (k u)).depth ≤ 60) (hk : ∀ u ∈ us, ∀ v ∈ us, kindC (k u) (k v) = true)
    (hne : ∀ u ∈ us, isTupNE (k u) = true) (hb : b = true → ∀ u ∈ us, ∃ i cs, k u = .tup (.int i :: cs)) (hu : A.units + 64 < cLine) : SrtO.Cmp prog w A s (tuples' b) (fun p => p.1 ∈ us) (SrtO.lt2 fun u v => ltC (k u) (k v)) := by
  subst hs
  intro p q hp hq
  show wpAny (model prog w) A (keyLt' (tuples' b) p.1 q.1) (fun r s' => s' = s ∧ r = ltC (k p.1) (k q.1)) (fun _ _ => False) s
  obtain ⟨as, r1⟩ := hr _ hp
  obtain ⟨bs, r2⟩ := hr _ hq
  have d1 := hd _ hp
  have kk := hk _ hp _ hq
  have n1 := hne _ hp
  have n2 := hne _ hq
  have b1 := fun e => hb e _ hp
  have b2 := fun e => hb e _ hq
  generalize k p.1 = c at *
  generalize k q.1 = d at *
  generalize p.1 = pu at *
  generalize q.1 = qu at *
  cases c with
  | int i => cases n1
  | tup cs =>
    cases d with
    | int i => cases n2
    | tup ds =>
      simp only [toP, PyData.depth] at d1
      cases r1 with
      | tuple h1 c1 e1 q1 =>
        cases r2 with
        | tuple h2 c2 e2 q2 =>
          rename_i _ _ xs n _ _ ys m
          refine PySem.W.kat_lt h1 e1 h2 e2 ?_
          have la : xs.toList.length = xs.size := Array.length_toList
          have lb : ys.toList.length = ys.size := Array.length_toList
          cases b with
          | false => exact kat_of_lex (lex_reads cs ds A s _ _ _ _ (by simpa [kindC] using kk) q1 q2 (by omega)) rfl rfl (by omega) ⟨rfl, rfl⟩
          | true =>
            obtain ⟨i, cs', e1'⟩ := b1 rfl
            obtain ⟨j, ds', e2'⟩ := b2 rfl
            injection e1' with e1'
            injection e2' with e2'
            subst e1' e2'
            cases ex : xs.toList with
            | nil => rw [ex] at q1; cases q1
            | cons f rest =>
              cases ey : ys.toList with
              | nil => rw [ey] at q2; cases q2
              | cons g rest2 =>
                rw [ex] at q1
                rw [ey] at q2
                cases q1 with
                | cons p1 q1 =>
                  cases q2 with
                  | cons p2 q2 =>
                    cases p1
                    cases p2
                    simp only [kindC, kindCs, Bool.and_eq_true] at kk
                    simp only [toPs, PyData.depthAll] at d1
                    rw [ex, List.length_cons] at la
                    rw [ey, List.length_cons] at lb
                    rw [← la, ← lb]
                    exact kat_of_int (lex_reads cs' ds' A s _ _ _ _ kk.2 q1 q2 (by omega)) (by omega) ⟨rfl, rfl⟩
theorem pw_mem {α : Type} {R : α → α → Bool} {l : List α} (h : (l.all fun c => l.all fun d => R c d) = true) : ∀ a ∈ l, ∀ b ∈ l, R a b = true := fun a ha b hb => List.all_eq_true.mp (List.all_eq_true.mp h a ha) b hb
theorem toPs_mem {c : Cd} {cs : List Cd} (h : c ∈ cs) : toP c ∈ toPs cs := by rw [toPs_map]; exact List.mem_map_of_mem h
/-- sorted of a list of tuples -/
theorem sorted_run {a : Addr} {xs : List V} {cs : List Cd} {Q : VK} (I : Inv X pins σ H s) (hs : SqL X.K H a xs) (r : RpAll X.K H xs (toPs cs)) (ok : sortable cs = true) (hu : X.A.units + 66 < cLine)
    (q : ∀ p ys, H p = none → RpAll X.K H ys (toPs (sortC cs)) → Q (.ref p) (upd H p (.lst ys))) : wpAny (model X.prog X.w) X.A (call (.builtin "sorted") [.ref a]) (EP X pins σ Q) X.xe s := by
  obtain ⟨its, rv, hl, hz⟩ := I.list hs
  obtain ⟨em, hr⟩ := reads_list I r rv
  have lx := rv.length
  unfold sortable at ok
  rw [Bool.and_eq_true] at ok
  have inCs : ∀ u ∈ its, keyAt s.heap u ∈ cs := fun u hu => by rw [← em]; exact List.mem_map_of_mem hu
  have okA : ∀ c ∈ cs, isTupNE c = true ∧ (toP c).depth ≤ 60 := fun c hc => by
    have := List.all_eq_true.mp ok.1 c hc
    simpa using this
  have okK := pw_mem ok.2
  refine SrtO.sorted_ord (ltv := fun u v => ltC (keyAt s.heap u) (keyAt s.heap v)) (swo_cd _) hl.isList (by omega) (fun h2 h₁ a' ha kk h' keep => ?_) fun out h1 h2 => ?_
  · have kp : ∀ b o, s.heap.get? b = some o → h'.get? b = some o := fun b o e => by
      obtain ⟨n1, e1⟩ := kk b o e
      exact keep b o n1 e1
    have hr' : ∀ u ∈ its, ∃ as, Reads h' u (toP (keyAt s.heap u)) as := fun u hu => by
      obtain ⟨_, as, _, _, rd⟩ := hr u hu
      exact ⟨as, Reads.keeps kp rd⟩
    have shape : ∀ u ∈ its, ∃ c ds, keyAt s.heap u = .tup (c :: ds) := fun u hu => by
      have := (okA _ (inCs u hu)).1
      cases e : keyAt s.heap u with
      | int i => rw [e] at this; cases this
      | tup ds =>
        cases ds with
        | nil => rw [e] at this; cases this
        | cons c ds => exact ⟨c, ds, rfl⟩
    obtain ⟨fs, kf, lf, hf⟩ := firsts_at (h := h') (us := its) fun u hu => by
      obtain ⟨c, ds, e⟩ := shape u hu
      obtain ⟨as, rd⟩ := hr' u hu
      rw [e] at rd
      exact ⟨c, ds, as, rd⟩
    -- the first items: all ints, or all tuples
    obtain ⟨u0, hu0⟩ : ∃ u0, u0 ∈ its := by
      match its, h2 with
      | u0 :: _, _ => exact ⟨u0, by simp⟩
    obtain ⟨c0, ds0, e0⟩ := shape u0 hu0
    have first : ∀ u ∈ its, ∀ c ds, keyAt s.heap u = .tup (c :: ds) → kindC c0 c = true := fun u hu c ds e => by
      have := okK _ (inCs u0 hu0) _ (inCs u hu)
      rw [e0, e] at this
      simp only [kindC, kindCs, Bool.and_eq_true] at this
      exact this.1
    have keyOf : ∀ u ∈ its, ∀ c ds as, Reads h' u (toP (.tup (c :: ds))) as → keyAt s.heap u = .tup (c :: ds) := fun u hu c ds as rd => by
      obtain ⟨bs, rd2⟩ := hr' u hu
      exact toP_inj _ _ (SeqAt.Reads.unique _ _ u bs as (lay_toP _) rd2 rd)
    refine ⟨tuples' (Value.type (tyC c0) != Value.type "tuple"), fun Q' E hq => ?_, ?_⟩
    · refine PySem.W.kat_kind (T := .type (tyC c0)) kf (by omega) (fun f hff => ?_) (by cases c0 <;> rfl) hq
      obtain ⟨u, hu, c, ds, as, bs, r1, r2⟩ := hf f hff
      have kc := first u hu c ds (keyOf u hu c ds as r1)
      have := looks_of (M := model X.prog X.w) r2
      cases c0 <;> cases c <;> first | exact this | (simp [kindC] at kc)
    · refine sort_cmp (A := X.A.in1.in1) (s := { s with heap := h' }) rfl hr' (fun u hu => (okA _ (inCs u hu)).2) (fun u hu v hv => okK _ (inCs u hu) _ (inCs v hv)) (fun u hu => (okA _ (inCs u hu)).1) (fun e u hu => ?_) (by rw [units_in1, units_in1]; omega)
      obtain ⟨c, ds, ek⟩ := shape u hu
      have kc := first u hu c ds ek
      cases c0 with
      | int i =>
        cases c with
        | int j => exact ⟨j, ds, ek⟩
        | tup _ => simp [kindC] at kc
      | tup cs => exact absurd e (by show ¬ (Value.type "tuple" != Value.type "tuple") = true; decide)
  · have memO : ∀ u ∈ out, u ∈ its := fun u hu => h2.perm.mem_iff.mp hu
    have hm : out.map (keyAt s.heap) = sortC cs := by
      refine sortC_uniq (List.pairwise_map.mpr h1) ?_
      rw [← em]
      exact h2.perm.map _
    obtain ⟨b1, b2⟩ := rpAll_back (K := X.K) (H := H) (k := keyAt s.heap) (us := out) fun u hu => by
      obtain ⟨v, as, r1, r2, _⟩ := hr u (memO u hu)
      exact ⟨v, r1, r2⟩
    rw [hm] at b1
    obtain ⟨ep, he⟩ := PyProof.Rows.sortedAll_at s.heap its out.toArray
    have lo : (out.map backV).length ≤ sizeLine := by rw [List.length_map, h2.perm.length_eq]; omega
    exact ⟨.ref _, upd H (s.heap.objs.size + 1) (.lst (out.map backV)), I.laid (t' := s.toks) (fun _ _ => PyProof.Rows.sortedAll_old) (Nat.le_succ _) ⟨lo, out, ep, b2, he⟩, rfl, q _ _ (I.hok.fresh (Nat.le_succ _)) b1⟩
def sortedD := on1 fun w S => (deref S w).bind fun d => match d with
  | .list ds => (ofPs ds).bind fun cs => if sortable cs = true then some (.d (.list (toPs (sortC cs))), S) else none
  | _ => none
theorem call_sortedDD {k : Nat} (hr : Room k X.A) : CallR X (.builtin "sorted") (rC X.K sortedD) := by
  have raw : CallR X (.builtin "sorted") (fun vs H Q => ∃ a xs cs, vs = [.ref a] ∧ SqL X.K H a xs ∧ RpAll X.K H xs (toPs cs) ∧ sortable cs = true ∧ ∀ p ys, H p = none → RpAll X.K H ys (toPs (sortC cs)) → Q (.ref p) (upd H p (.lst ys))) := by
    intro pins s σ H vs us Q I rx h
    obtain ⟨a, xs, cs, rfl, hs, r, ok, q⟩ := h
    cases rx with
    | cons r1 t =>
      cases t
      cases r1
      exact sorted_run I hs r ok (by have := hr.un; omega) q
  intro pins s σ H vs us Q I rx h
  obtain ⟨m, S, ρ, σ', w0, w, S', v, rfl, q, r, e, p⟩ := rC1 h
  obtain ⟨d, e1, e⟩ := Option.bind_eq_some_iff.mp e
  split at e
  · obtain ⟨cs, e2, e3⟩ := Option.bind_eq_some_iff.mp e
    split at e3
    · rename_i hok
      cases e3
      obtain ⟨a, xs, rfl, h, r1⟩ := deref_list q r e1
      rw [ofPs_eq _ _ e2] at r1
      exact callFrz raw pins s σ H _ us Q I rx ⟨a, xs, cs, rfl, h, r1, hok, fun t ys ht ry => newL p q ry t ht⟩
    · cases e3
  · cases e
/-- < of tuples, of ints -/
def ltD : W → W → Sto → Option (W × Sto) := fun x y S => match x, y with
  | .d d, .d e => (ofP d).bind fun c => (ofP e).bind fun c' => if kindC c c' = true ∧ (toP c).depth ≤ 60 then some (.d (.bool (ltC c c')), S) else none
  | _, _ => none
theorem op_ltDD {k : Nat} (hr : Room k X.A) : OpR X (compareOp .Lt) (rOp X.K ltD) := by
  intro pins s σ H x y v u Q I rx ry h
  obtain ⟨m, S, ρ, σ', wx, wy, w, S', q, hx, hy, e, p⟩ := h
  unfold ltD at e
  split at e
  · obtain ⟨c, e1, e⟩ := Option.bind_eq_some_iff.mp e
    obtain ⟨c', e2, e⟩ := Option.bind_eq_some_iff.mp e
    split at e
    · rename_i hk
      cases e
      obtain ⟨as, r1⟩ := Dp.reads I _ x v (Rp.dp _ _ hx) rx
      obtain ⟨bs, r2⟩ := Dp.reads I _ y u (Rp.dp _ _ hy) ry
      rw [ofP_eq _ _ e1] at r1
      rw [ofP_eq _ _ e2] at r2
      exact lt_reads c c' X.A s v u as bs hk.1 r1 r2 (by have := hr.un; omega) X.prog X.w X.xe _ ⟨.bl _, H, I, rfl, p.now q (.bl _)⟩
    · cases e
  · cases e

/-! ### repr -/
def reprOk (d : PyData) : Bool := d.showable && !d.hasDict && decide (d.depth ≤ 64) && decide (d.shown.length ≤ sizeLine)
def reprD := on1 fun w S => (deref S w).bind fun d => if reprOk d = true then some (.d (.str d.shown), S) else none
theorem call_reprDD {k : Nat} (hr : Room k X.A) (hg : X.A.guards = some []) : CallR X (.builtin "repr") (rC X.K reprD) := by
  intro pins s σ H vs us Q I rx h
  obtain ⟨m, S, ρ, σ', w0, w, S', v, rfl, q, r, e, p⟩ := rC1 h
  obtain ⟨d, e1, e⟩ := Option.bind_eq_some_iff.mp e
  split at e
  · rename_i hok
    cases e
    simp only [reprOk, Bool.and_eq_true, decide_eq_true_eq, Bool.not_eq_true'] at hok
    obtain ⟨⟨⟨h1, h2⟩, h3⟩, h4⟩ := hok
    have dp := deref_dp q r e1
    have q2 := p.now q (v := .str d.shown) (.str _)
    have hun := hr.un
    cases rx with
    | cons rv t =>
      cases t
      obtain ⟨as, rd⟩ := Dp.reads I d v _ dp rv
      have big : ∀ a, (∃ u, RelV v u ∧ u = Value.ref a ∧ Reads s.heap u d as) → wpAny (model X.prog X.w) X.A (call (.builtin "repr") [.ref a]) (EP X pins σ Q) X.xe s := fun a ⟨u, _, e, rd⟩ => by
        subst e
        exact repr_of_reads' rd h1 (fun z => by rw [h2] at z; cases z) hg (by omega) (fun _ _ z => z) (fun h' u tk kp => ⟨.str _, H, I.kept (t' := tk) kp, ⟨_, rfl⟩, q2⟩) h4
      cases d with
      | none => cases dp; cases rv; exact P.repr_of_none ⟨.str _, H, I.tok _, ⟨_, rfl⟩, q2⟩
      | bool b =>
        cases dp; cases rv
        exact P.repr_of_bool ⟨.str _, H, I.tok _, ⟨_, rfl⟩, q2⟩
      | int i =>
        cases dp
        obtain ⟨t, rfl⟩ := rv
        exact P.repr_of_int (by simpa [PyData.showable] using h1) ⟨.str _, H, I.tok _, ⟨_, rfl⟩, q2⟩
      | str z =>
        cases dp
        obtain ⟨t, rfl⟩ := rv
        exact P.repr_of_str ⟨.str _, H, I.tok _, ⟨_, rfl⟩, q2⟩ h4
      | list ds =>
        cases dp
        cases rv
        exact big _ ⟨_, rfl, rfl, rd⟩
      | tuple ds =>
        cases dp
        cases rv
        exact big _ ⟨_, rfl, rfl, rd⟩
      | dict kvs => cases dp
  · cases e
end
end DL
end
noncomputable section
namespace DL
open PySem PySem.Spec PyProof.Rows L2

/-- the law at the heap behind the top: its promise, asked of the script -/
theorem lawG {P : Program} {w : World} {K : PySem.W.Frag} {mg mb : Str → Option Value} {k : Nat} {fa a : Addr} {fd : FuncData} {x : Str} {f : FS} {s₁ : Shared} {vs : List Value} {ns : List Int}
    (inK : K.In s₁.heap) (gl : s₁.heap.Ns mainGlobals mg) (bl : s₁.heap.Ns builtinsNs mb) (bb : ∀ x : Str, x ≠ "__name__" → mb x = bootBuiltins x) (nl : s₁.heap.NoLimit) (ng : s₁.gens = #[])
    (obj : s₁.heap.get? a = some { cls := .type "list", data := .seq vs.toArray }) (hi : IntsAre vs ns) (few : ns.length ≤ sizeLine) (room : Room k callerA)
    (F : ∀ base : Heap, K.In base → base.Ns mainGlobals mg → FnG P w K mg base k fa fd [x] (spD K 1 f)) (bind : ∀ (s : Shared) (u : Value), BindsTo s fd ⟨[u], []⟩ [(x, u)])
    (hf : f [.d (.list (ns.map .int))] [] = some (.d (.bool true), [])) :
    codeAny (model P w) callerA (.call (.ref fa) ⟨[.ref a], []⟩) (fun r s' => r = .ok (.ret (.bool true)) ∧ OldK s₁.heap s'.heap ∧ s'.os = s₁.os ∧ AllBare s'.gens) s₁ := by
  have rel := vals_ints hi
  have len := hi.length
  -- what the abstract heap has to be like
  suffices main : ∀ H : Hp, (∀ b, H b = none ∨ (b = a ∧ K.lookup a = none ∧ ∃ o xs, H b = some (.frz o (.lst xs)))) → FzL K H a (ns.map V.int) → HOk P w H s₁.heap →
      codeAny (model P w) callerA (.call (.ref fa) ⟨[.ref a], []⟩) (fun r s' => r = .ok (.ret (.bool true)) ∧ OldK s₁.heap s'.heap ∧ s'.os = s₁.os ∧ AllBare s'.gens) s₁ by
    cases lk : K.lookup a with
    | some o =>
      have e := inK a o lk
      rw [obj] at e
      cases e
      refine main (fun _ => none) (fun b => .inl rfl) (.inr (.inr ⟨_, vs.toArray, _, lk, rfl, rfl, rfl, ?_, by simpa using rel⟩)) fun b u z => by cases z
      rw [List.size_toArray, len]; exact few
    | none =>
      refine main (upd (fun _ => none) a (.frz { cls := .type "list", data := .seq vs.toArray } (.lst (ns.map V.int)))) (fun b => ?_) (.inl ⟨_, upd_same⟩) fun b u z => ?_
      · by_cases c : b = a
        · exact .inr ⟨c, lk, _, _, by rw [c]; exact upd_same⟩
        · exact .inl (by rw [upd_ne c])
      · by_cases c : b = a
        · subst c
          rw [upd_same] at z
          cases z
          exact ⟨obj, by rw [List.length_map]; exact few, vs, _, rel, obj⟩
        · rw [upd_ne c] at z; cases z
  intro H only isL hok
  have plain : ∀ {b : Addr} {o : Obj} {es : Array DictEntry} {ep : Nat}, s₁.heap.get? b = some o → o.data = .dict es ep → H b = none := by
    intro b o es ep e d
    rcases only b with z | ⟨rfl, _⟩
    · exact z
    · rw [obj] at e
      cases e
      cases d
  have nsH : ∀ {b : Addr} {m : Str → Option Value}, s₁.heap.Ns b m → (hidT s₁.heap H).Ns b m := by
    rintro b m ⟨o, es, ep, e, d, r⟩
    exact ⟨o, es, ep, hidT_get e (plain e d), d, r⟩
  have inB : K.In (hidT s₁.heap H) := by
    intro b o e
    refine hidT_get (inK b o e) ?_
    rcases only b with z | ⟨rfl, z, _⟩
    · exact z
    · rw [z] at e; cases e
  have md : Mod K mg (hidT s₁.heap H) := by
    obtain ⟨mc, c1, c2⟩ := nl
    exact ⟨inB, nsH gl, ⟨mb, nsH bl, bb⟩, ⟨mc, nsH c1, c2⟩⟩
  have e0 : Env0 P w K mg (hidT s₁.heap H) callerA [] s₁ H := by
    refine ⟨rfl, md, fun b o e => of_hidT e, Nat.le_of_eq (hidT_size _ _), trivial, ?_, hok, .of_eq ng⟩
    intro b hb
    simp [frs] at hb
  have want : spD K 1 f [.ref a] H (fun v _ => v = .bl true) fun _ _ _ => False := by
    refine ⟨[], [], [.d (.list (ns.map .int))], _, _, ⟨fun i w h => by simp at h, rfl, by simp, fun n ob h => by simp at h, Nat.le_refl _⟩, .cons ?_ .nil, rfl, hf, fun ext H' v _ _ _ r => rp_bl r⟩
    refine Rp.lst isL ?_
    clear hf len rel hi few isL
    induction ns with
    | nil => exact .nil
    | cons n ns ih => exact .cons (.int n) ih
  refine codeAny_mono ((F _ inB (nsH gl)).run callerA [] s₁ H ⟨[.ref a], []⟩ [.ref a] [.ref a] _ _ room rfl e0 (bind s₁ (.ref a)) (.cons rfl .nil) want) fun r s' h => ?_
  cases r with
  | error e => exact False.elim h
  | ok fl =>
    cases fl with
    | next => exact False.elim h
    | brk => exact False.elim h
    | cont => exact False.elim h
    | ret u =>
      obtain ⟨v, H', os, bare, un, hok', rv, q⟩ := h
      obtain rfl : v = .bl true := q
      obtain rfl : u = Value.bool true := rv
      refine ⟨rfl, OldK.of_keep fun b o e => ?_, os, bare⟩
      rcases only b with z | ⟨_, _, ob, xs, z⟩
      · exact un.keep b o e z (by simp [frs]) (by simp)
      · have z2 := un.frzs b ob _ z
        obtain ⟨e1, _⟩ := hok b _ z
        obtain ⟨e2, _⟩ := hok' b _ z2
        rw [e] at e1
        cases e1
        exact e2
/-- what k_head leaves, from the law's function of data -/
theorem walkG {l : PySem.W.OpenLaw} {n k : Nat} {q : Program} {loose : List Str} {XP : (Str → Option Value) → Heap → Prop} {YP : World → Heap → Prop} {d : DefRec} {K : Params → PySem.W.Frag} {f : FS} {x : Str}
    (hn : l.most = some n) (hn2 : n ≤ sizeLine) (hdf : d.params.defaults = []) (room : Room k callerA)
    (hY : ∀ (w : World) (h : Heap), YP w h → (K w.params).In h)
    (F : ∀ (w : World) (mg : Str → Option Value) (fa : Addr) (h : Heap), (K w.params).In h → h.Ns mainGlobals mg → mg d.name = some (.ref fa) →
      ∃ fd : FuncData, (∀ (s : Shared) (u : Value), BindsTo s fd ⟨[u], []⟩ [(x, u)]) ∧
        ∀ base : Heap, (K w.params).In base → base.Ns mainGlobals mg → FnG l.prog w (K w.params) mg base k fa fd [x] (spD (K w.params) 1 f))
    (hf : ∀ ns : List Int, ns.length ≤ n → f [.d (.list (ns.map .int))] [] = some (.d (.bool true), [])) :
    PySem.W.WalkO q loose XP YP l.row.toRowW d [] (fun f vs => PySem.call f vs) := by
  refine Att.attach_call hn hdf fun w s₀ s₁ mg mb fa o pm cd doc a vs ns G Y ho hd hcd hmg obj isI hlen hg => ?_
  have inK := hY w _ Y
  obtain ⟨fd, hb, hF⟩ := F w mg fa _ inK G.T.g hmg
  exact lawG inK G.T.g G.T.b G.T.builtins G.T.nolimit hg obj isI (Nat.le_trans hlen hn2) room hF hb (hf ns hlen)
end DL
end
noncomputable section
namespace DL
open PySem PySem.Spec PyProof.Rows L2

/-- a def of the text, by its name -/
structure Cal (P : Program) (w : World) (K : PySem.W.Frag) (mg : Str → Option Value) (base : Heap) (x : Str) (k : Nat) (ps : List Str) (fs : FS) : Prop where
  ex : ∃ (f : Addr) (fd : FuncData), FnG P w K mg base k f fd ps (spD K ps.length fs) ∧ mg x = some (.ref f) ∧ PySem.W.keepIn K (.ref f) = true ∧ Binds K fd ps []
theorem cal_mk {P : Program} {w : World} {K : PySem.W.Frag} {mg : Str → Option Value} {base : Heap} {x qual : Str} {k : Nat} {ps : List Str} {fs : FS} {st : Stmt} {f : Addr} {fd : FuncData} (F : Fun K x qual st f fd) (hm : mg x = some (.ref f))
    (h : ∀ (kV doc pm : Value) (an : Option Addr) (cdv ct : Value) (us : List Value), us.length = ps.length → bindArgs (PySem.W.fnOf x qual (defArgs st) (defBody st) (defScope st) .none kV doc pm an cdv ct) ⟨us, []⟩ = pure (ps.zip us))
    (G : FnG P w K mg base k f fd ps (spD K ps.length fs)) : Cal P w K mg base x k ps fs := ⟨f, fd, G, hm, F.kp, F.binds h⟩
section
variable {X : Cx} {k j : Nat} {ps : List Str} {fs : FS} {x : Str} {p pos : Pos} {e a : Expr} {es : List Expr} {R : MA} {A : ME}
theorem FnG.up {P : Program} {w : World} {K : PySem.W.Frag} {mg : Str → Option Value} {base : Heap} {f : Addr} {fd : FuncData} {sp : Sp} (F : FnG P w K mg base j f fd ps sp) (h : j ≤ k) : FnG P w K mg base k f fd ps sp :=
  ⟨F.len, fun A outer s H args us vs Q E hr => F.run A outer s H args us vs Q E (hr.mono h)⟩
theorem mNil_len {ρ : DEnv} {S S' : Sto} {ws : List W} (h : mNil ρ S = some (ws, S')) : ws.length = 0 := by cases h; rfl
theorem mCons_len {n : Nat} (hR : ∀ ρ S ws S', R ρ S = some (ws, S') → ws.length = n) {ρ : DEnv} {S S' : Sto} {ws : List W} (h : mCons A R ρ S = some (ws, S')) : ws.length = n + 1 := by
  obtain ⟨⟨wx, S1⟩, e1, e2⟩ := Option.bind_eq_some_iff.mp h
  obtain ⟨⟨r, S2⟩, e3, e4⟩ := Option.bind_eq_some_iff.mp e2
  cases e4
  rw [List.length_cons, hR _ _ _ _ e3]
/-- how many arguments -/
inductive ArgN : MA → Nat → Prop
  | nil : ArgN mNil 0
  | cons {A : ME} {R : MA} {n : Nat} : ArgN R n → ArgN (mCons A R) (n + 1)
theorem ArgN.len : ∀ {R : MA} {n : Nat}, ArgN R n → ∀ ρ S ws S', R ρ S = some (ws, S') → ws.length = n
  | _, _, .nil, _, _, _, _, h => mNil_len h
  | _, _, .cons h, _, _, _, _, e => mCons_len h.len e
theorem de_callC (c : Cal X.prog X.w X.K X.mg X.base x j ps fs) (hr : Room k X.A) (hgd : X.A.guards = some []) (hk : j ≤ k) (hg : Gl X x) (ha : PA X (e :: es) (rdA X.K R)) (hn : ArgN R (e :: es).length) (hps : ps.length = (e :: es).length)
    (hdb : (x == ("__debug__" : Str)) = false := by decide) (he : starEach (e :: es) X.env = (false, eval e X.env) :: starEach es X.env := by rfl) (hpl : (backTo pos (starEach es X.env)).any (·.1) = false := by rfl) :
    PE X (.Call (.Name x p) (e :: es) [] pos) (rdE X.K (mCall (callF fs) R)) := by
  obtain ⟨f, fd, G, hm, kp, hb⟩ := c.ex
  exact de_call (G.up hk) hr hgd hg hm kp hb ha hps hn.len hdb he hpl
/-- + of ints, texts, tuples, lists -/
def addA : W → W → Sto → Option (W × Sto) := fun x y S => match addD x y S with
  | some r => some r
  | none => catL x y S
theorem op_addA : OpR X (binaryOp .Add) (rOp X.K addA) := by
  intro pins s σ H x y v u Q I rx ry h
  obtain ⟨m, S, ρ, σ', wx, wy, w, S', q, hx, hy, e, p⟩ := h
  unfold addA at e
  split at e
  · rename_i r hr
    cases e
    exact op_addD pins s σ H x y v u Q I rx ry ⟨m, S, ρ, σ', wx, wy, w, S', q, hx, hy, hr, p⟩
  · exact op_catL pins s σ H x y v u Q I rx ry ⟨m, S, ρ, σ', wx, wy, w, S', q, hx, hy, e, p⟩
end

/-! ### enumerate of a tuple -/
section
variable {prog : Program} {w : World} {A : Around} {E : Value → Shared → Prop} {s : Shared}
/-- one turn of enumerate, whatever it walks: what it walks gives x and is then as G says -/
theorem enum_turn {e it : Addr} {i : Nat} {x old : Value} {G : Heap → Prop} {Q : Value → Shared → Prop} (he : IsEnum s.heap e it i old) (hne : e ≠ it) (stay : ∀ h h' : Heap, G h → (∀ b o, b ≠ e → h.get? b = some o → h'.get? b = some o) → G h')
    (inner : ∀ R : Value → Shared → Prop, (∀ h', G h' → Heap.SameBut it s.heap h' → R x { s with heap := h' }) → wpAny (model prog w) A (Builtin.SmallTypes.nextOf (.ref it)) R E s)
    (fin : ∀ h', IsEnumOut h' e it ((i : Int) + 1) x s.heap.objs.size → G h' → h'.get? s.heap.objs.size = some { cls := .type "tuple", data := .seq #[.int i s.toks, x] } →
      (∀ b o, b ≠ e → b ≠ it → s.heap.get? b = some o → h'.get? b = some o) → Q (.ref s.heap.objs.size) { s with heap := h', toks := s.toks + 1 }) :
    wpAny (model prog w) A (Builtin.«enumerate.__next__» ⟨[.ref e], []⟩) (fun f s' => ∃ v, f = .done (.ret v) ∧ Q v s') E s := by
  obtain ⟨hp, g, d, tk, os⟩ := s
  have lte : e < hp.objs.size := Heap.lt_size he
  have nte : hp.objs.size ≠ e := Nat.ne_of_gt lte
  show wpAny _ _ (field (.ref e) 2 >>= _) _ _ _
  refine wpAny_bind (wpAny_field he rfl (x := .ref it) rfl (wpAny_bind (inner _ fun h1 g1 b1 => ?_)))
  have b1' : Heap.SameBut it hp h1 := b1
  have e1 : IsEnum h1 e it i old := (b1'.2 e hne).trans he
  show wpAny _ _ (field (.ref e) 3 >>= _) _ _ ⟨h1, g, d, tk, os⟩
  refine wpAny_bind (wpAny_field e1 rfl (x := rawInt i) rfl ?_)
  show wpAny _ _ (field (.ref e) 4 >>= _) _ _ ⟨h1, g, d, tk, os⟩
  refine wpAny_bind (wpAny_field e1 rfl (x := .none) rfl ?_)
  show wpAny _ _ (mkInt i >>= _) _ _ ⟨h1, g, d, tk, os⟩
  refine wpAny_bind (wpAny_mkInt ?_)
  show wpAny _ _ (setField (.ref e) 3 (rawInt ((i : Int) + 1)) >>= _) _ _ ⟨h1, g, d, tk + 1, os⟩
  refine wpAny_bind (wpAny_setField_rec e1 (by simp) fun h2 e2 b2 => ?_)
  have b2' : Heap.SameBut e h1 h2 := b2
  have e2' : IsEnum h2 e it ((i : Int) + 1) old := e2
  show wpAny _ _ (setField (.ref e) 4 .none >>= _) _ _ ⟨h2, g, d, tk + 1, os⟩
  refine wpAny_bind (wpAny_setField_rec e2' (by simp) fun h3 e3 b3 => ?_)
  have b3' : Heap.SameBut e h2 h3 := b3
  have e3' : IsEnum h3 e it ((i : Int) + 1) old := e3
  have size3 : h3.objs.size = hp.objs.size := by rw [b3'.1, b2'.1, b1'.1]
  show wpAny _ _ (newTuple [.int i tk, x] >>= _) _ _ ⟨h3, g, d, tk + 1, os⟩
  refine wpAny_bind (wpAny_newTuple ?_)
  obtain ⟨h4, eh4⟩ : ∃ h4, h4 = h3.push { cls := .type "tuple", data := .seq #[.int i tk, x] } := ⟨_, rfl⟩
  have new4 : h4.get? hp.objs.size = some { cls := .type "tuple", data := .seq #[.int i tk, x] } := by
    rw [eh4, ← size3]
    exact Heap.get?_push_size _ rfl
  have grow4 : ∀ b o, h3.get? b = some o → h4.get? b = some o := fun b o z => by rw [eh4]; exact Heap.get?_push_of_some _ z
  have e4 : IsEnum h4 e it ((i : Int) + 1) old := grow4 _ _ e3'
  have old4 : ∀ b o, b ≠ e → b ≠ it → hp.get? b = some o → h4.get? b = some o := fun b o n1 n2 z => grow4 b o (b3'.extBut b o n1 (b2'.extBut b o n1 (b1'.extBut b o n2 z)))
  have g4 : G h4 := stay _ _ (stay _ _ (stay _ _ g1 b2'.extBut) b3'.extBut) fun b o _ z => grow4 b o z
  show wpAny _ _ (Builtin.SmallTypes.ownedTupleIsFree (.ref e) >>= _) _ _ ⟨h3.push { cls := .type "tuple", data := .seq #[.int i tk, x] }, g, d, tk + 1, os⟩
  rw [← eh4, size3]
  clear e3' b3' e3 b3 e2' b2' e2 b2 e1 b1' b1 g1 grow4 eh4 size3
  refine wpAny_bind ?_
  unfold Builtin.SmallTypes.ownedTupleIsFree
  refine wpAny_bind (wpAny_field e4 rfl (x := .none) rfl (wpAny_pure ?_))
  simp only [if_true]
  refine wpAny_bind (wpAny_rule (wpAny_bind (wpAny_field e4 rfl (x := old) rfl (wpAny_bind (wpAny_setField_rec e4 (by simp) fun h5 e5 b5 => ?_)))))
  have b5' : Heap.SameBut e h4 h5 := b5
  have e5' : IsEnum h5 e it ((i : Int) + 1) x := e5
  show wpAny _ _ (Builtin.SmallTypes.ownedTupleHandOut (.ref e) (.ref hp.objs.size) >>= _) _ _ ⟨h5, g, d, tk + 1, os⟩
  refine wpAny_bind ?_
  unfold Builtin.SmallTypes.ownedTupleHandOut
  refine wpAny_bind (wpAny_setField_rec e5' (by simp) fun h6 e6 b6 => ?_)
  have b6' : Heap.SameBut e h5 h6 := b6
  have e6' : IsEnumOut h6 e it ((i : Int) + 1) x hp.objs.size := e6
  refine wpAny_setField_rec e6' (by simp) fun h7 e7 b7 => ?_
  have b7' : Heap.SameBut e h6 h7 := b7
  have e7' : IsEnumOut h7 e it ((i : Int) + 1) x hp.objs.size := e7
  have run : ∀ b o, b ≠ e → h4.get? b = some o → h7.get? b = some o := fun b o n z => b7'.extBut b o n (b6'.extBut b o n (b5'.extBut b o n z))
  exact wpAny_bind (wpAny_letGo (wpAny_pure ⟨_, rfl, fin h7 e7' (stay _ _ g4 run) (run _ _ nte new4) fun b o n1 n2 z => run b o n1 (old4 b o n1 n2 z)⟩))
theorem tupIter_stay {e it l : Addr} {n : Nat} (hne : it ≠ e) : ∀ h h' : Heap, h.IsTupleIter it l n → (∀ b o, b ≠ e → h.get? b = some o → h'.get? b = some o) → h'.IsTupleIter it l n := fun h h' ⟨o, ho, r⟩ k => ⟨o, k _ _ hne ho, r⟩
theorem next_enumT {e it l : Addr} {i : Nat} {items : Array Value} {x old : Value} {Q : Option Value → Shared → Prop} (he : IsEnum s.heap e it i old) (hit : s.heap.IsTupleIter it l i) (hl : s.heap.IsTuple l items) (hx : items[i]? = some x) (hne : e ≠ it)
    (fin : ∀ h', IsEnumOut h' e it ((i : Int) + 1) x s.heap.objs.size → h'.IsTupleIter it l (i + 1) → h'.get? s.heap.objs.size = some { cls := .type "tuple", data := .seq #[.int i s.toks, x] } →
      (∀ b o, b ≠ e → b ≠ it → s.heap.get? b = some o → h'.get? b = some o) → Q (some (.ref s.heap.objs.size)) { s with heap := h', toks := s.toks + 1 }) : wpAny (model prog w) A (pyNext (.ref e)) Q E s := by
  have ty : s.TypeIs (.ref e) "enumerate" := ⟨_, he, rfl⟩
  unfold pyNext
  refine wpAny_bind (wpAny_attempt (wpAny_callSpecial?_slot (name := Str.ofString "__next__") ty F.slot_enumerate_next (wpAny_call_entry F.slot_enumerate_next ty F.entry_enumerate_next ?_ (F.args_enumerate_next_1 _))))
  exact enum_turn (G := fun h => h.IsTupleIter it l (i + 1)) he hne (tupIter_stay (Ne.symm hne)) (fun R k => RZ.nextOf_tuple_item hit hl hx fun h' a b => k h' a b) fun h' a b c d => wpAny_pure (fin h' a b c d)
theorem next_enumT_end {e it l : Addr} {i : Nat} {items : Array Value} {old : Value} {Q : Option Value → Shared → Prop} (hh : A.handled = none) (he : IsEnum s.heap e it i old) (hit : s.heap.IsTupleIter it l i) (hl : s.heap.IsTuple l items) (hx : items[i]? = none)
    (fin : ∀ h', Heap.ExtBut it s.heap h' → Q none { s with heap := h' }) : wpAny (model prog w) A (pyNext (.ref e)) Q E s := by
  have ty : s.TypeIs (.ref e) "enumerate" := ⟨_, he, rfl⟩
  unfold pyNext
  refine wpAny_bind (wpAny_attempt (wpAny_callSpecial?_slot (name := Str.ofString "__next__") ty F.slot_enumerate_next (wpAny_call_entry F.slot_enumerate_next ty F.entry_enumerate_next ?_ (F.args_enumerate_next_1 _))))
  show wpAny _ _ (field (.ref e) 2 >>= _) _ _ _
  refine wpAny_bind (wpAny_field he rfl (x := .ref it) rfl (wpAny_bind (RZ.nextOf_tuple_end hh hit hl hx fun h' z hk hz => ?_)))
  obtain ⟨o, ho, hc⟩ := hz
  exact wpAny_bind (wpAny_isInstance (T := "StopIteration") (b := true) ⟨o, ho, hc⟩ isSubtype_stop (wpAny_pure (fin _ hk)))
theorem enumT_new (l : Addr) (items : Array Value) (n : Nat) (dd : Option Addr) (sl : Array (Option Value)) :
    Meets (Builtin.«enumerate.__new__» ⟨[.type "enumerate", .ref l], []⟩) (fun _ R s => s.heap.get? l = some { cls := .type "tuple", dict := dd, data := .seq items n, slots := sl } ∧
      R (.ok (.ret (.ref (s.heap.push { cls := .type "tuple_iterator", data := .fields #[.ref l, .int 0 0] }).objs.size)))
        { s with heap := (s.heap.push { cls := .type "tuple_iterator", data := .fields #[.ref l, .int 0 0] }).push { cls := .type "enumerate", data := .fields #[.none, .bool false, .ref s.heap.objs.size, rawInt 0, .none, .none] } }) :=
  .of_wp fun prog w A R s h => by
    obtain ⟨hp, g, d, tk, os⟩ := s
    obtain ⟨h1, h⟩ := h
    have sb := sub_enumerate
    have tT : Heap.IsTuple (Shared.heap ⟨hp, g, d, tk, os⟩) l items := ⟨_, h1, rfl, n, rfl⟩
    wp_walk using AutoSeq1.wpAny_loadPart' h1
    refine wpAny_stack_any fun st => wpAny_pure ?_
    split
    · rename_i c _ _ _ _ _
      cases (c == Value.type "enumerate")
      all_goals
        wp_walk using AutoSeq1.wpAny_loadPart' h1, wpAny_pyIter_tuple tT
        exact ⟨_, rfl, h⟩
    · wp_walk using AutoSeq1.wpAny_loadPart' h1, wpAny_pyIter_tuple tT
      exact ⟨_, rfl, h⟩
theorem call_enumT {l : Addr} {items : Array Value} {Q : Value → Shared → Prop} (hT : s.heap.IsTuple l items)
    (k : ∀ h', IsEnum h' (s.heap.objs.size + 1) s.heap.objs.size 0 .none → h'.IsTupleIter s.heap.objs.size l 0 → (∀ b o, s.heap.get? b = some o → h'.get? b = some o) → Q (.ref (s.heap.objs.size + 1)) { s with heap := h' }) :
    wpAny (model prog w) A (call (.type "enumerate") [.ref l]) Q E s := by
  obtain ⟨⟨c, dd, dt, sl⟩, hl, hc, n, hd⟩ := hT
  have hc' : c = .type "tuple" := hc
  have hd' : dt = .seq items n := hd
  subst hc' hd'
  refine callType_new F.called_enumerate (by decide) (F.typeCall_enumerate_1 _) (F.newCall_enumerate_1 _) (fun obj => F.args_object_init_2 obj _) F.entry_enumerate_new (enumT_new l items n dd sl) ⟨hl, ?_⟩
  have size1 : (s.heap.push { cls := .type "tuple_iterator", data := .fields #[.ref l, .int 0 0] }).objs.size = s.heap.objs.size + 1 := Heap.size_push ..
  show _ ∧ _
  rw [size1]
  have made : IsEnum ((s.heap.push { cls := .type "tuple_iterator", data := .fields #[.ref l, .int 0 0] }).push { cls := .type "enumerate", data := .fields #[.none, .bool false, .ref s.heap.objs.size, rawInt 0, .none, .none] }) (s.heap.objs.size + 1) s.heap.objs.size 0 .none := by
    have z := Heap.get?_push_size (s.heap.push { cls := .type "tuple_iterator", data := .fields #[.ref l, .int 0 0] }) (o := { cls := .type "enumerate", data := .fields #[.none, .bool false, .ref s.heap.objs.size, rawInt 0, .none, .none] }) rfl
    rwa [size1] at z
  exact ⟨⟨_, made, rfl⟩, k _ made ⟨_, Heap.get?_push_of_some _ (Heap.get?_push_size _ rfl), rfl, rfl⟩ fun b o z => Heap.get?_push_of_some _ (Heap.get?_push_of_some _ z)⟩
end
/-- the tuple at a, its items in new pairs with their places -/
def ItEt (K : PySem.W.Frag) (a : Addr) : It :=
  ⟨fun i H => ∃ (xs : List V) (x : V), SqT K H a xs ∧ xs[i]? = some x, fun i H v H' => ∃ T x, v = .ref T ∧ H T = none ∧ H' = upd H T (.tup [.int (i : Nat), x]) ∧ ∀ xs, SqT K H a xs → xs[i]? = some x, fun i H => ∃ xs : List V, SqT K H a xs ∧ xs.length ≤ i⟩
theorem turn_enumT {P : Program} {w : World} {K : PySem.W.Frag} {elts : List Expr} {kk : Nat} {tpos : Pos} (a e it : Addr) :
    Turn P w K (.Tuple elts kk tpos) (ItEt K a) [e, it] e (fun i h => (∃ old, IsEnum h e it ((i : Nat) : Int) old) ∧ h.IsTupleIter it a i ∧ e ≠ it) where
  mem := List.mem_cons_self ..
  obj := by
    rintro i h ⟨⟨old, he⟩, ⟨o, ho, hc, hd⟩, _⟩ b hb
    rcases (by simpa using hb : b = e ∨ b = it) with z | z
    · subst z; exact ⟨_, he, fun v q => nomatch q⟩
    · subst z; exact ⟨o, ho, fun v q => by rw [hd] at q; cases q⟩
  keep := by
    rintro i h h' ⟨⟨old, he⟩, ⟨o, ho, r⟩, hne⟩ k
    exact ⟨⟨old, k e (by simp) _ he⟩, ⟨o, k it (by simp) _ ho, r⟩, hne⟩
  self := by
    rintro A i s Q E ⟨⟨_, he⟩, _⟩ h
    exact wpAny_pyIter_enum he h
  done := by
    intro X eP ew eK hc i pins s σ H E I hf st hg
    subst eP ew eK
    obtain ⟨⟨old, he⟩, hit, hne⟩ := st
    obtain ⟨xs, hq, hx⟩ := hg
    obtain ⟨its, rv, p, hz⟩ := I.tuple hq
    obtain ⟨f0, f1, f2, f3, f4, f5⟩ := hf it (by simp)
    have hl := rv.length
    exact next_enumT_end (I.ok.hd hc) he hit (show s.heap.IsTuple a its.toArray from p) (by simp; omega) fun h' eb => ⟨rfl, I.turned (t' := s.toks) (fun b o hb q => eb b o hb q) f0 f1 f3 f4 f5⟩
  item := by
    intro X eP ew eK hc i pins s σ H E I hf st hg
    subst eP ew eK
    obtain ⟨⟨old, he⟩, hit, hne⟩ := st
    obtain ⟨xs, x, hq, hx⟩ := hg
    obtain ⟨its, rv, p, hz⟩ := I.tuple hq
    obtain ⟨u, hu, ru⟩ := rv.get hx
    have lte : e < s.heap.objs.size := Heap.lt_size he
    have lti : it < s.heap.objs.size := by
      obtain ⟨_, q, _⟩ := hit
      exact Heap.lt_size q
    refine next_enumT he hit (show s.heap.IsTuple a its.toArray from p) (x := u) (by simpa using hu) hne fun h' out it' new old' => ⟨_, rfl, wpAny_letOwnedTupleGo_enum (s := { s with heap := h', toks := s.toks + 1 }) out fun h2 he2 sb => ?_⟩
    have new2 : h2.get? s.heap.objs.size = some { cls := .type "tuple", data := .seq #[.int i s.toks, u] } := (sb.2 _ (Nat.ne_of_gt lte)).trans new
    have I1 : Inv X pins σ (upd H s.heap.objs.size (.tup [.int (i : Nat), x])) { s with heap := h2, toks := s.toks + 1 } := by
      refine I.turnedNew (ch := [e, it]) (fun b ob hb q => ?_) hf (Nat.le_refl _) ⟨by show 2 ≤ sizeLine; decide, [.int i s.toks, u], .cons ⟨_, rfl⟩ (.cons ru .nil), ⟨_, new2, rfl, _, rfl⟩⟩
      have n1 : b ≠ e := fun z => hb (by simp [z])
      have n2 : b ≠ it := fun z => hb (by simp [z])
      exact (sb.2 b n1).trans (old' b ob n1 n2 q)
    refine ⟨.ref s.heap.objs.size, _, I1, rfl, ⟨_, x, rfl, I.hok.fresh (Nat.le_refl _), rfl, fun ys hy => by rw [I.tuple_inj hy hq]; exact hx⟩, ⟨⟨u, ?_⟩, ?_, hne⟩, fun b hb => ?_⟩
    · have e1 : ((i + 1 : Nat) : Int) = (i : Int) + 1 := by omega
      rw [e1]
      exact he2
    · obtain ⟨o, ho, r⟩ := it'
      exact ⟨o, (sb.2 it (Ne.symm hne)).trans ho, r⟩
    · have lb : b < s.heap.objs.size := by
        rcases (by simpa using hb : b = e ∨ b = it) with z | z
        · rw [z]; exact lte
        · rw [z]; exact lti
      rw [upd_ne (Nat.ne_of_lt lb)]
      exact (hf b hb).1
def pairsF : Nat → List PyData → List W
  | _, [] => []
  | i, d :: ds => .d (.tuple [.int (i : Nat), d]) :: pairsF (i + 1) ds
theorem pairsF_get : ∀ {ds : List PyData} {i j : Nat} {w : W}, (pairsF j ds)[i]? = some w → ∃ d, ds[i]? = some d ∧ w = .d (.tuple [.int ((j + i : Nat) : Int), d])
  | [], _, _, _, h => by simp [pairsF] at h
  | d :: ds, 0, j, w, h => by
    simp only [pairsF, List.getElem?_cons_zero, Option.some.injEq] at h
    exact ⟨d, rfl, h.symm⟩
  | d :: ds, i + 1, j, w, h => by
    simp only [pairsF, List.getElem?_cons_succ] at h
    obtain ⟨e, h1, h2⟩ := pairsF_get h
    refine ⟨e, by simpa using h1, ?_⟩
    rw [h2, show j + 1 + i = j + (i + 1) by omega]
theorem pairsF_len : ∀ (ds : List PyData) (j : Nat), (pairsF j ds).length = ds.length
  | [], _ => rfl
  | d :: ds, j => by simp [pairsF, pairsF_len ds]
/-- enumerate(t), enumerate(l) -/
def iEnumD (R : MA) : MI := fun ρ S => (R ρ S).bind fun p => match p.1 with
  | [.d (.tuple ds)] => some (pairsF 0 ds, p.2)
  | _ => none
theorem di_enumT {X : Cx} {e : Expr} {p pos tpos : Pos} {elts : List Expr} {kk : Nat} {R : MA} (hg : Gl X "enumerate") (hm : X.mg "enumerate" = none) (ha : PA X [e] (rdA X.K R)) (hs : starEach [e] X.env = [(false, eval e X.env)] := by rfl) :
    PI X (.Tuple elts kk tpos) (.Call (.Name "enumerate" p) [e] [] pos) (rdI X.K (iEnumD R)) := by
  refine ⟨fun pins s σ H R' I h => ?_⟩
  obtain ⟨m, S, ρ, ws, S', q, e1, p'⟩ := h
  obtain ⟨⟨us, S1⟩, e2, e3⟩ := Option.bind_eq_some_iff.mp e1
  have h2 : rdA X.K R σ H fun vs H1 => ∃ a xs ds, vs = [.ref a] ∧ SqT X.K H1 a xs ∧ RpAll X.K H1 xs ds ∧ ∀ J, (∀ m, Yl X.K m J (pairsF 0 ds) H1) → R' J H1 := by
    refine ⟨m, S, ρ, us, S1, q, e2, fun ext H1 vs f q1 fr r => ?_⟩
    simp only at e3
    split at e3
    · rename_i ds
      cases e3
      obtain ⟨v, rfl, rv⟩ := prd1 r
      obtain ⟨a, xs, rfl, h1, r1⟩ := rp_tup rv
      exact ⟨a, xs, ds, rfl, h1, r1, fun J y => p' ext J H1 f q1 fr (y _)⟩
    · cases e3
  refine Call_ (ld_blt I hg hm boot_enumerate (PyProof.Rows.callWith_type1 (thn (ha.run pos pins s σ H _ I h2) fun us s1 ⟨vs, H1, I1, r1, a, xs, ds, ex, hq, rp, k⟩ => ?_) hs rfl))
  subst ex
  cases r1 with
  | cons r rr =>
    cases rr
    cases r
    obtain ⟨its, rv, pt, hz⟩ := I1.tuple hq
    refine call_enumT (show s1.heap.IsTuple a its.toArray from pt) fun h' he hit hk => wpAny_pyIter_enum he ?_
    have I2 : Inv X pins σ H1 { s1 with heap := h' } := I1.kept (t' := s1.toks) hk
    refine ⟨s1.heap.objs.size + 1, [s1.heap.objs.size + 1, s1.heap.objs.size], _, _, H1, rfl, I2, turn_enumT a (s1.heap.objs.size + 1) s1.heap.objs.size, ⟨⟨.none, he⟩, hit, Nat.succ_ne_self _⟩, fun b hb => ?_, k _ fun m => ⟨?_, ?_, ?_⟩⟩
    · have le : s1.heap.objs.size ≤ b := by
        rcases (by simpa using hb : b = s1.heap.objs.size + 1 ∨ b = s1.heap.objs.size) with z | z
        · rw [z]; exact Nat.le_add_right _ _
        · rw [z]; exact Nat.le_refl _
      exact I1.fpOk le (I1.hok.fresh le)
    · intro i H' hi kp
      rw [pairsF_len] at hi
      exact ⟨xs, xs[i]'(by rw [rp.length]; exact hi), sqT_mono hq kp, List.getElem?_eq_getElem _⟩
    · intro H' kp
      exact ⟨xs, sqT_mono hq kp, by rw [pairsF_len, rp.length]; exact Nat.le_refl _⟩
    · rintro i H' x H'' w ew kp ⟨T, y, rfl, hT, rfl, hy⟩
      obtain ⟨d, hd, rfl⟩ := pairsF_get ew
      obtain ⟨v, hv, rd⟩ := rp.get hd
      have e := hy xs (sqT_mono hq kp)
      rw [hv] at e
      cases e
      have kk := upd_kp (o := HO.tup [.int (i : Nat), y]) hT
      refine ⟨upd_keeps hT, Rp.tup (.of upd_same) ?_⟩
      rw [Nat.zero_add]
      exact .cons (.int _) (.cons (Rp.mono kk _ _ (Rp.mono kp _ _ rd)) .nil)
end DL
end
noncomputable section
namespace DL
open PySem PySem.Spec PyProof.Rows L2
def gtD := cmpI fun i j => decide (j < i)
def leD := cmpI fun i j => decide (i ≤ j)
def geD := cmpI fun i j => decide (j ≤ i)
def sNever : MS := fun _ _ => none
def FUEL : Nat := 1000000000
section
variable {X : Cx} {tg e : Expr} {A : ME} {pos : Pos} {st : Stmt}
theorem op_gtD : OpR X (compareOp .Gt) (rOp X.K gtD) := op_cmpI op_gt
theorem op_leD : OpR X (compareOp .LtE) (rOp X.K leD) := op_cmpI op_le
theorem op_geD : OpR X (compareOp .GtE) (rOp X.K geD) := op_cmpI op_ge
theorem ds_nev : PS X st (rdS X.K sNever) := ds_never
/-- in, not in: a list, a tuple -/
def inA (neg : Bool) : W → W → Sto → Option (W × Sto) := fun x y S => (deref S x).bind fun d => (seqOf S y).bind fun ds =>
  if SeqAt.shaped d && SeqAt.shaped (.list ds) then some (.d (.bool ((ds.any fun z => PyData.eqv z d) ^^ neg)), S) else none
theorem seqOf_dp {K : PySem.W.Frag} {m : List Addr} {S : Sto} {ρ : DEnv} {σ : L2.St} {H : Hp} {v : V} {w : W} {ds : List PyData} (q : Sim K m S ρ σ H) (r : RW K m H v w) (e : seqOf S w = some ds) : Dp K H v (.list ds) ∨ Dp K H v (.tuple ds) := by
  obtain ⟨a, xs, rfl, h, r1⟩ := seqOf_of q r e
  rcases h with h | h
  · exact .inl (.lst h r1.dpAll)
  · exact .inr (.tup h r1.dpAll)
theorem op_inA (hu : X.A.units + 65 < cLine) : OpR X (compareOp .In) (rOp X.K (inA false)) := by
  intro pins s σ H x y v u Q I rx ry h
  obtain ⟨m, S, ρ, σ', wx, wy, w, S', q, hx, hy, e, p⟩ := h
  obtain ⟨d, e1, e⟩ := Option.bind_eq_some_iff.mp e
  obtain ⟨ds, e2, e⟩ := Option.bind_eq_some_iff.mp e
  split at e
  · rename_i hs
    simp only [Bool.and_eq_true] at hs
    cases e
    have fin := p.now q (v := .bl (ds.any fun z => PyData.eqv z d)) (by rw [Bool.xor_false]; exact .bl _)
    obtain ⟨as, r1⟩ := Dp.reads I d x v (deref_dp q hx e1) rx
    rcases seqOf_dp q hy e2 with dp | dp
    · exact op_inD hu pins s σ H x y v u Q I rx ry ⟨d, ds, deref_dp q hx e1, dp, hs.1, hs.2, fin⟩
    · obtain ⟨bs, r2⟩ := Dp.reads I _ y u dp ry
      exact SeqAt.in_tuple_reads r2 r1 (SeqAt.canLay_of_shaped hs.2) (SeqAt.canLay_of_shaped hs.1) (room_in_shaped hs.1 hu) ⟨.bl _, H, I, rfl, fin⟩
  · cases e
theorem op_notInA (hu : X.A.units + 65 < cLine) : OpR X (compareOp .NotIn) (rOp X.K (inA true)) := by
  intro pins s σ H x y v u Q I rx ry h
  obtain ⟨m, S, ρ, σ', wx, wy, w, S', q, hx, hy, e, p⟩ := h
  obtain ⟨d, e1, e⟩ := Option.bind_eq_some_iff.mp e
  obtain ⟨ds, e2, e⟩ := Option.bind_eq_some_iff.mp e
  split at e
  · rename_i hs
    simp only [Bool.and_eq_true] at hs
    cases e
    have fin := p.now q (v := .bl (!ds.any fun z => PyData.eqv z d)) (by rw [Bool.xor_true]; exact .bl _)
    obtain ⟨as, r1⟩ := Dp.reads I d x v (deref_dp q hx e1) rx
    rcases seqOf_dp q hy e2 with dp | dp
    · exact op_notInD hu pins s σ H x y v u Q I rx ry ⟨d, ds, deref_dp q hx e1, dp, hs.1, hs.2, fin⟩
    · obtain ⟨bs, r2⟩ := Dp.reads I _ y u dp ry
      exact SeqAt.notIn_tuple_reads r2 r1 (SeqAt.canLay_of_shaped hs.2) (SeqAt.canLay_of_shaped hs.1) (room_in_shaped hs.1 hu) ⟨.bl _, H, I, rfl, fin⟩
  · cases e
/-- a locked list or a tuple is walked -/
def iSeq (A : ME) : MI := fun ρ S => (A ρ S).bind fun p => match p.1 with
  | .d (.list ds) => some (ds.map W.d, p.2)
  | .d (.tuple ds) => some (ds.map W.d, p.2)
  | _ => none
theorem di_seq (h : PE X e (rdE X.K A)) : PI X tg e (rdI X.K (iSeq A)) := by
  refine ⟨fun pins s σ H R I q => ?_⟩
  obtain ⟨m, S, ρ, ws, S', q, e1, p⟩ := q
  obtain ⟨⟨wx, S1⟩, e2, e3⟩ := Option.bind_eq_some_iff.mp e1
  have h2 : rdE X.K A σ H fun x H1 => ∃ a xs ds, x = .ref a ∧ (FzL X.K H1 a xs ∨ SqT X.K H1 a xs) ∧ RpAll X.K H1 xs ds ∧ ∀ J, (∀ m, Yl X.K m J (ds.map W.d) H1) → R J H1 := by
    refine ⟨m, S, ρ, wx, S1, q, e2, fun ext H1 x f q1 fr r => ?_⟩
    simp only at e3
    split at e3
    · cases e3
      obtain ⟨a, xs, rfl, h, r1⟩ := rp_lst r
      exact ⟨a, xs, _, rfl, .inl h, r1, fun J y => p ext J H1 f q1 fr (y _)⟩
    · cases e3
      obtain ⟨a, xs, rfl, h, r1⟩ := rp_tup r
      exact ⟨a, xs, _, rfl, .inr h, r1, fun J y => p ext J H1 f q1 fr (y _)⟩
    · cases e3
  refine thn (h.run pins s σ H _ I h2) fun v s1 ⟨x, H1, I1, r1, a, xs, ds, ex, hq, rp, k⟩ => ?_
  subst ex
  cases r1
  have grow : ∀ (o : Obj) b u, s1.heap.get? b = some u → (s1.heap.push o).get? b = some u := fun o b u z => Heap.get?_push_of_some _ z
  have here : ∀ b, b ∈ [s1.heap.objs.size] → FpOk X pins H1 b := fun b hb => by
    have z : b = s1.heap.objs.size := by simpa using hb
    subst z
    exact I1.fpOk (Nat.le_refl _) (I1.hok.fresh (Nat.le_refl _))
  rcases hq with hq | hq
  · obtain ⟨its, rv, pl, hz⟩ := I1.list hq.sq
    refine wpAny_pyIter_list pl.isList ⟨s1.heap.objs.size, [s1.heap.objs.size], _, _, H1, rfl, I1.kept (t' := s1.toks) (grow _), turn_list a _, ⟨_, Heap.get?_push_size _ rfl, rfl, rfl⟩, here, k _ fun m => ?_⟩
    refine yl_of (by rw [List.length_map, ← rp.length]; exact walk_list) (fun H' kp => (hq.mono kp).sq) fun i H' x H'' w ew kp y => ?_
    obtain ⟨rfl, hx⟩ := y
    exact ⟨fun _ _ z => z, rpAll_getV (RpAll.mono kp _ _ rp) hx ew⟩
  · obtain ⟨its, rv, pl, hz⟩ := I1.tuple hq
    refine wpAny_pyIter_tuple (show s1.heap.IsTuple a its.toArray from pl) ⟨s1.heap.objs.size, [s1.heap.objs.size], _, _, H1, rfl, I1.kept (t' := s1.toks) (grow _), turn_tuple a _, ⟨_, Heap.get?_push_size _ rfl, rfl, rfl⟩, here, k _ fun m => ?_⟩
    refine yl_of (by rw [List.length_map, ← rp.length]; exact walk_tup) (fun H' kp => sqT_mono hq kp) fun i H' x H'' w ew kp y => ?_
    obtain ⟨rfl, hx⟩ := y
    exact ⟨fun _ _ z => z, rpAll_getV (RpAll.mono kp _ _ rp) hx ew⟩
def min2D := ii2 fun i j => if j < i then j else i
def max2D := ii2 fun i j => if j > i then j else i
theorem call_min2D (hc : X.calm = true) : CallR X (.builtin "min") (rC X.K min2D) := call_ii2 (call_min2 hc)
theorem call_max2D (hc : X.calm = true) : CallR X (.builtin "max") (rC X.K max2D) := call_ii2 (call_max2 hc)
end
section
variable {X : Cx}
/-- ==, !=: two texts, or data as eqD has it -/
def eqA (neg : Bool) : W → W → Sto → Option (W × Sto) := fun x y S => match x, y with
  | .d (.str a), .d (.str b) => some (.d (.bool ((a == b) ^^ neg)), S)
  | _, _ => eqD neg x y S
theorem op_eqA (hu : X.A.units + 64 < cLine) : OpR X (compareOp .Eq) (rOp X.K (eqA false)) := by
  intro pins s σ H x y v u Q I rx ry h
  obtain ⟨m, S, ρ, σ', wx, wy, w, S', q, hx, hy, e, p⟩ := h
  unfold eqA at e
  split at e
  · cases e
    obtain rfl := rp_str hx
    obtain rfl := rp_str hy
    exact op_eq pins s σ H _ _ v u Q I rx ry ⟨rfl, by rw [dec_str]; exact p.now q (by rw [Bool.xor_false]; exact .bl _)⟩
  · exact op_eqDD hu pins s σ H x y v u Q I rx ry ⟨m, S, ρ, σ', _, _, w, S', q, hx, hy, e, p⟩
theorem op_neA (hu : X.A.units + 64 < cLine) : OpR X (compareOp .NotEq) (rOp X.K (eqA true)) := by
  intro pins s σ H x y v u Q I rx ry h
  obtain ⟨m, S, ρ, σ', wx, wy, w, S', q, hx, hy, e, p⟩ := h
  unfold eqA at e
  split at e
  · cases e
    obtain rfl := rp_str hx
    obtain rfl := rp_str hy
    exact op_ne pins s σ H _ _ v u Q I rx ry ⟨rfl, by rw [dec_str]; exact p.now q (by rw [Bool.xor_true]; exact .bl _)⟩
  · exact op_neDD hu pins s σ H x y v u Q I rx ry ⟨m, S, ρ, σ', _, _, w, S', q, hx, hy, e, p⟩
end
end DL
end
noncomputable section
namespace DL
open PySem PySem.Spec PyProof.Rows L2
section
variable {S : Sto} {i j : Int} {ρ ρ' : DEnv} {A B : ME}
theorem ev_add : addA (.d (.int i)) (.d (.int j)) S = some (.d (.int (i + j)), S) := rfl
theorem ev_addT {x y : List PyData} (h : x.length + y.length ≤ sizeLine) : addA (.d (.tuple x)) (.d (.tuple y)) S = some (.d (.tuple (x ++ y)), S) := by simp [addA, addD, h]
theorem ev_addL {x y : List PyData} (h : x.length + y.length ≤ sizeLine) : addA (.d (.list x)) (.d (.list y)) S = some (.d (.list (x ++ y)), S) := by simp [addA, addD, catL, deref, h]
theorem ev_sub : subD (.d (.int i)) (.d (.int j)) S = some (.d (.int (i - j)), S) := rfl
theorem ev_iadd : iaddI (.d (.int i)) (.d (.int j)) S = some (.d (.int (i + j)), S) := rfl
theorem ev_isub : isubI (.d (.int i)) (.d (.int j)) S = some (.d (.int (i - j)), S) := rfl
theorem ev_mul (h : i.natAbs.log2 + j.natAbs.log2 < 1000000) : mulD (.d (.int i)) (.d (.int j)) S = some (.d (.int (i * j)), S) := by simp only [mulD, if_pos h]
theorem ev_mod (h : 0 < j) : modD (.d (.int i)) (.d (.int j)) S = some (.d (.int (i % j)), S) := by simp [modD, iiD, modOk, h]
theorem ev_fdiv (h : 0 < j) (h2 : j.natAbs.log2 < 9000) : fdivD (.d (.int i)) (.d (.int j)) S = some (.d (.int (i / j)), S) := by simp [fdivD, iiD, divOk, h, h2]
theorem ev_pow (h : 0 ≤ j) (h2 : j ≤ 1000000) (h3 : i.natAbs < 2 ^ 64) : powD (.d (.int i)) (.d (.int j)) S = some (.d (.int (i ^ j.toNat)), S) := by simp [powD, iiD, powOk, h, h2, h3]
theorem ev_lt : ltD (.d (.int i)) (.d (.int j)) S = some (.d (.bool (decide (i < j))), S) := by
  by_cases h : i < j <;> by_cases h2 : i = j <;> simp [ltD, ofP, kindC, toP, PyData.depth, ltC, cmpC, cmpI2, h, h2]
theorem ev_gt : gtD (.d (.int i)) (.d (.int j)) S = some (.d (.bool (decide (j < i))), S) := by simp [gtD, cmpI, iiD, yes2]
theorem ev_le : leD (.d (.int i)) (.d (.int j)) S = some (.d (.bool (decide (i ≤ j))), S) := by simp [leD, cmpI, iiD, yes2]
theorem ev_ge : geD (.d (.int i)) (.d (.int j)) S = some (.d (.bool (decide (j ≤ i))), S) := by simp [geD, cmpI, iiD, yes2]
theorem ev_eq : eqA false (.d (.int i)) (.d (.int j)) S = some (.d (.bool (decide (i = j))), S) := by
  simp [eqA, eqD, deref, SeqAt.shaped, PyData.eqv, PyData.canLay0, PyData.depth]
  by_cases h : i = j <;> simp [h]
theorem ev_ne : eqA true (.d (.int i)) (.d (.int j)) S = some (.d (.bool (!decide (i = j))), S) := by
  simp [eqA, eqD, deref, SeqAt.shaped, PyData.eqv, PyData.canLay0, PyData.depth]
  by_cases h : i = j <;> simp [h]
theorem ev_min : min2D [.d (.int i), .d (.int j)] S = some (.d (.int (if j < i then j else i)), S) := rfl
theorem ev_max : max2D [.d (.int i), .d (.int j)] S = some (.d (.int (if j > i then j else i)), S) := rfl
theorem ev_int : intD [.d (.int i)] S = some (.d (.int i), S) := rfl
theorem ev_abs : absD [.d (.int i)] S = some (.d (.int i.natAbs), S) := by simp [absD, on1]; omega
end
theorem sz1 : 1 ≤ sizeLine := by decide
theorem sz2 : 2 ≤ sizeLine := by decide
theorem sz3 : 3 ≤ sizeLine := by decide
theorem sz4 : 4 ≤ sizeLine := by decide
theorem sz5 : 5 ≤ sizeLine := by decide
theorem sz6 : 6 ≤ sizeLine := by decide
theorem sz7 : 7 ≤ sizeLine := by decide
theorem sz8 : 8 ≤ sizeLine := by decide
theorem szp : 0 < sizeLine := by decide
/-! ### calls -/
theorem callF_pure {f : FS} {ws : List W} {x : PyData} {S : Sto} (h0 : firstLoc ws = none) (h : f ws [] = some (.d x, [])) : callF f ws S = some (.d x, S) := by simp [callF, h0, h]
theorem callF_loc {f : FS} {ws : List W} {x : PyData} {S : Sto} {n : Nat} {ob ob' : Ob} (h0 : firstLoc ws = some n) (h1 : allLoc n ws = true) (h2 : S[n]? = some ob) (h3 : obD ob = true) (h : f (ws.map toZero) [ob] = some (.d x, [ob'])) (h4 : obD ob' = true) : callF f ws S = some (.d x, S.set n ob') := by
  simp [callF, h0, h1, h2, h3, h, h4]
theorem runF_ret {N : Nat} {b : MS} {ws : List W} {x : PyData} {S S' : Sto} (h : ∃ ρ', b (ws.map some ++ List.replicate (N - ws.length) none) S = some (.rt (.d x), ρ', S')) (hS : (S'.take S.length).all obD = true) : runF N b ws S = some (.d x, S'.take S.length) := by
  obtain ⟨ρ', h⟩ := h
  simp only [runF, h, Option.bind_some, leave, hS, if_true]
theorem runF_ret0 {N : Nat} {b : MS} {ws : List W} {x : PyData} (h : ∃ ρ' S', b (ws.map some ++ List.replicate (N - ws.length) none) [] = some (.rt (.d x), ρ', S')) : runF N b ws [] = some (.d x, []) := by
  obtain ⟨ρ', S', h⟩ := h
  have := runF_ret (N := N) (ws := ws) ⟨_, h⟩ (by simp)
  simpa using this
theorem runF_ret1 {N : Nat} {b : MS} {ws : List W} {x : PyData} {ob ob' : Ob} (h : ∃ ρ' S', b (ws.map some ++ List.replicate (N - ws.length) none) [ob] = some (.rt (.d x), ρ', ob' :: S')) (hS : obD ob' = true) : runF N b ws [ob] = some (.d x, [ob']) := by
  obtain ⟨ρ', S', h⟩ := h
  have := runF_ret (N := N) (ws := ws) ⟨_, h⟩ (by simp [hS])
  simpa using this

/-! ### loops -/
theorem forL_J {g : MG} {F : MS} : ∀ {ws : List W} {J : Nat → DEnv → Sto → Prop} {k : Nat} {ρ : DEnv} {S : Sto}, (∀ i w ρ S, ws[i]? = some w → J (k + i) ρ S → ∃ ρ2 S2, ((g w ρ S).bind fun p => F p.1 p.2) = some (.nx, ρ2, S2) ∧ J (k + i + 1) ρ2 S2) → J k ρ S →
    ∃ ρ' S', forL g F ws ρ S = some (.nx, ρ', S') ∧ J (k + ws.length) ρ' S'
  | [], J, k, ρ, S, _, h => ⟨ρ, S, rfl, h⟩
  | w :: ws, J, k, ρ, S, st, h => by
    obtain ⟨ρ2, S2, e2, j⟩ := st 0 w ρ S rfl h
    obtain ⟨⟨ρ1, S1⟩, e1, e2⟩ := Option.bind_eq_some_iff.mp e2
    obtain ⟨ρ', S', e3, j2⟩ := forL_J (ws := ws) (J := J) (k := k + 1) (fun i w' ρ S e q => by
      have := st (i + 1) w' ρ S (by simpa using e) (by rw [show k + (i + 1) = k + 1 + i by omega]; exact q)
      rw [show k + (i + 1) + 1 = k + 1 + i + 1 by omega] at this
      exact this) (by rw [show k + 1 = k + 0 + 1 by omega]; exact j)
    refine ⟨ρ', S', ?_, by rw [show k + (w :: ws).length = k + 1 + ws.length by simp; omega]; exact j2⟩
    simp only [forL, e1, e2, Option.bind_some]
    exact e3
theorem rngD_get {lo : Int} {n i : Nat} {w : W} (h : (rngD lo n)[i]? = some w) : i < n ∧ w = .d (.int (lo + i)) := by
  simp only [rngD, List.getElem?_map, Option.map_eq_some_iff] at h
  obtain ⟨j, h1, rfl⟩ := h
  obtain ⟨h2, h3⟩ := List.getElem?_eq_some_iff.mp h1
  simp at h2 h3
  exact ⟨h2, by rw [← h3]⟩
theorem rngD_len {lo : Int} {n : Nat} : (rngD lo n).length = n := by simp [rngD]
theorem forL_rng {g : MG} {F : MS} {lo : Int} {n : Nat} {J : Nat → DEnv → Sto → Prop} {ρ : DEnv} {S : Sto} (st : ∀ i ρ S, i < n → J i ρ S → ∃ ρ2 S2, ((g (.d (.int (lo + i))) ρ S).bind fun p => F p.1 p.2) = some (.nx, ρ2, S2) ∧ J (i + 1) ρ2 S2) (h : J 0 ρ S) :
    ∃ ρ' S', forL g F (rngD lo n) ρ S = some (.nx, ρ', S') ∧ J n ρ' S' := by
  have := forL_J (g := g) (F := F) (ws := rngD lo n) (J := J) (k := 0) (ρ := ρ) (S := S) (fun i w ρ S e q => by
    obtain ⟨h1, rfl⟩ := rngD_get e
    simp only [Nat.zero_add] at q ⊢
    exact st i ρ S h1 q) h
  rw [rngD_len, Nat.zero_add] at this
  exact this
/-- a while: a ghost state, a measure -/
theorem whileL_J {T : MT} {F : MS} {α : Type} {J : α → DEnv → Sto → Prop} {μ : α → Nat} {P : DEnv → Sto → Prop}
    (st : ∀ a ρ S, J a ρ S → (T ρ S = some (false, S) ∧ P ρ S) ∨ (T ρ S = some (true, S) ∧ ∃ ρ2 S2, F ρ S = some (.nx, ρ2, S2) ∧ ∃ b, J b ρ2 S2 ∧ μ b < μ a)) :
    ∀ {n : Nat} {a : α} {ρ : DEnv} {S : Sto}, J a ρ S → μ a < n → ∃ ρ' S', whileL T F n ρ S = some (.nx, ρ', S') ∧ P ρ' S'
  | 0, a, ρ, S, _, h => by omega
  | n + 1, a, ρ, S, j, h => by
    rcases st a ρ S j with ⟨e, p⟩ | ⟨e, ρ2, S2, e2, b, j2, m⟩
    · exact ⟨ρ, S, by simp [whileL, e], p⟩
    · obtain ⟨ρ', S', e3, p⟩ := whileL_J st (n := n) j2 (by omega)
      exact ⟨ρ', S', by simp [whileL, e, e2, e3], p⟩
theorem seq_nx {F G : MS} {ρ ρ1 : DEnv} {S S1 : Sto} (h : F ρ S = some (.nx, ρ1, S1)) : sSeq F G ρ S = G ρ1 S1 := by simp [sSeq, h]
theorem seq_rt {F G : MS} {ρ ρ1 : DEnv} {S S1 : Sto} {w : W} (h : F ρ S = some (.rt w, ρ1, S1)) : sSeq F G ρ S = some (.rt w, ρ1, S1) := by simp [sSeq, h]
def rng1D (ws : List W) (S : Sto) : Option (List W × Sto) := match ws with
  | [.d (.int n)] => if n.toNat < 2 ^ 61 ∧ (-n).toNat < 2 ^ 61 then some (rngD 0 n.toNat, S) else none
  | _ => none
theorem iRng1D_eq {R : MA} {ρ : DEnv} {S : Sto} : iRng1D R ρ S = (R ρ S).bind fun p => rng1D p.1 p.2 := by
  unfold iRng1D rng1D
  cases R ρ S with
  | none => rfl
  | some p => rfl
theorem rng1_ok {n : Nat} {S : Sto} (h : n ≤ 1000000000) : rng1D [.d (.int n)] S = some (rngD 0 n, S) := by
  unfold rng1D
  simp only [Int.toNat_natCast]
  rw [if_pos (by omega)]
end DL
end
noncomputable section
namespace DL
open PySem PySem.Spec PyProof.Rows L2
theorem lg_le {i : Int} {k : Nat} (h : i.natAbs < 2 ^ k) : i.natAbs.log2 ≤ k := by
  by_cases h0 : i.natAbs = 0
  · rw [h0]; simp
  · exact Nat.le_of_lt ((Nat.log2_lt h0).mpr h)
def bBag : MS := sRet (mCall lstB (mCons (mC (.int 0)) (mCons (mC (.int 1234567891)) (mCons (mC (.int 0)) (mCons (mLc (iSeq (mSl (mVar 0) (oNo) (oYes (mC (.int 63))))) (gSet 1) (tTrue) (mCall absD (mCons (mVar 1) (mNil))) [1] kFrz) (mNil))))))
def fBag : FS := runF 2 bBag
def bTake : MS := sSeq (sIf (tOf (mBin (eqA false) (mBin idxD (mVar 0) (mC (.int 0))) (mC (.int 0)))) (sSeq (sAsg (mBin idxD (mBin addA (mSl (mBin idxD (mVar 0) (mC (.int 3))) (oYes (mBin idxD (mVar 0) (mC (.int 2)))) (oNo)) (mCall lstF (mCons (mC (.int 0)) (mNil)))) (mC (.int 0))) (gSet 4))
    (sSeq (sAugS (mVar 0) (mC (.int 2)) (mC (.int 1)) getF iaddI setF)
    (sSeq (sIf (tOf (mBin geD (mVar 4) (mBin powD (mC (.int 10)) (mC (.int 18))))) (sAsg (mVar 4) (gSubD (mVar 0) (mC (.int 0)) setF)) (sNil))
    (sSeq (sAsg (mBin addA (mBin addA (mBin mulD (mBin idxD (mVar 0) (mC (.int 1))) (mC (.int 48271))) (mBin modD (mCall intD (mCons (mVar 4) (mNil))) (mC (.int 2147483647)))) (mBin mulD (mC (.int 7919)) (mBin idxD (mVar 0) (mC (.int 2))))) (gSet 5))
    (sAsg (mBin modD (mCall intD (mCons (mVar 5) (mNil))) (mC (.int 2147483647))) (gSubD (mVar 0) (mC (.int 1)) setF)))))) (sNil))
    (sSeq (sIf (tOf (mBin gtD (mBin idxD (mVar 0) (mC (.int 0))) (mC (.int 0)))) (sSeq (sAsg (mBin modD (mCall intD (mCons (mBin idxD (mVar 0) (mC (.int 0))) (mNil))) (mVar 1)) (gSet 6))
    (sSeq (sAsg (mBin fdivD (mCall intD (mCons (mBin idxD (mVar 0) (mC (.int 0))) (mNil))) (mVar 1)) (gSubD (mVar 0) (mC (.int 0)) setF))
    (sRet (mVar 6)))) (sNil))
    (sSeq (sAsg (mBin modD (mCall intD (mCons (mBin mulD (mBin addA (mBin idxD (mVar 0) (mC (.int 1))) (mC (.int 1))) (mC (.int 39373))) (mNil))) (mC (.int 1000000007))) (gSet 2))
    (sSeq (sAsg (mBin modD (mCall intD (mCons (mBin mulD (mBin modD (mCall intD (mCons (mBin mulD (mVar 2) (mVar 2)) (mNil))) (mC (.int 998244353))) (mC (.int 30011))) (mNil))) (mC (.int 998244353))) (gSet 3))
    (sRet (mBin modD (mCall intD (mCons (mBin fdivD (mVar 3) (mC (.int 7))) (mNil))) (mVar 1))))))
def fTake : FS := runF 7 bTake
def bSome : MS := sRet (mBin idxD (mVar 1) (mCall (callF fTake) (mCons (mVar 0) (mCons (mCall lenD (mCons (mVar 1) (mNil))) (mNil)))))
def fSome : FS := runF 2 bSome
def bAlike : MS := sRet (vAnd (mBin (eqA false) (mVar 0) (mVar 1)) (mBin (eqA false) (mCall reprD (mCons (mVar 0) (mNil))) (mCall reprD (mCons (mVar 1) (mNil)))))
def fAlike : FS := runF 2 bAlike
def bFlat : MS := sSeq (sAsg (mCall lstB (mNil)) (gSet 1))
    (sSeq (sFor (iSeq (mVar 0)) (gSet 2) (sExpr (mMt extendF (mVar 1) (mCons (mVar 2) (mNil)))))
    (sRet (mFrz (mVar 1))))
def fFlat : FS := runF 3 bFlat
def bMixed : MS := sSeq (sAsg (mCall lstB (mNil)) (gSet 2))
    (sSeq (sFor (iSeq (mVar 1)) (gSet 3) (sExpr (mMt insertF (mVar 2) (mCons (mCall (callF fTake) (mCons (mVar 0) (mCons (mBin addA (mCall lenD (mCons (mVar 2) (mNil))) (mC (.int 1))) (mNil)))) (mCons (mVar 3) (mNil))))))
    (sRet (mFrz (mVar 2))))
def fMixed : FS := runF 4 bMixed
/-- a bag from which at most c times was taken -/
def bagOf (big seed ix : Nat) (cells : List Nat) : Ob := .lst [.d (.int big), .d (.int seed), .d (.int ix), .d (.list (cells.map fun c => .int (c : Nat)))]
structure BagOk (c : Nat) (ob : Ob) : Prop where
  ex : ∃ big seed ix cells, ob = bagOf big seed ix cells ∧ seed < 2147483647 ∧ ix ≤ c ∧ cells.length ≤ 63
theorem BagOk.up {c d : Nat} {ob : Ob} (h : BagOk c ob) (k : c ≤ d) : BagOk d ob := by
  obtain ⟨b, s, i, l, e, h1, h2, h3⟩ := h.ex
  exact ⟨b, s, i, l, e, h1, by omega, h3⟩
theorem BagOk.obD {c : Nat} {ob : Ob} (h : BagOk c ob) : obD ob = true := by
  obtain ⟨b, s, i, l, rfl, h1, h2, h3⟩ := h.ex
  simp [bagOf, DL.obD, allD]
/-- the cell that is read -/
theorem cell_ex (cells : List Nat) (ix : Nat) : ∃ c : Nat, atI (cutD (cells.map fun c => PyData.int (c : Nat)) (some (ix : Int)) none ++ [.int 0]) 0 = some (.int (c : Nat)) := by
  unfold cutD
  rw [← List.map_drop, ← List.map_take]
  cases ((cells.drop _).take _) with
  | nil => exact ⟨0, by simp [atI, ixN]⟩
  | cons c l => exact ⟨c, by
      have h : 0 < ((c :: l).map (fun c => PyData.int (c : Nat)) ++ [PyData.int 0]).length := by simp
      have e := atI_nat (xs := (c :: l).map (fun c => PyData.int (c : Nat)) ++ [PyData.int 0]) (j := 0) (v := .int c) (by simp)
      simpa using e⟩
theorem ix40 : ixN 4 0 = some 0 := by decide
theorem ix41 : ixN 4 1 = some 1 := by decide
theorem ix42 : ixN 4 2 = some 2 := by decide
theorem ix43 : ixN 4 3 = some 3 := by decide

section
variable {α : Type} {a b c d : α}
theorem at40 : atI [a, b, c, d] 0 = some a := rfl
theorem at41 : atI [a, b, c, d] 1 = some b := rfl
theorem at42 : atI [a, b, c, d] 2 = some c := rfl
theorem at43 : atI [a, b, c, d] 3 = some d := rfl
end
theorem pow1018 (S : Sto) : powD (.d (.int 10)) (.d (.int 18)) S = some (.d (.int 1000000000000000000), S) := by
  rw [ev_pow (by decide) (by decide) (by decide)]; rfl
theorem len_cut {α : Type} (l : List α) (a b : Option Int) : (cutD l a b).length ≤ l.length := by
  unfold cutD; rw [List.length_take, List.length_drop]; omega
def bTake1 : MS := (sIf (tOf (mBin (eqA false) (mBin idxD (mVar 0) (mC (.int 0))) (mC (.int 0)))) (sSeq (sAsg (mBin idxD (mBin addA (mSl (mBin idxD (mVar 0) (mC (.int 3))) (oYes (mBin idxD (mVar 0) (mC (.int 2)))) (oNo)) (mCall lstF (mCons (mC (.int 0)) (mNil)))) (mC (.int 0))) (gSet 4))
    (sSeq (sAugS (mVar 0) (mC (.int 2)) (mC (.int 1)) getF iaddI setF)
    (sSeq (sIf (tOf (mBin geD (mVar 4) (mBin powD (mC (.int 10)) (mC (.int 18))))) (sAsg (mVar 4) (gSubD (mVar 0) (mC (.int 0)) setF)) (sNil))
    (sSeq (sAsg (mBin addA (mBin addA (mBin mulD (mBin idxD (mVar 0) (mC (.int 1))) (mC (.int 48271))) (mBin modD (mCall intD (mCons (mVar 4) (mNil))) (mC (.int 2147483647)))) (mBin mulD (mC (.int 7919)) (mBin idxD (mVar 0) (mC (.int 2))))) (gSet 5))
    (sAsg (mBin modD (mCall intD (mCons (mVar 5) (mNil))) (mC (.int 2147483647))) (gSubD (mVar 0) (mC (.int 1)) setF)))))) (sNil))
def bTake2 : MS := (sSeq (sIf (tOf (mBin gtD (mBin idxD (mVar 0) (mC (.int 0))) (mC (.int 0)))) (sSeq (sAsg (mBin modD (mCall intD (mCons (mBin idxD (mVar 0) (mC (.int 0))) (mNil))) (mVar 1)) (gSet 6))
    (sSeq (sAsg (mBin fdivD (mCall intD (mCons (mBin idxD (mVar 0) (mC (.int 0))) (mNil))) (mVar 1)) (gSubD (mVar 0) (mC (.int 0)) setF))
    (sRet (mVar 6)))) (sNil))
    (sSeq (sAsg (mBin modD (mCall intD (mCons (mBin mulD (mBin addA (mBin idxD (mVar 0) (mC (.int 1))) (mC (.int 1))) (mC (.int 39373))) (mNil))) (mC (.int 1000000007))) (gSet 2))
    (sSeq (sAsg (mBin modD (mCall intD (mCons (mBin mulD (mBin modD (mCall intD (mCons (mBin mulD (mVar 2) (mVar 2)) (mNil))) (mC (.int 998244353))) (mC (.int 30011))) (mNil))) (mC (.int 998244353))) (gSet 3))
    (sRet (mBin modD (mCall intD (mCons (mBin fdivD (mVar 3) (mC (.int 7))) (mNil))) (mVar 1))))))
theorem bTake_eq : bTake = sSeq bTake1 bTake2 := rfl
theorem stir_ok {seed c ix : Nat} (h1 : seed < 2147483647) (h2 : ix < 2 ^ 1000) : (∀ S, mulD (.d (.int seed)) (.d (.int 48271)) S = some (.d (.int (seed * 48271)), S)) ∧ ∀ S, mulD (.d (.int 7919)) (.d (.int (ix : Nat))) S = some (.d (.int (7919 * ix)), S) := by
  refine ⟨fun S => ev_mul ?_, fun S => ev_mul ?_⟩
  · have : (seed : Int).natAbs.log2 ≤ 31 := lg_le (by omega)
    have : (48271 : Int).natAbs.log2 ≤ 16 := by decide
    omega
  · have : ((ix : Nat) : Int).natAbs.log2 ≤ 1000 := lg_le (by simpa using h2)
    have : (7919 : Int).natAbs.log2 ≤ 13 := by decide
    omega
theorem take1 {upto : Int} {big seed ix : Nat} {cells : List Nat} (h1 : seed < 2147483647) (h2 : ix + 1 < 2 ^ 1000) (h3 : cells.length ≤ 63) :
    ∃ x y big' seed' ix', bTake1 [some (.loc 0), some (.d (.int upto)), none, none, none, none, none] [bagOf big seed ix cells] = some (.nx, [some (.loc 0), some (.d (.int upto)), none, none, x, y, none], [bagOf big' seed' ix' cells]) ∧ seed' < 2147483647 ∧ ix' ≤ ix + 1 := by
  by_cases hb : big = 0
  · subst hb
    obtain ⟨c, hc⟩ := cell_ex cells ix
    have hl : (cutD (cells.map fun c => PyData.int (c : Nat)) (some (ix : Int)) none).length + [PyData.int 0].length ≤ sizeLine := by
      have := len_cut (cells.map fun c => PyData.int (c : Nat)) (some (ix : Int)) none
      rw [List.length_map] at this
      have : 64 ≤ sizeLine := by decide
      simp only [List.length_cons, List.length_nil]; omega
    have ha := fun S => ev_addL (S := S) hl
    obtain ⟨m1, m2⟩ := stir_ok (c := 0) h1 h2
    have hm := fun (z : Int) S => ev_mod (S := S) (i := z) (j := 2147483647) (by decide)
    have hs : ∀ z : Nat, ∃ s' : Nat, ((seed : Int) * 48271 + (z : Int) % 2147483647 + 7919 * ((ix : Int) + 1)) % 2147483647 = (s' : Nat) ∧ s' < 2147483647 := fun z => by
      refine ⟨(((seed : Int) * 48271 + (z : Int) % 2147483647 + 7919 * ((ix : Int) + 1)) % 2147483647).toNat, ?_, ?_⟩ <;> omega
    have m2' : ∀ S, mulD (.d (.int 7919)) (.d (.int ((ix : Int) + 1))) S = some (.d (.int (7919 * ((ix : Int) + 1))), S) := by
      intro S; have := m2 S; simpa using this
    obtain ⟨s', es, hs'⟩ := hs c
    by_cases hk : (1000000000000000000 : Int) ≤ c
    · refine ⟨some (.d (.int c)), some (.d (.int ((seed : Int) * 48271 + (c : Int) % 2147483647 + 7919 * ((ix : Int) + 1)))), c, s', ix + 1, ?_, hs', by omega⟩
      simp [bTake1, bagOf, DL.sSeq, DL.sNil, DL.sPass, DL.sBreak, DL.sCont, DL.sExpr, DL.sRet, DL.sRetN, DL.sIf, DL.sAsg, DL.sPar, DL.sAug, DL.sAugS, DL.gSet, DL.gTupD, DL.gsNil, DL.gsCons, DL.gSubD, DL.sFor, DL.iRng1D_eq, DL.mVar, DL.mC, DL.mNil, DL.mCons, DL.mCall, DL.mBin, DL.mNeg, DL.mMt, DL.mSl, DL.oNo, DL.oYes, DL.tOf, DL.tNotD, DL.tAndD, DL.tOrD, DL.tTru, DL.truD, DL.tTrue, DL.vAnd, DL.vOr, DL.vNot, DL.vIf, DL.vChain, DL.tupF, DL.lstF, DL.allD, DL.ev_add, DL.ev_sub, DL.ev_iadd, DL.ev_isub, DL.ev_lt, DL.ev_gt, DL.ev_le, DL.ev_ge, DL.ev_eq, DL.ev_ne, DL.ev_min, DL.ev_max, DL.ev_int, DL.ev_abs, DL.sz1, DL.sz2, DL.sz3, DL.sz4, DL.sz5, DL.sz6, DL.sz7, DL.sz8, DL.szp, idxD, at40, at41, at42, at43, sliceD, ha, hc, getF, setF, ix40, ix41, ix42, pow1018, hk, m1, m2', hm, es]
    · refine ⟨some (.d (.int c)), some (.d (.int ((seed : Int) * 48271 + (c : Int) % 2147483647 + 7919 * ((ix : Int) + 1)))), 0, s', ix + 1, ?_, hs', by omega⟩
      simp [bTake1, bagOf, DL.sSeq, DL.sNil, DL.sPass, DL.sBreak, DL.sCont, DL.sExpr, DL.sRet, DL.sRetN, DL.sIf, DL.sAsg, DL.sPar, DL.sAug, DL.sAugS, DL.gSet, DL.gTupD, DL.gsNil, DL.gsCons, DL.gSubD, DL.sFor, DL.iRng1D_eq, DL.mVar, DL.mC, DL.mNil, DL.mCons, DL.mCall, DL.mBin, DL.mNeg, DL.mMt, DL.mSl, DL.oNo, DL.oYes, DL.tOf, DL.tNotD, DL.tAndD, DL.tOrD, DL.tTru, DL.truD, DL.tTrue, DL.vAnd, DL.vOr, DL.vNot, DL.vIf, DL.vChain, DL.tupF, DL.lstF, DL.allD, DL.ev_add, DL.ev_sub, DL.ev_iadd, DL.ev_isub, DL.ev_lt, DL.ev_gt, DL.ev_le, DL.ev_ge, DL.ev_eq, DL.ev_ne, DL.ev_min, DL.ev_max, DL.ev_int, DL.ev_abs, DL.sz1, DL.sz2, DL.sz3, DL.sz4, DL.sz5, DL.sz6, DL.sz7, DL.sz8, DL.szp, idxD, at40, at41, at42, at43, sliceD, ha, hc, getF, setF, ix40, ix41, ix42, pow1018, hk, m1, m2', hm, es]
  · refine ⟨none, none, big, seed, ix, ?_, h1, by omega⟩
    simp [bTake1, bagOf, DL.sSeq, DL.sNil, DL.sPass, DL.sBreak, DL.sCont, DL.sExpr, DL.sRet, DL.sRetN, DL.sIf, DL.sAsg, DL.sPar, DL.sAug, DL.sAugS, DL.gSet, DL.gTupD, DL.gsNil, DL.gsCons, DL.gSubD, DL.sFor, DL.iRng1D_eq, DL.mVar, DL.mC, DL.mNil, DL.mCons, DL.mCall, DL.mBin, DL.mNeg, DL.mMt, DL.mSl, DL.oNo, DL.oYes, DL.tOf, DL.tNotD, DL.tAndD, DL.tOrD, DL.tTru, DL.truD, DL.tTrue, DL.vAnd, DL.vOr, DL.vNot, DL.vIf, DL.vChain, DL.tupF, DL.lstF, DL.allD, DL.ev_add, DL.ev_sub, DL.ev_iadd, DL.ev_isub, DL.ev_lt, DL.ev_gt, DL.ev_le, DL.ev_ge, DL.ev_eq, DL.ev_ne, DL.ev_min, DL.ev_max, DL.ev_int, DL.ev_abs, DL.sz1, DL.sz2, DL.sz3, DL.sz4, DL.sz5, DL.sz6, DL.sz7, DL.sz8, DL.szp, idxD, at40, hb]
theorem take2 {upto : Int} {big seed ix : Nat} {cells : List Nat} {x y : Option W} (hu : 0 < upto) (hl : upto.natAbs.log2 < 9000) (h1 : seed < 2147483647) :
    ∃ ρ' v big', bTake2 [some (.loc 0), some (.d (.int upto)), none, none, x, y, none] [bagOf big seed ix cells] = some (.rt (.d (.int v)), ρ', [bagOf big' seed ix cells]) ∧ 0 ≤ v ∧ v < upto := by
  have hm := fun (z : Int) S => ev_mod (S := S) (i := z) (j := upto) hu
  have hd := fun (z : Int) S => ev_fdiv (S := S) (i := z) (j := upto) hu hl
  by_cases hb : big = 0
  · subst hb
    have hp := fun (z : Int) S => ev_mod (S := S) (i := z) (j := 1000000007) (by decide)
    have hq := fun (z : Int) S => ev_mod (S := S) (i := z) (j := 998244353) (by decide)
    have h7 := fun (z : Int) S => ev_fdiv (S := S) (i := z) (j := 7) (by decide) (by decide)
    have m1 : ∀ S, mulD (.d (.int ((seed : Int) + 1))) (.d (.int 39373)) S = some (.d (.int (((seed : Int) + 1) * 39373)), S) := fun S => ev_mul (by
      have : ((seed : Int) + 1).natAbs.log2 ≤ 32 := lg_le (by omega)
      have : (39373 : Int).natAbs.log2 ≤ 16 := by decide
      omega)
    obtain ⟨bg, hbg⟩ : ∃ bg, ((seed : Int) + 1) * 39373 % 1000000007 = bg := ⟨_, rfl⟩
    have hb1 : 0 ≤ bg ∧ bg < 1000000007 := by omega
    have m2 : ∀ S, mulD (.d (.int bg)) (.d (.int bg)) S = some (.d (.int (bg * bg)), S) := fun S => ev_mul (by
      have : bg.natAbs.log2 ≤ 30 := lg_le (by omega)
      omega)
    obtain ⟨sc, hsc⟩ : ∃ sc, bg * bg % 998244353 = sc := ⟨_, rfl⟩
    have hs1 : 0 ≤ sc ∧ sc < 998244353 := by
      rw [← hsc]; exact ⟨Int.emod_nonneg _ (by decide), Int.emod_lt_of_pos _ (by decide)⟩
    have m3 : ∀ S, mulD (.d (.int sc)) (.d (.int 30011)) S = some (.d (.int (sc * 30011)), S) := fun S => ev_mul (by
      have : sc.natAbs.log2 ≤ 30 := lg_le (by omega)
      have : (30011 : Int).natAbs.log2 ≤ 16 := by decide
      omega)
    refine ⟨[some (.loc 0), some (.d (.int upto)), some (.d (.int bg)), some (.d (.int (sc * 30011 % 998244353))), x, y, none], sc * 30011 % 998244353 / 7 % upto, 0, ?_, Int.emod_nonneg _ (by omega), Int.emod_lt_of_pos _ hu⟩
    simp [bTake2, bagOf, DL.sSeq, DL.sNil, DL.sPass, DL.sBreak, DL.sCont, DL.sExpr, DL.sRet, DL.sRetN, DL.sIf, DL.sAsg, DL.sPar, DL.sAug, DL.sAugS, DL.gSet, DL.gTupD, DL.gsNil, DL.gsCons, DL.gSubD, DL.sFor, DL.iRng1D_eq, DL.mVar, DL.mC, DL.mNil, DL.mCons, DL.mCall, DL.mBin, DL.mNeg, DL.mMt, DL.mSl, DL.oNo, DL.oYes, DL.tOf, DL.tNotD, DL.tAndD, DL.tOrD, DL.tTru, DL.truD, DL.tTrue, DL.vAnd, DL.vOr, DL.vNot, DL.vIf, DL.vChain, DL.tupF, DL.lstF, DL.allD, DL.ev_add, DL.ev_sub, DL.ev_iadd, DL.ev_isub, DL.ev_lt, DL.ev_gt, DL.ev_le, DL.ev_ge, DL.ev_eq, DL.ev_ne, DL.ev_min, DL.ev_max, DL.ev_int, DL.ev_abs, DL.sz1, DL.sz2, DL.sz3, DL.sz4, DL.sz5, DL.sz6, DL.sz7, DL.sz8, DL.szp, idxD, at40, at41, hm, hp, hq, h7, m1, hbg, m2, hsc, m3]
  · have hg : 0 < (big : Int) := by omega
    have he : ∃ b' : Nat, (big : Int) / upto = b' := ⟨((big : Int) / upto).toNat, (Int.toNat_of_nonneg (Int.ediv_nonneg (by omega) (by omega))).symm⟩
    obtain ⟨b', hb'⟩ := he
    refine ⟨[some (.loc 0), some (.d (.int upto)), none, none, x, y, some (.d (.int ((big : Int) % upto)))], (big : Int) % upto, b', ?_, Int.emod_nonneg _ (by omega), Int.emod_lt_of_pos _ hu⟩
    have hg' : 0 < big := by omega
    simp [bTake2, bagOf, DL.sSeq, DL.sNil, DL.sPass, DL.sBreak, DL.sCont, DL.sExpr, DL.sRet, DL.sRetN, DL.sIf, DL.sAsg, DL.sPar, DL.sAug, DL.sAugS, DL.gSet, DL.gTupD, DL.gsNil, DL.gsCons, DL.gSubD, DL.sFor, DL.iRng1D_eq, DL.mVar, DL.mC, DL.mNil, DL.mCons, DL.mCall, DL.mBin, DL.mNeg, DL.mMt, DL.mSl, DL.oNo, DL.oYes, DL.tOf, DL.tNotD, DL.tAndD, DL.tOrD, DL.tTru, DL.truD, DL.tTrue, DL.vAnd, DL.vOr, DL.vNot, DL.vIf, DL.vChain, DL.tupF, DL.lstF, DL.allD, DL.ev_add, DL.ev_sub, DL.ev_iadd, DL.ev_isub, DL.ev_lt, DL.ev_gt, DL.ev_le, DL.ev_ge, DL.ev_eq, DL.ev_ne, DL.ev_min, DL.ev_max, DL.ev_int, DL.ev_abs, DL.sz1, DL.sz2, DL.sz3, DL.sz4, DL.sz5, DL.sz6, DL.sz7, DL.sz8, DL.szp, idxD, at40, at41, hm, hd, hg', setF, ix40, hb']
theorem take_ok {c n : Nat} {ob : Ob} {S : Sto} {upto : Int} (hS : S[n]? = some ob) (hb : BagOk c ob) (hc : c + 1 < 2 ^ 1000) (hu : 0 < upto) (hl : upto.natAbs.log2 < 9000) :
    ∃ v ob', callF fTake [.loc n, .d (.int upto)] S = some (.d (.int v), S.set n ob') ∧ 0 ≤ v ∧ v < upto ∧ BagOk (c + 1) ob' := by
  obtain ⟨big, seed, ix, cells, rfl, h1, h2, h3⟩ := hb.ex
  obtain ⟨x, y, big', seed', ix', e1, k1, k2⟩ := take1 (upto := upto) (big := big) (ix := ix) h1 (by omega) h3
  obtain ⟨ρ', v, big2, e2, v0, v1⟩ := take2 (big := big') (seed := seed') (ix := ix') (cells := cells) (x := x) (y := y) hu hl k1
  have hb2 : BagOk (c + 1) (bagOf big2 seed' ix' cells) := ⟨big2, seed', ix', cells, rfl, k1, by omega, h3⟩
  refine ⟨v, _, callF_loc (n := n) rfl (by simp [allLoc]) hS hb.obD (runF_ret1 ⟨ρ', [], ?_⟩ hb2.obD) hb2.obD, v0, v1, hb2⟩
  rw [bTake_eq]
  show sSeq bTake1 bTake2 [some (.loc 0), some (.d (.int upto)), none, none, none, none, none] _ = _
  rw [seq_nx e1, e2]
end DL
end
noncomputable section
namespace DL
open PySem PySem.Spec PyProof.Rows L2
structure Nice (B w dp : Nat) (d : PyData) : Prop where
  lay : d.canLay0 = true
  dep : d.depth ≤ dp
  sh : d.showable = true
  nd : d.hasDict = false
  ls : d.leavesShort B = true
  wt : d.weight ≤ w
  eq : PyData.eqv d d = true
structure NiceAll (B w dp : Nat) (xs : List PyData) : Prop where
  lay : PyData.canLayAll0 xs = true
  dep : PyData.depthAll xs ≤ dp
  sh : PyData.showableAll xs = true
  nd : PyData.hasDictAll xs = false
  ls : PyData.leavesShortAll B xs = true
  wt : PyData.weightAll xs ≤ w
  eq : PyData.eqvAll xs xs = true
section
variable {B w dp w' dp' : Nat} {d : PyData} {xs : List PyData}
theorem Nice.up (h : Nice B w dp d) (k1 : w ≤ w') (k2 : dp ≤ dp') : Nice B w' dp' d := ⟨h.lay, Nat.le_trans h.dep k2, h.sh, h.nd, h.ls, Nat.le_trans h.wt k1, h.eq⟩
theorem NiceAll.up (h : NiceAll B w dp xs) (k1 : w ≤ w') (k2 : dp ≤ dp') : NiceAll B w' dp' xs := ⟨h.lay, Nat.le_trans h.dep k2, h.sh, h.nd, h.ls, Nat.le_trans h.wt k1, h.eq⟩
theorem niceNil : NiceAll B 0 dp [] := ⟨rfl, Nat.zero_le _, rfl, rfl, rfl, Nat.le_refl _, rfl⟩
theorem niceCons (h : Nice B w dp d) (t : NiceAll B w' dp xs) : NiceAll B (w + 1 + w') dp (d :: xs) := by
  refine ⟨?_, ?_, ?_, ?_, ?_, ?_, ?_⟩
  · simp [PyData.canLayAll0, h.lay, t.lay]
  · simp only [PyData.depthAll]; exact Nat.max_le.mpr ⟨h.dep, t.dep⟩
  · simp [PyData.showableAll, h.sh, t.sh]
  · simp [PyData.hasDictAll, h.nd, t.nd]
  · simp [PyData.leavesShortAll, h.ls, t.ls]
  · simp only [PyData.weightAll]; have := h.wt; have := t.wt; omega
  · simp [PyData.eqvAll, h.eq, t.eq]
theorem niceAll_of : ∀ {xs : List PyData}, (∀ d ∈ xs, Nice B w dp d) → NiceAll B ((w + 1) * xs.length) dp xs
  | [], _ => niceNil
  | d :: xs, h => by
    have := niceCons (h d (by simp)) (niceAll_of (xs := xs) fun e hd => h e (by simp [hd]))
    rw [List.length_cons, Nat.mul_succ, Nat.add_comm]; exact this
theorem niceList (t : NiceAll B w dp xs) : Nice B w (dp + 1) (.list xs) := ⟨by simpa [PyData.canLay0] using t.lay, by simp only [PyData.depth]; exact Nat.succ_le_succ t.dep, by simpa [PyData.showable] using t.sh, by simpa [PyData.hasDict] using t.nd, by simpa [PyData.leavesShort] using t.ls, by simpa [PyData.weight] using t.wt, by simpa [PyData.eqv] using t.eq⟩
theorem niceTup (t : NiceAll B w dp xs) : Nice B w (dp + 1) (.tuple xs) := ⟨by simpa [PyData.canLay0] using t.lay, by simp only [PyData.depth]; exact Nat.succ_le_succ t.dep, by simpa [PyData.showable] using t.sh, by simpa [PyData.hasDict] using t.nd, by simpa [PyData.leavesShort] using t.ls, by simpa [PyData.weight] using t.wt, by simpa [PyData.eqv] using t.eq⟩
theorem niceNone : Nice B 0 dp .none := ⟨rfl, Nat.zero_le _, rfl, rfl, rfl, Nat.le_refl _, rfl⟩
theorem niceBool {b : Bool} : Nice B 0 dp (.bool b) := ⟨rfl, Nat.zero_le _, rfl, rfl, rfl, Nat.le_refl _, by simp [PyData.eqv]⟩
theorem ten_two (k : Nat) : 10 ^ k ≤ 2 ^ (4 * k) := by
  rw [Nat.pow_mul]; exact Nat.pow_le_pow_left (by decide) k
theorem niceInt {i : Int} {k : Nat} (h : i.natAbs < 10 ^ k) (hk : 0 < k) (hB : k + 1 ≤ B) (h4 : k < 480) : Nice B (4 * k + 1) dp (.int i) := by
  have hl : i.natAbs.log2 ≤ 4 * k := by
    by_cases h0 : i.natAbs = 0
    · rw [h0]; simp
    · exact Nat.le_of_lt ((Nat.log2_lt h0).mpr (Nat.lt_of_lt_of_le h (ten_two k)))
  refine ⟨rfl, Nat.zero_le _, by simp only [PyData.showable, decide_eq_true_eq]; omega, rfl, ?_, ?_, by simp [PyData.eqv]⟩
  · have e := int_text_length_le10 hk h
    simp only [PyData.leavesShort, decide_eq_true_eq]
    show (Str.ofString (toString i)).length ≤ B
    rw [PySem.ofString_length]; omega
  · simp only [PyData.weight]; split <;> omega
theorem Nice.shaped (h : Nice B w dp d) (k : dp ≤ 64) : SeqAt.shaped d = true := by
  simp only [SeqAt.shaped, h.lay, Bool.true_and, decide_eq_true_eq]; exact Nat.le_trans h.dep k
theorem Nice.reprOk (h : Nice B w dp d) (k : dp ≤ 64) (hB : 8 ≤ B) (hw : (B + 2) * w + B ≤ sizeLine) : reprOk d = true := by
  have h1 := PyData.shown_le B hB d h.ls
  have h2 := Nat.mul_le_mul_left (B + 2) h.wt
  simp only [DL.reprOk, h.sh, h.nd, Bool.not_false, Bool.and_true, Bool.true_and, Bool.and_eq_true, decide_eq_true_eq]
  exact ⟨Nat.le_trans h.dep k, by omega⟩
theorem eqA_self {S : Sto} (h : SeqAt.shaped d = true) (k : PyData.eqv d d = true) : eqA false (.d d) (.d d) S = some (.d (.bool true), S) := by
  unfold eqA
  split
  · rename_i a b e1 e2
    cases e1; cases e2
    simp
  · simp [eqD, deref, h, k]
theorem alike_ok (h : Nice B w dp d) (k : dp ≤ 64) (hB : 8 ≤ B) (hw : (B + 2) * w + B ≤ sizeLine) (S : Sto) : callF fAlike [.d d, .d d] S = some (.d (.bool true), S) := by
  refine callF_pure rfl (runF_ret0 ?_)
  have h1 := h.reprOk k hB hw
  have h2 := fun S => eqA_self (S := S) (h.shaped k) h.eq
  have h3 : ∀ S, eqA false (.d (.str d.shown)) (.d (.str d.shown)) S = some (.d (.bool true), S) := fun S => by simp [eqA]
  simp [bAlike, DL.sSeq, DL.sNil, DL.sPass, DL.sBreak, DL.sCont, DL.sExpr, DL.sRet, DL.sRetN, DL.sIf, DL.sAsg, DL.sPar, DL.sAug, DL.sAugS, DL.gSet, DL.gTupD, DL.gsNil, DL.gsCons, DL.gSubD, DL.sFor, DL.iRng1D_eq, DL.mVar, DL.mC, DL.mNil, DL.mCons, DL.mCall, DL.mBin, DL.mNeg, DL.mMt, DL.mSl, DL.oNo, DL.oYes, DL.tOf, DL.tNotD, DL.tAndD, DL.tOrD, DL.tTru, DL.truD, DL.tTrue, DL.vAnd, DL.vOr, DL.vNot, DL.vIf, DL.vChain, DL.tupF, DL.lstF, DL.allD, DL.ev_add, DL.ev_sub, DL.ev_iadd, DL.ev_isub, DL.ev_lt, DL.ev_gt, DL.ev_le, DL.ev_ge, DL.ev_eq, DL.ev_ne, DL.ev_min, DL.ev_max, DL.ev_int, DL.ev_abs, DL.sz1, DL.sz2, DL.sz3, DL.sz4, DL.sz5, DL.sz6, DL.sz7, DL.sz8, DL.szp, reprD, on1, deref, h1, h2, h3]
end
end DL
end
noncomputable section
namespace DL
open PySem PySem.Spec PyProof.Rows L2
theorem atI_nn {α : Type} {xs : List α} {v : Int} (h0 : 0 ≤ v) (h : v < xs.length) : ∃ x ∈ xs, atI xs v = some x ∧ xs[v.toNat]? = some x := by
  obtain ⟨n, rfl⟩ := Int.eq_ofNat_of_zero_le h0
  have hn : n < xs.length := by omega
  exact ⟨xs[n], List.getElem_mem hn, atI_nat (List.getElem?_eq_getElem hn), by simp [hn]⟩
theorem size_lg {n : Nat} (h : n ≤ sizeLine) : (n : Int).natAbs.log2 < 9000 := by
  have : (n : Int).natAbs.log2 ≤ 25 := lg_le (by
    have : sizeLine < 2 ^ 25 := by decide
    simp; omega)
  omega
/-- a choice from a list -/
theorem some_ok {c n : Nat} {ob : Ob} {S : Sto} {xs : List PyData} (hS : S[n]? = some ob) (hb : BagOk c ob) (hc : c + 1 < 2 ^ 1000) (h0 : xs ≠ []) (hx : xs.length ≤ sizeLine) :
    ∃ x ∈ xs, ∃ ob', callF fSome [.loc n, .d (.list xs)] S = some (.d x, S.set n ob') ∧ BagOk (c + 1) ob' := by
  have hp : 0 < xs.length := List.length_pos_iff.mpr h0
  obtain ⟨v, ob', e, v0, v1, hb'⟩ := take_ok (S := [ob]) (n := 0) (upto := xs.length) rfl hb hc (by omega) (size_lg hx)
  obtain ⟨x, hm, ex, _⟩ := atI_nn v0 v1
  refine ⟨x, hm, ob', callF_loc (n := n) rfl (by simp [allLoc]) hS hb.obD (runF_ret1 ?_ hb'.obD) hb'.obD, hb'⟩
  simp only [List.set_cons_zero] at e
  simp [bSome, DL.sSeq, DL.sNil, DL.sPass, DL.sBreak, DL.sCont, DL.sExpr, DL.sRet, DL.sRetN, DL.sIf, DL.sAsg, DL.sPar, DL.sAug, DL.sAugS, DL.gSet, DL.gTupD, DL.gsNil, DL.gsCons, DL.gSubD, DL.sFor, DL.iRng1D_eq, DL.mVar, DL.mC, DL.mNil, DL.mCons, DL.mCall, DL.mBin, DL.mNeg, DL.mMt, DL.mSl, DL.oNo, DL.oYes, DL.tOf, DL.tNotD, DL.tAndD, DL.tOrD, DL.tTru, DL.truD, DL.tTrue, DL.vAnd, DL.vOr, DL.vNot, DL.vIf, DL.vChain, DL.tupF, DL.lstF, DL.allD, DL.ev_add, DL.ev_sub, DL.ev_iadd, DL.ev_isub, DL.ev_lt, DL.ev_gt, DL.ev_le, DL.ev_ge, DL.ev_eq, DL.ev_ne, DL.ev_min, DL.ev_max, DL.ev_int, DL.ev_abs, DL.sz1, DL.sz2, DL.sz3, DL.sz4, DL.sz5, DL.sz6, DL.sz7, DL.sz8, DL.szp, toZero, lenD, on1, len0, e, idxD, ex]
theorem some_okT {c n : Nat} {ob : Ob} {S : Sto} {xs : List PyData} (hS : S[n]? = some ob) (hb : BagOk c ob) (hc : c + 1 < 2 ^ 1000) (h0 : xs ≠ []) (hx : xs.length ≤ sizeLine) :
    ∃ x ∈ xs, ∃ ob', callF fSome [.loc n, .d (.tuple xs)] S = some (.d x, S.set n ob') ∧ BagOk (c + 1) ob' := by
  have hp : 0 < xs.length := List.length_pos_iff.mpr h0
  obtain ⟨v, ob', e, v0, v1, hb'⟩ := take_ok (S := [ob]) (n := 0) (upto := xs.length) rfl hb hc (by omega) (size_lg hx)
  obtain ⟨x, hm, ex, _⟩ := atI_nn v0 v1
  refine ⟨x, hm, ob', callF_loc (n := n) rfl (by simp [allLoc]) hS hb.obD (runF_ret1 ?_ hb'.obD) hb'.obD, hb'⟩
  simp only [List.set_cons_zero] at e
  simp [bSome, DL.sSeq, DL.sNil, DL.sPass, DL.sBreak, DL.sCont, DL.sExpr, DL.sRet, DL.sRetN, DL.sIf, DL.sAsg, DL.sPar, DL.sAug, DL.sAugS, DL.gSet, DL.gTupD, DL.gsNil, DL.gsCons, DL.gSubD, DL.sFor, DL.iRng1D_eq, DL.mVar, DL.mC, DL.mNil, DL.mCons, DL.mCall, DL.mBin, DL.mNeg, DL.mMt, DL.mSl, DL.oNo, DL.oYes, DL.tOf, DL.tNotD, DL.tAndD, DL.tOrD, DL.tTru, DL.truD, DL.tTrue, DL.vAnd, DL.vOr, DL.vNot, DL.vIf, DL.vChain, DL.tupF, DL.lstF, DL.allD, DL.ev_add, DL.ev_sub, DL.ev_iadd, DL.ev_isub, DL.ev_lt, DL.ev_gt, DL.ev_le, DL.ev_ge, DL.ev_eq, DL.ev_ne, DL.ev_min, DL.ev_max, DL.ev_int, DL.ev_abs, DL.sz1, DL.sz2, DL.sz3, DL.sz4, DL.sz5, DL.sz6, DL.sz7, DL.sz8, DL.szp, toZero, lenD, on1, len0, e, idxD, ex]
theorem allD_flat (rows : List (List PyData)) : allD (rows.map (List.map W.d)).flatten = some rows.flatten := by
  rw [← List.map_flatten]; exact allD_map _
/-- rows in one -/
theorem flat_ok (rows : List (List PyData)) (h : rows.flatten.length ≤ sizeLine) (S : Sto) : callF fFlat [.d (.list (rows.map .list))] S = some (.d (.list rows.flatten), S) := by
  refine callF_pure rfl (runF_ret0 ?_)
  obtain ⟨ρ', S', e, x, rfl, rfl⟩ := forL_J (g := gSet 2) (F := sExpr (mMt extendF (mVar 1) (mCons (mVar 2) (mNil)))) (ws := (rows.map PyData.list).map W.d) (k := 0)
    (J := fun i ρ S => ∃ x, ρ = [some (.d (.list (rows.map .list))), some (.loc 0), x] ∧ S = [.lst ((rows.take i).flatten.map W.d)]) (ρ := [some (.d (.list (rows.map .list))), some (.loc 0), none]) (S := [.lst []]) (fun i w ρ S hw ⟨x, e1, e2⟩ => by
      subst e1 e2
      simp only [List.getElem?_map, Option.map_eq_some_iff, Nat.zero_add] at hw ⊢
      obtain ⟨_, ⟨r, hr, rfl⟩, rfl⟩ := hw
      have hi := (List.getElem?_eq_some_iff.mp hr).1
      have ht : rows.take (i + 1) = rows.take i ++ [r] := by rw [List.take_succ, hr]; rfl
      have hlen : ((rows.take i).flatten.map W.d).length + r.length ≤ sizeLine := by
        have h1 : (rows.take (i + 1)).flatten.length ≤ rows.flatten.length := by
          conv => rhs; rw [← List.take_append_drop (i + 1) rows, List.flatten_append, List.length_append]
          omega
        rw [ht, List.flatten_append, List.length_append] at h1
        have h2 : [r].flatten.length = r.length := by simp
        rw [List.length_map]; omega
      rw [ht]
      simp [DL.sSeq, DL.sNil, DL.sPass, DL.sBreak, DL.sCont, DL.sExpr, DL.sRet, DL.sRetN, DL.sIf, DL.sAsg, DL.sPar, DL.sAug, DL.sAugS, DL.gSet, DL.gTupD, DL.gsNil, DL.gsCons, DL.gSubD, DL.sFor, DL.iRng1D_eq, DL.mVar, DL.mC, DL.mNil, DL.mCons, DL.mCall, DL.mBin, DL.mNeg, DL.mMt, DL.mSl, DL.oNo, DL.oYes, DL.tOf, DL.tNotD, DL.tAndD, DL.tOrD, DL.tTru, DL.truD, DL.tTrue, DL.vAnd, DL.vOr, DL.vNot, DL.vIf, DL.vChain, DL.tupF, DL.lstF, DL.allD, DL.ev_add, DL.ev_sub, DL.ev_iadd, DL.ev_isub, DL.ev_lt, DL.ev_gt, DL.ev_le, DL.ev_ge, DL.ev_eq, DL.ev_ne, DL.ev_min, DL.ev_max, DL.ev_int, DL.ev_abs, DL.sz1, DL.sz2, DL.sz3, DL.sz4, DL.sz5, DL.sz6, DL.sz7, DL.sz8, DL.szp, isLst, extendF, onL, deref] at hlen ⊢
      simp [hlen]) ⟨none, by simp, by simp⟩
  simp only [Nat.zero_add, List.length_map] at e ⊢
  simp at e
  simp [bFlat, DL.sSeq, DL.sNil, DL.sPass, DL.sBreak, DL.sCont, DL.sExpr, DL.sRet, DL.sRetN, DL.sIf, DL.sAsg, DL.sPar, DL.sAug, DL.sAugS, DL.gSet, DL.gTupD, DL.gsNil, DL.gsCons, DL.gSubD, DL.sFor, DL.iRng1D_eq, DL.mVar, DL.mC, DL.mNil, DL.mCons, DL.mCall, DL.mBin, DL.mNeg, DL.mMt, DL.mSl, DL.oNo, DL.oYes, DL.tOf, DL.tNotD, DL.tAndD, DL.tOrD, DL.tTru, DL.truD, DL.tTrue, DL.vAnd, DL.vOr, DL.vNot, DL.vIf, DL.vChain, DL.tupF, DL.lstF, DL.allD, DL.ev_add, DL.ev_sub, DL.ev_iadd, DL.ev_isub, DL.ev_lt, DL.ev_gt, DL.ev_le, DL.ev_ge, DL.ev_eq, DL.ev_ne, DL.ev_min, DL.ev_max, DL.ev_int, DL.ev_abs, DL.sz1, DL.sz2, DL.sz3, DL.sz4, DL.sz5, DL.sz6, DL.sz7, DL.sz8, DL.szp, lstB, iSeq, mFrz, e, allD_flat]
/-- what the mixing makes of a list: the same things -/
theorem mix_step {c : Nat} {ob : Ob} {acc : List PyData} {x : PyData} {y : Option W} {xs : List PyData} (hb : BagOk c ob) (hc : c + 1 < 2 ^ 1000) (hl : acc.length < sizeLine) :
    ∃ ρ2 S2, ((gSet 3 (.d x) [some (.loc 0), some (.d (.list xs)), some (.loc 1), y] [ob, .lst (acc.map W.d)]).bind fun p => sExpr (mMt insertF (mVar 2) (mCons (mCall (callF fTake) (mCons (mVar 0) (mCons (mBin addA (mCall lenD (mCons (mVar 2) (mNil))) (mC (.int 1))) (mNil)))) (mCons (mVar 3) (mNil)))) p.1 p.2) = some (.nx, ρ2, S2) ∧
    ∃ y ob', ∃ acc' : List PyData, ρ2 = [some (.loc 0), some (.d (.list xs)), some (.loc 1), y] ∧ S2 = [ob', .lst (acc'.map W.d)] ∧ BagOk (c + 1) ob' ∧ acc'.Perm (x :: acc) := by
  obtain ⟨v, ob', e, v0, v1, hb'⟩ := take_ok (S := [ob, .lst (acc.map W.d)]) (n := 0) (upto := (acc.length : Int) + 1) rfl hb hc (by omega) (by have := size_lg (n := acc.length + 1) (by omega); simpa using this)
  refine ⟨[some (.loc 0), some (.d (.list xs)), some (.loc 1), some (.d x)], [ob', .lst ((acc.take v.toNat ++ [x] ++ acc.drop v.toNat).map W.d)], ?_, some (.d x), ob', _, rfl, rfl, hb', ?_⟩
  · have hv : (acc.map W.d).length < sizeLine ∧ 0 ≤ v ∧ v < 2 ^ 63 := by
      refine ⟨by rw [List.length_map]; exact hl, v0, ?_⟩
      have : sizeLine < 2 ^ 62 := by decide
      omega
    have hg : ∀ S, insertF (.loc 1) [.d (.int v), .d x] [ob', .lst (acc.map W.d)] = some (.d .none, S) ↔ S = [ob', .lst ((acc.take v.toNat ++ [x] ++ acc.drop v.toNat).map W.d)] := fun S => by
      simp only [insertF, onL]
      simp only [List.getElem?_cons_succ, List.getElem?_cons_zero, if_pos hv]
      simp [eq_comm]
    have hg' := (hg _).mpr rfl
    simp only [List.set_cons_zero] at e
    simp [DL.sSeq, DL.sNil, DL.sPass, DL.sBreak, DL.sCont, DL.sExpr, DL.sRet, DL.sRetN, DL.sIf, DL.sAsg, DL.sPar, DL.sAug, DL.sAugS, DL.gSet, DL.gTupD, DL.gsNil, DL.gsCons, DL.gSubD, DL.sFor, DL.iRng1D_eq, DL.mVar, DL.mC, DL.mNil, DL.mCons, DL.mCall, DL.mBin, DL.mNeg, DL.mMt, DL.mSl, DL.oNo, DL.oYes, DL.tOf, DL.tNotD, DL.tAndD, DL.tOrD, DL.tTru, DL.truD, DL.tTrue, DL.vAnd, DL.vOr, DL.vNot, DL.vIf, DL.vChain, DL.tupF, DL.lstF, DL.allD, DL.ev_add, DL.ev_sub, DL.ev_iadd, DL.ev_isub, DL.ev_lt, DL.ev_gt, DL.ev_le, DL.ev_ge, DL.ev_eq, DL.ev_ne, DL.ev_min, DL.ev_max, DL.ev_int, DL.ev_abs, DL.sz1, DL.sz2, DL.sz3, DL.sz4, DL.sz5, DL.sz6, DL.sz7, DL.sz8, DL.szp, isLst, lenD, on1, len0, e]
    simp at hg'
    rw [hg']
    rfl
  · have : (acc.take v.toNat ++ [x] ++ acc.drop v.toNat).Perm (x :: (acc.take v.toNat ++ acc.drop v.toNat)) := by
      rw [List.append_assoc]
      exact List.perm_middle
    rwa [List.take_append_drop] at this
theorem mixed_ok {c n : Nat} {ob : Ob} {S : Sto} {xs : List PyData} (hS : S[n]? = some ob) (hb : BagOk c ob) (hc : c + xs.length < 2 ^ 1000) (hx : xs.length ≤ sizeLine) :
    ∃ ys ob', callF fMixed [.loc n, .d (.list xs)] S = some (.d (.list ys), S.set n ob') ∧ ys.Perm xs ∧ BagOk (c + xs.length) ob' := by
  obtain ⟨ρ', S', e, y, ob', acc, rfl, rfl, hb', hp⟩ := forL_J (g := gSet 3) (F := sExpr (mMt insertF (mVar 2) (mCons (mCall (callF fTake) (mCons (mVar 0) (mCons (mBin addA (mCall lenD (mCons (mVar 2) (mNil))) (mC (.int 1))) (mNil)))) (mCons (mVar 3) (mNil))))) (ws := xs.map W.d) (k := 0)
    (J := fun i ρ S => ∃ y ob', ∃ acc : List PyData, ρ = [some (.loc 0), some (.d (.list xs)), some (.loc 1), y] ∧ S = [ob', .lst (acc.map W.d)] ∧ BagOk (c + i) ob' ∧ acc.Perm (xs.take i)) (ρ := [some (.loc 0), some (.d (.list xs)), some (.loc 1), none]) (S := [ob, .lst []]) (fun i w ρ S hw ⟨y, ob', acc, e1, e2, hb', hp⟩ => by
      subst e1 e2
      simp only [List.getElem?_map, Option.map_eq_some_iff, Nat.zero_add] at hw hb' hp ⊢
      obtain ⟨x, hx', rfl⟩ := hw
      have hi := (List.getElem?_eq_some_iff.mp hx').1
      have hl := hp.length_eq
      rw [List.length_take] at hl
      obtain ⟨ρ2, S2, e, y2, ob2, acc2, h1, h2, h3, h4⟩ := mix_step (x := x) (y := y) (xs := xs) hb' (by omega) (acc := acc) (by omega)
      refine ⟨ρ2, S2, e, y2, ob2, acc2, h1, h2, h3, h4.trans ?_⟩
      rw [List.take_succ, hx']
      exact (List.Perm.cons x hp).trans (List.perm_append_comm (l₁ := [x]))) ⟨none, ob, [], rfl, rfl, hb, by simp⟩
  simp only [Nat.zero_add, List.length_map] at e hb' hp
  rw [List.take_length] at hp
  refine ⟨acc, ob', callF_loc (n := n) rfl (by simp [allLoc]) hS hb.obD (runF_ret1 ?_ hb'.obD) hb'.obD, hp, hb'⟩
  simp [bMixed, DL.sSeq, DL.sNil, DL.sPass, DL.sBreak, DL.sCont, DL.sExpr, DL.sRet, DL.sRetN, DL.sIf, DL.sAsg, DL.sPar, DL.sAug, DL.sAugS, DL.gSet, DL.gTupD, DL.gsNil, DL.gsCons, DL.gSubD, DL.sFor, DL.iRng1D_eq, DL.mVar, DL.mC, DL.mNil, DL.mCons, DL.mCall, DL.mBin, DL.mNeg, DL.mMt, DL.mSl, DL.oNo, DL.oYes, DL.tOf, DL.tNotD, DL.tAndD, DL.tOrD, DL.tTru, DL.truD, DL.tTrue, DL.vAnd, DL.vOr, DL.vNot, DL.vIf, DL.vChain, DL.tupF, DL.lstF, DL.allD, DL.ev_add, DL.ev_sub, DL.ev_iadd, DL.ev_isub, DL.ev_lt, DL.ev_gt, DL.ev_le, DL.ev_ge, DL.ev_eq, DL.ev_ne, DL.ev_min, DL.ev_max, DL.ev_int, DL.ev_abs, DL.sz1, DL.sz2, DL.sz3, DL.sz4, DL.sz5, DL.sz6, DL.sz7, DL.sz8, DL.szp, lstB, iSeq, mFrz, toZero, e, allD_map]
/-! ### comprehensions that change nothing -/
theorem lcL_fm {g : MG} {T : MT} {E : ME} {vs : List Nat} {ρ : DEnv} {S : Sto} {P : W → Bool} {F : W → W} : ∀ {ws : List W}, (∀ w ∈ ws, ∃ ρ1, g w (wipeD ρ vs) S = some (ρ1, S) ∧ T ρ1 S = some (P w, S) ∧ (P w = true → E ρ1 S = some (F w, S))) → lcL g T E vs ρ ws S = some ((ws.filter P).map F, S)
  | [], _ => rfl
  | w :: ws, h => by
    obtain ⟨ρ1, e1, e2, e3⟩ := h w (by simp)
    have ih := lcL_fm (ws := ws) fun w hw => h w (by simp [hw])
    cases hP : P w with
    | true => simp [lcL, e1, e2, hP, e3 hP, ih]
    | false => simp [lcL, e1, e2, hP, ih]
/-- [F(x) for x in ds if P(x)] -/
theorem lc_d {it : MI} {g : MG} {T : MT} {E : ME} {vs : List Nat} {ρ : DEnv} {S : Sto} {ds : List PyData} (P : PyData → Bool) (F : PyData → PyData) (hi : it ρ S = some (ds.map W.d, S))
    (h : ∀ x ∈ ds, ∃ ρ1, g (.d x) (wipeD ρ vs) S = some (ρ1, S) ∧ T ρ1 S = some (P x, S) ∧ (P x = true → E ρ1 S = some (.d (F x), S))) (hl : ds.length ≤ sizeLine) : mLc it g T E vs kFrz ρ S = some (.d (.list ((ds.filter P).map F)), S) := by
  have e : lcL g T E vs ρ (ds.map W.d) S = some (((ds.filter P).map F).map W.d, S) := by
    rw [lcL_fm (P := fun w => match w with | .d x => P x | _ => false) (F := fun w => match w with | .d x => .d (F x) | w => w)]
    · rw [List.filter_map, List.map_map, List.map_map]; rfl
    · intro w hw
      obtain ⟨x, hx, rfl⟩ := List.mem_map.mp hw
      exact h x hx
  have hk : ((ds.filter P).map F).length ≤ sizeLine := by
    rw [List.length_map]; exact Nat.le_trans (List.length_filter_le _ _) hl
  simp only [mLc, hi, Option.bind_some, e, kFrz, allD_map, if_pos hk]
theorem lc_all {it : MI} {g : MG} {E : ME} {vs : List Nat} {ρ : DEnv} {S : Sto} {ds : List PyData} (F : PyData → PyData) (hi : it ρ S = some (ds.map W.d, S))
    (h : ∀ x ∈ ds, ∃ ρ1, g (.d x) (wipeD ρ vs) S = some (ρ1, S) ∧ E ρ1 S = some (.d (F x), S)) (hl : ds.length ≤ sizeLine) : mLc it g tTrue E vs kFrz ρ S = some (.d (.list (ds.map F)), S) := by
  have := lc_d (T := tTrue) (E := E) (fun _ => true) F hi (fun x hx => by
    obtain ⟨ρ1, e1, e2⟩ := h x hx
    exact ⟨ρ1, e1, rfl, fun _ => e2⟩) hl
  rwa [List.filter_eq_self.mpr (fun _ _ => rfl)] at this
/-- the bag -/
theorem bag_ok (ns : List Int) (S : Sto) : ∃ ob, callF fBag [.d (.list (ns.map .int))] S = some (.loc S.length, S ++ [ob]) ∧ BagOk 0 ob := by
  have hl : ((cutD (ns.map PyData.int) none (some 63)).length) ≤ 63 := by
    unfold cutD; rw [List.length_take]
    have : HT.sIx (ns.map PyData.int).length (ns.map PyData.int).length (some 63) ≤ 63 := by
      have e := HT.sIx_nat (ns.map PyData.int).length (ns.map PyData.int).length 63
      have e' : ((63 : Nat) : Int) = 63 := rfl
      rw [e'] at e; rw [e]; exact Nat.min_le_left _ _
    omega
  have hm : ∀ x ∈ cutD (ns.map PyData.int) none (some 63), ∃ n : Int, x = .int n := by
    intro x hx
    unfold cutD at hx
    have := List.mem_of_mem_drop (List.mem_of_mem_take hx)
    obtain ⟨n, _, rfl⟩ := List.mem_map.mp this
    exact ⟨n, rfl⟩
  generalize hc : cutD (ns.map PyData.int) none (some 63) = cs at hl hm
  have e := lc_all (it := iSeq (mSl (mVar 0) (oNo) (oYes (mC (.int 63))))) (g := gSet 1) (E := mCall absD (mCons (mVar 1) (mNil))) (vs := [1]) (ρ := [some (.d (.list (ns.map .int))), none]) (S := []) (ds := cs)
    (fun x => match x with | .int i => .int (i.natAbs : Int) | x => x) (by simp [DL.sSeq, DL.sNil, DL.sPass, DL.sBreak, DL.sCont, DL.sExpr, DL.sRet, DL.sRetN, DL.sIf, DL.sAsg, DL.sPar, DL.sAug, DL.sAugS, DL.gSet, DL.gTupD, DL.gsNil, DL.gsCons, DL.gSubD, DL.sFor, DL.iRng1D_eq, DL.mVar, DL.mC, DL.mNil, DL.mCons, DL.mCall, DL.mBin, DL.mNeg, DL.mMt, DL.mSl, DL.oNo, DL.oYes, DL.tOf, DL.tNotD, DL.tAndD, DL.tOrD, DL.tTru, DL.truD, DL.tTrue, DL.vAnd, DL.vOr, DL.vNot, DL.vIf, DL.vChain, DL.tupF, DL.lstF, DL.allD, DL.ev_add, DL.ev_sub, DL.ev_iadd, DL.ev_isub, DL.ev_lt, DL.ev_gt, DL.ev_le, DL.ev_ge, DL.ev_eq, DL.ev_ne, DL.ev_min, DL.ev_max, DL.ev_int, DL.ev_abs, DL.sz1, DL.sz2, DL.sz3, DL.sz4, DL.sz5, DL.sz6, DL.sz7, DL.sz8, DL.szp, iSeq, sliceD, hc]) (fun x hx => by
      obtain ⟨n, rfl⟩ := hm x hx
      exact ⟨[some (.d (.list (ns.map .int))), some (.d (.int n))], by simp [DL.sSeq, DL.sNil, DL.sPass, DL.sBreak, DL.sCont, DL.sExpr, DL.sRet, DL.sRetN, DL.sIf, DL.sAsg, DL.sPar, DL.sAug, DL.sAugS, DL.gSet, DL.gTupD, DL.gsNil, DL.gsCons, DL.gSubD, DL.sFor, DL.iRng1D_eq, DL.mVar, DL.mC, DL.mNil, DL.mCons, DL.mCall, DL.mBin, DL.mNeg, DL.mMt, DL.mSl, DL.oNo, DL.oYes, DL.tOf, DL.tNotD, DL.tAndD, DL.tOrD, DL.tTru, DL.truD, DL.tTrue, DL.vAnd, DL.vOr, DL.vNot, DL.vIf, DL.vChain, DL.tupF, DL.lstF, DL.allD, DL.ev_add, DL.ev_sub, DL.ev_iadd, DL.ev_isub, DL.ev_lt, DL.ev_gt, DL.ev_le, DL.ev_ge, DL.ev_eq, DL.ev_ne, DL.ev_min, DL.ev_max, DL.ev_int, DL.ev_abs, DL.sz1, DL.sz2, DL.sz3, DL.sz4, DL.sz5, DL.sz6, DL.sz7, DL.sz8, DL.szp, wipeD], by simp [DL.sSeq, DL.sNil, DL.sPass, DL.sBreak, DL.sCont, DL.sExpr, DL.sRet, DL.sRetN, DL.sIf, DL.sAsg, DL.sPar, DL.sAug, DL.sAugS, DL.gSet, DL.gTupD, DL.gsNil, DL.gsCons, DL.gSubD, DL.sFor, DL.iRng1D_eq, DL.mVar, DL.mC, DL.mNil, DL.mCons, DL.mCall, DL.mBin, DL.mNeg, DL.mMt, DL.mSl, DL.oNo, DL.oYes, DL.tOf, DL.tNotD, DL.tAndD, DL.tOrD, DL.tTru, DL.truD, DL.tTrue, DL.vAnd, DL.vOr, DL.vNot, DL.vIf, DL.vChain, DL.tupF, DL.lstF, DL.allD, DL.ev_add, DL.ev_sub, DL.ev_iadd, DL.ev_isub, DL.ev_lt, DL.ev_gt, DL.ev_le, DL.ev_ge, DL.ev_eq, DL.ev_ne, DL.ev_min, DL.ev_max, DL.ev_int, DL.ev_abs, DL.sz1, DL.sz2, DL.sz3, DL.sz4, DL.sz5, DL.sz6, DL.sz7, DL.sz8, DL.szp]⟩) (by
      have : 63 ≤ sizeLine := by decide
      omega)
  have hq : ∃ cells : List Nat, cs.map (fun x => match x with | .int i => PyData.int (i.natAbs : Int) | x => x) = cells.map (fun c => .int (c : Nat)) ∧ cells.length = cs.length := by
    clear e hl hc
    induction cs with
    | nil => exact ⟨[], rfl, rfl⟩
    | cons x cs ih =>
      obtain ⟨n, rfl⟩ := hm x (by simp)
      obtain ⟨cells, e1, e2⟩ := ih fun y hy => hm y (by simp [hy])
      exact ⟨n.natAbs :: cells, by rw [List.map_cons, e1]; rfl, by simp [e2]⟩
  obtain ⟨cells, e1, e2⟩ := hq
  rw [e1] at e
  have hb : BagOk 0 (bagOf 0 1234567891 0 cells) := ⟨0, 1234567891, 0, cells, rfl, by decide, by omega, by omega⟩
  refine ⟨_, ?_, hb⟩
  have hr : fBag [.d (.list (ns.map .int))] [] = some (.loc 0, [bagOf 0 1234567891 0 cells]) := by
    have ho := hb.obD
    simp [fBag, runF, bBag, DL.sSeq, DL.sNil, DL.sPass, DL.sBreak, DL.sCont, DL.sExpr, DL.sRet, DL.sRetN, DL.sIf, DL.sAsg, DL.sPar, DL.sAug, DL.sAugS, DL.gSet, DL.gTupD, DL.gsNil, DL.gsCons, DL.gSubD, DL.sFor, DL.iRng1D_eq, DL.mVar, DL.mC, DL.mNil, DL.mCons, DL.mCall, DL.mBin, DL.mNeg, DL.mMt, DL.mSl, DL.oNo, DL.oYes, DL.tOf, DL.tNotD, DL.tAndD, DL.tOrD, DL.tTru, DL.truD, DL.tTrue, DL.vAnd, DL.vOr, DL.vNot, DL.vIf, DL.vChain, DL.tupF, DL.lstF, DL.allD, DL.ev_add, DL.ev_sub, DL.ev_iadd, DL.ev_isub, DL.ev_lt, DL.ev_gt, DL.ev_le, DL.ev_ge, DL.ev_eq, DL.ev_ne, DL.ev_min, DL.ev_max, DL.ev_int, DL.ev_abs, DL.sz1, DL.sz2, DL.sz3, DL.sz4, DL.sz5, DL.sz6, DL.sz7, DL.sz8, DL.szp, e, lstB, leave]
    simp [bagOf] at ho ⊢
    exact ho
  simp [callF, firstLoc, hr, hb.obD]
end DL
end
noncomputable section
namespace DL
open PySem PySem.Spec PyProof.Rows L2 DL
theorem perm_map_ex {α β : Type} {f : α → β} : ∀ {l : List α} {m : List β}, m.Perm (l.map f) → ∃ r : List α, r.Perm l ∧ m = r.map f
  | [], m, h => ⟨[], .refl _, by simpa using h.eq_nil⟩
  | a :: l, m, h => by
    have : f a ∈ m := h.symm.subset (by simp)
    obtain ⟨m1, m2, rfl⟩ := List.append_of_mem this
    have h2 : (m1 ++ m2).Perm (l.map f) := (List.perm_middle.symm.trans h).cons_inv
    obtain ⟨r, hr, e⟩ := perm_map_ex h2
    obtain ⟨r1, r2, rfl, rfl, rfl⟩ := List.map_eq_append_iff.mp e.symm
    exact ⟨r1 ++ a :: r2, List.perm_middle.trans (hr.cons a), by simp⟩
theorem ofPs_map {α : Type} {enc : α → PyData} {encC : α → Cd} : ∀ {l : List α}, (∀ a ∈ l, ofP (enc a) = some (encC a)) → ofPs (l.map enc) = some (l.map encC)
  | [], _ => rfl
  | a :: l, h => by
    simp only [List.map_cons, ofPs, h a (by simp), Option.bind_some, ofPs_map (l := l) fun b hb => h b (by simp [hb]), Option.map_some]
/-- sorted, of things that are coded as tuples -/
theorem sort_gen {α : Type} {enc : α → PyData} {encC : α → Cd} {l : List α} {S : Sto} {w : W} (hE : ∀ a ∈ l, ofP (enc a) = some (encC a)) (hT : ∀ a ∈ l, isTupNE (encC a) = true ∧ (enc a).depth ≤ 60) (hK : ∀ a ∈ l, ∀ b ∈ l, kindC (encC a) (encC b) = true) (hd : deref S w = some (.list (l.map enc))) :
    ∃ r : List α, r.Perm l ∧ sortedD [w] S = some (.d (.list (r.map enc)), S) := by
  have hs : sortable (l.map encC) = true := by
    simp only [sortable, Bool.and_eq_true, List.all_eq_true, List.mem_map, decide_eq_true_eq]
    refine ⟨?_, ?_⟩
    · rintro _ ⟨a, ha, rfl⟩
      have := hT a ha
      rw [ofP_eq _ _ (hE a ha)] at this
      exact this
    · rintro _ ⟨a, ha, rfl⟩ _ ⟨b, hb, rfl⟩
      exact hK a ha b hb
  obtain ⟨r, hr, e⟩ := perm_map_ex (sortC_perm (l.map encC))
  refine ⟨r, hr, ?_⟩
  have he : toPs (sortC (l.map encC)) = r.map enc := by
    rw [e, toPs_map, List.map_map]
    refine List.map_congr_left fun a ha => ?_
    exact (ofP_eq _ _ (hE a (hr.subset ha))).symm
  simp only [sortedD, on1, hd, Option.bind_some, ofPs_map hE, hs, if_true, he]
/-- a tuple of whole numbers -/
def tI (l : List Int) : PyData := .tuple (l.map .int)
def cI (l : List Int) : Cd := .tup (l.map .int)
theorem ofP_tI (l : List Int) : ofP (tI l) = some (cI l) := by
  simp only [tI, cI, ofP]
  rw [ofPs_map (encC := Cd.int) (fun a _ => by simp [ofP])]; rfl
theorem kind_ints : ∀ (a b : List Int), kindCs (a.map .int) (b.map .int) = true
  | [], _ => by simp [kindCs]
  | _ :: _, [] => by simp [kindCs]
  | x :: a, y :: b => by simp [kindCs, kindC, kind_ints a b]
theorem kind_cI (a b : List Int) : kindC (cI a) (cI b) = true := by simp only [cI, kindC]; exact kind_ints a b
theorem dep_ints (l : List Int) : PyData.depthAll (l.map .int) = 0 := by
  induction l with
  | nil => rfl
  | cons a l ih => simp [PyData.depthAll, PyData.depth, ih]
theorem dep_tI (l : List Int) : (tI l).depth = 1 := by simp [tI, PyData.depth, dep_ints]
theorem lay_ints (l : List Int) : PyData.canLayAll0 (l.map .int) = true := by
  induction l with
  | nil => rfl
  | cons a l ih => simp [PyData.canLayAll0, PyData.canLay0, ih]
theorem shaped_tI (l : List Int) : SeqAt.shaped (tI l) = true := by
  simp [SeqAt.shaped, dep_tI]; simp [tI, PyData.canLay0, lay_ints]
theorem eqv_ints : ∀ (a b : List Int), PyData.eqvAll (a.map .int) (b.map .int) = decide (a = b)
  | [], [] => by simp [PyData.eqvAll]
  | [], _ :: _ => by simp [PyData.eqvAll]
  | _ :: _, [] => by simp [PyData.eqvAll]
  | x :: a, y :: b => by
    simp only [List.map_cons, PyData.eqvAll, PyData.eqv, eqv_ints a b]
    by_cases h : x = y <;> by_cases h2 : a = b <;> simp [h, h2]
theorem eqv_tI (a b : List Int) : PyData.eqv (tI a) (tI b) = decide (a = b) := by simp only [tI, PyData.eqv]; exact eqv_ints a b
theorem eq_tI (a b : List Int) (S : Sto) : eqA false (.d (tI a)) (.d (tI b)) S = some (.d (.bool (decide (a = b))), S) := by
  have h1 := shaped_tI a; have h2 := shaped_tI b; have h3 := eqv_tI a b
  simp only [tI] at *
  simp [eqA, eqD, deref, h1, h2, h3]
theorem ne_tI (a b : List Int) (S : Sto) : eqA true (.d (tI a)) (.d (tI b)) S = some (.d (.bool (!decide (a = b))), S) := by
  have h1 := shaped_tI a; have h2 := shaped_tI b; have h3 := eqv_tI a b
  simp only [tI] at *
  simp [eqA, eqD, deref, h1, h2, h3]
theorem sort_tI {l : List (List Int)} {S : Sto} {w : W} (h0 : ∀ a ∈ l, a ≠ []) (hd : deref S w = some (.list (l.map tI))) : ∃ r : List (List Int), r.Perm l ∧ sortedD [w] S = some (.d (.list (r.map tI)), S) :=
  sort_gen (encC := cI) (fun a _ => ofP_tI a) (fun a ha => ⟨by
    cases a with
    | nil => exact absurd rfl (h0 _ ha)
    | cons x a => rfl, by rw [dep_tI]; decide⟩) (fun a _ b _ => kind_cI a b) hd
/-- a comprehension over things that are coded -/
theorem lcL_e {α : Type} {g : MG} {T : MT} {E : ME} {vs : List Nat} {ρ : DEnv} {S : Sto} (enc : α → PyData) (P : α → Bool) (F : α → PyData) : ∀ {l : List α}, (∀ a ∈ l, ∃ ρ1, g (.d (enc a)) (wipeD ρ vs) S = some (ρ1, S) ∧ T ρ1 S = some (P a, S) ∧ (P a = true → E ρ1 S = some (.d (F a), S))) →
    lcL g T E vs ρ ((l.map enc).map W.d) S = some ((((l.filter P).map F).map W.d), S)
  | [], _ => rfl
  | a :: l, h => by
    obtain ⟨ρ1, e1, e2, e3⟩ := h a (by simp)
    have ih := lcL_e enc P F (l := l) fun w hw => h w (by simp [hw])
    cases hP : P a with
    | true => simp only [List.map_cons, lcL, e1, e2, hP, e3 hP, ih, Option.bind_some, if_true, List.filter_cons]
    | false => simp only [List.map_cons, lcL, e1, e2, hP, ih, Option.bind_some, List.filter_cons, Bool.false_eq_true, if_false]
theorem lc_e {α : Type} {it : MI} {g : MG} {T : MT} {E : ME} {vs : List Nat} {ρ : DEnv} {S : Sto} {l : List α} (enc : α → PyData) (P : α → Bool) (F : α → PyData) (hi : it ρ S = some ((l.map enc).map W.d, S))
    (h : ∀ a ∈ l, ∃ ρ1, g (.d (enc a)) (wipeD ρ vs) S = some (ρ1, S) ∧ T ρ1 S = some (P a, S) ∧ (P a = true → E ρ1 S = some (.d (F a), S))) (hl : (l.filter P).length ≤ sizeLine) : mLc it g T E vs kFrz ρ S = some (.d (.list ((l.filter P).map F)), S) := by
  have hk : ((l.filter P).map F).length ≤ sizeLine := by rw [List.length_map]; exact hl
  simp only [mLc, hi, Option.bind_some, lcL_e enc P F h, kFrz, allD_map, if_pos hk]
end DL
end
noncomputable section
namespace K75
open PySem PySem.Spec PyProof.Rows L2 DL
def top (i : Nat) : Stmt := PySem.Challenge.pw_onorback_k75_whole_half_of_the_places.main.body.getD i (.Pass ⟨0, 0, 0, 0⟩)
/-- the built-ins by their names -/
structure Txt (mg : Str → Option Value) : Prop where
  n_abs : mg "abs" = none
  n_all : mg "all" = none
  n_enumerate : mg "enumerate" = none
  n_int : mg "int" = none
  n_len : mg "len" = none
  n_min : mg "min" = none
  n_range : mg "range" = none
  n_repr : mg "repr" = none
  n_sorted : mg "sorted" = none
  n_tuple : mg "tuple" = none

/-! ### steps_from -/
abbrev s_steps_from : Stmt := top 1
abbrev N_steps_from : List Str := ["bench", "content", "found", "index", "here", "values", "moves", "v", "w"]
theorem sc_steps_from : FnScope N_steps_from ["bench", "content"] (defScope s_steps_from) := ⟨rfl, rfl, rfl, by decide +kernel, rfl, by decide +kernel, by decide +kernel⟩
def b_steps_from : MS := sSeq (sAsg (mCall lstB (mNil)) (gSet 2))
    (sSeq (sFor (iEnumD (mCons (mVar 0) (mNil))) (gTupD 2 (gsCons (gSet 3) (gsCons (gTupD 2 (gsCons (gSet 5) (gsCons (gSet 6) (gsNil)))) (gsNil)))) (sSeq (sAsg (mLc (iSeq (mVar 6)) (gTupD 2 (gsCons (gSet 7) (gsCons (gSet 8) (gsNil)))) (tOf (mBin (eqA false) (mVar 7) (mBin idxD (mVar 1) (mVar 3)))) (mVar 8) [7, 8] kFrz) (gSet 4))
    (sExpr (mMt extendF (mVar 2) (mCons (mLc (iSeq (mVar 4)) (gSet 8) (tTrue) (mBin addA (mBin addA (mSl (mVar 1) (oNo) (oYes (mVar 3))) (mCall tupF (mCons (mVar 8) (mNil)))) (mSl (mVar 1) (oYes (mBin addA (mVar 3) (mC (.int 1)))) (oNo))) [8] kFrz) (mNil))))))
    (sRet (mCall sortedD (mCons (mVar 2) (mNil)))))
def f_steps_from : FS := runF 9 b_steps_from
theorem ok_steps_from {P : Program} {w : World} {K : PySem.W.Frag} {mg : Str → Option Value} {base : Heap} {fa : Addr} {fd : FuncData} (F : Fun K "steps_from" "steps_from" s_steps_from fa fd) (T : Txt mg)  : FnG P w K mg base 1 fa fd ["bench", "content"] (spD K 2 f_steps_from) :=
  fnG (k := 0) (N := N_steps_from) (ps := ["bench", "content"]) (b := b_steps_from) F sc_steps_from fun cdv A outer s H E hr hg => dss_cons (ds_set (i := 2) sc_steps_from.nd rfl (Or.inl rfl) (de_lstB (da_nil)))
    (dss_cons (ds_for (vis := [3, 5, 6]) PassesOwn.never rfl (di_enumT rfl T.n_enumerate (da_cons (de_var (pv 0)) (da_nil))) (dg_tup rfl (dgs_cons (dg_name (i := 3) sc_steps_from.nd rfl (Or.inr rfl)) (dgs_cons (dg_tup rfl (dgs_cons (dg_name (i := 5) sc_steps_from.nd rfl (Or.inl rfl)) (dgs_cons (dg_name (i := 6) sc_steps_from.nd rfl (Or.inl rfl)) (dgs_nil)))) (dgs_nil)))) (dss_cons (ds_setLc (own := [("v", 7), ("w", 8)]) rfl sc_steps_from.nd rfl rfl (sw_true rfl rfl rfl (by decide +kernel)) (di_seq (de_var (pv 6))) (blkOk_by (own := [("v", 7), ("w", 8)]) (N := N_steps_from) (sc := defScope s_steps_from) (by decide +kernel)) (fun _ _ _ _ _ => dg_tup rfl (dgs_cons (dg_name (i := 7) sc_steps_from.nd rfl (Or.inl rfl)) (dgs_cons (dg_name (i := 8) sc_steps_from.nd rfl (Or.inl rfl)) (dgs_nil)))) (fun _ _ _ _ _ => dts_one (dt_cmp (op_eqA hr.units) (de_var (pv 7)) (de_ix (de_var (pv 1)) (de_var (pv 3))))) (fun _ _ _ _ _ => de_var (pv 8)))
    (dss_one (ds_expr (de_bm PySem.F.slot_list_extend PySem.F.type_list_extend mt_extendD (de_var (pv 2)) (da_cons (de_lc (own := [("w", 8)]) rfl sc_steps_from.nd (di_seq (de_var (pv 4))) (blkOk_by (own := [("w", 8)]) (N := N_steps_from) (sc := defScope s_steps_from) (by decide +kernel)) (fun _ _ _ _ _ => dg_name (i := 8) sc_steps_from.nd rfl (Or.inl rfl)) (fun _ _ _ _ _ => dts_nil) (fun _ _ _ _ _ => de_bin op_addA (de_bin op_addA (de_sl (de_var (pv 1)) (do_no) (do_yes (de_var (pv 3)))) (de_tup (da_cons (de_var (pv 8)) (da_nil)))) (de_sl (de_var (pv 1)) (do_yes (de_bin op_addA (de_var (pv 3)) (de_int))) (do_no)))) (da_nil)))))))
    (dss_one (ds_ret (de_callB (call_sortedDD hr) rfl T.n_sorted (by decide +kernel) (da_cons (de_var (pv 2)) (da_nil))))))

/-! ### steps_to -/
abbrev s_steps_to : Stmt := top 2
abbrev N_steps_to : List Str := ["bench", "content", "found", "index", "here", "values", "moves", "v", "w"]
theorem sc_steps_to : FnScope N_steps_to ["bench", "content"] (defScope s_steps_to) := ⟨rfl, rfl, rfl, by decide +kernel, rfl, by decide +kernel, by decide +kernel⟩
def b_steps_to : MS := sSeq (sAsg (mCall lstB (mNil)) (gSet 2))
    (sSeq (sFor (iEnumD (mCons (mVar 0) (mNil))) (gTupD 2 (gsCons (gSet 3) (gsCons (gTupD 2 (gsCons (gSet 5) (gsCons (gSet 6) (gsNil)))) (gsNil)))) (sSeq (sAsg (mLc (iSeq (mVar 6)) (gTupD 2 (gsCons (gSet 7) (gsCons (gSet 8) (gsNil)))) (tOf (mBin (eqA false) (mVar 8) (mBin idxD (mVar 1) (mVar 3)))) (mVar 7) [7, 8] kFrz) (gSet 4))
    (sExpr (mMt extendF (mVar 2) (mCons (mLc (iSeq (mVar 4)) (gSet 7) (tTrue) (mBin addA (mBin addA (mSl (mVar 1) (oNo) (oYes (mVar 3))) (mCall tupF (mCons (mVar 7) (mNil)))) (mSl (mVar 1) (oYes (mBin addA (mVar 3) (mC (.int 1)))) (oNo))) [7] kFrz) (mNil))))))
    (sRet (mCall sortedD (mCons (mVar 2) (mNil)))))
def f_steps_to : FS := runF 9 b_steps_to
theorem ok_steps_to {P : Program} {w : World} {K : PySem.W.Frag} {mg : Str → Option Value} {base : Heap} {fa : Addr} {fd : FuncData} (F : Fun K "steps_to" "steps_to" s_steps_to fa fd) (T : Txt mg)  : FnG P w K mg base 1 fa fd ["bench", "content"] (spD K 2 f_steps_to) :=
  fnG (k := 0) (N := N_steps_to) (ps := ["bench", "content"]) (b := b_steps_to) F sc_steps_to fun cdv A outer s H E hr hg => dss_cons (ds_set (i := 2) sc_steps_to.nd rfl (Or.inl rfl) (de_lstB (da_nil)))
    (dss_cons (ds_for (vis := [3, 5, 6]) PassesOwn.never rfl (di_enumT rfl T.n_enumerate (da_cons (de_var (pv 0)) (da_nil))) (dg_tup rfl (dgs_cons (dg_name (i := 3) sc_steps_to.nd rfl (Or.inr rfl)) (dgs_cons (dg_tup rfl (dgs_cons (dg_name (i := 5) sc_steps_to.nd rfl (Or.inl rfl)) (dgs_cons (dg_name (i := 6) sc_steps_to.nd rfl (Or.inl rfl)) (dgs_nil)))) (dgs_nil)))) (dss_cons (ds_setLc (own := [("v", 7), ("w", 8)]) rfl sc_steps_to.nd rfl rfl (sw_true rfl rfl rfl (by decide +kernel)) (di_seq (de_var (pv 6))) (blkOk_by (own := [("v", 7), ("w", 8)]) (N := N_steps_to) (sc := defScope s_steps_to) (by decide +kernel)) (fun _ _ _ _ _ => dg_tup rfl (dgs_cons (dg_name (i := 7) sc_steps_to.nd rfl (Or.inl rfl)) (dgs_cons (dg_name (i := 8) sc_steps_to.nd rfl (Or.inl rfl)) (dgs_nil)))) (fun _ _ _ _ _ => dts_one (dt_cmp (op_eqA hr.units) (de_var (pv 8)) (de_ix (de_var (pv 1)) (de_var (pv 3))))) (fun _ _ _ _ _ => de_var (pv 7)))
    (dss_one (ds_expr (de_bm PySem.F.slot_list_extend PySem.F.type_list_extend mt_extendD (de_var (pv 2)) (da_cons (de_lc (own := [("v", 7)]) rfl sc_steps_to.nd (di_seq (de_var (pv 4))) (blkOk_by (own := [("v", 7)]) (N := N_steps_to) (sc := defScope s_steps_to) (by decide +kernel)) (fun _ _ _ _ _ => dg_name (i := 7) sc_steps_to.nd rfl (Or.inl rfl)) (fun _ _ _ _ _ => dts_nil) (fun _ _ _ _ _ => de_bin op_addA (de_bin op_addA (de_sl (de_var (pv 1)) (do_no) (do_yes (de_var (pv 3)))) (de_tup (da_cons (de_var (pv 7)) (da_nil)))) (de_sl (de_var (pv 1)) (do_yes (de_bin op_addA (de_var (pv 3)) (de_int))) (do_no)))) (da_nil)))))))
    (dss_one (ds_ret (de_callB (call_sortedDD hr) rfl T.n_sorted (by decide +kernel) (da_cons (de_var (pv 2)) (da_nil))))))

/-! ### doubled -/
abbrev s_doubled : Stmt := top 9
abbrev N_doubled : List Str := ["many", "found", "turn"]
theorem sc_doubled : FnScope N_doubled ["many"] (defScope s_doubled) := ⟨rfl, rfl, rfl, by decide +kernel, rfl, by decide +kernel, by decide +kernel⟩
def b_doubled : MS := sSeq (sAsg (mC (.int 1)) (gSet 1))
    (sSeq (sFor (iRng1D (mCons (mVar 0) (mNil))) (gSet 2) (sAsg (mBin mulD (mVar 1) (mC (.int 2))) (gSet 1)))
    (sRet (mVar 1)))
def f_doubled : FS := runF 3 b_doubled
theorem ok_doubled {P : Program} {w : World} {K : PySem.W.Frag} {mg : Str → Option Value} {base : Heap} {fa : Addr} {fd : FuncData} (F : Fun K "doubled" "doubled" s_doubled fa fd) (T : Txt mg)  : FnG P w K mg base 1 fa fd ["many"] (spD K 1 f_doubled) :=
  fnG (k := 0) (N := N_doubled) (ps := ["many"]) (b := b_doubled) F sc_doubled fun cdv A outer s H E hr hg => dss_cons (ds_set (i := 1) sc_doubled.nd rfl (Or.inl rfl) (de_int))
    (dss_cons (ds_for (vis := [2]) PassesOwn.never rfl (di_rng1 rfl T.n_range (da_cons (de_var (pv 0)) (da_nil))) (dg_name (i := 2) sc_doubled.nd rfl (Or.inl rfl)) (dss_one (ds_set (i := 1) sc_doubled.nd rfl (Or.inl rfl) (de_bin op_mulD (de_var (pv 1)) (de_int)))))
    (dss_one (ds_ret (de_var (pv 1)))))

/-! ### has_only -/
abbrev s_has_only : Stmt := top 13
abbrev N_has_only : List Str := ["ends", "rest", "end"]
theorem sc_has_only : FnScope N_has_only ["ends", "rest"] (defScope s_has_only) := ⟨rfl, rfl, rfl, by decide +kernel, rfl, by decide +kernel, by decide +kernel⟩
def b_has_only : MS := sRet (mCall allDD (mCons (mLc (iSeq (mVar 0)) (gSet 2) (tTrue) (mBin (eqA false) (mVar 2) (mVar 1)) [2] kFrz) (mNil)))
def f_has_only : FS := runF 3 b_has_only
theorem ok_has_only {P : Program} {w : World} {K : PySem.W.Frag} {mg : Str → Option Value} {base : Heap} {fa : Addr} {fd : FuncData} (F : Fun K "has_only" "has_only" s_has_only fa fd) (T : Txt mg)  : FnG P w K mg base 1 fa fd ["ends", "rest"] (spD K 2 f_has_only) :=
  fnG (k := 0) (N := N_has_only) (ps := ["ends", "rest"]) (b := b_has_only) F sc_has_only fun cdv A outer s H E hr hg => dss_one (ds_ret (de_callB (call_allDD rfl) rfl T.n_all (by decide +kernel) (da_cons (de_lc (own := [("end", 2)]) rfl sc_has_only.nd (di_seq (de_var (pv 0))) (blkOk_by (own := [("end", 2)]) (N := N_has_only) (sc := defScope s_has_only) (by decide +kernel)) (fun _ _ _ _ _ => dg_name (i := 2) sc_has_only.nd rfl (Or.inl rfl)) (fun _ _ _ _ _ => dts_nil) (fun _ _ _ _ _ => de_cmp (op_eqA hr.units) (de_var (pv 2)) (de_var (pv 1)))) (da_nil))))

/-! ### l_bag -/
abbrev s_l_bag : Stmt := top 18
abbrev N_l_bag : List Str := ["_law_script", "_law_cell"]
theorem sc_l_bag : FnScope N_l_bag ["_law_script"] (defScope s_l_bag) := ⟨rfl, rfl, rfl, by decide +kernel, rfl, by decide +kernel, by decide +kernel⟩
def b_l_bag : MS := sRet (mCall lstB (mCons (mC (.int 0)) (mCons (mC (.int 1234567891)) (mCons (mC (.int 0)) (mCons (mLc (iSeq (mSl (mVar 0) (oNo) (oYes (mC (.int 63))))) (gSet 1) (tTrue) (mCall absD (mCons (mVar 1) (mNil))) [1] kFrz) (mNil))))))
def f_l_bag : FS := runF 2 b_l_bag
theorem ok_l_bag {P : Program} {w : World} {K : PySem.W.Frag} {mg : Str → Option Value} {base : Heap} {fa : Addr} {fd : FuncData} (F : Fun K "_law_bag" "_law_bag" s_l_bag fa fd) (T : Txt mg)  : FnG P w K mg base 1 fa fd ["_law_script"] (spD K 1 f_l_bag) :=
  fnG (k := 0) (N := N_l_bag) (ps := ["_law_script"]) (b := b_l_bag) F sc_l_bag fun cdv A outer s H E hr hg => dss_one (ds_ret (de_lstB (da_cons (de_int) (da_cons (de_int) (da_cons (de_int) (da_cons (de_lc (own := [("_law_cell", 1)]) rfl sc_l_bag.nd (di_seq (de_sl (de_var (pv 0)) (do_no) (do_yes (de_int)))) (blkOk_by (own := [("_law_cell", 1)]) (N := N_l_bag) (sc := defScope s_l_bag) (by decide +kernel)) (fun _ _ _ _ _ => dg_name (i := 1) sc_l_bag.nd rfl (Or.inl rfl)) (fun _ _ _ _ _ => dts_nil) (fun _ _ _ _ _ => de_callB call_absDD rfl T.n_abs (by decide +kernel) (da_cons (de_var (pv 1)) (da_nil)))) (da_nil)))))))

/-! ### l_take -/
abbrev s_l_take : Stmt := top 19
abbrev N_l_take : List Str := ["_law_bag_here", "_law_upto", "_law_begin", "_law_second", "_law_cell", "_law_stirred", "_law_value"]
theorem sc_l_take : FnScope N_l_take ["_law_bag_here", "_law_upto"] (defScope s_l_take) := ⟨rfl, rfl, rfl, by decide +kernel, rfl, by decide +kernel, by decide +kernel⟩
def b_l_take : MS := sSeq (sIf (tOf (mBin (eqA false) (mBin idxD (mVar 0) (mC (.int 0))) (mC (.int 0)))) (sSeq (sAsg (mBin idxD (mBin addA (mSl (mBin idxD (mVar 0) (mC (.int 3))) (oYes (mBin idxD (mVar 0) (mC (.int 2)))) (oNo)) (mCall lstF (mCons (mC (.int 0)) (mNil)))) (mC (.int 0))) (gSet 4))
    (sSeq (sAugS (mVar 0) (mC (.int 2)) (mC (.int 1)) getF iaddI setF)
    (sSeq (sIf (tOf (mBin geD (mVar 4) (mBin powD (mC (.int 10)) (mC (.int 18))))) (sAsg (mVar 4) (gSubD (mVar 0) (mC (.int 0)) setF)) (sNil))
    (sSeq (sAsg (mBin addA (mBin addA (mBin mulD (mBin idxD (mVar 0) (mC (.int 1))) (mC (.int 48271))) (mBin modD (mCall intD (mCons (mVar 4) (mNil))) (mC (.int 2147483647)))) (mBin mulD (mC (.int 7919)) (mBin idxD (mVar 0) (mC (.int 2))))) (gSet 5))
    (sAsg (mBin modD (mCall intD (mCons (mVar 5) (mNil))) (mC (.int 2147483647))) (gSubD (mVar 0) (mC (.int 1)) setF)))))) (sNil))
    (sSeq (sIf (tOf (mBin gtD (mBin idxD (mVar 0) (mC (.int 0))) (mC (.int 0)))) (sSeq (sAsg (mBin modD (mCall intD (mCons (mBin idxD (mVar 0) (mC (.int 0))) (mNil))) (mVar 1)) (gSet 6))
    (sSeq (sAsg (mBin fdivD (mCall intD (mCons (mBin idxD (mVar 0) (mC (.int 0))) (mNil))) (mVar 1)) (gSubD (mVar 0) (mC (.int 0)) setF))
    (sRet (mVar 6)))) (sNil))
    (sSeq (sAsg (mBin modD (mCall intD (mCons (mBin mulD (mBin addA (mBin idxD (mVar 0) (mC (.int 1))) (mC (.int 1))) (mC (.int 39373))) (mNil))) (mC (.int 1000000007))) (gSet 2))
    (sSeq (sAsg (mBin modD (mCall intD (mCons (mBin mulD (mBin modD (mCall intD (mCons (mBin mulD (mVar 2) (mVar 2)) (mNil))) (mC (.int 998244353))) (mC (.int 30011))) (mNil))) (mC (.int 998244353))) (gSet 3))
    (sRet (mBin modD (mCall intD (mCons (mBin fdivD (mVar 3) (mC (.int 7))) (mNil))) (mVar 1))))))
def f_l_take : FS := runF 7 b_l_take
theorem ok_l_take {P : Program} {w : World} {K : PySem.W.Frag} {mg : Str → Option Value} {base : Heap} {fa : Addr} {fd : FuncData} (F : Fun K "_law_take" "_law_take" s_l_take fa fd) (T : Txt mg)  : FnG P w K mg base 1 fa fd ["_law_bag_here", "_law_upto"] (spD K 2 f_l_take) :=
  fnG (k := 0) (N := N_l_take) (ps := ["_law_bag_here", "_law_upto"]) (b := b_l_take) F sc_l_take fun cdv A outer s H E hr hg => dss_cons (ds_if (dt_cmp (op_eqA hr.units) (de_ix (de_var (pv 0)) (de_int)) (de_int)) (dss_cons (ds_set (i := 4) sc_l_take.nd rfl (Or.inl rfl) (de_ix (de_bin op_addA (de_sl (de_ix (de_var (pv 0)) (de_int)) (do_yes (de_ix (de_var (pv 0)) (de_int))) (do_no)) (de_lst (da_cons (de_int) (da_nil)))) (de_int)))
    (dss_cons (ds_augS (de_var (pv 0)) (de_int) get_D (de_int) ip_addI set_D)
    (dss_cons (ds_if (dt_cmp op_geD (de_var (pv 4)) (de_bin op_powD (de_int) (de_int))) (dss_one (ds_asg (vis := []) (de_var (pv 4)) (dg_sub (vis := []) (de_var (pv 0)) (de_int) set_D))) (dss_nil))
    (dss_cons (ds_set (i := 5) sc_l_take.nd rfl (Or.inl rfl) (de_bin op_addA (de_bin op_addA (de_bin op_mulD (de_ix (de_var (pv 0)) (de_int)) (de_int)) (de_bin op_modD (de_callTy call_intDD rfl T.n_int (by decide +kernel) (da_cons (de_var (pv 4)) (da_nil))) (de_int))) (de_bin op_mulD (de_int) (de_ix (de_var (pv 0)) (de_int)))))
    (dss_one (ds_asg (vis := []) (de_bin op_modD (de_callTy call_intDD rfl T.n_int (by decide +kernel) (da_cons (de_var (pv 5)) (da_nil))) (de_int)) (dg_sub (vis := []) (de_var (pv 0)) (de_int) set_D))))))) (dss_nil))
    (dss_cons (ds_if (dt_cmp op_gtD (de_ix (de_var (pv 0)) (de_int)) (de_int)) (dss_cons (ds_set (i := 6) sc_l_take.nd rfl (Or.inl rfl) (de_bin op_modD (de_callTy call_intDD rfl T.n_int (by decide +kernel) (da_cons (de_ix (de_var (pv 0)) (de_int)) (da_nil))) (de_var (pv 1))))
    (dss_cons (ds_asg (vis := []) (de_bin op_fdivD (de_callTy call_intDD rfl T.n_int (by decide +kernel) (da_cons (de_ix (de_var (pv 0)) (de_int)) (da_nil))) (de_var (pv 1))) (dg_sub (vis := []) (de_var (pv 0)) (de_int) set_D))
    (dss_one (ds_ret (de_var (pv 6)))))) (dss_nil))
    (dss_cons (ds_set (i := 2) sc_l_take.nd rfl (Or.inl rfl) (de_bin op_modD (de_callTy call_intDD rfl T.n_int (by decide +kernel) (da_cons (de_bin op_mulD (de_bin op_addA (de_ix (de_var (pv 0)) (de_int)) (de_int)) (de_int)) (da_nil))) (de_int)))
    (dss_cons (ds_set (i := 3) sc_l_take.nd rfl (Or.inl rfl) (de_bin op_modD (de_callTy call_intDD rfl T.n_int (by decide +kernel) (da_cons (de_bin op_mulD (de_bin op_modD (de_callTy call_intDD rfl T.n_int (by decide +kernel) (da_cons (de_bin op_mulD (de_var (pv 2)) (de_var (pv 2))) (da_nil))) (de_int)) (de_int)) (da_nil))) (de_int)))
    (dss_one (ds_ret (de_bin op_modD (de_callTy call_intDD rfl T.n_int (by decide +kernel) (da_cons (de_bin op_fdivD (de_var (pv 3)) (de_int)) (da_nil))) (de_var (pv 1))))))))

/-! ### l_alike -/
abbrev s_l_alike : Stmt := top 21
abbrev N_l_alike : List Str := ["_law_found", "_law_due"]
theorem sc_l_alike : FnScope N_l_alike ["_law_found", "_law_due"] (defScope s_l_alike) := ⟨rfl, rfl, rfl, by decide +kernel, rfl, by decide +kernel, by decide +kernel⟩
def b_l_alike : MS := sRet (vAnd (mBin (eqA false) (mVar 0) (mVar 1)) (mBin (eqA false) (mCall reprD (mCons (mVar 0) (mNil))) (mCall reprD (mCons (mVar 1) (mNil)))))
def f_l_alike : FS := runF 2 b_l_alike
theorem ok_l_alike {P : Program} {w : World} {K : PySem.W.Frag} {mg : Str → Option Value} {base : Heap} {fa : Addr} {fd : FuncData} (F : Fun K "_law_alike" "_law_alike" s_l_alike fa fd) (T : Txt mg)  : FnG P w K mg base 1 fa fd ["_law_found", "_law_due"] (spD K 2 f_l_alike) :=
  fnG (k := 0) (N := N_l_alike) (ps := ["_law_found", "_law_due"]) (b := b_l_alike) F sc_l_alike fun cdv A outer s H E hr hg => dss_one (ds_ret (de_and (de_cmp (op_eqA hr.units) (de_var (pv 0)) (de_var (pv 1))) (de_one (de_cmp (op_eqA hr.units) (de_callB (call_reprDD hr hg) rfl T.n_repr (by decide +kernel) (da_cons (de_var (pv 0)) (da_nil))) (de_callB (call_reprDD hr hg) rfl T.n_repr (by decide +kernel) (da_cons (de_var (pv 1)) (da_nil)))))))

/-! ### l_flat -/
abbrev s_l_flat : Stmt := top 23
abbrev N_l_flat : List Str := ["_law_rows", "_law_found", "_law_row"]
theorem sc_l_flat : FnScope N_l_flat ["_law_rows"] (defScope s_l_flat) := ⟨rfl, rfl, rfl, by decide +kernel, rfl, by decide +kernel, by decide +kernel⟩
def b_l_flat : MS := sSeq (sAsg (mCall lstB (mNil)) (gSet 1))
    (sSeq (sFor (iSeq (mVar 0)) (gSet 2) (sExpr (mMt extendF (mVar 1) (mCons (mVar 2) (mNil)))))
    (sRet (mFrz (mVar 1))))
def f_l_flat : FS := runF 3 b_l_flat
theorem ok_l_flat {P : Program} {w : World} {K : PySem.W.Frag} {mg : Str → Option Value} {base : Heap} {fa : Addr} {fd : FuncData} (F : Fun K "_law_flat" "_law_flat" s_l_flat fa fd) (T : Txt mg)  : FnG P w K mg base 1 fa fd ["_law_rows"] (spD K 1 f_l_flat) :=
  fnG (k := 0) (N := N_l_flat) (ps := ["_law_rows"]) (b := b_l_flat) F sc_l_flat fun cdv A outer s H E hr hg => dss_cons (ds_set (i := 1) sc_l_flat.nd rfl (Or.inl rfl) (de_lstB (da_nil)))
    (dss_cons (ds_for (vis := [2]) PassesOwn.never rfl (di_seq (de_var (pv 0))) (dg_name (i := 2) sc_l_flat.nd rfl (Or.inl rfl)) (dss_one (ds_expr (de_bm PySem.F.slot_list_extend PySem.F.type_list_extend mt_extendD (de_var (pv 1)) (da_cons (de_var (pv 2)) (da_nil))))))
    (dss_one (ds_ret (de_frz (de_var (pv 1))))))

/-! ### l_two -/
abbrev s_l_two : Stmt := top 25
abbrev N_l_two : List Str := ["_law_many", "_law_found", "_law_k"]
theorem sc_l_two : FnScope N_l_two ["_law_many"] (defScope s_l_two) := ⟨rfl, rfl, rfl, by decide +kernel, rfl, by decide +kernel, by decide +kernel⟩
def b_l_two : MS := sSeq (sAsg (mC (.int 1)) (gSet 1))
    (sSeq (sFor (iRng1D (mCons (mVar 0) (mNil))) (gSet 2) (sAsg (mBin mulD (mVar 1) (mC (.int 2))) (gSet 1)))
    (sRet (mVar 1)))
def f_l_two : FS := runF 3 b_l_two
theorem ok_l_two {P : Program} {w : World} {K : PySem.W.Frag} {mg : Str → Option Value} {base : Heap} {fa : Addr} {fd : FuncData} (F : Fun K "_law_two" "_law_two" s_l_two fa fd) (T : Txt mg)  : FnG P w K mg base 1 fa fd ["_law_many"] (spD K 1 f_l_two) :=
  fnG (k := 0) (N := N_l_two) (ps := ["_law_many"]) (b := b_l_two) F sc_l_two fun cdv A outer s H E hr hg => dss_cons (ds_set (i := 1) sc_l_two.nd rfl (Or.inl rfl) (de_int))
    (dss_cons (ds_for (vis := [2]) PassesOwn.never rfl (di_rng1 rfl T.n_range (da_cons (de_var (pv 0)) (da_nil))) (dg_name (i := 2) sc_l_two.nd rfl (Or.inl rfl)) (dss_one (ds_set (i := 1) sc_l_two.nd rfl (Or.inl rfl) (de_bin op_mulD (de_var (pv 1)) (de_int)))))
    (dss_one (ds_ret (de_var (pv 1)))))

/-! ### l_is_let -/
abbrev s_l_is_let : Stmt := top 26
abbrev N_l_is_let : List Str := ["_law_places_here", "_law_many", "_law_contents_here"]
theorem sc_l_is_let : FnScope N_l_is_let ["_law_places_here", "_law_many", "_law_contents_here"] (defScope s_l_is_let) := ⟨rfl, rfl, rfl, by decide +kernel, rfl, by decide +kernel, by decide +kernel⟩
def b_l_is_let : MS := sRet (vAnd (mBin leD (mVar 1) (mVar 2)) (mBin leD (mBin mulD (mVar 1) (mBin subD (mVar 1) (mC (.int 3)))) (mBin mulD (mBin subD (mVar 0) (mC (.int 2))) (mVar 2))))
def f_l_is_let : FS := runF 3 b_l_is_let
theorem ok_l_is_let {P : Program} {w : World} {K : PySem.W.Frag} {mg : Str → Option Value} {base : Heap} {fa : Addr} {fd : FuncData} (F : Fun K "_law_is_let" "_law_is_let" s_l_is_let fa fd) (T : Txt mg)  : FnG P w K mg base 1 fa fd ["_law_places_here", "_law_many", "_law_contents_here"] (spD K 3 f_l_is_let) :=
  fnG (k := 0) (N := N_l_is_let) (ps := ["_law_places_here", "_law_many", "_law_contents_here"]) (b := b_l_is_let) F sc_l_is_let fun cdv A outer s H E hr hg => dss_one (ds_ret (de_and (de_cmp op_leD (de_var (pv 1)) (de_var (pv 2))) (de_one (de_cmp op_leD (de_bin op_mulD (de_var (pv 1)) (de_bin op_subD (de_var (pv 1)) (de_int))) (de_bin op_mulD (de_bin op_subD (de_var (pv 0)) (de_int)) (de_var (pv 2)))))))

/-! ### most_rests -/
abbrev s_most_rests : Stmt := top 10
abbrev N_most_rests : List Str := ["places", "most", "bound", "high", "low", "half"]
theorem sc_most_rests : FnScope N_most_rests ["places"] (defScope s_most_rests) := ⟨rfl, rfl, rfl, by decide +kernel, rfl, by decide +kernel, by decide +kernel⟩
def b_most_rests : MS := sSeq (sAsg (mCall (callF f_doubled) (mCons (mVar 0) (mNil))) (gSet 1))
    (sSeq (sAsg (mBin mulD (mBin subD (mVar 0) (mC (.int 2))) (mVar 1)) (gSet 2))
    (sSeq (sAsg (mCall tupF (mCons (mC (.int 1)) (mCons (mC (.int 1)) (mNil)))) (gTupD 2 (gsCons (gSet 4) (gsCons (gSet 3) (gsNil)))))
    (sSeq (whileL (tAndD (tOf (mBin ltD (mVar 3) (mVar 1))) (tOf (mBin leD (mBin mulD (mVar 3) (mBin subD (mVar 3) (mC (.int 3)))) (mVar 2)))) (sAsg (mBin mulD (mVar 3) (mC (.int 2))) (gSet 3)) FUEL)
    (sSeq (sAsg (mCall min2D (mCons (mVar 3) (mCons (mVar 1) (mNil)))) (gSet 3))
    (sSeq (whileL (tOf (mBin ltD (mVar 4) (mVar 3))) (sSeq (sAsg (mBin fdivD (mBin addA (mBin addA (mVar 4) (mVar 3)) (mC (.int 1))) (mC (.int 2))) (gSet 5))
    (sIf (tOf (mBin leD (mBin mulD (mVar 5) (mBin subD (mVar 5) (mC (.int 3)))) (mVar 2))) (sAsg (mVar 5) (gSet 4)) (sAsg (mBin subD (mVar 5) (mC (.int 1))) (gSet 3)))) FUEL)
    (sRet (mVar 4)))))))
def f_most_rests : FS := runF 6 b_most_rests
theorem ok_most_rests {P : Program} {w : World} {K : PySem.W.Frag} {mg : Str → Option Value} {base : Heap} {fa : Addr} {fd : FuncData} (F : Fun K "most_rests" "most_rests" s_most_rests fa fd) (T : Txt mg) (c_doubled : Cal P w K mg base "doubled" 1 ["many"] f_doubled) : FnG P w K mg base 2 fa fd ["places"] (spD K 1 f_most_rests) :=
  fnG (k := 1) (N := N_most_rests) (ps := ["places"]) (b := b_most_rests) F sc_most_rests fun cdv A outer s H E hr hg => dss_cons (ds_set (i := 1) sc_most_rests.nd rfl (Or.inl rfl) (de_callC c_doubled hr hg (by decide) rfl (da_cons (de_var (pv 0)) (da_nil)) (ArgN.cons ArgN.nil) rfl))
    (dss_cons (ds_set (i := 2) sc_most_rests.nd rfl (Or.inl rfl) (de_bin op_mulD (de_bin op_subD (de_var (pv 0)) (de_int)) (de_var (pv 1))))
    (dss_cons (ds_asg (vis := [4, 3]) (de_tup (da_cons (de_int) (da_cons (de_int) (da_nil)))) (dg_tup rfl (dgs_cons (dg_name (i := 4) sc_most_rests.nd rfl (Or.inl rfl)) (dgs_cons (dg_name (i := 3) sc_most_rests.nd rfl (Or.inl rfl)) (dgs_nil)))))
    (dss_cons (ds_while PassesOwn.never (PW.pt (dw_and (dt_cmp (op_ltDD hr) (de_var (pv 3)) (de_var (pv 1))) (dw_and1 (dt_cmp op_leD (de_bin op_mulD (de_var (pv 3)) (de_bin op_subD (de_var (pv 3)) (de_int))) (de_var (pv 2)))))) (dss_one (ds_set (i := 3) sc_most_rests.nd rfl (Or.inl rfl) (de_bin op_mulD (de_var (pv 3)) (de_int)))))
    (dss_cons (ds_set (i := 3) sc_most_rests.nd rfl (Or.inl rfl) (de_callB (call_min2D rfl) rfl T.n_min (by decide +kernel) (da_cons (de_var (pv 3)) (da_cons (de_var (pv 1)) (da_nil)))))
    (dss_cons (ds_while PassesOwn.never (dt_cmp (op_ltDD hr) (de_var (pv 4)) (de_var (pv 3))) (dss_cons (ds_set (i := 5) sc_most_rests.nd rfl (Or.inl rfl) (de_bin op_fdivD (de_bin op_addA (de_bin op_addA (de_var (pv 4)) (de_var (pv 3))) (de_int)) (de_int)))
    (dss_one (ds_if (dt_cmp op_leD (de_bin op_mulD (de_var (pv 5)) (de_bin op_subD (de_var (pv 5)) (de_int))) (de_var (pv 2))) (dss_one (ds_set (i := 4) sc_most_rests.nd rfl (Or.inl rfl) (de_var (pv 5)))) (dss_one (ds_set (i := 3) sc_most_rests.nd rfl (Or.inl rfl) (de_bin op_subD (de_var (pv 5)) (de_int))))))))
    (dss_one (ds_ret (de_var (pv 4)))))))))

/-! ### sum_fault -/
abbrev s_sum_fault : Stmt := top 16
abbrev N_sum_fault : List Str := ["task", "rest", "orders", "steps", "pairs", "room", "order"]
theorem sc_sum_fault : FnScope N_sum_fault ["task"] (defScope s_sum_fault) := ⟨rfl, rfl, rfl, by decide +kernel, rfl, by decide +kernel, by decide +kernel⟩
def b_sum_fault : MS := sSeq (sFor (iSeq (mBin idxD (mVar 0) (mC (.int 1)))) (gSet 1) (sSeq (sAsg (mLc (iSeq (mBin idxD (mVar 0) (mC (.int 2)))) (gSet 6) (tAndD (tOf (mBin (eqA false) (mBin idxD (mVar 6) (mC (.int 0))) (mVar 1))) (tTru (mCall (callF f_has_only) (mCons (mBin idxD (mVar 6) (mC (.int 2))) (mCons (mBin idxD (mVar 6) (mC (.int 1))) (mNil)))))) (mVar 6) [6] kFrz) (gSet 2))
    (sSeq (sAsg (mCall lenD (mCons (mCall (callF f_steps_from) (mCons (mBin idxD (mVar 0) (mC (.int 0))) (mCons (mVar 1) (mNil)))) (mNil))) (gSet 3))
    (sIf (tOf (mBin gtD (mCall lenD (mCons (mVar 2) (mNil))) (mVar 3))) (sRet (mCall tupF (mCons (mC (.str "from")) (mCons (mVar 1) (mCons (mCall lenD (mCons (mVar 2) (mNil))) (mCons (mVar 3) (mNil))))))) (sNil)))))
    (sSeq (sFor (iSeq (mBin idxD (mVar 0) (mC (.int 1)))) (gSet 1) (sSeq (sAsg (mLc (iSeq (mBin idxD (mVar 0) (mC (.int 2)))) (gSet 6) (tAndD (tOf (mBin (eqA false) (mBin idxD (mVar 6) (mC (.int 1))) (mVar 1))) (tTru (mCall (callF f_has_only) (mCons (mBin idxD (mVar 6) (mC (.int 2))) (mCons (mBin idxD (mVar 6) (mC (.int 0))) (mNil)))))) (mVar 6) [6] kFrz) (gSet 2))
    (sSeq (sAsg (mCall lenD (mCons (mCall (callF f_steps_to) (mCons (mBin idxD (mVar 0) (mC (.int 0))) (mCons (mVar 1) (mNil)))) (mNil))) (gSet 3))
    (sIf (tOf (mBin gtD (mCall lenD (mCons (mVar 2) (mNil))) (mVar 3))) (sRet (mCall tupF (mCons (mC (.str "to")) (mCons (mVar 1) (mCons (mCall lenD (mCons (mVar 2) (mNil))) (mCons (mVar 3) (mNil))))))) (sNil)))))
    (sSeq (sNever)
    (sRet (mC .none))))
def f_sum_fault : FS := runF 7 b_sum_fault
theorem ok_sum_fault {P : Program} {w : World} {K : PySem.W.Frag} {mg : Str → Option Value} {base : Heap} {fa : Addr} {fd : FuncData} (F : Fun K "sum_fault" "sum_fault" s_sum_fault fa fd) (T : Txt mg) (c_has_only : Cal P w K mg base "has_only" 1 ["ends", "rest"] f_has_only) (c_steps_from : Cal P w K mg base "steps_from" 1 ["bench", "content"] f_steps_from) (c_steps_to : Cal P w K mg base "steps_to" 1 ["bench", "content"] f_steps_to) : FnG P w K mg base 2 fa fd ["task"] (spD K 1 f_sum_fault) :=
  fnG (k := 1) (N := N_sum_fault) (ps := ["task"]) (b := b_sum_fault) F sc_sum_fault fun cdv A outer s H E hr hg => dss_cons (ds_for (vis := [1]) PassesOwn.never rfl (di_seq (de_ix (de_var (pv 0)) (de_int))) (dg_name (i := 1) sc_sum_fault.nd rfl (Or.inr rfl)) (dss_cons (ds_setLc (own := [("order", 6)]) rfl sc_sum_fault.nd rfl rfl (sw_true rfl rfl rfl (by decide +kernel)) (di_seq (de_ix (de_var (pv 0)) (de_int))) (blkOk_by (own := [("order", 6)]) (N := N_sum_fault) (sc := defScope s_sum_fault) (by decide +kernel)) (fun _ _ _ _ _ => dg_name (i := 6) sc_sum_fault.nd rfl (Or.inl rfl)) (fun _ _ _ _ _ => dts_one (PW.pt (dw_and (dt_cmp (op_eqA hr.units) (de_ix (de_var (pv 6)) (de_int)) (de_var (pv 1))) (dw_and1 (dt_tru (de_callC c_has_only hr hg (by decide) rfl (da_cons (de_ix (de_var (pv 6)) (de_int)) (da_cons (de_ix (de_var (pv 6)) (de_int)) (da_nil))) (ArgN.cons (ArgN.cons ArgN.nil)) rfl)))))) (fun _ _ _ _ _ => de_var (pv 6)))
    (dss_cons (ds_set (i := 3) sc_sum_fault.nd rfl (Or.inl rfl) (de_callB call_lenDD rfl T.n_len (by decide +kernel) (da_cons (de_callC c_steps_from hr hg (by decide) rfl (da_cons (de_ix (de_var (pv 0)) (de_int)) (da_cons (de_var (pv 1)) (da_nil))) (ArgN.cons (ArgN.cons ArgN.nil)) rfl) (da_nil))))
    (dss_one (ds_if (dt_cmp op_gtD (de_callB call_lenDD rfl T.n_len (by decide +kernel) (da_cons (de_var (pv 2)) (da_nil))) (de_var (pv 3))) (dss_one (ds_ret (de_tup (da_cons (de_str) (da_cons (de_var (pv 1)) (da_cons (de_callB call_lenDD rfl T.n_len (by decide +kernel) (da_cons (de_var (pv 2)) (da_nil))) (da_cons (de_var (pv 3)) (da_nil)))))))) (dss_nil))))))
    (dss_cons (ds_for (vis := [1]) PassesOwn.never rfl (di_seq (de_ix (de_var (pv 0)) (de_int))) (dg_name (i := 1) sc_sum_fault.nd rfl (Or.inr rfl)) (dss_cons (ds_setLc (own := [("order", 6)]) rfl sc_sum_fault.nd rfl rfl (sw_true rfl rfl rfl (by decide +kernel)) (di_seq (de_ix (de_var (pv 0)) (de_int))) (blkOk_by (own := [("order", 6)]) (N := N_sum_fault) (sc := defScope s_sum_fault) (by decide +kernel)) (fun _ _ _ _ _ => dg_name (i := 6) sc_sum_fault.nd rfl (Or.inl rfl)) (fun _ _ _ _ _ => dts_one (PW.pt (dw_and (dt_cmp (op_eqA hr.units) (de_ix (de_var (pv 6)) (de_int)) (de_var (pv 1))) (dw_and1 (dt_tru (de_callC c_has_only hr hg (by decide) rfl (da_cons (de_ix (de_var (pv 6)) (de_int)) (da_cons (de_ix (de_var (pv 6)) (de_int)) (da_nil))) (ArgN.cons (ArgN.cons ArgN.nil)) rfl)))))) (fun _ _ _ _ _ => de_var (pv 6)))
    (dss_cons (ds_set (i := 3) sc_sum_fault.nd rfl (Or.inl rfl) (de_callB call_lenDD rfl T.n_len (by decide +kernel) (da_cons (de_callC c_steps_to hr hg (by decide) rfl (da_cons (de_ix (de_var (pv 0)) (de_int)) (da_cons (de_var (pv 1)) (da_nil))) (ArgN.cons (ArgN.cons ArgN.nil)) rfl) (da_nil))))
    (dss_one (ds_if (dt_cmp op_gtD (de_callB call_lenDD rfl T.n_len (by decide +kernel) (da_cons (de_var (pv 2)) (da_nil))) (de_var (pv 3))) (dss_one (ds_ret (de_tup (da_cons (de_str) (da_cons (de_var (pv 1)) (da_cons (de_callB call_lenDD rfl T.n_len (by decide +kernel) (da_cons (de_var (pv 2)) (da_nil))) (da_cons (de_var (pv 3)) (da_nil)))))))) (dss_nil))))))
    (dss_cons (ds_nev)
    (dss_one (ds_ret (de_non)))))

/-! ### l_some -/
abbrev s_l_some : Stmt := top 20
abbrev N_l_some : List Str := ["_law_bag_here", "_law_things"]
theorem sc_l_some : FnScope N_l_some ["_law_bag_here", "_law_things"] (defScope s_l_some) := ⟨rfl, rfl, rfl, by decide +kernel, rfl, by decide +kernel, by decide +kernel⟩
def b_l_some : MS := sRet (mBin idxD (mVar 1) (mCall (callF f_l_take) (mCons (mVar 0) (mCons (mCall lenD (mCons (mVar 1) (mNil))) (mNil)))))
def f_l_some : FS := runF 2 b_l_some
theorem ok_l_some {P : Program} {w : World} {K : PySem.W.Frag} {mg : Str → Option Value} {base : Heap} {fa : Addr} {fd : FuncData} (F : Fun K "_law_some" "_law_some" s_l_some fa fd) (T : Txt mg) (c_l_take : Cal P w K mg base "_law_take" 1 ["_law_bag_here", "_law_upto"] f_l_take) : FnG P w K mg base 2 fa fd ["_law_bag_here", "_law_things"] (spD K 2 f_l_some) :=
  fnG (k := 1) (N := N_l_some) (ps := ["_law_bag_here", "_law_things"]) (b := b_l_some) F sc_l_some fun cdv A outer s H E hr hg => dss_one (ds_ret (de_ix (de_var (pv 1)) (de_callC c_l_take hr hg (by decide) rfl (da_cons (de_var (pv 0)) (da_cons (de_callB call_lenDD rfl T.n_len (by decide +kernel) (da_cons (de_var (pv 1)) (da_nil))) (da_nil))) (ArgN.cons (ArgN.cons ArgN.nil)) rfl)))

/-! ### l_mixed -/
abbrev s_l_mixed : Stmt := top 22
abbrev N_l_mixed : List Str := ["_law_bag_here", "_law_things", "_law_found", "_law_thing"]
theorem sc_l_mixed : FnScope N_l_mixed ["_law_bag_here", "_law_things"] (defScope s_l_mixed) := ⟨rfl, rfl, rfl, by decide +kernel, rfl, by decide +kernel, by decide +kernel⟩
def b_l_mixed : MS := sSeq (sAsg (mCall lstB (mNil)) (gSet 2))
    (sSeq (sFor (iSeq (mVar 1)) (gSet 3) (sExpr (mMt insertF (mVar 2) (mCons (mCall (callF f_l_take) (mCons (mVar 0) (mCons (mBin addA (mCall lenD (mCons (mVar 2) (mNil))) (mC (.int 1))) (mNil)))) (mCons (mVar 3) (mNil))))))
    (sRet (mFrz (mVar 2))))
def f_l_mixed : FS := runF 4 b_l_mixed
theorem ok_l_mixed {P : Program} {w : World} {K : PySem.W.Frag} {mg : Str → Option Value} {base : Heap} {fa : Addr} {fd : FuncData} (F : Fun K "_law_mixed" "_law_mixed" s_l_mixed fa fd) (T : Txt mg) (c_l_take : Cal P w K mg base "_law_take" 1 ["_law_bag_here", "_law_upto"] f_l_take) : FnG P w K mg base 2 fa fd ["_law_bag_here", "_law_things"] (spD K 2 f_l_mixed) :=
  fnG (k := 1) (N := N_l_mixed) (ps := ["_law_bag_here", "_law_things"]) (b := b_l_mixed) F sc_l_mixed fun cdv A outer s H E hr hg => dss_cons (ds_set (i := 2) sc_l_mixed.nd rfl (Or.inl rfl) (de_lstB (da_nil)))
    (dss_cons (ds_for (vis := [3]) PassesOwn.never rfl (di_seq (de_var (pv 1))) (dg_name (i := 3) sc_l_mixed.nd rfl (Or.inl rfl)) (dss_one (ds_expr (de_bm PySem.F.slot_list_insert PySem.F.type_list_insert mt_insertD (de_var (pv 2)) (da_cons (de_callC c_l_take hr hg (by decide) rfl (da_cons (de_var (pv 0)) (da_cons (de_bin op_addA (de_callB call_lenDD rfl T.n_len (by decide +kernel) (da_cons (de_var (pv 2)) (da_nil))) (de_int)) (da_nil))) (ArgN.cons (ArgN.cons ArgN.nil)) rfl) (da_cons (de_var (pv 3)) (da_nil)))))))
    (dss_one (ds_ret (de_frz (de_var (pv 2))))))

/-! ### l_contents -/
abbrev s_l_contents : Stmt := top 24
abbrev N_l_contents : List Str := ["_law_bench", "_law_found", "_law_place", "_law_content", "_law_value"]
theorem sc_l_contents : FnScope N_l_contents ["_law_bench"] (defScope s_l_contents) := ⟨rfl, rfl, rfl, by decide +kernel, rfl, by decide +kernel, by decide +kernel⟩
def b_l_contents : MS := sSeq (sAsg (mCall lstF (mCons (mCall tupF (mNil)) (mNil))) (gSet 1))
    (sSeq (sFor (iSeq (mVar 0)) (gSet 2) (sAsg (mCall (callF f_l_flat) (mCons (mLc (iSeq (mVar 1)) (gSet 3) (tTrue) (mLc (iRng1D (mCons (mBin idxD (mVar 2) (mC (.int 0))) (mNil))) (gSet 4) (tTrue) (mBin addA (mVar 3) (mCall tupF (mCons (mVar 4) (mNil)))) [4] kFrz) [3] kFrz) (mNil))) (gSet 1)))
    (sRet (mVar 1)))
def f_l_contents : FS := runF 5 b_l_contents
theorem ok_l_contents {P : Program} {w : World} {K : PySem.W.Frag} {mg : Str → Option Value} {base : Heap} {fa : Addr} {fd : FuncData} (F : Fun K "_law_contents" "_law_contents" s_l_contents fa fd) (T : Txt mg) (c_l_flat : Cal P w K mg base "_law_flat" 1 ["_law_rows"] f_l_flat) : FnG P w K mg base 2 fa fd ["_law_bench"] (spD K 1 f_l_contents) :=
  fnG (k := 1) (N := N_l_contents) (ps := ["_law_bench"]) (b := b_l_contents) F sc_l_contents fun cdv A outer s H E hr hg => dss_cons (ds_set (i := 1) sc_l_contents.nd rfl (Or.inl rfl) (de_lst (da_cons (de_tup (da_nil)) (da_nil))))
    (dss_cons (ds_for (vis := [2]) PassesOwn.never rfl (di_seq (de_var (pv 0))) (dg_name (i := 2) sc_l_contents.nd rfl (Or.inr rfl)) (dss_one (ds_set (i := 1) sc_l_contents.nd rfl (Or.inl rfl) (de_callC c_l_flat hr hg (by decide) rfl (da_cons (de_lc (own := [("_law_content", 3)]) rfl sc_l_contents.nd (di_seq (de_var (pv 1))) (blkOk_by (own := [("_law_content", 3)]) (N := N_l_contents) (sc := defScope s_l_contents) (by decide +kernel)) (fun _ _ _ _ _ => dg_name (i := 3) sc_l_contents.nd rfl (Or.inr rfl)) (fun _ _ _ _ _ => dts_nil) (fun _ _ _ _ _ => de_lc (own := [("_law_value", 4)]) rfl sc_l_contents.nd (di_rng1 rfl T.n_range (da_cons (de_ix (de_var (pv 2)) (de_int)) (da_nil))) (blkOk_by (own := [("_law_value", 4)]) (N := N_l_contents) (sc := { kind := .function, names := [(".0", .local), ("_law_content", .cell), ("range", .globalImplicit), ("_law_place", .cell)], isGenerator := false, isCoroutine := false }) (by decide +kernel)) (fun _ _ _ _ _ => dg_name (i := 4) sc_l_contents.nd rfl (Or.inl rfl)) (fun _ _ _ _ _ => dts_nil) (fun _ _ _ _ _ => de_bin op_addA (de_var (pv 3)) (de_tup (da_cons (de_var (pv 4)) (da_nil)))))) (da_nil)) (ArgN.cons ArgN.nil) rfl))))
    (dss_one (ds_ret (de_var (pv 1)))))

/-! ### l_most -/
abbrev s_l_most : Stmt := top 27
abbrev N_l_most : List Str := ["_law_places_here", "_law_contents_here", "_law_low", "_law_high", "_law_middle"]
theorem sc_l_most : FnScope N_l_most ["_law_places_here"] (defScope s_l_most) := ⟨rfl, rfl, rfl, by decide +kernel, rfl, by decide +kernel, by decide +kernel⟩
def b_l_most : MS := sSeq (sAsg (mCall (callF f_l_two) (mCons (mVar 0) (mNil))) (gSet 1))
    (sSeq (sPar 2 3 (mCons (mC (.int 1)) (mCons (mVar 1) mNil)))
    (sSeq (whileL (tOf (mBin ltD (mVar 2) (mVar 3))) (sSeq (sAsg (mBin fdivD (mCall intD (mCons (mBin addA (mBin addA (mVar 2) (mVar 3)) (mC (.int 1))) (mNil))) (mC (.int 2))) (gSet 4))
    (sAsg (vIf (tTru (mCall (callF f_l_is_let) (mCons (mVar 0) (mCons (mVar 4) (mCons (mVar 1) (mNil)))))) (mCall tupF (mCons (mVar 4) (mCons (mVar 3) (mNil)))) (mCall tupF (mCons (mVar 2) (mCons (mBin subD (mVar 4) (mC (.int 1))) (mNil))))) (gTupD 2 (gsCons (gSet 2) (gsCons (gSet 3) (gsNil)))))) FUEL)
    (sRet (mVar 2))))
def f_l_most : FS := runF 5 b_l_most
theorem ok_l_most {P : Program} {w : World} {K : PySem.W.Frag} {mg : Str → Option Value} {base : Heap} {fa : Addr} {fd : FuncData} (F : Fun K "_law_most" "_law_most" s_l_most fa fd) (T : Txt mg) (c_l_two : Cal P w K mg base "_law_two" 1 ["_law_many"] f_l_two) (c_l_is_let : Cal P w K mg base "_law_is_let" 1 ["_law_places_here", "_law_many", "_law_contents_here"] f_l_is_let) : FnG P w K mg base 2 fa fd ["_law_places_here"] (spD K 1 f_l_most) :=
  fnG (k := 1) (N := N_l_most) (ps := ["_law_places_here"]) (b := b_l_most) F sc_l_most fun cdv A outer s H E hr hg => dss_cons (ds_set (i := 1) sc_l_most.nd rfl (Or.inl rfl) (de_callC c_l_two hr hg (by decide) rfl (da_cons (de_var (pv 0)) (da_nil)) (ArgN.cons ArgN.nil) rfl))
    (dss_cons (ds_par (i := 2) (j := 3) rfl sc_l_most.nd rfl rfl (by decide) rfl rfl (da_cons (de_int) (da_cons (de_var (pv 1)) da_nil)) (by rfl))
    (dss_cons (ds_while PassesOwn.never (dt_cmp (op_ltDD hr) (de_var (pv 2)) (de_var (pv 3))) (dss_cons (ds_set (i := 4) sc_l_most.nd rfl (Or.inl rfl) (de_bin op_fdivD (de_callTy call_intDD rfl T.n_int (by decide +kernel) (da_cons (de_bin op_addA (de_bin op_addA (de_var (pv 2)) (de_var (pv 3))) (de_int)) (da_nil))) (de_int)))
    (dss_one (ds_asg (vis := [2, 3]) (de_if (dt_tru (de_callC c_l_is_let hr hg (by decide) rfl (da_cons (de_var (pv 0)) (da_cons (de_var (pv 4)) (da_cons (de_var (pv 1)) (da_nil)))) (ArgN.cons (ArgN.cons (ArgN.cons ArgN.nil))) rfl)) (de_tup (da_cons (de_var (pv 4)) (da_cons (de_var (pv 3)) (da_nil)))) (de_tup (da_cons (de_var (pv 2)) (da_cons (de_bin op_subD (de_var (pv 4)) (de_int)) (da_nil))))) (dg_tup rfl (dgs_cons (dg_name (i := 2) sc_l_most.nd rfl (Or.inl rfl)) (dgs_cons (dg_name (i := 3) sc_l_most.nd rfl (Or.inl rfl)) (dgs_nil))))))))
    (dss_one (ds_ret (de_var (pv 2))))))

/-! ### places_for -/
abbrev s_places_for : Stmt := top 11
abbrev N_places_for : List Str := ["many", "least", "enough"]
theorem sc_places_for : FnScope N_places_for ["many"] (defScope s_places_for) := ⟨rfl, rfl, rfl, by decide +kernel, rfl, by decide +kernel, by decide +kernel⟩
def b_places_for : MS := sSeq (sAsg (mCall tupF (mCons (mC (.int 1)) (mCons (mC (.int 1)) (mNil)))) (gTupD 2 (gsCons (gSet 1) (gsCons (gSet 2) (gsNil)))))
    (sSeq (whileL (tOf (mBin ltD (mCall (callF f_most_rests) (mCons (mVar 1) (mNil))) (mVar 0))) (sAug 1 iaddI (mC (.int 1))) FUEL)
    (sSeq (whileL (tOf (mBin ltD (mCall (callF f_doubled) (mCons (mBin fdivD (mBin subD (mVar 2) (mC (.int 1))) (mC (.int 2))) (mNil))) (mVar 0))) (sAug 2 iaddI (mC (.int 2))) FUEL)
    (sRet (mCall tupF (mCons (mVar 1) (mCons (mVar 2) (mNil)))))))
def f_places_for : FS := runF 3 b_places_for
theorem ok_places_for {P : Program} {w : World} {K : PySem.W.Frag} {mg : Str → Option Value} {base : Heap} {fa : Addr} {fd : FuncData} (F : Fun K "places_for" "places_for" s_places_for fa fd) (T : Txt mg) (c_most_rests : Cal P w K mg base "most_rests" 2 ["places"] f_most_rests) (c_doubled : Cal P w K mg base "doubled" 1 ["many"] f_doubled) : FnG P w K mg base 3 fa fd ["many"] (spD K 1 f_places_for) :=
  fnG (k := 2) (N := N_places_for) (ps := ["many"]) (b := b_places_for) F sc_places_for fun cdv A outer s H E hr hg => dss_cons (ds_asg (vis := [1, 2]) (de_tup (da_cons (de_int) (da_cons (de_int) (da_nil)))) (dg_tup rfl (dgs_cons (dg_name (i := 1) sc_places_for.nd rfl (Or.inl rfl)) (dgs_cons (dg_name (i := 2) sc_places_for.nd rfl (Or.inl rfl)) (dgs_nil)))))
    (dss_cons (ds_while PassesOwn.never (dt_cmp (op_ltDD hr) (de_callC c_most_rests hr hg (by decide) rfl (da_cons (de_var (pv 1)) (da_nil)) (ArgN.cons ArgN.nil) rfl) (de_var (pv 0))) (dss_one (ds_aug (i := 1) sc_places_for.nd rfl (Or.inl rfl) (de_int) ip_addI)))
    (dss_cons (ds_while PassesOwn.never (dt_cmp (op_ltDD hr) (de_callC c_doubled hr hg (by decide) rfl (da_cons (de_bin op_fdivD (de_bin op_subD (de_var (pv 2)) (de_int)) (de_int)) (da_nil)) (ArgN.cons ArgN.nil) rfl) (de_var (pv 0))) (dss_one (ds_aug (i := 2) sc_places_for.nd rfl (Or.inl rfl) (de_int) ip_addI)))
    (dss_one (ds_ret (de_tup (da_cons (de_var (pv 1)) (da_cons (de_var (pv 2)) (da_nil))))))))

/-! ### l_places -/
abbrev s_l_places : Stmt := top 28
abbrev N_l_places : List Str := ["_law_many", "_law_least", "_law_h"]
theorem sc_l_places : FnScope N_l_places ["_law_many"] (defScope s_l_places) := ⟨rfl, rfl, rfl, by decide +kernel, rfl, by decide +kernel, by decide +kernel⟩
def b_l_places : MS := sSeq (sAsg (mCall tupF (mCons (mC (.int 1)) (mCons (mC (.int 0)) (mNil)))) (gTupD 2 (gsCons (gSet 1) (gsCons (gSet 2) (gsNil)))))
    (sSeq (whileL (tOf (mBin ltD (mCall (callF f_l_most) (mCons (mVar 1) (mNil))) (mVar 0))) (sAug 1 iaddI (mC (.int 1))) FUEL)
    (sSeq (whileL (tOf (mBin ltD (mCall (callF f_l_two) (mCons (mVar 2) (mNil))) (mVar 0))) (sAug 2 iaddI (mC (.int 1))) FUEL)
    (sRet (mCall tupF (mCons (mVar 1) (mCons (mBin addA (mBin mulD (mC (.int 2)) (mVar 2)) (mC (.int 1))) (mNil)))))))
def f_l_places : FS := runF 3 b_l_places
theorem ok_l_places {P : Program} {w : World} {K : PySem.W.Frag} {mg : Str → Option Value} {base : Heap} {fa : Addr} {fd : FuncData} (F : Fun K "_law_places" "_law_places" s_l_places fa fd) (T : Txt mg) (c_l_most : Cal P w K mg base "_law_most" 2 ["_law_places_here"] f_l_most) (c_l_two : Cal P w K mg base "_law_two" 1 ["_law_many"] f_l_two) : FnG P w K mg base 3 fa fd ["_law_many"] (spD K 1 f_l_places) :=
  fnG (k := 2) (N := N_l_places) (ps := ["_law_many"]) (b := b_l_places) F sc_l_places fun cdv A outer s H E hr hg => dss_cons (ds_asg (vis := [1, 2]) (de_tup (da_cons (de_int) (da_cons (de_int) (da_nil)))) (dg_tup rfl (dgs_cons (dg_name (i := 1) sc_l_places.nd rfl (Or.inl rfl)) (dgs_cons (dg_name (i := 2) sc_l_places.nd rfl (Or.inl rfl)) (dgs_nil)))))
    (dss_cons (ds_while PassesOwn.never (dt_cmp (op_ltDD hr) (de_callC c_l_most hr hg (by decide) rfl (da_cons (de_var (pv 1)) (da_nil)) (ArgN.cons ArgN.nil) rfl) (de_var (pv 0))) (dss_one (ds_aug (i := 1) sc_l_places.nd rfl (Or.inl rfl) (de_int) ip_addI)))
    (dss_cons (ds_while PassesOwn.never (dt_cmp (op_ltDD hr) (de_callC c_l_two hr hg (by decide) rfl (da_cons (de_var (pv 2)) (da_nil)) (ArgN.cons ArgN.nil) rfl) (de_var (pv 0))) (dss_one (ds_aug (i := 2) sc_l_places.nd rfl (Or.inl rfl) (de_int) ip_addI)))
    (dss_one (ds_ret (de_tup (da_cons (de_var (pv 1)) (da_cons (de_bin op_addA (de_bin op_mulD (de_int) (de_var (pv 2))) (de_int)) (da_nil))))))))

/-! ### l_are_barred -/
abbrev s_l_are_barred : Stmt := top 29
abbrev N_l_are_barred : List Str := ["_law_bag_here", "_law_places_here", "_law_bench", "_law_rests", "_law_way", "_law_orders", "_law_fault", "_law_one", "_law_other"]
theorem sc_l_are_barred : FnScope N_l_are_barred ["_law_bag_here", "_law_places_here"] (defScope s_l_are_barred) := ⟨rfl, rfl, rfl, by decide +kernel, rfl, by decide +kernel, by decide +kernel⟩
def b_l_are_barred : MS := sSeq (sAsg (mBin mulD (mCall tupF (mCons (mCall tupF (mCons (mC (.int 2)) (mCons (mCall tupF (mCons (mCall tupF (mCons (mC (.int 0)) (mCons (mC (.int 1)) (mNil)))) (mCons (mCall tupF (mCons (mC (.int 1)) (mCons (mC (.int 0)) (mNil)))) (mNil)))) (mNil)))) (mNil))) (mVar 1)) (gSet 2))
    (sSeq (sAsg (mCall tupleD (mCons (mCall sortedD (mCons (mSl (mCall (callF f_l_mixed) (mCons (mVar 0) (mCons (mCall (callF f_l_contents) (mCons (mVar 2) (mNil))) (mNil)))) (oNo) (oYes (mBin addA (mVar 1) (mC (.int 2))))) (mNil))) (mNil))) (gSet 3))
    (sSeq (sFor (iRng1D (mCons (mC (.int 2)) (mNil))) (gSet 4) (sSeq (sAsg (mCall (callF f_l_flat) (mCons (mLc (iSeq (mVar 3)) (gSet 7) (tTrue) (mLc (iSeq (mVar 3)) (gSet 8) (tOf (mBin (eqA true) (mVar 8) (mVar 7))) (mCall tupF (mCons (mVar 7) (mCons (mVar 8) (mCons (mSl (mCall tupF (mCons (mVar 8) (mCons (mVar 7) (mNil)))) (oYes (mVar 4)) (oYes (mBin addA (mVar 4) (mC (.int 1))))) (mNil))))) [8] kFrz) [7] kFrz) (mNil))) (gSet 5))
    (sSeq (sAsg (mCall (callF f_sum_fault) (mCons (mCall tupF (mCons (mVar 2) (mCons (mVar 3) (mCons (mCall tupleD (mCons (mCall sortedD (mCons (mVar 5) (mNil))) (mNil))) (mNil))))) (mNil))) (gSet 6))
    (sIf (tNotD (tTru (mCall (callF f_l_alike) (mCons (mVar 6) (mCons (mCall tupF (mCons (mBin idxD (mCall lstF (mCons (mC (.str "from")) (mCons (mC (.str "to")) (mNil)))) (mVar 4)) (mCons (mBin idxD (mVar 3) (mC (.int 0))) (mCons (mBin addA (mVar 1) (mC (.int 1))) (mCons (mVar 1) (mNil)))))) (mNil)))))) (sRet (mC (.bool false))) (sNil)))))
    (sRet (mC (.bool true)))))
def f_l_are_barred : FS := runF 9 b_l_are_barred
theorem ok_l_are_barred {P : Program} {w : World} {K : PySem.W.Frag} {mg : Str → Option Value} {base : Heap} {fa : Addr} {fd : FuncData} (F : Fun K "_law_are_barred" "_law_are_barred" s_l_are_barred fa fd) (T : Txt mg) (c_l_mixed : Cal P w K mg base "_law_mixed" 2 ["_law_bag_here", "_law_things"] f_l_mixed) (c_l_contents : Cal P w K mg base "_law_contents" 2 ["_law_bench"] f_l_contents) (c_l_flat : Cal P w K mg base "_law_flat" 1 ["_law_rows"] f_l_flat) (c_sum_fault : Cal P w K mg base "sum_fault" 2 ["task"] f_sum_fault) (c_l_alike : Cal P w K mg base "_law_alike" 1 ["_law_found", "_law_due"] f_l_alike) : FnG P w K mg base 3 fa fd ["_law_bag_here", "_law_places_here"] (spD K 2 f_l_are_barred) :=
  fnG (k := 2) (N := N_l_are_barred) (ps := ["_law_bag_here", "_law_places_here"]) (b := b_l_are_barred) F sc_l_are_barred fun cdv A outer s H E hr hg => dss_cons (ds_set (i := 2) sc_l_are_barred.nd rfl (Or.inl rfl) (de_bin op_mulD (de_tup (da_cons (de_tup (da_cons (de_int) (da_cons (de_tup (da_cons (de_tup (da_cons (de_int) (da_cons (de_int) (da_nil)))) (da_cons (de_tup (da_cons (de_int) (da_cons (de_int) (da_nil)))) (da_nil)))) (da_nil)))) (da_nil))) (de_var (pv 1))))
    (dss_cons (ds_set (i := 3) sc_l_are_barred.nd rfl (Or.inr rfl) (de_callTy call_tupleDD rfl T.n_tuple (by decide +kernel) (da_cons (de_callB (call_sortedDD hr) rfl T.n_sorted (by decide +kernel) (da_cons (de_sl (de_callC c_l_mixed hr hg (by decide) rfl (da_cons (de_var (pv 0)) (da_cons (de_callC c_l_contents hr hg (by decide) rfl (da_cons (de_var (pv 2)) (da_nil)) (ArgN.cons ArgN.nil) rfl) (da_nil))) (ArgN.cons (ArgN.cons ArgN.nil)) rfl) (do_no) (do_yes (de_bin op_addA (de_var (pv 1)) (de_int)))) (da_nil))) (da_nil))))
    (dss_cons (ds_for (vis := [4]) PassesOwn.never rfl (di_rng1 rfl T.n_range (da_cons (de_int) (da_nil))) (dg_name (i := 4) sc_l_are_barred.nd rfl (Or.inr rfl)) (dss_cons (ds_set (i := 5) sc_l_are_barred.nd rfl (Or.inl rfl) (de_callC c_l_flat hr hg (by decide) rfl (da_cons (de_lc (own := [("_law_one", 7)]) rfl sc_l_are_barred.nd (di_seq (de_var (pv 3))) (blkOk_by (own := [("_law_one", 7)]) (N := N_l_are_barred) (sc := defScope s_l_are_barred) (by decide +kernel)) (fun _ _ _ _ _ => dg_name (i := 7) sc_l_are_barred.nd rfl (Or.inr rfl)) (fun _ _ _ _ _ => dts_nil) (fun _ _ _ _ _ => de_lc (own := [("_law_other", 8)]) rfl sc_l_are_barred.nd (di_seq (de_var (pv 3))) (blkOk_by (own := [("_law_other", 8)]) (N := N_l_are_barred) (sc := { kind := .function, names := [(".0", .local), ("_law_one", .cell), ("_law_rests", .cell), ("_law_way", .cell)], isGenerator := false, isCoroutine := false }) (by decide +kernel)) (fun _ _ _ _ _ => dg_name (i := 8) sc_l_are_barred.nd rfl (Or.inl rfl)) (fun _ _ _ _ _ => dts_one (dt_cmp (op_neA hr.units) (de_var (pv 8)) (de_var (pv 7)))) (fun _ _ _ _ _ => de_tup (da_cons (de_var (pv 7)) (da_cons (de_var (pv 8)) (da_cons (de_sl (de_tup (da_cons (de_var (pv 8)) (da_cons (de_var (pv 7)) (da_nil)))) (do_yes (de_var (pv 4))) (do_yes (de_bin op_addA (de_var (pv 4)) (de_int)))) (da_nil))))))) (da_nil)) (ArgN.cons ArgN.nil) rfl))
    (dss_cons (ds_set (i := 6) sc_l_are_barred.nd rfl (Or.inl rfl) (de_callC c_sum_fault hr hg (by decide) rfl (da_cons (de_tup (da_cons (de_var (pv 2)) (da_cons (de_var (pv 3)) (da_cons (de_callTy call_tupleDD rfl T.n_tuple (by decide +kernel) (da_cons (de_callB (call_sortedDD hr) rfl T.n_sorted (by decide +kernel) (da_cons (de_var (pv 5)) (da_nil))) (da_nil))) (da_nil))))) (da_nil)) (ArgN.cons ArgN.nil) rfl))
    (dss_one (ds_if (dt_not (dt_tru (de_callC c_l_alike hr hg (by decide) rfl (da_cons (de_var (pv 6)) (da_cons (de_tup (da_cons (de_ix (de_lst (da_cons (de_str) (da_cons (de_str) (da_nil)))) (de_var (pv 4))) (da_cons (de_ix (de_var (pv 3)) (de_int)) (da_cons (de_bin op_addA (de_var (pv 1)) (de_int)) (da_cons (de_var (pv 1)) (da_nil)))))) (da_nil))) (ArgN.cons (ArgN.cons ArgN.nil)) rfl))) (dss_one (ds_ret (de_bl))) (dss_nil))))))
    (dss_one (ds_ret (de_bl)))))

/-! ### law -/
abbrev s_law : Stmt := top 30
abbrev N_law : List Str := ["_law_script", "_law_bag_here", "_law_turn", "_law_places_here", "_law_most_here", "_law_h", "_law_some_here", "_law_many"]
theorem sc_law : FnScope N_law ["_law_script"] (defScope s_law) := ⟨rfl, rfl, rfl, by decide +kernel, rfl, by decide +kernel, by decide +kernel⟩
def b_law : MS := sSeq (sAsg (mCall (callF f_l_bag) (mCons (mVar 0) (mNil))) (gSet 1))
    (sSeq (sFor (iRng1D (mCons (mC (.int 6)) (mNil))) (gSet 2) (sSeq (sAsg (mCall (callF f_l_some) (mCons (mVar 1) (mCons (mCall lstF (mCons (mC (.int 1)) (mCons (mC (.int 2)) (mCons (mC (.int 3)) (mCons (mC (.int 4)) (mCons (mC (.int 5)) (mCons (mBin addA (mC (.int 1)) (mCall (callF f_l_take) (mCons (mVar 1) (mCons (mC (.int 20)) (mNil))))) (mCons (mBin addA (mC (.int 1)) (mCall (callF f_l_take) (mCons (mVar 1) (mCons (mC (.int 200)) (mNil))))) (mNil))))))))) (mNil)))) (gSet 3))
    (sSeq (sAsg (mCall (callF f_l_most) (mCons (mVar 3) (mNil))) (gSet 4))
    (sSeq (sIf (tNotD (tTru (mCall (callF f_l_alike) (mCons (mCall (callF f_most_rests) (mCons (mVar 3) (mNil))) (mCons (mVar 4) (mNil)))))) (sRet (mC (.bool false))) (sNil))
    (sSeq (sAsg (mBin fdivD (mCall intD (mCons (mBin subD (mVar 3) (mC (.int 1))) (mNil))) (mC (.int 2))) (gSet 5))
    (sSeq (sIf (tOf (mBin gtD (mCall (callF f_l_two) (mCons (mVar 5) (mNil))) (mCall (callF f_most_rests) (mCons (mVar 3) (mNil))))) (sRet (mC (.bool false))) (sNil))
    (sSeq (sAsg (mCall lstF (mCons (mBin addA (mC (.int 1)) (mCall (callF f_l_take) (mCons (mVar 1) (mCons (mC (.int 40)) (mNil))))) (mCons (mVar 4) (mCons (mBin addA (mVar 4) (mC (.int 1))) (mCons (mCall (callF f_l_two) (mCons (mVar 5) (mNil))) (mCons (mBin addA (mCall (callF f_l_two) (mCons (mVar 5) (mNil))) (mC (.int 1))) (mCons (mBin addA (mC (.int 1)) (mCall (callF f_l_take) (mCons (mVar 1) (mCons (mBin powD (mC (.int 10)) (mC (.int 30))) (mNil))))) (mCons (mBin powD (mC (.int 10)) (mC (.int 32))) (mNil))))))))) (gSet 6))
    (sSeq (sAsg (mCall (callF f_l_some) (mCons (mVar 1) (mCons (mVar 6) (mNil)))) (gSet 7))
    (sIf (tNotD (tTru (mCall (callF f_l_alike) (mCons (mCall (callF f_places_for) (mCons (mVar 7) (mNil))) (mCons (mCall (callF f_l_places) (mCons (mVar 7) (mNil))) (mNil)))))) (sRet (mC (.bool false))) (sNil))))))))))
    (sRet (mCall (callF f_l_are_barred) (mCons (mVar 1) (mCons (mBin addA (mC (.int 2)) (mCall (callF f_l_take) (mCons (mVar 1) (mCons (mC (.int 2)) (mNil))))) (mNil))))))
def f_law : FS := runF 8 b_law
theorem ok_law {P : Program} {w : World} {K : PySem.W.Frag} {mg : Str → Option Value} {base : Heap} {fa : Addr} {fd : FuncData} (F : Fun K "law" "law" s_law fa fd) (T : Txt mg) (c_l_bag : Cal P w K mg base "_law_bag" 1 ["_law_script"] f_l_bag) (c_l_some : Cal P w K mg base "_law_some" 2 ["_law_bag_here", "_law_things"] f_l_some) (c_l_take : Cal P w K mg base "_law_take" 1 ["_law_bag_here", "_law_upto"] f_l_take) (c_l_most : Cal P w K mg base "_law_most" 2 ["_law_places_here"] f_l_most) (c_l_alike : Cal P w K mg base "_law_alike" 1 ["_law_found", "_law_due"] f_l_alike) (c_most_rests : Cal P w K mg base "most_rests" 2 ["places"] f_most_rests) (c_l_two : Cal P w K mg base "_law_two" 1 ["_law_many"] f_l_two) (c_l_places : Cal P w K mg base "_law_places" 3 ["_law_many"] f_l_places) (c_places_for : Cal P w K mg base "places_for" 3 ["many"] f_places_for) (c_l_are_barred : Cal P w K mg base "_law_are_barred" 3 ["_law_bag_here", "_law_places_here"] f_l_are_barred) : FnG P w K mg base 4 fa fd ["_law_script"] (spD K 1 f_law) :=
  fnG (k := 3) (N := N_law) (ps := ["_law_script"]) (b := b_law) F sc_law fun cdv A outer s H E hr hg => dss_cons (ds_set (i := 1) sc_law.nd rfl (Or.inl rfl) (de_callC c_l_bag hr hg (by decide) rfl (da_cons (de_var (pv 0)) (da_nil)) (ArgN.cons ArgN.nil) rfl))
    (dss_cons (ds_for (vis := [2]) PassesOwn.never rfl (di_rng1 rfl T.n_range (da_cons (de_int) (da_nil))) (dg_name (i := 2) sc_law.nd rfl (Or.inl rfl)) (dss_cons (ds_set (i := 3) sc_law.nd rfl (Or.inl rfl) (de_callC c_l_some hr hg (by decide) rfl (da_cons (de_var (pv 1)) (da_cons (de_lst (da_cons (de_int) (da_cons (de_int) (da_cons (de_int) (da_cons (de_int) (da_cons (de_int) (da_cons (de_bin op_addA (de_int) (de_callC c_l_take hr hg (by decide) rfl (da_cons (de_var (pv 1)) (da_cons (de_int) (da_nil))) (ArgN.cons (ArgN.cons ArgN.nil)) rfl)) (da_cons (de_bin op_addA (de_int) (de_callC c_l_take hr hg (by decide) rfl (da_cons (de_var (pv 1)) (da_cons (de_int) (da_nil))) (ArgN.cons (ArgN.cons ArgN.nil)) rfl)) (da_nil))))))))) (da_nil))) (ArgN.cons (ArgN.cons ArgN.nil)) rfl))
    (dss_cons (ds_set (i := 4) sc_law.nd rfl (Or.inl rfl) (de_callC c_l_most hr hg (by decide) rfl (da_cons (de_var (pv 3)) (da_nil)) (ArgN.cons ArgN.nil) rfl))
    (dss_cons (ds_if (dt_not (dt_tru (de_callC c_l_alike hr hg (by decide) rfl (da_cons (de_callC c_most_rests hr hg (by decide) rfl (da_cons (de_var (pv 3)) (da_nil)) (ArgN.cons ArgN.nil) rfl) (da_cons (de_var (pv 4)) (da_nil))) (ArgN.cons (ArgN.cons ArgN.nil)) rfl))) (dss_one (ds_ret (de_bl))) (dss_nil))
    (dss_cons (ds_set (i := 5) sc_law.nd rfl (Or.inl rfl) (de_bin op_fdivD (de_callTy call_intDD rfl T.n_int (by decide +kernel) (da_cons (de_bin op_subD (de_var (pv 3)) (de_int)) (da_nil))) (de_int)))
    (dss_cons (ds_if (dt_cmp op_gtD (de_callC c_l_two hr hg (by decide) rfl (da_cons (de_var (pv 5)) (da_nil)) (ArgN.cons ArgN.nil) rfl) (de_callC c_most_rests hr hg (by decide) rfl (da_cons (de_var (pv 3)) (da_nil)) (ArgN.cons ArgN.nil) rfl)) (dss_one (ds_ret (de_bl))) (dss_nil))
    (dss_cons (ds_set (i := 6) sc_law.nd rfl (Or.inl rfl) (de_lst (da_cons (de_bin op_addA (de_int) (de_callC c_l_take hr hg (by decide) rfl (da_cons (de_var (pv 1)) (da_cons (de_int) (da_nil))) (ArgN.cons (ArgN.cons ArgN.nil)) rfl)) (da_cons (de_var (pv 4)) (da_cons (de_bin op_addA (de_var (pv 4)) (de_int)) (da_cons (de_callC c_l_two hr hg (by decide) rfl (da_cons (de_var (pv 5)) (da_nil)) (ArgN.cons ArgN.nil) rfl) (da_cons (de_bin op_addA (de_callC c_l_two hr hg (by decide) rfl (da_cons (de_var (pv 5)) (da_nil)) (ArgN.cons ArgN.nil) rfl) (de_int)) (da_cons (de_bin op_addA (de_int) (de_callC c_l_take hr hg (by decide) rfl (da_cons (de_var (pv 1)) (da_cons (de_bin op_powD (de_int) (de_int)) (da_nil))) (ArgN.cons (ArgN.cons ArgN.nil)) rfl)) (da_cons (de_bin op_powD (de_int) (de_int)) (da_nil))))))))))
    (dss_cons (ds_set (i := 7) sc_law.nd rfl (Or.inl rfl) (de_callC c_l_some hr hg (by decide) rfl (da_cons (de_var (pv 1)) (da_cons (de_var (pv 6)) (da_nil))) (ArgN.cons (ArgN.cons ArgN.nil)) rfl))
    (dss_one (ds_if (dt_not (dt_tru (de_callC c_l_alike hr hg (by decide) rfl (da_cons (de_callC c_places_for hr hg (by decide) rfl (da_cons (de_var (pv 7)) (da_nil)) (ArgN.cons ArgN.nil) rfl) (da_cons (de_callC c_l_places hr hg (by decide) rfl (da_cons (de_var (pv 7)) (da_nil)) (ArgN.cons ArgN.nil) rfl) (da_nil))) (ArgN.cons (ArgN.cons ArgN.nil)) rfl))) (dss_one (ds_ret (de_bl))) (dss_nil)))))))))))
    (dss_one (ds_ret (de_callC c_l_are_barred hr hg (by decide) rfl (da_cons (de_var (pv 1)) (da_cons (de_bin op_addA (de_int) (de_callC c_l_take hr hg (by decide) rfl (da_cons (de_var (pv 1)) (da_cons (de_int) (da_nil))) (ArgN.cons (ArgN.cons ArgN.nil)) rfl)) (da_nil))) (ArgN.cons (ArgN.cons ArgN.nil)) rfl))))

/-! ### the top -/
theorem all_mk {l : PySem.W.OpenLaw} {w : World} {K : PySem.W.Frag} {h : Heap} {mg : Str → Option Value} {fa : Addr} (X : K.In h) (G : h.Ns mainGlobals mg) (hfa : mg "law" = some (.ref fa))
    {g_steps_from g_steps_to g_doubled g_has_only g_l_bag g_l_take g_l_alike g_l_flat g_l_two g_l_is_let g_most_rests g_sum_fault g_l_some g_l_mixed g_l_contents g_l_most g_places_for g_l_places g_l_are_barred g_law : Addr} {od0 an0 od1 an1 od2 an2 od3 an3 od4 an4 od5 an5 od6 an6 od7 an7 od8 an8 od9 an9 od10 an10 od11 an11 od12 an12 od13 an13 od14 an14 od15 an15 od16 an16 od17 an17 od18 an18 od19 an19 : Option Addr} {sl0 sl1 sl2 sl3 sl4 sl5 sl6 sl7 sl8 sl9 sl10 sl11 sl12 sl13 sl14 sl15 sl16 sl17 sl18 sl19 : Array (Option Value)} {oc0 kV0 dc0 pm0 cd0 ct0 oc1 kV1 dc1 pm1 cd1 ct1 oc2 kV2 dc2 pm2 cd2 ct2 oc3 kV3 dc3 pm3 cd3 ct3 oc4 kV4 dc4 pm4 cd4 ct4 oc5 kV5 dc5 pm5 cd5 ct5 oc6 kV6 dc6 pm6 cd6 ct6 oc7 kV7 dc7 pm7 cd7 ct7 oc8 kV8 dc8 pm8 cd8 ct8 oc9 kV9 dc9 pm9 cd9 ct9 oc10 kV10 dc10 pm10 cd10 ct10 oc11 kV11 dc11 pm11 cd11 ct11 oc12 kV12 dc12 pm12 cd12 ct12 oc13 kV13 dc13 pm13 cd13 ct13 oc14 kV14 dc14 pm14 cd14 ct14 oc15 kV15 dc15 pm15 cd15 ct15 oc16 kV16 dc16 pm16 cd16 ct16 oc17 kV17 dc17 pm17 cd17 ct17 oc18 kV18 dc18 pm18 cd18 ct18 oc19 kV19 dc19 pm19 cd19 ct19 : Value}
    (a_steps_from : PySem.W.nsIn K mainGlobals "steps_from" = some (some (.ref g_steps_from))) (l_steps_from : K.lookup g_steps_from = some ⟨oc0, od0, .func (PySem.W.fnOf "steps_from" "steps_from" (defArgs s_steps_from) (defBody s_steps_from) (defScope s_steps_from) .none kV0 dc0 pm0 an0 cd0 ct0), sl0⟩) (k_steps_from : PySem.W.codeIn K cd0 "steps_from" = true) (p_steps_from : PySem.W.keepIn K (.ref g_steps_from) = true)
    (a_steps_to : PySem.W.nsIn K mainGlobals "steps_to" = some (some (.ref g_steps_to))) (l_steps_to : K.lookup g_steps_to = some ⟨oc1, od1, .func (PySem.W.fnOf "steps_to" "steps_to" (defArgs s_steps_to) (defBody s_steps_to) (defScope s_steps_to) .none kV1 dc1 pm1 an1 cd1 ct1), sl1⟩) (k_steps_to : PySem.W.codeIn K cd1 "steps_to" = true) (p_steps_to : PySem.W.keepIn K (.ref g_steps_to) = true)
    (a_doubled : PySem.W.nsIn K mainGlobals "doubled" = some (some (.ref g_doubled))) (l_doubled : K.lookup g_doubled = some ⟨oc2, od2, .func (PySem.W.fnOf "doubled" "doubled" (defArgs s_doubled) (defBody s_doubled) (defScope s_doubled) .none kV2 dc2 pm2 an2 cd2 ct2), sl2⟩) (k_doubled : PySem.W.codeIn K cd2 "doubled" = true) (p_doubled : PySem.W.keepIn K (.ref g_doubled) = true)
    (a_has_only : PySem.W.nsIn K mainGlobals "has_only" = some (some (.ref g_has_only))) (l_has_only : K.lookup g_has_only = some ⟨oc3, od3, .func (PySem.W.fnOf "has_only" "has_only" (defArgs s_has_only) (defBody s_has_only) (defScope s_has_only) .none kV3 dc3 pm3 an3 cd3 ct3), sl3⟩) (k_has_only : PySem.W.codeIn K cd3 "has_only" = true) (p_has_only : PySem.W.keepIn K (.ref g_has_only) = true)
    (a_l_bag : PySem.W.nsIn K mainGlobals "_law_bag" = some (some (.ref g_l_bag))) (l_l_bag : K.lookup g_l_bag = some ⟨oc4, od4, .func (PySem.W.fnOf "_law_bag" "_law_bag" (defArgs s_l_bag) (defBody s_l_bag) (defScope s_l_bag) .none kV4 dc4 pm4 an4 cd4 ct4), sl4⟩) (k_l_bag : PySem.W.codeIn K cd4 "_law_bag" = true) (p_l_bag : PySem.W.keepIn K (.ref g_l_bag) = true)
    (a_l_take : PySem.W.nsIn K mainGlobals "_law_take" = some (some (.ref g_l_take))) (l_l_take : K.lookup g_l_take = some ⟨oc5, od5, .func (PySem.W.fnOf "_law_take" "_law_take" (defArgs s_l_take) (defBody s_l_take) (defScope s_l_take) .none kV5 dc5 pm5 an5 cd5 ct5), sl5⟩) (k_l_take : PySem.W.codeIn K cd5 "_law_take" = true) (p_l_take : PySem.W.keepIn K (.ref g_l_take) = true)
    (a_l_alike : PySem.W.nsIn K mainGlobals "_law_alike" = some (some (.ref g_l_alike))) (l_l_alike : K.lookup g_l_alike = some ⟨oc6, od6, .func (PySem.W.fnOf "_law_alike" "_law_alike" (defArgs s_l_alike) (defBody s_l_alike) (defScope s_l_alike) .none kV6 dc6 pm6 an6 cd6 ct6), sl6⟩) (k_l_alike : PySem.W.codeIn K cd6 "_law_alike" = true) (p_l_alike : PySem.W.keepIn K (.ref g_l_alike) = true)
    (a_l_flat : PySem.W.nsIn K mainGlobals "_law_flat" = some (some (.ref g_l_flat))) (l_l_flat : K.lookup g_l_flat = some ⟨oc7, od7, .func (PySem.W.fnOf "_law_flat" "_law_flat" (defArgs s_l_flat) (defBody s_l_flat) (defScope s_l_flat) .none kV7 dc7 pm7 an7 cd7 ct7), sl7⟩) (k_l_flat : PySem.W.codeIn K cd7 "_law_flat" = true) (p_l_flat : PySem.W.keepIn K (.ref g_l_flat) = true)
    (a_l_two : PySem.W.nsIn K mainGlobals "_law_two" = some (some (.ref g_l_two))) (l_l_two : K.lookup g_l_two = some ⟨oc8, od8, .func (PySem.W.fnOf "_law_two" "_law_two" (defArgs s_l_two) (defBody s_l_two) (defScope s_l_two) .none kV8 dc8 pm8 an8 cd8 ct8), sl8⟩) (k_l_two : PySem.W.codeIn K cd8 "_law_two" = true) (p_l_two : PySem.W.keepIn K (.ref g_l_two) = true)
    (a_l_is_let : PySem.W.nsIn K mainGlobals "_law_is_let" = some (some (.ref g_l_is_let))) (l_l_is_let : K.lookup g_l_is_let = some ⟨oc9, od9, .func (PySem.W.fnOf "_law_is_let" "_law_is_let" (defArgs s_l_is_let) (defBody s_l_is_let) (defScope s_l_is_let) .none kV9 dc9 pm9 an9 cd9 ct9), sl9⟩) (k_l_is_let : PySem.W.codeIn K cd9 "_law_is_let" = true) (p_l_is_let : PySem.W.keepIn K (.ref g_l_is_let) = true)
    (a_most_rests : PySem.W.nsIn K mainGlobals "most_rests" = some (some (.ref g_most_rests))) (l_most_rests : K.lookup g_most_rests = some ⟨oc10, od10, .func (PySem.W.fnOf "most_rests" "most_rests" (defArgs s_most_rests) (defBody s_most_rests) (defScope s_most_rests) .none kV10 dc10 pm10 an10 cd10 ct10), sl10⟩) (k_most_rests : PySem.W.codeIn K cd10 "most_rests" = true) (p_most_rests : PySem.W.keepIn K (.ref g_most_rests) = true)
    (a_sum_fault : PySem.W.nsIn K mainGlobals "sum_fault" = some (some (.ref g_sum_fault))) (l_sum_fault : K.lookup g_sum_fault = some ⟨oc11, od11, .func (PySem.W.fnOf "sum_fault" "sum_fault" (defArgs s_sum_fault) (defBody s_sum_fault) (defScope s_sum_fault) .none kV11 dc11 pm11 an11 cd11 ct11), sl11⟩) (k_sum_fault : PySem.W.codeIn K cd11 "sum_fault" = true) (p_sum_fault : PySem.W.keepIn K (.ref g_sum_fault) = true)
    (a_l_some : PySem.W.nsIn K mainGlobals "_law_some" = some (some (.ref g_l_some))) (l_l_some : K.lookup g_l_some = some ⟨oc12, od12, .func (PySem.W.fnOf "_law_some" "_law_some" (defArgs s_l_some) (defBody s_l_some) (defScope s_l_some) .none kV12 dc12 pm12 an12 cd12 ct12), sl12⟩) (k_l_some : PySem.W.codeIn K cd12 "_law_some" = true) (p_l_some : PySem.W.keepIn K (.ref g_l_some) = true)
    (a_l_mixed : PySem.W.nsIn K mainGlobals "_law_mixed" = some (some (.ref g_l_mixed))) (l_l_mixed : K.lookup g_l_mixed = some ⟨oc13, od13, .func (PySem.W.fnOf "_law_mixed" "_law_mixed" (defArgs s_l_mixed) (defBody s_l_mixed) (defScope s_l_mixed) .none kV13 dc13 pm13 an13 cd13 ct13), sl13⟩) (k_l_mixed : PySem.W.codeIn K cd13 "_law_mixed" = true) (p_l_mixed : PySem.W.keepIn K (.ref g_l_mixed) = true)
    (a_l_contents : PySem.W.nsIn K mainGlobals "_law_contents" = some (some (.ref g_l_contents))) (l_l_contents : K.lookup g_l_contents = some ⟨oc14, od14, .func (PySem.W.fnOf "_law_contents" "_law_contents" (defArgs s_l_contents) (defBody s_l_contents) (defScope s_l_contents) .none kV14 dc14 pm14 an14 cd14 ct14), sl14⟩) (k_l_contents : PySem.W.codeIn K cd14 "_law_contents" = true) (p_l_contents : PySem.W.keepIn K (.ref g_l_contents) = true)
    (a_l_most : PySem.W.nsIn K mainGlobals "_law_most" = some (some (.ref g_l_most))) (l_l_most : K.lookup g_l_most = some ⟨oc15, od15, .func (PySem.W.fnOf "_law_most" "_law_most" (defArgs s_l_most) (defBody s_l_most) (defScope s_l_most) .none kV15 dc15 pm15 an15 cd15 ct15), sl15⟩) (k_l_most : PySem.W.codeIn K cd15 "_law_most" = true) (p_l_most : PySem.W.keepIn K (.ref g_l_most) = true)
    (a_places_for : PySem.W.nsIn K mainGlobals "places_for" = some (some (.ref g_places_for))) (l_places_for : K.lookup g_places_for = some ⟨oc16, od16, .func (PySem.W.fnOf "places_for" "places_for" (defArgs s_places_for) (defBody s_places_for) (defScope s_places_for) .none kV16 dc16 pm16 an16 cd16 ct16), sl16⟩) (k_places_for : PySem.W.codeIn K cd16 "places_for" = true) (p_places_for : PySem.W.keepIn K (.ref g_places_for) = true)
    (a_l_places : PySem.W.nsIn K mainGlobals "_law_places" = some (some (.ref g_l_places))) (l_l_places : K.lookup g_l_places = some ⟨oc17, od17, .func (PySem.W.fnOf "_law_places" "_law_places" (defArgs s_l_places) (defBody s_l_places) (defScope s_l_places) .none kV17 dc17 pm17 an17 cd17 ct17), sl17⟩) (k_l_places : PySem.W.codeIn K cd17 "_law_places" = true) (p_l_places : PySem.W.keepIn K (.ref g_l_places) = true)
    (a_l_are_barred : PySem.W.nsIn K mainGlobals "_law_are_barred" = some (some (.ref g_l_are_barred))) (l_l_are_barred : K.lookup g_l_are_barred = some ⟨oc18, od18, .func (PySem.W.fnOf "_law_are_barred" "_law_are_barred" (defArgs s_l_are_barred) (defBody s_l_are_barred) (defScope s_l_are_barred) .none kV18 dc18 pm18 an18 cd18 ct18), sl18⟩) (k_l_are_barred : PySem.W.codeIn K cd18 "_law_are_barred" = true) (p_l_are_barred : PySem.W.keepIn K (.ref g_l_are_barred) = true)
    (a_law : PySem.W.nsIn K mainGlobals "law" = some (some (.ref g_law))) (l_law : K.lookup g_law = some ⟨oc19, od19, .func (PySem.W.fnOf "law" "law" (defArgs s_law) (defBody s_law) (defScope s_law) .none kV19 dc19 pm19 an19 cd19 ct19), sl19⟩) (k_law : PySem.W.codeIn K cd19 "law" = true) (p_law : PySem.W.keepIn K (.ref g_law) = true)
    (z_abs : PySem.W.nsIn K mainGlobals "abs" = some none)
    (z_all : PySem.W.nsIn K mainGlobals "all" = some none)
    (z_enumerate : PySem.W.nsIn K mainGlobals "enumerate" = some none)
    (z_int : PySem.W.nsIn K mainGlobals "int" = some none)
    (z_len : PySem.W.nsIn K mainGlobals "len" = some none)
    (z_min : PySem.W.nsIn K mainGlobals "min" = some none)
    (z_range : PySem.W.nsIn K mainGlobals "range" = some none)
    (z_repr : PySem.W.nsIn K mainGlobals "repr" = some none)
    (z_sorted : PySem.W.nsIn K mainGlobals "sorted" = some none)
    (z_tuple : PySem.W.nsIn K mainGlobals "tuple" = some none)
    : ∃ fd : FuncData, (∀ (s : Shared) (v : Value), BindsTo s fd ⟨[v], []⟩ [("_law_script", v)]) ∧ ∀ base : Heap, K.In base → base.Ns mainGlobals mg → FnG l.prog w K mg base 4 fa fd ["_law_script"] (spD K 1 f_law) := by
  have e := hfa.symm.trans (PySem.W.mg_of X G a_law)
  cases e
  have T : Txt mg := ⟨PySem.W.mg_none_of X G z_abs, PySem.W.mg_none_of X G z_all, PySem.W.mg_none_of X G z_enumerate, PySem.W.mg_none_of X G z_int, PySem.W.mg_none_of X G z_len, PySem.W.mg_none_of X G z_min, PySem.W.mg_none_of X G z_range, PySem.W.mg_none_of X G z_repr, PySem.W.mg_none_of X G z_sorted, PySem.W.mg_none_of X G z_tuple⟩
  refine ⟨PySem.W.fnOf "law" "law" (defArgs s_law) (defBody s_law) (defScope s_law) .none kV19 dc19 pm19 an19 cd19 ct19, fun s v => .of_eq rfl, fun base _ _ => ?_⟩
  have c_steps_from : Cal l.prog w K mg base "steps_from" 1 ["bench", "content"] f_steps_from := cal_mk (fun_mk (st := s_steps_from) l_steps_from k_steps_from p_steps_from) (PySem.W.mg_of X G a_steps_from) (fun _ _ _ _ _ _ us hl => match us, hl with | [_, _], _ => rfl) (ok_steps_from (fun_mk (st := s_steps_from) l_steps_from k_steps_from p_steps_from) T )
  have c_steps_to : Cal l.prog w K mg base "steps_to" 1 ["bench", "content"] f_steps_to := cal_mk (fun_mk (st := s_steps_to) l_steps_to k_steps_to p_steps_to) (PySem.W.mg_of X G a_steps_to) (fun _ _ _ _ _ _ us hl => match us, hl with | [_, _], _ => rfl) (ok_steps_to (fun_mk (st := s_steps_to) l_steps_to k_steps_to p_steps_to) T )
  have c_doubled : Cal l.prog w K mg base "doubled" 1 ["many"] f_doubled := cal_mk (fun_mk (st := s_doubled) l_doubled k_doubled p_doubled) (PySem.W.mg_of X G a_doubled) (fun _ _ _ _ _ _ us hl => match us, hl with | [_], _ => rfl) (ok_doubled (fun_mk (st := s_doubled) l_doubled k_doubled p_doubled) T )
  have c_has_only : Cal l.prog w K mg base "has_only" 1 ["ends", "rest"] f_has_only := cal_mk (fun_mk (st := s_has_only) l_has_only k_has_only p_has_only) (PySem.W.mg_of X G a_has_only) (fun _ _ _ _ _ _ us hl => match us, hl with | [_, _], _ => rfl) (ok_has_only (fun_mk (st := s_has_only) l_has_only k_has_only p_has_only) T )
  have c_l_bag : Cal l.prog w K mg base "_law_bag" 1 ["_law_script"] f_l_bag := cal_mk (fun_mk (st := s_l_bag) l_l_bag k_l_bag p_l_bag) (PySem.W.mg_of X G a_l_bag) (fun _ _ _ _ _ _ us hl => match us, hl with | [_], _ => rfl) (ok_l_bag (fun_mk (st := s_l_bag) l_l_bag k_l_bag p_l_bag) T )
  have c_l_take : Cal l.prog w K mg base "_law_take" 1 ["_law_bag_here", "_law_upto"] f_l_take := cal_mk (fun_mk (st := s_l_take) l_l_take k_l_take p_l_take) (PySem.W.mg_of X G a_l_take) (fun _ _ _ _ _ _ us hl => match us, hl with | [_, _], _ => rfl) (ok_l_take (fun_mk (st := s_l_take) l_l_take k_l_take p_l_take) T )
  have c_l_alike : Cal l.prog w K mg base "_law_alike" 1 ["_law_found", "_law_due"] f_l_alike := cal_mk (fun_mk (st := s_l_alike) l_l_alike k_l_alike p_l_alike) (PySem.W.mg_of X G a_l_alike) (fun _ _ _ _ _ _ us hl => match us, hl with | [_, _], _ => rfl) (ok_l_alike (fun_mk (st := s_l_alike) l_l_alike k_l_alike p_l_alike) T )
  have c_l_flat : Cal l.prog w K mg base "_law_flat" 1 ["_law_rows"] f_l_flat := cal_mk (fun_mk (st := s_l_flat) l_l_flat k_l_flat p_l_flat) (PySem.W.mg_of X G a_l_flat) (fun _ _ _ _ _ _ us hl => match us, hl with | [_], _ => rfl) (ok_l_flat (fun_mk (st := s_l_flat) l_l_flat k_l_flat p_l_flat) T )
  have c_l_two : Cal l.prog w K mg base "_law_two" 1 ["_law_many"] f_l_two := cal_mk (fun_mk (st := s_l_two) l_l_two k_l_two p_l_two) (PySem.W.mg_of X G a_l_two) (fun _ _ _ _ _ _ us hl => match us, hl with | [_], _ => rfl) (ok_l_two (fun_mk (st := s_l_two) l_l_two k_l_two p_l_two) T )
  have c_l_is_let : Cal l.prog w K mg base "_law_is_let" 1 ["_law_places_here", "_law_many", "_law_contents_here"] f_l_is_let := cal_mk (fun_mk (st := s_l_is_let) l_l_is_let k_l_is_let p_l_is_let) (PySem.W.mg_of X G a_l_is_let) (fun _ _ _ _ _ _ us hl => match us, hl with | [_, _, _], _ => rfl) (ok_l_is_let (fun_mk (st := s_l_is_let) l_l_is_let k_l_is_let p_l_is_let) T )
  have c_most_rests : Cal l.prog w K mg base "most_rests" 2 ["places"] f_most_rests := cal_mk (fun_mk (st := s_most_rests) l_most_rests k_most_rests p_most_rests) (PySem.W.mg_of X G a_most_rests) (fun _ _ _ _ _ _ us hl => match us, hl with | [_], _ => rfl) (ok_most_rests (fun_mk (st := s_most_rests) l_most_rests k_most_rests p_most_rests) T c_doubled)
  have c_sum_fault : Cal l.prog w K mg base "sum_fault" 2 ["task"] f_sum_fault := cal_mk (fun_mk (st := s_sum_fault) l_sum_fault k_sum_fault p_sum_fault) (PySem.W.mg_of X G a_sum_fault) (fun _ _ _ _ _ _ us hl => match us, hl with | [_], _ => rfl) (ok_sum_fault (fun_mk (st := s_sum_fault) l_sum_fault k_sum_fault p_sum_fault) T c_has_only c_steps_from c_steps_to)
  have c_l_some : Cal l.prog w K mg base "_law_some" 2 ["_law_bag_here", "_law_things"] f_l_some := cal_mk (fun_mk (st := s_l_some) l_l_some k_l_some p_l_some) (PySem.W.mg_of X G a_l_some) (fun _ _ _ _ _ _ us hl => match us, hl with | [_, _], _ => rfl) (ok_l_some (fun_mk (st := s_l_some) l_l_some k_l_some p_l_some) T c_l_take)
  have c_l_mixed : Cal l.prog w K mg base "_law_mixed" 2 ["_law_bag_here", "_law_things"] f_l_mixed := cal_mk (fun_mk (st := s_l_mixed) l_l_mixed k_l_mixed p_l_mixed) (PySem.W.mg_of X G a_l_mixed) (fun _ _ _ _ _ _ us hl => match us, hl with | [_, _], _ => rfl) (ok_l_mixed (fun_mk (st := s_l_mixed) l_l_mixed k_l_mixed p_l_mixed) T c_l_take)
  have c_l_contents : Cal l.prog w K mg base "_law_contents" 2 ["_law_bench"] f_l_contents := cal_mk (fun_mk (st := s_l_contents) l_l_contents k_l_contents p_l_contents) (PySem.W.mg_of X G a_l_contents) (fun _ _ _ _ _ _ us hl => match us, hl with | [_], _ => rfl) (ok_l_contents (fun_mk (st := s_l_contents) l_l_contents k_l_contents p_l_contents) T c_l_flat)
  have c_l_most : Cal l.prog w K mg base "_law_most" 2 ["_law_places_here"] f_l_most := cal_mk (fun_mk (st := s_l_most) l_l_most k_l_most p_l_most) (PySem.W.mg_of X G a_l_most) (fun _ _ _ _ _ _ us hl => match us, hl with | [_], _ => rfl) (ok_l_most (fun_mk (st := s_l_most) l_l_most k_l_most p_l_most) T c_l_two c_l_is_let)
  have c_places_for : Cal l.prog w K mg base "places_for" 3 ["many"] f_places_for := cal_mk (fun_mk (st := s_places_for) l_places_for k_places_for p_places_for) (PySem.W.mg_of X G a_places_for) (fun _ _ _ _ _ _ us hl => match us, hl with | [_], _ => rfl) (ok_places_for (fun_mk (st := s_places_for) l_places_for k_places_for p_places_for) T c_most_rests c_doubled)
  have c_l_places : Cal l.prog w K mg base "_law_places" 3 ["_law_many"] f_l_places := cal_mk (fun_mk (st := s_l_places) l_l_places k_l_places p_l_places) (PySem.W.mg_of X G a_l_places) (fun _ _ _ _ _ _ us hl => match us, hl with | [_], _ => rfl) (ok_l_places (fun_mk (st := s_l_places) l_l_places k_l_places p_l_places) T c_l_most c_l_two)
  have c_l_are_barred : Cal l.prog w K mg base "_law_are_barred" 3 ["_law_bag_here", "_law_places_here"] f_l_are_barred := cal_mk (fun_mk (st := s_l_are_barred) l_l_are_barred k_l_are_barred p_l_are_barred) (PySem.W.mg_of X G a_l_are_barred) (fun _ _ _ _ _ _ us hl => match us, hl with | [_, _], _ => rfl) (ok_l_are_barred (fun_mk (st := s_l_are_barred) l_l_are_barred k_l_are_barred p_l_are_barred) T c_l_mixed c_l_contents c_l_flat c_sum_fault c_l_alike)
  exact ok_law (fun_mk (st := s_law) l_law k_law p_law) T c_l_bag c_l_some c_l_take c_l_most c_l_alike c_most_rests c_l_two c_l_places c_places_for c_l_are_barred
end K75
end
noncomputable section
namespace K75
open PySem PySem.Spec PyProof.Rows L2 DL
theorem lg_le {i : Int} {k : Nat} (h : i.natAbs < 2 ^ k) : i.natAbs.log2 ≤ k := by
  by_cases h0 : i.natAbs = 0
  · rw [h0]; simp
  · exact Nat.le_of_lt ((Nat.log2_lt h0).mpr h)
theorem two_lg (n : Nat) : ((2 : Int) ^ n).natAbs.log2 = n := by
  rw [Int.natAbs_pow]; simp [Nat.log2_two_pow]
theorem two_log0 (i : Nat) (h : i ≤ 1000) : ((2 : Int) ^ i).natAbs.log2 + (2 : Int).natAbs.log2 < 1000000 := by
  rw [two_lg]; have : (2 : Int).natAbs.log2 = 1 := by decide
  omega
theorem em1 (i : Nat) (h : i ≤ 1000) : ∀ S, mulD (.d (.int (2 ^ i))) (.d (.int 2)) S = some (.d (.int (2 ^ i * 2)), S) := fun S => ev_mul (two_log0 i h)
theorem dbl1 (n i : Nat) (x : Option W) (em : ∀ S, mulD (.d (.int (2 ^ i))) (.d (.int 2)) S = some (.d (.int (2 ^ i * 2)), S))  : ∃ ρ2 S2, ((gSet 2 (.d (.int (0 + i))) [some (.d (.int n)), some (.d (.int (2 ^ i))), x] []).bind fun p => (sAsg (mBin mulD (mVar 1) (mC (.int 2))) (gSet 1)) p.1 p.2) = some (.nx, ρ2, S2) ∧ ∃ x, ρ2 = [some (.d (.int n)), some (.d (.int (2 ^ (i+1)))), x] ∧ S2 = [] := by 
  simp [DL.sSeq, DL.sNil, DL.sPass, DL.sBreak, DL.sCont, DL.sExpr, DL.sRet, DL.sRetN, DL.sIf, DL.sAsg, DL.sPar, DL.sAug, DL.sAugS, DL.gSet, DL.gTupD, DL.gsNil, DL.gsCons, DL.gSubD, DL.sFor, DL.iRng1D_eq, DL.mVar, DL.mC, DL.mNil, DL.mCons, DL.mCall, DL.mBin, DL.mNeg, DL.mMt, DL.mSl, DL.oNo, DL.oYes, DL.tOf, DL.tNotD, DL.tAndD, DL.tOrD, DL.tTru, DL.truD, DL.tTrue, DL.vAnd, DL.vOr, DL.vNot, DL.vIf, DL.vChain, DL.tupF, DL.lstF, DL.allD, DL.ev_add, DL.ev_sub, DL.ev_iadd, DL.ev_isub, DL.ev_lt, DL.ev_gt, DL.ev_le, DL.ev_ge, DL.ev_eq, DL.ev_ne, DL.ev_min, DL.ev_max, DL.ev_int, DL.ev_abs, DL.sz1, DL.sz2, DL.sz3, DL.sz4, DL.sz5, DL.sz6, DL.sz7, DL.sz8, DL.szp, em, Int.pow_succ]
theorem dbl2 (n : Nat) (h : n ≤ 1000) : ∃ ρ' S', forL (gSet 2) (sAsg (mBin mulD (mVar 1) (mC (.int 2))) (gSet 1)) (rngD 0 n) [some (.d (.int n)), some (.d (.int 1)), none] [] = some (.nx, ρ', S') ∧ ∃ x, ρ' = [some (.d (.int n)), some (.d (.int (2 ^ n))), x] ∧ S' = [] := by
  refine forL_rng (J := fun i ρ S => ∃ x, ρ = [some (.d (.int n)), some (.d (.int (2 ^ i))), x] ∧ S = []) (fun i ρ S hi ⟨x, e1, e2⟩ => ?_) ⟨none, by simp, rfl⟩
  subst e1 e2
  exact dbl1 n i x (em1 i (by omega))
theorem dbl3 (n : Nat) (h : n ≤ 1000) (S : Sto) : rng1D [.d (.int n)] S = some (rngD 0 n, S) := rng1_ok (Nat.le_trans h (by decide))
theorem doubled_eq (n : Nat) (h : n ≤ 1000) (S : Sto) : callF f_doubled [.d (.int n)] S = some (.d (.int (2 ^ n)), S) := by
  refine callF_pure rfl (runF_ret0 ?_)
  obtain ⟨ρ', S', e, x, rfl, rfl⟩ := dbl2 n h
  simp [b_doubled, DL.sSeq, DL.sNil, DL.sPass, DL.sBreak, DL.sCont, DL.sExpr, DL.sRet, DL.sRetN, DL.sIf, DL.sAsg, DL.sPar, DL.sAug, DL.sAugS, DL.gSet, DL.gTupD, DL.gsNil, DL.gsCons, DL.gSubD, DL.sFor, DL.iRng1D_eq, DL.mVar, DL.mC, DL.mNil, DL.mCons, DL.mCall, DL.mBin, DL.mNeg, DL.mMt, DL.mSl, DL.oNo, DL.oYes, DL.tOf, DL.tNotD, DL.tAndD, DL.tOrD, DL.tTru, DL.truD, DL.tTrue, DL.vAnd, DL.vOr, DL.vNot, DL.vIf, DL.vChain, DL.tupF, DL.lstF, DL.allD, DL.ev_add, DL.ev_sub, DL.ev_iadd, DL.ev_isub, DL.ev_lt, DL.ev_gt, DL.ev_le, DL.ev_ge, DL.ev_eq, DL.ev_ne, DL.ev_min, DL.ev_max, DL.ev_int, DL.ev_abs, DL.sz1, DL.sz2, DL.sz3, DL.sz4, DL.sz5, DL.sz6, DL.sz7, DL.sz8, DL.szp, dbl3 n h, e]
theorem l_two_eq (n : Nat) (h : n ≤ 1000) (S : Sto) : callF f_l_two [.d (.int n)] S = some (.d (.int (2 ^ n)), S) := by
  refine callF_pure rfl (runF_ret0 ?_)
  obtain ⟨ρ', S', e, x, rfl, rfl⟩ := dbl2 n h
  simp [b_l_two, DL.sSeq, DL.sNil, DL.sPass, DL.sBreak, DL.sCont, DL.sExpr, DL.sRet, DL.sRetN, DL.sIf, DL.sAsg, DL.sPar, DL.sAug, DL.sAugS, DL.gSet, DL.gTupD, DL.gsNil, DL.gsCons, DL.gSubD, DL.sFor, DL.iRng1D_eq, DL.mVar, DL.mC, DL.mNil, DL.mCons, DL.mCall, DL.mBin, DL.mNeg, DL.mMt, DL.mSl, DL.oNo, DL.oYes, DL.tOf, DL.tNotD, DL.tAndD, DL.tOrD, DL.tTru, DL.truD, DL.tTrue, DL.vAnd, DL.vOr, DL.vNot, DL.vIf, DL.vChain, DL.tupF, DL.lstF, DL.allD, DL.ev_add, DL.ev_sub, DL.ev_iadd, DL.ev_isub, DL.ev_lt, DL.ev_gt, DL.ev_le, DL.ev_ge, DL.ev_eq, DL.ev_ne, DL.ev_min, DL.ev_max, DL.ev_int, DL.ev_abs, DL.sz1, DL.sz2, DL.sz3, DL.sz4, DL.sz5, DL.sz6, DL.sz7, DL.sz8, DL.szp, dbl3 n h, e]

/-- the greatest that the rule lets be -/
def Let (p m : Int) : Prop := m * (m - 3) ≤ (p - 2) * 2 ^ p.toNat
instance (p m : Int) : Decidable (Let p m) := by unfold Let; infer_instance
structure IsM (p : Nat) (m : Int) : Prop where
  lo : 1 ≤ m
  hi : m ≤ 2 ^ p
  ok : Let p m
  no : ∀ m', m < m' → m' ≤ 2 ^ p → ¬ Let p m'
theorem IsM.uniq {p : Nat} {m n : Int} (h : IsM p m) (k : IsM p n) : m = n := by
  rcases Int.lt_trichotomy m n with z | z | z
  · exact absurd k.ok (h.no n z k.hi)
  · exact z
  · exact absurd h.ok (k.no m z h.hi)
theorem let_mono {p m n : Int} (h1 : 1 ≤ m) (h : m ≤ n) (k : Let p n) : Let p m := by
  unfold Let at *
  refine Int.le_trans ?_ k
  by_cases e : m = n
  · rw [e]; exact Int.le_refl _
  have h2 : n * (n - 3) - m * (m - 3) = (n - m) * (n + m - 3) := by grind
  have h3 : 0 ≤ (n - m) * (n + m - 3) := Int.mul_nonneg (by omega) (by omega)
  omega
theorem abs_le {i : Int} {k : Nat} (h0 : -(2 ^ k) < i) (h : i < 2 ^ k) : i.natAbs < 2 ^ k := by
  have : ((2 ^ k : Nat) : Int) = 2 ^ k := by push_cast; rfl
  omega
theorem mul_lg {i j : Int} {a b : Nat} (h0 : -(2 ^ a) < i) (h1 : i < 2 ^ a) (h2 : -(2 ^ b) < j) (h3 : j < 2 ^ b) (h : a + b < 1000000) : i.natAbs.log2 + j.natAbs.log2 < 1000000 := by
  have := lg_le (abs_le h0 h1); have := lg_le (abs_le h2 h3); omega

theorem pw_pos (n : Nat) : (0 : Int) < 2 ^ n := Int.pow_pos (by decide)
theorem pw_mono {a b : Nat} (h : a ≤ b) : (2 : Int) ^ a ≤ 2 ^ b := by
  have := Nat.pow_le_pow_right (n := 2) (by decide) h
  exact_mod_cast this
theorem pw_lt {a b : Nat} (h : a < b) : (2 : Int) ^ a < 2 ^ b := by
  have := Nat.pow_lt_pow_right (a := 2) (by decide) h
  exact_mod_cast this
/-- the products of the rule are within reach -/
theorem sq_lg {p : Nat} {m : Int} (hp : p ≤ 900) (h1 : 1 ≤ m) (h2 : m ≤ 2 ^ (p + 2)) : m.natAbs.log2 + (m - 3).natAbs.log2 < 1000000 := by
  have := pw_pos (p + 3); have := pw_lt (a := p + 2) (b := p + 3) (by omega)
  have h8 := pw_mono (a := 3) (b := p + 3) (by omega)
  exact mul_lg (a := p + 3) (b := p + 3) (by omega) (by omega) (by omega) (by omega) (by omega)
theorem bd_lg {p : Nat} (hp : p ≤ 900) : ((p : Int) - 2).natAbs.log2 + ((2 : Int) ^ p).natAbs.log2 < 1000000 := by
  rw [two_lg]
  have : ((p : Int) - 2).natAbs.log2 ≤ 10 := lg_le (by omega)
  omega
theorem two_log (m : Int) (p : Nat) (hp : p ≤ 900) (h1 : 1 ≤ m) (h2 : m ≤ 2 ^ p) : m.natAbs.log2 + (2 : Int).natAbs.log2 < 1000000 := by
  have : (2 : Int).natAbs.log2 = 1 := by decide
  have : m.natAbs.log2 ≤ p + 1 := lg_le (abs_le (by have := pw_pos (p + 1); omega) (by have := pw_lt (a := p) (b := p + 1) (by omega); omega))
  omega

/-! ### the product's greatest -/
theorem mulB (p : Nat) (hp : p ≤ 900) (S : Sto) : mulD (.d (.int ((p : Int) - 2))) (.d (.int (2 ^ p))) S = some (.d (.int (((p : Int) - 2) * 2 ^ p)), S) := ev_mul (bd_lg hp)
theorem mulQ {p : Nat} {m : Int} (hp : p ≤ 900) (h1 : 1 ≤ m) (h2 : m ≤ 2 ^ (p + 2)) (S : Sto) : mulD (.d (.int m)) (.d (.int (m - 3))) S = some (.d (.int (m * (m - 3))), S) := ev_mul (sq_lg hp h1 h2)
theorem mul2 (i : Nat) (h : i ≤ 1000) (S : Sto) : mulD (.d (.int (2 ^ i))) (.d (.int 2)) S = some (.d (.int (2 ^ (i + 1))), S) := by
  rw [em1 i h S, Int.pow_succ]
theorem div2 {m : Int} (S : Sto) : fdivD (.d (.int m)) (.d (.int 2)) S = some (.d (.int (m / 2)), S) := ev_fdiv (by decide) (by decide)
theorem let_iff {p : Nat} {m : Int} : m * (m - 3) ≤ ((p : Int) - 2) * 2 ^ p ↔ Let p m := by unfold Let; simp
theorem dn_loop {p : Nat} (hp : p ≤ 900) : ∃ ρ' S', whileL (tAndD (tOf (mBin ltD (mVar 3) (mVar 1))) (tOf (mBin leD (mBin mulD (mVar 3) (mBin subD (mVar 3) (mC (.int 3)))) (mVar 2)))) (sAsg (mBin mulD (mVar 3) (mC (.int 2))) (gSet 3)) FUEL
    [some (.d (.int p)), some (.d (.int (2 ^ p))), some (.d (.int (((p : Int) - 2) * 2 ^ p))), some (.d (.int 1)), some (.d (.int 1)), none] [] = some (.nx, ρ', S') ∧ ∃ k, k ≤ p ∧ (k = p ∨ ¬ Let p (2 ^ k)) ∧
    ρ' = [some (.d (.int p)), some (.d (.int (2 ^ p))), some (.d (.int (((p : Int) - 2) * 2 ^ p))), some (.d (.int (2 ^ k))), some (.d (.int 1)), none] ∧ S' = [] := by
  refine whileL_J (α := Nat) (J := fun k ρ S => k ≤ p ∧ ρ = [some (.d (.int p)), some (.d (.int (2 ^ p))), some (.d (.int (((p : Int) - 2) * 2 ^ p))), some (.d (.int (2 ^ k))), some (.d (.int 1)), none] ∧ S = []) (μ := fun k => p - k) (fun k ρ S ⟨hk, e1, e2⟩ => ?_) (a := 0) ⟨by omega, by simp, rfl⟩ (by unfold FUEL; omega)
  subst e1 e2
  have q := mulQ (p := p) (m := 2 ^ k) hp (by have := pw_pos k; omega) (pw_mono (by omega))
  by_cases hkp : k = p
  · left
    subst hkp
    refine ⟨?_, k, Nat.le_refl _, .inl rfl, rfl, rfl⟩
    simp [DL.sSeq, DL.sNil, DL.sPass, DL.sBreak, DL.sCont, DL.sExpr, DL.sRet, DL.sRetN, DL.sIf, DL.sAsg, DL.sPar, DL.sAug, DL.sAugS, DL.gSet, DL.gTupD, DL.gsNil, DL.gsCons, DL.gSubD, DL.sFor, DL.iRng1D_eq, DL.mVar, DL.mC, DL.mNil, DL.mCons, DL.mCall, DL.mBin, DL.mNeg, DL.mMt, DL.mSl, DL.oNo, DL.oYes, DL.tOf, DL.tNotD, DL.tAndD, DL.tOrD, DL.tTru, DL.truD, DL.tTrue, DL.vAnd, DL.vOr, DL.vNot, DL.vIf, DL.vChain, DL.tupF, DL.lstF, DL.allD, DL.ev_add, DL.ev_sub, DL.ev_iadd, DL.ev_isub, DL.ev_lt, DL.ev_gt, DL.ev_le, DL.ev_ge, DL.ev_eq, DL.ev_ne, DL.ev_min, DL.ev_max, DL.ev_int, DL.ev_abs, DL.sz1, DL.sz2, DL.sz3, DL.sz4, DL.sz5, DL.sz6, DL.sz7, DL.sz8, DL.szp]
  · have hl : (2 : Int) ^ k < 2 ^ p := pw_lt (by omega)
    by_cases hL : Let p (2 ^ k)
    · right
      refine ⟨?_, ?_⟩
      · simp [DL.sSeq, DL.sNil, DL.sPass, DL.sBreak, DL.sCont, DL.sExpr, DL.sRet, DL.sRetN, DL.sIf, DL.sAsg, DL.sPar, DL.sAug, DL.sAugS, DL.gSet, DL.gTupD, DL.gsNil, DL.gsCons, DL.gSubD, DL.sFor, DL.iRng1D_eq, DL.mVar, DL.mC, DL.mNil, DL.mCons, DL.mCall, DL.mBin, DL.mNeg, DL.mMt, DL.mSl, DL.oNo, DL.oYes, DL.tOf, DL.tNotD, DL.tAndD, DL.tOrD, DL.tTru, DL.truD, DL.tTrue, DL.vAnd, DL.vOr, DL.vNot, DL.vIf, DL.vChain, DL.tupF, DL.lstF, DL.allD, DL.ev_add, DL.ev_sub, DL.ev_iadd, DL.ev_isub, DL.ev_lt, DL.ev_gt, DL.ev_le, DL.ev_ge, DL.ev_eq, DL.ev_ne, DL.ev_min, DL.ev_max, DL.ev_int, DL.ev_abs, DL.sz1, DL.sz2, DL.sz3, DL.sz4, DL.sz5, DL.sz6, DL.sz7, DL.sz8, DL.szp, q, hl, let_iff, hL]
      · refine ⟨[some (.d (.int p)), some (.d (.int (2 ^ p))), some (.d (.int (((p : Int) - 2) * 2 ^ p))), some (.d (.int (2 ^ (k + 1)))), some (.d (.int 1)), none], [], ?_, k + 1, ⟨by omega, rfl, rfl⟩, by omega⟩
        simp [DL.sSeq, DL.sNil, DL.sPass, DL.sBreak, DL.sCont, DL.sExpr, DL.sRet, DL.sRetN, DL.sIf, DL.sAsg, DL.sPar, DL.sAug, DL.sAugS, DL.gSet, DL.gTupD, DL.gsNil, DL.gsCons, DL.gSubD, DL.sFor, DL.iRng1D_eq, DL.mVar, DL.mC, DL.mNil, DL.mCons, DL.mCall, DL.mBin, DL.mNeg, DL.mMt, DL.mSl, DL.oNo, DL.oYes, DL.tOf, DL.tNotD, DL.tAndD, DL.tOrD, DL.tTru, DL.truD, DL.tTrue, DL.vAnd, DL.vOr, DL.vNot, DL.vIf, DL.vChain, DL.tupF, DL.lstF, DL.allD, DL.ev_add, DL.ev_sub, DL.ev_iadd, DL.ev_isub, DL.ev_lt, DL.ev_gt, DL.ev_le, DL.ev_ge, DL.ev_eq, DL.ev_ne, DL.ev_min, DL.ev_max, DL.ev_int, DL.ev_abs, DL.sz1, DL.sz2, DL.sz3, DL.sz4, DL.sz5, DL.sz6, DL.sz7, DL.sz8, DL.szp, mul2 k (by omega)]
    · left
      refine ⟨?_, k, hk, .inr hL, rfl, rfl⟩
      simp [DL.sSeq, DL.sNil, DL.sPass, DL.sBreak, DL.sCont, DL.sExpr, DL.sRet, DL.sRetN, DL.sIf, DL.sAsg, DL.sPar, DL.sAug, DL.sAugS, DL.gSet, DL.gTupD, DL.gsNil, DL.gsCons, DL.gSubD, DL.sFor, DL.iRng1D_eq, DL.mVar, DL.mC, DL.mNil, DL.mCons, DL.mCall, DL.mBin, DL.mNeg, DL.mMt, DL.mSl, DL.oNo, DL.oYes, DL.tOf, DL.tNotD, DL.tAndD, DL.tOrD, DL.tTru, DL.truD, DL.tTrue, DL.vAnd, DL.vOr, DL.vNot, DL.vIf, DL.vChain, DL.tupF, DL.lstF, DL.allD, DL.ev_add, DL.ev_sub, DL.ev_iadd, DL.ev_isub, DL.ev_lt, DL.ev_gt, DL.ev_le, DL.ev_ge, DL.ev_eq, DL.ev_ne, DL.ev_min, DL.ev_max, DL.ev_int, DL.ev_abs, DL.sz1, DL.sz2, DL.sz3, DL.sz4, DL.sz5, DL.sz6, DL.sz7, DL.sz8, DL.szp, q, hl, let_iff, hL]

/-- one halving keeps the ends right -/
structure Ends2 (p : Nat) (lo hi : Int) (n : Nat) : Prop where
  flo : 1 ≤ lo
  fle : lo ≤ hi
  fhi : hi ≤ 2 ^ p
  fok : Let p lo
  fno : ∀ m', hi < m' → m' ≤ 2 ^ p → ¬ Let p m'
  fgap : hi - lo < 2 ^ n
theorem Ends2.done {p : Nat} {lo hi : Int} {n : Nat} (h : Ends2 p lo hi n) (e : ¬ lo < hi) : IsM p lo := by
  have : lo = hi := by have := h.fle; omega
  subst this
  exact ⟨h.flo, h.fhi, h.fok, h.fno⟩
theorem Ends2.pos {p : Nat} {lo hi : Int} {n : Nat} (h : Ends2 p lo hi n) (e : lo < hi) : ∃ n', n = n' + 1 := by
  cases n with
  | zero => have := h.fgap; simp at this; omega
  | succ n' => exact ⟨n', rfl⟩
theorem Ends2.up {p : Nat} {lo hi : Int} {n : Nat} (h : Ends2 p lo hi (n + 1)) (e : lo < hi) (k : Let p ((lo + hi + 1) / 2)) : Ends2 p ((lo + hi + 1) / 2) hi n := by
  have g := h.fgap; rw [Int.pow_succ] at g; have := h.flo
  exact ⟨by omega, by omega, h.fhi, k, h.fno, by omega⟩
theorem Ends2.down {p : Nat} {lo hi : Int} {n : Nat} (h : Ends2 p lo hi (n + 1)) (e : lo < hi) (k : ¬ Let p ((lo + hi + 1) / 2)) : Ends2 p lo ((lo + hi + 1) / 2 - 1) n := by
  have g := h.fgap; rw [Int.pow_succ] at g; have := h.flo; have := h.fhi
  refine ⟨by omega, by omega, by omega, h.fok, fun m' h1 h2 z => ?_, by omega⟩
  exact k (let_mono (by omega) (by omega) z)
theorem Ends2.mid {p : Nat} {lo hi : Int} {n : Nat} (h : Ends2 p lo hi n) (e : lo < hi) : 1 ≤ (lo + hi + 1) / 2 ∧ (lo + hi + 1) / 2 ≤ 2 ^ p := by
  have := h.flo; have := h.fhi; omega
theorem let_one (p : Nat) (h : 1 ≤ p) : Let p 1 := by
  unfold Let
  have h1 := pw_pos p
  have h2 := pw_mono (a := 1) (b := p) h
  simp only [Int.toNat_natCast]
  by_cases e : p = 1
  · subst e; decide
  · have : 0 ≤ ((p : Int) - 2) * 2 ^ p := Int.mul_nonneg (by omega) (by omega)
    omega
theorem bi_loop {p : Nat} (hp : p ≤ 900) {hi : Int} {n : Nat} (h0 : Ends2 p 1 hi n) (hn : n ≤ 1000) : ∃ ρ' S', whileL (tOf (mBin ltD (mVar 4) (mVar 3))) (sSeq (sAsg (mBin fdivD (mBin addA (mBin addA (mVar 4) (mVar 3)) (mC (.int 1))) (mC (.int 2))) (gSet 5))
    (sIf (tOf (mBin leD (mBin mulD (mVar 5) (mBin subD (mVar 5) (mC (.int 3)))) (mVar 2))) (sAsg (mVar 5) (gSet 4)) (sAsg (mBin subD (mVar 5) (mC (.int 1))) (gSet 3)))) FUEL
    [some (.d (.int p)), some (.d (.int (2 ^ p))), some (.d (.int (((p : Int) - 2) * 2 ^ p))), some (.d (.int hi)), some (.d (.int 1)), none] [] = some (.nx, ρ', S') ∧ ∃ m a b c d e, IsM p m ∧ ρ' = [a, b, c, d, some (.d (.int m)), e] ∧ S' = [] := by
  refine whileL_J (α := Int × Int × Nat × Option W) (J := fun k ρ S => Ends2 p k.1 k.2.1 k.2.2.1 ∧ k.2.2.1 ≤ 1000 ∧ ρ = [some (.d (.int p)), some (.d (.int (2 ^ p))), some (.d (.int (((p : Int) - 2) * 2 ^ p))), some (.d (.int k.2.1)), some (.d (.int k.1)), k.2.2.2] ∧ S = [])
    (μ := fun k => k.2.2.1) (fun k ρ S ⟨h, hk, e1, e2⟩ => ?_) (a := (1, hi, n, none)) ⟨h0, hn, rfl, rfl⟩ (by unfold FUEL; show n < _; omega)
  obtain ⟨lo, hi, n, x⟩ := k
  subst e1 e2
  simp only at h hk ⊢
  by_cases e : lo < hi
  · right
    refine ⟨by simp [DL.sSeq, DL.sNil, DL.sPass, DL.sBreak, DL.sCont, DL.sExpr, DL.sRet, DL.sRetN, DL.sIf, DL.sAsg, DL.sPar, DL.sAug, DL.sAugS, DL.gSet, DL.gTupD, DL.gsNil, DL.gsCons, DL.gSubD, DL.sFor, DL.iRng1D_eq, DL.mVar, DL.mC, DL.mNil, DL.mCons, DL.mCall, DL.mBin, DL.mNeg, DL.mMt, DL.mSl, DL.oNo, DL.oYes, DL.tOf, DL.tNotD, DL.tAndD, DL.tOrD, DL.tTru, DL.truD, DL.tTrue, DL.vAnd, DL.vOr, DL.vNot, DL.vIf, DL.vChain, DL.tupF, DL.lstF, DL.allD, DL.ev_add, DL.ev_sub, DL.ev_iadd, DL.ev_isub, DL.ev_lt, DL.ev_gt, DL.ev_le, DL.ev_ge, DL.ev_eq, DL.ev_ne, DL.ev_min, DL.ev_max, DL.ev_int, DL.ev_abs, DL.sz1, DL.sz2, DL.sz3, DL.sz4, DL.sz5, DL.sz6, DL.sz7, DL.sz8, DL.szp, e], ?_⟩
    obtain ⟨n', rfl⟩ := h.pos e
    have m := h.mid e
    have q := mulQ (p := p) hp m.1 (by have := pw_lt (a := p) (b := p + 2) (by omega); omega)
    by_cases k : Let p ((lo + hi + 1) / 2)
    · refine ⟨[some (.d (.int p)), some (.d (.int (2 ^ p))), some (.d (.int (((p : Int) - 2) * 2 ^ p))), some (.d (.int hi)), some (.d (.int ((lo + hi + 1) / 2))), some (.d (.int ((lo + hi + 1) / 2)))], [], ?_, ((lo + hi + 1) / 2, hi, n', _), ⟨h.up e k, by show n' ≤ 1000; omega, rfl, rfl⟩, Nat.lt_succ_self _⟩
      simp [DL.sSeq, DL.sNil, DL.sPass, DL.sBreak, DL.sCont, DL.sExpr, DL.sRet, DL.sRetN, DL.sIf, DL.sAsg, DL.sPar, DL.sAug, DL.sAugS, DL.gSet, DL.gTupD, DL.gsNil, DL.gsCons, DL.gSubD, DL.sFor, DL.iRng1D_eq, DL.mVar, DL.mC, DL.mNil, DL.mCons, DL.mCall, DL.mBin, DL.mNeg, DL.mMt, DL.mSl, DL.oNo, DL.oYes, DL.tOf, DL.tNotD, DL.tAndD, DL.tOrD, DL.tTru, DL.truD, DL.tTrue, DL.vAnd, DL.vOr, DL.vNot, DL.vIf, DL.vChain, DL.tupF, DL.lstF, DL.allD, DL.ev_add, DL.ev_sub, DL.ev_iadd, DL.ev_isub, DL.ev_lt, DL.ev_gt, DL.ev_le, DL.ev_ge, DL.ev_eq, DL.ev_ne, DL.ev_min, DL.ev_max, DL.ev_int, DL.ev_abs, DL.sz1, DL.sz2, DL.sz3, DL.sz4, DL.sz5, DL.sz6, DL.sz7, DL.sz8, DL.szp, div2, q, let_iff, k]
    · refine ⟨[some (.d (.int p)), some (.d (.int (2 ^ p))), some (.d (.int (((p : Int) - 2) * 2 ^ p))), some (.d (.int ((lo + hi + 1) / 2 - 1))), some (.d (.int lo)), some (.d (.int ((lo + hi + 1) / 2)))], [], ?_, (lo, (lo + hi + 1) / 2 - 1, n', _), ⟨h.down e k, by show n' ≤ 1000; omega, rfl, rfl⟩, Nat.lt_succ_self _⟩
      simp [DL.sSeq, DL.sNil, DL.sPass, DL.sBreak, DL.sCont, DL.sExpr, DL.sRet, DL.sRetN, DL.sIf, DL.sAsg, DL.sPar, DL.sAug, DL.sAugS, DL.gSet, DL.gTupD, DL.gsNil, DL.gsCons, DL.gSubD, DL.sFor, DL.iRng1D_eq, DL.mVar, DL.mC, DL.mNil, DL.mCons, DL.mCall, DL.mBin, DL.mNeg, DL.mMt, DL.mSl, DL.oNo, DL.oYes, DL.tOf, DL.tNotD, DL.tAndD, DL.tOrD, DL.tTru, DL.truD, DL.tTrue, DL.vAnd, DL.vOr, DL.vNot, DL.vIf, DL.vChain, DL.tupF, DL.lstF, DL.allD, DL.ev_add, DL.ev_sub, DL.ev_iadd, DL.ev_isub, DL.ev_lt, DL.ev_gt, DL.ev_le, DL.ev_ge, DL.ev_eq, DL.ev_ne, DL.ev_min, DL.ev_max, DL.ev_int, DL.ev_abs, DL.sz1, DL.sz2, DL.sz3, DL.sz4, DL.sz5, DL.sz6, DL.sz7, DL.sz8, DL.szp, div2, q, let_iff, k]
  · left
    exact ⟨by simp [DL.sSeq, DL.sNil, DL.sPass, DL.sBreak, DL.sCont, DL.sExpr, DL.sRet, DL.sRetN, DL.sIf, DL.sAsg, DL.sPar, DL.sAug, DL.sAugS, DL.gSet, DL.gTupD, DL.gsNil, DL.gsCons, DL.gSubD, DL.sFor, DL.iRng1D_eq, DL.mVar, DL.mC, DL.mNil, DL.mCons, DL.mCall, DL.mBin, DL.mNeg, DL.mMt, DL.mSl, DL.oNo, DL.oYes, DL.tOf, DL.tNotD, DL.tAndD, DL.tOrD, DL.tTru, DL.truD, DL.tTrue, DL.vAnd, DL.vOr, DL.vNot, DL.vIf, DL.vChain, DL.tupF, DL.lstF, DL.allD, DL.ev_add, DL.ev_sub, DL.ev_iadd, DL.ev_isub, DL.ev_lt, DL.ev_gt, DL.ev_le, DL.ev_ge, DL.ev_eq, DL.ev_ne, DL.ev_min, DL.ev_max, DL.ev_int, DL.ev_abs, DL.sz1, DL.sz2, DL.sz3, DL.sz4, DL.sz5, DL.sz6, DL.sz7, DL.sz8, DL.szp, e], lo, _, _, _, _, _, h.done e, rfl, trivial⟩
theorem isM_ends {p k : Nat} (hp : 1 ≤ p) (hk : k ≤ p) (h : k = p ∨ ¬ Let p (2 ^ k)) : Ends2 p 1 (2 ^ k) k := by
  have h1 := pw_pos k; have h2 := pw_mono hk
  refine ⟨by omega, by omega, h2, let_one p hp, fun m' a b z => ?_, by omega⟩
  rcases h with rfl | h
  · omega
  · exact h (let_mono (by omega) (by omega) z)
theorem most_eq {p : Nat} (h1 : 1 ≤ p) (hp : p ≤ 900) : ∃ m, IsM p m ∧ ∀ S, callF f_most_rests [.d (.int p)] S = some (.d (.int m), S) := by
  obtain ⟨ρ1, S1, e1, k, hk, hL, rfl, rfl⟩ := dn_loop hp
  have h2 := pw_mono hk
  obtain ⟨ρ2, S2, e2, m, a, b, c, d, e, hm, rfl, rfl⟩ := bi_loop hp (isM_ends h1 hk hL) (by omega)
  refine ⟨m, hm, fun S => callF_pure rfl (runF_ret0 ?_)⟩
  have hd := doubled_eq p (by omega)
  have hb := mulB p hp
  have hmin : (if (2 : Int) ^ p < 2 ^ k then (2 : Int) ^ p else 2 ^ k) = 2 ^ k := if_neg (by omega)
  simp [b_most_rests, DL.sSeq, DL.sNil, DL.sPass, DL.sBreak, DL.sCont, DL.sExpr, DL.sRet, DL.sRetN, DL.sIf, DL.sAsg, DL.sPar, DL.sAug, DL.sAugS, DL.gSet, DL.gTupD, DL.gsNil, DL.gsCons, DL.gSubD, DL.sFor, DL.iRng1D_eq, DL.mVar, DL.mC, DL.mNil, DL.mCons, DL.mCall, DL.mBin, DL.mNeg, DL.mMt, DL.mSl, DL.oNo, DL.oYes, DL.tOf, DL.tNotD, DL.tAndD, DL.tOrD, DL.tTru, DL.truD, DL.tTrue, DL.vAnd, DL.vOr, DL.vNot, DL.vIf, DL.vChain, DL.tupF, DL.lstF, DL.allD, DL.ev_add, DL.ev_sub, DL.ev_iadd, DL.ev_isub, DL.ev_lt, DL.ev_gt, DL.ev_le, DL.ev_ge, DL.ev_eq, DL.ev_ne, DL.ev_min, DL.ev_max, DL.ev_int, DL.ev_abs, DL.sz1, DL.sz2, DL.sz3, DL.sz4, DL.sz5, DL.sz6, DL.sz7, DL.sz8, DL.szp, hd, hb, e1, hmin, e2]

theorem is_let_eq {p : Nat} (hp : p ≤ 900) {m : Int} (h1 : 1 ≤ m) (h2 : m ≤ 2 ^ p) (S : Sto) : callF f_l_is_let [.d (.int p), .d (.int m), .d (.int (2 ^ p))] S = some (.d (.bool (decide (Let p m))), S) := by
  refine callF_pure rfl (runF_ret0 ?_)
  have q := mulQ (p := p) hp h1 (by have := pw_lt (a := p) (b := p + 2) (by omega); omega)
  have hb := mulB p hp
  simp [b_l_is_let, DL.sSeq, DL.sNil, DL.sPass, DL.sBreak, DL.sCont, DL.sExpr, DL.sRet, DL.sRetN, DL.sIf, DL.sAsg, DL.sPar, DL.sAug, DL.sAugS, DL.gSet, DL.gTupD, DL.gsNil, DL.gsCons, DL.gSubD, DL.sFor, DL.iRng1D_eq, DL.mVar, DL.mC, DL.mNil, DL.mCons, DL.mCall, DL.mBin, DL.mNeg, DL.mMt, DL.mSl, DL.oNo, DL.oYes, DL.tOf, DL.tNotD, DL.tAndD, DL.tOrD, DL.tTru, DL.truD, DL.tTrue, DL.vAnd, DL.vOr, DL.vNot, DL.vIf, DL.vChain, DL.tupF, DL.lstF, DL.allD, DL.ev_add, DL.ev_sub, DL.ev_iadd, DL.ev_isub, DL.ev_lt, DL.ev_gt, DL.ev_le, DL.ev_ge, DL.ev_eq, DL.ev_ne, DL.ev_min, DL.ev_max, DL.ev_int, DL.ev_abs, DL.sz1, DL.sz2, DL.sz3, DL.sz4, DL.sz5, DL.sz6, DL.sz7, DL.sz8, DL.szp, h2, q, hb, let_iff]
theorem l_most_loop {p : Nat} (h1 : 1 ≤ p) (hp : p ≤ 900) : ∃ ρ' S', whileL (tOf (mBin ltD (mVar 2) (mVar 3))) (sSeq (sAsg (mBin fdivD (mCall intD (mCons (mBin addA (mBin addA (mVar 2) (mVar 3)) (mC (.int 1))) (mNil))) (mC (.int 2))) (gSet 4))
    (sAsg (vIf (tTru (mCall (callF f_l_is_let) (mCons (mVar 0) (mCons (mVar 4) (mCons (mVar 1) (mNil)))))) (mCall tupF (mCons (mVar 4) (mCons (mVar 3) (mNil)))) (mCall tupF (mCons (mVar 2) (mCons (mBin subD (mVar 4) (mC (.int 1))) (mNil))))) (gTupD 2 (gsCons (gSet 2) (gsCons (gSet 3) (gsNil)))))) FUEL
    [some (.d (.int p)), some (.d (.int (2 ^ p))), some (.d (.int 1)), some (.d (.int (2 ^ p))), none] [] = some (.nx, ρ', S') ∧ ∃ m a b c d, IsM p m ∧ ρ' = [a, b, some (.d (.int m)), c, d] ∧ S' = [] := by
  refine whileL_J (α := Int × Int × Nat × Option W) (J := fun k ρ S => Ends2 p k.1 k.2.1 k.2.2.1 ∧ k.2.2.1 ≤ 1000 ∧ ρ = [some (.d (.int p)), some (.d (.int (2 ^ p))), some (.d (.int k.1)), some (.d (.int k.2.1)), k.2.2.2] ∧ S = [])
    (μ := fun k => k.2.2.1) (fun k ρ S ⟨h, hk, e1, e2⟩ => ?_) (a := (1, 2 ^ p, p, none)) ⟨isM_ends h1 (Nat.le_refl p) (.inl rfl), by show p ≤ 1000; omega, rfl, rfl⟩ (by unfold FUEL; show p < _; omega)
  obtain ⟨lo, hi, n, x⟩ := k
  subst e1 e2
  simp only at h hk ⊢
  by_cases e : lo < hi
  · right
    refine ⟨by simp [DL.sSeq, DL.sNil, DL.sPass, DL.sBreak, DL.sCont, DL.sExpr, DL.sRet, DL.sRetN, DL.sIf, DL.sAsg, DL.sPar, DL.sAug, DL.sAugS, DL.gSet, DL.gTupD, DL.gsNil, DL.gsCons, DL.gSubD, DL.sFor, DL.iRng1D_eq, DL.mVar, DL.mC, DL.mNil, DL.mCons, DL.mCall, DL.mBin, DL.mNeg, DL.mMt, DL.mSl, DL.oNo, DL.oYes, DL.tOf, DL.tNotD, DL.tAndD, DL.tOrD, DL.tTru, DL.truD, DL.tTrue, DL.vAnd, DL.vOr, DL.vNot, DL.vIf, DL.vChain, DL.tupF, DL.lstF, DL.allD, DL.ev_add, DL.ev_sub, DL.ev_iadd, DL.ev_isub, DL.ev_lt, DL.ev_gt, DL.ev_le, DL.ev_ge, DL.ev_eq, DL.ev_ne, DL.ev_min, DL.ev_max, DL.ev_int, DL.ev_abs, DL.sz1, DL.sz2, DL.sz3, DL.sz4, DL.sz5, DL.sz6, DL.sz7, DL.sz8, DL.szp, e], ?_⟩
    obtain ⟨n', rfl⟩ := h.pos e
    have m := h.mid e
    have q := is_let_eq hp m.1 m.2
    by_cases k : Let p ((lo + hi + 1) / 2)
    · refine ⟨[some (.d (.int p)), some (.d (.int (2 ^ p))), some (.d (.int ((lo + hi + 1) / 2))), some (.d (.int hi)), some (.d (.int ((lo + hi + 1) / 2)))], [], ?_, ((lo + hi + 1) / 2, hi, n', _), ⟨h.up e k, by show n' ≤ 1000; omega, rfl, rfl⟩, Nat.lt_succ_self _⟩
      simp [DL.sSeq, DL.sNil, DL.sPass, DL.sBreak, DL.sCont, DL.sExpr, DL.sRet, DL.sRetN, DL.sIf, DL.sAsg, DL.sPar, DL.sAug, DL.sAugS, DL.gSet, DL.gTupD, DL.gsNil, DL.gsCons, DL.gSubD, DL.sFor, DL.iRng1D_eq, DL.mVar, DL.mC, DL.mNil, DL.mCons, DL.mCall, DL.mBin, DL.mNeg, DL.mMt, DL.mSl, DL.oNo, DL.oYes, DL.tOf, DL.tNotD, DL.tAndD, DL.tOrD, DL.tTru, DL.truD, DL.tTrue, DL.vAnd, DL.vOr, DL.vNot, DL.vIf, DL.vChain, DL.tupF, DL.lstF, DL.allD, DL.ev_add, DL.ev_sub, DL.ev_iadd, DL.ev_isub, DL.ev_lt, DL.ev_gt, DL.ev_le, DL.ev_ge, DL.ev_eq, DL.ev_ne, DL.ev_min, DL.ev_max, DL.ev_int, DL.ev_abs, DL.sz1, DL.sz2, DL.sz3, DL.sz4, DL.sz5, DL.sz6, DL.sz7, DL.sz8, DL.szp, div2, q, k]
    · refine ⟨[some (.d (.int p)), some (.d (.int (2 ^ p))), some (.d (.int lo)), some (.d (.int ((lo + hi + 1) / 2 - 1))), some (.d (.int ((lo + hi + 1) / 2)))], [], ?_, (lo, (lo + hi + 1) / 2 - 1, n', _), ⟨h.down e k, by show n' ≤ 1000; omega, rfl, rfl⟩, Nat.lt_succ_self _⟩
      simp [DL.sSeq, DL.sNil, DL.sPass, DL.sBreak, DL.sCont, DL.sExpr, DL.sRet, DL.sRetN, DL.sIf, DL.sAsg, DL.sPar, DL.sAug, DL.sAugS, DL.gSet, DL.gTupD, DL.gsNil, DL.gsCons, DL.gSubD, DL.sFor, DL.iRng1D_eq, DL.mVar, DL.mC, DL.mNil, DL.mCons, DL.mCall, DL.mBin, DL.mNeg, DL.mMt, DL.mSl, DL.oNo, DL.oYes, DL.tOf, DL.tNotD, DL.tAndD, DL.tOrD, DL.tTru, DL.truD, DL.tTrue, DL.vAnd, DL.vOr, DL.vNot, DL.vIf, DL.vChain, DL.tupF, DL.lstF, DL.allD, DL.ev_add, DL.ev_sub, DL.ev_iadd, DL.ev_isub, DL.ev_lt, DL.ev_gt, DL.ev_le, DL.ev_ge, DL.ev_eq, DL.ev_ne, DL.ev_min, DL.ev_max, DL.ev_int, DL.ev_abs, DL.sz1, DL.sz2, DL.sz3, DL.sz4, DL.sz5, DL.sz6, DL.sz7, DL.sz8, DL.szp, div2, q, k]
  · left
    exact ⟨by simp [DL.sSeq, DL.sNil, DL.sPass, DL.sBreak, DL.sCont, DL.sExpr, DL.sRet, DL.sRetN, DL.sIf, DL.sAsg, DL.sPar, DL.sAug, DL.sAugS, DL.gSet, DL.gTupD, DL.gsNil, DL.gsCons, DL.gSubD, DL.sFor, DL.iRng1D_eq, DL.mVar, DL.mC, DL.mNil, DL.mCons, DL.mCall, DL.mBin, DL.mNeg, DL.mMt, DL.mSl, DL.oNo, DL.oYes, DL.tOf, DL.tNotD, DL.tAndD, DL.tOrD, DL.tTru, DL.truD, DL.tTrue, DL.vAnd, DL.vOr, DL.vNot, DL.vIf, DL.vChain, DL.tupF, DL.lstF, DL.allD, DL.ev_add, DL.ev_sub, DL.ev_iadd, DL.ev_isub, DL.ev_lt, DL.ev_gt, DL.ev_le, DL.ev_ge, DL.ev_eq, DL.ev_ne, DL.ev_min, DL.ev_max, DL.ev_int, DL.ev_abs, DL.sz1, DL.sz2, DL.sz3, DL.sz4, DL.sz5, DL.sz6, DL.sz7, DL.sz8, DL.szp, e], lo, _, _, _, _, h.done e, rfl, trivial⟩
theorem l_most_eq {p : Nat} (h1 : 1 ≤ p) (hp : p ≤ 900) : ∃ m, IsM p m ∧ ∀ S, callF f_l_most [.d (.int p)] S = some (.d (.int m), S) := by
  obtain ⟨ρ2, S2, e2, m, a, b, c, d, hm, rfl, rfl⟩ := l_most_loop h1 hp
  refine ⟨m, hm, fun S => callF_pure rfl (runF_ret0 ?_)⟩
  have hd := l_two_eq p (by omega)
  simp [b_l_most, DL.sSeq, DL.sNil, DL.sPass, DL.sBreak, DL.sCont, DL.sExpr, DL.sRet, DL.sRetN, DL.sIf, DL.sAsg, DL.sPar, DL.sAug, DL.sAugS, DL.gSet, DL.gTupD, DL.gsNil, DL.gsCons, DL.gSubD, DL.sFor, DL.iRng1D_eq, DL.mVar, DL.mC, DL.mNil, DL.mCons, DL.mCall, DL.mBin, DL.mNeg, DL.mMt, DL.mSl, DL.oNo, DL.oYes, DL.tOf, DL.tNotD, DL.tAndD, DL.tOrD, DL.tTru, DL.truD, DL.tTrue, DL.vAnd, DL.vOr, DL.vNot, DL.vIf, DL.vChain, DL.tupF, DL.lstF, DL.allD, DL.ev_add, DL.ev_sub, DL.ev_iadd, DL.ev_isub, DL.ev_lt, DL.ev_gt, DL.ev_le, DL.ev_ge, DL.ev_eq, DL.ev_ne, DL.ev_min, DL.ev_max, DL.ev_int, DL.ev_abs, DL.sz1, DL.sz2, DL.sz3, DL.sz4, DL.sz5, DL.sz6, DL.sz7, DL.sz8, DL.szp, hd, e2]

def Mx (p : Nat) : Int := if h : 1 ≤ p ∧ p ≤ 900 then (most_eq h.1 h.2).choose else 0
theorem isM_Mx {p : Nat} (h1 : 1 ≤ p) (hp : p ≤ 900) : IsM p (Mx p) := by
  unfold Mx; rw [dif_pos ⟨h1, hp⟩]; exact (most_eq h1 hp).choose_spec.1
theorem most_Mx (p : Nat) (h1 : 1 ≤ p) (hp : p ≤ 900) (S : Sto) : callF f_most_rests [.d (.int p)] S = some (.d (.int (Mx p)), S) := by
  unfold Mx; rw [dif_pos ⟨h1, hp⟩]; exact (most_eq h1 hp).choose_spec.2 S
theorem l_most_Mx (p : Nat) (h1 : 1 ≤ p) (hp : p ≤ 900) (S : Sto) : callF f_l_most [.d (.int p)] S = some (.d (.int (Mx p)), S) := by
  obtain ⟨m, hm, e⟩ := l_most_eq h1 hp
  rw [hm.uniq (isM_Mx h1 hp)] at e; exact e S
theorem half_Mx {p : Nat} (h1 : 1 ≤ p) (hp : p ≤ 900) : (2 : Int) ^ ((p - 1) / 2) ≤ Mx p := by
  have M := isM_Mx h1 hp
  refine Int.not_lt.mp fun z => ?_
  refine M.no _ z (pw_mono (by omega)) ?_
  unfold Let
  simp only [Int.toNat_natCast]
  by_cases e1 : p = 1
  · subst e1; decide
  by_cases e2 : p = 2
  · subst e2; decide
  have h2 := pw_pos ((p - 1) / 2)
  have h3 : (2 : Int) ^ ((p - 1) / 2) * 2 ^ ((p - 1) / 2) ≤ 2 ^ p := by
    rw [← Int.pow_add]; exact pw_mono (by omega)
  have h4 : (1 : Int) * 2 ^ p ≤ ((p : Int) - 2) * 2 ^ p := Int.mul_le_mul_of_nonneg_right (by omega) (Int.le_of_lt (pw_pos p))
  have h5 : (2 : Int) ^ ((p - 1) / 2) * (2 ^ ((p - 1) / 2) - 3) = 2 ^ ((p - 1) / 2) * 2 ^ ((p - 1) / 2) - 3 * 2 ^ ((p - 1) / 2) := by grind
  omega
structure FirstP (many : Int) (l : Nat) : Prop where
  lo : 1 ≤ l
  hi : l ≤ 403
  en : many ≤ Mx l
  no : ∀ j, 1 ≤ j → j < l → Mx j < many
structure FirstH (many : Int) (h : Nat) : Prop where
  hi : h ≤ 201
  en : many ≤ 2 ^ h
  no : ∀ j, j < h → 2 ^ j < many
theorem FirstP.uniq {many : Int} {l k : Nat} (a : FirstP many l) (b : FirstP many k) : l = k := by
  rcases Nat.lt_trichotomy l k with z | z | z
  · have := b.no l a.lo z; have := a.en; omega
  · exact z
  · have := a.no k b.lo z; have := b.en; omega
theorem FirstH.uniq {many : Int} {l k : Nat} (a : FirstH many l) (b : FirstH many k) : l = k := by
  rcases Nat.lt_trichotomy l k with z | z | z
  · have := b.no l z; have := a.en; omega
  · exact z
  · have := a.no k z; have := b.en; omega
theorem lp1 {f : FS} (hf : ∀ p : Nat, 1 ≤ p → p ≤ 900 → ∀ S, callF f [.d (.int p)] S = some (.d (.int (Mx p)), S)) (many : Int) (hm : many ≤ 2 ^ 201) (z : Option W) :
    ∃ ρ' S', whileL (tOf (mBin ltD (mCall (callF f) (mCons (mVar 1) (mNil))) (mVar 0))) (sAug 1 iaddI (mC (.int 1))) FUEL [some (.d (.int many)), some (.d (.int 1)), z] [] = some (.nx, ρ', S') ∧
    ∃ l : Nat, FirstP many l ∧ ρ' = [some (.d (.int many)), some (.d (.int l)), z] ∧ S' = [] := by
  refine whileL_J (α := Nat) (J := fun l ρ S => 1 ≤ l ∧ l ≤ 403 ∧ (∀ j, 1 ≤ j → j < l → Mx j < many) ∧ ρ = [some (.d (.int many)), some (.d (.int l)), z] ∧ S = []) (μ := fun l => 403 - l) (fun l ρ S ⟨h1, h2, h3, e1, e2⟩ => ?_) (a := 1) ⟨by omega, by omega, fun j _ _ => by omega, rfl, rfl⟩ (by unfold FUEL; omega)
  subst e1 e2
  have q := hf l h1 (by omega)
  by_cases e : Mx l < many
  · right
    refine ⟨by simp [DL.sSeq, DL.sNil, DL.sPass, DL.sBreak, DL.sCont, DL.sExpr, DL.sRet, DL.sRetN, DL.sIf, DL.sAsg, DL.sPar, DL.sAug, DL.sAugS, DL.gSet, DL.gTupD, DL.gsNil, DL.gsCons, DL.gSubD, DL.sFor, DL.iRng1D_eq, DL.mVar, DL.mC, DL.mNil, DL.mCons, DL.mCall, DL.mBin, DL.mNeg, DL.mMt, DL.mSl, DL.oNo, DL.oYes, DL.tOf, DL.tNotD, DL.tAndD, DL.tOrD, DL.tTru, DL.truD, DL.tTrue, DL.vAnd, DL.vOr, DL.vNot, DL.vIf, DL.vChain, DL.tupF, DL.lstF, DL.allD, DL.ev_add, DL.ev_sub, DL.ev_iadd, DL.ev_isub, DL.ev_lt, DL.ev_gt, DL.ev_le, DL.ev_ge, DL.ev_eq, DL.ev_ne, DL.ev_min, DL.ev_max, DL.ev_int, DL.ev_abs, DL.sz1, DL.sz2, DL.sz3, DL.sz4, DL.sz5, DL.sz6, DL.sz7, DL.sz8, DL.szp, q, e], [some (.d (.int many)), some (.d (.int (l + 1 : Nat))), z], [], by simp [DL.sSeq, DL.sNil, DL.sPass, DL.sBreak, DL.sCont, DL.sExpr, DL.sRet, DL.sRetN, DL.sIf, DL.sAsg, DL.sPar, DL.sAug, DL.sAugS, DL.gSet, DL.gTupD, DL.gsNil, DL.gsCons, DL.gSubD, DL.sFor, DL.iRng1D_eq, DL.mVar, DL.mC, DL.mNil, DL.mCons, DL.mCall, DL.mBin, DL.mNeg, DL.mMt, DL.mSl, DL.oNo, DL.oYes, DL.tOf, DL.tNotD, DL.tAndD, DL.tOrD, DL.tTru, DL.truD, DL.tTrue, DL.vAnd, DL.vOr, DL.vNot, DL.vIf, DL.vChain, DL.tupF, DL.lstF, DL.allD, DL.ev_add, DL.ev_sub, DL.ev_iadd, DL.ev_isub, DL.ev_lt, DL.ev_gt, DL.ev_le, DL.ev_ge, DL.ev_eq, DL.ev_ne, DL.ev_min, DL.ev_max, DL.ev_int, DL.ev_abs, DL.sz1, DL.sz2, DL.sz3, DL.sz4, DL.sz5, DL.sz6, DL.sz7, DL.sz8, DL.szp], l + 1, ⟨by omega, ?_, fun j a b => ?_, rfl, rfl⟩, ?_⟩
    · by_cases k : l = 403
      · subst k
        have := half_Mx (p := 403) (by omega) (by omega)
        have h : (403 - 1) / 2 = 201 := by decide
        rw [h] at this; omega
      · omega
    · by_cases k : j = l
      · subst k; exact e
      · exact h3 j a (by omega)
    · have : l ≠ 403 := by
        rintro rfl
        have := half_Mx (p := 403) (by omega) (by omega)
        have h : (403 - 1) / 2 = 201 := by decide
        rw [h] at this; omega
      omega
  · left
    exact ⟨by simp [DL.sSeq, DL.sNil, DL.sPass, DL.sBreak, DL.sCont, DL.sExpr, DL.sRet, DL.sRetN, DL.sIf, DL.sAsg, DL.sPar, DL.sAug, DL.sAugS, DL.gSet, DL.gTupD, DL.gsNil, DL.gsCons, DL.gSubD, DL.sFor, DL.iRng1D_eq, DL.mVar, DL.mC, DL.mNil, DL.mCons, DL.mCall, DL.mBin, DL.mNeg, DL.mMt, DL.mSl, DL.oNo, DL.oYes, DL.tOf, DL.tNotD, DL.tAndD, DL.tOrD, DL.tTru, DL.truD, DL.tTrue, DL.vAnd, DL.vOr, DL.vNot, DL.vIf, DL.vChain, DL.tupF, DL.lstF, DL.allD, DL.ev_add, DL.ev_sub, DL.ev_iadd, DL.ev_isub, DL.ev_lt, DL.ev_gt, DL.ev_le, DL.ev_ge, DL.ev_eq, DL.ev_ne, DL.ev_min, DL.ev_max, DL.ev_int, DL.ev_abs, DL.sz1, DL.sz2, DL.sz3, DL.sz4, DL.sz5, DL.sz6, DL.sz7, DL.sz8, DL.szp, q, e], l, ⟨h1, h2, by omega, h3⟩, rfl, rfl⟩

theorem lp2 (many : Int) (hm : many ≤ 2 ^ 201) (z : Option W) :
    ∃ ρ' S', whileL (tOf (mBin ltD (mCall (callF f_doubled) (mCons (mBin fdivD (mBin subD (mVar 2) (mC (.int 1))) (mC (.int 2))) (mNil))) (mVar 0))) (sAug 2 iaddI (mC (.int 2))) FUEL [some (.d (.int many)), z, some (.d (.int 1))] [] = some (.nx, ρ', S') ∧
    ∃ h : Nat, FirstH many h ∧ ρ' = [some (.d (.int many)), z, some (.d (.int (2 * h + 1)))] ∧ S' = [] := by
  refine whileL_J (α := Nat) (J := fun h ρ S => h ≤ 201 ∧ (∀ j, j < h → 2 ^ j < many) ∧ ρ = [some (.d (.int many)), z, some (.d (.int (2 * (h : Int) + 1)))] ∧ S = []) (μ := fun h => 201 - h) (fun h ρ S ⟨h2, h3, e1, e2⟩ => ?_) (a := 0) ⟨by omega, fun j _ => by omega, rfl, rfl⟩ (by unfold FUEL; omega)
  subst e1 e2
  have q := doubled_eq h (by omega)
  have q2 : (2 * (h : Int) + 1 - 1) / 2 = h := by omega
  by_cases e : (2 : Int) ^ h < many
  · right
    have hne : h ≠ 201 := by rintro rfl; omega
    refine ⟨by simp [DL.sSeq, DL.sNil, DL.sPass, DL.sBreak, DL.sCont, DL.sExpr, DL.sRet, DL.sRetN, DL.sIf, DL.sAsg, DL.sPar, DL.sAug, DL.sAugS, DL.gSet, DL.gTupD, DL.gsNil, DL.gsCons, DL.gSubD, DL.sFor, DL.iRng1D_eq, DL.mVar, DL.mC, DL.mNil, DL.mCons, DL.mCall, DL.mBin, DL.mNeg, DL.mMt, DL.mSl, DL.oNo, DL.oYes, DL.tOf, DL.tNotD, DL.tAndD, DL.tOrD, DL.tTru, DL.truD, DL.tTrue, DL.vAnd, DL.vOr, DL.vNot, DL.vIf, DL.vChain, DL.tupF, DL.lstF, DL.allD, DL.ev_add, DL.ev_sub, DL.ev_iadd, DL.ev_isub, DL.ev_lt, DL.ev_gt, DL.ev_le, DL.ev_ge, DL.ev_eq, DL.ev_ne, DL.ev_min, DL.ev_max, DL.ev_int, DL.ev_abs, DL.sz1, DL.sz2, DL.sz3, DL.sz4, DL.sz5, DL.sz6, DL.sz7, DL.sz8, DL.szp, div2, q2, q, e], [some (.d (.int many)), z, some (.d (.int (2 * ((h + 1 : Nat) : Int) + 1)))], [], ?_, h + 1, ⟨by omega, fun j b => ?_, rfl, rfl⟩, by omega⟩
    · have : 2 * (h : Int) + 1 + 2 = 2 * ((h : Int) + 1) + 1 := by omega
      simp [DL.sSeq, DL.sNil, DL.sPass, DL.sBreak, DL.sCont, DL.sExpr, DL.sRet, DL.sRetN, DL.sIf, DL.sAsg, DL.sPar, DL.sAug, DL.sAugS, DL.gSet, DL.gTupD, DL.gsNil, DL.gsCons, DL.gSubD, DL.sFor, DL.iRng1D_eq, DL.mVar, DL.mC, DL.mNil, DL.mCons, DL.mCall, DL.mBin, DL.mNeg, DL.mMt, DL.mSl, DL.oNo, DL.oYes, DL.tOf, DL.tNotD, DL.tAndD, DL.tOrD, DL.tTru, DL.truD, DL.tTrue, DL.vAnd, DL.vOr, DL.vNot, DL.vIf, DL.vChain, DL.tupF, DL.lstF, DL.allD, DL.ev_add, DL.ev_sub, DL.ev_iadd, DL.ev_isub, DL.ev_lt, DL.ev_gt, DL.ev_le, DL.ev_ge, DL.ev_eq, DL.ev_ne, DL.ev_min, DL.ev_max, DL.ev_int, DL.ev_abs, DL.sz1, DL.sz2, DL.sz3, DL.sz4, DL.sz5, DL.sz6, DL.sz7, DL.sz8, DL.szp, this]
    · by_cases k : j = h
      · subst k; exact e
      · exact h3 j (by omega)
  · left
    exact ⟨by simp [DL.sSeq, DL.sNil, DL.sPass, DL.sBreak, DL.sCont, DL.sExpr, DL.sRet, DL.sRetN, DL.sIf, DL.sAsg, DL.sPar, DL.sAug, DL.sAugS, DL.gSet, DL.gTupD, DL.gsNil, DL.gsCons, DL.gSubD, DL.sFor, DL.iRng1D_eq, DL.mVar, DL.mC, DL.mNil, DL.mCons, DL.mCall, DL.mBin, DL.mNeg, DL.mMt, DL.mSl, DL.oNo, DL.oYes, DL.tOf, DL.tNotD, DL.tAndD, DL.tOrD, DL.tTru, DL.truD, DL.tTrue, DL.vAnd, DL.vOr, DL.vNot, DL.vIf, DL.vChain, DL.tupF, DL.lstF, DL.allD, DL.ev_add, DL.ev_sub, DL.ev_iadd, DL.ev_isub, DL.ev_lt, DL.ev_gt, DL.ev_le, DL.ev_ge, DL.ev_eq, DL.ev_ne, DL.ev_min, DL.ev_max, DL.ev_int, DL.ev_abs, DL.sz1, DL.sz2, DL.sz3, DL.sz4, DL.sz5, DL.sz6, DL.sz7, DL.sz8, DL.szp, div2, q2, q, e], h, ⟨h2, by omega, h3⟩, rfl, rfl⟩
theorem lp3 (many : Int) (hm : many ≤ 2 ^ 201) (z : Option W) :
    ∃ ρ' S', whileL (tOf (mBin ltD (mCall (callF f_l_two) (mCons (mVar 2) (mNil))) (mVar 0))) (sAug 2 iaddI (mC (.int 1))) FUEL [some (.d (.int many)), z, some (.d (.int 0))] [] = some (.nx, ρ', S') ∧
    ∃ h : Nat, FirstH many h ∧ ρ' = [some (.d (.int many)), z, some (.d (.int h))] ∧ S' = [] := by
  refine whileL_J (α := Nat) (J := fun h ρ S => h ≤ 201 ∧ (∀ j, j < h → 2 ^ j < many) ∧ ρ = [some (.d (.int many)), z, some (.d (.int (h : Int)))] ∧ S = []) (μ := fun h => 201 - h) (fun h ρ S ⟨h2, h3, e1, e2⟩ => ?_) (a := 0) ⟨by omega, fun j _ => by omega, rfl, rfl⟩ (by unfold FUEL; omega)
  subst e1 e2
  have q := l_two_eq h (by omega)
  by_cases e : (2 : Int) ^ h < many
  · right
    have hne : h ≠ 201 := by rintro rfl; omega
    refine ⟨by simp [DL.sSeq, DL.sNil, DL.sPass, DL.sBreak, DL.sCont, DL.sExpr, DL.sRet, DL.sRetN, DL.sIf, DL.sAsg, DL.sPar, DL.sAug, DL.sAugS, DL.gSet, DL.gTupD, DL.gsNil, DL.gsCons, DL.gSubD, DL.sFor, DL.iRng1D_eq, DL.mVar, DL.mC, DL.mNil, DL.mCons, DL.mCall, DL.mBin, DL.mNeg, DL.mMt, DL.mSl, DL.oNo, DL.oYes, DL.tOf, DL.tNotD, DL.tAndD, DL.tOrD, DL.tTru, DL.truD, DL.tTrue, DL.vAnd, DL.vOr, DL.vNot, DL.vIf, DL.vChain, DL.tupF, DL.lstF, DL.allD, DL.ev_add, DL.ev_sub, DL.ev_iadd, DL.ev_isub, DL.ev_lt, DL.ev_gt, DL.ev_le, DL.ev_ge, DL.ev_eq, DL.ev_ne, DL.ev_min, DL.ev_max, DL.ev_int, DL.ev_abs, DL.sz1, DL.sz2, DL.sz3, DL.sz4, DL.sz5, DL.sz6, DL.sz7, DL.sz8, DL.szp, q, e], [some (.d (.int many)), z, some (.d (.int ((h + 1 : Nat) : Int)))], [], ?_, h + 1, ⟨by omega, fun j b => ?_, rfl, rfl⟩, by omega⟩
    · simp [DL.sSeq, DL.sNil, DL.sPass, DL.sBreak, DL.sCont, DL.sExpr, DL.sRet, DL.sRetN, DL.sIf, DL.sAsg, DL.sPar, DL.sAug, DL.sAugS, DL.gSet, DL.gTupD, DL.gsNil, DL.gsCons, DL.gSubD, DL.sFor, DL.iRng1D_eq, DL.mVar, DL.mC, DL.mNil, DL.mCons, DL.mCall, DL.mBin, DL.mNeg, DL.mMt, DL.mSl, DL.oNo, DL.oYes, DL.tOf, DL.tNotD, DL.tAndD, DL.tOrD, DL.tTru, DL.truD, DL.tTrue, DL.vAnd, DL.vOr, DL.vNot, DL.vIf, DL.vChain, DL.tupF, DL.lstF, DL.allD, DL.ev_add, DL.ev_sub, DL.ev_iadd, DL.ev_isub, DL.ev_lt, DL.ev_gt, DL.ev_le, DL.ev_ge, DL.ev_eq, DL.ev_ne, DL.ev_min, DL.ev_max, DL.ev_int, DL.ev_abs, DL.sz1, DL.sz2, DL.sz3, DL.sz4, DL.sz5, DL.sz6, DL.sz7, DL.sz8, DL.szp]
    · by_cases k : j = h
      · subst k; exact e
      · exact h3 j (by omega)
  · left
    exact ⟨by simp [DL.sSeq, DL.sNil, DL.sPass, DL.sBreak, DL.sCont, DL.sExpr, DL.sRet, DL.sRetN, DL.sIf, DL.sAsg, DL.sPar, DL.sAug, DL.sAugS, DL.gSet, DL.gTupD, DL.gsNil, DL.gsCons, DL.gSubD, DL.sFor, DL.iRng1D_eq, DL.mVar, DL.mC, DL.mNil, DL.mCons, DL.mCall, DL.mBin, DL.mNeg, DL.mMt, DL.mSl, DL.oNo, DL.oYes, DL.tOf, DL.tNotD, DL.tAndD, DL.tOrD, DL.tTru, DL.truD, DL.tTrue, DL.vAnd, DL.vOr, DL.vNot, DL.vIf, DL.vChain, DL.tupF, DL.lstF, DL.allD, DL.ev_add, DL.ev_sub, DL.ev_iadd, DL.ev_isub, DL.ev_lt, DL.ev_gt, DL.ev_le, DL.ev_ge, DL.ev_eq, DL.ev_ne, DL.ev_min, DL.ev_max, DL.ev_int, DL.ev_abs, DL.sz1, DL.sz2, DL.sz3, DL.sz4, DL.sz5, DL.sz6, DL.sz7, DL.sz8, DL.szp, q, e], h, ⟨h2, by omega, h3⟩, rfl, rfl⟩
theorem mul2L (h : Nat) (hh : h ≤ 201) (S : Sto) : mulD (.d (.int 2)) (.d (.int h)) S = some (.d (.int (2 * h)), S) := ev_mul (by
  have : (2 : Int).natAbs.log2 = 1 := by decide
  have : (h : Int).natAbs.log2 ≤ 8 := lg_le (by omega)
  omega)
theorem places_eq (many : Int) (hm : many ≤ 2 ^ 201) : ∃ l h : Nat, FirstP many l ∧ FirstH many h ∧ (∀ S, callF f_places_for [.d (.int many)] S = some (.d (.tuple [.int l, .int (2 * h + 1)]), S)) ∧ ∀ S, callF f_l_places [.d (.int many)] S = some (.d (.tuple [.int l, .int (2 * h + 1)]), S) := by
  obtain ⟨ρ1, S1, e1, l, hl, rfl, rfl⟩ := lp1 most_Mx many hm (some (.d (.int 1)))
  obtain ⟨ρ2, S2, e2, h, hh, rfl, rfl⟩ := lp2 many hm (some (.d (.int l)))
  obtain ⟨ρ3, S3, e3, l', hl', rfl, rfl⟩ := lp1 l_most_Mx many hm (some (.d (.int 0)))
  obtain rfl := hl'.uniq hl
  obtain ⟨ρ4, S4, e4, h', hh', rfl, rfl⟩ := lp3 many hm (some (.d (.int l')))
  obtain rfl := hh'.uniq hh
  refine ⟨l', h', hl, hh, fun S => callF_pure rfl (runF_ret0 ?_), fun S => callF_pure rfl (runF_ret0 ?_)⟩
  · simp [b_places_for, DL.sSeq, DL.sNil, DL.sPass, DL.sBreak, DL.sCont, DL.sExpr, DL.sRet, DL.sRetN, DL.sIf, DL.sAsg, DL.sPar, DL.sAug, DL.sAugS, DL.gSet, DL.gTupD, DL.gsNil, DL.gsCons, DL.gSubD, DL.sFor, DL.iRng1D_eq, DL.mVar, DL.mC, DL.mNil, DL.mCons, DL.mCall, DL.mBin, DL.mNeg, DL.mMt, DL.mSl, DL.oNo, DL.oYes, DL.tOf, DL.tNotD, DL.tAndD, DL.tOrD, DL.tTru, DL.truD, DL.tTrue, DL.vAnd, DL.vOr, DL.vNot, DL.vIf, DL.vChain, DL.tupF, DL.lstF, DL.allD, DL.ev_add, DL.ev_sub, DL.ev_iadd, DL.ev_isub, DL.ev_lt, DL.ev_gt, DL.ev_le, DL.ev_ge, DL.ev_eq, DL.ev_ne, DL.ev_min, DL.ev_max, DL.ev_int, DL.ev_abs, DL.sz1, DL.sz2, DL.sz3, DL.sz4, DL.sz5, DL.sz6, DL.sz7, DL.sz8, DL.szp, e1, e2]
  · have := mul2L h' hh.hi
    simp [b_l_places, DL.sSeq, DL.sNil, DL.sPass, DL.sBreak, DL.sCont, DL.sExpr, DL.sRet, DL.sRetN, DL.sIf, DL.sAsg, DL.sPar, DL.sAug, DL.sAugS, DL.gSet, DL.gTupD, DL.gsNil, DL.gsCons, DL.gSubD, DL.sFor, DL.iRng1D_eq, DL.mVar, DL.mC, DL.mNil, DL.mCons, DL.mCall, DL.mBin, DL.mNeg, DL.mMt, DL.mSl, DL.oNo, DL.oYes, DL.tOf, DL.tNotD, DL.tAndD, DL.tOrD, DL.tTru, DL.truD, DL.tTrue, DL.vAnd, DL.vOr, DL.vNot, DL.vIf, DL.vChain, DL.tupF, DL.lstF, DL.allD, DL.ev_add, DL.ev_sub, DL.ev_iadd, DL.ev_isub, DL.ev_lt, DL.ev_gt, DL.ev_le, DL.ev_ge, DL.ev_eq, DL.ev_ne, DL.ev_min, DL.ev_max, DL.ev_int, DL.ev_abs, DL.sz1, DL.sz2, DL.sz3, DL.sz4, DL.sz5, DL.sz6, DL.sz7, DL.sz8, DL.szp, e3, e4, this]
end K75
end
noncomputable section
namespace K75
open PySem PySem.Spec PyProof.Rows L2 DL
theorem e_take : f_l_take = fTake := rfl
theorem e_some : f_l_some = fSome := rfl
theorem e_alike : f_l_alike = fAlike := rfl
theorem e_flat : f_l_flat = fFlat := rfl
theorem e_mixed : f_l_mixed = fMixed := rfl
theorem e_bag : f_l_bag = fBag := rfl
theorem pow1030 (S : Sto) : powD (.d (.int 10)) (.d (.int 30)) S = some (.d (.int 1000000000000000000000000000000), S) := by
  rw [ev_pow (by decide) (by decide) (by decide)]; rfl
theorem pow1032 (S : Sto) : powD (.d (.int 10)) (.d (.int 32)) S = some (.d (.int 100000000000000000000000000000000), S) := by
  rw [ev_pow (by decide) (by decide) (by decide)]; rfl
theorem nice_big {i : Int} (h0 : 0 ≤ i) (h : i < 2 ^ 203) : Nice 70 300 0 (.int i) := by
  refine (niceInt (k := 64) (B := 70) ?_ (by decide) (by decide) (by decide)).up (by decide) (Nat.le_refl _)
  have h2 : (2 : Nat) ^ 203 < 10 ^ 64 := by decide
  have h3 := abs_le (i := i) (k := 203) (by have := pw_pos 203; omega) h
  omega
theorem room1 : (70 + 2) * 300 + 70 ≤ sizeLine := by decide
theorem room2 : (70 + 2) * (300 + 1 + (300 + 1 + 0)) + 70 ≤ sizeLine := by decide
def lawB : MS := (sSeq (sAsg (mCall (callF f_l_some) (mCons (mVar 1) (mCons (mCall lstF (mCons (mC (.int 1)) (mCons (mC (.int 2)) (mCons (mC (.int 3)) (mCons (mC (.int 4)) (mCons (mC (.int 5)) (mCons (mBin addA (mC (.int 1)) (mCall (callF f_l_take) (mCons (mVar 1) (mCons (mC (.int 20)) (mNil))))) (mCons (mBin addA (mC (.int 1)) (mCall (callF f_l_take) (mCons (mVar 1) (mCons (mC (.int 200)) (mNil))))) (mNil))))))))) (mNil)))) (gSet 3))
    (sSeq (sAsg (mCall (callF f_l_most) (mCons (mVar 3) (mNil))) (gSet 4))
    (sSeq (sIf (tNotD (tTru (mCall (callF f_l_alike) (mCons (mCall (callF f_most_rests) (mCons (mVar 3) (mNil))) (mCons (mVar 4) (mNil)))))) (sRet (mC (.bool false))) (sNil))
    (sSeq (sAsg (mBin fdivD (mCall intD (mCons (mBin subD (mVar 3) (mC (.int 1))) (mNil))) (mC (.int 2))) (gSet 5))
    (sSeq (sIf (tOf (mBin gtD (mCall (callF f_l_two) (mCons (mVar 5) (mNil))) (mCall (callF f_most_rests) (mCons (mVar 3) (mNil))))) (sRet (mC (.bool false))) (sNil))
    (sSeq (sAsg (mCall lstF (mCons (mBin addA (mC (.int 1)) (mCall (callF f_l_take) (mCons (mVar 1) (mCons (mC (.int 40)) (mNil))))) (mCons (mVar 4) (mCons (mBin addA (mVar 4) (mC (.int 1))) (mCons (mCall (callF f_l_two) (mCons (mVar 5) (mNil))) (mCons (mBin addA (mCall (callF f_l_two) (mCons (mVar 5) (mNil))) (mC (.int 1))) (mCons (mBin addA (mC (.int 1)) (mCall (callF f_l_take) (mCons (mVar 1) (mCons (mBin powD (mC (.int 10)) (mC (.int 30))) (mNil))))) (mCons (mBin powD (mC (.int 10)) (mC (.int 32))) (mNil))))))))) (gSet 6))
    (sSeq (sAsg (mCall (callF f_l_some) (mCons (mVar 1) (mCons (mVar 6) (mNil)))) (gSet 7))
    (sIf (tNotD (tTru (mCall (callF f_l_alike) (mCons (mCall (callF f_places_for) (mCons (mVar 7) (mNil))) (mCons (mCall (callF f_l_places) (mCons (mVar 7) (mNil))) (mNil)))))) (sRet (mC (.bool false))) (sNil)))))))))
theorem b_law_eq : b_law = sSeq (sAsg (mCall (callF f_l_bag) (mCons (mVar 0) (mNil))) (gSet 1))
    (sSeq (sFor (iRng1D (mCons (mC (.int 6)) (mNil))) (gSet 2) lawB) (sRet (mCall (callF f_l_are_barred) (mCons (mVar 1) (mCons (mBin addA (mC (.int 2)) (mCall (callF f_l_take) (mCons (mVar 1) (mCons (mC (.int 2)) (mNil))))) (mNil)))))) := rfl
theorem lawB_ok {c : Nat} {ob : Ob} {sc : PyData} {z2 z3 z4 z5 z6 z7 : Option W} (hb : BagOk c ob) (hc : c + 10 < 2 ^ 1000) :
    ∃ ρ2 S2, lawB [some (.d sc), some (.loc 0), z2, z3, z4, z5, z6, z7] [ob] = some (.nx, ρ2, S2) ∧ ∃ ob' z3 z4 z5 z6 z7, ρ2 = [some (.d sc), some (.loc 0), z2, z3, z4, z5, z6, z7] ∧ S2 = [ob'] ∧ BagOk (c + 10) ob' := by
  obtain ⟨t1, ob1, e1, a1, b1, hb1⟩ := take_ok (S := [ob]) (n := 0) (upto := 20) rfl hb (by omega) (by decide) (by decide)
  simp only [List.set_cons_zero] at e1
  obtain ⟨t2, ob2, e2, a2, b2, hb2⟩ := take_ok (S := [ob1]) (n := 0) (upto := 200) rfl hb1 (by omega) (by decide) (by decide)
  simp only [List.set_cons_zero] at e2
  obtain ⟨p', hp', ob3, e3, hb3⟩ := some_ok (S := [ob2]) (n := 0) (xs := [.int 1, .int 2, .int 3, .int 4, .int 5, .int (1 + t1), .int (1 + t2)]) rfl hb2 (by omega) (by simp) (by show 7 ≤ sizeLine; decide)
  simp only [List.set_cons_zero] at e3
  obtain ⟨p, rfl, hp1, hp2⟩ : ∃ p : Nat, p' = .int p ∧ 1 ≤ p ∧ p ≤ 200 := by
    simp only [List.mem_cons, List.not_mem_nil, or_false] at hp'
    rcases hp' with rfl | rfl | rfl | rfl | rfl | rfl | rfl
    · exact ⟨1, rfl, by decide, by decide⟩
    · exact ⟨2, rfl, by decide, by decide⟩
    · exact ⟨3, rfl, by decide, by decide⟩
    · exact ⟨4, rfl, by decide, by decide⟩
    · exact ⟨5, rfl, by decide, by decide⟩
    · exact ⟨(1 + t1).toNat, by rw [Int.toNat_of_nonneg (by omega)], by omega, by omega⟩
    · exact ⟨(1 + t2).toNat, by rw [Int.toNat_of_nonneg (by omega)], by omega, by omega⟩
  have M := isM_Mx hp1 (show p ≤ 900 by omega)
  have m1 := most_Mx p hp1 (by omega)
  have m2 := l_most_Mx p hp1 (by omega)
  have hM2 : Mx p ≤ 2 ^ 200 := Int.le_trans M.hi (pw_mono hp2)
  have hM1 := M.lo
  have hh := half_Mx hp1 (show p ≤ 900 by omega)
  have h200 := pw_lt (a := 200) (b := 201) (by decide)
  have h201 := pw_lt (a := 201) (b := 203) (by decide)
  have al1 := alike_ok (nice_big (i := Mx p) (by omega) (by omega)) (by decide) (by decide) room1
  have hhalf : ((p : Int) - 1) / 2 = ((p - 1) / 2 : Nat) := by omega
  have hp0 : (p - 1) / 2 ≤ 200 := by omega
  generalize (p - 1) / 2 = h0 at hh hhalf hp0
  have tw := l_two_eq h0 (by omega)
  have hngt : ¬ Mx p < 2 ^ h0 := by omega
  obtain ⟨t3, ob4, e4, a4, b4, hb4⟩ := take_ok (S := [ob3]) (n := 0) (upto := 40) rfl hb3 (by omega) (by decide) (by decide)
  simp only [List.set_cons_zero] at e4
  obtain ⟨t4, ob5, e5, a5, b5, hb5⟩ := take_ok (S := [ob4]) (n := 0) (upto := 1000000000000000000000000000000) rfl hb4 (by omega) (by decide) (by decide)
  simp only [List.set_cons_zero] at e5
  obtain ⟨m', hm', ob6, e6, hb6⟩ := some_ok (S := [ob5]) (n := 0) (xs := [.int (1 + t3), .int (Mx p), .int (Mx p + 1), .int (2 ^ h0), .int (2 ^ h0 + 1), .int (1 + t4), .int 100000000000000000000000000000000]) rfl hb5 (by omega) (by simp) (by show 7 ≤ sizeLine; decide)
  simp only [List.set_cons_zero] at e6
  have hlit : (100000000000000000000000000000000 : Int) < 2 ^ 201 := by decide
  obtain ⟨m, rfl, hm⟩ : ∃ m : Int, m' = .int m ∧ m ≤ 2 ^ 201 := by
    simp only [List.mem_cons, List.not_mem_nil, or_false] at hm'
    rcases hm' with rfl | rfl | rfl | rfl | rfl | rfl | rfl
    · exact ⟨_, rfl, by omega⟩
    · exact ⟨_, rfl, by omega⟩
    · exact ⟨_, rfl, by omega⟩
    · exact ⟨_, rfl, by omega⟩
    · exact ⟨_, rfl, by omega⟩
    · exact ⟨_, rfl, by omega⟩
    · exact ⟨_, rfl, by omega⟩
  obtain ⟨l, h, hl, hh', q1, q2⟩ := places_eq m hm
  have hlh := hl.hi; have hhh := hh'.hi
  have h10 : (1000 : Int) < 2 ^ 203 := by decide
  have al2 := alike_ok (niceTup (niceCons (nice_big (i := (l : Int)) (by omega) (by omega)) (niceCons (nice_big (i := 2 * (h : Int) + 1) (by omega) (by omega)) niceNil))) (by decide) (by decide) room2
  refine ⟨[some (.d sc), some (.loc 0), z2, some (.d (.int p)), some (.d (.int (Mx p))), some (.d (.int (h0 : Nat))), some (.d (.list [.int (1 + t3), .int (Mx p), .int (Mx p + 1), .int (2 ^ h0), .int (2 ^ h0 + 1), .int (1 + t4), .int 100000000000000000000000000000000])), some (.d (.int m))], [ob6], ?_, ob6, _, _, _, _, _, rfl, rfl, hb6.up (by omega)⟩
  unfold lawB
  rw [e_take, e_some, e_alike]
  rw [seq_nx (ρ1 := [some (.d sc), some (.loc 0), z2, some (.d (.int p)), z4, z5, z6, z7]) (S1 := [ob3]) (by simp [DL.sSeq, DL.sNil, DL.sPass, DL.sBreak, DL.sCont, DL.sExpr, DL.sRet, DL.sRetN, DL.sIf, DL.sAsg, DL.sPar, DL.sAug, DL.sAugS, DL.gSet, DL.gTupD, DL.gsNil, DL.gsCons, DL.gSubD, DL.sFor, DL.iRng1D_eq, DL.mVar, DL.mC, DL.mNil, DL.mCons, DL.mCall, DL.mBin, DL.mNeg, DL.mMt, DL.mSl, DL.oNo, DL.oYes, DL.tOf, DL.tNotD, DL.tAndD, DL.tOrD, DL.tTru, DL.truD, DL.tTrue, DL.vAnd, DL.vOr, DL.vNot, DL.vIf, DL.vChain, DL.tupF, DL.lstF, DL.allD, DL.ev_add, DL.ev_sub, DL.ev_iadd, DL.ev_isub, DL.ev_lt, DL.ev_gt, DL.ev_le, DL.ev_ge, DL.ev_eq, DL.ev_ne, DL.ev_min, DL.ev_max, DL.ev_int, DL.ev_abs, DL.sz1, DL.sz2, DL.sz3, DL.sz4, DL.sz5, DL.sz6, DL.sz7, DL.sz8, DL.szp, e1, e2, e3])]
  rw [seq_nx (ρ1 := [some (.d sc), some (.loc 0), z2, some (.d (.int p)), some (.d (.int (Mx p))), z5, z6, z7]) (S1 := [ob3]) (by simp [DL.sSeq, DL.sNil, DL.sPass, DL.sBreak, DL.sCont, DL.sExpr, DL.sRet, DL.sRetN, DL.sIf, DL.sAsg, DL.sPar, DL.sAug, DL.sAugS, DL.gSet, DL.gTupD, DL.gsNil, DL.gsCons, DL.gSubD, DL.sFor, DL.iRng1D_eq, DL.mVar, DL.mC, DL.mNil, DL.mCons, DL.mCall, DL.mBin, DL.mNeg, DL.mMt, DL.mSl, DL.oNo, DL.oYes, DL.tOf, DL.tNotD, DL.tAndD, DL.tOrD, DL.tTru, DL.truD, DL.tTrue, DL.vAnd, DL.vOr, DL.vNot, DL.vIf, DL.vChain, DL.tupF, DL.lstF, DL.allD, DL.ev_add, DL.ev_sub, DL.ev_iadd, DL.ev_isub, DL.ev_lt, DL.ev_gt, DL.ev_le, DL.ev_ge, DL.ev_eq, DL.ev_ne, DL.ev_min, DL.ev_max, DL.ev_int, DL.ev_abs, DL.sz1, DL.sz2, DL.sz3, DL.sz4, DL.sz5, DL.sz6, DL.sz7, DL.sz8, DL.szp, m2])]
  rw [seq_nx (ρ1 := [some (.d sc), some (.loc 0), z2, some (.d (.int p)), some (.d (.int (Mx p))), z5, z6, z7]) (S1 := [ob3]) (by simp [DL.sSeq, DL.sNil, DL.sPass, DL.sBreak, DL.sCont, DL.sExpr, DL.sRet, DL.sRetN, DL.sIf, DL.sAsg, DL.sPar, DL.sAug, DL.sAugS, DL.gSet, DL.gTupD, DL.gsNil, DL.gsCons, DL.gSubD, DL.sFor, DL.iRng1D_eq, DL.mVar, DL.mC, DL.mNil, DL.mCons, DL.mCall, DL.mBin, DL.mNeg, DL.mMt, DL.mSl, DL.oNo, DL.oYes, DL.tOf, DL.tNotD, DL.tAndD, DL.tOrD, DL.tTru, DL.truD, DL.tTrue, DL.vAnd, DL.vOr, DL.vNot, DL.vIf, DL.vChain, DL.tupF, DL.lstF, DL.allD, DL.ev_add, DL.ev_sub, DL.ev_iadd, DL.ev_isub, DL.ev_lt, DL.ev_gt, DL.ev_le, DL.ev_ge, DL.ev_eq, DL.ev_ne, DL.ev_min, DL.ev_max, DL.ev_int, DL.ev_abs, DL.sz1, DL.sz2, DL.sz3, DL.sz4, DL.sz5, DL.sz6, DL.sz7, DL.sz8, DL.szp, m1, al1])]
  rw [seq_nx (ρ1 := [some (.d sc), some (.loc 0), z2, some (.d (.int p)), some (.d (.int (Mx p))), some (.d (.int (h0 : Nat))), z6, z7]) (S1 := [ob3]) (by simp [DL.sSeq, DL.sNil, DL.sPass, DL.sBreak, DL.sCont, DL.sExpr, DL.sRet, DL.sRetN, DL.sIf, DL.sAsg, DL.sPar, DL.sAug, DL.sAugS, DL.gSet, DL.gTupD, DL.gsNil, DL.gsCons, DL.gSubD, DL.sFor, DL.iRng1D_eq, DL.mVar, DL.mC, DL.mNil, DL.mCons, DL.mCall, DL.mBin, DL.mNeg, DL.mMt, DL.mSl, DL.oNo, DL.oYes, DL.tOf, DL.tNotD, DL.tAndD, DL.tOrD, DL.tTru, DL.truD, DL.tTrue, DL.vAnd, DL.vOr, DL.vNot, DL.vIf, DL.vChain, DL.tupF, DL.lstF, DL.allD, DL.ev_add, DL.ev_sub, DL.ev_iadd, DL.ev_isub, DL.ev_lt, DL.ev_gt, DL.ev_le, DL.ev_ge, DL.ev_eq, DL.ev_ne, DL.ev_min, DL.ev_max, DL.ev_int, DL.ev_abs, DL.sz1, DL.sz2, DL.sz3, DL.sz4, DL.sz5, DL.sz6, DL.sz7, DL.sz8, DL.szp, div2, hhalf])]
  rw [seq_nx (ρ1 := [some (.d sc), some (.loc 0), z2, some (.d (.int p)), some (.d (.int (Mx p))), some (.d (.int (h0 : Nat))), z6, z7]) (S1 := [ob3]) (by simp [DL.sSeq, DL.sNil, DL.sPass, DL.sBreak, DL.sCont, DL.sExpr, DL.sRet, DL.sRetN, DL.sIf, DL.sAsg, DL.sPar, DL.sAug, DL.sAugS, DL.gSet, DL.gTupD, DL.gsNil, DL.gsCons, DL.gSubD, DL.sFor, DL.iRng1D_eq, DL.mVar, DL.mC, DL.mNil, DL.mCons, DL.mCall, DL.mBin, DL.mNeg, DL.mMt, DL.mSl, DL.oNo, DL.oYes, DL.tOf, DL.tNotD, DL.tAndD, DL.tOrD, DL.tTru, DL.truD, DL.tTrue, DL.vAnd, DL.vOr, DL.vNot, DL.vIf, DL.vChain, DL.tupF, DL.lstF, DL.allD, DL.ev_add, DL.ev_sub, DL.ev_iadd, DL.ev_isub, DL.ev_lt, DL.ev_gt, DL.ev_le, DL.ev_ge, DL.ev_eq, DL.ev_ne, DL.ev_min, DL.ev_max, DL.ev_int, DL.ev_abs, DL.sz1, DL.sz2, DL.sz3, DL.sz4, DL.sz5, DL.sz6, DL.sz7, DL.sz8, DL.szp, tw, m1, hngt])]
  rw [seq_nx (ρ1 := [some (.d sc), some (.loc 0), z2, some (.d (.int p)), some (.d (.int (Mx p))), some (.d (.int (h0 : Nat))), some (.d (.list [.int (1 + t3), .int (Mx p), .int (Mx p + 1), .int (2 ^ h0), .int (2 ^ h0 + 1), .int (1 + t4), .int 100000000000000000000000000000000])), z7]) (S1 := [ob5]) (by simp [DL.sSeq, DL.sNil, DL.sPass, DL.sBreak, DL.sCont, DL.sExpr, DL.sRet, DL.sRetN, DL.sIf, DL.sAsg, DL.sPar, DL.sAug, DL.sAugS, DL.gSet, DL.gTupD, DL.gsNil, DL.gsCons, DL.gSubD, DL.sFor, DL.iRng1D_eq, DL.mVar, DL.mC, DL.mNil, DL.mCons, DL.mCall, DL.mBin, DL.mNeg, DL.mMt, DL.mSl, DL.oNo, DL.oYes, DL.tOf, DL.tNotD, DL.tAndD, DL.tOrD, DL.tTru, DL.truD, DL.tTrue, DL.vAnd, DL.vOr, DL.vNot, DL.vIf, DL.vChain, DL.tupF, DL.lstF, DL.allD, DL.ev_add, DL.ev_sub, DL.ev_iadd, DL.ev_isub, DL.ev_lt, DL.ev_gt, DL.ev_le, DL.ev_ge, DL.ev_eq, DL.ev_ne, DL.ev_min, DL.ev_max, DL.ev_int, DL.ev_abs, DL.sz1, DL.sz2, DL.sz3, DL.sz4, DL.sz5, DL.sz6, DL.sz7, DL.sz8, DL.szp, e4, tw, pow1030, e5, pow1032])]
  rw [seq_nx (ρ1 := [some (.d sc), some (.loc 0), z2, some (.d (.int p)), some (.d (.int (Mx p))), some (.d (.int (h0 : Nat))), some (.d (.list [.int (1 + t3), .int (Mx p), .int (Mx p + 1), .int (2 ^ h0), .int (2 ^ h0 + 1), .int (1 + t4), .int 100000000000000000000000000000000])), some (.d (.int m))]) (S1 := [ob6]) (by simp [DL.sSeq, DL.sNil, DL.sPass, DL.sBreak, DL.sCont, DL.sExpr, DL.sRet, DL.sRetN, DL.sIf, DL.sAsg, DL.sPar, DL.sAug, DL.sAugS, DL.gSet, DL.gTupD, DL.gsNil, DL.gsCons, DL.gSubD, DL.sFor, DL.iRng1D_eq, DL.mVar, DL.mC, DL.mNil, DL.mCons, DL.mCall, DL.mBin, DL.mNeg, DL.mMt, DL.mSl, DL.oNo, DL.oYes, DL.tOf, DL.tNotD, DL.tAndD, DL.tOrD, DL.tTru, DL.truD, DL.tTrue, DL.vAnd, DL.vOr, DL.vNot, DL.vIf, DL.vChain, DL.tupF, DL.lstF, DL.allD, DL.ev_add, DL.ev_sub, DL.ev_iadd, DL.ev_isub, DL.ev_lt, DL.ev_gt, DL.ev_le, DL.ev_ge, DL.ev_eq, DL.ev_ne, DL.ev_min, DL.ev_max, DL.ev_int, DL.ev_abs, DL.sz1, DL.sz2, DL.sz3, DL.sz4, DL.sz5, DL.sz6, DL.sz7, DL.sz8, DL.szp, e6])]
  simp [DL.sSeq, DL.sNil, DL.sPass, DL.sBreak, DL.sCont, DL.sExpr, DL.sRet, DL.sRetN, DL.sIf, DL.sAsg, DL.sPar, DL.sAug, DL.sAugS, DL.gSet, DL.gTupD, DL.gsNil, DL.gsCons, DL.gSubD, DL.sFor, DL.iRng1D_eq, DL.mVar, DL.mC, DL.mNil, DL.mCons, DL.mCall, DL.mBin, DL.mNeg, DL.mMt, DL.mSl, DL.oNo, DL.oYes, DL.tOf, DL.tNotD, DL.tAndD, DL.tOrD, DL.tTru, DL.truD, DL.tTrue, DL.vAnd, DL.vOr, DL.vNot, DL.vIf, DL.vChain, DL.tupF, DL.lstF, DL.allD, DL.ev_add, DL.ev_sub, DL.ev_iadd, DL.ev_isub, DL.ev_lt, DL.ev_gt, DL.ev_le, DL.ev_ge, DL.ev_eq, DL.ev_ne, DL.ev_min, DL.ev_max, DL.ev_int, DL.ev_abs, DL.sz1, DL.sz2, DL.sz3, DL.sz4, DL.sz5, DL.sz6, DL.sz7, DL.sz8, DL.szp, q1, q2, al2]
end K75
end
noncomputable section
namespace K75
open PySem PySem.Spec PyProof.Rows L2 DL
def place : PyData := .tuple [.int 2, .tuple [tI [0, 1], tI [1, 0]]]
def bench (p : Nat) : PyData := .tuple (List.replicate p place)
def stepsFor : MS := (sFor (iEnumD (mCons (mVar 0) (mNil))) (gTupD 2 (gsCons (gSet 3) (gsCons (gTupD 2 (gsCons (gSet 5) (gsCons (gSet 6) (gsNil)))) (gsNil)))) (sSeq (sAsg (mLc (iSeq (mVar 6)) (gTupD 2 (gsCons (gSet 7) (gsCons (gSet 8) (gsNil)))) (tOf (mBin (eqA false) (mVar 7) (mBin idxD (mVar 1) (mVar 3)))) (mVar 8) [7, 8] kFrz) (gSet 4))
    (sExpr (mMt extendF (mVar 2) (mCons (mLc (iSeq (mVar 4)) (gSet 8) (tTrue) (mBin addA (mBin addA (mSl (mVar 1) (oNo) (oYes (mVar 3))) (mCall tupF (mCons (mVar 8) (mNil)))) (mSl (mVar 1) (oYes (mBin addA (mVar 3) (mC (.int 1)))) (oNo))) [8] kFrz) (mNil))))))
def stepsTo : MS := (sFor (iEnumD (mCons (mVar 0) (mNil))) (gTupD 2 (gsCons (gSet 3) (gsCons (gTupD 2 (gsCons (gSet 5) (gsCons (gSet 6) (gsNil)))) (gsNil)))) (sSeq (sAsg (mLc (iSeq (mVar 6)) (gTupD 2 (gsCons (gSet 7) (gsCons (gSet 8) (gsNil)))) (tOf (mBin (eqA false) (mVar 8) (mBin idxD (mVar 1) (mVar 3)))) (mVar 7) [7, 8] kFrz) (gSet 4))
    (sExpr (mMt extendF (mVar 2) (mCons (mLc (iSeq (mVar 4)) (gSet 7) (tTrue) (mBin addA (mBin addA (mSl (mVar 1) (oNo) (oYes (mVar 3))) (mCall tupF (mCons (mVar 7) (mNil)))) (mSl (mVar 1) (oYes (mBin addA (mVar 3) (mC (.int 1)))) (oNo))) [7] kFrz) (mNil))))))
theorem b_steps_from_eq : b_steps_from = sSeq (sAsg (mCall lstB (mNil)) (gSet 2)) (sSeq stepsFor (sRet (mCall sortedD (mCons (mVar 2) (mNil))))) := rfl
theorem b_steps_to_eq : b_steps_to = sSeq (sAsg (mCall lstB (mNil)) (gSet 2)) (sSeq stepsTo (sRet (mCall sortedD (mCons (mVar 2) (mNil))))) := rfl

abbrev Od := List Int × List Int × List Int
def oI (o : Od) : PyData := .tuple [tI o.1, tI o.2.1, .tuple [tI o.2.2]]
def cO (o : Od) : Cd := .tup [cI o.1, cI o.2.1, .tup [cI o.2.2]]
theorem ofP_oI (o : Od) : ofP (oI o) = some (cO o) := by simp [oI, cO, ofP, ofPs, ofP_tI]
theorem kind_cO (a b : Od) : kindC (cO a) (cO b) = true := by simp [cO, kindC, kindCs, kind_cI]
theorem dep_oI (o : Od) : (oI o).depth = 3 := by simp [oI, PyData.depth, PyData.depthAll, dep_tI]
theorem sort_oI {l : List Od} {S : Sto} {w : W} (hd : deref S w = some (.list (l.map oI))) : ∃ r : List Od, r.Perm l ∧ sortedD [w] S = some (.d (.list (r.map oI)), S) :=
  sort_gen (encC := cO) (fun a _ => ofP_oI a) (fun a ha => ⟨rfl, by rw [dep_oI]; decide⟩) (fun a _ b _ => kind_cO a b) hd
/-- the steps of a content -/
theorem steps_run {l : List (List Int)} {b fr : MS} {B x : PyData} (hb : b = sSeq (sAsg (mCall lstB (mNil)) (gSet 2)) (sSeq fr (sRet (mCall sortedD (mCons (mVar 2) (mNil))))))
    (hf : ∃ env', fr [some (.d B), some (.d x), some (.loc 0), none, none, none, none, none, none] [.lst []] = some (.nx, env', [.lst ((l.map tI).map W.d)]) ∧ env'[2]? = some (some (.loc 0))) (h0 : ∀ a ∈ l, a ≠ []) :
    ∃ r : List (List Int), r.Perm l ∧ ∀ S, callF (runF 9 b) [.d B, .d x] S = some (.d (.list (r.map tI)), S) := by
  obtain ⟨env', e, he⟩ := hf
  obtain ⟨r, hr, es⟩ := sort_tI (l := l) (S := [.lst ((l.map tI).map W.d)]) (w := .loc 0) h0 (by simp only [deref, List.getElem?_cons_zero, allD_map, Option.map_some])
  refine ⟨r, hr, fun S => callF_pure rfl (runF_ret0 ⟨env', [.lst ((l.map tI).map W.d)], ?_⟩)⟩
  rw [hb, seq_nx (ρ1 := [some (.d B), some (.d x), some (.loc 0), none, none, none, none, none, none]) (S1 := [.lst []]) (by simp [DL.sSeq, DL.sNil, DL.sPass, DL.sBreak, DL.sCont, DL.sExpr, DL.sRet, DL.sRetN, DL.sIf, DL.sAsg, DL.sPar, DL.sAug, DL.sAugS, DL.gSet, DL.gTupD, DL.gsNil, DL.gsCons, DL.gSubD, DL.sFor, DL.iRng1D_eq, DL.mVar, DL.mC, DL.mNil, DL.mCons, DL.mCall, DL.mBin, DL.mNeg, DL.mMt, DL.mSl, DL.oNo, DL.oYes, DL.tOf, DL.tNotD, DL.tAndD, DL.tOrD, DL.tTru, DL.truD, DL.tTrue, DL.vAnd, DL.vOr, DL.vNot, DL.vIf, DL.vChain, DL.tupF, DL.lstF, DL.allD, DL.ev_add, DL.ev_sub, DL.ev_iadd, DL.ev_isub, DL.ev_lt, DL.ev_gt, DL.ev_le, DL.ev_ge, DL.ev_eq, DL.ev_ne, DL.ev_min, DL.ev_max, DL.ev_int, DL.ev_abs, DL.sz1, DL.sz2, DL.sz3, DL.sz4, DL.sz5, DL.sz6, DL.sz7, DL.sz8, DL.szp, lstB]), seq_nx e]
  simp only [sRet, mCall, mCons, mNil, mVar, he, Option.bind_some, es]
/-- the contents of 2 and of 3 places -/
def C2 : List (List Int) := [[0, 0], [0, 1], [1, 0], [1, 1]]
def C3 : List (List Int) := [[0, 0, 0], [0, 0, 1], [0, 1, 0], [0, 1, 1], [1, 0, 0], [1, 0, 1], [1, 1, 0], [1, 1, 1]]
def Cn (p : Nat) : List (List Int) := if p = 2 then C2 else C3
/-- one place changed -/
def flips : List Int → List (List Int)
  | [] => []
  | a :: l => ((1 - a) :: l) :: (flips l).map (a :: ·)
theorem contents2 (S : Sto) : callF f_l_contents [.d (bench 2)] S = some (.d (.list (C2.map tI)), S) := rfl
theorem contents3 (S : Sto) : callF f_l_contents [.d (bench 3)] S = some (.d (.list (C3.map tI)), S) := rfl
theorem steps2 : ∀ x ∈ C2, ∃ env', stepsFor [some (.d (bench 2)), some (.d (tI x)), some (.loc 0), none, none, none, none, none, none] [.lst []] = some (.nx, env', [.lst (((flips x).map tI).map W.d)]) ∧ env'[2]? = some (some (.loc 0)) := by
  intro x hx
  simp only [C2, List.mem_cons, List.not_mem_nil, or_false] at hx
  rcases hx with rfl | rfl | rfl | rfl <;> exact ⟨_, rfl, rfl⟩
theorem steps3 : ∀ x ∈ C3, ∃ env', stepsFor [some (.d (bench 3)), some (.d (tI x)), some (.loc 0), none, none, none, none, none, none] [.lst []] = some (.nx, env', [.lst (((flips x).map tI).map W.d)]) ∧ env'[2]? = some (some (.loc 0)) := by
  intro x hx
  simp only [C3, List.mem_cons, List.not_mem_nil, or_false] at hx
  rcases hx with rfl | rfl | rfl | rfl | rfl | rfl | rfl | rfl <;> exact ⟨_, rfl, rfl⟩
theorem stepsT2 : ∀ x ∈ C2, ∃ env', stepsTo [some (.d (bench 2)), some (.d (tI x)), some (.loc 0), none, none, none, none, none, none] [.lst []] = some (.nx, env', [.lst (((flips x).map tI).map W.d)]) ∧ env'[2]? = some (some (.loc 0)) := by
  intro x hx
  simp only [C2, List.mem_cons, List.not_mem_nil, or_false] at hx
  rcases hx with rfl | rfl | rfl | rfl <;> exact ⟨_, rfl, rfl⟩
theorem stepsT3 : ∀ x ∈ C3, ∃ env', stepsTo [some (.d (bench 3)), some (.d (tI x)), some (.loc 0), none, none, none, none, none, none] [.lst []] = some (.nx, env', [.lst (((flips x).map tI).map W.d)]) ∧ env'[2]? = some (some (.loc 0)) := by
  intro x hx
  simp only [C3, List.mem_cons, List.not_mem_nil, or_false] at hx
  rcases hx with rfl | rfl | rfl | rfl | rfl | rfl | rfl | rfl <;> exact ⟨_, rfl, rfl⟩
theorem flips_len : ∀ l : List Int, (flips l).length = l.length
  | [] => rfl
  | a :: l => by simp [flips, flips_len l]
theorem flips_ne : ∀ (l : List Int) (a : List Int), a ∈ flips l → a ≠ []
  | [], a, h => by simp [flips] at h
  | b :: l, a, h => by
    simp only [flips, List.mem_cons, List.mem_map] at h
    rcases h with rfl | ⟨c, _, rfl⟩ <;> simp
theorem has_only_ok (x b : List Int) (S : Sto) : callF f_has_only [.d (.tuple [tI x]), .d (tI b)] S = some (.d (.bool (decide (x = b))), S) := by
  refine callF_pure rfl (runF_ret0 ?_)
  have e := lc_all (it := iSeq (mVar 0)) (g := gSet 2) (E := mBin (eqA false) (mVar 2) (mVar 1)) (vs := [2]) (ρ := [some (.d (.tuple [tI x])), some (.d (tI b)), none]) (S := []) (ds := [tI x]) (fun _ => .bool (decide (x = b))) (by simp [DL.sSeq, DL.sNil, DL.sPass, DL.sBreak, DL.sCont, DL.sExpr, DL.sRet, DL.sRetN, DL.sIf, DL.sAsg, DL.sPar, DL.sAug, DL.sAugS, DL.gSet, DL.gTupD, DL.gsNil, DL.gsCons, DL.gSubD, DL.sFor, DL.iRng1D_eq, DL.mVar, DL.mC, DL.mNil, DL.mCons, DL.mCall, DL.mBin, DL.mNeg, DL.mMt, DL.mSl, DL.oNo, DL.oYes, DL.tOf, DL.tNotD, DL.tAndD, DL.tOrD, DL.tTru, DL.truD, DL.tTrue, DL.vAnd, DL.vOr, DL.vNot, DL.vIf, DL.vChain, DL.tupF, DL.lstF, DL.allD, DL.ev_add, DL.ev_sub, DL.ev_iadd, DL.ev_isub, DL.ev_lt, DL.ev_gt, DL.ev_le, DL.ev_ge, DL.ev_eq, DL.ev_ne, DL.ev_min, DL.ev_max, DL.ev_int, DL.ev_abs, DL.sz1, DL.sz2, DL.sz3, DL.sz4, DL.sz5, DL.sz6, DL.sz7, DL.sz8, DL.szp, iSeq]) (fun y hy => by
    simp only [List.mem_cons, List.not_mem_nil, or_false] at hy
    subst hy
    exact ⟨_, by simp [DL.sSeq, DL.sNil, DL.sPass, DL.sBreak, DL.sCont, DL.sExpr, DL.sRet, DL.sRetN, DL.sIf, DL.sAsg, DL.sPar, DL.sAug, DL.sAugS, DL.gSet, DL.gTupD, DL.gsNil, DL.gsCons, DL.gSubD, DL.sFor, DL.iRng1D_eq, DL.mVar, DL.mC, DL.mNil, DL.mCons, DL.mCall, DL.mBin, DL.mNeg, DL.mMt, DL.mSl, DL.oNo, DL.oYes, DL.tOf, DL.tNotD, DL.tAndD, DL.tOrD, DL.tTru, DL.truD, DL.tTrue, DL.vAnd, DL.vOr, DL.vNot, DL.vIf, DL.vChain, DL.tupF, DL.lstF, DL.allD, DL.ev_add, DL.ev_sub, DL.ev_iadd, DL.ev_isub, DL.ev_lt, DL.ev_gt, DL.ev_le, DL.ev_ge, DL.ev_eq, DL.ev_ne, DL.ev_min, DL.ev_max, DL.ev_int, DL.ev_abs, DL.sz1, DL.sz2, DL.sz3, DL.sz4, DL.sz5, DL.sz6, DL.sz7, DL.sz8, DL.szp, wipeD]; rfl, by simp [DL.sSeq, DL.sNil, DL.sPass, DL.sBreak, DL.sCont, DL.sExpr, DL.sRet, DL.sRetN, DL.sIf, DL.sAsg, DL.sPar, DL.sAug, DL.sAugS, DL.gSet, DL.gTupD, DL.gsNil, DL.gsCons, DL.gSubD, DL.sFor, DL.iRng1D_eq, DL.mVar, DL.mC, DL.mNil, DL.mCons, DL.mCall, DL.mBin, DL.mNeg, DL.mMt, DL.mSl, DL.oNo, DL.oYes, DL.tOf, DL.tNotD, DL.tAndD, DL.tOrD, DL.tTru, DL.truD, DL.tTrue, DL.vAnd, DL.vOr, DL.vNot, DL.vIf, DL.vChain, DL.tupF, DL.lstF, DL.allD, DL.ev_add, DL.ev_sub, DL.ev_iadd, DL.ev_isub, DL.ev_lt, DL.ev_gt, DL.ev_le, DL.ev_ge, DL.ev_eq, DL.ev_ne, DL.ev_min, DL.ev_max, DL.ev_int, DL.ev_abs, DL.sz1, DL.sz2, DL.sz3, DL.sz4, DL.sz5, DL.sz6, DL.sz7, DL.sz8, DL.szp, eq_tI]⟩) (by show 1 ≤ sizeLine; decide)
  simp [b_has_only, DL.sSeq, DL.sNil, DL.sPass, DL.sBreak, DL.sCont, DL.sExpr, DL.sRet, DL.sRetN, DL.sIf, DL.sAsg, DL.sPar, DL.sAug, DL.sAugS, DL.gSet, DL.gTupD, DL.gsNil, DL.gsCons, DL.gSubD, DL.sFor, DL.iRng1D_eq, DL.mVar, DL.mC, DL.mNil, DL.mCons, DL.mCall, DL.mBin, DL.mNeg, DL.mMt, DL.mSl, DL.oNo, DL.oYes, DL.tOf, DL.tNotD, DL.tAndD, DL.tOrD, DL.tTru, DL.truD, DL.tTrue, DL.vAnd, DL.vOr, DL.vNot, DL.vIf, DL.vChain, DL.tupF, DL.lstF, DL.allD, DL.ev_add, DL.ev_sub, DL.ev_iadd, DL.ev_isub, DL.ev_lt, DL.ev_gt, DL.ev_le, DL.ev_ge, DL.ev_eq, DL.ev_ne, DL.ev_min, DL.ev_max, DL.ev_int, DL.ev_abs, DL.sz1, DL.sz2, DL.sz3, DL.sz4, DL.sz5, DL.sz6, DL.sz7, DL.sz8, DL.szp, e, allDD, on1, deref, blsD]
theorem at30 {α : Type} {a b c : α} : atI [a, b, c] 0 = some a := rfl
theorem at31 {α : Type} {a b c : α} : atI [a, b, c] 1 = some b := rfl
theorem at32 {α : Type} {a b c : α} : atI [a, b, c] 2 = some c := rfl
def task (p : Nat) (rs : List (List Int)) (os : List Od) : PyData := .tuple [bench p, .tuple (rs.map tI), .tuple (os.map oI)]

def sf1 : MS := (sSeq (sAsg (mLc (iSeq (mBin idxD (mVar 0) (mC (.int 2)))) (gSet 6) (tAndD (tOf (mBin (eqA false) (mBin idxD (mVar 6) (mC (.int 0))) (mVar 1))) (tTru (mCall (callF f_has_only) (mCons (mBin idxD (mVar 6) (mC (.int 2))) (mCons (mBin idxD (mVar 6) (mC (.int 1))) (mNil)))))) (mVar 6) [6] kFrz) (gSet 2))
    (sSeq (sAsg (mCall lenD (mCons (mCall (callF f_steps_from) (mCons (mBin idxD (mVar 0) (mC (.int 0))) (mCons (mVar 1) (mNil)))) (mNil))) (gSet 3))
    (sIf (tOf (mBin gtD (mCall lenD (mCons (mVar 2) (mNil))) (mVar 3))) (sRet (mCall tupF (mCons (mC (.str "from")) (mCons (mVar 1) (mCons (mCall lenD (mCons (mVar 2) (mNil))) (mCons (mVar 3) (mNil))))))) (sNil))))
theorem sf1_lc {p : Nat} {rs : List (List Int)} {os : List Od} {r : List Int} {z2 z3 z4 z5 z6 : Option W} (hz : os.length ≤ sizeLine) (S : Sto) :
    mLc (iSeq (mBin idxD (mVar 0) (mC (.int 2)))) (gSet 6) (tAndD (tOf (mBin (eqA false) (mBin idxD (mVar 6) (mC (.int 0))) (mVar 1))) (tTru (mCall (callF f_has_only) (mCons (mBin idxD (mVar 6) (mC (.int 2))) (mCons (mBin idxD (mVar 6) (mC (.int 1))) (mNil)))))) (mVar 6) [6] kFrz
      [some (.d (task p rs os)), some (.d (tI r)), z2, z3, z4, z5, z6] S = some (.d (.list ((os.filter fun o => decide (o.1 = r) && decide (o.2.2 = o.2.1)).map oI)), S) := by
  refine lc_e oI _ oI (by simp [DL.sSeq, DL.sNil, DL.sPass, DL.sBreak, DL.sCont, DL.sExpr, DL.sRet, DL.sRetN, DL.sIf, DL.sAsg, DL.sPar, DL.sAug, DL.sAugS, DL.gSet, DL.gTupD, DL.gsNil, DL.gsCons, DL.gSubD, DL.sFor, DL.iRng1D_eq, DL.mVar, DL.mC, DL.mNil, DL.mCons, DL.mCall, DL.mBin, DL.mNeg, DL.mMt, DL.mSl, DL.oNo, DL.oYes, DL.tOf, DL.tNotD, DL.tAndD, DL.tOrD, DL.tTru, DL.truD, DL.tTrue, DL.vAnd, DL.vOr, DL.vNot, DL.vIf, DL.vChain, DL.tupF, DL.lstF, DL.allD, DL.ev_add, DL.ev_sub, DL.ev_iadd, DL.ev_isub, DL.ev_lt, DL.ev_gt, DL.ev_le, DL.ev_ge, DL.ev_eq, DL.ev_ne, DL.ev_min, DL.ev_max, DL.ev_int, DL.ev_abs, DL.sz1, DL.sz2, DL.sz3, DL.sz4, DL.sz5, DL.sz6, DL.sz7, DL.sz8, DL.szp, iSeq, task, idxD, at32]) (fun o ho => ?_) (Nat.le_trans (List.length_filter_le _ _) hz)
  refine ⟨[some (.d (task p rs os)), some (.d (tI r)), z2, z3, z4, z5, some (.d (oI o))], by simp [DL.sSeq, DL.sNil, DL.sPass, DL.sBreak, DL.sCont, DL.sExpr, DL.sRet, DL.sRetN, DL.sIf, DL.sAsg, DL.sPar, DL.sAug, DL.sAugS, DL.gSet, DL.gTupD, DL.gsNil, DL.gsCons, DL.gSubD, DL.sFor, DL.iRng1D_eq, DL.mVar, DL.mC, DL.mNil, DL.mCons, DL.mCall, DL.mBin, DL.mNeg, DL.mMt, DL.mSl, DL.oNo, DL.oYes, DL.tOf, DL.tNotD, DL.tAndD, DL.tOrD, DL.tTru, DL.truD, DL.tTrue, DL.vAnd, DL.vOr, DL.vNot, DL.vIf, DL.vChain, DL.tupF, DL.lstF, DL.allD, DL.ev_add, DL.ev_sub, DL.ev_iadd, DL.ev_isub, DL.ev_lt, DL.ev_gt, DL.ev_le, DL.ev_ge, DL.ev_eq, DL.ev_ne, DL.ev_min, DL.ev_max, DL.ev_int, DL.ev_abs, DL.sz1, DL.sz2, DL.sz3, DL.sz4, DL.sz5, DL.sz6, DL.sz7, DL.sz8, DL.szp, wipeD], ?_, fun _ => by simp [DL.sSeq, DL.sNil, DL.sPass, DL.sBreak, DL.sCont, DL.sExpr, DL.sRet, DL.sRetN, DL.sIf, DL.sAsg, DL.sPar, DL.sAug, DL.sAugS, DL.gSet, DL.gTupD, DL.gsNil, DL.gsCons, DL.gSubD, DL.sFor, DL.iRng1D_eq, DL.mVar, DL.mC, DL.mNil, DL.mCons, DL.mCall, DL.mBin, DL.mNeg, DL.mMt, DL.mSl, DL.oNo, DL.oYes, DL.tOf, DL.tNotD, DL.tAndD, DL.tOrD, DL.tTru, DL.truD, DL.tTrue, DL.vAnd, DL.vOr, DL.vNot, DL.vIf, DL.vChain, DL.tupF, DL.lstF, DL.allD, DL.ev_add, DL.ev_sub, DL.ev_iadd, DL.ev_isub, DL.ev_lt, DL.ev_gt, DL.ev_le, DL.ev_ge, DL.ev_eq, DL.ev_ne, DL.ev_min, DL.ev_max, DL.ev_int, DL.ev_abs, DL.sz1, DL.sz2, DL.sz3, DL.sz4, DL.sz5, DL.sz6, DL.sz7, DL.sz8, DL.szp]⟩
  have h1 := eq_tI o.1 r S
  have h2 := has_only_ok o.2.2 o.2.1 S
  by_cases k : o.1 = r
  · have : decide (o.1 = r) = true := by simp [k]
    simp only [this] at h1
    simp [DL.sSeq, DL.sNil, DL.sPass, DL.sBreak, DL.sCont, DL.sExpr, DL.sRet, DL.sRetN, DL.sIf, DL.sAsg, DL.sPar, DL.sAug, DL.sAugS, DL.gSet, DL.gTupD, DL.gsNil, DL.gsCons, DL.gSubD, DL.sFor, DL.iRng1D_eq, DL.mVar, DL.mC, DL.mNil, DL.mCons, DL.mCall, DL.mBin, DL.mNeg, DL.mMt, DL.mSl, DL.oNo, DL.oYes, DL.tOf, DL.tNotD, DL.tAndD, DL.tOrD, DL.tTru, DL.truD, DL.tTrue, DL.vAnd, DL.vOr, DL.vNot, DL.vIf, DL.vChain, DL.tupF, DL.lstF, DL.allD, DL.ev_add, DL.ev_sub, DL.ev_iadd, DL.ev_isub, DL.ev_lt, DL.ev_gt, DL.ev_le, DL.ev_ge, DL.ev_eq, DL.ev_ne, DL.ev_min, DL.ev_max, DL.ev_int, DL.ev_abs, DL.sz1, DL.sz2, DL.sz3, DL.sz4, DL.sz5, DL.sz6, DL.sz7, DL.sz8, DL.szp, oI, idxD, at30, at31, at32, eq_tI, h2, k]
  · have : decide (o.1 = r) = false := by simp [k]
    simp only [this] at h1
    simp [DL.sSeq, DL.sNil, DL.sPass, DL.sBreak, DL.sCont, DL.sExpr, DL.sRet, DL.sRetN, DL.sIf, DL.sAsg, DL.sPar, DL.sAug, DL.sAugS, DL.gSet, DL.gTupD, DL.gsNil, DL.gsCons, DL.gSubD, DL.sFor, DL.iRng1D_eq, DL.mVar, DL.mC, DL.mNil, DL.mCons, DL.mCall, DL.mBin, DL.mNeg, DL.mMt, DL.mSl, DL.oNo, DL.oYes, DL.tOf, DL.tNotD, DL.tAndD, DL.tOrD, DL.tTru, DL.truD, DL.tTrue, DL.vAnd, DL.vOr, DL.vNot, DL.vIf, DL.vChain, DL.tupF, DL.lstF, DL.allD, DL.ev_add, DL.ev_sub, DL.ev_iadd, DL.ev_isub, DL.ev_lt, DL.ev_gt, DL.ev_le, DL.ev_ge, DL.ev_eq, DL.ev_ne, DL.ev_min, DL.ev_max, DL.ev_int, DL.ev_abs, DL.sz1, DL.sz2, DL.sz3, DL.sz4, DL.sz5, DL.sz6, DL.sz7, DL.sz8, DL.szp, oI, idxD, at30, at31, at32, h1, k]
theorem sf1_ok {p n : Nat} {rs : List (List Int)} {os : List Od} {r : List Int} {z2 z3 z4 z5 z6 : Option W} (hz : os.length ≤ sizeLine) (hs : ∃ ds : List (List Int), ds.length = p ∧ ∀ S, callF f_steps_from [.d (bench p), .d (tI r)] S = some (.d (.list (ds.map tI)), S))
    (hn : (os.filter fun o => decide (o.1 = r) && decide (o.2.2 = o.2.1)).length = n) : ∃ ρ', sf1 [some (.d (task p rs os)), some (.d (tI r)), z2, z3, z4, z5, z6] [] = (if p < n then some (.rt (.d (.tuple [.str "from", tI r, .int n, .int p])), ρ', []) else some (.nx, ρ', [])) ∧ ∃ z2 z3, ρ' = [some (.d (task p rs os)), some (.d (tI r)), z2, z3, z4, z5, z6] := by
  obtain ⟨ds, hd, es⟩ := hs
  have e := fun S => sf1_lc (p := p) (rs := rs) (r := r) (z2 := z2) (z3 := z3) (z4 := z4) (z5 := z5) (z6 := z6) hz S
  refine ⟨[some (.d (task p rs os)), some (.d (tI r)), some (.d (.list ((os.filter fun o => decide (o.1 = r) && decide (o.2.2 = o.2.1)).map oI))), some (.d (.int p)), z4, z5, z6], ?_, _, _, rfl⟩
  have e0 : ∀ S, idxD (.d (task p rs os)) (.d (.int 0)) S = some (.d (bench p), S) := fun S => by simp [task, idxD, at30]
  unfold sf1
  rw [seq_nx (ρ1 := [some (.d (task p rs os)), some (.d (tI r)), some (.d (.list ((os.filter fun o => decide (o.1 = r) && decide (o.2.2 = o.2.1)).map oI))), z3, z4, z5, z6]) (S1 := []) (by rw [sAsg, e]; simp [gSet])]
  rw [seq_nx (ρ1 := [some (.d (task p rs os)), some (.d (tI r)), some (.d (.list ((os.filter fun o => decide (o.1 = r) && decide (o.2.2 = o.2.1)).map oI))), some (.d (.int p)), z4, z5, z6]) (S1 := []) (by simp [DL.sSeq, DL.sNil, DL.sPass, DL.sBreak, DL.sCont, DL.sExpr, DL.sRet, DL.sRetN, DL.sIf, DL.sAsg, DL.sPar, DL.sAug, DL.sAugS, DL.gSet, DL.gTupD, DL.gsNil, DL.gsCons, DL.gSubD, DL.sFor, DL.iRng1D_eq, DL.mVar, DL.mC, DL.mNil, DL.mCons, DL.mCall, DL.mBin, DL.mNeg, DL.mMt, DL.mSl, DL.oNo, DL.oYes, DL.tOf, DL.tNotD, DL.tAndD, DL.tOrD, DL.tTru, DL.truD, DL.tTrue, DL.vAnd, DL.vOr, DL.vNot, DL.vIf, DL.vChain, DL.tupF, DL.lstF, DL.allD, DL.ev_add, DL.ev_sub, DL.ev_iadd, DL.ev_isub, DL.ev_lt, DL.ev_gt, DL.ev_le, DL.ev_ge, DL.ev_eq, DL.ev_ne, DL.ev_min, DL.ev_max, DL.ev_int, DL.ev_abs, DL.sz1, DL.sz2, DL.sz3, DL.sz4, DL.sz5, DL.sz6, DL.sz7, DL.sz8, DL.szp, e0, es, lenD, on1, len0, hd])]
  generalize hg : (os.filter fun o => decide (o.1 = r) && decide (o.2.2 = o.2.1)) = fs at hn
  subst hn
  by_cases k : p < fs.length
  · simp [DL.sSeq, DL.sNil, DL.sPass, DL.sBreak, DL.sCont, DL.sExpr, DL.sRet, DL.sRetN, DL.sIf, DL.sAsg, DL.sPar, DL.sAug, DL.sAugS, DL.gSet, DL.gTupD, DL.gsNil, DL.gsCons, DL.gSubD, DL.sFor, DL.iRng1D_eq, DL.mVar, DL.mC, DL.mNil, DL.mCons, DL.mCall, DL.mBin, DL.mNeg, DL.mMt, DL.mSl, DL.oNo, DL.oYes, DL.tOf, DL.tNotD, DL.tAndD, DL.tOrD, DL.tTru, DL.truD, DL.tTrue, DL.vAnd, DL.vOr, DL.vNot, DL.vIf, DL.vChain, DL.tupF, DL.lstF, DL.allD, DL.ev_add, DL.ev_sub, DL.ev_iadd, DL.ev_isub, DL.ev_lt, DL.ev_gt, DL.ev_le, DL.ev_ge, DL.ev_eq, DL.ev_ne, DL.ev_min, DL.ev_max, DL.ev_int, DL.ev_abs, DL.sz1, DL.sz2, DL.sz3, DL.sz4, DL.sz5, DL.sz6, DL.sz7, DL.sz8, DL.szp, lenD, on1, len0, k]
  · simp [DL.sSeq, DL.sNil, DL.sPass, DL.sBreak, DL.sCont, DL.sExpr, DL.sRet, DL.sRetN, DL.sIf, DL.sAsg, DL.sPar, DL.sAug, DL.sAugS, DL.gSet, DL.gTupD, DL.gsNil, DL.gsCons, DL.gSubD, DL.sFor, DL.iRng1D_eq, DL.mVar, DL.mC, DL.mNil, DL.mCons, DL.mCall, DL.mBin, DL.mNeg, DL.mMt, DL.mSl, DL.oNo, DL.oYes, DL.tOf, DL.tNotD, DL.tAndD, DL.tOrD, DL.tTru, DL.truD, DL.tTrue, DL.vAnd, DL.vOr, DL.vNot, DL.vIf, DL.vChain, DL.tupF, DL.lstF, DL.allD, DL.ev_add, DL.ev_sub, DL.ev_iadd, DL.ev_isub, DL.ev_lt, DL.ev_gt, DL.ev_le, DL.ev_ge, DL.ev_eq, DL.ev_ne, DL.ev_min, DL.ev_max, DL.ev_int, DL.ev_abs, DL.sz1, DL.sz2, DL.sz3, DL.sz4, DL.sz5, DL.sz6, DL.sz7, DL.sz8, DL.szp, lenD, on1, len0, k]

def sf2 : MS := (sSeq (sAsg (mLc (iSeq (mBin idxD (mVar 0) (mC (.int 2)))) (gSet 6) (tAndD (tOf (mBin (eqA false) (mBin idxD (mVar 6) (mC (.int 1))) (mVar 1))) (tTru (mCall (callF f_has_only) (mCons (mBin idxD (mVar 6) (mC (.int 2))) (mCons (mBin idxD (mVar 6) (mC (.int 0))) (mNil)))))) (mVar 6) [6] kFrz) (gSet 2))
    (sSeq (sAsg (mCall lenD (mCons (mCall (callF f_steps_to) (mCons (mBin idxD (mVar 0) (mC (.int 0))) (mCons (mVar 1) (mNil)))) (mNil))) (gSet 3))
    (sIf (tOf (mBin gtD (mCall lenD (mCons (mVar 2) (mNil))) (mVar 3))) (sRet (mCall tupF (mCons (mC (.str "to")) (mCons (mVar 1) (mCons (mCall lenD (mCons (mVar 2) (mNil))) (mCons (mVar 3) (mNil))))))) (sNil))))
theorem sf2_lc {p : Nat} {rs : List (List Int)} {os : List Od} {r : List Int} {z2 z3 z4 z5 z6 : Option W} (hz : os.length ≤ sizeLine) (S : Sto) :
    mLc (iSeq (mBin idxD (mVar 0) (mC (.int 2)))) (gSet 6) (tAndD (tOf (mBin (eqA false) (mBin idxD (mVar 6) (mC (.int 1))) (mVar 1))) (tTru (mCall (callF f_has_only) (mCons (mBin idxD (mVar 6) (mC (.int 2))) (mCons (mBin idxD (mVar 6) (mC (.int 0))) (mNil)))))) (mVar 6) [6] kFrz
      [some (.d (task p rs os)), some (.d (tI r)), z2, z3, z4, z5, z6] S = some (.d (.list ((os.filter fun o => decide (o.2.1 = r) && decide (o.2.2 = o.1)).map oI)), S) := by
  refine lc_e oI _ oI (by simp [DL.sSeq, DL.sNil, DL.sPass, DL.sBreak, DL.sCont, DL.sExpr, DL.sRet, DL.sRetN, DL.sIf, DL.sAsg, DL.sPar, DL.sAug, DL.sAugS, DL.gSet, DL.gTupD, DL.gsNil, DL.gsCons, DL.gSubD, DL.sFor, DL.iRng1D_eq, DL.mVar, DL.mC, DL.mNil, DL.mCons, DL.mCall, DL.mBin, DL.mNeg, DL.mMt, DL.mSl, DL.oNo, DL.oYes, DL.tOf, DL.tNotD, DL.tAndD, DL.tOrD, DL.tTru, DL.truD, DL.tTrue, DL.vAnd, DL.vOr, DL.vNot, DL.vIf, DL.vChain, DL.tupF, DL.lstF, DL.allD, DL.ev_add, DL.ev_sub, DL.ev_iadd, DL.ev_isub, DL.ev_lt, DL.ev_gt, DL.ev_le, DL.ev_ge, DL.ev_eq, DL.ev_ne, DL.ev_min, DL.ev_max, DL.ev_int, DL.ev_abs, DL.sz1, DL.sz2, DL.sz3, DL.sz4, DL.sz5, DL.sz6, DL.sz7, DL.sz8, DL.szp, iSeq, task, idxD, at32]) (fun o ho => ?_) (Nat.le_trans (List.length_filter_le _ _) hz)
  refine ⟨[some (.d (task p rs os)), some (.d (tI r)), z2, z3, z4, z5, some (.d (oI o))], by simp [DL.sSeq, DL.sNil, DL.sPass, DL.sBreak, DL.sCont, DL.sExpr, DL.sRet, DL.sRetN, DL.sIf, DL.sAsg, DL.sPar, DL.sAug, DL.sAugS, DL.gSet, DL.gTupD, DL.gsNil, DL.gsCons, DL.gSubD, DL.sFor, DL.iRng1D_eq, DL.mVar, DL.mC, DL.mNil, DL.mCons, DL.mCall, DL.mBin, DL.mNeg, DL.mMt, DL.mSl, DL.oNo, DL.oYes, DL.tOf, DL.tNotD, DL.tAndD, DL.tOrD, DL.tTru, DL.truD, DL.tTrue, DL.vAnd, DL.vOr, DL.vNot, DL.vIf, DL.vChain, DL.tupF, DL.lstF, DL.allD, DL.ev_add, DL.ev_sub, DL.ev_iadd, DL.ev_isub, DL.ev_lt, DL.ev_gt, DL.ev_le, DL.ev_ge, DL.ev_eq, DL.ev_ne, DL.ev_min, DL.ev_max, DL.ev_int, DL.ev_abs, DL.sz1, DL.sz2, DL.sz3, DL.sz4, DL.sz5, DL.sz6, DL.sz7, DL.sz8, DL.szp, wipeD], ?_, fun _ => by simp [DL.sSeq, DL.sNil, DL.sPass, DL.sBreak, DL.sCont, DL.sExpr, DL.sRet, DL.sRetN, DL.sIf, DL.sAsg, DL.sPar, DL.sAug, DL.sAugS, DL.gSet, DL.gTupD, DL.gsNil, DL.gsCons, DL.gSubD, DL.sFor, DL.iRng1D_eq, DL.mVar, DL.mC, DL.mNil, DL.mCons, DL.mCall, DL.mBin, DL.mNeg, DL.mMt, DL.mSl, DL.oNo, DL.oYes, DL.tOf, DL.tNotD, DL.tAndD, DL.tOrD, DL.tTru, DL.truD, DL.tTrue, DL.vAnd, DL.vOr, DL.vNot, DL.vIf, DL.vChain, DL.tupF, DL.lstF, DL.allD, DL.ev_add, DL.ev_sub, DL.ev_iadd, DL.ev_isub, DL.ev_lt, DL.ev_gt, DL.ev_le, DL.ev_ge, DL.ev_eq, DL.ev_ne, DL.ev_min, DL.ev_max, DL.ev_int, DL.ev_abs, DL.sz1, DL.sz2, DL.sz3, DL.sz4, DL.sz5, DL.sz6, DL.sz7, DL.sz8, DL.szp]⟩
  have h1 := eq_tI o.2.1 r S
  have h2 := has_only_ok o.2.2 o.1 S
  by_cases k : o.2.1 = r
  · have : decide (o.2.1 = r) = true := by simp [k]
    simp only [this] at h1
    simp [DL.sSeq, DL.sNil, DL.sPass, DL.sBreak, DL.sCont, DL.sExpr, DL.sRet, DL.sRetN, DL.sIf, DL.sAsg, DL.sPar, DL.sAug, DL.sAugS, DL.gSet, DL.gTupD, DL.gsNil, DL.gsCons, DL.gSubD, DL.sFor, DL.iRng1D_eq, DL.mVar, DL.mC, DL.mNil, DL.mCons, DL.mCall, DL.mBin, DL.mNeg, DL.mMt, DL.mSl, DL.oNo, DL.oYes, DL.tOf, DL.tNotD, DL.tAndD, DL.tOrD, DL.tTru, DL.truD, DL.tTrue, DL.vAnd, DL.vOr, DL.vNot, DL.vIf, DL.vChain, DL.tupF, DL.lstF, DL.allD, DL.ev_add, DL.ev_sub, DL.ev_iadd, DL.ev_isub, DL.ev_lt, DL.ev_gt, DL.ev_le, DL.ev_ge, DL.ev_eq, DL.ev_ne, DL.ev_min, DL.ev_max, DL.ev_int, DL.ev_abs, DL.sz1, DL.sz2, DL.sz3, DL.sz4, DL.sz5, DL.sz6, DL.sz7, DL.sz8, DL.szp, oI, idxD, at30, at31, at32, eq_tI, h2, k]
  · have : decide (o.2.1 = r) = false := by simp [k]
    simp only [this] at h1
    simp [DL.sSeq, DL.sNil, DL.sPass, DL.sBreak, DL.sCont, DL.sExpr, DL.sRet, DL.sRetN, DL.sIf, DL.sAsg, DL.sPar, DL.sAug, DL.sAugS, DL.gSet, DL.gTupD, DL.gsNil, DL.gsCons, DL.gSubD, DL.sFor, DL.iRng1D_eq, DL.mVar, DL.mC, DL.mNil, DL.mCons, DL.mCall, DL.mBin, DL.mNeg, DL.mMt, DL.mSl, DL.oNo, DL.oYes, DL.tOf, DL.tNotD, DL.tAndD, DL.tOrD, DL.tTru, DL.truD, DL.tTrue, DL.vAnd, DL.vOr, DL.vNot, DL.vIf, DL.vChain, DL.tupF, DL.lstF, DL.allD, DL.ev_add, DL.ev_sub, DL.ev_iadd, DL.ev_isub, DL.ev_lt, DL.ev_gt, DL.ev_le, DL.ev_ge, DL.ev_eq, DL.ev_ne, DL.ev_min, DL.ev_max, DL.ev_int, DL.ev_abs, DL.sz1, DL.sz2, DL.sz3, DL.sz4, DL.sz5, DL.sz6, DL.sz7, DL.sz8, DL.szp, oI, idxD, at30, at31, at32, h1, k]
theorem sf2_ok {p n : Nat} {rs : List (List Int)} {os : List Od} {r : List Int} {z2 z3 z4 z5 z6 : Option W} (hz : os.length ≤ sizeLine) (hs : ∃ ds : List (List Int), ds.length = p ∧ ∀ S, callF f_steps_to [.d (bench p), .d (tI r)] S = some (.d (.list (ds.map tI)), S))
    (hn : (os.filter fun o => decide (o.2.1 = r) && decide (o.2.2 = o.1)).length = n) : ∃ ρ', sf2 [some (.d (task p rs os)), some (.d (tI r)), z2, z3, z4, z5, z6] [] = (if p < n then some (.rt (.d (.tuple [.str "to", tI r, .int n, .int p])), ρ', []) else some (.nx, ρ', [])) ∧ ∃ z2 z3, ρ' = [some (.d (task p rs os)), some (.d (tI r)), z2, z3, z4, z5, z6] := by
  obtain ⟨ds, hd, es⟩ := hs
  have e := fun S => sf2_lc (p := p) (rs := rs) (r := r) (z2 := z2) (z3 := z3) (z4 := z4) (z5 := z5) (z6 := z6) hz S
  refine ⟨[some (.d (task p rs os)), some (.d (tI r)), some (.d (.list ((os.filter fun o => decide (o.2.1 = r) && decide (o.2.2 = o.1)).map oI))), some (.d (.int p)), z4, z5, z6], ?_, _, _, rfl⟩
  have e0 : ∀ S, idxD (.d (task p rs os)) (.d (.int 0)) S = some (.d (bench p), S) := fun S => by simp [task, idxD, at30]
  unfold sf2
  rw [seq_nx (ρ1 := [some (.d (task p rs os)), some (.d (tI r)), some (.d (.list ((os.filter fun o => decide (o.2.1 = r) && decide (o.2.2 = o.1)).map oI))), z3, z4, z5, z6]) (S1 := []) (by rw [sAsg, e]; simp [gSet])]
  rw [seq_nx (ρ1 := [some (.d (task p rs os)), some (.d (tI r)), some (.d (.list ((os.filter fun o => decide (o.2.1 = r) && decide (o.2.2 = o.1)).map oI))), some (.d (.int p)), z4, z5, z6]) (S1 := []) (by simp [DL.sSeq, DL.sNil, DL.sPass, DL.sBreak, DL.sCont, DL.sExpr, DL.sRet, DL.sRetN, DL.sIf, DL.sAsg, DL.sPar, DL.sAug, DL.sAugS, DL.gSet, DL.gTupD, DL.gsNil, DL.gsCons, DL.gSubD, DL.sFor, DL.iRng1D_eq, DL.mVar, DL.mC, DL.mNil, DL.mCons, DL.mCall, DL.mBin, DL.mNeg, DL.mMt, DL.mSl, DL.oNo, DL.oYes, DL.tOf, DL.tNotD, DL.tAndD, DL.tOrD, DL.tTru, DL.truD, DL.tTrue, DL.vAnd, DL.vOr, DL.vNot, DL.vIf, DL.vChain, DL.tupF, DL.lstF, DL.allD, DL.ev_add, DL.ev_sub, DL.ev_iadd, DL.ev_isub, DL.ev_lt, DL.ev_gt, DL.ev_le, DL.ev_ge, DL.ev_eq, DL.ev_ne, DL.ev_min, DL.ev_max, DL.ev_int, DL.ev_abs, DL.sz1, DL.sz2, DL.sz3, DL.sz4, DL.sz5, DL.sz6, DL.sz7, DL.sz8, DL.szp, e0, es, lenD, on1, len0, hd])]
  generalize hg : (os.filter fun o => decide (o.2.1 = r) && decide (o.2.2 = o.1)) = fs at hn
  subst hn
  by_cases k : p < fs.length
  · simp [DL.sSeq, DL.sNil, DL.sPass, DL.sBreak, DL.sCont, DL.sExpr, DL.sRet, DL.sRetN, DL.sIf, DL.sAsg, DL.sPar, DL.sAug, DL.sAugS, DL.gSet, DL.gTupD, DL.gsNil, DL.gsCons, DL.gSubD, DL.sFor, DL.iRng1D_eq, DL.mVar, DL.mC, DL.mNil, DL.mCons, DL.mCall, DL.mBin, DL.mNeg, DL.mMt, DL.mSl, DL.oNo, DL.oYes, DL.tOf, DL.tNotD, DL.tAndD, DL.tOrD, DL.tTru, DL.truD, DL.tTrue, DL.vAnd, DL.vOr, DL.vNot, DL.vIf, DL.vChain, DL.tupF, DL.lstF, DL.allD, DL.ev_add, DL.ev_sub, DL.ev_iadd, DL.ev_isub, DL.ev_lt, DL.ev_gt, DL.ev_le, DL.ev_ge, DL.ev_eq, DL.ev_ne, DL.ev_min, DL.ev_max, DL.ev_int, DL.ev_abs, DL.sz1, DL.sz2, DL.sz3, DL.sz4, DL.sz5, DL.sz6, DL.sz7, DL.sz8, DL.szp, lenD, on1, len0, k]
  · simp [DL.sSeq, DL.sNil, DL.sPass, DL.sBreak, DL.sCont, DL.sExpr, DL.sRet, DL.sRetN, DL.sIf, DL.sAsg, DL.sPar, DL.sAug, DL.sAugS, DL.gSet, DL.gTupD, DL.gsNil, DL.gsCons, DL.gSubD, DL.sFor, DL.iRng1D_eq, DL.mVar, DL.mC, DL.mNil, DL.mCons, DL.mCall, DL.mBin, DL.mNeg, DL.mMt, DL.mSl, DL.oNo, DL.oYes, DL.tOf, DL.tNotD, DL.tAndD, DL.tOrD, DL.tTru, DL.truD, DL.tTrue, DL.vAnd, DL.vOr, DL.vNot, DL.vIf, DL.vChain, DL.tupF, DL.lstF, DL.allD, DL.ev_add, DL.ev_sub, DL.ev_iadd, DL.ev_isub, DL.ev_lt, DL.ev_gt, DL.ev_le, DL.ev_ge, DL.ev_eq, DL.ev_ne, DL.ev_min, DL.ev_max, DL.ev_int, DL.ev_abs, DL.sz1, DL.sz2, DL.sz3, DL.sz4, DL.sz5, DL.sz6, DL.sz7, DL.sz8, DL.szp, lenD, on1, len0, k]

end K75
end
noncomputable section
namespace K75
open PySem PySem.Spec PyProof.Rows L2 DL
def ordsOf (x : List Int → List Int → List Int) (rs : List (List Int)) : List Od := (rs.map fun a => (rs.filter fun b => !decide (b = a)).map fun b => (a, b, x a b)).flatten
theorem sum_const {α : Type} {f : α → Nat} {k : Nat} : ∀ {l : List α}, (∀ a ∈ l, f a = k) → (l.map f).sum = k * l.length
  | [], _ => by simp
  | a :: l, h => by
    rw [List.map_cons, List.sum_cons, h a (by simp), sum_const fun b hb => h b (by simp [hb]), List.length_cons, Nat.mul_succ]; omega
theorem cnt_sum (x : List Int → List Int → List Int) (P : Od → Bool) (rs : List (List Int)) : ((ordsOf x rs).filter P).length = (rs.map fun a => ((rs.filter fun b => !decide (b = a)).filter fun b => P (a, b, x a b)).length).sum := by
  unfold ordsOf
  rw [List.filter_flatten, List.length_flatten, List.map_map, List.map_map]
  congr 1
  refine List.map_congr_left fun a _ => ?_
  simp only [Function.comp_def, List.filter_map, List.length_map]
theorem filter_none {α : Type} {P : α → Bool} {l : List α} (h : ∀ a ∈ l, P a = false) : (l.filter P).length = 0 := by
  rw [List.length_eq_zero_iff, List.filter_eq_nil_iff]
  intro a ha; rw [h a ha]; simp
theorem filter_all {α : Type} {P : α → Bool} {l : List α} (h : ∀ a ∈ l, P a = true) : l.filter P = l := List.filter_eq_self.mpr h
theorem cnt1 {r : List Int} {tl : List (List Int)} {os : List Od} (hn : (r :: tl).Nodup) (hp : os.Perm (ordsOf (fun _ b => b) (r :: tl))) : (os.filter fun o => decide (o.1 = r) && decide (o.2.2 = o.2.1)).length = tl.length := by
  rw [(hp.filter _).length_eq, cnt_sum, List.map_cons, List.sum_cons]
  have hn' := List.nodup_cons.mp hn
  rw [sum_const (k := 0) (l := tl)]
  · have : ((r :: tl).filter fun b => !decide (b = r)) = tl := by
      rw [List.filter_cons]
      simp only [decide_true, Bool.not_true, Bool.false_eq_true, if_false]
      exact filter_all fun a ha => by
        have : a ≠ r := by rintro rfl; exact hn'.1 ha
        simp [this]
    rw [this, filter_all (fun a _ => by simp)]
    omega
  · intro a ha
    have : a ≠ r := by rintro rfl; exact hn'.1 ha
    exact filter_none fun b _ => by simp [this]
theorem cnt2 {r : List Int} {rs : List (List Int)} {os : List Od} (hp : os.Perm (ordsOf (fun a _ => a) rs)) : (os.filter fun o => decide (o.1 = r) && decide (o.2.2 = o.2.1)).length = 0 := by
  rw [(hp.filter _).length_eq, cnt_sum, sum_const (k := 0)]
  · omega
  · intro a _
    refine filter_none fun b hb => ?_
    have := (List.mem_filter.mp hb).2
    simp only [Bool.not_eq_true', decide_eq_false_iff_not] at this
    have h2 : a ≠ b := fun e => this e.symm
    simp [h2]
theorem cnt3 {r : List Int} {tl : List (List Int)} {os : List Od} (hn : (r :: tl).Nodup) (hp : os.Perm (ordsOf (fun a _ => a) (r :: tl))) : (os.filter fun o => decide (o.2.1 = r) && decide (o.2.2 = o.1)).length = tl.length := by
  rw [(hp.filter _).length_eq, cnt_sum, List.map_cons, List.sum_cons]
  have hn' := List.nodup_cons.mp hn
  rw [sum_const (k := 1) (l := tl), filter_none]
  · omega
  · intro b hb
    have := (List.mem_filter.mp hb).2
    simp only [Bool.not_eq_true', decide_eq_false_iff_not] at this
    simp [this]
  · intro a ha
    have : r ≠ a := by rintro rfl; exact hn'.1 ha
    rw [List.filter_cons]
    simp only [this, decide_false, Bool.not_false, if_true, List.filter_cons, decide_true, Bool.and_true, List.length_cons]
    rw [filter_none]
    intro b hb
    have hb' := (List.mem_filter.mp hb).1
    have : b ≠ r := by rintro rfl; exact hn'.1 hb'
    simp [this]
theorem ords_len (x : List Int → List Int → List Int) (rs : List (List Int)) : (ordsOf x rs).length ≤ rs.length * rs.length := by
  have h := cnt_sum x (fun _ => true) rs
  rw [filter_all (fun _ _ => rfl)] at h
  rw [h]
  have hs : ∀ l : List (List Int), (l.map fun a => ((rs.filter fun b => !decide (b = a)).filter fun _ => true).length).sum ≤ l.length * rs.length := by
    intro l
    induction l with
    | nil => simp
    | cons a l ih =>
      rw [List.map_cons, List.sum_cons, List.length_cons, Nat.succ_mul]
      have h1 : ((rs.filter fun b => !decide (b = a)).filter fun _ => true).length ≤ rs.length := Nat.le_trans (List.length_filter_le _ _) (List.length_filter_le _ _)
      omega
  exact hs rs
def StepsOk (p : Nat) (call : FS) (rs : List (List Int)) : Prop := ∀ r ∈ rs, ∃ ds : List (List Int), ds.length = p ∧ ∀ S, callF call [.d (bench p), .d (tI r)] S = some (.d (.list (ds.map tI)), S)
theorem b_sum_fault_eq : b_sum_fault = sSeq (sFor (iSeq (mBin idxD (mVar 0) (mC (.int 1)))) (gSet 1) sf1) (sSeq (sFor (iSeq (mBin idxD (mVar 0) (mC (.int 1)))) (gSet 1) sf2) (sSeq (sNever) (sRet (mC .none)))) := rfl
theorem task1 {p : Nat} {rs : List (List Int)} {os : List Od} {a b c d e f : Option W} {S : Sto} : iSeq (mBin idxD (mVar 0) (mC (.int 1))) [some (.d (task p rs os)), a, b, c, d, e, f] S = some ((rs.map tI).map W.d, S) := by
  simp [DL.sSeq, DL.sNil, DL.sPass, DL.sBreak, DL.sCont, DL.sExpr, DL.sRet, DL.sRetN, DL.sIf, DL.sAsg, DL.sPar, DL.sAug, DL.sAugS, DL.gSet, DL.gTupD, DL.gsNil, DL.gsCons, DL.gSubD, DL.sFor, DL.iRng1D_eq, DL.mVar, DL.mC, DL.mNil, DL.mCons, DL.mCall, DL.mBin, DL.mNeg, DL.mMt, DL.mSl, DL.oNo, DL.oYes, DL.tOf, DL.tNotD, DL.tAndD, DL.tOrD, DL.tTru, DL.truD, DL.tTrue, DL.vAnd, DL.vOr, DL.vNot, DL.vIf, DL.vChain, DL.tupF, DL.lstF, DL.allD, DL.ev_add, DL.ev_sub, DL.ev_iadd, DL.ev_isub, DL.ev_lt, DL.ev_gt, DL.ev_le, DL.ev_ge, DL.ev_eq, DL.ev_ne, DL.ev_min, DL.ev_max, DL.ev_int, DL.ev_abs, DL.sz1, DL.sz2, DL.sz3, DL.sz4, DL.sz5, DL.sz6, DL.sz7, DL.sz8, DL.szp, iSeq, task, idxD, at31]
theorem fault_from {p : Nat} {r : List Int} {tl : List (List Int)} {os : List Od} (hn : (r :: tl).Nodup) (hp : os.Perm (ordsOf (fun _ b => b) (r :: tl))) (hz : os.length ≤ sizeLine) (hl : p < tl.length) (hs : StepsOk p f_steps_from (r :: tl)) (S : Sto) :
    callF f_sum_fault [.d (task p (r :: tl) os)] S = some (.d (.tuple [.str "from", tI r, .int tl.length, .int p]), S) := by
  refine callF_pure rfl (runF_ret0 ?_)
  obtain ⟨ρ', e, _⟩ := sf1_ok (z2 := none) (z3 := none) (z4 := none) (z5 := none) (z6 := none) (rs := r :: tl) hz (hs r (by simp)) (cnt1 hn hp)
  rw [if_pos hl] at e
  refine ⟨ρ', [], ?_⟩
  rw [b_sum_fault_eq]
  refine seq_rt ?_
  show sFor _ _ _ [some (.d (task p (r :: tl) os)), none, none, none, none, none, none] [] = _
  simp only [sFor, task1, Option.bind_some, List.map_cons, forL]
  simp [gSet, e]
theorem fault_to {p : Nat} {r : List Int} {tl : List (List Int)} {os : List Od} (hn : (r :: tl).Nodup) (hp : os.Perm (ordsOf (fun a _ => a) (r :: tl))) (hz : os.length ≤ sizeLine) (hl : p < tl.length) (hs : StepsOk p f_steps_from (r :: tl)) (ht : StepsOk p f_steps_to (r :: tl)) (S : Sto) :
    callF f_sum_fault [.d (task p (r :: tl) os)] S = some (.d (.tuple [.str "to", tI r, .int tl.length, .int p]), S) := by
  refine callF_pure rfl (runF_ret0 ?_)
  obtain ⟨ρ1, S1, e1, a, b, c, d, f, g, rfl, rfl⟩ := forL_J (g := gSet 1) (F := sf1) (ws := ((r :: tl).map tI).map W.d) (k := 0) (J := fun i ρ S => ∃ a b c d e f, ρ = [some (.d (task p (r :: tl) os)), a, b, c, d, e, f] ∧ S = [])
    (ρ := [some (.d (task p (r :: tl) os)), none, none, none, none, none, none]) (S := []) (fun i w ρ S hw ⟨a, b, c, d, e, f, h1, h2⟩ => by
      subst h1 h2
      simp only [List.getElem?_map, Option.map_eq_some_iff] at hw
      obtain ⟨_, ⟨x, hx, rfl⟩, rfl⟩ := hw
      obtain ⟨ρ', e', z2, z3, rfl⟩ := sf1_ok (z2 := b) (z3 := c) (z4 := d) (z5 := e) (z6 := f) (rs := r :: tl) hz (hs x (List.mem_of_getElem? hx)) (cnt2 hp)
      rw [if_neg (by omega)] at e'
      exact ⟨_, _, by simpa [gSet] using e', _, _, _, _, _, _, rfl, rfl⟩) ⟨_, _, _, _, _, _, rfl, rfl⟩
  obtain ⟨ρ', e, _⟩ := sf2_ok (z2 := b) (z3 := c) (z4 := d) (z5 := f) (z6 := g) (rs := r :: tl) hz (ht r (by simp)) (cnt3 hn hp)
  rw [if_pos hl] at e
  refine ⟨ρ', [], ?_⟩
  rw [b_sum_fault_eq]
  show sSeq _ _ [some (.d (task p (r :: tl) os)), none, none, none, none, none, none] [] = _
  rw [seq_nx (ρ1 := [some (.d (task p (r :: tl) os)), a, b, c, d, f, g]) (S1 := []) (by simp only [sFor, task1, Option.bind_some]; exact e1)]
  refine seq_rt ?_
  simp only [sFor, task1, Option.bind_some, List.map_cons, forL]
  simp [gSet, e]
end K75
end
noncomputable section
namespace K75
open PySem PySem.Spec PyProof.Rows L2 DL
def wayB : MS := (sSeq (sAsg (mCall (callF f_l_flat) (mCons (mLc (iSeq (mVar 3)) (gSet 7) (tTrue) (mLc (iSeq (mVar 3)) (gSet 8) (tOf (mBin (eqA true) (mVar 8) (mVar 7))) (mCall tupF (mCons (mVar 7) (mCons (mVar 8) (mCons (mSl (mCall tupF (mCons (mVar 8) (mCons (mVar 7) (mNil)))) (oYes (mVar 4)) (oYes (mBin addA (mVar 4) (mC (.int 1))))) (mNil))))) [8] kFrz) [7] kFrz) (mNil))) (gSet 5))
    (sSeq (sAsg (mCall (callF f_sum_fault) (mCons (mCall tupF (mCons (mVar 2) (mCons (mVar 3) (mCons (mCall tupleD (mCons (mCall sortedD (mCons (mVar 5) (mNil))) (mNil))) (mNil))))) (mNil))) (gSet 6))
    (sIf (tNotD (tTru (mCall (callF f_l_alike) (mCons (mVar 6) (mCons (mCall tupF (mCons (mBin idxD (mCall lstF (mCons (mC (.str "from")) (mCons (mC (.str "to")) (mNil)))) (mVar 4)) (mCons (mBin idxD (mVar 3) (mC (.int 0))) (mCons (mBin addA (mVar 1) (mC (.int 1))) (mCons (mVar 1) (mNil)))))) (mNil)))))) (sRet (mC (.bool false))) (sNil))))
theorem b_barred_eq : b_l_are_barred = sSeq (sAsg (mBin mulD (mCall tupF (mCons (mCall tupF (mCons (mC (.int 2)) (mCons (mCall tupF (mCons (mCall tupF (mCons (mC (.int 0)) (mCons (mC (.int 1)) (mNil)))) (mCons (mCall tupF (mCons (mC (.int 1)) (mCons (mC (.int 0)) (mNil)))) (mNil)))) (mNil)))) (mNil))) (mVar 1)) (gSet 2))
    (sSeq (sAsg (mCall tupleD (mCons (mCall sortedD (mCons (mSl (mCall (callF f_l_mixed) (mCons (mVar 0) (mCons (mCall (callF f_l_contents) (mCons (mVar 2) (mNil))) (mNil)))) (oNo) (oYes (mBin addA (mVar 1) (mC (.int 2))))) (mNil))) (mNil))) (gSet 3))
    (sSeq (sFor (iRng1D (mCons (mC (.int 2)) (mNil))) (gSet 4) wayB)
    (sRet (mC (.bool true))))) := rfl
theorem rows_lc {p : Nat} {wy : Nat} {rs : List (List Int)} {x : List Int → List Int → List Int} {z2 z5 z6 z7 z8 : Option W} {z0 z1 : Option W} (hx : ∀ a b, cutD [tI b, tI a] (some (wy : Int)) (some ((wy : Int) + 1)) = [tI (x a b)]) (hz : rs.length ≤ sizeLine) (S : Sto) :
    mLc (iSeq (mVar 3)) (gSet 7) (tTrue) (mLc (iSeq (mVar 3)) (gSet 8) (tOf (mBin (eqA true) (mVar 8) (mVar 7))) (mCall tupF (mCons (mVar 7) (mCons (mVar 8) (mCons (mSl (mCall tupF (mCons (mVar 8) (mCons (mVar 7) (mNil)))) (oYes (mVar 4)) (oYes (mBin addA (mVar 4) (mC (.int 1))))) (mNil))))) [8] kFrz) [7] kFrz
      [z0, z1, z2, some (.d (.tuple (rs.map tI))), some (.d (.int wy)), z5, z6, z7, z8] S = some (.d (.list ((rs.map fun a => (rs.filter fun b => !decide (b = a)).map fun b => oI (a, b, x a b)).map .list)), S) := by
  have ho := lc_e (it := iSeq (mVar 3)) (g := gSet 7) (T := tTrue) (E := mLc (iSeq (mVar 3)) (gSet 8) (tOf (mBin (eqA true) (mVar 8) (mVar 7))) (mCall tupF (mCons (mVar 7) (mCons (mVar 8) (mCons (mSl (mCall tupF (mCons (mVar 8) (mCons (mVar 7) (mNil)))) (oYes (mVar 4)) (oYes (mBin addA (mVar 4) (mC (.int 1))))) (mNil))))) [8] kFrz) (vs := [7])
    (ρ := [z0, z1, z2, some (.d (.tuple (rs.map tI))), some (.d (.int wy)), z5, z6, z7, z8]) (S := S) (l := rs) tI (fun _ => true) (fun a => .list ((rs.filter fun b => !decide (b = a)).map fun b => oI (a, b, x a b))) (by simp [DL.sSeq, DL.sNil, DL.sPass, DL.sBreak, DL.sCont, DL.sExpr, DL.sRet, DL.sRetN, DL.sIf, DL.sAsg, DL.sPar, DL.sAug, DL.sAugS, DL.gSet, DL.gTupD, DL.gsNil, DL.gsCons, DL.gSubD, DL.sFor, DL.iRng1D_eq, DL.mVar, DL.mC, DL.mNil, DL.mCons, DL.mCall, DL.mBin, DL.mNeg, DL.mMt, DL.mSl, DL.oNo, DL.oYes, DL.tOf, DL.tNotD, DL.tAndD, DL.tOrD, DL.tTru, DL.truD, DL.tTrue, DL.vAnd, DL.vOr, DL.vNot, DL.vIf, DL.vChain, DL.tupF, DL.lstF, DL.allD, DL.ev_add, DL.ev_sub, DL.ev_iadd, DL.ev_isub, DL.ev_lt, DL.ev_gt, DL.ev_le, DL.ev_ge, DL.ev_eq, DL.ev_ne, DL.ev_min, DL.ev_max, DL.ev_int, DL.ev_abs, DL.sz1, DL.sz2, DL.sz3, DL.sz4, DL.sz5, DL.sz6, DL.sz7, DL.sz8, DL.szp, iSeq]) (fun a _ => by
      refine ⟨[z0, z1, z2, some (.d (.tuple (rs.map tI))), some (.d (.int wy)), z5, z6, some (.d (tI a)), z8], by simp [DL.sSeq, DL.sNil, DL.sPass, DL.sBreak, DL.sCont, DL.sExpr, DL.sRet, DL.sRetN, DL.sIf, DL.sAsg, DL.sPar, DL.sAug, DL.sAugS, DL.gSet, DL.gTupD, DL.gsNil, DL.gsCons, DL.gSubD, DL.sFor, DL.iRng1D_eq, DL.mVar, DL.mC, DL.mNil, DL.mCons, DL.mCall, DL.mBin, DL.mNeg, DL.mMt, DL.mSl, DL.oNo, DL.oYes, DL.tOf, DL.tNotD, DL.tAndD, DL.tOrD, DL.tTru, DL.truD, DL.tTrue, DL.vAnd, DL.vOr, DL.vNot, DL.vIf, DL.vChain, DL.tupF, DL.lstF, DL.allD, DL.ev_add, DL.ev_sub, DL.ev_iadd, DL.ev_isub, DL.ev_lt, DL.ev_gt, DL.ev_le, DL.ev_ge, DL.ev_eq, DL.ev_ne, DL.ev_min, DL.ev_max, DL.ev_int, DL.ev_abs, DL.sz1, DL.sz2, DL.sz3, DL.sz4, DL.sz5, DL.sz6, DL.sz7, DL.sz8, DL.szp, wipeD], rfl, fun _ => ?_⟩
      refine lc_e tI _ (fun b => oI (a, b, x a b)) (by simp [DL.sSeq, DL.sNil, DL.sPass, DL.sBreak, DL.sCont, DL.sExpr, DL.sRet, DL.sRetN, DL.sIf, DL.sAsg, DL.sPar, DL.sAug, DL.sAugS, DL.gSet, DL.gTupD, DL.gsNil, DL.gsCons, DL.gSubD, DL.sFor, DL.iRng1D_eq, DL.mVar, DL.mC, DL.mNil, DL.mCons, DL.mCall, DL.mBin, DL.mNeg, DL.mMt, DL.mSl, DL.oNo, DL.oYes, DL.tOf, DL.tNotD, DL.tAndD, DL.tOrD, DL.tTru, DL.truD, DL.tTrue, DL.vAnd, DL.vOr, DL.vNot, DL.vIf, DL.vChain, DL.tupF, DL.lstF, DL.allD, DL.ev_add, DL.ev_sub, DL.ev_iadd, DL.ev_isub, DL.ev_lt, DL.ev_gt, DL.ev_le, DL.ev_ge, DL.ev_eq, DL.ev_ne, DL.ev_min, DL.ev_max, DL.ev_int, DL.ev_abs, DL.sz1, DL.sz2, DL.sz3, DL.sz4, DL.sz5, DL.sz6, DL.sz7, DL.sz8, DL.szp, iSeq]) (fun b _ => ?_) (Nat.le_trans (List.length_filter_le _ _) hz)
      refine ⟨[z0, z1, z2, some (.d (.tuple (rs.map tI))), some (.d (.int wy)), z5, z6, some (.d (tI a)), some (.d (tI b))], by simp [DL.sSeq, DL.sNil, DL.sPass, DL.sBreak, DL.sCont, DL.sExpr, DL.sRet, DL.sRetN, DL.sIf, DL.sAsg, DL.sPar, DL.sAug, DL.sAugS, DL.gSet, DL.gTupD, DL.gsNil, DL.gsCons, DL.gSubD, DL.sFor, DL.iRng1D_eq, DL.mVar, DL.mC, DL.mNil, DL.mCons, DL.mCall, DL.mBin, DL.mNeg, DL.mMt, DL.mSl, DL.oNo, DL.oYes, DL.tOf, DL.tNotD, DL.tAndD, DL.tOrD, DL.tTru, DL.truD, DL.tTrue, DL.vAnd, DL.vOr, DL.vNot, DL.vIf, DL.vChain, DL.tupF, DL.lstF, DL.allD, DL.ev_add, DL.ev_sub, DL.ev_iadd, DL.ev_isub, DL.ev_lt, DL.ev_gt, DL.ev_le, DL.ev_ge, DL.ev_eq, DL.ev_ne, DL.ev_min, DL.ev_max, DL.ev_int, DL.ev_abs, DL.sz1, DL.sz2, DL.sz3, DL.sz4, DL.sz5, DL.sz6, DL.sz7, DL.sz8, DL.szp, wipeD], by simp [DL.sSeq, DL.sNil, DL.sPass, DL.sBreak, DL.sCont, DL.sExpr, DL.sRet, DL.sRetN, DL.sIf, DL.sAsg, DL.sPar, DL.sAug, DL.sAugS, DL.gSet, DL.gTupD, DL.gsNil, DL.gsCons, DL.gSubD, DL.sFor, DL.iRng1D_eq, DL.mVar, DL.mC, DL.mNil, DL.mCons, DL.mCall, DL.mBin, DL.mNeg, DL.mMt, DL.mSl, DL.oNo, DL.oYes, DL.tOf, DL.tNotD, DL.tAndD, DL.tOrD, DL.tTru, DL.truD, DL.tTrue, DL.vAnd, DL.vOr, DL.vNot, DL.vIf, DL.vChain, DL.tupF, DL.lstF, DL.allD, DL.ev_add, DL.ev_sub, DL.ev_iadd, DL.ev_isub, DL.ev_lt, DL.ev_gt, DL.ev_le, DL.ev_ge, DL.ev_eq, DL.ev_ne, DL.ev_min, DL.ev_max, DL.ev_int, DL.ev_abs, DL.sz1, DL.sz2, DL.sz3, DL.sz4, DL.sz5, DL.sz6, DL.sz7, DL.sz8, DL.szp, ne_tI], fun _ => ?_⟩
      simp [DL.sSeq, DL.sNil, DL.sPass, DL.sBreak, DL.sCont, DL.sExpr, DL.sRet, DL.sRetN, DL.sIf, DL.sAsg, DL.sPar, DL.sAug, DL.sAugS, DL.gSet, DL.gTupD, DL.gsNil, DL.gsCons, DL.gSubD, DL.sFor, DL.iRng1D_eq, DL.mVar, DL.mC, DL.mNil, DL.mCons, DL.mCall, DL.mBin, DL.mNeg, DL.mMt, DL.mSl, DL.oNo, DL.oYes, DL.tOf, DL.tNotD, DL.tAndD, DL.tOrD, DL.tTru, DL.truD, DL.tTrue, DL.vAnd, DL.vOr, DL.vNot, DL.vIf, DL.vChain, DL.tupF, DL.lstF, DL.allD, DL.ev_add, DL.ev_sub, DL.ev_iadd, DL.ev_isub, DL.ev_lt, DL.ev_gt, DL.ev_le, DL.ev_ge, DL.ev_eq, DL.ev_ne, DL.ev_min, DL.ev_max, DL.ev_int, DL.ev_abs, DL.sz1, DL.sz2, DL.sz3, DL.sz4, DL.sz5, DL.sz6, DL.sz7, DL.sz8, DL.szp, sliceD, hx, oI]) (Nat.le_trans (List.length_filter_le _ _) hz)
  rw [List.filter_eq_self.mpr (fun _ _ => rfl)] at ho
  rw [ho, List.map_map]; rfl
theorem rows_flat (x : List Int → List Int → List Int) (rs : List (List Int)) : (rs.map fun a => (rs.filter fun b => !decide (b = a)).map fun b => oI (a, b, x a b)).flatten = (ordsOf x rs).map oI := by
  unfold ordsOf
  rw [List.map_flatten, List.map_map]
  congr 1
  refine List.map_congr_left fun a _ => ?_
  simp [Function.comp_def]
theorem wayB_ok {p wy : Nat} {r : List Int} {tl : List (List Int)} {x : List Int → List Int → List Int} {tag : Str} {z0 z4 z5 z6 z7 z8 : Option W} {S : Sto} (hwy : wy = 0 ∨ wy = 1) (htag : tag = if wy = 0 then "from" else "to") (hx : ∀ a b, cutD [tI b, tI a] (some (wy : Int)) (some ((wy : Int) + 1)) = [tI (x a b)])
    (hz : (r :: tl).length ≤ 100) (hl : tl.length = p + 1) (hf : ∀ os : List Od, os.Perm (ordsOf x (r :: tl)) → ∀ S, callF f_sum_fault [.d (task p (r :: tl) os)] S = some (.d (.tuple [.str tag, tI r, .int tl.length, .int p]), S))
    (hnice : Nice 70 300 60 (.tuple [.str tag, tI r, .int ((p : Int) + 1), .int p])) :
    ∃ ρ2 S2, ((gSet 4 (.d (.int ((0 : Int) + wy))) [z0, some (.d (.int p)), some (.d (bench p)), some (.d (.tuple ((r :: tl).map tI))), z4, z5, z6, z7, z8] S).bind fun q => wayB q.1 q.2) = some (.nx, ρ2, S2) ∧ ∃ z4 z5 z6 z7 z8, ρ2 = [z0, some (.d (.int p)), some (.d (bench p)), some (.d (.tuple ((r :: tl).map tI))), z4, z5, z6, z7, z8] ∧ S2 = S := by
  have h24 : 10000 ≤ sizeLine := by decide
  have hO : (ordsOf x (r :: tl)).length ≤ sizeLine := by
    have := ords_len x (r :: tl)
    have h2 : (r :: tl).length * (r :: tl).length ≤ 100 * 100 := Nat.mul_le_mul hz hz
    omega
  have e1 := fun S => rows_lc (z0 := z0) (z1 := some (.d (.int p))) (z2 := some (.d (bench p))) (z5 := z5) (z6 := z6) (z7 := z7) (z8 := z8) (rs := r :: tl) (p := p) hx (by omega) S
  have e2 := fun S => flat_ok ((r :: tl).map fun a => ((r :: tl).filter fun b => !decide (b = a)).map fun b => oI (a, b, x a b)) (by rw [rows_flat, List.length_map]; exact hO) S
  rw [← e_flat] at e2
  obtain ⟨os, hos, es⟩ := sort_oI (l := ordsOf x (r :: tl)) (S := S) (w := .d (.list ((ordsOf x (r :: tl)).map oI))) rfl
  have ef := hf os hos S
  have al := alike_ok hnice (by decide) (by decide) room1 S
  rw [← e_alike] at al
  rw [rows_flat] at e2
  generalize hfl : (PyData.list ((ordsOf x (r :: tl)).map oI)) = ol at e2 es
  generalize hrl : (PyData.list (((r :: tl).map fun a => ((r :: tl).filter fun b => !decide (b = a)).map fun b => oI (a, b, x a b)).map .list)) = rl at e1 e2
  have hw0 : (0 : Int) + wy = wy := by omega
  rw [hw0]
  refine ⟨[z0, some (.d (.int p)), some (.d (bench p)), some (.d (.tuple ((r :: tl).map tI))), some (.d (.int wy)), some (.d ol), some (.d (.tuple [.str tag, tI r, .int tl.length, .int p])), z7, z8], S, ?_, _, _, _, _, _, rfl, rfl⟩
  have hg : gSet 4 (.d (.int wy)) [z0, some (.d (.int p)), some (.d (bench p)), some (.d (.tuple ((r :: tl).map tI))), z4, z5, z6, z7, z8] S = some ([z0, some (.d (.int p)), some (.d (bench p)), some (.d (.tuple ((r :: tl).map tI))), some (.d (.int wy)), z5, z6, z7, z8], S) := by simp [gSet]
  rw [hg]
  simp only [Option.bind_some]
  unfold wayB
  rw [seq_nx (ρ1 := [z0, some (.d (.int p)), some (.d (bench p)), some (.d (.tuple ((r :: tl).map tI))), some (.d (.int wy)), some (.d ol), z6, z7, z8]) (S1 := S) (by
    simp only [sAsg, mCall, mCons, mNil, e1, Option.bind_some, e2]
    simp [gSet])]
  rw [seq_nx (ρ1 := [z0, some (.d (.int p)), some (.d (bench p)), some (.d (.tuple ((r :: tl).map tI))), some (.d (.int wy)), some (.d ol), some (.d (.tuple [.str tag, tI r, .int tl.length, .int p])), z7, z8]) (S1 := S) (by
    simp only [task] at ef
    simp [DL.sSeq, DL.sNil, DL.sPass, DL.sBreak, DL.sCont, DL.sExpr, DL.sRet, DL.sRetN, DL.sIf, DL.sAsg, DL.sPar, DL.sAug, DL.sAugS, DL.gSet, DL.gTupD, DL.gsNil, DL.gsCons, DL.gSubD, DL.sFor, DL.iRng1D_eq, DL.mVar, DL.mC, DL.mNil, DL.mCons, DL.mCall, DL.mBin, DL.mNeg, DL.mMt, DL.mSl, DL.oNo, DL.oYes, DL.tOf, DL.tNotD, DL.tAndD, DL.tOrD, DL.tTru, DL.truD, DL.tTrue, DL.vAnd, DL.vOr, DL.vNot, DL.vIf, DL.vChain, DL.tupF, DL.lstF, DL.allD, DL.ev_add, DL.ev_sub, DL.ev_iadd, DL.ev_isub, DL.ev_lt, DL.ev_gt, DL.ev_le, DL.ev_ge, DL.ev_eq, DL.ev_ne, DL.ev_min, DL.ev_max, DL.ev_int, DL.ev_abs, DL.sz1, DL.sz2, DL.sz3, DL.sz4, DL.sz5, DL.sz6, DL.sz7, DL.sz8, DL.szp, es, tupleD, on1, deref, ef] at ef ⊢
    simp [ef])]
  have hl' : (tl.length : Int) = (p : Int) + 1 := by omega
  rw [hl']
  rcases hwy with rfl | rfl
  · simp only [if_true] at htag
    subst htag
    simp [DL.sSeq, DL.sNil, DL.sPass, DL.sBreak, DL.sCont, DL.sExpr, DL.sRet, DL.sRetN, DL.sIf, DL.sAsg, DL.sPar, DL.sAug, DL.sAugS, DL.gSet, DL.gTupD, DL.gsNil, DL.gsCons, DL.gSubD, DL.sFor, DL.iRng1D_eq, DL.mVar, DL.mC, DL.mNil, DL.mCons, DL.mCall, DL.mBin, DL.mNeg, DL.mMt, DL.mSl, DL.oNo, DL.oYes, DL.tOf, DL.tNotD, DL.tAndD, DL.tOrD, DL.tTru, DL.truD, DL.tTrue, DL.vAnd, DL.vOr, DL.vNot, DL.vIf, DL.vChain, DL.tupF, DL.lstF, DL.allD, DL.ev_add, DL.ev_sub, DL.ev_iadd, DL.ev_isub, DL.ev_lt, DL.ev_gt, DL.ev_le, DL.ev_ge, DL.ev_eq, DL.ev_ne, DL.ev_min, DL.ev_max, DL.ev_int, DL.ev_abs, DL.sz1, DL.sz2, DL.sz3, DL.sz4, DL.sz5, DL.sz6, DL.sz7, DL.sz8, DL.szp, idxD, atI, ixN, al]
  · simp only [Nat.one_ne_zero, if_false] at htag
    subst htag
    simp [DL.sSeq, DL.sNil, DL.sPass, DL.sBreak, DL.sCont, DL.sExpr, DL.sRet, DL.sRetN, DL.sIf, DL.sAsg, DL.sPar, DL.sAug, DL.sAugS, DL.gSet, DL.gTupD, DL.gsNil, DL.gsCons, DL.gSubD, DL.sFor, DL.iRng1D_eq, DL.mVar, DL.mC, DL.mNil, DL.mCons, DL.mCall, DL.mBin, DL.mNeg, DL.mMt, DL.mSl, DL.oNo, DL.oYes, DL.tOf, DL.tNotD, DL.tAndD, DL.tOrD, DL.tTru, DL.truD, DL.tTrue, DL.vAnd, DL.vOr, DL.vNot, DL.vIf, DL.vChain, DL.tupF, DL.lstF, DL.allD, DL.ev_add, DL.ev_sub, DL.ev_iadd, DL.ev_isub, DL.ev_lt, DL.ev_gt, DL.ev_le, DL.ev_ge, DL.ev_eq, DL.ev_ne, DL.ev_min, DL.ev_max, DL.ev_int, DL.ev_abs, DL.sz1, DL.sz2, DL.sz3, DL.sz4, DL.sz5, DL.sz6, DL.sz7, DL.sz8, DL.szp, idxD, atI, ixN, al]
theorem cut_take {α : Type} (l : List α) (k : Nat) : DL.cutD l none (some (k : Int)) = l.take k := by
  unfold DL.cutD
  rw [HT.sIx_none, HT.sIx_nat, List.drop_zero, Nat.sub_zero, ← List.take_eq_take_min]
theorem mulBench {p : Nat} (h1 : 2 ≤ p) (h2 : p ≤ 3) (S : Sto) : mulD (.d (.tuple [.tuple [.int 2, .tuple [.tuple [.int 0, .int 1], .tuple [.int 1, .int 0]]]])) (.d (.int p)) S = some (.d (bench p), S) := by
  unfold mulD
  simp only
  rw [if_pos ⟨by simp, by omega, by omega, by simp⟩]
  have : p = 2 ∨ p = 3 := by omega
  rcases this with rfl | rfl <;> rfl
theorem cn_len {p : Nat} (hp : p = 2 ∨ p = 3) : (Cn p).length = 2 ^ p ∧ (Cn p).Nodup ∧ ∀ a ∈ Cn p, a ≠ [] ∧ a.length = p ∧ ∀ i ∈ a, i.natAbs < 10 := by
  rcases hp with rfl | rfl <;> decide
theorem nice_r {r : List Int} (h : ∀ i ∈ r, i.natAbs < 10) (hl : r.length ≤ 3) : Nice 70 18 1 (tI r) := by
  refine niceTup ((niceAll_of (B := 70) (w := 5) (dp := 0) (fun d hd => ?_)).up ?_ (Nat.le_refl _))
  · obtain ⟨i, hi, rfl⟩ := List.mem_map.mp hd
    exact niceInt (k := 1) (by simpa using h i hi) (by decide) (by decide) (by decide)
  · rw [List.length_map]; omega
theorem nice_tag {s : Str} (h : s = "from" ∨ s = "to") : Nice 70 4 1 (.str s) := by
  rcases h with rfl | rfl
  · exact ⟨by decide +kernel, by decide +kernel, by decide +kernel, by decide +kernel, by decide +kernel, by decide +kernel, by simp [PyData.eqv]⟩
  · exact ⟨by decide +kernel, by decide +kernel, by decide +kernel, by decide +kernel, by decide +kernel, by decide +kernel, by simp [PyData.eqv]⟩
theorem nice_due {s : Str} {r : List Int} {p : Nat} (h : s = "from" ∨ s = "to") (h1 : ∀ i ∈ r, i.natAbs < 10) (hl : r.length ≤ 3) (hp : p ≤ 3) : Nice 70 300 60 (.tuple [.str s, tI r, .int ((p : Int) + 1), .int p]) := by
  have a := nice_tag h
  have b := nice_r h1 hl
  have c : Nice 70 5 1 (.int ((p : Int) + 1)) := niceInt (k := 1) (by omega) (by decide) (by decide) (by decide)
  have d : Nice 70 5 1 (.int (p : Int)) := niceInt (k := 1) (by omega) (by decide) (by decide) (by decide)
  exact (niceTup (niceCons a (niceCons b (niceCons c (niceCons d niceNil))))).up (by decide) (by decide)
theorem steps_cn {p : Nat} (hp : p = 2 ∨ p = 3) {rs : List (List Int)} (h : ∀ r ∈ rs, r ∈ Cn p) : StepsOk p f_steps_from rs ∧ StepsOk p f_steps_to rs := by
  refine ⟨fun r hr => ?_, fun r hr => ?_⟩
  · have hf : ∃ env', stepsFor [some (.d (bench p)), some (.d (tI r)), some (.loc 0), none, none, none, none, none, none] [.lst []] = some (.nx, env', [.lst (((flips r).map tI).map W.d)]) ∧ env'[2]? = some (some (.loc 0)) := by
      rcases hp with rfl | rfl
      · exact steps2 r (h r hr)
      · exact steps3 r (h r hr)
    obtain ⟨ds, h1, h2⟩ := steps_run (l := flips r) b_steps_from_eq hf (flips_ne r)
    exact ⟨ds, by rw [h1.length_eq, flips_len, ((cn_len hp).2.2 r (h r hr)).2.1], h2⟩
  · have hf : ∃ env', stepsTo [some (.d (bench p)), some (.d (tI r)), some (.loc 0), none, none, none, none, none, none] [.lst []] = some (.nx, env', [.lst (((flips r).map tI).map W.d)]) ∧ env'[2]? = some (some (.loc 0)) := by
      rcases hp with rfl | rfl
      · exact stepsT2 r (h r hr)
      · exact stepsT3 r (h r hr)
    obtain ⟨ds, h1, h2⟩ := steps_run (l := flips r) b_steps_to_eq hf (flips_ne r)
    exact ⟨ds, by rw [h1.length_eq, flips_len, ((cn_len hp).2.2 r (h r hr)).2.1], h2⟩
theorem barred_ok {c n p : Nat} {ob : Ob} {S : Sto} (hS : S[n]? = some ob) (hb : BagOk c ob) (hc : c + 100 < 2 ^ 1000) (hp : p = 2 ∨ p = 3) : ∃ ob', callF f_l_are_barred [.loc n, .d (.int p)] S = some (.d (.bool true), S.set n ob') := by
  obtain ⟨hcl, hcn, hca⟩ := cn_len hp
  have h2p : 2 ^ p ≤ 8 := by rcases hp with rfl | rfl <;> decide
  have h2q : p + 2 ≤ 2 ^ p := by rcases hp with rfl | rfl <;> decide
  have h24 : 10000 ≤ sizeLine := by decide
  have eb := mulBench (p := p) (by omega) (by omega)
  have ec : ∀ S, callF f_l_contents [.d (bench p)] S = some (.d (.list ((Cn p).map tI)), S) := by
    rcases hp with rfl | rfl
    · exact contents2
    · exact contents3
  obtain ⟨ys, ob', em, hy, hb'⟩ := mixed_ok (S := [ob]) (n := 0) (xs := (Cn p).map tI) rfl hb (by rw [List.length_map]; omega) (by rw [List.length_map]; omega)
  simp only [List.set_cons_zero] at em
  rw [← e_mixed] at em
  obtain ⟨zs, hz, rfl⟩ := perm_map_ex hy
  have ht : cutD (zs.map tI) none (some ((p : Int) + 2)) = (zs.take (p + 2)).map tI := by
    have := cut_take (zs.map tI) (p + 2)
    rw [List.map_take, ← this]; rfl
  have hmem : ∀ a ∈ zs.take (p + 2), a ∈ Cn p := fun a ha => hz.subset (List.mem_of_mem_take ha)
  obtain ⟨rs, hr, es⟩ := sort_tI (l := zs.take (p + 2)) (S := [ob']) (w := .d (.list ((zs.take (p + 2)).map tI))) (fun a ha => (hca a (hmem a ha)).1) rfl
  have hlen : rs.length = p + 2 := by rw [hr.length_eq, List.length_take, hz.length_eq, hcl]; omega
  have hnd : rs.Nodup := hr.nodup_iff.mpr ((hz.nodup_iff.mpr hcn).sublist (List.take_sublist _ _))
  have hrm : ∀ a ∈ rs, a ∈ Cn p := fun a ha => hmem a (hr.subset ha)
  cases rs with
  | nil => simp at hlen
  | cons r tl =>
    have htl : tl.length = p + 1 := by simpa using hlen
    obtain ⟨sf, st⟩ := steps_cn hp hrm
    have hri := hca r (hrm r (by simp))
    have hosz : ∀ (x : List Int → List Int → List Int) (os : List Od), os.Perm (ordsOf x (r :: tl)) → os.length ≤ sizeLine := fun x os h => by
      have h1 := ords_len x (r :: tl)
      rw [hlen] at h1
      have h2 : (p + 2) * (p + 2) ≤ 5 * 5 := Nat.mul_le_mul (by omega) (by omega)
      rw [h.length_eq]; omega
    obtain ⟨ρ', S', el, ⟨z4, z5, z6, z7, z8, rfl, rfl⟩⟩ := forL_rng (g := gSet 4) (F := wayB) (lo := 0) (n := 2) (J := fun i ρ S => ∃ z4 z5 z6 z7 z8, ρ = [some (.loc 0), some (.d (.int p)), some (.d (bench p)), some (.d (.tuple ((r :: tl).map tI))), z4, z5, z6, z7, z8] ∧ S = [ob'])
      (ρ := [some (.loc 0), some (.d (.int p)), some (.d (bench p)), some (.d (.tuple ((r :: tl).map tI))), none, none, none, none, none]) (S := [ob']) (fun i ρ S hi ⟨z4, z5, z6, z7, z8, h1, h2⟩ => by
        subst h1 h2
        have : i = 0 ∨ i = 1 := by omega
        rcases this with rfl | rfl
        · exact wayB_ok (p := p) (wy := 0) (tag := "from") (x := fun _ b => b) (.inl rfl) rfl (fun a b => rfl) (by rw [hlen]; omega) htl (fun os hos S => fault_from hnd hos (hosz _ os hos) (by omega) sf S) (nice_due (.inl rfl) hri.2.2 (by omega) (by omega))
        · exact wayB_ok (p := p) (wy := 1) (tag := "to") (x := fun a _ => a) (.inr rfl) rfl (fun a b => rfl) (by rw [hlen]; omega) htl (fun os hos S => fault_to hnd hos (hosz _ os hos) (by omega) sf st S) (nice_due (.inr rfl) hri.2.2 (by omega) (by omega))) ⟨none, none, none, none, none, rfl, rfl⟩
    refine ⟨ob', callF_loc (n := n) rfl (by simp [allLoc]) hS hb.obD (runF_ret1 ⟨[some (.loc 0), some (.d (.int p)), some (.d (bench p)), some (.d (.tuple ((r :: tl).map tI))), z4, z5, z6, z7, z8], [], ?_⟩ hb'.obD) hb'.obD⟩
    show b_l_are_barred [some (.loc 0), some (.d (.int p)), none, none, none, none, none, none, none] [ob] = _
    rw [b_barred_eq]
    rw [seq_nx (ρ1 := [some (.loc 0), some (.d (.int p)), some (.d (bench p)), none, none, none, none, none, none]) (S1 := [ob]) (by simp [DL.sSeq, DL.sNil, DL.sPass, DL.sBreak, DL.sCont, DL.sExpr, DL.sRet, DL.sRetN, DL.sIf, DL.sAsg, DL.sPar, DL.sAug, DL.sAugS, DL.gSet, DL.gTupD, DL.gsNil, DL.gsCons, DL.gSubD, DL.sFor, DL.iRng1D_eq, DL.mVar, DL.mC, DL.mNil, DL.mCons, DL.mCall, DL.mBin, DL.mNeg, DL.mMt, DL.mSl, DL.oNo, DL.oYes, DL.tOf, DL.tNotD, DL.tAndD, DL.tOrD, DL.tTru, DL.truD, DL.tTrue, DL.vAnd, DL.vOr, DL.vNot, DL.vIf, DL.vChain, DL.tupF, DL.lstF, DL.allD, DL.ev_add, DL.ev_sub, DL.ev_iadd, DL.ev_isub, DL.ev_lt, DL.ev_gt, DL.ev_le, DL.ev_ge, DL.ev_eq, DL.ev_ne, DL.ev_min, DL.ev_max, DL.ev_int, DL.ev_abs, DL.sz1, DL.sz2, DL.sz3, DL.sz4, DL.sz5, DL.sz6, DL.sz7, DL.sz8, DL.szp, eb])]
    rw [seq_nx (ρ1 := [some (.loc 0), some (.d (.int p)), some (.d (bench p)), some (.d (.tuple ((r :: tl).map tI))), none, none, none, none, none]) (S1 := [ob']) (by
      simp only [sAsg, mCall, mCons, mNil, mSl, oNo, oYes, mBin, mVar, mC, List.getElem?_cons_zero, List.getElem?_cons_succ, Option.bind_some, ec, em, ev_add, sliceD, ht, es, tupleD, on1, deref]
      simp [gSet])]
    rw [seq_nx (ρ1 := [some (.loc 0), some (.d (.int p)), some (.d (bench p)), some (.d (.tuple ((r :: tl).map tI))), z4, z5, z6, z7, z8]) (S1 := [ob']) (by
      simp only [sFor, iRng1D_eq, mCons, mNil, mC, Option.bind_some]
      have : rng1D [.d (.int 2)] [ob'] = some (rngD 0 2, [ob']) := rng1_ok (n := 2) (S := [ob']) (by decide)
      rw [this]
      exact el)]
    simp [sRet, mC]
theorem law_true (ns : List Int) (hns : ns.length ≤ 63) : f_law [.d (.list (ns.map .int))] [] = some (.d (.bool true), []) := by
  refine runF_ret0 ?_
  obtain ⟨ob, eb, hb⟩ := bag_ok ns []
  rw [← e_bag] at eb
  simp only [List.length_nil, List.nil_append] at eb
  obtain ⟨ρ', S', el, z2, z3, z4, z5, z6, z7, ob1, rfl, rfl, hb1⟩ := forL_rng (g := gSet 2) (F := lawB) (lo := 0) (n := 6) (J := fun i ρ S => ∃ z2 z3 z4 z5 z6 z7 ob, ρ = [some (.d (.list (ns.map .int))), some (.loc 0), z2, z3, z4, z5, z6, z7] ∧ S = [ob] ∧ BagOk (10 * i) ob)
    (ρ := [some (.d (.list (ns.map .int))), some (.loc 0), none, none, none, none, none, none]) (S := [ob]) (fun i ρ S hi ⟨z2, z3, z4, z5, z6, z7, ob, h1, h2, hb⟩ => by
      subst h1 h2
      have h1000 : 1000 < 2 ^ 1000 := Nat.lt_of_lt_of_le (by decide : 1000 < 2 ^ 10) (Nat.pow_le_pow_right (by decide) (by decide))
      obtain ⟨ρ2, S2, e, ob', y3, y4, y5, y6, y7, rfl, rfl, hb'⟩ := lawB_ok (sc := .list (ns.map .int)) (z2 := some (.d (.int (0 + i)))) (z3 := z3) (z4 := z4) (z5 := z5) (z6 := z6) (z7 := z7) hb (by omega)
      exact ⟨_, _, by simpa [gSet] using e, _, _, _, _, _, _, ob', rfl, rfl, by rw [Nat.mul_succ]; exact hb'⟩) ⟨none, none, none, none, none, none, ob, rfl, rfl, hb⟩
  have h1000 : 1000 < 2 ^ 1000 := Nat.lt_of_lt_of_le (by decide : 1000 < 2 ^ 10) (Nat.pow_le_pow_right (by decide) (by decide))
  obtain ⟨t, ob2, et, t0, t1, hb2⟩ := take_ok (S := [ob1]) (n := 0) (upto := 2) rfl hb1 (by omega) (by decide) (by decide)
  rw [← e_take] at et
  simp only [List.set_cons_zero] at et
  obtain ⟨p, hp, hp'⟩ : ∃ p : Nat, 2 + t = (p : Int) ∧ (p = 2 ∨ p = 3) := ⟨(2 + t).toNat, by omega, by omega⟩
  obtain ⟨ob3, ea⟩ := barred_ok (S := [ob2]) (n := 0) rfl hb2 (by omega) hp'
  simp only [List.set_cons_zero] at ea
  have er : rng1D [.d (.int 6)] [ob] = some (rngD 0 6, [ob]) := rng1_ok (n := 6) (S := [ob]) (by decide)
  refine ⟨[some (.d (.list (ns.map .int))), some (.loc 0), z2, z3, z4, z5, z6, z7], [ob3], ?_⟩
  rw [b_law_eq]
  show sSeq _ _ [some (.d (.list (ns.map .int))), none, none, none, none, none, none, none] [] = _
  rw [seq_nx (ρ1 := [some (.d (.list (ns.map .int))), some (.loc 0), none, none, none, none, none, none]) (S1 := [ob]) (by
    simp only [sAsg, mCall, mCons, mNil, mVar, List.getElem?_cons_zero, Option.bind_some, eb]
    simp [gSet])]
  rw [seq_nx (ρ1 := [some (.d (.list (ns.map .int))), some (.loc 0), z2, z3, z4, z5, z6, z7]) (S1 := [ob1]) (by
    simp only [sFor, iRng1D_eq, mCons, mNil, mC, Option.bind_some]
    rw [er]
    exact el)]
  simp only [sRet, mCall, mCons, mNil, mVar, mC, mBin, List.getElem?_cons_zero, List.getElem?_cons_succ, Option.bind_some, et, ev_add, hp, ea]
end K75
end
open PySem PySem.Spec PyProof.Rows L2
theorem PySem.Challenge.cw_onorback_k75_whole_half_of_the_places_holds : PySem.Challenge.rw_onorback_k75_whole_half_of_the_places.Holds := by
  w_on; o_law; k_head; (case hw => w_witness2)
  k_fill
  refine DL.walkG (x := "_law_script") (l := PySem.Challenge.rw_onorback_k75_whole_half_of_the_places) (f := K75.f_law) (k := 4) rfl (by decide) rfl ⟨rfl, by decide, by decide⟩ (fun w h Y => PySem.W.kIn_of Y) ?F ?hf
  case F =>
    intro w mg fa h KX G hmg
    refine' K75.all_mk KX G hmg ?a_steps_from ?l_steps_from ?k_steps_from ?p_steps_from ?a_steps_to ?l_steps_to ?k_steps_to ?p_steps_to ?a_doubled ?l_doubled ?k_doubled ?p_doubled ?a_has_only ?l_has_only ?k_has_only ?p_has_only ?a_l_bag ?l_l_bag ?k_l_bag ?p_l_bag ?a_l_take ?l_l_take ?k_l_take ?p_l_take ?a_l_alike ?l_l_alike ?k_l_alike ?p_l_alike ?a_l_flat ?l_l_flat ?k_l_flat ?p_l_flat ?a_l_two ?l_l_two ?k_l_two ?p_l_two ?a_l_is_let ?l_l_is_let ?k_l_is_let ?p_l_is_let ?a_most_rests ?l_most_rests ?k_most_rests ?p_most_rests ?a_sum_fault ?l_sum_fault ?k_sum_fault ?p_sum_fault ?a_l_some ?l_l_some ?k_l_some ?p_l_some ?a_l_mixed ?l_l_mixed ?k_l_mixed ?p_l_mixed ?a_l_contents ?l_l_contents ?k_l_contents ?p_l_contents ?a_l_most ?l_l_most ?k_l_most ?p_l_most ?a_places_for ?l_places_for ?k_places_for ?p_places_for ?a_l_places ?l_l_places ?k_l_places ?p_l_places ?a_l_are_barred ?l_l_are_barred ?k_l_are_barred ?p_l_are_barred ?a_law ?l_law ?k_law ?p_law ?z_abs ?z_all ?z_enumerate ?z_int ?z_len ?z_min ?z_range ?z_repr ?z_sorted ?z_tuple
    (case a_steps_from => k_is)
    (case l_steps_from => k_is)
    (case k_steps_from => k_is)
    (case p_steps_from => k_is)
    (case a_steps_to => k_is)
    (case l_steps_to => k_is)
    (case k_steps_to => k_is)
    (case p_steps_to => k_is)
    (case a_doubled => k_is)
    (case l_doubled => k_is)
    (case k_doubled => k_is)
    (case p_doubled => k_is)
    (case a_has_only => k_is)
    (case l_has_only => k_is)
    (case k_has_only => k_is)
    (case p_has_only => k_is)
    (case a_l_bag => k_is)
    (case l_l_bag => k_is)
    (case k_l_bag => k_is)
    (case p_l_bag => k_is)
    (case a_l_take => k_is)
    (case l_l_take => k_is)
    (case k_l_take => k_is)
    (case p_l_take => k_is)
    (case a_l_alike => k_is)
    (case l_l_alike => k_is)
    (case k_l_alike => k_is)
    (case p_l_alike => k_is)
    (case a_l_flat => k_is)
    (case l_l_flat => k_is)
    (case k_l_flat => k_is)
    (case p_l_flat => k_is)
    (case a_l_two => k_is)
    (case l_l_two => k_is)
    (case k_l_two => k_is)
    (case p_l_two => k_is)
    (case a_l_is_let => k_is)
    (case l_l_is_let => k_is)
    (case k_l_is_let => k_is)
    (case p_l_is_let => k_is)
    (case a_most_rests => k_is)
    (case l_most_rests => k_is)
    (case k_most_rests => k_is)
    (case p_most_rests => k_is)
    (case a_sum_fault => k_is)
    (case l_sum_fault => k_is)
    (case k_sum_fault => k_is)
    (case p_sum_fault => k_is)
    (case a_l_some => k_is)
    (case l_l_some => k_is)
    (case k_l_some => k_is)
    (case p_l_some => k_is)
    (case a_l_mixed => k_is)
    (case l_l_mixed => k_is)
    (case k_l_mixed => k_is)
    (case p_l_mixed => k_is)
    (case a_l_contents => k_is)
    (case l_l_contents => k_is)
    (case k_l_contents => k_is)
    (case p_l_contents => k_is)
    (case a_l_most => k_is)
    (case l_l_most => k_is)
    (case k_l_most => k_is)
    (case p_l_most => k_is)
    (case a_places_for => k_is)
    (case l_places_for => k_is)
    (case k_places_for => k_is)
    (case p_places_for => k_is)
    (case a_l_places => k_is)
    (case l_l_places => k_is)
    (case k_l_places => k_is)
    (case p_l_places => k_is)
    (case a_l_are_barred => k_is)
    (case l_l_are_barred => k_is)
    (case k_l_are_barred => k_is)
    (case p_l_are_barred => k_is)
    (case a_law => k_is)
    (case l_law => k_is)
    (case k_law => k_is)
    (case p_law => k_is)
    (case z_abs => k_is)
    (case z_all => k_is)
    (case z_enumerate => k_is)
    (case z_int => k_is)
    (case z_len => k_is)
    (case z_min => k_is)
    (case z_range => k_is)
    (case z_repr => k_is)
    (case z_sorted => k_is)
    (case z_tuple => k_is)
  case hf => exact K75.law_true
