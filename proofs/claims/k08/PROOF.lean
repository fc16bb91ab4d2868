import PyProof.Rows.All
import Wide.All
import OpenK.AllK
import Wide.FinOn
import HandS.ForMost
import HandS.ForExc
import HandS.Wide
import HandS.TupAny
import HandS.IsInst
import HandS.CallSlots
import HandS.Style
import HandS.MakeKw
import HandS.Lambda
import HandS.Conv
import HandS.Deep
import HandS.Text
import KE.SortData
import KE.IntBitsLaws
import PyProof.ReprRoads
import HandS.Ends
import HandS.EndBits
import PySem.Challenge.RW_squaresowed_k08_whole_least_forms_and_ow
set_option Elab.async false
set_option linter.all false
set_option maxRecDepth 100000
set_option maxHeartbeats 4000000
/-! The pure layer: Python values as data D (tuples by value, other objects by address in an abstract store Mu), weakest preconditions over them, shown sound over the hand layer's judgements. -/
namespace Sq
open PySem PySem.Spec PyProof.Rows L2

/-- data: what a value is; a tuple by its items, another object by its address -/
inductive D where
  | non | bl (b : Bool) | int (i : Int) | str (x : Str) | tup (xs : List D) | ob (a : Addr)
  /-- a list that is read alone (the script, a list of the module's own) -/
  | rls (xs : List D)
/-- what stands at an address of the store -/
inductive O where
  /-- a list -/
  | lst (xs : List D)
  /-- an error of the class at C, made with the value d -/
  | exc (C : Addr) (d : D)
abbrev Mu := Addr → Option O
def mset (μ : Mu) (a : Addr) (o : O) : Mu := fun b => if b = a then some o else μ b
theorem mset_same (μ : Mu) (a : Addr) (o : O) : mset μ a o a = some o := by unfold mset; rw [if_pos rfl]
theorem mset_ne {μ : Mu} {a b : Addr} {o : O} (h : b ≠ a) : mset μ a o b = μ b := by unfold mset; rw [if_neg h]
theorem mset_mset (μ : Mu) (a : Addr) (o u : O) : mset (mset μ a o) a u = mset μ a u := by
  funext b; unfold mset; split <;> rfl
theorem ne_free {μ : Mu} {a b : Addr} {o : O} (h : μ a = some o) (h' : μ b = none) : a ≠ b := by
  intro e; subst e; rw [h] at h'; cases h'
theorem mset_free {μ : Mu} {a b : Addr} {o : O} (h : mset μ a o b = none) : b ≠ a ∧ μ b = none := by
  unfold mset at h
  split at h
  · cases h
  · exact ⟨by assumption, h⟩

/-! ### data at a heap -/
/-- a list that nobody writes -/
def SqR (K : PySem.W.Frag) (H : Hp) (a : Addr) (xs : List V) : Prop :=
  (∃ o, H a = some (.frz o (.lst xs))) ∨ ∃ (o : Obj) (its : Array Value) (n : Nat), K.lookup a = some o ∧ o.cls = .type "list" ∧ o.dict = none ∧ o.data = .seq its n ∧ its.size ≤ sizeLine ∧ Vals xs its.toList
theorem SqR.l {K : PySem.W.Frag} {H : Hp} {a : Addr} {xs : List V} (h : SqR K H a xs) : SqL K H a xs := h.elim (fun h => .inl (.inr h)) .inr
mutual
def Rp (K : PySem.W.Frag) (H : Hp) : D → V → Prop
  | .non, v => v = .non
  | .bl b, v => v = .bl b
  | .int i, v => v = .int i
  | .str x, v => v = .str x
  | .tup ds, v => ∃ p vs, v = .ref p ∧ SqT K H p vs ∧ Rps K H ds vs
  | .ob a, v => v = .ref a
  | .rls ds, v => ∃ p vs, v = .ref p ∧ SqR K H p vs ∧ Rps K H ds vs
def Rps (K : PySem.W.Frag) (H : Hp) : List D → List V → Prop
  | [], vs => vs = []
  | d :: ds, vs => ∃ w ws, vs = w :: ws ∧ Rp K H d w ∧ Rps K H ds ws
end
/-- the object of a caught error: its class, its own dict -/
def ExcO (a C dx : Addr) : HO := .ext fun h => ∃ oe vs, h.get? a = some oe ∧ oe.cls = .ref C ∧ oe.dict = some dx ∧ oe.data = .fields vs
def OR (K : PySem.W.Frag) (H : Hp) (a : Addr) : O → Prop
  | .lst ds => ∃ vs, H a = some (.lst vs) ∧ Rps K H ds vs
  | .exc C d => ∃ dx v, H a = some (ExcO a C dx) ∧ H dx = some (.xd [("value", v)]) ∧ Rp K H d v
/-- the store is held -/
structure Sim (K : PySem.W.Frag) (μ : Mu) (H : Hp) : Prop where
  at_ : ∀ a o, μ a = some o → OR K H a o
/-- what is tracked and not in the store stays -/
def Fr (μ : Mu) (H : Hp) (μ' : Mu) (H' : Hp) : Prop := ∀ b o, H b = some o → (∀ ps, o ≠ .tbl ps) → μ b = none → H' b = some o ∧ μ' b = none
theorem Fr.refl (μ : Mu) (H : Hp) : Fr μ H μ H := fun _ _ h _ n => ⟨h, n⟩
theorem Fr.trans {μ μ1 μ2 : Mu} {H H1 H2 : Hp} (a : Fr μ H μ1 H1) (b : Fr μ1 H1 μ2 H2) : Fr μ H μ2 H2 := fun c o h n m => let ⟨h1, m1⟩ := a c o h n m; b c o h1 n m1
theorem Sim.free {K : PySem.W.Frag} {μ : Mu} {H : Hp} (S : Sim K μ H) {a : Addr} (h : H a = none) : μ a = none := by
  cases e : μ a with
  | none => rfl
  | some o =>
    have q := S.at_ a o e
    cases o with
    | lst ds => obtain ⟨vs, z, _⟩ := q; rw [h] at z; cases z
    | exc C d => obtain ⟨dx, v, z, _⟩ := q; rw [h] at z; cases z
theorem Sim.notTup {K : PySem.W.Frag} {μ : Mu} {H : Hp} (S : Sim K μ H) {a : Addr} {o : HO} (h : H a = some o) (hl : ∀ xs, o ≠ .lst xs) (he : ∀ φ, o ≠ .ext φ) : μ a = none := by
  cases e : μ a with
  | none => rfl
  | some u =>
    have q := S.at_ a u e
    cases u with
    | lst ds => obtain ⟨vs, z, _⟩ := q; rw [h] at z; cases z; exact absurd rfl (hl _)
    | exc C d => obtain ⟨dx, v, z, _⟩ := q; rw [h] at z; cases z; exact absurd rfl (he _)
theorem sqT_keep {K : PySem.W.Frag} {μ μ' : Mu} {H H' : Hp} (S : Sim K μ H) (F : Fr μ H μ' H') {p : Addr} {vs : List V} (h : SqT K H p vs) : SqT K H' p vs := by
  rcases h with (h | ⟨o, h⟩) | h
  · exact .inl (.inl (F p _ h (fun _ z => by cases z) (S.notTup h (fun _ z => by cases z) (fun _ z => by cases z))).1)
  · exact .inl (.inr ⟨o, (F p _ h (fun _ z => by cases z) (S.notTup h (fun _ z => by cases z) (fun _ z => by cases z))).1⟩)
  · exact .inr h
theorem sqR_keep {K : PySem.W.Frag} {μ μ' : Mu} {H H' : Hp} (S : Sim K μ H) (F : Fr μ H μ' H') {p : Addr} {vs : List V} (h : SqR K H p vs) : SqR K H' p vs := by
  rcases h with ⟨o, h⟩ | h
  · exact .inl ⟨o, (F p _ h (fun _ z => by cases z) (S.notTup h (fun _ z => by cases z) (fun _ z => by cases z))).1⟩
  · exact .inr h
mutual
theorem Rp.keep {K : PySem.W.Frag} {μ μ' : Mu} {H H' : Hp} (S : Sim K μ H) (F : Fr μ H μ' H') : ∀ (d : D) {v : V}, Rp K H d v → Rp K H' d v
  | .non, _, h => h
  | .bl _, _, h => h
  | .int _, _, h => h
  | .str _, _, h => h
  | .tup ds, _, h => by
    unfold Rp at h ⊢
    obtain ⟨p, vs, e, q, r⟩ := h
    exact ⟨p, vs, e, sqT_keep S F q, Rps.keep S F ds r⟩
  | .ob _, _, h => h
  | .rls ds, _, h => by
    unfold Rp at h ⊢
    obtain ⟨p, vs, e, q, r⟩ := h
    exact ⟨p, vs, e, sqR_keep S F q, Rps.keep S F ds r⟩
theorem Rps.keep {K : PySem.W.Frag} {μ μ' : Mu} {H H' : Hp} (S : Sim K μ H) (F : Fr μ H μ' H') : ∀ (ds : List D) {vs : List V}, Rps K H ds vs → Rps K H' ds vs
  | [], _, h => h
  | d :: ds, _, h => by
    unfold Rps at h ⊢
    obtain ⟨w, ws, e, a, b⟩ := h
    exact ⟨w, ws, e, Rp.keep S F d a, Rps.keep S F ds b⟩
end
theorem Rps.length {K : PySem.W.Frag} {H : Hp} : ∀ {ds : List D} {vs : List V}, Rps K H ds vs → vs.length = ds.length
  | [], _, h => by unfold Rps at h; subst h; rfl
  | d :: ds, _, h => by
    unfold Rps at h
    obtain ⟨w, ws, rfl, _, b⟩ := h
    simp [Rps.length b]
theorem Rps.append {K : PySem.W.Frag} {H : Hp} : ∀ {ds es : List D} {vs ws : List V}, Rps K H ds vs → Rps K H es ws → Rps K H (ds ++ es) (vs ++ ws)
  | [], _, _, _, h, g => by unfold Rps at h; subst h; exact g
  | d :: ds, _, _, _, h, g => by
    unfold Rps at h
    obtain ⟨w, ws, rfl, a, b⟩ := h
    show Rps K H (d :: (ds ++ _)) (w :: (ws ++ _))
    unfold Rps
    exact ⟨_, _, rfl, a, Rps.append b g⟩
theorem Rps.get {K : PySem.W.Frag} {H : Hp} : ∀ {ds : List D} {vs : List V} {i : Nat} {d : D}, Rps K H ds vs → ds[i]? = some d → ∃ v, vs[i]? = some v ∧ Rp K H d v
  | [], _, _, _, _, e => by simp at e
  | x :: xs, _, 0, d, h, e => by
    unfold Rps at h
    obtain ⟨w, ws, rfl, a, b⟩ := h
    simp at e; subst e
    exact ⟨w, rfl, a⟩
  | x :: xs, _, i + 1, d, h, e => by
    unfold Rps at h
    obtain ⟨w, ws, rfl, a, b⟩ := h
    obtain ⟨v, h1, h2⟩ := Rps.get (i := i) b (by simpa using e)
    exact ⟨v, by simpa using h1, h2⟩
theorem Rps.getV {K : PySem.W.Frag} {H : Hp} : ∀ {ds : List D} {vs : List V} {i : Nat} {v : V}, Rps K H ds vs → vs[i]? = some v → ∃ d, ds[i]? = some d ∧ Rp K H d v := by
  intro ds vs i v h e
  have hl := h.length
  have hi : i < ds.length := by rw [← hl]; exact (List.getElem?_eq_some_iff.mp e).1
  obtain ⟨w, h1, h2⟩ := h.get (i := i) (d := ds[i]) (by simp [hi])
  rw [e] at h1; cases h1
  exact ⟨_, by simp [hi], h2⟩
theorem Rps.take {K : PySem.W.Frag} {H : Hp} : ∀ {ds : List D} {vs : List V} (n : Nat), Rps K H ds vs → Rps K H (ds.take n) (vs.take n)
  | _, _, 0, _ => by simp [Rps]
  | [], _, n + 1, h => by unfold Rps at h; subst h; simp [Rps]
  | d :: ds, _, n + 1, h => by
    unfold Rps at h
    obtain ⟨w, ws, rfl, a, b⟩ := h
    simp only [List.take_succ_cons]
    unfold Rps
    exact ⟨_, _, rfl, a, Rps.take n b⟩
theorem Rps.drop {K : PySem.W.Frag} {H : Hp} : ∀ {ds : List D} {vs : List V} (n : Nat), Rps K H ds vs → Rps K H (ds.drop n) (vs.drop n)
  | _, _, 0, h => h
  | [], _, n + 1, h => by unfold Rps at h; subst h; simp [Rps]
  | d :: ds, _, n + 1, h => by
    unfold Rps at h
    obtain ⟨w, ws, rfl, a, b⟩ := h
    simp only [List.drop_succ_cons]
    exact Rps.drop n b
theorem Rps.set {K : PySem.W.Frag} {H : Hp} {d : D} {v : V} (r : Rp K H d v) : ∀ {ds : List D} {vs : List V} (n : Nat), Rps K H ds vs → Rps K H (ds.set n d) (vs.set n v)
  | [], _, n, h => by unfold Rps at h; subst h; simp [Rps]
  | x :: xs, _, 0, h => by
    unfold Rps at h
    obtain ⟨w, ws, rfl, a, b⟩ := h
    simp only [List.set_cons_zero]
    unfold Rps
    exact ⟨_, _, rfl, r, b⟩
  | x :: xs, _, n + 1, h => by
    unfold Rps at h
    obtain ⟨w, ws, rfl, a, b⟩ := h
    simp only [List.set_cons_succ]
    unfold Rps
    exact ⟨_, _, rfl, a, Rps.set r n b⟩
theorem Rps.ints {K : PySem.W.Frag} {H : Hp} : ∀ {ns : List Int} {vs : List V}, Rps K H (ns.map D.int) vs → vs = ns.map V.int
  | [], _, h => h
  | n :: ns, _, h => by
    simp only [List.map_cons] at h ⊢
    unfold Rps at h
    obtain ⟨w, ws, rfl, a, b⟩ := h
    have a' : w = V.int n := a
    rw [a', Rps.ints b]
theorem Rps.of_ints {K : PySem.W.Frag} {H : Hp} : ∀ (ns : List Int), Rps K H (ns.map D.int) (ns.map V.int)
  | [] => rfl
  | n :: ns => by
    simp only [List.map_cons]
    unfold Rps
    exact ⟨_, _, rfl, rfl, Rps.of_ints ns⟩
theorem Rps.bls {K : PySem.W.Frag} {H : Hp} : ∀ {ns : List Bool} {vs : List V}, Rps K H (ns.map D.bl) vs → vs = ns.map V.bl
  | [], _, h => h
  | n :: ns, _, h => by
    simp only [List.map_cons] at h ⊢
    unfold Rps at h
    obtain ⟨w, ws, rfl, a, b⟩ := h
    have a' : w = V.bl n := a
    rw [a', Rps.bls b]

/-! ### writes -/
/-- a new object, its store's entry -/
theorem fr_new {μ : Mu} {H : Hp} {p : Addr} {o : HO} {u : O} (h : H p = none) : Fr μ H (mset μ p u) (upd H p o) := fun b x e _ n => by
  have : b ≠ p := ne_of_none e h
  exact ⟨by rw [upd_ne this]; exact e, by rw [mset_ne this]; exact n⟩
/-- a new object, not in the store (a tuple) -/
theorem fr_tup {μ : Mu} {H : Hp} {p : Addr} {o : HO} (h : H p = none) : Fr μ H μ (upd H p o) := fun b x e _ n => by
  have : b ≠ p := ne_of_none e h
  exact ⟨by rw [upd_ne this]; exact e, n⟩
/-- an object of the store is written -/
theorem fr_set {μ : Mu} {H : Hp} {p : Addr} {o : HO} {u u' : O} (h : μ p = some u') : Fr μ H (mset μ p u) (upd H p o) := fun b x e _ n => by
  have : b ≠ p := fun z => by subst z; rw [h] at n; cases n
  exact ⟨by rw [upd_ne this]; exact e, by rw [mset_ne this]; exact n⟩
theorem OR.keep {K : PySem.W.Frag} {μ μ' : Mu} {H H' : Hp} (S : Sim K μ H) (F : Fr μ H μ' H') {a : Addr} {o : O} (h : OR K H a o) (ha : ∀ x, H a = some x → H' a = some x) : OR K H' a o := by
  cases o with
  | lst ds =>
    obtain ⟨vs, e, r⟩ := h
    exact ⟨vs, ha _ e, Rps.keep S F ds r⟩
  | exc C d =>
    obtain ⟨dx, v, e, e2, r⟩ := h
    exact ⟨dx, v, ha _ e, (F dx _ e2 (fun _ z => by cases z) (S.notTup e2 (fun _ z => by cases z) (fun _ z => by cases z))).1, Rp.keep S F d r⟩
theorem sim_tup {K : PySem.W.Frag} {μ : Mu} {H : Hp} (S : Sim K μ H) {p : Addr} {o : HO} (h : H p = none) : Sim K μ (upd H p o) := ⟨fun a u e =>
  (S.at_ a u e).keep S (fr_tup h) fun x q => by rw [upd_ne (ne_of_none q h)]; exact q⟩
theorem sim_lst {K : PySem.W.Frag} {μ : Mu} {H : Hp} (S : Sim K μ H) {p : Addr} {ds : List D} {vs : List V} (F : Fr μ H (mset μ p (.lst ds)) (upd H p (.lst vs))) (r : Rps K H ds vs) : Sim K (mset μ p (.lst ds)) (upd H p (.lst vs)) := ⟨fun a u e => by
  by_cases ha : a = p
  · subst ha
    rw [mset_same] at e; cases e
    exact ⟨vs, upd_same, Rps.keep S F ds r⟩
  · rw [mset_ne ha] at e
    exact (S.at_ a u e).keep S F fun x q => by rw [upd_ne ha]; exact q⟩

/-! ### environments -/
abbrev Ev := List (Option D)
def EnvR (K : PySem.W.Frag) (H : Hp) : Ev → L2.St → Prop
  | [], σ => σ = []
  | e :: ρ, σ => ∃ s σ', σ = s :: σ' ∧ (∀ d, e = some d → ∃ v, s = some v ∧ Rp K H d v) ∧ EnvR K H ρ σ'
theorem EnvR.keep {K : PySem.W.Frag} {μ μ' : Mu} {H H' : Hp} (S : Sim K μ H) (F : Fr μ H μ' H') : ∀ {ρ : Ev} {σ : L2.St}, EnvR K H ρ σ → EnvR K H' ρ σ
  | [], _, h => h
  | e :: ρ, _, h => by
    unfold EnvR at h ⊢
    obtain ⟨s, σ', rfl, a, b⟩ := h
    refine ⟨s, σ', rfl, fun d q => ?_, EnvR.keep S F b⟩
    obtain ⟨v, h1, h2⟩ := a d q
    exact ⟨v, h1, Rp.keep S F d h2⟩
theorem EnvR.get {K : PySem.W.Frag} {H : Hp} : ∀ {ρ : Ev} {σ : L2.St} {i : Nat} {d : D}, EnvR K H ρ σ → ρ[i]? = some (some d) → ∃ v, σ[i]? = some (some v) ∧ Rp K H d v
  | [], _, _, _, _, e => by simp at e
  | x :: ρ, _, 0, d, h, e => by
    unfold EnvR at h
    obtain ⟨s, σ', rfl, a, b⟩ := h
    simp at e
    obtain ⟨v, h1, h2⟩ := a d e
    exact ⟨v, by rw [h1]; rfl, h2⟩
  | x :: ρ, _, i + 1, d, h, e => by
    unfold EnvR at h
    obtain ⟨s, σ', rfl, a, b⟩ := h
    obtain ⟨v, h1, h2⟩ := EnvR.get (i := i) b (by simpa using e)
    exact ⟨v, by simpa using h1, h2⟩
theorem EnvR.set {K : PySem.W.Frag} {H : Hp} {d : D} {v : V} (r : Rp K H d v) : ∀ {ρ : Ev} {σ : L2.St} (i : Nat), EnvR K H ρ σ → EnvR K H (ρ.set i (some d)) (σ.set i (some v))
  | [], _, _, h => by unfold EnvR at h; subst h; simp [EnvR]
  | x :: ρ, _, 0, h => by
    unfold EnvR at h
    obtain ⟨s, σ', rfl, a, b⟩ := h
    simp only [List.set_cons_zero]
    unfold EnvR
    exact ⟨_, _, rfl, fun d' q => by cases q; exact ⟨v, rfl, r⟩, b⟩
  | x :: ρ, _, i + 1, h => by
    unfold EnvR at h
    obtain ⟨s, σ', rfl, a, b⟩ := h
    simp only [List.set_cons_succ]
    unfold EnvR
    exact ⟨_, _, rfl, a, EnvR.set r i b⟩
theorem EnvR.wipe {K : PySem.W.Frag} {H : Hp} : ∀ {ρ : Ev} {σ : L2.St} (i : Nat) (s : Option V), EnvR K H ρ σ → EnvR K H (ρ.set i none) (σ.set i s)
  | [], _, _, _, h => by unfold EnvR at h; subst h; simp [EnvR]
  | x :: ρ, _, 0, _, h => by
    unfold EnvR at h
    obtain ⟨s, σ', rfl, a, b⟩ := h
    simp only [List.set_cons_zero]
    unfold EnvR
    exact ⟨_, _, rfl, fun d' q => (by cases q), b⟩
  | x :: ρ, _, i + 1, t, h => by
    unfold EnvR at h
    obtain ⟨s, σ', rfl, a, b⟩ := h
    simp only [List.set_cons_succ]
    unfold EnvR
    exact ⟨_, _, rfl, a, EnvR.wipe i t b⟩
/-- the start -/
def ev0 (n : Nat) (ds : List D) : Ev := ds.map some ++ List.replicate (n - ds.length) none
theorem EnvR.nones {K : PySem.W.Frag} {H : Hp} : ∀ (n : Nat), EnvR K H (List.replicate n Option.none) (List.replicate n Option.none)
  | 0 => rfl
  | n + 1 => by
    simp only [List.replicate_succ]
    unfold EnvR
    exact ⟨_, _, rfl, fun d q => (by cases q), EnvR.nones n⟩
theorem EnvR.start {K : PySem.W.Frag} {H : Hp} {m : Nat} : ∀ {ds : List D} {vs : List V}, Rps K H ds vs → EnvR K H (ds.map some ++ List.replicate m none) (vs.map some ++ List.replicate m none)
  | [], _, h => by unfold Rps at h; subst h; exact EnvR.nones m
  | d :: ds, _, h => by
    unfold Rps at h
    obtain ⟨w, ws, rfl, a, b⟩ := h
    simp only [List.map_cons, List.cons_append]
    unfold EnvR
    exact ⟨_, _, rfl, fun d' q => by cases q; exact ⟨w, rfl, a⟩, EnvR.start b⟩
end Sq

/-! Weakest preconditions over data, lifted to the hand layer's readings: expressions. -/
namespace Sq
open PySem PySem.Spec PyProof.Rows L2

abbrev PQ := D → Mu → Prop
/-- an error: its class, its value -/
abbrev XQ := Addr → D → Mu → Prop
structure Wp (α : Type) where
  run : Ev → Mu → (α → Mu → Prop) → XQ → Prop
  mono : ∀ {ρ μ Q Q' X X'}, (∀ d μ', Q d μ' → Q' d μ') → (∀ C d μ', X C d μ' → X' C d μ') → run ρ μ Q X → run ρ μ Q' X'
abbrev WE := Wp D
abbrev WT := Wp Bool
abbrev WA := Wp (List D)

def Out {α β : Type} (R : Hp → α → β → Prop) (K : PySem.W.Frag) (μ : Mu) (H : Hp) (Q : β → Hp → Prop) : α → Mu → Prop := fun d μ' => ∀ v H', Fr μ H μ' H' → Sim K μ' H' → R H' d v → Q v H'
def OutX (K : PySem.W.Frag) (Wx : WX) (σ : L2.St) (μ : Mu) (H : Hp) : XQ := fun C d μ' => ∀ dx v H', Fr μ H μ' H' → Sim K μ' H' → H' dx = some (.xd [("value", v)]) → Rp K H' d v → Wx (.ref C) (some dx) σ H'
def lW {α β : Type} (R : Hp → α → β → Prop) (K : PySem.W.Frag) (Wx : WX) (w : Wp α) : L2.St → Hp → (β → Hp → Prop) → Prop := fun σ H Q =>
  ∃ ρ μ, EnvR K H ρ σ ∧ Sim K μ H ∧ w.run ρ μ (Out R K μ H Q) (OutX K Wx σ μ H)
abbrev lE (K : PySem.W.Frag) (Wx : WX) (w : WE) : TE := lW (Rp K) K Wx w
abbrev lT (K : PySem.W.Frag) (Wx : WX) (w : WT) : TT := lW (fun (_ : Hp) (b c : Bool) => b = c) K Wx w
abbrev lA (K : PySem.W.Frag) (Wx : WX) (w : WA) : TA := lW (Rps K) K Wx w
def LE (X : Cx) (Wx : WX) (e : Expr) (w : WE) : Prop := PE X e (lE X.K Wx w)
def LT (X : Cx) (Wx : WX) (e : Expr) (w : WT) : Prop := PT X e (lT X.K Wx w)
def LA (X : Cx) (Wx : WX) (es : List Expr) (w : WA) : Prop := PA X es (lA X.K Wx w)

theorem Out.trans {α β : Type} {R : Hp → α → β → Prop} {K : PySem.W.Frag} {μ μ1 : Mu} {H H1 : Hp} {Q : β → Hp → Prop} (F : Fr μ H μ1 H1) {d : α} {μ' : Mu} (h : Out R K μ H Q d μ') : Out R K μ1 H1 Q d μ' := fun v H' F' S r => h v H' (F.trans F') S r
theorem OutX.trans {K : PySem.W.Frag} {Wx : WX} {σ : L2.St} {μ μ1 : Mu} {H H1 : Hp} (F : Fr μ H μ1 H1) {C : Addr} {d : D} {μ' : Mu} (h : OutX K Wx σ μ H C d μ') : OutX K Wx σ μ1 H1 C d μ' := fun dx v H' F' S r r2 => h dx v H' (F.trans F') S r r2
/-- one part, then the rest -/
theorem lW.bind {α β : Type} {R : Hp → α → β → Prop} {K : PySem.W.Frag} {Wx : WX} {w : Wp α} {σ : L2.St} {H : Hp} {ρ : Ev} {μ : Mu} {Q : α → Mu → Prop} {X : XQ} {Q' : β → Hp → Prop} (E : EnvR K H ρ σ) (S : Sim K μ H) (h : w.run ρ μ Q X)
    (hQ : ∀ d μ1 v H1, Fr μ H μ1 H1 → Sim K μ1 H1 → EnvR K H1 ρ σ → R H1 d v → Q d μ1 → Q' v H1) (hX : ∀ C d μ', X C d μ' → OutX K Wx σ μ H C d μ') : lW R K Wx w σ H Q' :=
  ⟨ρ, μ, E, S, w.mono (fun d μ1 q v H1 F S1 r => hQ d μ1 v H1 F S1 (E.keep S F) r q) hX h⟩
theorem PE.weak {X : Cx} {e : Expr} {t t' : TE} (h : PE X e t) (hw : ∀ σ H Q, t' σ H Q → t σ H Q) : PE X e t' := ⟨fun pins s σ H Q I q => h.run pins s σ H Q I (hw σ H Q q)⟩
theorem PT.weak {X : Cx} {e : Expr} {t t' : TT} (h : PT X e t) (hw : ∀ σ H Q, t' σ H Q → t σ H Q) : PT X e t' := ⟨fun pins s σ H Q I q => h.run pins s σ H Q I (hw σ H Q q)⟩
theorem PW.weak {X : Cx} {e : Expr} {t t' : TT} (h : PW X e t) (hw : ∀ σ H Q, t' σ H Q → t σ H Q) : PW X e t' := ⟨fun wh pins s σ H Q I q => h.run wh pins s σ H Q I (hw σ H Q q)⟩
theorem PA.weak {X : Cx} {es : List Expr} {t t' : TA} (h : PA X es t) (hw : ∀ σ H Q, t' σ H Q → t σ H Q) : PA X es t' := ⟨fun pos pins s σ H Q I q => h.run pos pins s σ H Q I (hw σ H Q q)⟩

section
variable {X : Cx} {Wx : WX}
/-! ### names, constants -/
def wVar (i : Nat) : WE := ⟨fun ρ μ Q _ => match ρ[i]? with | some (some d) => Q d μ | _ => False, fun {ρ μ Q Q' X X'} hQ _ h => by
  revert h
  cases ρ[i]? with
  | none => exact id
  | some o =>
    cases o with
    | none => exact id
    | some d => exact hQ d μ⟩
theorem wVar_run {i : Nat} {ρ : Ev} {μ : Mu} {Q : PQ} {X : XQ} : (wVar i).run ρ μ Q X = (match ρ[i]? with | some (some d) => Q d μ | _ => False) := rfl
theorem le_var (i : Nat) {x : Str} {pos : Pos} (hN : X.N[i]? = some x := by rfl) (hv : Vis X.env.scope x := by first | exact Or.inl rfl | exact Or.inr (Or.inl rfl) | exact Or.inr (Or.inr rfl)) (hd : (x == ("__debug__" : Str)) = false := by decide)
    (hcd : (x == ("__classdict__" : Str)) = false := by decide) : LE X Wx (.Name x pos) (wVar i) :=
  PE.weak (pe_var hN hv hd hcd) fun σ H Q ⟨ρ, μ, E, S, h⟩ => by
    rw [wVar_run] at h
    split at h
    · rename_i d e
      obtain ⟨v, h1, h2⟩ := E.get e
      exact ⟨v, h1, h v H (Fr.refl μ H) S h2⟩
    · exact h.elim
def wC (d : D) : WE := ⟨fun _ μ Q _ => Q d μ, fun hQ _ h => hQ _ _ h⟩
theorem wC_run {d : D} {ρ : Ev} {μ : Mu} {Q : PQ} {X : XQ} : (wC d).run ρ μ Q X = Q d μ := rfl
theorem le_const {e : Expr} {v : V} {d : D} (h : PE X e (tC v)) (r : ∀ H, Rp X.K H d v) : LE X Wx e (wC d) := PE.weak h fun σ H Q ⟨ρ, μ, E, S, h⟩ => h v H (Fr.refl μ H) S (r H)
theorem le_int {i j pos} : LE X Wx (.Constant (.int i) j pos) (wC (.int i)) := le_const pe_int fun _ => rfl
theorem le_bl {b j pos} : LE X Wx (.Constant (.bool b) j pos) (wC (.bl b)) := le_const pe_bl fun _ => rfl
theorem le_non {j pos} : LE X Wx (.Constant .none j pos) (wC .non) := le_const pe_non fun _ => rfl
theorem le_str {x j pos} : LE X Wx (.Constant (.str x) j pos) (wC (.str x)) := le_const pe_str fun _ => rfl
/-- a constant of the module -/
theorem le_glob {x : Str} {d : D} {v : V} {u : Value} {pos : Pos} (hm : X.mg x = some u) (r : RelV v u) (rd : ∀ H, Rp X.K H d v) (hg : Gl X x := by rfl) (hd : (x == ("__debug__" : Str)) = false := by decide) : LE X Wx (.Name x pos) (wC d) :=
  le_const (pe_glob hg hm r hd) rd

/-! ### operators by values -/
/-- what an operator does with two data -/
structure G2 where
  run : D → D → Mu → PQ → Prop
  mono : ∀ {x y μ Q Q'}, (∀ d μ', Q d μ' → Q' d μ') → run x y μ Q → run x y μ Q'
def OpD (X : Cx) (f : Value → Value → Sem Value) (g : G2) : Prop := ∃ r : R2, OpR X f r ∧ ∀ x y μ H vx vy Q, Sim X.K μ H → Rp X.K H x vx → Rp X.K H y vy → g.run x y μ (Out (Rp X.K) X.K μ H Q) → r vx vy H Q
def wOp (g : G2) (a b : WE) : WE := ⟨fun ρ μ Q X => a.run ρ μ (fun x μ1 => b.run ρ μ1 (fun y μ2 => g.run x y μ2 Q) X) X, fun hQ hX h => a.mono (fun _ _ h => b.mono (fun _ _ h => g.mono hQ h) hX h) hX h⟩
theorem wOp_run {g : G2} {a b : WE} {ρ : Ev} {μ : Mu} {Q : PQ} {X : XQ} : (wOp g a b).run ρ μ Q X = a.run ρ μ (fun x μ1 => b.run ρ μ1 (fun y μ2 => g.run x y μ2 Q) X) X := rfl
theorem wOp_t {g : G2} {f : Value → Value → Sem Value} {wa wb : WE} {r : R2} (hg : ∀ x y μ H vx vy Q, Sim X.K μ H → Rp X.K H x vx → Rp X.K H y vy → g.run x y μ (Out (Rp X.K) X.K μ H Q) → r vx vy H Q) :
    ∀ σ H Q, lE X.K Wx (wOp g wa wb) σ H Q → tOp r (lE X.K Wx wa) (lE X.K Wx wb) σ H Q := fun σ H Q ⟨ρ, μ, E, S, h⟩ => by
  refine lW.bind E S h (fun x μ1 v H1 F1 S1 E1 r1 h1 => ?_) fun _ _ _ h => h
  refine lW.bind E1 S1 h1 (fun y μ2 u H2 F2 S2 E2 r2 h2 => ?_) fun _ _ _ h => h.trans F1
  exact hg x y μ2 H2 v u Q S2 (Rp.keep S1 F2 x r1) r2 (g.mono (fun _ _ q => q.trans (F1.trans F2)) h2)
theorem le_op {op : Operator} {a b : Expr} {pos : Pos} {g : G2} {wa wb : WE} (ho : OpD X (binaryOp op) g) (ha : LE X Wx a wa) (hb : LE X Wx b wb) : LE X Wx (.BinOp a op b pos) (wOp g wa wb) := by
  obtain ⟨r, h1, h2⟩ := ho
  exact PE.weak (pe_op h1 ha hb) (wOp_t (f := binaryOp op) h2)
theorem le_cmp {op : CmpOp} {a b : Expr} {pos : Pos} {g : G2} {wa wb : WE} (ho : OpD X (compareOp op) g) (ha : LE X Wx a wa) (hb : LE X Wx b wb) (hm : behindInMarks op b = false := by first | exact nomark _ | rfl) : LE X Wx (.Compare a [op] [b] pos) (wOp g wa wb) := by
  obtain ⟨r, h1, h2⟩ := ho
  exact PE.weak (pe_cmpR h1 ha hb hm) (wOp_t (f := compareOp op) h2)
/-- of a bool -/
def onBl (z : D) (f : Bool → Prop) : Prop := match z with | .bl k => f k | _ => False
theorem onBl_bl {k : Bool} {f : Bool → Prop} : onBl (.bl k) f = f k := rfl
theorem onBl_mono {z : D} {f f' : Bool → Prop} (h : ∀ k, f k → f' k) (q : onBl z f) : onBl z f' := by
  cases z with
  | bl k => exact h k q
  | _ => exact q
theorem onBl_v {K : PySem.W.Frag} {H : Hp} {z : D} {v : V} {f : Bool → Prop} (r : Rp K H z v) (q : onBl z f) : ∃ k, v = .bl k ∧ f k := by
  cases z with
  | bl k => exact ⟨k, r, q⟩
  | _ => exact q.elim
/-- a < b < c -/
def wChain (g g' : G2) (a b c : WE) : WE := ⟨fun ρ μ Q X => a.run ρ μ (fun x μ1 => b.run ρ μ1 (fun y μ2 => g.run x y μ2 fun z μ3 => onBl z fun k => if k = true then c.run ρ μ3 (fun u μ4 => g'.run y u μ4 Q) X else Q (.bl false) μ3) X) X,
  fun hQ hX h => a.mono (fun _ _ h => b.mono (fun _ _ h => g.mono (fun z _ h => onBl_mono (fun k h => by
    cases k with
    | true => exact c.mono (fun _ _ h => g'.mono hQ h) hX h
    | false => exact hQ _ _ h) h) h) hX h) hX h⟩
theorem wChain_run {g g' : G2} {a b c : WE} {ρ : Ev} {μ : Mu} {Q : PQ} {X : XQ} : (wChain g g' a b c).run ρ μ Q X = a.run ρ μ (fun x μ1 => b.run ρ μ1 (fun y μ2 => g.run x y μ2 fun z μ3 => onBl z fun k => if k = true then c.run ρ μ3 (fun u μ4 => g'.run y u μ4 Q) X else Q (.bl false) μ3) X) X := rfl
theorem le_chain {op op' : CmpOp} {a b c : Expr} {pos : Pos} {g g' : G2} {wa wb wc : WE} (ho : OpD X (compareOp op) g) (ho' : OpD X (compareOp op') g') (ha : LE X Wx a wa) (hb : LE X Wx b wb) (hc : LE X Wx c wc)
    (hm : lastMarks [op, op'] [b, c] = false := by with_unfolding_all rfl) : LE X Wx (.Compare a [op, op'] [b, c] pos) (wChain g g' wa wb wc) := by
  obtain ⟨r, h1, h2⟩ := ho
  obtain ⟨r', h1', h2'⟩ := ho'
  refine PE.weak (pe_chain h1 h1' ha hb hc hm) fun σ H Q ⟨ρ, μ, E, S, h⟩ => ?_
  refine lW.bind E S h (fun x μ1 v H1 F1 S1 E1 r1 h1 => ?_) fun _ _ _ h => h
  refine lW.bind E1 S1 h1 (fun y μ2 u H2 F2 S2 E2 r2 h2a => ?_) fun _ _ _ h => h.trans F1
  refine h2 x y μ2 H2 v u _ S2 (Rp.keep S1 F2 x r1) r2 (g.mono (fun z μ3 q z' H3 F3 S3 r3 => ?_) h2a)
  obtain ⟨k, e, q⟩ := onBl_v r3 q
  refine ⟨k, e, ?_⟩
  cases k with
  | false => exact iteF ((show Out (Rp X.K) X.K μ H Q (.bl false) μ3 from q) _ _ (F1.trans (F2.trans F3)) S3 rfl)
  | true =>
    refine iteT (lW.bind (E2.keep S2 F3) S3 q (fun t μ4 w H4 F4 S4 E4 r4 h4 => ?_) fun _ _ _ h => h.trans (F1.trans (F2.trans F3)))
    exact h2' y t μ4 H4 u w Q S4 (Rp.keep S3 F4 y (Rp.keep S2 F3 y r2)) r4 (g'.mono (fun _ _ q => q.trans (F1.trans (F2.trans (F3.trans F4)))) h4)
end
end Sq

/-! Operators over data. -/
namespace Sq
open PySem PySem.Spec PyProof.Rows L2

/-! ### data from values -/
section
variable {K : PySem.W.Frag} {H : Hp} {v : V}
theorem rp_non (r : Rp K H .non v) : v = .non := r
theorem rp_bl {b : Bool} (r : Rp K H (.bl b) v) : v = .bl b := r
theorem rp_int {i : Int} (r : Rp K H (.int i) v) : v = .int i := r
theorem rp_str {x : Str} (r : Rp K H (.str x) v) : v = .str x := r
theorem rp_ob {a : Addr} (r : Rp K H (.ob a) v) : v = .ref a := r
theorem rp_tup {ds : List D} (r : Rp K H (.tup ds) v) : ∃ p vs, v = .ref p ∧ SqT K H p vs ∧ Rps K H ds vs := by unfold Rp at r; exact r
theorem rp_rls {ds : List D} (r : Rp K H (.rls ds) v) : ∃ p vs, v = .ref p ∧ SqR K H p vs ∧ Rps K H ds vs := by unfold Rp at r; exact r
theorem rp_mk {ds : List D} {p : Addr} {vs : List V} (h : SqT K H p vs) (r : Rps K H ds vs) : Rp K H (.tup ds) (.ref p) := by unfold Rp; exact ⟨p, vs, rfl, h, r⟩
/-- a list of the store -/
theorem Sim.lst {μ : Mu} (S : Sim K μ H) {a : Addr} {ds : List D} (h : μ a = some (.lst ds)) : ∃ vs, H a = some (.lst vs) ∧ Rps K H ds vs := S.at_ a _ h
end
/-- the new tuple -/
theorem out_tup {K : PySem.W.Frag} {μ : Mu} {H : Hp} {Q : VK} {ds : List D} {vs : List V} (S : Sim K μ H) (r : Rps K H ds vs) (h : Out (Rp K) K μ H Q (.tup ds) μ) : ∀ p, H p = none → Q (.ref p) (upd H p (.tup vs)) := fun p hp =>
  h _ _ (fr_tup hp) (sim_tup S hp) (rp_mk (SqT.of upd_same) (Rps.keep S (fr_tup hp) ds r))
/-- the new list -/
theorem out_lst {K : PySem.W.Frag} {μ : Mu} {H : Hp} {Q : VK} {ds : List D} {vs : List V} (S : Sim K μ H) (r : Rps K H ds vs) (h : ∀ p, μ p = none → Out (Rp K) K μ H Q (.ob p) (mset μ p (.lst ds))) : ∀ p, H p = none → Q (.ref p) (upd H p (.lst vs)) := fun p hp =>
  h p (S.free hp) _ _ (fr_new hp) (sim_lst S (fr_new hp) r) rfl

/-! ### ints -/
def gI (C : Int → Int → Prop) (g : Int → Int → D) : G2 := ⟨fun x y μ Q => match x, y with | .int i, .int j => C i j ∧ Q (g i j) μ | _, _ => False, fun {x y μ Q Q'} hQ h => by
  cases x <;> cases y <;> first | exact ⟨h.1, hQ _ _ h.2⟩ | exact h⟩
theorem gI_run {C : Int → Int → Prop} {g : Int → Int → D} {i j : Int} {μ : Mu} {Q : PQ} : (gI C g).run (.int i) (.int j) μ Q = (C i j ∧ Q (g i j) μ) := rfl
section
variable {X : Cx}
theorem od_int {f : Value → Value → Sem Value} {C : Int → Int → Prop} {gv : Int → Int → V} {g : Int → Int → D} (h : OpR X f (rI C gv)) (e : ∀ i j H, Rp X.K H (g i j) (gv i j)) : OpD X f (gI C g) := ⟨_, h, fun x y μ H vx vy Q S rx ry q => by
  cases x <;> cases y <;> first
    | exact q.elim
    | (rw [rp_int rx, rp_int ry]; exact ⟨_, _, rfl, rfl, q.1, q.2 _ _ (Fr.refl μ H) S (e _ _ H)⟩)⟩
theorem od_int0 {f : Value → Value → Sem Value} {gv : Int → Int → V} {g : Int → Int → D} (h : OpR X f (rI0 gv)) (e : ∀ i j H, Rp X.K H (g i j) (gv i j)) : OpD X f (gI (fun _ _ => True) g) := ⟨_, h, fun x y μ H vx vy Q S rx ry q => by
  cases x <;> cases y <;> first
    | exact q.elim
    | (rw [rp_int rx, rp_int ry]; exact ⟨_, _, rfl, rfl, q.2 _ _ (Fr.refl μ H) S (e _ _ H)⟩)⟩
def gSub : G2 := gI (fun _ _ => True) fun i j => .int (i - j)
theorem od_sub : OpD X (binaryOp .Sub) gSub := od_int0 op_sub fun _ _ _ => rfl
/-- a divisor: not 0, below 2 ^ 9000 -/
def DivOk (j : Int) : Prop := j ≠ 0 ∧ j.natAbs < 2 ^ 9000
theorem op_fdivA : OpR X (binaryOp .FloorDiv) (rI (fun _ j => DivOk j) fun i j => .int (i.fdiv j)) := opI fun i j _ _ _ _ _ hc q =>
  floordiv_int hc.1 q (.inl (PyProof.noPylong_of_log2 (PySem.Flt.log2_lt_of (by decide) hc.2)))
def gFdiv : G2 := gI (fun _ j => DivOk j) fun i j => .int (i.fdiv j)
theorem od_fdiv : OpD X (binaryOp .FloorDiv) gFdiv := od_int op_fdivA fun _ _ _ => rfl
def gMod : G2 := gI (fun _ j => j ≠ 0) fun i j => .int (i.fmod j)
theorem od_mod : OpD X (binaryOp .Mod) gMod := od_int op_modN fun _ _ _ => rfl
/-- a < b of ints -/
def gLt : G2 := gI (fun _ _ => True) fun i j => .bl (decide (i < j))
def gLe : G2 := gI (fun _ _ => True) fun i j => .bl (decide (i ≤ j))
def gGt : G2 := gI (fun _ _ => True) fun i j => .bl (decide (j < i))
def gGe : G2 := gI (fun _ _ => True) fun i j => .bl (decide (j ≤ i))
theorem od_lt : OpD X (compareOp .Lt) gLt := od_int0 op_lt fun _ _ _ => rfl
theorem od_le : OpD X (compareOp .LtE) gLe := od_int0 op_le fun _ _ _ => rfl
theorem od_gt : OpD X (compareOp .Gt) gGt := od_int0 op_gt fun _ _ _ => rfl
theorem od_ge : OpD X (compareOp .GtE) gGe := od_int0 op_ge fun _ _ _ => rfl

/-! ### + of ints, texts, tuples, lists -/
def gAdd : G2 := ⟨fun x y μ Q => match x, y with
    | .int i, .int j => Q (.int (i + j)) μ
    | .str s, .str t => s.length + t.length ≤ sizeLine ∧ Q (.str (s ++ t)) μ
    | .tup xs, .tup ys => xs.length + ys.length ≤ sizeLine ∧ Q (.tup (xs ++ ys)) μ
    | .ob a, .ob b => (match μ a, μ b with | some (.lst xs), some (.lst ys) => xs.length + ys.length ≤ sizeLine ∧ ∀ p, μ p = none → Q (.ob p) (mset μ p (.lst (xs ++ ys))) | _, _ => False)
    | _, _ => False, fun {x y μ Q Q'} hQ h => by
  cases x <;> cases y <;> first
    | exact hQ _ _ h
    | exact ⟨h.1, hQ _ _ h.2⟩
    | (revert h; dsimp only; split
       · exact fun h => ⟨h.1, fun p hp => hQ _ _ (h.2 p hp)⟩
       · exact id)
    | exact h⟩
theorem gAdd_int {i j : Int} {μ : Mu} {Q : PQ} : gAdd.run (.int i) (.int j) μ Q = Q (.int (i + j)) μ := rfl
theorem gAdd_str {i j : Str} {μ : Mu} {Q : PQ} : gAdd.run (.str i) (.str j) μ Q = (i.length + j.length ≤ sizeLine ∧ Q (.str (i ++ j)) μ) := rfl
theorem gAdd_tup {i j : List D} {μ : Mu} {Q : PQ} : gAdd.run (.tup i) (.tup j) μ Q = (i.length + j.length ≤ sizeLine ∧ Q (.tup (i ++ j)) μ) := rfl
theorem gAdd_ob {a b : Addr} {μ : Mu} {Q : PQ} : gAdd.run (.ob a) (.ob b) μ Q = (match μ a, μ b with | some (.lst xs), some (.lst ys) => xs.length + ys.length ≤ sizeLine ∧ ∀ p, μ p = none → Q (.ob p) (mset μ p (.lst (xs ++ ys))) | _, _ => False) := rfl
theorem od_add : OpD X (binaryOp .Add) gAdd := ⟨_, (op_add.or (op_add_str.or (op_catA.or op_cat))), fun x y μ H vx vy Q S rx ry q => by
  cases x <;> cases y <;> first
    | exact q.elim
    | (rw [rp_int rx, rp_int ry]; exact .inl ⟨_, _, rfl, rfl, (show Out (Rp X.K) X.K μ H Q _ μ from q) _ _ (Fr.refl μ H) S rfl⟩)
    | (rw [rp_str rx, rp_str ry]; exact .inr (.inl ⟨_, _, rfl, rfl, q.1, q.2 _ _ (Fr.refl μ H) S rfl⟩))
    | (rename_i xs ys
       obtain ⟨p, vs, e1, t1, r1⟩ := rp_tup rx
       obtain ⟨p', vs', e2, t2, r2⟩ := rp_tup ry
       subst e1 e2
       have q' : Out (Rp X.K) X.K μ H Q (.tup (xs ++ ys)) μ := q.2
       refine .inr (.inr (.inl ⟨p, p', vs, vs', rfl, rfl, t1, t2, by rw [r1.length, r2.length]; exact q.1, fun e => ?_, fun _ e => ?_, fun _ _ => out_tup S (r1.append r2) q'⟩))
       · have : xs = [] := List.eq_nil_of_length_eq_zero (by rw [← r1.length, e]; rfl)
         subst this
         exact q' _ _ (Fr.refl μ H) S ry
       · have : ys = [] := List.eq_nil_of_length_eq_zero (by rw [← r2.length, e]; rfl)
         subst this
         rw [List.append_nil] at q'
         exact q' _ _ (Fr.refl μ H) S rx)
    | (rename_i a b
       rw [rp_ob rx, rp_ob ry]
       rw [gAdd_ob] at q
       split at q
       · rename_i xs ys e1 e2
         obtain ⟨vs, h1, r1⟩ := S.lst e1
         obtain ⟨vs', h2, r2⟩ := S.lst e2
         exact .inr (.inr (.inr ⟨a, b, vs, vs', rfl, rfl, h1, h2, by rw [r1.length, r2.length]; exact q.1, out_lst S (r1.append r2) q.2⟩))
       · exact q.elim)⟩

/-! ### * of ints; list * int, tuple * int -/
/-- a product of a size that the model carries -/
def gMul : G2 := ⟨fun x y μ Q => match x, y with
    | .int i, .int j => IntMulOk i j ∧ Q (.int (i * j)) μ
    | .ob a, .int k => (match μ a with | some (.lst xs) => -(2 ^ 63) ≤ k ∧ k < 2 ^ 63 ∧ xs.length * k.toNat ≤ sizeLine ∧ ∀ p, μ p = none → Q (.ob p) (mset μ p (.lst (List.replicate k.toNat xs).flatten)) | _ => False)
    | _, _ => False, fun {x y μ Q Q'} hQ h => by
  cases x <;> cases y <;> first
    | exact ⟨h.1, hQ _ _ h.2⟩
    | (revert h; dsimp only; split
       · exact fun h => ⟨h.1, h.2.1, h.2.2.1, fun p hp => hQ _ _ (h.2.2.2 p hp)⟩
       · exact id)
    | exact h⟩
theorem gMul_int {i j : Int} {μ : Mu} {Q : PQ} : gMul.run (.int i) (.int j) μ Q = (IntMulOk i j ∧ Q (.int (i * j)) μ) := rfl
theorem gMul_ob {a : Addr} {k : Int} {μ : Mu} {Q : PQ} : gMul.run (.ob a) (.int k) μ Q = (match μ a with | some (.lst xs) => -(2 ^ 63) ≤ k ∧ k < 2 ^ 63 ∧ xs.length * k.toNat ≤ sizeLine ∧ ∀ p, μ p = none → Q (.ob p) (mset μ p (.lst (List.replicate k.toNat xs).flatten)) | _ => False) := rfl
theorem op_mulA : OpR X (binaryOp .Mult) (rI IntMulOk fun i j => .int (i * j)) := opI fun _ _ _ _ _ _ _ hc q => mul_int q hc
theorem Rps.rep {K : PySem.W.Frag} {H : Hp} {ds : List D} {vs : List V} (h : Rps K H ds vs) : ∀ n : Nat, Rps K H (List.replicate n ds).flatten (List.replicate n vs).flatten
  | 0 => by simp [Rps]
  | n + 1 => by
    simp only [List.replicate_succ, List.flatten_cons]
    exact h.append (Rps.rep h n)
theorem od_mul : OpD X (binaryOp .Mult) gMul := ⟨_, op_mulA.or op_rep, fun x y μ H vx vy Q S rx ry q => by
  cases x <;> cases y <;> first
    | exact q.elim
    | (rw [rp_int rx, rp_int ry]; exact .inl ⟨_, _, rfl, rfl, q.1, q.2 _ _ (Fr.refl μ H) S rfl⟩)
    | (rename_i a k
       rw [rp_ob rx, rp_int ry]
       rw [gMul_ob] at q
       split at q
       · rename_i xs e1
         obtain ⟨vs, h1, r1⟩ := S.lst e1
         exact .inr ⟨a, k, vs, rfl, rfl, h1, q.1, q.2.1, by rw [r1.length]; exact q.2.2.1, out_lst S (r1.rep k.toNat) q.2.2.2⟩
       · exact q.elim)⟩
theorem mulOk_l {i j : Int} (h1 : -(2 ^ 64) < i) (h2 : i < 2 ^ 64) : IntMulOk i j := .of_left (intBits_le_64 h1 h2)
theorem mulOk_r {i j : Int} (h1 : -(2 ^ 64) < j) (h2 : j < 2 ^ 64) : IntMulOk i j := .of_right (intBits_le_64 h1 h2)
theorem mulOk_w {i j : Int} {a b : Nat} (ha : i.natAbs < 2 ^ a) (hb : j.natAbs < 2 ^ b) (h0 : 0 < a) (h1 : 0 < b) (h : a + b ≤ 1000000) : IntMulOk i j := (wide_mul ha hb h0 h1 h).ok

/-! ### ** -/
def gPow : G2 := gI CPow fun i j => .int (i ^ j.toNat)
theorem od_pow : OpD X (binaryOp .Pow) gPow := od_int op_pow fun _ _ _ => rfl

/-! ### == and != -/
mutual
inductive DPy (μ : Mu) : D → PyData → Prop
  | non : DPy μ .non .none
  | bl (b : Bool) : DPy μ (.bl b) (.bool b)
  | int (i : Int) : DPy μ (.int i) (.int i)
  | str (x : Str) : DPy μ (.str x) (.str x)
  | tup {ds : List D} {ps : List PyData} : DPys μ ds ps → DPy μ (.tup ds) (.tuple ps)
  | lst {a : Addr} {ds : List D} {ps : List PyData} : μ a = some (.lst ds) → DPys μ ds ps → DPy μ (.ob a) (.list ps)
inductive DPys (μ : Mu) : List D → List PyData → Prop
  | nil : DPys μ [] []
  | cons {d : D} {ds : List D} {p : PyData} {ps : List PyData} : DPy μ d p → DPys μ ds ps → DPys μ (d :: ds) (p :: ps)
end
mutual
theorem DPy.dp {K : PySem.W.Frag} {μ : Mu} {H : Hp} (S : Sim K μ H) : ∀ {p : PyData} {d : D} {v : V}, DPy μ d p → Rp K H d v → Dp K H v p
  | _, _, _, .non, r => by rw [rp_non r]; exact .non
  | _, _, _, .bl b, r => by rw [rp_bl r]; exact .bl b
  | _, _, _, .int i, r => by rw [rp_int r]; exact .int i
  | _, _, _, .str x, r => by rw [rp_str r]; exact .str x
  | _, _, _, .tup h, r => by
    obtain ⟨p, vs, rfl, t, q⟩ := rp_tup r
    exact .tup t (DPys.dp S h q)
  | _, _, _, .lst e h, r => by
    rw [rp_ob r]
    obtain ⟨vs, h1, q⟩ := S.lst e
    exact .lst (SqL.of h1) (DPys.dp S h q)
theorem DPys.dp {K : PySem.W.Frag} {μ : Mu} {H : Hp} (S : Sim K μ H) : ∀ {ps : List PyData} {ds : List D} {vs : List V}, DPys μ ds ps → Rps K H ds vs → DpAll K H vs ps
  | _, _, _, .nil, r => by unfold Rps at r; subst r; exact .nil
  | _, _, _, .cons a b, r => by
    unfold Rps at r
    obtain ⟨w, ws, rfl, r1, r2⟩ := r
    exact .cons (DPy.dp S a r1) (DPys.dp S b r2)
end
/-- == of data -/
def EqP (x y : D) (μ : Mu) (Q : Bool → Prop) : Prop := ∃ d e, DPy μ x d ∧ DPy μ y e ∧ SeqAt.shaped d = true ∧ SeqAt.shaped e = true ∧ Q (PyData.eqv d e)
def EqB (x y : D) (μ : Mu) (Q : Bool → Prop) : Prop := match x, y with
  | .int i, .int j => Q (decide (i = j))
  | .str i, .str j => Q (decide (i = j))
  | .bl i, .bl j => Q (decide (i = j))
  | x, y => EqP x y μ Q
theorem EqP.mono {x y : D} {μ : Mu} {Q Q' : Bool → Prop} (h : ∀ b, Q b → Q' b) (q : EqP x y μ Q) : EqP x y μ Q' := by
  obtain ⟨d, e, h1, h2, h3, h4, q⟩ := q
  exact ⟨d, e, h1, h2, h3, h4, h _ q⟩
theorem EqB.mono {x y : D} {μ : Mu} {Q Q' : Bool → Prop} (h : ∀ b, Q b → Q' b) (q : EqB x y μ Q) : EqB x y μ Q' := by
  revert q
  unfold EqB
  split
  · exact h _
  · exact h _
  · exact h _
  · exact EqP.mono h
theorem EqB_int {i j : Int} {μ : Mu} {Q : Bool → Prop} : EqB (.int i) (.int j) μ Q = Q (decide (i = j)) := rfl
theorem EqB_str {i j : Str} {μ : Mu} {Q : Bool → Prop} : EqB (.str i) (.str j) μ Q = Q (decide (i = j)) := rfl
theorem EqB_bl {i j : Bool} {μ : Mu} {Q : Bool → Prop} : EqB (.bl i) (.bl j) μ Q = Q (decide (i = j)) := rfl
def gEq : G2 := ⟨fun x y μ Q => EqB x y μ fun b => Q (.bl b) μ, fun hQ h => h.mono fun _ q => hQ _ _ q⟩
def gNe : G2 := ⟨fun x y μ Q => EqB x y μ fun b => Q (.bl (!b)) μ, fun hQ h => h.mono fun _ q => hQ _ _ q⟩
theorem gEq_run {x y : D} {μ : Mu} {Q : PQ} : gEq.run x y μ Q = EqB x y μ fun b => Q (.bl b) μ := rfl
theorem gNe_run {x y : D} {μ : Mu} {Q : PQ} : gNe.run x y μ Q = EqB x y μ fun b => Q (.bl (!b)) μ := rfl
theorem dec_vint {i j : Int} : decide (V.int i = V.int j) = decide (i = j) := by simp
theorem dec_vstr {i j : Str} : decide (V.str i = V.str j) = decide (i = j) := by simp
theorem dec_vbl {i j : Bool} : decide (V.bl i = V.bl j) = decide (i = j) := by simp
theorem eqB_v {K : PySem.W.Frag} {x y : D} {μ : Mu} {H : Hp} {vx vy : V} {Q : Bool → Prop} (S : Sim K μ H) (rx : Rp K H x vx) (ry : Rp K H y vy) (q : EqB x y μ Q) :
    (scal vx vy = true ∧ Q (decide (vx = vy))) ∨ ∃ d e, Dp K H vx d ∧ Dp K H vy e ∧ SeqAt.shaped d = true ∧ SeqAt.shaped e = true ∧ Q (PyData.eqv d e) := by
  revert q
  unfold EqB
  split
  · intro q; rw [rp_int rx, rp_int ry]; exact .inl ⟨rfl, by rw [dec_vint]; exact q⟩
  · intro q; rw [rp_str rx, rp_str ry]; exact .inl ⟨rfl, by rw [dec_vstr]; exact q⟩
  · intro q; rw [rp_bl rx, rp_bl ry]; exact .inl ⟨rfl, by rw [dec_vbl]; exact q⟩
  · rintro ⟨d, e, h1, h2, h3, h4, q⟩
    exact .inr ⟨d, e, h1.dp S rx, h2.dp S ry, h3, h4, q⟩
theorem od_eq (hu : X.A.units + 64 < cLine) : OpD X (compareOp .Eq) gEq := ⟨_, op_eq.or (op_eqD hu), fun x y μ H vx vy Q S rx ry q => by
  rcases eqB_v (Q := fun b => Out (Rp X.K) X.K μ H Q (.bl b) μ) S rx ry q with ⟨h, q⟩ | ⟨d, e, h1, h2, h3, h4, q⟩
  · exact .inl ⟨h, q _ _ (Fr.refl μ H) S rfl⟩
  · exact .inr ⟨d, e, h1, h2, h3, h4, q _ _ (Fr.refl μ H) S rfl⟩⟩
theorem od_ne (hu : X.A.units + 64 < cLine) : OpD X (compareOp .NotEq) gNe := ⟨_, op_ne.or (op_neD hu), fun x y μ H vx vy Q S rx ry q => by
  rcases eqB_v (Q := fun b => Out (Rp X.K) X.K μ H Q (.bl (!b)) μ) S rx ry q with ⟨h, q⟩ | ⟨d, e, h1, h2, h3, h4, q⟩
  · exact .inl ⟨h, q _ _ (Fr.refl μ H) S rfl⟩
  · exact .inr ⟨d, e, h1, h2, h3, h4, q _ _ (Fr.refl μ H) S rfl⟩⟩
end
end Sq

/-! Truth, tests, displays, items, slices, calls. -/
namespace Sq
open PySem PySem.Spec PyProof.Rows L2
section
variable {X : Cx} {Wx : WX}
/-! ### unary -/
structure G1 where
  run : D → Mu → PQ → Prop
  mono : ∀ {x μ Q Q'}, (∀ d μ', Q d μ' → Q' d μ') → run x μ Q → run x μ Q'
def wNeg (a : WE) : WE := ⟨fun ρ μ Q X => a.run ρ μ (fun x μ1 => match x with | .int i => Q (.int (-i)) μ1 | _ => False) X, fun hQ hX h => a.mono (fun x _ h => by cases x <;> first | exact hQ _ _ h | exact h) hX h⟩
theorem wNeg_run {a : WE} {ρ : Ev} {μ : Mu} {Q : PQ} {X : XQ} : (wNeg a).run ρ μ Q X = a.run ρ μ (fun x μ1 => match x with | .int i => Q (.int (-i)) μ1 | _ => False) X := rfl
theorem le_neg {a : Expr} {wa : WE} {pos : Pos} (ha : LE X Wx a wa) : LE X Wx (.UnaryOp .USub a pos) (wNeg wa) :=
  PE.weak (pe_un un_neg ha) fun σ H Q ⟨ρ, μ, E, S, h⟩ => by
    refine lW.bind E S h (fun x μ1 v H1 F1 S1 E1 r1 h1 => ?_) fun _ _ _ h => h
    cases x <;> first
      | exact h1.elim
      | (rw [rp_int r1]; exact ⟨_, rfl, (show Out (Rp X.K) X.K μ H Q _ μ1 from h1) _ _ F1 S1 rfl⟩)
def wNotV (a : WE) : WE := ⟨fun ρ μ Q X => a.run ρ μ (fun x μ1 => onBl x fun k => Q (.bl (!k)) μ1) X, fun hQ hX h => a.mono (fun x _ h => onBl_mono (fun k h => hQ _ _ h) h) hX h⟩
theorem wNotV_run {a : WE} {ρ : Ev} {μ : Mu} {Q : PQ} {X : XQ} : (wNotV a).run ρ μ Q X = a.run ρ μ (fun x μ1 => onBl x fun k => Q (.bl (!k)) μ1) X := rfl
theorem le_not {a : Expr} {wa : WE} {pos : Pos} (ha : LE X Wx a wa) : LE X Wx (.UnaryOp .Not a pos) (wNotV wa) :=
  PE.weak (pe_not ha) fun σ H Q ⟨ρ, μ, E, S, h⟩ => by
    refine lW.bind E S h (fun x μ1 v H1 F1 S1 E1 r1 h1 => ?_) fun _ _ _ h => h
    obtain ⟨k, e, q⟩ := onBl_v r1 h1
    exact ⟨k, e, (show Out (Rp X.K) X.K μ H Q _ μ1 from q) _ _ F1 S1 rfl⟩
/-! ### and, or as values -/
def wAndV (a b : WE) : WE := ⟨fun ρ μ Q X => a.run ρ μ (fun x μ1 => onBl x fun k => if k = true then b.run ρ μ1 Q X else Q (.bl false) μ1) X, fun hQ hX h => a.mono (fun x _ h => onBl_mono (fun k h => by
  cases k with
  | true => exact b.mono hQ hX h
  | false => exact hQ _ _ h) h) hX h⟩
def wOrV (a b : WE) : WE := ⟨fun ρ μ Q X => a.run ρ μ (fun x μ1 => onBl x fun k => if k = true then Q (.bl true) μ1 else b.run ρ μ1 Q X) X, fun hQ hX h => a.mono (fun x _ h => onBl_mono (fun k h => by
  cases k with
  | true => exact hQ _ _ h
  | false => exact b.mono hQ hX h) h) hX h⟩
theorem wAndV_run {a b : WE} {ρ : Ev} {μ : Mu} {Q : PQ} {X : XQ} : (wAndV a b).run ρ μ Q X = a.run ρ μ (fun x μ1 => onBl x fun k => if k = true then b.run ρ μ1 Q X else Q (.bl false) μ1) X := rfl
theorem wOrV_run {a b : WE} {ρ : Ev} {μ : Mu} {Q : PQ} {X : XQ} : (wOrV a b).run ρ μ Q X = a.run ρ μ (fun x μ1 => onBl x fun k => if k = true then Q (.bl true) μ1 else b.run ρ μ1 Q X) X := rfl
theorem le_one {op} {a : Expr} {pos : Pos} {wa : WE} (h : LE X Wx a wa) : LE X Wx (.BoolOp op [a] pos) wa := pe_one h
theorem le_and {a b : Expr} {rest : List Expr} {pos : Pos} {wa wb : WE} (ha : LE X Wx a wa) (hb : LE X Wx (.BoolOp .And (b :: rest) pos) wb) : LE X Wx (.BoolOp .And (a :: b :: rest) pos) (wAndV wa wb) :=
  PE.weak (pe_and ha hb) fun σ H Q ⟨ρ, μ, E, S, h⟩ => by
    refine lW.bind E S h (fun x μ1 v H1 F1 S1 E1 r1 h1 => ?_) fun _ _ _ h => h
    obtain ⟨k, e, q⟩ := onBl_v r1 h1
    refine ⟨k, e, ?_⟩
    cases k with
    | true => exact iteT (lW.bind E1 S1 q (fun y μ2 u H2 F2 S2 E2 r2 q2 => q2 _ _ (F1.trans F2) S2 r2) fun _ _ _ h => h.trans F1)
    | false => exact iteF ((show Out (Rp X.K) X.K μ H Q (.bl false) μ1 from q) _ _ F1 S1 rfl)
theorem le_or {a b : Expr} {rest : List Expr} {pos : Pos} {wa wb : WE} (ha : LE X Wx a wa) (hb : LE X Wx (.BoolOp .Or (b :: rest) pos) wb) : LE X Wx (.BoolOp .Or (a :: b :: rest) pos) (wOrV wa wb) :=
  PE.weak (pe_or ha hb) fun σ H Q ⟨ρ, μ, E, S, h⟩ => by
    refine lW.bind E S h (fun x μ1 v H1 F1 S1 E1 r1 h1 => ?_) fun _ _ _ h => h
    obtain ⟨k, e, q⟩ := onBl_v r1 h1
    refine ⟨k, e, ?_⟩
    cases k with
    | true => exact iteT ((show Out (Rp X.K) X.K μ H Q (.bl true) μ1 from q) _ _ F1 S1 rfl)
    | false => exact iteF (lW.bind E1 S1 q (fun y μ2 u H2 F2 S2 E2 r2 q2 => q2 _ _ (F1.trans F2) S2 r2) fun _ _ _ h => h.trans F1)

/-! ### tests -/
def wTB (a : WE) : WT := ⟨fun ρ μ Q X => a.run ρ μ (fun x μ1 => onBl x fun k => Q k μ1) X, fun hQ hX h => a.mono (fun x _ h => onBl_mono (fun k h => hQ _ _ h) h) hX h⟩
theorem wTB_run {a : WE} {ρ : Ev} {μ : Mu} {Q : Bool → Mu → Prop} {X : XQ} : (wTB a).run ρ μ Q X = a.run ρ μ (fun x μ1 => onBl x fun k => Q k μ1) X := rfl
theorem wTB_t {a : WE} : ∀ σ H Q, lT X.K Wx (wTB a) σ H Q → tB (lE X.K Wx a) σ H Q := fun σ H Q ⟨ρ, μ, E, S, h⟩ => by
  refine lW.bind E S h (fun x μ1 v H1 F1 S1 E1 r1 h1 => ?_) fun _ _ _ h => h
  obtain ⟨k, e, q⟩ := onBl_v r1 h1
  exact ⟨k, e, (show Out (fun (_ : Hp) (b c : Bool) => b = c) X.K μ H Q k μ1 from q) _ _ F1 S1 rfl⟩
/-- a call, a name, a constant, .. that gives a bool -/
theorem lt_val {e : Expr} {w : WE} (h : LE X Wx e w) (he : ∀ whole, isTrue e X.env whole = (do let v ← whole; standAt e.pos; holding [v] (truthy v)) := by intro _; rfl) : LT X Wx e (wTB w) := PT.weak (pt_val h he) wTB_t
theorem lt_cmp {op : CmpOp} {a b : Expr} {pos : Pos} {g : G2} {wa wb : WE} (ho : OpD X (compareOp op) g) (ha : LE X Wx a wa) (hb : LE X Wx b wb) (hm : behindInMarks op b = false := by first | exact nomark _ | rfl) : LT X Wx (.Compare a [op] [b] pos) (wTB (wOp g wa wb)) := by
  obtain ⟨r, h1, h2⟩ := ho
  refine PT.weak (pt_cmpR h1 ha hb hm) fun σ H Q h => ?_
  exact wOp_t (f := compareOp op) h2 σ H _ (wTB_t σ H Q h)
theorem wChain_t {op op' : CmpOp} {r r' : R2} {g g' : G2} {wa wb wc : WE} (h2 : ∀ x y μ H vx vy Q, Sim X.K μ H → Rp X.K H x vx → Rp X.K H y vy → g.run x y μ (Out (Rp X.K) X.K μ H Q) → r vx vy H Q)
    (h2' : ∀ x y μ H vx vy Q, Sim X.K μ H → Rp X.K H x vx → Rp X.K H y vy → g'.run x y μ (Out (Rp X.K) X.K μ H Q) → r' vx vy H Q) : ∀ σ H Q, lE X.K Wx (wChain g g' wa wb wc) σ H Q → tChain r r' (lE X.K Wx wa) (lE X.K Wx wb) (lE X.K Wx wc) σ H Q := fun σ H Q ⟨ρ, μ, E, S, h⟩ => by
  refine lW.bind E S h (fun x μ1 v H1 F1 S1 E1 r1 h1 => ?_) fun _ _ _ h => h
  refine lW.bind E1 S1 h1 (fun y μ2 u H2 F2 S2 E2 r2 h2a => ?_) fun _ _ _ h => h.trans F1
  refine h2 x y μ2 H2 v u _ S2 (Rp.keep S1 F2 x r1) r2 (g.mono (fun z μ3 q z' H3 F3 S3 r3 => ?_) h2a)
  obtain ⟨k, e, q⟩ := onBl_v r3 q
  refine ⟨k, e, ?_⟩
  cases k with
  | false => exact iteF ((show Out (Rp X.K) X.K μ H Q (.bl false) μ3 from q) _ _ (F1.trans (F2.trans F3)) S3 rfl)
  | true =>
    refine iteT (lW.bind (E2.keep S2 F3) S3 q (fun t μ4 w H4 F4 S4 E4 r4 h4 => ?_) fun _ _ _ h => h.trans (F1.trans (F2.trans F3)))
    exact h2' y t μ4 H4 u w Q S4 (Rp.keep S3 F4 y (Rp.keep S2 F3 y r2)) r4 (g'.mono (fun _ _ q => q.trans (F1.trans (F2.trans (F3.trans F4)))) h4)
theorem lt_chain {op op' : CmpOp} {a b c : Expr} {pos : Pos} {g g' : G2} {wa wb wc : WE} (ho : OpD X (compareOp op) g) (ho' : OpD X (compareOp op') g') (ha : LE X Wx a wa) (hb : LE X Wx b wb) (hc : LE X Wx c wc)
    (hm : lastMarks [op, op'] [b, c] = false := by with_unfolding_all rfl) : LT X Wx (.Compare a [op, op'] [b, c] pos) (wTB (wChain g g' wa wb wc)) := by
  obtain ⟨r, h1, h2⟩ := ho
  obtain ⟨r', h1', h2'⟩ := ho'
  exact PT.weak (pt_chain h1 h1' ha hb hc hm) fun σ H Q h => wChain_t (op := op) (op' := op') h2 h2' σ H _ (wTB_t σ H Q h)
def wNotT (a : WT) : WT := ⟨fun ρ μ Q X => a.run ρ μ (fun k μ1 => Q (!k) μ1) X, fun hQ hX h => a.mono (fun _ _ h => hQ _ _ h) hX h⟩
theorem wNotT_run {a : WT} {ρ : Ev} {μ : Mu} {Q : Bool → Mu → Prop} {X : XQ} : (wNotT a).run ρ μ Q X = a.run ρ μ (fun k μ1 => Q (!k) μ1) X := rfl
theorem lt_not {a : Expr} {pos : Pos} {wa : WT} (ha : LT X Wx a wa) : LT X Wx (.UnaryOp .Not a pos) (wNotT wa) := PT.weak (pt_not ha) fun σ H Q ⟨ρ, μ, E, S, h⟩ => by
  refine lW.bind E S h (fun x μ1 v H1 F1 S1 E1 r1 h1 => ?_) fun _ _ _ h => h
  subst r1
  exact h1 _ _ F1 S1 rfl
def wAndT (a b : WT) : WT := ⟨fun ρ μ Q X => a.run ρ μ (fun k μ1 => if k = true then b.run ρ μ1 Q X else Q false μ1) X, fun hQ hX h => a.mono (fun k _ h => by
  cases k with
  | true => exact b.mono hQ hX h
  | false => exact hQ _ _ h) hX h⟩
def wOrT (a b : WT) : WT := ⟨fun ρ μ Q X => a.run ρ μ (fun k μ1 => if k = true then Q true μ1 else b.run ρ μ1 Q X) X, fun hQ hX h => a.mono (fun k _ h => by
  cases k with
  | true => exact hQ _ _ h
  | false => exact b.mono hQ hX h) hX h⟩
theorem wAndT_run {a b : WT} {ρ : Ev} {μ : Mu} {Q : Bool → Mu → Prop} {X : XQ} : (wAndT a b).run ρ μ Q X = a.run ρ μ (fun k μ1 => if k = true then b.run ρ μ1 Q X else Q false μ1) X := rfl
theorem wOrT_run {a b : WT} {ρ : Ev} {μ : Mu} {Q : Bool → Mu → Prop} {X : XQ} : (wOrT a b).run ρ μ Q X = a.run ρ μ (fun k μ1 => if k = true then Q true μ1 else b.run ρ μ1 Q X) X := rfl
def LW (X : Cx) (Wx : WX) (e : Expr) (w : WT) : Prop := PW X e (lT X.K Wx w)
theorem LW.lt {e : Expr} {w : WT} (h : LW X Wx e w) : LT X Wx e w := PW.pt h
theorem lw_and1 {a : Expr} {pos : Pos} {wa : WT} (ha : LT X Wx a wa) : LW X Wx (.BoolOp .And [a] pos) wa := pw_and1 ha
theorem lw_or1 {a : Expr} {pos : Pos} {wa : WT} (ha : LT X Wx a wa) : LW X Wx (.BoolOp .Or [a] pos) wa := pw_or1 ha
theorem lw_and {a b : Expr} {rest : List Expr} {pos : Pos} {wa wb : WT} (ha : LT X Wx a wa) (hb : LW X Wx (.BoolOp .And (b :: rest) pos) wb) : LW X Wx (.BoolOp .And (a :: b :: rest) pos) (wAndT wa wb) :=
  PW.weak (pw_and ha hb) fun σ H Q ⟨ρ, μ, E, S, h⟩ => by
    refine lW.bind E S h (fun x μ1 v H1 F1 S1 E1 r1 h1 => ?_) fun _ _ _ h => h
    subst r1
    cases x with
    | true => exact iteT (lW.bind E1 S1 h1 (fun y μ2 u H2 F2 S2 E2 r2 q2 => q2 _ _ (F1.trans F2) S2 r2) fun _ _ _ h => h.trans F1)
    | false => exact iteF (h1 _ _ F1 S1 rfl)
theorem lw_or {a b : Expr} {rest : List Expr} {pos : Pos} {wa wb : WT} (ha : LT X Wx a wa) (hb : LW X Wx (.BoolOp .Or (b :: rest) pos) wb) : LW X Wx (.BoolOp .Or (a :: b :: rest) pos) (wOrT wa wb) :=
  PW.weak (pw_or ha hb) fun σ H Q ⟨ρ, μ, E, S, h⟩ => by
    refine lW.bind E S h (fun x μ1 v H1 F1 S1 E1 r1 h1 => ?_) fun _ _ _ h => h
    subst r1
    cases x with
    | true => exact iteT (h1 _ _ F1 S1 rfl)
    | false => exact iteF (lW.bind E1 S1 h1 (fun y μ2 u H2 F2 S2 E2 r2 q2 => q2 _ _ (F1.trans F2) S2 r2) fun _ _ _ h => h.trans F1)
def wIfE (c : WT) (a b : WE) : WE := ⟨fun ρ μ Q X => c.run ρ μ (fun k μ1 => if k = true then a.run ρ μ1 Q X else b.run ρ μ1 Q X) X, fun hQ hX h => c.mono (fun k _ h => by
  cases k with
  | true => exact a.mono hQ hX h
  | false => exact b.mono hQ hX h) hX h⟩
theorem wIfE_run {c : WT} {a b : WE} {ρ : Ev} {μ : Mu} {Q : PQ} {X : XQ} : (wIfE c a b).run ρ μ Q X = c.run ρ μ (fun k μ1 => if k = true then a.run ρ μ1 Q X else b.run ρ μ1 Q X) X := rfl
theorem le_ifE {c a b : Expr} {pos : Pos} {wc : WT} {wa wb : WE} (hc : LT X Wx c wc) (ha : LE X Wx a wa) (hb : LE X Wx b wb) : LE X Wx (.IfExp c a b pos) (wIfE wc wa wb) :=
  PE.weak (pe_ifExp hc ha hb) fun σ H Q ⟨ρ, μ, E, S, h⟩ => by
    refine lW.bind E S h (fun x μ1 v H1 F1 S1 E1 r1 h1 => ?_) fun _ _ _ h => h
    subst r1
    cases x with
    | true => exact iteT (lW.bind E1 S1 h1 (fun y μ2 u H2 F2 S2 E2 r2 q2 => q2 _ _ (F1.trans F2) S2 r2) fun _ _ _ h => h.trans F1)
    | false => exact iteF (lW.bind E1 S1 h1 (fun y μ2 u H2 F2 S2 E2 r2 q2 => q2 _ _ (F1.trans F2) S2 r2) fun _ _ _ h => h.trans F1)

/-! ### argument lists, displays -/
def runAll : List WE → Ev → Mu → (List D → Mu → Prop) → XQ → Prop
  | [], _, μ, Q, _ => Q [] μ
  | w :: ws, ρ, μ, Q, X => w.run ρ μ (fun d μ1 => runAll ws ρ μ1 (fun ds μ2 => Q (d :: ds) μ2) X) X
theorem runAll_nil {ρ : Ev} {μ : Mu} {Q : List D → Mu → Prop} {X : XQ} : runAll [] ρ μ Q X = Q [] μ := rfl
theorem runAll_cons {w : WE} {ws : List WE} {ρ : Ev} {μ : Mu} {Q : List D → Mu → Prop} {X : XQ} : runAll (w :: ws) ρ μ Q X = w.run ρ μ (fun d μ1 => runAll ws ρ μ1 (fun ds μ2 => Q (d :: ds) μ2) X) X := rfl
theorem runAll_mono : ∀ {ws : List WE} {ρ : Ev} {μ : Mu} {Q Q' : List D → Mu → Prop} {X X' : XQ}, (∀ d μ', Q d μ' → Q' d μ') → (∀ C d μ', X C d μ' → X' C d μ') → runAll ws ρ μ Q X → runAll ws ρ μ Q' X'
  | [], _, _, _, _, _, _, hQ, _, h => hQ _ _ h
  | w :: ws, _, _, _, _, _, _, hQ, hX, h => w.mono (fun _ _ h => runAll_mono (ws := ws) (fun _ _ h => hQ _ _ h) hX h) hX h
theorem runAll_len : ∀ {ws : List WE} {ρ : Ev} {μ : Mu} {Q : List D → Mu → Prop} {X : XQ}, runAll ws ρ μ Q X → runAll ws ρ μ (fun ds μ1 => ds.length = ws.length ∧ Q ds μ1) X
  | [], _, _, _, _, h => ⟨rfl, h⟩
  | w :: ws, _, _, _, _, h => w.mono (fun _ _ h => runAll_mono (ws := ws) (fun ds _ h => ⟨by rw [List.length_cons, h.1]; rfl, h.2⟩) (fun _ _ _ h => h) (runAll_len h)) (fun _ _ _ h => h) h
def wArgs (ws : List WE) : WA := ⟨runAll ws, runAll_mono⟩
def LAs (X : Cx) (Wx : WX) (es : List Expr) (ws : List WE) : Prop := PA X es (lA X.K Wx (wArgs ws))
theorem la_nil : LAs X Wx [] [] := PA.weak pa_nil fun σ H Q ⟨ρ, μ, E, S, h⟩ => (show Out (Rps X.K) X.K μ H Q [] μ from h) _ _ (Fr.refl μ H) S rfl
theorem la_cons {e : Expr} {es : List Expr} {w : WE} {ws : List WE} (ha : LE X Wx e w) (hr : LAs X Wx es ws) (hs : starEach (e :: es) X.env = (false, eval e X.env) :: starEach es X.env := by rfl) : LAs X Wx (e :: es) (w :: ws) :=
  PA.weak (pa_cons ha hr hs) fun σ H Q ⟨ρ, μ, E, S, h⟩ => by
    refine lW.bind (w := w) E S h (fun x μ1 v H1 F1 S1 E1 r1 h1 => ?_) fun _ _ _ h => h
    refine lW.bind (w := wArgs ws) E1 S1 h1 (fun xs μ2 vs H2 F2 S2 E2 r2 h2 => ?_) fun _ _ _ h => h.trans F1
    exact h2 _ _ (F1.trans F2) S2 (by unfold Rps; exact ⟨_, _, rfl, Rp.keep S1 F2 x r1, r2⟩)
def wTup (ws : List WE) : WE := ⟨fun ρ μ Q X => runAll ws ρ μ (fun ds μ1 => Q (.tup ds) μ1) X, fun hQ hX h => runAll_mono (fun _ _ h => hQ _ _ h) hX h⟩
def wLst (ws : List WE) : WE := ⟨fun ρ μ Q X => runAll ws ρ μ (fun ds μ1 => ∀ p, μ1 p = none → Q (.ob p) (mset μ1 p (.lst ds))) X, fun hQ hX h => runAll_mono (fun _ _ h p hp => hQ _ _ (h p hp)) hX h⟩
theorem wTup_run {ws : List WE} {ρ : Ev} {μ : Mu} {Q : PQ} {X : XQ} : (wTup ws).run ρ μ Q X = runAll ws ρ μ (fun ds μ1 => Q (.tup ds) μ1) X := rfl
theorem wLst_run {ws : List WE} {ρ : Ev} {μ : Mu} {Q : PQ} {X : XQ} : (wLst ws).run ρ μ Q X = runAll ws ρ μ (fun ds μ1 => ∀ p, μ1 p = none → Q (.ob p) (mset μ1 p (.lst ds))) X := rfl
theorem le_tup {es : List Expr} {x1 pos} {ws : List WE} (h : LAs X Wx es ws) (hl : ws.length ≤ 1000 := by decide) : LE X Wx (.Tuple es x1 pos) (wTup ws) := PE.weak (pe_tup h) fun σ H Q ⟨ρ, μ, E, S, h⟩ => by
  refine lW.bind (w := wArgs ws) E S (runAll_len h) (fun xs μ1 vs H1 F1 S1 E1 r1 h1 => ⟨?_, ?_⟩) fun _ _ _ h => h
  · rw [r1.length, h1.1]
    exact Nat.le_trans hl (by rw [sizeLine_eq]; decide)
  · exact out_tup S1 r1 (h1.2.trans F1)
theorem le_lst {es : List Expr} {pos} {ws : List WE} (h : LAs X Wx es ws) (hl : ws.length ≤ 1000 := by decide) : LE X Wx (.List es pos) (wLst ws) := PE.weak (pe_lst h) fun σ H Q ⟨ρ, μ, E, S, h⟩ => by
  refine lW.bind (w := wArgs ws) E S (runAll_len h) (fun xs μ1 vs H1 F1 S1 E1 r1 h1 => ⟨?_, ?_⟩) fun _ _ _ h => h
  · rw [r1.length, h1.1]
    exact Nat.le_trans hl (by rw [sizeLine_eq]; decide)
  · exact out_lst S1 r1 fun p hp => (h1.2 p hp).trans F1

/-! ### items -/
def gIx : G2 := ⟨fun x y μ Q => match x, y with
    | .tup ds, .int i => (match atI ds i with | some d => Q d μ | none => False)
    | .ob a, .int i => (match μ a with | some (.lst ds) => (match atI ds i with | some d => Q d μ | none => False) | _ => False)
    | .rls ds, .int i => (match atI ds i with | some d => Q d μ | none => False)
    | .str s, .int i => (match atI s.cps.toList i with | some c => s.length ≤ sizeLine ∧ Q (.str ⟨#[c]⟩) μ | none => False)
    | _, _ => False, fun {x y μ Q Q'} hQ h => by
  cases x <;> cases y <;> first
    | (revert h; dsimp only; split <;> first | exact hQ _ _ | exact id | exact fun h => ⟨h.1, hQ _ _ h.2⟩ | (split <;> first | exact hQ _ _ | exact id))
    | exact h⟩
theorem gIx_tup {ds : List D} {i : Int} {μ : Mu} {Q : PQ} : gIx.run (.tup ds) (.int i) μ Q = (match atI ds i with | some d => Q d μ | none => False) := rfl
theorem gIx_rls {ds : List D} {i : Int} {μ : Mu} {Q : PQ} : gIx.run (.rls ds) (.int i) μ Q = (match atI ds i with | some d => Q d μ | none => False) := rfl
theorem gIx_ob {a : Addr} {i : Int} {μ : Mu} {Q : PQ} : gIx.run (.ob a) (.int i) μ Q = (match μ a with | some (.lst ds) => (match atI ds i with | some d => Q d μ | none => False) | _ => False) := rfl
theorem gIx_str {s : Str} {i : Int} {μ : Mu} {Q : PQ} : gIx.run (.str s) (.int i) μ Q = (match atI s.cps.toList i with | some c => s.length ≤ sizeLine ∧ Q (.str ⟨#[c]⟩) μ | none => False) := rfl
theorem Rps.atI {K : PySem.W.Frag} {H : Hp} {ds : List D} {vs : List V} {i : Int} {d : D} (h : Rps K H ds vs) (e : L2.atI ds i = some d) : ∃ v, L2.atI vs i = some v ∧ Rp K H d v := by
  unfold L2.atI at e ⊢
  rw [h.length]
  cases q : ixN ds.length i with
  | none => rw [q] at e; cases e
  | some j =>
    rw [q] at e
    obtain ⟨v, h1, h2⟩ := h.get (show ds[j]? = some d from e)
    exact ⟨v, h1, h2⟩
theorem le_ix {a b : Expr} {pos : Pos} {wa wb : WE} (ha : LE X Wx a wa) (hb : LE X Wx b wb) (hs : PlainIx b := by exact fun _ _ => rfl) : LE X Wx (.Subscript a b pos) (wOp gIx wa wb) :=
  PE.weak (pe_ix ix_seq ha hb hs) (wOp_t (f := fun _ _ => pure .none) fun x y μ H vx vy Q S rx ry q => by
    cases x <;> cases y <;> first
      | exact q.elim
      | (rename_i ds i
         rw [gIx_tup] at q
         split at q
         · rename_i d e
           obtain ⟨p, vs, e1, t, r⟩ := rp_tup rx
           subst e1
           rw [rp_int ry]
           obtain ⟨v, h1, h2⟩ := r.atI e
           exact .inr (.inl ⟨p, vs, i, v, rfl, rfl, t, h1, q _ _ (Fr.refl μ H) S h2⟩)
         · exact q.elim)
      | (rename_i ds i
         rw [gIx_rls] at q
         split at q
         · rename_i d e
           obtain ⟨p, vs, e1, t, r⟩ := rp_rls rx
           subst e1
           rw [rp_int ry]
           obtain ⟨v, h1, h2⟩ := r.atI e
           exact .inl ⟨p, vs, i, v, rfl, rfl, t.l, h1, q _ _ (Fr.refl μ H) S h2⟩
         · exact q.elim)
      | (rename_i a i
         rw [gIx_ob] at q
         split at q
         · rename_i ds e0
           split at q
           · rename_i d e
             rw [rp_ob rx, rp_int ry]
             obtain ⟨vs, h0, r⟩ := S.lst e0
             obtain ⟨v, h1, h2⟩ := r.atI e
             exact .inl ⟨a, vs, i, v, rfl, rfl, SqL.of h0, h1, q _ _ (Fr.refl μ H) S h2⟩
           · exact q.elim
         · exact q.elim)
      | (rename_i s i
         rw [gIx_str] at q
         split at q
         · rename_i c e
           rw [rp_str rx, rp_int ry]
           exact .inr (.inr ⟨s, i, c, rfl, rfl, q.1, e, q.2 _ _ (Fr.refl μ H) S rfl⟩)
         · exact q.elim))
end
end Sq

/-! Calls. -/
namespace Sq
open PySem PySem.Spec PyProof.Rows L2
section
variable {X : Cx} {Wx : WX}
/-! ### built-ins by values -/
structure GN where
  run : List D → Mu → PQ → Prop
  mono : ∀ {ds μ Q Q'}, (∀ d μ', Q d μ' → Q' d μ') → run ds μ Q → run ds μ Q'
def CallD (X : Cx) (f : Value) (g : GN) : Prop := ∃ r : List V → Hp → VK → Prop, CallR X f r ∧ ∀ ds μ H vs Q, Sim X.K μ H → Rps X.K H ds vs → g.run ds μ (Out (Rp X.K) X.K μ H Q) → r vs H Q
def wB (g : GN) (ws : List WE) : WE := ⟨fun ρ μ Q X => runAll ws ρ μ (fun ds μ1 => g.run ds μ1 Q) X, fun hQ hX h => runAll_mono (fun _ _ h => g.mono hQ h) hX h⟩
theorem wB_run {g : GN} {ws : List WE} {ρ : Ev} {μ : Mu} {Q : PQ} {X : XQ} : (wB g ws).run ρ μ Q X = runAll ws ρ μ (fun ds μ1 => g.run ds μ1 Q) X := rfl
theorem wB_t {g : GN} {ws : List WE} {r : List V → Hp → VK → Prop} (h : ∀ ds μ H vs Q, Sim X.K μ H → Rps X.K H ds vs → g.run ds μ (Out (Rp X.K) X.K μ H Q) → r vs H Q) :
    ∀ σ H Q, lE X.K Wx (wB g ws) σ H Q → tCB r (lA X.K Wx (wArgs ws)) σ H Q := fun σ H Q ⟨ρ, μ, E, S, h1⟩ => by
  refine lW.bind (w := wArgs ws) E S h1 (fun xs μ1 vs H1 F1 S1 E1 r1 q1 => ?_) fun _ _ _ h => h
  exact h xs μ1 H1 vs Q S1 r1 (g.mono (fun _ _ q => q.trans F1) q1)
theorem le_callB {g : GN} {id : String} {x : Str} {p pos : Pos} {e : Expr} {es : List Expr} {ws : List WE} (hc : CallD X (.builtin id) g) (hm : X.mg x = none) (hv : bootBuiltins x = some (.builtin id)) (ha : LAs X Wx (e :: es) ws)
    (hg : Gl X x := by rfl) (hn : x ≠ "__name__" := by decide) (hdb : (x == ("__debug__" : Str)) = false := by decide)
    (he : starEach (e :: es) X.env = (false, eval e X.env) :: starEach es X.env := by rfl) (hpl : (backTo pos (starEach es X.env)).any (·.1) = false := by rfl) : LE X Wx (.Call (.Name x p) (e :: es) [] pos) (wB g ws) := by
  obtain ⟨r, h1, h2⟩ := hc
  exact PE.weak (pe_callB h1 hg hm hv ha hn hdb he hpl) (wB_t h2)
theorem le_callTy {g : GN} {T : String} {x : Str} {p pos : Pos} {e : Expr} {es : List Expr} {ws : List WE} (hc : CallD X (.type T) g) (hm : X.mg x = none) (hv : bootBuiltins x = some (.type T)) (ha : LAs X Wx (e :: es) ws)
    (hg : Gl X x := by rfl) (hn : x ≠ "__name__" := by decide) (hdb : (x == ("__debug__" : Str)) = false := by decide)
    (he : starEach (e :: es) X.env = (false, eval e X.env) :: starEach es X.env := by rfl) (hpl : (backTo pos (starEach es X.env)).any (·.1) = false := by rfl) : LE X Wx (.Call (.Name x p) (e :: es) [] pos) (wB g ws) := by
  obtain ⟨r, h1, h2⟩ := hc
  exact PE.weak (pe_callTy h1 hg hm hv ha hn hdb he hpl) (wB_t h2)

theorem rps1 {K : PySem.W.Frag} {H : Hp} {d : D} {vs : List V} (h : Rps K H [d] vs) : ∃ v, vs = [v] ∧ Rp K H d v := by
  unfold Rps at h
  obtain ⟨w, ws, rfl, a, b⟩ := h
  unfold Rps at b
  subst b
  exact ⟨w, rfl, a⟩
theorem rps2 {K : PySem.W.Frag} {H : Hp} {d e : D} {vs : List V} (h : Rps K H [d, e] vs) : ∃ v u, vs = [v, u] ∧ Rp K H d v ∧ Rp K H e u := by
  unfold Rps at h
  obtain ⟨w, ws, rfl, a, b⟩ := h
  obtain ⟨u, rfl, c⟩ := rps1 b
  exact ⟨w, u, rfl, a, c⟩
/-- a built-in of one argument -/
def g1 (f : D → Mu → PQ → Prop) (hf : ∀ {x μ Q Q'}, (∀ d μ', Q d μ' → Q' d μ') → f x μ Q → f x μ Q') : GN := ⟨fun ds μ Q => match ds with | [x] => f x μ Q | _ => False, fun {ds μ Q Q'} hQ h => by
  match ds, h with
  | [x], h => exact hf hQ h
  | [], h => exact h
  | _ :: _ :: _, h => exact h⟩
theorem g1_run {f : D → Mu → PQ → Prop} {hf : ∀ {x μ Q Q'}, (∀ d μ', Q d μ' → Q' d μ') → f x μ Q → f x μ Q'} {x : D} {μ : Mu} {Q : PQ} : (g1 f hf).run [x] μ Q = f x μ Q := rfl
theorem cd1 {fn : Value} {g : GN} {f : D → Mu → PQ → Prop} {r : List V → Hp → VK → Prop} (hr : CallR X fn r) (hg : ∀ ds μ Q, g.run ds μ Q = (match ds with | [x] => f x μ Q | _ => False))
    (h : ∀ x μ H v Q, Sim X.K μ H → Rp X.K H x v → f x μ (Out (Rp X.K) X.K μ H Q) → r [v] H Q) : CallD X fn g := ⟨r, hr, fun ds μ H vs Q S R q => by
  rw [hg] at q
  match ds, R, q with
  | [x], R, q =>
    obtain ⟨v, e, R1⟩ := rps1 R
    subst e
    exact h x μ H v Q S R1 q
  | [], _, q => exact q.elim
  | _ :: _ :: _, _, q => exact q.elim⟩

/-- len -/
def fLen (x : D) (μ : Mu) (Q : PQ) : Prop := match x with
  | .tup ds => Q (.int ds.length) μ
  | .rls ds => Q (.int ds.length) μ
  | .ob a => (match μ a with | some (.lst ds) => Q (.int ds.length) μ | _ => False)
  | .str s => s.length ≤ sizeLine ∧ Q (.int s.length) μ
  | _ => False
theorem fLen_tup {ds : List D} {μ : Mu} {Q : PQ} : fLen (.tup ds) μ Q = Q (.int ds.length) μ := rfl
theorem fLen_rls {ds : List D} {μ : Mu} {Q : PQ} : fLen (.rls ds) μ Q = Q (.int ds.length) μ := rfl
theorem fLen_ob {a : Addr} {μ : Mu} {Q : PQ} : fLen (.ob a) μ Q = (match μ a with | some (.lst ds) => Q (.int ds.length) μ | _ => False) := rfl
theorem fLen_str {s : Str} {μ : Mu} {Q : PQ} : fLen (.str s) μ Q = (s.length ≤ sizeLine ∧ Q (.int s.length) μ) := rfl
def gLen : GN := g1 fLen fun {x μ Q Q'} hQ h => by
  cases x with
  | tup ds => exact hQ _ _ h
  | rls ds => exact hQ _ _ h
  | ob a =>
    rw [fLen_ob] at h ⊢
    split at h
    · exact hQ _ _ h
    · exact h.elim
  | str s => exact ⟨h.1, hQ _ _ h.2⟩
  | _ => exact h
theorem cd_len : CallD X (.builtin "len") gLen := cd1 (call_len_seq.or call_len_str) (fun _ _ _ => rfl) fun x μ H v Q S R q => by
  cases x with
  | tup ds =>
    obtain ⟨p, vs, rfl, t, r⟩ := rp_tup R
    exact .inl ⟨p, vs, rfl, .inr t, by rw [r.length]; exact (show Out (Rp X.K) X.K μ H Q (.int ds.length) μ from q) _ _ (Fr.refl μ H) S rfl⟩
  | rls ds =>
    obtain ⟨p, vs, rfl, t, r⟩ := rp_rls R
    exact .inl ⟨p, vs, rfl, .inl t.l, by rw [r.length]; exact (show Out (Rp X.K) X.K μ H Q (.int ds.length) μ from q) _ _ (Fr.refl μ H) S rfl⟩
  | ob a =>
    rw [rp_ob R]
    rw [fLen_ob] at q
    split at q
    · rename_i ds e
      obtain ⟨vs, h1, r⟩ := S.lst e
      exact .inl ⟨a, vs, rfl, .inl (SqL.of h1), by rw [r.length]; exact q _ _ (Fr.refl μ H) S rfl⟩
    · exact q.elim
  | str s => rw [rp_str R]; exact .inr ⟨s, rfl, q.1, q.2 _ _ (Fr.refl μ H) S rfl⟩
  | _ => exact q.elim
/-- abs -/
def fAbs (x : D) (μ : Mu) (Q : PQ) : Prop := match x with
  | .int i => Q (.int (if i < 0 then -i else i)) μ
  | _ => False
theorem fAbs_int {i : Int} {μ : Mu} {Q : PQ} : fAbs (.int i) μ Q = Q (.int (if i < 0 then -i else i)) μ := rfl
def gAbs : GN := g1 fAbs fun {x μ Q Q'} hQ h => by cases x <;> first | exact hQ _ _ h | exact h
theorem cd_abs : CallD X (.builtin "abs") gAbs := cd1 call_abs (fun _ _ _ => rfl) fun x μ H v Q S R q => by
  cases x <;> first
    | exact q.elim
    | (rw [rp_int R]; exact ⟨_, rfl, (show Out (Rp X.K) X.K μ H Q _ μ from q) _ _ (Fr.refl μ H) S rfl⟩)
/-- int of an int, a bool -/
def fInt (x : D) (μ : Mu) (Q : PQ) : Prop := match x with
  | .int i => Q (.int i) μ
  | .bl k => Q (.int (if k = true then 1 else 0)) μ
  | _ => False
theorem fInt_int {i : Int} {μ : Mu} {Q : PQ} : fInt (.int i) μ Q = Q (.int i) μ := rfl
theorem fInt_bl {k : Bool} {μ : Mu} {Q : PQ} : fInt (.bl k) μ Q = Q (.int (if k = true then 1 else 0)) μ := rfl
def gInt : GN := g1 fInt fun {x μ Q Q'} hQ h => by cases x <;> first | exact hQ _ _ h | exact h
theorem cd_int : CallD X (.type "int") gInt := cd1 call_int1 (fun _ _ _ => rfl) fun x μ H v Q S R q => by
  cases x <;> first
    | exact q.elim
    | (rw [rp_int R]; exact .inl ⟨_, rfl, (show Out (Rp X.K) X.K μ H Q _ μ from q) _ _ (Fr.refl μ H) S rfl⟩)
    | (rw [rp_bl R]; exact .inr ⟨_, rfl, (show Out (Rp X.K) X.K μ H Q _ μ from q) _ _ (Fr.refl μ H) S rfl⟩)
/-- all, any of a list of bools -/
def fAll (x : D) (μ : Mu) (Q : PQ) : Prop := ∃ (a : Addr) (bs : List Bool), x = .ob a ∧ μ a = some (.lst (bs.map D.bl)) ∧ Q (.bl (bs.all id)) μ
def fAny (x : D) (μ : Mu) (Q : PQ) : Prop := ∃ (a : Addr) (bs : List Bool), x = .ob a ∧ μ a = some (.lst (bs.map D.bl)) ∧ Q (.bl (bs.any id)) μ
def gAll : GN := g1 fAll fun {_ _ _ _} hQ z => by obtain ⟨a, bs, e, h, q⟩ := z; exact ⟨a, bs, e, h, hQ _ _ q⟩
def gAny : GN := g1 fAny fun {_ _ _ _} hQ z => by obtain ⟨a, bs, e, h, q⟩ := z; exact ⟨a, bs, e, h, hQ _ _ q⟩
theorem cd_all (hc : X.calm = true) : CallD X (.builtin "all") gAll := cd1 (cr_all hc) (fun _ _ _ => rfl) fun x μ H v Q S R ⟨a, bs, e, h, q⟩ => by
  subst e
  rw [rp_ob R]
  obtain ⟨vs, h1, r⟩ := S.lst h
  rw [Rps.bls r] at h1
  exact ⟨a, bs, rfl, SqL.of h1, q _ _ (Fr.refl μ H) S rfl⟩
theorem cd_any (hc : X.calm = true) : CallD X (.builtin "any") gAny := cd1 (cr_any hc) (fun _ _ _ => rfl) fun x μ H v Q S R ⟨a, bs, e, h, q⟩ => by
  subst e
  rw [rp_ob R]
  obtain ⟨vs, h1, r⟩ := S.lst h
  rw [Rps.bls r] at h1
  exact ⟨a, bs, rfl, SqL.of h1, q _ _ (Fr.refl μ H) S rfl⟩
/-- sum of a list of ints -/
def fSum (x : D) (μ : Mu) (Q : PQ) : Prop := ∃ (a : Addr) (ns : List Int), x = .ob a ∧ μ a = some (.lst (ns.map D.int)) ∧ Q (.int ns.sum) μ
def gSum : GN := g1 fSum fun {_ _ _ _} hQ z => by obtain ⟨a, bs, e, h, q⟩ := z; exact ⟨a, bs, e, h, hQ _ _ q⟩
theorem cd_sum (hc : X.calm = true) : CallD X (.builtin "sum") gSum := cd1 (cr_sum hc) (fun _ _ _ => rfl) fun x μ H v Q S R ⟨a, ns, e, h, q⟩ => by
  subst e
  rw [rp_ob R]
  obtain ⟨vs, h1, r⟩ := S.lst h
  rw [Rps.ints r] at h1
  exact ⟨a, ns, rfl, SqL.of h1, q _ _ (Fr.refl μ H) S rfl⟩
/-- tuple of a list, of a tuple -/
def fTuple (x : D) (μ : Mu) (Q : PQ) : Prop := match x with
  | .tup ds => Q (.tup ds) μ
  | .ob a => (match μ a with | some (.lst ds) => Q (.tup ds) μ | _ => False)
  | _ => False
theorem fTuple_tup {ds : List D} {μ : Mu} {Q : PQ} : fTuple (.tup ds) μ Q = Q (.tup ds) μ := rfl
theorem fTuple_ob {a : Addr} {μ : Mu} {Q : PQ} : fTuple (.ob a) μ Q = (match μ a with | some (.lst ds) => Q (.tup ds) μ | _ => False) := rfl
def gTuple : GN := g1 fTuple fun {x μ Q Q'} hQ h => by
  cases x with
  | tup ds => exact hQ _ _ h
  | ob a =>
    rw [fTuple_ob] at h ⊢
    split at h
    · exact hQ _ _ h
    · exact h.elim
  | _ => exact h
theorem cd_tuple : CallD X (.type "tuple") gTuple := cd1 call_tuple_of (fun _ _ _ => rfl) fun x μ H v Q S R q => by
  cases x with
  | tup ds =>
    obtain ⟨p, vs, rfl, t, r⟩ := rp_tup R
    exact ⟨p, vs, rfl, .inr ⟨t, (show Out (Rp X.K) X.K μ H Q (.tup ds) μ from q) _ _ (Fr.refl μ H) S R⟩⟩
  | ob a =>
    rw [rp_ob R]
    rw [fTuple_ob] at q
    split at q
    · rename_i ds e
      obtain ⟨vs, h1, r⟩ := S.lst e
      exact ⟨a, vs, rfl, .inl ⟨SqL.of h1, out_tup S r q⟩⟩
    · exact q.elim
  | _ => exact q.elim
/-- list of a list, of a tuple -/
def fList (x : D) (μ : Mu) (Q : PQ) : Prop := match x with
  | .tup ds => ∀ p, μ p = none → Q (.ob p) (mset μ p (.lst ds))
  | .ob a => (match μ a with | some (.lst ds) => ∀ p, μ p = none → Q (.ob p) (mset μ p (.lst ds)) | _ => False)
  | _ => False
theorem fList_tup {ds : List D} {μ : Mu} {Q : PQ} : fList (.tup ds) μ Q = ∀ p, μ p = none → Q (.ob p) (mset μ p (.lst ds)) := rfl
theorem fList_ob {a : Addr} {μ : Mu} {Q : PQ} : fList (.ob a) μ Q = (match μ a with | some (.lst ds) => ∀ p, μ p = none → Q (.ob p) (mset μ p (.lst ds)) | _ => False) := rfl
def gList : GN := g1 fList fun {x μ Q Q'} hQ h => by
  cases x with
  | tup ds => exact fun p hp => hQ _ _ (h p hp)
  | ob a =>
    rw [fList_ob] at h ⊢
    split at h
    · exact fun p hp => hQ _ _ (h p hp)
    · exact h.elim
  | _ => exact h
theorem cd_list : CallD X (.type "list") gList := cd1 call_list_of (fun _ _ _ => rfl) fun x μ H v Q S R q => by
  cases x with
  | tup ds =>
    obtain ⟨p, vs, rfl, t, r⟩ := rp_tup R
    exact ⟨p, vs, rfl, .inr t, out_lst S r q⟩
  | ob a =>
    rw [rp_ob R]
    rw [fList_ob] at q
    split at q
    · rename_i ds e
      obtain ⟨vs, h1, r⟩ := S.lst e
      exact ⟨a, vs, rfl, .inl (SqL.of h1), out_lst S r q⟩
    · exact q.elim
  | _ => exact q.elim
/-- min, max of two ints -/
def f2I (f : Int → Int → Int) (ds : List D) (μ : Mu) (Q : PQ) : Prop := match ds with | [.int i, .int j] => Q (.int (f i j)) μ | _ => False
theorem f2I_inv {f : Int → Int → Int} {ds : List D} {μ : Mu} {Q : PQ} (h : f2I f ds μ Q) : ∃ i j, ds = [.int i, .int j] ∧ Q (.int (f i j)) μ := by
  unfold f2I at h
  split at h
  · exact ⟨_, _, rfl, h⟩
  · exact h.elim
def g2I (f : Int → Int → Int) : GN := ⟨f2I f, fun {ds μ Q Q'} hQ h => by
  obtain ⟨i, j, rfl, q⟩ := f2I_inv h
  exact hQ _ _ q⟩
theorem g2I_run {f : Int → Int → Int} {i j : Int} {μ : Mu} {Q : PQ} : (g2I f).run [.int i, .int j] μ Q = Q (.int (f i j)) μ := rfl
def gMax2 : GN := g2I fun i j => if j > i then j else i
def gMin2 : GN := g2I fun i j => if j < i then j else i
theorem cd2I {fn : Value} {f : Int → Int → Int} (hr : CallR X fn (fun xs H Q => ∃ i j, xs = [.int i, .int j] ∧ Q (.int (f i j)) H)) : CallD X fn (g2I f) := ⟨_, hr, fun ds μ H vs Q S R q => by
  obtain ⟨i, j, rfl, q⟩ := f2I_inv q
  obtain ⟨v, u, rfl, r1, r2⟩ := rps2 R
  rw [rp_int r1, rp_int r2]
  exact ⟨i, j, rfl, q _ _ (Fr.refl μ H) S rfl⟩⟩
theorem cd_max2 (hc : X.calm = true) : CallD X (.builtin "max") gMax2 := cd2I (call_max2 hc)
theorem cd_min2 (hc : X.calm = true) : CallD X (.builtin "min") gMin2 := cd2I (call_min2 hc)

/-! ### isinstance with a built-in type -/
inductive TyN where | int | bool | str | tuple | list
  deriving DecidableEq
def TyN.s : TyN → String
  | .int => "int" | .bool => "bool" | .str => "str" | .tuple => "tuple" | .list => "list"
def isA (t : TyN) (d : D) (μ : Mu) : Option Bool := match d with
  | .non => some false
  | .bl _ => some (match t with | .int => true | .bool => true | _ => false)
  | .int _ => some (match t with | .int => true | _ => false)
  | .str _ => some (match t with | .str => true | _ => false)
  | .tup _ => some (match t with | .tuple => true | _ => false)
  | .ob a => (match μ a with | some (.lst _) => some (match t with | .list => true | _ => false) | _ => none)
  | .rls _ => none
def wIsi (t : TyN) (a : WE) : WE := ⟨fun ρ μ Q X => a.run ρ μ (fun d μ1 => match isA t d μ1 with | some b => Q (.bl b) μ1 | none => False) X, fun hQ hX h => a.mono (fun d μ1 h => by
  revert h; split
  · exact hQ _ _
  · exact id) hX h⟩
theorem wIsi_run {t : TyN} {a : WE} {ρ : Ev} {μ : Mu} {Q : PQ} {X : XQ} : (wIsi t a).run ρ μ Q X = a.run ρ μ (fun d μ1 => match isA t d μ1 with | some b => Q (.bl b) μ1 | none => False) X := rfl
theorem isA_rel {K : PySem.W.Frag} {μ : Mu} {H : Hp} (S : Sim K μ H) {t : TyN} {d : D} {v : V} {b : Bool} (R : Rp K H d v) (h : isA t d μ = some b) : ∃ T : String, TyX K H v (.type T) ∧ kitB T t.s = some b := by
  cases d with
  | non => rw [rp_non R]; exact ⟨_, .base .non, by cases t <;> (cases h; decide +kernel)⟩
  | bl k => rw [rp_bl R]; exact ⟨_, .base (.bl k), by cases t <;> (cases h; decide +kernel)⟩
  | int i => rw [rp_int R]; exact ⟨_, .base (.int i), by cases t <;> (cases h; decide +kernel)⟩
  | str s => rw [rp_str R]; exact ⟨_, .base (.str s), by cases t <;> (cases h; decide +kernel)⟩
  | tup ds =>
    obtain ⟨p, vs, rfl, q, r⟩ := rp_tup R
    refine ⟨"tuple", ?_, by cases t <;> (cases h; decide +kernel)⟩
    rcases q with (q | ⟨o, q⟩) | ⟨o, its, n, e, c, _⟩
    · exact .base (.tup q)
    · exact .fTuple q
    · exact .kTuple e c
  | ob a =>
    rw [rp_ob R]
    unfold isA at h
    dsimp only at h
    split at h
    · rename_i ds e
      obtain ⟨vs, h1, _⟩ := S.lst e
      exact ⟨"list", .base (.lst h1), by cases t <;> (cases h; decide +kernel)⟩
    · cases h
  | rls ds => cases h
theorem le_isi {t : TyN} {a : Expr} {wa : WE} {T : Str} {p p2 pos : Pos} (hm : X.mg "isinstance" = none) (hmT : X.mg T = none) (hvT : bootBuiltins T = some (.type t.s)) (ha : LE X Wx a wa)
    (hg : Gl X "isinstance" := by rfl) (hgT : Gl X T := by rfl) (hn : T ≠ "__name__" := by decide) (hdb : (T == ("__debug__" : Str)) = false := by decide)
    (hs : starEach (a :: [.Name T p2]) X.env = (false, eval a X.env) :: starEach [.Name T p2] X.env := by rfl) (hs2 : starEach (.Name T p2 :: []) X.env = (false, eval (.Name T p2) X.env) :: starEach [] X.env := by rfl)
    (hpl : (backTo pos (starEach [.Name T p2] X.env)).any (·.1) = false := by rfl) : LE X Wx (.Call (.Name "isinstance" p) [a, .Name T p2] [] pos) (wIsi t wa) := by
  refine PE.weak (pe_callB call_isi hg hm (by decide +kernel) (pa_cons ha (pa_cons (pe_bltn hgT hmT hvT (show RelV (.ty t.s) (.type t.s) from rfl) hn hdb) pa_nil hs2) hs) (by decide) (by decide) hs hpl) fun σ H Q ⟨ρ, μ, E, S, h⟩ => ?_
  refine lW.bind E S h (fun x μ1 v H1 F1 S1 E1 r1 h1 => ?_) fun _ _ _ h => h
  cases q : isA t x μ1 with
  | none => rw [q] at h1; exact h1.elim
  | some b =>
    rw [q] at h1
    obtain ⟨T', ty, k⟩ := isA_rel S1 r1 q
    exact ⟨v, .ty t.s, .type T', .type t.s, b, rfl, .ty _, ty, kit_ty k, h1 _ _ F1 S1 rfl⟩

/-! ### calls of defs -/
structure SpD where
  run : List D → Mu → PQ → XQ → Prop
  mono : ∀ {ds μ Q Q' X X'}, (∀ d μ', Q d μ' → Q' d μ') → (∀ C d μ', X C d μ' → X' C d μ') → run ds μ Q X → run ds μ Q' X'
def OutE (K : PySem.W.Frag) (μ : Mu) (H : Hp) (E : XK) : XQ := fun C d μ' => ∀ dx v H', Fr μ H μ' H' → Sim K μ' H' → H' dx = some (.xd [("value", v)]) → Rp K H' d v → E (.ref C) (some dx) H'
def spOf (K : PySem.W.Frag) (n : Nat) (S : SpD) : Sp := fun vs H Q E => vs.length = n ∧ ∃ ds μ, Rps K H ds vs ∧ Sim K μ H ∧ S.run ds μ (Out (Rp K) K μ H Q) (OutE K μ H E)
def wCall (S : SpD) (ws : List WE) : WE := ⟨fun ρ μ Q X => runAll ws ρ μ (fun ds μ1 => S.run ds μ1 Q X) X, fun hQ hX h => runAll_mono (fun _ _ h => S.mono hQ hX h) hX h⟩
theorem wCall_run {S : SpD} {ws : List WE} {ρ : Ev} {μ : Mu} {Q : PQ} {X : XQ} : (wCall S ws).run ρ μ Q X = runAll ws ρ μ (fun ds μ1 => S.run ds μ1 Q X) X := rfl
/-- n values by position, the rest by the parameters' names -/
def KB (K : PySem.W.Frag) (fd : FuncData) (ps : List Str) (n : Nat) : Prop := ∀ (s : Shared) (us ws : List Value), K.In s.heap → us.length = n → ws.length + n = ps.length → BindsTo s fd ⟨us, (ps.drop n).zip ws⟩ (ps.zip (us ++ ws))
/-- a def keeps its promise where no repr is under way -/
def RunOk (P : Program) (w : World) (K : PySem.W.Frag) (mg : Str → Option Value) (base : Heap) (k : Nat) (f : Addr) (fd : FuncData) (ps : List Str) (sp : Sp) : Prop :=
  ∀ (A : Around) (outer : List Env) (s : Shared) (H : Hp) (args : Args) (us : List Value) (vs : List V) (Q : VK) (E : XK), A.guards = some [] → Room k A → Env0 P w K mg base A outer s H → BindsTo s fd args (ps.zip us) → Vals vs us → sp vs H Q E →
    codeAny (model P w) A (.call (.ref f) args) (CR (L2.CX P w) outer P w H s Q E) s
/-- a def of the text that keeps the promise S -/
structure FnD (P : Program) (w : World) (K : PySem.W.Frag) (mg : Str → Option Value) (base : Heap) (k : Nat) (x : Str) (ps : List Str) (ms : List Nat) (S : SpD) : Prop where
  ex : ∃ (f : Addr) (fd : FuncData), RunOk P w K mg base k f fd ps (spOf K ps.length S) ∧ mg x = some (.ref f) ∧ PySem.W.keepIn K (.ref f) = true ∧ Binds K fd ps [] ∧ ∀ n ∈ ms, KB K fd ps n
theorem FnD.mono {P : Program} {w : World} {K : PySem.W.Frag} {mg : Str → Option Value} {base : Heap} {j k : Nat} {x : Str} {ps : List Str} {ms : List Nat} {S : SpD} (F : FnD P w K mg base j x ps ms S) (h : j ≤ k) : FnD P w K mg base k x ps ms S := by
  obtain ⟨f, fd, a, b⟩ := F.ex
  exact ⟨f, fd, fun A outer s H args us vs Q E hg hr => a A outer s H args us vs Q E hg (hr.mono h), b⟩
/-- the callee runs -/
theorem run_go {k : Nat} {f : Addr} {fd : FuncData} {ps : List Str} {sp : Sp} {pins : List (Addr × Obj)} {σ : L2.St} {H : Hp} {s : Shared} {Q : VK} {args : Args} {us : List Value} {vs : List V} {E : XK} (F : RunOk X.prog X.w X.K X.mg X.base k f fd ps sp) (hgd : X.A.guards = some []) (hr : Room k X.A) (hx : PassesAt (L2.CX X.prog X.w) X σ E)
    (I : Inv X pins σ H s) (hb : BindsTo s fd args (ps.zip us)) (r : Vals vs us) (h : sp vs H Q E) : wpAny (model X.prog X.w) X.A (call (.ref f) args.pos args.kw) (EP X pins σ Q) X.xe s :=
  wpAny_call (codeAny_mono (F X.A X.stack s H args us vs Q E hgd hr I.env0 hb r h) fun res s' hq => match res, hq with
    | .error e, hq => hx pins H s e s' I hq
    | .ok (.ret _), hq => I.after hq
    | .ok .next, hq => False.elim hq
    | .ok .brk, hq => False.elim hq
    | .ok .cont, hq => False.elim hq)
/-- f(e, ..), all by position -/
theorem pe_run {k : Nat} {f : Addr} {fd : FuncData} {ps : List Str} {sp : Sp} {E : L2.St → XK} {x : Str} {p pos : Pos} {e : Expr} {es : List Expr} {t : TA} (F : RunOk X.prog X.w X.K X.mg X.base k f fd ps sp) (hgd : X.A.guards = some []) (hr : Room k X.A) (hg : Gl X x) (hm : X.mg x = some (.ref f)) (hk : PySem.W.keepIn X.K (.ref f) = true) (hb : Binds X.K fd ps []) (hx : ∀ σ, PassesAt (L2.CX X.prog X.w) X σ (E σ))
    (ha : PA X (e :: es) t) (hdb : (x == ("__debug__" : Str)) = false) (he : starEach (e :: es) X.env = (false, eval e X.env) :: starEach es X.env) (hpl : (backTo pos (starEach es X.env)).any (·.1) = false) :
    PE X (.Call (.Name x p) (e :: es) [] pos) (fun σ H Q => t σ H fun vs H1 => vs.length = ps.length ∧ sp vs H1 Q (E σ)) := ⟨fun pins s σ H Q I h =>
  wpAny_Call_Name_kw (ld_glob I hg hm (PySem.W.callWith_K (h₀ := X.base) I.ok.mod.kin hk (thn (ha.run pos pins s σ H _ I h) fun us s1 ⟨vs, H1, I1, r, hl, q⟩ => ⟨I1.kIn, by
    have hbb := hb s1 us I1.kIn (by rw [List.append_nil, ← r.length]; exact hl)
    rw [List.append_nil] at hbb
    exact run_go (args := ⟨us, []⟩) F hgd hr (hx σ) I1 hbb r q⟩) he hpl) hdb)⟩
theorem le_call {k j : Nat} {x : Str} {p pos : Pos} {e : Expr} {es : List Expr} {ps : List Str} {ms : List Nat} {S : SpD} {ws : List WE} (F : FnD X.prog X.w X.K X.mg X.base j x ps ms S) (hgd : X.A.guards = some []) (hr : Room k X.A) (tk : Takes X Wx) (ha : LAs X Wx (e :: es) ws) (hjk : j ≤ k := by decide) (hl : ws.length = ps.length := by rfl) (hg : Gl X x := by rfl)
    (hdb : (x == ("__debug__" : Str)) = false := by decide) (he : starEach (e :: es) X.env = (false, eval e X.env) :: starEach es X.env := by rfl) (hpl : (backTo pos (starEach es X.env)).any (·.1) = false := by rfl) : LE X Wx (.Call (.Name x p) (e :: es) [] pos) (wCall S ws) := by
  obtain ⟨f, fd, G, hm, hk, hb, _⟩ := F.ex
  refine PE.weak (pe_run G hgd (hr.mono hjk) hg hm hk hb (fun σ => passAt tk σ) ha hdb he hpl) fun σ H Q ⟨ρ, μ, E, S0, h⟩ => ?_
  refine lW.bind (w := wArgs ws) E S0 (runAll_len h) (fun xs μ1 vs H1 F1 S1 E1 r1 h1 => ?_) fun _ _ _ h => h
  have hv : vs.length = ps.length := by rw [r1.length, h1.1, hl]
  refine ⟨hv, hv, xs, μ1, r1, S1, S.mono (fun _ _ q => q.trans F1) (fun _ _ _ q => ?_) h1.2⟩
  exact fun dx v H' F' S' e r => q dx v H' (F1.trans F') S' e r
end
end Sq

/-! Statements, targets. -/
namespace Sq
open PySem PySem.Spec PyProof.Rows L2
/-- what is wanted behind a statement -/
structure PD where
  nx : Ev → Mu → Prop
  rt : PQ
  bk : Ev → Mu → Prop
  ct : Ev → Mu → Prop
  ex : Ev → XQ
structure PD.le (D D' : PD) : Prop where
  nx : ∀ ρ μ, D.nx ρ μ → D'.nx ρ μ
  rt : ∀ d μ, D.rt d μ → D'.rt d μ
  bk : ∀ ρ μ, D.bk ρ μ → D'.bk ρ μ
  ct : ∀ ρ μ, D.ct ρ μ → D'.ct ρ μ
  ex : ∀ ρ C d μ, D.ex ρ C d μ → D'.ex ρ C d μ
theorem PD.le.refl (D : PD) : D.le D := ⟨fun _ _ h => h, fun _ _ h => h, fun _ _ h => h, fun _ _ h => h, fun _ _ _ _ h => h⟩
structure WS where
  run : PD → Ev → Mu → Prop
  mono : ∀ {D D' : PD} {ρ : Ev} {μ : Mu}, D.le D' → run D ρ μ → run D' ρ μ
def OutS (K : PySem.W.Frag) (μ : Mu) (H : Hp) (Q : L2.St → Hp → Prop) : Ev → Mu → Prop := fun ρ' μ' => ∀ σ' H', Fr μ H μ' H' → Sim K μ' H' → EnvR K H' ρ' σ' → Q σ' H'
def OutXE (K : PySem.W.Frag) (Wx : WX) (μ : Mu) (H : Hp) : Ev → XQ := fun ρ' C d μ' => ∀ σ' dx v H', Fr μ H μ' H' → Sim K μ' H' → EnvR K H' ρ' σ' → H' dx = some (.xd [("value", v)]) → Rp K H' d v → Wx (.ref C) (some dx) σ' H'
def outD (K : PySem.W.Frag) (Wx : WX) (μ : Mu) (H : Hp) (D : Ends) : PD := ⟨OutS K μ H D.nx, Out (Rp K) K μ H D.rt, OutS K μ H D.bk, OutS K μ H D.ct, OutXE K Wx μ H⟩
def lS (K : PySem.W.Frag) (Wx : WX) (w : WS) : TS := fun D σ H => ∃ ρ μ, EnvR K H ρ σ ∧ Sim K μ H ∧ w.run (outD K Wx μ H D) ρ μ
def LS (X : Cx) (Wx : WX) (st : Stmt) (w : WS) : Prop := PS X st (lS X.K Wx w)
def LSs (X : Cx) (Wx : WX) (st : List Stmt) (w : WS) : Prop := PSs X st (lS X.K Wx w)
theorem PS.weak {X : Cx} {st : Stmt} {t t' : TS} (h : PS X st t) (hw : ∀ D σ H, t' D σ H → t D σ H) : PS X st t' := ⟨fun pins s σ H D I q => h.run pins s σ H D I (hw D σ H q)⟩
theorem PSs.weak {X : Cx} {st : List Stmt} {t t' : TS} (h : PSs X st t) (hw : ∀ D σ H, t' D σ H → t D σ H) : PSs X st t' := ⟨fun pins s σ H D I q => h.run pins s σ H D I (hw D σ H q)⟩
theorem OutS.trans {K : PySem.W.Frag} {μ μ1 : Mu} {H H1 : Hp} {Q : L2.St → Hp → Prop} (F : Fr μ H μ1 H1) {ρ : Ev} {μ' : Mu} (h : OutS K μ H Q ρ μ') : OutS K μ1 H1 Q ρ μ' := fun σ' H' F' S e => h σ' H' (F.trans F') S e
theorem OutXE.trans {K : PySem.W.Frag} {Wx : WX} {μ μ1 : Mu} {H H1 : Hp} (F : Fr μ H μ1 H1) {ρ : Ev} {C : Addr} {d : D} {μ' : Mu} (h : OutXE K Wx μ H ρ C d μ') : OutXE K Wx μ1 H1 ρ C d μ' := fun σ' dx v H' F' S e r r2 => h σ' dx v H' (F.trans F') S e r r2
theorem outD.trans {K : PySem.W.Frag} {Wx : WX} {μ μ1 : Mu} {H H1 : Hp} {D : Ends} (F : Fr μ H μ1 H1) : (outD K Wx μ H D).le (outD K Wx μ1 H1 D) := ⟨fun _ _ h => OutS.trans F h, fun _ _ h => Out.trans F h, fun _ _ h => OutS.trans F h, fun _ _ h => OutS.trans F h, fun _ _ _ _ h => OutXE.trans F h⟩
theorem OutXE.x {K : PySem.W.Frag} {Wx : WX} {μ : Mu} {H : Hp} {ρ : Ev} {σ : L2.St} (S : Sim K μ H) (E : EnvR K H ρ σ) {C : Addr} {d : D} {μ' : Mu} (h : OutXE K Wx μ H ρ C d μ') : OutX K Wx σ μ H C d μ' := fun dx v H' F S' r r2 => h σ dx v H' F S' (E.keep S F) r r2
section
variable {X : Cx} {Wx : WX}
/-! ### blocks -/
def wNext : WS := ⟨fun D ρ μ => D.nx ρ μ, fun h q => h.nx _ _ q⟩
theorem wNext_run {D : PD} {ρ : Ev} {μ : Mu} : wNext.run D ρ μ = D.nx ρ μ := rfl
def wSeq (a b : WS) : WS := ⟨fun D ρ μ => a.run { D with nx := fun ρ1 μ1 => b.run D ρ1 μ1 } ρ μ, fun {D D' ρ μ} h q => a.mono (D := { D with nx := fun ρ1 μ1 => b.run D ρ1 μ1 }) (D' := { D' with nx := fun ρ1 μ1 => b.run D' ρ1 μ1 }) ⟨fun _ _ q => b.mono h q, h.rt, h.bk, h.ct, h.ex⟩ q⟩
theorem wSeq_run {a b : WS} {D : PD} {ρ : Ev} {μ : Mu} : (wSeq a b).run D ρ μ = a.run { D with nx := fun ρ1 μ1 => b.run D ρ1 μ1 } ρ μ := rfl
theorem lss_nil : LSs X Wx [] wNext := PSs.weak pss_nil fun D σ H ⟨ρ, μ, E, S, h⟩ => (show OutS X.K μ H D.nx ρ μ from h) σ H (Fr.refl μ H) S E
theorem lss_cons {st : Stmt} {rest : List Stmt} {a b : WS} (h1 : LS X Wx st a) (h2 : LSs X Wx rest b) : LSs X Wx (st :: rest) (wSeq a b) := PSs.weak (pss_cons h1 h2) fun D σ H ⟨ρ, μ, E, S, h⟩ =>
  ⟨ρ, μ, E, S, a.mono (D := { outD X.K Wx μ H D with nx := fun ρ1 μ1 => b.run (outD X.K Wx μ H D) ρ1 μ1 }) (D' := outD X.K Wx μ H { D with nx := lS X.K Wx b D }) ⟨fun ρ1 μ1 q σ1 H1 F1 S1 E1 => ⟨ρ1, μ1, E1, S1, b.mono (outD.trans F1) q⟩, fun _ _ h => h, fun _ _ h => h, fun _ _ h => h, fun _ _ _ _ h => h⟩ h⟩
theorem lss_one {st : Stmt} {a : WS} (h1 : LS X Wx st a) : LSs X Wx [st] a := pss_one h1
def wBreak : WS := ⟨fun D ρ μ => D.bk ρ μ, fun h q => h.bk _ _ q⟩
def wCont : WS := ⟨fun D ρ μ => D.ct ρ μ, fun h q => h.ct _ _ q⟩
theorem wBreak_run {D : PD} {ρ : Ev} {μ : Mu} : wBreak.run D ρ μ = D.bk ρ μ := rfl
theorem wCont_run {D : PD} {ρ : Ev} {μ : Mu} : wCont.run D ρ μ = D.ct ρ μ := rfl
theorem ls_pass {pos} : LS X Wx (.Pass pos) wNext := PS.weak ps_pass fun D σ H ⟨ρ, μ, E, S, h⟩ => (show OutS X.K μ H D.nx ρ μ from h) σ H (Fr.refl μ H) S E
theorem ls_break {pos} : LS X Wx (.Break pos) wBreak := PS.weak ps_break fun D σ H ⟨ρ, μ, E, S, h⟩ => (show OutS X.K μ H D.bk ρ μ from h) σ H (Fr.refl μ H) S E
theorem ls_continue {pos} : LS X Wx (.Continue pos) wCont := PS.weak ps_continue fun D σ H ⟨ρ, μ, E, S, h⟩ => (show OutS X.K μ H D.ct ρ μ from h) σ H (Fr.refl μ H) S E
/-- code that is never come to -/
def wNever : WS := ⟨fun _ _ _ => False, fun _ h => h⟩
theorem wNever_run {D : PD} {ρ : Ev} {μ : Mu} : wNever.run D ρ μ = False := rfl
theorem ls_never {st : Stmt} : LS X Wx st wNever := PS.weak ps_never fun _ _ _ ⟨_, _, _, _, h⟩ => h.elim
theorem lss_never {st : List Stmt} : LSs X Wx st wNever := PSs.weak pss_never fun _ _ _ ⟨_, _, _, _, h⟩ => h.elim
def wExpr (a : WE) : WS := ⟨fun D ρ μ => a.run ρ μ (fun _ μ1 => D.nx ρ μ1) (D.ex ρ), fun h q => a.mono (fun _ _ q => h.nx _ _ q) (fun _ _ _ q => h.ex _ _ _ _ q) q⟩
theorem wExpr_run {a : WE} {D : PD} {ρ : Ev} {μ : Mu} : (wExpr a).run D ρ μ = a.run ρ μ (fun _ μ1 => D.nx ρ μ1) (D.ex ρ) := rfl
theorem ls_expr {e : Expr} {pos : Pos} {w : WE} (he : LE X Wx e w) (hs : swapsWith e none pos.line X.env = pure false := by rfl) : LS X Wx (.Expr e pos) (wExpr w) := PS.weak (ps_expr he hs) fun D σ H ⟨ρ, μ, E, S, h⟩ => by
  exact lW.bind E S h (fun x μ1 v H1 F1 S1 E1 r1 h1 => h1 σ H1 F1 S1 E1) fun _ _ _ h => OutXE.x S E h
def wRet (a : WE) : WS := ⟨fun D ρ μ => a.run ρ μ D.rt (D.ex ρ), fun h q => a.mono (fun _ _ q => h.rt _ _ q) (fun _ _ _ q => h.ex _ _ _ _ q) q⟩
theorem wRet_run {a : WE} {D : PD} {ρ : Ev} {μ : Mu} : (wRet a).run D ρ μ = a.run ρ μ D.rt (D.ex ρ) := rfl
theorem ls_ret {e : Expr} {pos : Pos} {w : WE} (he : LE X Wx e w) : LS X Wx (.Return (some e) pos) (wRet w) := PS.weak (ps_ret he) fun D σ H ⟨ρ, μ, E, S, h⟩ => by
  exact lW.bind E S h (fun x μ1 v H1 F1 S1 E1 r1 h1 => h1 v H1 F1 S1 r1) fun _ _ _ h => OutXE.x S E h
def wRetN : WS := ⟨fun D ρ μ => D.rt .non μ, fun h q => h.rt _ _ q⟩
theorem wRetN_run {D : PD} {ρ : Ev} {μ : Mu} : wRetN.run D ρ μ = D.rt .non μ := rfl
theorem ls_retN {pos : Pos} : LS X Wx (.Return none pos) wRetN := PS.weak ps_retN fun D σ H ⟨ρ, μ, E, S, h⟩ => (show Out (Rp X.K) X.K μ H D.rt .non μ from h) _ _ (Fr.refl μ H) S rfl
def wIf (c : WT) (a b : WS) : WS := ⟨fun D ρ μ => c.run ρ μ (fun k μ1 => if k = true then a.run D ρ μ1 else b.run D ρ μ1) (D.ex ρ), fun h q => c.mono (fun k _ q => by
  cases k with
  | true => exact a.mono h q
  | false => exact b.mono h q) (fun _ _ _ q => h.ex _ _ _ _ q) q⟩
theorem wIf_run {c : WT} {a b : WS} {D : PD} {ρ : Ev} {μ : Mu} : (wIf c a b).run D ρ μ = c.run ρ μ (fun k μ1 => if k = true then a.run D ρ μ1 else b.run D ρ μ1) (D.ex ρ) := rfl
theorem ls_if {c : Expr} {sa sb : List Stmt} {pos : Pos} {wc : WT} {a b : WS} (hc : LT X Wx c wc) (ha : LSs X Wx sa a) (hb : LSs X Wx sb b) : LS X Wx (.If c sa sb pos) (wIf wc a b) := PS.weak (ps_if hc ha hb) fun D σ H ⟨ρ, μ, E, S, h⟩ => by
  refine lW.bind E S h (fun x μ1 v H1 F1 S1 E1 r1 h1 => ?_) fun _ _ _ h => OutXE.x S E h
  subst r1
  cases x with
  | true => exact iteT ⟨ρ, μ1, E1, S1, a.mono (outD.trans F1) h1⟩
  | false => exact iteF ⟨ρ, μ1, E1, S1, b.mono (outD.trans F1) h1⟩

/-! ### targets -/
structure WG where
  run : D → Ev → Mu → (Ev → Mu → Prop) → (Ev → XQ) → Prop
  mono : ∀ {d : D} {ρ : Ev} {μ : Mu} {Q Q' : Ev → Mu → Prop} {X X' : Ev → XQ}, (∀ ρ μ, Q ρ μ → Q' ρ μ) → (∀ ρ C d μ, X ρ C d μ → X' ρ C d μ) → run d ρ μ Q X → run d ρ μ Q' X'
def lG (K : PySem.W.Frag) (Wx : WX) (g : WG) : TG := fun v σ H Q => ∃ ρ μ d, EnvR K H ρ σ ∧ Sim K μ H ∧ Rp K H d v ∧ g.run d ρ μ (OutS K μ H Q) (OutXE K Wx μ H)
def LG (X : Cx) (Wx : WX) (e : Expr) (g : WG) : Prop := PG X e (lG X.K Wx g)
theorem PG.weak {X : Cx} {e : Expr} {t t' : TG} (h : PG X e t) (hw : ∀ v σ H Q, t' v σ H Q → t v σ H Q) : PG X e t' := ⟨fun pins s σ H v u Q I r q => h.run pins s σ H v u Q I r (hw v σ H Q q)⟩
theorem PGs.weak {X : Cx} {e : List Expr} {t t' : TGs} (h : PGs X e t) (hw : ∀ v σ H Q, t' v σ H Q → t v σ H Q) : PGs X e t' := ⟨fun pins s σ H v u Q I r q => h.run pins s σ H v u Q I r (hw v σ H Q q)⟩
def gN (i : Nat) : WG := ⟨fun d ρ μ Q _ => Q (ρ.set i (some d)) μ, fun hQ _ q => hQ _ _ q⟩
theorem gN_run {i : Nat} {d : D} {ρ : Ev} {μ : Mu} {Q : Ev → Mu → Prop} {X : Ev → XQ} : (gN i).run d ρ μ Q X = Q (ρ.set i (some d)) μ := rfl
theorem lg_name (i : Nat) {x : Str} {pos : Pos} (hN : X.N.Nodup) (hi : X.N[i]? = some x := by rfl) (hx : Loc X.env.scope x := by first | exact Or.inl rfl | exact Or.inr rfl) (hf : X.fn x = true ∨ X.env.scope.names.lookup x = some .local := by first | exact .inl rfl | exact .inr rfl) : LG X Wx (.Name x pos) (gN i) :=
  PG.weak (pg_name hN hi hx hf) fun v σ H Q ⟨ρ, μ, d, E, S, R, h⟩ => h _ _ (Fr.refl μ H) S (E.set R i)
def runGs : List WG → List D → Ev → Mu → (Ev → Mu → Prop) → (Ev → XQ) → Prop
  | [], [], ρ, μ, Q, _ => Q ρ μ
  | g :: gs, d :: ds, ρ, μ, Q, X => g.run d ρ μ (fun ρ1 μ1 => runGs gs ds ρ1 μ1 Q X) X
  | _, _, _, _, _, _ => False
theorem runGs_nil {ρ : Ev} {μ : Mu} {Q : Ev → Mu → Prop} {X : Ev → XQ} : runGs [] [] ρ μ Q X = Q ρ μ := rfl
theorem runGs_cons {g : WG} {gs : List WG} {d : D} {ds : List D} {ρ : Ev} {μ : Mu} {Q : Ev → Mu → Prop} {X : Ev → XQ} : runGs (g :: gs) (d :: ds) ρ μ Q X = g.run d ρ μ (fun ρ1 μ1 => runGs gs ds ρ1 μ1 Q X) X := rfl
theorem runGs_mono : ∀ {gs : List WG} {ds : List D} {ρ : Ev} {μ : Mu} {Q Q' : Ev → Mu → Prop} {X X' : Ev → XQ}, (∀ ρ μ, Q ρ μ → Q' ρ μ) → (∀ ρ C d μ, X ρ C d μ → X' ρ C d μ) → runGs gs ds ρ μ Q X → runGs gs ds ρ μ Q' X'
  | [], [], _, _, _, _, _, _, hQ, _, h => hQ _ _ h
  | g :: gs, d :: ds, _, _, _, _, _, _, hQ, hX, h => g.mono (fun _ _ q => runGs_mono (gs := gs) hQ hX q) hX h
  | [], _ :: _, _, _, _, _, _, _, _, _, h => h
  | _ :: _, [], _, _, _, _, _, _, _, _, h => h
theorem runGs_len : ∀ {gs : List WG} {ds : List D} {ρ : Ev} {μ : Mu} {Q : Ev → Mu → Prop} {X : Ev → XQ}, runGs gs ds ρ μ Q X → gs.length = ds.length ∨ gs.length ≠ ds.length
  | _, _, _, _, _, _, _ => by omega
def LGs (X : Cx) (Wx : WX) (es : List Expr) (gs : List WG) : Prop := PGs X es (fun vs σ H Q => ∃ ρ μ ds, EnvR X.K H ρ σ ∧ Sim X.K μ H ∧ Rps X.K H ds vs ∧ runGs gs ds ρ μ (OutS X.K μ H Q) (OutXE X.K Wx μ H))
theorem lgs_nil : LGs X Wx [] [] := PGs.weak pgs_nil fun vs σ H Q ⟨ρ, μ, ds, E, S, R, h⟩ => by
  cases ds with
  | nil => unfold Rps at R; exact ⟨R, (show OutS X.K μ H Q ρ μ from h) _ _ (Fr.refl μ H) S E⟩
  | cons d ds => exact h.elim
theorem lgs_cons {e : Expr} {es : List Expr} {g : WG} {gs : List WG} (h1 : LG X Wx e g) (h2 : LGs X Wx es gs) (hs : (assignEach (e :: es) X.env).map (·.2) = assign e X.env :: (assignEach es X.env).map (·.2) := by rfl) : LGs X Wx (e :: es) (g :: gs) :=
  PGs.weak (pgs_cons h1 h2 hs) fun vs σ H Q ⟨ρ, μ, ds, E, S, R, h⟩ => by
    cases ds with
    | nil => exact h.elim
    | cons d ds =>
      unfold Rps at R
      obtain ⟨w, ws, rfl, r1, r2⟩ := R
      refine ⟨w, ws, rfl, ρ, μ, d, E, S, r1, g.mono (fun ρ1 μ1 q σ1 H1 F1 S1 E1 => ?_) (fun _ _ _ _ h => h) h⟩
      exact ⟨ρ1, μ1, ds, E1, S1, Rps.keep S F1 ds r2, runGs_mono (fun _ _ q => OutS.trans F1 q) (fun _ _ _ _ q => OutXE.trans F1 q) q⟩
/-- a tuple is unpacked -/
def gT (gs : List WG) : WG := ⟨fun d ρ μ Q X => match d with | .tup ds => ds.length = gs.length ∧ runGs gs ds ρ μ Q X | _ => False, fun {d ρ μ Q Q' X X'} hQ hX q => by
  cases d <;> first | exact q | exact ⟨q.1, runGs_mono hQ hX q.2⟩⟩
theorem gT_run {gs : List WG} {ds : List D} {ρ : Ev} {μ : Mu} {Q : Ev → Mu → Prop} {X : Ev → XQ} : (gT gs).run (.tup ds) ρ μ Q X = (ds.length = gs.length ∧ runGs gs ds ρ μ Q X) := rfl
theorem lg_tup {es : List Expr} {k : Nat} {pos : Pos} {gs : List WG} (h : LGs X Wx es gs) (hc : X.calm = true := by rfl) (hn : (assignEach es X.env).length = gs.length := by rfl) (hst : (assignEach es X.env).findIdx? (·.1) = none := by rfl) : LG X Wx (.Tuple es k pos) (gT gs) :=
  PG.weak (pg_tup (n := gs.length) hc h hn hst) fun v σ H Q ⟨ρ, μ, d, E, S, R, h⟩ => by
    cases d <;> first
      | exact h.elim
      | (obtain ⟨p, vs, rfl, t, r⟩ := rp_tup R
         exact ⟨p, vs, rfl, t, by rw [r.length, h.1], ρ, μ, _, E, S, r, h.2⟩)
/-- o[i] = d -/
def sIx (o i d : D) (μ : Mu) (Q : Mu → Prop) : Prop := match o, i with
  | .ob a, .int k => (match μ a with | some (.lst xs) => (match ixN xs.length k with | some j => Q (mset μ a (.lst (xs.set j d))) | none => False) | _ => False)
  | _, _ => False
theorem sIx_ob {a : Addr} {k : Int} {d : D} {μ : Mu} {Q : Mu → Prop} : sIx (.ob a) (.int k) d μ Q = (match μ a with | some (.lst xs) => (match ixN xs.length k with | some j => Q (mset μ a (.lst (xs.set j d))) | none => False) | _ => False) := rfl
theorem sIx_inv {o i d : D} {μ : Mu} {Q : Mu → Prop} (h : sIx o i d μ Q) : ∃ a k xs j, o = .ob a ∧ i = .int k ∧ μ a = some (.lst xs) ∧ ixN xs.length k = some j ∧ Q (mset μ a (.lst (xs.set j d))) := by
  unfold sIx at h
  split at h
  · split at h
    · split at h
      · exact ⟨_, _, _, _, rfl, rfl, by assumption, by assumption, h⟩
      · exact h.elim
    · exact h.elim
  · exact h.elim
theorem sIx_mk {a : Addr} {k : Int} {xs : List D} {j : Nat} {d : D} {μ : Mu} {Q : Mu → Prop} (h1 : μ a = some (.lst xs)) (h2 : ixN xs.length k = some j) (h : Q (mset μ a (.lst (xs.set j d)))) : sIx (.ob a) (.int k) d μ Q := by
  rw [sIx_ob, h1]
  dsimp only
  rw [h2]
  exact h
def gS (wo wi : WE) : WG := ⟨fun d ρ μ Q X => wo.run ρ μ (fun o μ1 => wi.run ρ μ1 (fun i μ2 => sIx o i d μ2 fun μ3 => Q ρ μ3) (X ρ)) (X ρ), fun {d ρ μ Q Q' X X'} hQ hX q => wo.mono (fun _ _ q => wi.mono (fun _ _ q => by
  obtain ⟨a, k, xs, j, rfl, rfl, e1, e2, q⟩ := sIx_inv q
  exact sIx_mk e1 e2 (hQ _ _ q)) (fun _ _ _ q => hX _ _ _ _ q) q) (fun _ _ _ q => hX _ _ _ _ q) q⟩
theorem gS_run {wo wi : WE} {d : D} {ρ : Ev} {μ : Mu} {Q : Ev → Mu → Prop} {X : Ev → XQ} : (gS wo wi).run d ρ μ Q X = wo.run ρ μ (fun o μ1 => wi.run ρ μ1 (fun i μ2 => sIx o i d μ2 fun μ3 => Q ρ μ3) (X ρ)) (X ρ) := rfl
theorem lg_sub {o i : Expr} {pos : Pos} {wo wi : WE} (ho : LE X Wx o wo) (hi : LE X Wx i wi)
    (ha : ∀ v, assign (.Subscript o i pos) X.env v = (do
      let ov ← holding [v] (eval o X.env)
      let iv ← holding [v, ov] (eval i X.env)
      standAt pos
      holding [v, ov, iv] (setItem ov iv v)
      release [v, ov, iv] []) := by intro _; rfl) : LG X Wx (.Subscript o i pos) (gS wo wi) := PG.weak (pg_sub ho hi set_list ha) fun v σ H Q ⟨ρ, μ, d, E, S, R, h⟩ => by
  refine lW.bind E S h (fun x μ1 vo H1 F1 S1 E1 r1 h1 => ?_) fun _ _ _ h => OutXE.x S E h
  refine lW.bind E1 S1 h1 (fun y μ2 vi H2 F2 S2 E2 r2 h2 => ?_) fun _ _ _ h => OutX.trans F1 (OutXE.x S E h)
  obtain ⟨a, k, xs, j, rfl, rfl, e1, e2, q⟩ := sIx_inv h2
  obtain ⟨vs, h3, r3⟩ := S2.lst e1
  have R2 : Rp X.K H2 d v := Rp.keep S1 F2 d (Rp.keep S F1 d R)
  have F3 : Fr μ2 H2 (mset μ2 a (.lst (xs.set j d))) (upd H2 a (.lst (vs.set j v))) := fr_set e1
  exact ⟨a, vs, k, j, rp_ob r1, rp_int r2, h3, by rw [r3.length]; exact e2, q _ _ (F1.trans (F2.trans F3)) (sim_lst S2 F3 (r3.set R2 j)) (E2.keep S2 F3)⟩

/-! ### assignments -/
def wAsg (a : WE) (g : WG) : WS := ⟨fun D ρ μ => a.run ρ μ (fun d μ1 => g.run d ρ μ1 D.nx D.ex) (D.ex ρ), fun h q => a.mono (fun _ _ q => g.mono h.nx h.ex q) (fun _ _ _ q => h.ex _ _ _ _ q) q⟩
theorem wAsg_run {a : WE} {g : WG} {D : PD} {ρ : Ev} {μ : Mu} : (wAsg a g).run D ρ μ = a.run ρ μ (fun d μ1 => g.run d ρ μ1 D.nx D.ex) (D.ex ρ) := rfl
theorem wAsg_t {w : WE} {g : WG} : ∀ D σ H, lS X.K Wx (wAsg w g) D σ H → tAsg (lE X.K Wx w) (lG X.K Wx g) D σ H := fun D σ H ⟨ρ, μ, E, S, h⟩ => by
  refine lW.bind E S h (fun x μ1 v H1 F1 S1 E1 r1 h1 => ?_) fun _ _ _ h => OutXE.x S E h
  exact ⟨ρ, μ1, x, E1, S1, r1, g.mono (fun _ _ q => OutS.trans F1 q) (fun _ _ _ _ q => OutXE.trans F1 q) h1⟩
theorem ls_asg {tg e : Expr} {pos : Pos} {w : WE} {g : WG} (he : LE X Wx e w) (hg : LG X Wx tg g) (hs : swapsWithSole [tg] e pos.line X.env = pure false := by rfl) (hw : swappedStores [tg] e X.env = pure none := by rfl)
    (h1 : (assignEach [tg] X.env).map (·.2) = [assign tg X.env] := by rfl) : LS X Wx (.Assign [tg] e pos) (wAsg w g) := PS.weak (ps_asg he hg hs hw h1) wAsg_t
def wSet (i : Nat) (a : WE) : WS := ⟨fun D ρ μ => a.run ρ μ (fun d μ1 => D.nx (ρ.set i (some d)) μ1) (D.ex ρ), fun h q => a.mono (fun _ _ q => h.nx _ _ q) (fun _ _ _ q => h.ex _ _ _ _ q) q⟩
theorem wSet_run {i : Nat} {a : WE} {D : PD} {ρ : Ev} {μ : Mu} : (wSet i a).run D ρ μ = a.run ρ μ (fun d μ1 => D.nx (ρ.set i (some d)) μ1) (D.ex ρ) := rfl
theorem wSet_t {i : Nat} {w : WE} : ∀ D σ H, lS X.K Wx (wSet i w) D σ H → tAsg (lE X.K Wx w) (gName i) D σ H := fun D σ H ⟨ρ, μ, E, S, h⟩ => by
  refine lW.bind E S h (fun x μ1 v H1 F1 S1 E1 r1 h1 => ?_) fun _ _ _ h => OutXE.x S E h
  exact h1 _ _ F1 S1 (E1.set r1 i)
theorem ls_set (i : Nat) {x : Str} {e : Expr} {pos pos' : Pos} {w : WE} (hN : X.N.Nodup) (he : LE X Wx e w) (hi : X.N[i]? = some x := by rfl) (hx : Loc X.env.scope x := by first | exact Or.inl rfl | exact Or.inr rfl)
    (hs : swapsWith e (some (.Name x pos')) pos.line X.env = pure false := by rfl) (hf : X.fn x = true ∨ X.env.scope.names.lookup x = some .local := by first | exact .inl rfl | exact .inr rfl) : LS X Wx (.Assign [.Name x pos'] e pos) (wSet i w) :=
  PS.weak (ps_set hN hi hx he hs hf) wSet_t
/-- a, b = x, y of plain local names -/
def wPar (i j : Nat) (a b : WE) : WS := ⟨fun D ρ μ => a.run ρ μ (fun x μ1 => b.run ρ μ1 (fun y μ2 => D.nx ((ρ.set i (some x)).set j (some y)) μ2) (D.ex ρ)) (D.ex ρ), fun h q => a.mono (fun _ _ q => b.mono (fun _ _ q => h.nx _ _ q) (fun _ _ _ q => h.ex _ _ _ _ q) q) (fun _ _ _ q => h.ex _ _ _ _ q) q⟩
theorem wPar_run {i j : Nat} {a b : WE} {D : PD} {ρ : Ev} {μ : Mu} : (wPar i j a b).run D ρ μ = a.run ρ μ (fun x μ1 => b.run ρ μ1 (fun y μ2 => D.nx ((ρ.set i (some x)).set j (some y)) μ2) (D.ex ρ)) (D.ex ρ) := rfl
theorem ls_par (i j : Nat) {x y : Str} {a b : Expr} {wa wb : WE} {px py pt pos : Pos} {kt k2 pt2} (hN : X.N.Nodup) (ha : LAs X Wx [a, b] [wa, wb]) (hw : swappedStores [.Tuple [.Name x px, .Name y py] kt pt] (.Tuple [a, b] k2 pt2) X.env = pure (some [x, y]) := by rfl)
    (hc : X.calm = true := by rfl) (hi : X.N[i]? = some x := by rfl) (hj : X.N[j]? = some y := by rfl) (hij : i ≠ j := by decide) (hx : X.env.scope.names.lookup x = some .local := by rfl) (hy : X.env.scope.names.lookup y = some .local := by rfl)
    (hs : swapsWithSole [.Tuple [.Name x px, .Name y py] kt pt] (.Tuple [a, b] k2 pt2) pos.line X.env = pure false := by rfl) : LS X Wx (.Assign [.Tuple [.Name x px, .Name y py] kt pt] (.Tuple [a, b] k2 pt2) pos) (wPar i j wa wb) :=
  PS.weak (ps_par hc hN hi hj hij hx hy ha hw hs) fun D σ H ⟨ρ, μ, E, S, h⟩ => by
    refine lW.bind (w := wArgs [wa, wb]) E S (Q := fun ds μ2 => ∃ x y, ds = [x, y] ∧ (outD X.K Wx μ H D).nx ((ρ.set i (some x)).set j (some y)) μ2) (X := (outD X.K Wx μ H D).ex ρ) ?_ (fun xs μ1 vs H1 F1 S1 E1 r1 h1 => ?_) fun _ _ _ h => OutXE.x S E h
    · exact wa.mono (fun x μ1 q => wb.mono (fun y μ2 q => ⟨x, y, rfl, q⟩) (fun _ _ _ h => h) q) (fun _ _ _ h => h) h
    obtain ⟨x, y, rfl, q⟩ := h1
    obtain ⟨v, u, rfl, a1, a2⟩ := rps2 r1
    exact ⟨v, u, rfl, q _ _ F1 S1 ((E1.set a1 i).set a2 j)⟩
end
end Sq

/-! Loops, comprehensions, methods, keywords, defs. -/
namespace Sq
open PySem PySem.Spec PyProof.Rows L2
section
variable {X : Cx} {Wx : WX}
/-! ### while -/
/-- behind a turn -/
abbrev PD.turn (D : PD) (N : Ev → Mu → Prop) : PD := ⟨N, D.rt, D.nx, N, D.ex⟩
theorem PD.turn_le {D D' : PD} {N N' : Ev → Mu → Prop} (h : D.le D') (hN : ∀ ρ μ, N ρ μ → N' ρ μ) : (D.turn N).le (D'.turn N') := ⟨hN, h.rt, h.nx, hN, h.ex⟩
def wWhile (c : WT) (b : WS) : WS := ⟨fun D ρ μ => ∃ W : Nat → Ev → Mu → Prop, (∃ m, W m ρ μ) ∧ ∀ m ρ μ, W m ρ μ → c.run ρ μ (fun k μ1 => if k = true then b.run (D.turn fun ρ' μ' => ∃ m', m' < m ∧ W m' ρ' μ') ρ μ1 else D.nx ρ μ1) (D.ex ρ),
  fun {D D' ρ μ} h ⟨W, h0, hs⟩ => ⟨W, h0, fun m ρ μ w => c.mono (fun k μ1 q => by
    cases k with
    | true => exact b.mono (PD.turn_le h fun _ _ q => q) q
    | false => exact h.nx _ _ q) (fun _ _ _ q => h.ex _ _ _ _ q) (hs m ρ μ w)⟩⟩
theorem wWhile_run {c : WT} {b : WS} {D : PD} {ρ : Ev} {μ : Mu} : (wWhile c b).run D ρ μ = ∃ W : Nat → Ev → Mu → Prop, (∃ m, W m ρ μ) ∧ ∀ m ρ μ, W m ρ μ → c.run ρ μ (fun k μ1 => if k = true then b.run (D.turn fun ρ' μ' => ∃ m', m' < m ∧ W m' ρ' μ') ρ μ1 else D.nx ρ μ1) (D.ex ρ) := rfl
/-- by an invariant and a measure -/
theorem wWhile_by {c : WT} {b : WS} {D : PD} {ρ : Ev} {μ : Mu} (P : Nat → Ev → Mu → Prop) (m0 : Nat) (h0 : P m0 ρ μ)
    (hs : ∀ m ρ μ, P m ρ μ → c.run ρ μ (fun k μ1 => if k = true then b.run (D.turn fun ρ' μ' => ∃ m', m' < m ∧ P m' ρ' μ') ρ μ1 else D.nx ρ μ1) (D.ex ρ)) : (wWhile c b).run D ρ μ := ⟨P, ⟨m0, h0⟩, hs⟩
theorem ls_while {c : Expr} {body : List Stmt} {pos : Pos} {wc : WT} {wb : WS} (hp : PassesOwn (model X.prog X.w) X.A X.env X.xe) (hc : LT X Wx c wc) (hb : LSs X Wx body wb) : LS X Wx (.While c body [] pos) (wWhile wc wb) :=
  PS.weak (ps_while hp hc hb) fun D σ H ⟨ρ, μ, E, S, W, ⟨m0, h0⟩, hs⟩ => by
    refine ⟨fun m σ' H' => ∃ ρ' μ', EnvR X.K H' ρ' σ' ∧ Sim X.K μ' H' ∧ Fr μ H μ' H' ∧ W m ρ' μ', ⟨m0, ρ, μ, E, S, Fr.refl μ H, h0⟩, ?_⟩
    rintro m σ1 H1 ⟨ρ1, μ1, E1, S1, F1, w1⟩
    refine lW.bind E1 S1 (hs m ρ1 μ1 w1) (fun k μ2 k' H2 F2 S2 E2 r2 q2 => ?_) fun _ _ _ h => OutXE.x S1 E1 (OutXE.trans F1 h)
    subst r2
    cases k with
    | false => exact iteF ((show OutS X.K μ H D.nx ρ1 μ2 from q2) _ _ (F1.trans F2) S2 E2)
    | true =>
      refine iteT ⟨fun σ' H' => ∃ m', m' < m ∧ ∃ ρ' μ', EnvR X.K H' ρ' σ' ∧ Sim X.K μ' H' ∧ Fr μ H μ' H' ∧ W m' ρ' μ', fun _ _ h => h, ρ1, μ2, E2, S2, ?_⟩
      refine wb.mono ⟨?_, fun _ _ h => Out.trans (F1.trans F2) h, fun _ _ h => OutS.trans (F1.trans F2) h, ?_, fun _ _ _ _ h => OutXE.trans (F1.trans F2) h⟩ q2
      all_goals
        rintro ρ' μ' ⟨m', hm, w'⟩ σ' H' F' S' E'
        exact ⟨m', hm, ρ', μ', E', S', F1.trans (F2.trans F'), w'⟩

/-! ### what is walked -/
structure WI where
  run : Ev → Mu → (List D → (Mu → Prop) → Mu → Prop) → XQ → Prop
  mono : ∀ {ρ : Ev} {μ : Mu} {Q Q' : List D → (Mu → Prop) → Mu → Prop} {X X' : XQ}, (∀ ds chk μ', Q ds chk μ' → Q' ds chk μ') → (∀ C d μ', X C d μ' → X' C d μ') → run ρ μ Q X → run ρ μ Q' X'
/-- the iterator J yields the items ds while chk stands -/
structure ItOk (K : PySem.W.Frag) (μ0 : Mu) (H0 : Hp) (J : It) (ds : List D) (chk : Mu → Prop) : Prop where
  stop : ∀ μ H, Fr μ0 H0 μ H → Sim K μ H → chk μ → J.stop ds.length H
  go : ∀ i d μ H, ds[i]? = some d → Fr μ0 H0 μ H → Sim K μ H → chk μ → J.go i H
  yld : ∀ i d μ H x H', ds[i]? = some d → Fr μ0 H0 μ H → Sim K μ H → chk μ → J.yld i H x H' → Fr μ H μ H' ∧ Sim K μ H' ∧ Rp K H' d x
def LI (X : Cx) (Wx : WX) (tg iter : Expr) (wi : WI) : Prop := PI X tg iter (fun σ H R => ∃ ρ μ, EnvR X.K H ρ σ ∧ Sim X.K μ H ∧ wi.run ρ μ (fun ds chk μ1 => ∀ J H1, Fr μ H μ1 H1 → Sim X.K μ1 H1 → ItOk X.K μ1 H1 J ds chk → R J H1) (OutX X.K Wx σ μ H))
theorem PI.weak {X : Cx} {tg iter : Expr} {t t' : TI} (h : PI X tg iter t) (hw : ∀ σ H R, t' σ H R → t σ H R) : PI X tg iter t' := ⟨fun pins s σ H R I q => h.run pins s σ H R I (hw σ H R q)⟩
/-- a list or a tuple -/
def iSeqR (K : PySem.W.Frag) (tl : TE) : TI := fun σ H R => tl σ H fun x H1 => ∃ a, x = .ref a ∧ (((∃ xs, SqL K H1 a xs) ∧ R (Itl K a) H1) ∨ ((∃ xs, SqT K H1 a xs) ∧ R (Itt K a) H1))
theorem pi_seq {tg l : Expr} {tl : TE} (hl : PE X l tl) : PI X tg l (iSeqR X.K tl) := by
  refine ⟨fun pins s σ H R I h => ?_⟩
  refine thn (hl.run pins s σ H _ I h) fun v s1 ⟨x, H1, I1, r1, q1⟩ => ?_
  obtain ⟨a, e, ⟨⟨xs, hq⟩, q⟩ | ⟨⟨xs, hq⟩, q⟩⟩ := q1
  · subst e
    cases r1
    obtain ⟨its, rv, p, hz⟩ := I1.list hq
    refine wpAny_pyIter_list p.isList ?_
    refine ⟨s1.heap.objs.size, [s1.heap.objs.size], _, _, H1, rfl, I1.kept (t' := s1.toks) fun b o e => Heap.get?_push_of_some _ e, turn_list a _, ⟨_, Heap.get?_push_size _ rfl, rfl, rfl⟩, fun b hb => ?_, q⟩
    have e : b = s1.heap.objs.size := by simpa using hb
    subst e
    exact I1.fpOk (Nat.le_refl _) (I1.hok.fresh (Nat.le_refl _))
  · subst e
    cases r1
    obtain ⟨its, rv, p, hz⟩ := I1.tuple hq
    refine wpAny_pyIter_tuple (show s1.heap.IsTuple a its.toArray from p) ?_
    refine ⟨s1.heap.objs.size, [s1.heap.objs.size], _, _, H1, rfl, I1.kept (t' := s1.toks) fun b o e => Heap.get?_push_of_some _ e, turn_tuple a _, ⟨_, Heap.get?_push_size _ rfl, rfl, rfl⟩, fun b hb => ?_, q⟩
    have e : b = s1.heap.objs.size := by simpa using hb
    subst e
    exact I1.fpOk (Nat.le_refl _) (I1.hok.fresh (Nat.le_refl _))
def fSeq (x : D) (μ : Mu) (Q : List D → (Mu → Prop) → Mu → Prop) : Prop := match x with
  | .tup ds => Q ds (fun _ => True) μ
  | .rls ds => Q ds (fun _ => True) μ
  | .ob a => (match μ a with | some (.lst ds) => Q ds (fun μ' => μ' a = some (.lst ds)) μ | _ => False)
  | _ => False
theorem fSeq_tup {ds : List D} {μ : Mu} {Q : List D → (Mu → Prop) → Mu → Prop} : fSeq (.tup ds) μ Q = Q ds (fun _ => True) μ := rfl
theorem fSeq_rls {ds : List D} {μ : Mu} {Q : List D → (Mu → Prop) → Mu → Prop} : fSeq (.rls ds) μ Q = Q ds (fun _ => True) μ := rfl
theorem fSeq_ob {a : Addr} {μ : Mu} {Q : List D → (Mu → Prop) → Mu → Prop} : fSeq (.ob a) μ Q = (match μ a with | some (.lst ds) => Q ds (fun μ' => μ' a = some (.lst ds)) μ | _ => False) := rfl
theorem fSeq_mono {x : D} {μ : Mu} {Q Q' : List D → (Mu → Prop) → Mu → Prop} (hQ : ∀ ds chk μ', Q ds chk μ' → Q' ds chk μ') (h : fSeq x μ Q) : fSeq x μ Q' := by
  cases x with
  | tup ds => exact hQ _ _ _ h
  | rls ds => exact hQ _ _ _ h
  | ob a =>
    rw [fSeq_ob] at h ⊢
    split at h
    · exact hQ _ _ _ h
    · exact h.elim
  | _ => exact h
def wSeqI (a : WE) : WI := ⟨fun ρ μ Q X => a.run ρ μ (fun x μ1 => fSeq x μ1 Q) X, fun hQ hX h => a.mono (fun _ _ h => fSeq_mono hQ h) hX h⟩
theorem wSeqI_run {a : WE} {ρ : Ev} {μ : Mu} {Q : List D → (Mu → Prop) → Mu → Prop} {X : XQ} : (wSeqI a).run ρ μ Q X = a.run ρ μ (fun x μ1 => fSeq x μ1 Q) X := rfl
theorem itOk_tup {K : PySem.W.Frag} {μ : Mu} {H : Hp} {p : Addr} {vs : List V} {ds : List D} (S : Sim K μ H) (t : SqT K H p vs) (r : Rps K H ds vs) : ItOk K μ H (Itt K p) ds (fun _ => True) where
  stop := fun μ' H' F S' _ => ⟨vs, sqT_keep S F t, by rw [r.length]; exact Nat.le_refl _⟩
  go := fun i d μ' H' e F S' _ => by
    obtain ⟨v, h1, _⟩ := r.get e
    exact ⟨vs, v, sqT_keep S F t, h1⟩
  yld := fun i d μ' H' x H2 e F S' _ y => by
    obtain ⟨rfl, y⟩ := y
    have t' := sqT_keep S F t
    obtain ⟨v, h1, h2⟩ := (Rps.keep S F ds r).get e
    have := y vs t'
    rw [h1] at this; cases this
    exact ⟨Fr.refl _ _, S', h2⟩
theorem itOk_rls {K : PySem.W.Frag} {μ : Mu} {H : Hp} {p : Addr} {vs : List V} {ds : List D} (S : Sim K μ H) (t : SqR K H p vs) (r : Rps K H ds vs) : ItOk K μ H (Itl K p) ds (fun _ => True) where
  stop := fun μ' H' F S' _ => ⟨vs, (sqR_keep S F t).l, by rw [r.length]; exact Nat.le_refl _⟩
  go := fun i d μ' H' e F S' _ => by
    obtain ⟨v, h1, _⟩ := r.get e
    exact ⟨vs, v, (sqR_keep S F t).l, h1⟩
  yld := fun i d μ' H' x H2 e F S' _ y => by
    obtain ⟨rfl, y⟩ := y
    have t' := sqR_keep S F t
    obtain ⟨v, h1, h2⟩ := (Rps.keep S F ds r).get e
    have := y vs t'.l
    rw [h1] at this; cases this
    exact ⟨Fr.refl _ _, S', h2⟩
theorem itOk_lst {K : PySem.W.Frag} {μ : Mu} {H : Hp} {a : Addr} {ds : List D} : ItOk K μ H (Itl K a) ds (fun μ' => μ' a = some (.lst ds)) where
  stop := fun μ' H' F S' c => by
    obtain ⟨vs, h1, r⟩ := S'.lst c
    exact ⟨vs, SqL.of h1, by rw [r.length]; exact Nat.le_refl _⟩
  go := fun i d μ' H' e F S' c => by
    obtain ⟨vs, h1, r⟩ := S'.lst c
    obtain ⟨v, h2, _⟩ := r.get e
    exact ⟨vs, v, SqL.of h1, h2⟩
  yld := fun i d μ' H' x H2 e F S' c y => by
    obtain ⟨rfl, y⟩ := y
    obtain ⟨vs, h1, r⟩ := S'.lst c
    obtain ⟨v, h2, h3⟩ := r.get e
    have := y vs (SqL.of h1)
    rw [h2] at this; cases this
    exact ⟨Fr.refl _ _, S', h3⟩
theorem li_seq {tg e : Expr} {w : WE} (he : LE X Wx e w) : LI X Wx tg e (wSeqI w) := PI.weak (pi_seq he) fun σ H R ⟨ρ, μ, E, S, h⟩ => by
  refine lW.bind E S h (fun x μ1 v H1 F1 S1 E1 r1 h1 => ?_) fun _ _ _ h => h
  cases x with
  | tup ds =>
    obtain ⟨p, vs, rfl, t, r⟩ := rp_tup r1
    exact ⟨p, rfl, .inr ⟨⟨vs, t⟩, h1 _ H1 F1 S1 (itOk_tup S1 t r)⟩⟩
  | rls ds =>
    obtain ⟨p, vs, rfl, t, r⟩ := rp_rls r1
    exact ⟨p, rfl, .inl ⟨⟨vs, t.l⟩, h1 _ H1 F1 S1 (itOk_rls S1 t r)⟩⟩
  | ob a =>
    rw [fSeq_ob] at h1
    split at h1
    · rename_i ds e
      obtain ⟨vs, h2, r⟩ := S1.lst e
      exact ⟨a, rp_ob r1, .inl ⟨⟨vs, SqL.of h2⟩, h1 _ H1 F1 S1 itOk_lst⟩⟩
    · exact h1.elim
  | _ => exact h1.elim
/-- range -/
def rangeD (lo : Int) (n : Nat) : List D := (List.range n).map fun i => D.int (lo + (i : Nat))
theorem rangeD_len (lo : Int) (n : Nat) : (rangeD lo n).length = n := by unfold rangeD; simp
theorem rangeD_get {lo : Int} {n i : Nat} {d : D} (h : (rangeD lo n)[i]? = some d) : i < n ∧ d = .int (lo + (i : Nat)) := by
  unfold rangeD at h
  rw [List.getElem?_map] at h
  by_cases hi : i < n
  · rw [List.getElem?_range hi] at h
    cases h
    exact ⟨hi, rfl⟩
  · rw [List.getElem?_eq_none (by simpa using hi)] at h
    cases h
theorem itOk_rng {K : PySem.W.Frag} {μ : Mu} {H : Hp} {lo : Int} {n : Nat} : ItOk K μ H (Itr lo n) (rangeD lo n) (fun _ => True) where
  stop := fun μ' H' F S' _ => by show n ≤ _; rw [rangeD_len]; exact Nat.le_refl _
  go := fun i d μ' H' e F S' _ => (rangeD_get e).1
  yld := fun i d μ' H' x H2 e F S' _ y => by
    obtain ⟨rfl, rfl⟩ := y
    rw [(rangeD_get e).2]
    exact ⟨Fr.refl _ _, S', rfl⟩
def fRng1 (ds : List D) (μ : Mu) (Q : List D → (Mu → Prop) → Mu → Prop) : Prop := match ds with
  | [.int j] => -(2 ^ 62) ≤ j ∧ j < 2 ^ 62 ∧ Q (rangeD 0 j.toNat) (fun _ => True) μ
  | _ => False
theorem fRng1_inv {ds : List D} {μ : Mu} {Q : List D → (Mu → Prop) → Mu → Prop} (h : fRng1 ds μ Q) : ∃ j, ds = [.int j] ∧ -(2 ^ 62) ≤ j ∧ j < 2 ^ 62 ∧ Q (rangeD 0 j.toNat) (fun _ => True) μ := by
  unfold fRng1 at h
  split at h
  · exact ⟨_, rfl, h⟩
  · exact h.elim
def wRng1 (a : WE) : WI := ⟨fun ρ μ Q X => runAll [a] ρ μ (fun ds μ1 => fRng1 ds μ1 Q) X, fun hQ hX h => runAll_mono (fun _ _ h => by
  obtain ⟨j, rfl, h1, h2, q⟩ := fRng1_inv h
  exact ⟨h1, h2, hQ _ _ _ q⟩) hX h⟩
theorem wRng1_run {a : WE} {ρ : Ev} {μ : Mu} {Q : List D → (Mu → Prop) → Mu → Prop} {X : XQ} : (wRng1 a).run ρ μ Q X = runAll [a] ρ μ (fun ds μ1 => fRng1 ds μ1 Q) X := rfl
theorem fRng1_int {j : Int} {μ : Mu} {Q : List D → (Mu → Prop) → Mu → Prop} : fRng1 [.int j] μ Q = (-(2 ^ 62) ≤ j ∧ j < 2 ^ 62 ∧ Q (rangeD 0 j.toNat) (fun _ => True) μ) := rfl
theorem li_rng1 {tg a : Expr} {wa : WE} {p pos : Pos} (hm : X.mg "range" = none) (ha : LAs X Wx [a] [wa]) (hg : Gl X "range" := by rfl) (hs : starEach [a] X.env = [(false, eval a X.env)] := by rfl) : LI X Wx tg (.Call (.Name "range" p) [a] [] pos) (wRng1 wa) :=
  PI.weak (pi_range1 hg hm ha hs) fun σ H R ⟨ρ, μ, E, S, h⟩ => by
    refine lW.bind (w := wArgs [wa]) E S h (fun xs μ1 vs H1 F1 S1 E1 r1 h1 => ?_) fun _ _ _ h => h
    obtain ⟨j, rfl, h2, h3, q⟩ := fRng1_inv h1
    obtain ⟨v, rfl, r⟩ := rps1 r1
    rw [rp_int r]
    exact ⟨j, rfl, h2, h3, q _ H1 F1 S1 itOk_rng⟩
def fRng2 (ds : List D) (μ : Mu) (Q : List D → (Mu → Prop) → Mu → Prop) : Prop := match ds with
  | [.int i, .int j] => (-(2 ^ 62) ≤ i ∧ i < 2 ^ 62 ∧ -(2 ^ 62) ≤ j ∧ j < 2 ^ 62) ∧ Q (rangeD i (j - i).toNat) (fun _ => True) μ
  | _ => False
theorem fRng2_int {i j : Int} {μ : Mu} {Q : List D → (Mu → Prop) → Mu → Prop} : fRng2 [.int i, .int j] μ Q = ((-(2 ^ 62) ≤ i ∧ i < 2 ^ 62 ∧ -(2 ^ 62) ≤ j ∧ j < 2 ^ 62) ∧ Q (rangeD i (j - i).toNat) (fun _ => True) μ) := rfl
theorem fRng2_inv {ds : List D} {μ : Mu} {Q : List D → (Mu → Prop) → Mu → Prop} (h : fRng2 ds μ Q) : ∃ i j, ds = [.int i, .int j] ∧ (-(2 ^ 62) ≤ i ∧ i < 2 ^ 62 ∧ -(2 ^ 62) ≤ j ∧ j < 2 ^ 62) ∧ Q (rangeD i (j - i).toNat) (fun _ => True) μ := by
  unfold fRng2 at h
  split at h
  · exact ⟨_, _, rfl, h⟩
  · exact h.elim
def wRng2 (a b : WE) : WI := ⟨fun ρ μ Q X => runAll [a, b] ρ μ (fun ds μ1 => fRng2 ds μ1 Q) X, fun hQ hX h => runAll_mono (fun _ _ h => by
  obtain ⟨i, j, rfl, h1, q⟩ := fRng2_inv h
  exact ⟨h1, hQ _ _ _ q⟩) hX h⟩
theorem wRng2_run {a b : WE} {ρ : Ev} {μ : Mu} {Q : List D → (Mu → Prop) → Mu → Prop} {X : XQ} : (wRng2 a b).run ρ μ Q X = runAll [a, b] ρ μ (fun ds μ1 => fRng2 ds μ1 Q) X := rfl
theorem li_rng2 {tg a b : Expr} {wa wb : WE} {p pos : Pos} (hm : X.mg "range" = none) (ha : LAs X Wx [a, b] [wa, wb]) (hg : Gl X "range" := by rfl) (hs : starEach [a, b] X.env = [(false, eval a X.env), (false, eval b X.env)] := by rfl) (hs2 : starEach [b] X.env = [(false, eval b X.env)] := by rfl) : LI X Wx tg (.Call (.Name "range" p) [a, b] [] pos) (wRng2 wa wb) :=
  PI.weak (pi_range2 hg hm ha hs hs2) fun σ H R ⟨ρ, μ, E, S, h⟩ => by
    refine lW.bind (w := wArgs [wa, wb]) E S h (fun xs μ1 vs H1 F1 S1 E1 r1 h1 => ?_) fun _ _ _ h => h
    obtain ⟨i, j, rfl, h2, q⟩ := fRng2_inv h1
    obtain ⟨v, u, rfl, r, r'⟩ := rps2 r1
    rw [rp_int r, rp_int r']
    exact ⟨i, j, rfl, h2, q _ H1 F1 S1 itOk_rng⟩

/-! ### for -/
def forW (g : WG) (b : WS) (chk : Mu → Prop) : List D → PD → Ev → Mu → Prop
  | [], D, ρ, μ => chk μ ∧ D.nx ρ μ
  | d :: ds, D, ρ, μ => chk μ ∧ g.run d ρ μ (fun ρ1 μ1 => b.run (D.turn fun ρ2 μ2 => forW g b chk ds D ρ2 μ2) ρ1 μ1) D.ex
theorem forW_nil {g : WG} {b : WS} {chk : Mu → Prop} {D : PD} {ρ : Ev} {μ : Mu} : forW g b chk [] D ρ μ = (chk μ ∧ D.nx ρ μ) := rfl
theorem forW_cons {g : WG} {b : WS} {chk : Mu → Prop} {d : Sq.D} {ds : List Sq.D} {D : PD} {ρ : Ev} {μ : Mu} : forW g b chk (d :: ds) D ρ μ = (chk μ ∧ g.run d ρ μ (fun ρ1 μ1 => b.run (D.turn fun ρ2 μ2 => forW g b chk ds D ρ2 μ2) ρ1 μ1) D.ex) := rfl
theorem forW_mono {g : WG} {b : WS} {chk : Mu → Prop} {D D' : PD} (h : D.le D') : ∀ {ds : List Sq.D} {ρ : Ev} {μ : Mu}, forW g b chk ds D ρ μ → forW g b chk ds D' ρ μ
  | [], _, _, q => ⟨q.1, h.nx _ _ q.2⟩
  | d :: ds, _, _, q => ⟨q.1, g.mono (fun _ _ q => b.mono (PD.turn_le h fun _ _ q => forW_mono h q) q) h.ex q.2⟩
/-- by an invariant over the turn's number -/
theorem forW_by {g : WG} {b : WS} {chk : Mu → Prop} {D : PD} {ds : List Sq.D} (P : Nat → Ev → Mu → Prop) (hc : ∀ i ρ μ, i ≤ ds.length → P i ρ μ → chk μ)
    (hs : ∀ i d ρ μ, ds[i]? = some d → P i ρ μ → g.run d ρ μ (fun ρ1 μ1 => b.run (D.turn fun ρ2 μ2 => P (i + 1) ρ2 μ2) ρ1 μ1) D.ex) (hd : ∀ ρ μ, P ds.length ρ μ → D.nx ρ μ) {ρ : Ev} {μ : Mu} (h0 : P 0 ρ μ) : forW g b chk ds D ρ μ := by
  have key : ∀ (n : Nat) (i : Nat) (ρ : Ev) (μ : Mu), i + n = ds.length → P i ρ μ → forW g b chk (ds.drop i) D ρ μ := by
    intro n
    induction n with
    | zero =>
      intro i ρ μ hi p
      have e : i = ds.length := by omega
      subst e
      rw [List.drop_length]
      exact ⟨hc _ _ _ (Nat.le_refl _) p, hd _ _ p⟩
    | succ n ih =>
      intro i ρ μ hi p
      have hlt : i < ds.length := by omega
      rw [List.drop_eq_getElem_cons hlt]
      refine ⟨hc _ _ _ (Nat.le_of_lt hlt) p, g.mono (fun ρ1 μ1 q => b.mono (PD.turn_le (PD.le.refl D) fun ρ2 μ2 q => ih (i + 1) ρ2 μ2 (by omega) q) q) (fun _ _ _ _ q => q) (hs i _ ρ μ (by simp [hlt]) p)⟩
  have := key ds.length 0 ρ μ (by omega) h0
  rwa [List.drop_zero] at this
def wFor (wi : WI) (g : WG) (b : WS) : WS := ⟨fun D ρ μ => wi.run ρ μ (fun ds chk μ1 => forW g b chk ds D ρ μ1) (D.ex ρ), fun h q => wi.mono (fun _ _ _ q => forW_mono h q) (fun _ _ _ q => h.ex _ _ _ _ q) q⟩
theorem wFor_run {wi : WI} {g : WG} {b : WS} {D : PD} {ρ : Ev} {μ : Mu} : (wFor wi g b).run D ρ μ = wi.run ρ μ (fun ds chk μ1 => forW g b chk ds D ρ μ1) (D.ex ρ) := rfl
theorem ls_for {tg iter : Expr} {body : List Stmt} {pos : Pos} {wi : WI} {g : WG} {wb : WS} (hp : PassesOwn (model X.prog X.w) X.A X.env X.xe) (hi : LI X Wx tg iter wi) (hg : LG X Wx tg g) (hb : LSs X Wx body wb) (hc : X.calm = true := by rfl)
    (hs : ∀ x, foldedSetIterable iter X.env x = pure x := by intro _; rfl) : LS X Wx (.For tg iter body [] pos) (wFor wi g wb) := PS.weak (ps_for hp hc hi hg hb hs) fun D σ H ⟨ρ, μ, E, S, h⟩ => by
  refine ⟨ρ, μ, E, S, wi.mono (fun ds chk μ1 q J H1 F1 S1 ok => ?_) (fun _ _ _ q => OutXE.x S E q) h⟩
  refine ⟨fun i m σ' H' => ∃ ρ' μ', i + m = ds.length ∧ EnvR X.K H' ρ' σ' ∧ Sim X.K μ' H' ∧ Fr μ1 H1 μ' H' ∧ forW g wb chk (ds.drop i) (outD X.K Wx μ H D) ρ' μ', ⟨ds.length, ρ, μ1, by omega, E.keep S F1, S1, Fr.refl _ _, by rw [List.drop_zero]; exact q⟩, ?_⟩
  rintro i m σ2 H2 ⟨ρ2, μ2, hm, E2, S2, F2, q2⟩
  by_cases hlt : i < ds.length
  · rw [List.drop_eq_getElem_cons hlt] at q2
    obtain ⟨hchk, q2⟩ := q2
    have hd : ds[i]? = some ds[i] := by simp [hlt]
    refine .inr ⟨ok.go i _ μ2 H2 hd F2 S2 hchk, fun σ' H' => ∃ m', m' < m ∧ ∃ ρ' μ', i + 1 + m' = ds.length ∧ EnvR X.K H' ρ' σ' ∧ Sim X.K μ' H' ∧ Fr μ1 H1 μ' H' ∧ forW g wb chk (ds.drop (i + 1)) (outD X.K Wx μ H D) ρ' μ', fun _ _ h => h, fun x H3 y => ?_⟩
    obtain ⟨F3, S3, r3⟩ := ok.yld i _ μ2 H2 x H3 hd F2 S2 hchk y
    refine ⟨ρ2, μ2, ds[i], E2.keep S2 F3, S3, r3, g.mono (fun ρ4 μ4 q4 σ4 H4 F4 S4 E4 => ?_) (fun _ _ _ _ h => OutXE.trans (F1.trans (F2.trans F3)) h) q2⟩
    refine ⟨ρ4, μ4, E4, S4, wb.mono ⟨?_, fun _ _ h => Out.trans (F1.trans (F2.trans (F3.trans F4))) h, fun _ _ h => OutS.trans (F1.trans (F2.trans (F3.trans F4))) h, ?_, fun _ _ _ _ h => OutXE.trans (F1.trans (F2.trans (F3.trans F4))) h⟩ q4⟩
    all_goals
      rintro ρ5 μ5 q5 σ5 H5 F5 S5 E5
      exact ⟨m - 1, by omega, ρ5, μ5, by omega, E5, S5, F2.trans (F3.trans (F4.trans F5)), q5⟩
  · have e : i = ds.length := by omega
    subst e
    rw [List.drop_length] at q2
    exact .inl ⟨ok.stop μ2 H2 F2 S2 q2.1, (show OutS X.K μ H D.nx ρ2 μ2 from q2.2) _ _ (F1.trans F2) S2 E2⟩
end
end Sq

/-! Comprehensions, methods, keywords, defs. -/
namespace Sq
open PySem PySem.Spec PyProof.Rows L2

/-! ### tuples are kept -/
def TupK (K : PySem.W.Frag) (H H' : Hp) : Prop := (∀ p vs, SqT K H p vs → SqT K H' p vs) ∧ ∀ p vs, SqR K H p vs → SqR K H' p vs
mutual
theorem Rp.keepT {K : PySem.W.Frag} {H H' : Hp} (T : TupK K H H') : ∀ (d : D) {v : V}, Rp K H d v → Rp K H' d v
  | .non, _, h => h
  | .bl _, _, h => h
  | .int _, _, h => h
  | .str _, _, h => h
  | .tup ds, _, h => by
    unfold Rp at h ⊢
    obtain ⟨p, vs, e, q, r⟩ := h
    exact ⟨p, vs, e, T.1 p vs q, Rps.keepT T ds r⟩
  | .ob _, _, h => h
  | .rls ds, _, h => by
    unfold Rp at h ⊢
    obtain ⟨p, vs, e, q, r⟩ := h
    exact ⟨p, vs, e, T.2 p vs q, Rps.keepT T ds r⟩
theorem Rps.keepT {K : PySem.W.Frag} {H H' : Hp} (T : TupK K H H') : ∀ (ds : List D) {vs : List V}, Rps K H ds vs → Rps K H' ds vs
  | [], _, h => h
  | d :: ds, _, h => by
    unfold Rps at h ⊢
    obtain ⟨w, ws, e, a, b⟩ := h
    exact ⟨w, ws, e, Rp.keepT T d a, Rps.keepT T ds b⟩
end
theorem tupK_lst {K : PySem.W.Frag} {H : Hp} {a : Addr} {vs : List V} {o : HO} (h : H a = some (.lst vs)) : TupK K H (upd H a o) := by
 refine ⟨fun p us q => ?_, fun p us q => ?_⟩
 · rcases q with (q | ⟨u, q⟩) | q
   · exact .inl (.inl (by rw [upd_ne (fun z => by rw [z, h] at q; cases q)]; exact q))
   · exact .inl (.inr ⟨u, by rw [upd_ne (fun z => by rw [z, h] at q; cases q)]; exact q⟩)
   · exact .inr q
 · rcases q with ⟨u, q⟩ | q
   · exact .inl ⟨u, by rw [upd_ne (fun z => by rw [z, h] at q; cases q)]; exact q⟩
   · exact .inr q
theorem TupK.of_fr {K : PySem.W.Frag} {μ μ' : Mu} {H H' : Hp} (S : Sim K μ H) (F : Fr μ H μ' H') : TupK K H H' := ⟨fun _ _ q => sqT_keep S F q, fun _ _ q => sqR_keep S F q⟩
theorem EnvR.keepT {K : PySem.W.Frag} {H H' : Hp} (T : TupK K H H') : ∀ {ρ : Ev} {σ : L2.St}, EnvR K H ρ σ → EnvR K H' ρ σ
  | [], _, h => h
  | e :: ρ, _, h => by
    unfold EnvR at h ⊢
    obtain ⟨s, σ', rfl, a, b⟩ := h
    refine ⟨s, σ', rfl, fun d q => ?_, EnvR.keepT T b⟩
    obtain ⟨v, h1, h2⟩ := a d q
    exact ⟨v, h1, Rp.keepT T d h2⟩
/-- a list that is not in the store is written -/
theorem sim_out {K : PySem.W.Frag} {μ : Mu} {H : Hp} {a : Addr} {vs us : List V} (S : Sim K μ H) (h : H a = some (.lst vs)) (n : μ a = none) : Sim K μ (upd H a (.lst us)) := ⟨fun b o e => by
  have hb : b ≠ a := ne_free e n
  have q := S.at_ b o e
  cases o with
  | lst ds =>
    obtain ⟨ws, h1, r⟩ := q
    exact ⟨ws, by rw [upd_ne hb]; exact h1, Rps.keepT (tupK_lst h) ds r⟩
  | exc C d =>
    obtain ⟨dx, v, h1, h2, r⟩ := q
    exact ⟨dx, v, by rw [upd_ne hb]; exact h1, by rw [upd_ne (fun z => by rw [z, h] at h2; cases h2)]; exact h2, Rp.keepT (tupK_lst h) d r⟩⟩

/-! ### comprehensions -/
abbrev XF : XQ := fun _ _ _ => False
abbrev W0 : WX := fun _ _ _ _ => False
def wipeE (ρ : Ev) : List Nat → Ev
  | [] => ρ
  | v :: vs => (wipeE ρ vs).set v none
theorem wipe_env {K : PySem.W.Frag} {H : Hp} {ρ : Ev} {σ : L2.St} (E : EnvR K H ρ σ) : ∀ vs, EnvR K H (wipeE ρ vs) (wipe σ vs)
  | [] => E
  | v :: vs => (wipe_env E vs).wipe v none
theorem wipe_get (σ : L2.St) (j : Nat) : ∀ vs : List Nat, (wipe σ vs)[j]? = if j ∈ vs then (if j < σ.length then some none else none) else σ[j]?
  | [] => by simp [wipe]
  | v :: vs => by
    unfold wipe
    rw [List.getElem?_set, wipe_get σ j vs, wipe_length]
    by_cases h : v = j
    · subst h
      simp
    · have h' : ¬ j = v := fun e => h e.symm
      simp [h, h']
theorem wipe_set {σ : L2.St} {i : Nat} {s : Option V} {vs : List Nat} (hi : i ∈ vs) : wipe (σ.set i s) vs = wipe σ vs := by
  apply List.ext_getElem?
  intro j
  rw [wipe_get, wipe_get, List.length_set]
  by_cases h : j ∈ vs
  · simp [h]
  · have : i ≠ j := fun e => h (e ▸ hi)
    simp [h, List.getElem?_set_ne this]
theorem wipe_wipe (σ : L2.St) (vs : List Nat) : wipe (wipe σ vs) vs = wipe σ vs := by
  apply List.ext_getElem?
  intro j
  rw [wipe_get, wipe_get, wipe_length]
  by_cases h : j ∈ vs <;> simp [h]
/-- a comprehension's target: a name, or names that a tuple goes to -/
inductive CT where
  | one (i : Nat) | many (is : List Nat)
def CT.slots : CT → List Nat
  | .one i => [i]
  | .many is => is
def setAll : List Nat → List D → Ev → Option Ev
  | [], [], ρ => some ρ
  | i :: is, d :: ds, ρ => setAll is ds (ρ.set i (some d))
  | _, _, _ => none
def CT.set (t : CT) (d : D) (ρ : Ev) : Option Ev := match t with
  | .one i => some (ρ.set i (some d))
  | .many is => (match d with | .tup ds => setAll is ds ρ | _ => none)
theorem CT.set_one {i : Nat} {d : D} {ρ : Ev} : (CT.one i).set d ρ = some (ρ.set i (some d)) := rfl
theorem CT.set_many {is : List Nat} {ds : List D} {ρ : Ev} : (CT.many is).set (.tup ds) ρ = setAll is ds ρ := rfl
def gNames : List Nat → TGs
  | [] => gNil
  | i :: is => gCons (gName i) (gNames is)
def CT.tg (K : PySem.W.Frag) : CT → TG
  | .one i => gName i
  | .many is => gTup K is.length (gNames is)
theorem gNames_ok {K : PySem.W.Frag} {H : Hp} {Q : L2.St → Hp → Prop} (vs : List Nat) : ∀ {is : List Nat} {ds : List D} {us : List V} {ρ ρ1 : Ev} {σ : L2.St}, (∀ i ∈ is, i ∈ vs) → Rps K H ds us → EnvR K H ρ σ → setAll is ds ρ = some ρ1 →
    (∀ σ1, EnvR K H ρ1 σ1 → wipe σ1 vs = wipe σ vs → Q σ1 H) → gNames is us σ H Q
  | [], [], _, _, _, _, _, R, E, h, k => by
    unfold Rps at R
    cases h
    exact ⟨R, k _ E rfl⟩
  | i :: is, d :: ds, _, _, _, _, hi, R, E, h, k => by
    unfold Rps at R
    obtain ⟨w, ws, rfl, r1, r2⟩ := R
    refine ⟨w, ws, rfl, gNames_ok vs (fun j hj => hi j (List.mem_cons_of_mem _ hj)) r2 (E.set r1 i) h fun σ1 E1 e => k σ1 E1 ?_⟩
    rw [e, wipe_set (hi i List.mem_cons_self)]
  | [], _ :: _, _, _, _, _, _, _, _, h, _ => by cases h
  | _ :: _, [], _, _, _, _, _, _, _, h, _ => by cases h
theorem setAll_len : ∀ {is : List Nat} {ds : List D} {ρ ρ1 : Ev}, setAll is ds ρ = some ρ1 → ds.length = is.length
  | [], [], _, _, _ => rfl
  | _ :: is, _ :: ds, _, _, h => by simp [setAll_len (is := is) (ds := ds) h]
  | [], _ :: _, _, _, h => by cases h
  | _ :: _, [], _, _, h => by cases h
theorem CT.ok {K : PySem.W.Frag} {H : Hp} {Q : L2.St → Hp → Prop} {t : CT} {d : D} {v : V} {ρ ρ1 : Ev} {σ : L2.St} (R : Rp K H d v) (E : EnvR K H ρ σ) (h : t.set d ρ = some ρ1) (k : ∀ σ1, EnvR K H ρ1 σ1 → wipe σ1 t.slots = wipe σ t.slots → Q σ1 H) : t.tg K v σ H Q := by
  cases t with
  | one i =>
    cases h
    exact k _ (E.set R i) (wipe_set (by simp [CT.slots]))
  | many is =>
    cases d <;> first
      | (unfold CT.set at h; cases h; done)
      | (obtain ⟨p, us, rfl, q, r⟩ := rp_tup R
         exact ⟨p, us, rfl, q, by rw [r.length]; exact setAll_len h, gNames_ok is (fun _ h => h) r E h k⟩)
def lcG (t : CT) (tt : WT) (te : WE) (chk : Mu → Prop) : List D → List D → Ev → Mu → (List D → Mu → Prop) → Prop
  | [], acc, _, μ, k => chk μ ∧ k acc μ
  | d :: ds, acc, ρ, μ, k => chk μ ∧ (match t.set d ρ with
    | some ρ1 => tt.run ρ1 μ (fun b μ1 => if b = true then te.run ρ1 μ1 (fun y μ2 => lcG t tt te chk ds (acc ++ [y]) ρ μ2 k) XF else lcG t tt te chk ds acc ρ μ1 k) XF
    | none => False)
theorem lcG_nil {t : CT} {tt : WT} {te : WE} {chk : Mu → Prop} {acc : List D} {ρ : Ev} {μ : Mu} {k : List D → Mu → Prop} : lcG t tt te chk [] acc ρ μ k = (chk μ ∧ k acc μ) := rfl
theorem lcG_cons {t : CT} {tt : WT} {te : WE} {chk : Mu → Prop} {d : D} {ds acc : List D} {ρ : Ev} {μ : Mu} {k : List D → Mu → Prop} : lcG t tt te chk (d :: ds) acc ρ μ k = (chk μ ∧ (match t.set d ρ with
    | some ρ1 => tt.run ρ1 μ (fun b μ1 => if b = true then te.run ρ1 μ1 (fun y μ2 => lcG t tt te chk ds (acc ++ [y]) ρ μ2 k) XF else lcG t tt te chk ds acc ρ μ1 k) XF
    | none => False)) := rfl
theorem lcG_mono {t : CT} {tt : WT} {te : WE} {chk : Mu → Prop} {k k' : List D → Mu → Prop} (hk : ∀ acc μ, k acc μ → k' acc μ) : ∀ {ds acc : List D} {ρ : Ev} {μ : Mu}, lcG t tt te chk ds acc ρ μ k → lcG t tt te chk ds acc ρ μ k'
  | [], _, _, _, h => ⟨h.1, hk _ _ h.2⟩
  | d :: ds, acc, ρ, μ, h => by
    refine ⟨h.1, ?_⟩
    have h2 := h.2
    revert h2
    cases t.set d ρ with
    | none => exact id
    | some ρ1 =>
      exact fun h2 => tt.mono (fun b μ1 q => by
        cases b with
        | true => exact te.mono (fun y μ2 q => lcG_mono hk q) (fun _ _ _ q => q) q
        | false => exact lcG_mono hk q) (fun _ _ _ q => q) h2
def wLc (wi : WI) (t : CT) (tt : WT) (te : WE) : WE := ⟨fun ρ μ Q X => wi.run ρ μ (fun ds chk μ1 => ds.length ≤ sizeLine ∧ lcG t tt te chk ds [] (wipeE ρ t.slots) μ1 fun acc μ2 => ∀ p, μ2 p = none → Q (.ob p) (mset μ2 p (.lst acc))) X,
  fun hQ hX h => wi.mono (fun _ _ _ q => ⟨q.1, lcG_mono (fun _ _ q p hp => hQ _ _ (q p hp)) q.2⟩) hX h⟩
theorem wLc_run {wi : WI} {t : CT} {tt : WT} {te : WE} {ρ : Ev} {μ : Mu} {Q : PQ} {X : XQ} : (wLc wi t tt te).run ρ μ Q X = wi.run ρ μ (fun ds chk μ1 => ds.length ≤ sizeLine ∧ lcG t tt te chk ds [] (wipeE ρ t.slots) μ1 fun acc μ2 => ∀ p, μ2 p = none → Q (.ob p) (mset μ2 p (.lst acc))) X := rfl
/-- no test -/
def wYes : WT := ⟨fun _ μ Q _ => Q true μ, fun hQ _ h => hQ _ _ h⟩
theorem wYes_run {ρ : Ev} {μ : Mu} {Q : Bool → Mu → Prop} {X : XQ} : wYes.run ρ μ Q X = Q true μ := rfl
def LPs (X : Cx) (ifs : List Expr) (w : WT) : Prop := PTs X ifs (lT X.K W0 w)
theorem lps_nil {X : Cx} : LPs X [] wYes := ⟨fun pins s σ H Q I ⟨ρ, μ, E, S, h⟩ => pts_nil.run pins s σ H Q I ((show Out (fun (_ : Hp) (b c : Bool) => b = c) X.K μ H Q true μ from h) _ _ (Fr.refl μ H) S rfl)⟩
theorem lps_one {X : Cx} {c : Expr} {w : WT} (h : LT X W0 c w) : LPs X [c] w := pts_one h
section
variable {X : Cx} {Wx : WX}
theorem wLc_t {wi : WI} {t : CT} {tt : WT} {te : WE} {vs : List Nat} (hv : vs = t.slots) : ∀ σ H Q, lE X.K Wx (wLc wi t tt te) σ H Q →
    tLc (fun σ H R => ∃ ρ μ, EnvR X.K H ρ σ ∧ Sim X.K μ H ∧ wi.run ρ μ (fun ds chk μ1 => ∀ J H1, Fr μ H μ1 H1 → Sim X.K μ1 H1 → ItOk X.K μ1 H1 J ds chk → R J H1) (OutX X.K Wx σ μ H)) (t.tg X.K) (lT X.K W0 tt) (lE X.K W0 te) vs σ H Q := fun σ H Q ⟨ρ, μ, E, S, h⟩ => by
  subst hv
  refine ⟨ρ, μ, E, S, wi.mono (fun ds chk μ1 q J H1 F1 S1 ok D hD => ?_) (fun _ _ _ q => q) h⟩
  obtain ⟨hlen, q⟩ := q
  have Ew : EnvR X.K H1 (wipeE ρ t.slots) (wipe σ t.slots) := wipe_env (E.keep S F1) _
  have nD : μ1 D = none := S1.free hD
  refine ⟨fun i m H' => ∃ acc vacc μ', i + m = ds.length ∧ acc.length ≤ i ∧ Sim X.K μ' H' ∧ Fr μ1 H1 μ' H' ∧ H' D = some (.lst vacc) ∧ μ' D = none ∧ Rps X.K H' acc vacc ∧ lcG t tt te chk (ds.drop i) acc (wipeE ρ t.slots) μ' fun acc μ2 => ∀ p, μ2 p = none → Out (Rp X.K) X.K μ H Q (.ob p) (mset μ2 p (.lst acc)),
    ⟨ds.length, [], [], μ1, by omega, Nat.le_refl _, sim_tup S1 hD, fr_tup hD, upd_same, nD, rfl, by rw [List.drop_zero]; exact q⟩, ?_⟩
  rintro i m H2 ⟨acc, vacc, μ2, hm, hl, S2, F2, hD2, nD2, R2, q2⟩
  by_cases hlt : i < ds.length
  · rw [List.drop_eq_getElem_cons hlt] at q2
    obtain ⟨hchk, q2⟩ := q2
    have hd : ds[i]? = some ds[i] := by simp [hlt]
    refine .inr ⟨ok.go i _ μ2 H2 hd F2 S2 hchk, fun H' => ∃ m', m' < m ∧ ∃ acc vacc μ', i + 1 + m' = ds.length ∧ acc.length ≤ i + 1 ∧ Sim X.K μ' H' ∧ Fr μ1 H1 μ' H' ∧ H' D = some (.lst vacc) ∧ μ' D = none ∧ Rps X.K H' acc vacc ∧ lcG t tt te chk (ds.drop (i + 1)) acc (wipeE ρ t.slots) μ' fun acc μ2 => ∀ p, μ2 p = none → Out (Rp X.K) X.K μ H Q (.ob p) (mset μ2 p (.lst acc)), fun _ h => h, fun x H3 y => ?_⟩
    obtain ⟨F3, S3, r3⟩ := ok.yld i _ μ2 H2 x H3 hd F2 S2 hchk y
    have Ew3 : EnvR X.K H3 (wipeE ρ t.slots) (wipe σ t.slots) := (Ew.keep S1 F2).keep S2 F3
    cases hset : t.set ds[i] (wipeE ρ t.slots) with
    | none => rw [hset] at q2; exact q2.elim
    | some ρ1 =>
      rw [hset] at q2
      refine CT.ok r3 Ew3 hset fun σ1 E1 ew => ⟨by rw [ew, wipe_wipe], ?_⟩
      have hD3 := F3 D _ hD2 (fun _ z => by cases z) nD2
      refine lW.bind E1 S3 q2 (fun b μ4 b' H4 F4 S4 E4 r4 q4 => ?_) fun _ _ _ z => z.elim
      subst r4
      have hD4 := F4 D _ hD3.1 (fun _ z => by cases z) hD3.2
      have R4 : Rps X.K H4 acc vacc := Rps.keep S3 F4 acc (Rps.keep S2 F3 acc R2)
      cases b with
      | false => exact iteF ⟨m - 1, by omega, acc, vacc, μ4, by omega, by omega, S4, F2.trans (F3.trans F4), hD4.1, hD4.2, R4, q4⟩
      | true =>
        refine iteT (lW.bind E4 S4 q4 (fun y μ5 v5 H5 F5 S5 E5 r5 q5 => ?_) fun _ _ _ z => z.elim)
        have hD5 := F5 D _ hD4.1 (fun _ z => by cases z) hD4.2
        have R5 : Rps X.K H5 acc vacc := Rps.keep S4 F5 acc R4
        refine ⟨vacc, hD5.1, by rw [R5.length]; omega, m - 1, by omega, acc ++ [y], vacc ++ [v5], μ5, by omega, by rw [List.length_append]; exact Nat.succ_le_succ hl, sim_out S5 hD5.1 hD5.2, ?_, upd_same, hD5.2, ?_, q5⟩
        · have FF := F2.trans (F3.trans (F4.trans F5))
          intro b o e n z
          have := FF b o e n z
          exact ⟨by rw [upd_ne (ne_of_none e hD)]; exact this.1, this.2⟩
        · exact Rps.keepT (tupK_lst hD5.1) _ (R5.append (by unfold Rps; exact ⟨_, _, rfl, r5, rfl⟩))
  · have e : i = ds.length := by omega
    subst e
    rw [List.drop_length] at q2
    obtain ⟨hchk, q2⟩ := q2
    refine .inl ⟨ok.stop μ2 H2 F2 S2 hchk, q2 D nD2 (.ref D) H2 ?_ ⟨fun b o e => ?_⟩ rfl⟩
    · intro b o e n z
      have h1 := F1 b o e n z
      have h2 := F2 b o h1.1 n h1.2
      exact ⟨h2.1, by rw [mset_ne (ne_of_none h1.1 hD)]; exact h2.2⟩
    · by_cases hb : b = D
      · subst hb
        rw [mset_same] at e; cases e
        exact ⟨vacc, hD2, R2⟩
      · rw [mset_ne hb] at e
        exact S2.at_ b o e
theorem le_lc {elt tg iter : Expr} {ifs : List Expr} {scope : Scope} {own : List (Str × Nat)} {pos : Pos} {wi : WI} {t : CT} {tt : WT} {te : WE} (hN : X.N.Nodup) (hi : LI X Wx tg iter wi) (ok : BlkOk X.N X.env.scope scope own) (hv : own.map (·.2) = t.slots)
    (hg : ∀ (s : Shared) (H : Hp) (C : Addr) (cl : List (Str × Addr)) (fp : List Addr), PG (X.blk s H scope (compEnvC scope cl C X.env) fp) tg (t.tg X.K)) (ht : ∀ (s : Shared) (H : Hp) (C : Addr) (cl : List (Str × Addr)) (fp : List Addr), LPs (X.blk s H scope (compEnvC scope cl C X.env) fp) ifs tt)
    (he : ∀ (s : Shared) (H : Hp) (C : Addr) (cl : List (Str × Addr)) (fp : List Addr), LE (X.blk s H scope (compEnvC scope cl C X.env) fp) W0 elt te) (hc : X.calm = true := by rfl) (hs : ∀ x, foldedSetIterable iter X.env x = pure x := by intro _; rfl) :
    LE X Wx (.ListComp elt [⟨tg, iter, ifs, 0⟩] scope pos) (wLc wi t tt te) := PE.weak (pe_lc (tt := lT X.K W0 tt) (te := lE X.K W0 te) hc hN hi ok hg ht he hs) (wLc_t hv)
/-- name = [..] of a plain local name -/
theorem ls_setLc (i : Nat) {y : Str} {py : Pos} {elt tg iter : Expr} {ifs : List Expr} {scope : Scope} {own : List (Str × Nat)} {pos spos : Pos} {wi : WI} {t : CT} {tt : WT} {te : WE} (hN : X.N.Nodup) (hi : LI X Wx tg iter wi) (ok : BlkOk X.N X.env.scope scope own) (hv : own.map (·.2) = t.slots)
    (hg : ∀ (s : Shared) (H : Hp) (C : Addr) (cl : List (Str × Addr)) (fp : List Addr), PG (X.blk s H scope (compEnvC scope cl C X.env) fp) tg (t.tg X.K)) (ht : ∀ (s : Shared) (H : Hp) (C : Addr) (cl : List (Str × Addr)) (fp : List Addr), LPs (X.blk s H scope (compEnvC scope cl C X.env) fp) ifs tt)
    (he : ∀ (s : Shared) (H : Hp) (C : Addr) (cl : List (Str × Addr)) (fp : List Addr), LE (X.blk s H scope (compEnvC scope cl C X.env) fp) W0 elt te)
    (hsw : swapsWith (.ListComp elt [⟨tg, iter, ifs, 0⟩] scope pos) (some (.Name y py)) spos.line X.env = pure true := by exact sw_true rfl rfl rfl (by decide +kernel)) (hy : X.N[i]? = some y := by rfl) (hyl : X.env.scope.names.lookup y = some .local := by rfl) (hc : X.calm = true := by rfl) (hs : ∀ x, foldedSetIterable iter X.env x = pure x := by intro _; rfl) :
    LS X Wx (.Assign [.Name y py] (.ListComp elt [⟨tg, iter, ifs, 0⟩] scope pos) spos) (wSet i (wLc wi t tt te)) := PS.weak (ps_setLc (tt := lT X.K W0 tt) (te := lE X.K W0 te) hc hN hy hyl hsw hi ok hg ht he hs) fun D σ H h => by
  obtain ⟨ρ, μ, E, S, h⟩ := h
  refine wLc_t (Wx := Wx) hv σ H _ ⟨ρ, μ, E, S, ?_⟩
  exact (wLc wi t tt te).mono (Q := fun d μ1 => OutS X.K μ H D.nx (ρ.set i (some d)) μ1) (fun x μ1 q v H1 F1 S1 r1 => q _ _ F1 S1 ((E.keep S F1).set r1 i)) (fun _ _ _ q => OutXE.x S E q) h
/-- the target's places -/
theorem pg_one {X : Cx} (i : Nat) {x : Str} {pos : Pos} {K : PySem.W.Frag} (hN : X.N.Nodup) (hi : X.N[i]? = some x := by rfl) (hx : Loc X.env.scope x := by first | exact Or.inl rfl | exact Or.inr rfl) (hf : X.fn x = true ∨ X.env.scope.names.lookup x = some .local := by first | exact .inl rfl | exact .inr rfl) : PG X (.Name x pos) ((CT.one i).tg K) := pg_name hN hi hx hf
theorem pg_many {X : Cx} {es : List Expr} {k : Nat} {pos : Pos} {is : List Nat} (h : PGs X es (gNames is)) (hc : X.calm = true := by rfl) (hn : (assignEach es X.env).length = is.length := by rfl) (hst : (assignEach es X.env).findIdx? (·.1) = none := by rfl) : PG X (.Tuple es k pos) ((CT.many is).tg X.K) := pg_tup hc h hn hst
theorem pgn_nil {X : Cx} : PGs X [] (gNames []) := pgs_nil
theorem pgn_cons {X : Cx} (i : Nat) {x : Str} {pos : Pos} {es : List Expr} {is : List Nat} (hN : X.N.Nodup) (h : PGs X es (gNames is)) (hi : X.N[i]? = some x := by rfl) (hx : Loc X.env.scope x := by first | exact Or.inl rfl | exact Or.inr rfl) (hf : X.fn x = true ∨ X.env.scope.names.lookup x = some .local := by first | exact .inl rfl | exact .inr rfl)
    (hs : (assignEach (.Name x pos :: es) X.env).map (·.2) = assign (.Name x pos) X.env :: (assignEach es X.env).map (·.2) := by rfl) : PGs X (.Name x pos :: es) (gNames (i :: is)) := pgs_cons (pg_name hN hi hx hf) h hs

/-! ### methods of lists -/
structure GM where
  run : Addr → List D → List D → Mu → PQ → Prop
  mono : ∀ {a xs ds μ Q Q'}, (∀ d μ', Q d μ' → Q' d μ') → run a xs ds μ Q → run a xs ds μ Q'
/-- of the list xs at a with the arguments ds -/
def MtD (X : Cx) (id : String) (g : GM) : Prop := ∃ r : V → List V → Hp → VK → Prop, MtR X id r ∧ ∀ a xs ds μ H vs Q, Sim X.K μ H → μ a = some (.lst xs) → Rps X.K H ds vs → g.run a xs ds μ (Out (Rp X.K) X.K μ H Q) → r (.ref a) vs H Q
def onLst (x : D) (μ : Mu) (f : Addr → List D → Prop) : Prop := match x with
  | .ob a => (match μ a with | some (.lst xs) => f a xs | _ => False)
  | _ => False
theorem onLst_ob {a : Addr} {μ : Mu} {f : Addr → List D → Prop} : onLst (.ob a) μ f = (match μ a with | some (.lst xs) => f a xs | _ => False) := rfl
theorem onLst_inv {x : D} {μ : Mu} {f : Addr → List D → Prop} (h : onLst x μ f) : ∃ a xs, x = .ob a ∧ μ a = some (.lst xs) ∧ f a xs := by
  unfold onLst at h
  split at h
  · split at h
    · exact ⟨_, _, rfl, by assumption, h⟩
    · exact h.elim
  · exact h.elim
theorem onLst_mk {a : Addr} {xs : List D} {μ : Mu} {f : Addr → List D → Prop} (h : μ a = some (.lst xs)) (q : f a xs) : onLst (.ob a) μ f := by
  rw [onLst_ob, h]
  exact q
theorem onLst_mono {x : D} {μ : Mu} {f f' : Addr → List D → Prop} (h : ∀ a xs, f a xs → f' a xs) (q : onLst x μ f) : onLst x μ f' := by
  obtain ⟨a, xs, rfl, e, q⟩ := onLst_inv q
  exact onLst_mk e (h _ _ q)
def wMt (g : GM) (wo : WE) (ws : List WE) : WE := ⟨fun ρ μ Q X => wo.run ρ μ (fun o μ1 => onLst o μ1 fun a _ => runAll ws ρ μ1 (fun ds μ2 => onLst (.ob a) μ2 fun a xs => g.run a xs ds μ2 Q) X) X,
  fun hQ hX h => wo.mono (fun _ _ h => onLst_mono (fun _ _ h => runAll_mono (fun _ _ h => onLst_mono (fun _ _ h => g.mono hQ h) h) hX h) h) hX h⟩
theorem wMt_run {g : GM} {wo : WE} {ws : List WE} {ρ : Ev} {μ : Mu} {Q : PQ} {X : XQ} : (wMt g wo ws).run ρ μ Q X = wo.run ρ μ (fun o μ1 => onLst o μ1 fun a _ => runAll ws ρ μ1 (fun ds μ2 => onLst (.ob a) μ2 fun a xs => g.run a xs ds μ2 Q) X) X := rfl
theorem le_mt {g : GM} {name : Str} {id : String} {o e : Expr} {es : List Expr} {apos cpos : Pos} {wo : WE} {ws : List WE} (slot : Slot "list" name id) (hty : typeOf (.builtin id) = pure (.type "method_descriptor")) (hm : MtD X id g) (ho : LE X Wx o wo) (ha : LAs X Wx (e :: es) ws)
    (hb : ∀ {to : TE} {t : TA} {r : V → List V → Hp → VK → Prop}, MtR X id r → PE X o to → PA X (e :: es) t → PE X (.Call (.Attribute o name apos) (e :: es) [] cpos) (tBM X.K "list" r to t)) : LE X Wx (.Call (.Attribute o name apos) (e :: es) [] cpos) (wMt g wo ws) := by
  obtain ⟨r, h1, h2⟩ := hm
  refine PE.weak (hb h1 ho ha) fun σ H Q ⟨ρ, μ, E, S, h⟩ => ?_
  refine lW.bind E S h (fun x μ1 v H1 F1 S1 E1 r1 q1 => ?_) fun _ _ _ h => h
  obtain ⟨a, xs, rfl, ea, q1⟩ := onLst_inv q1
  rw [rp_ob r1]
  obtain ⟨vs, hv, _⟩ := S1.lst ea
  refine ⟨.inl ⟨rfl, _, SqL.of hv⟩, ?_⟩
  refine lW.bind (w := wArgs ws) E1 S1 q1 (fun ds μ2 us H2 F2 S2 E2 r2 q2 => ?_) fun _ _ _ h => OutX.trans F1 h
  obtain ⟨a', xs', e', ea', q2⟩ := onLst_inv q2
  cases e'
  exact h2 a xs' ds μ2 H2 us Q S2 ea' r2 (g.mono (fun _ _ q => q.trans (F1.trans F2)) q2)
def fAppend (a : Addr) (xs ds : List D) (μ : Mu) (Q : PQ) : Prop := match ds with | [y] => xs.length < sizeLine ∧ Q .non (mset μ a (.lst (xs ++ [y]))) | _ => False
theorem fAppend_run {a : Addr} {xs : List D} {y : D} {μ : Mu} {Q : PQ} : fAppend a xs [y] μ Q = (xs.length < sizeLine ∧ Q .non (mset μ a (.lst (xs ++ [y])))) := rfl
theorem fAppend_inv {a : Addr} {xs ds : List D} {μ : Mu} {Q : PQ} (h : fAppend a xs ds μ Q) : ∃ y, ds = [y] ∧ xs.length < sizeLine ∧ Q .non (mset μ a (.lst (xs ++ [y]))) := by
  unfold fAppend at h
  split at h
  · exact ⟨_, rfl, h⟩
  · exact h.elim
def gAppend : GM := ⟨fAppend, fun {a xs ds μ Q Q'} hQ h => by
  obtain ⟨y, rfl, h1, h2⟩ := fAppend_inv h
  exact ⟨h1, hQ _ _ h2⟩⟩
theorem md_append : MtD X "list.append" gAppend := ⟨rAppend, mt_append, fun a xs ds μ H vs Q S ea R h => by
  obtain ⟨y, rfl, h1, h2⟩ := fAppend_inv h
  obtain ⟨v, rfl, r⟩ := rps1 R
  obtain ⟨us, hv, r2⟩ := S.lst ea
  have F : Fr μ H (mset μ a (.lst (xs ++ [y]))) (upd H a (.lst (us ++ [v]))) := fr_set ea
  exact ⟨a, us, v, rfl, rfl, hv, by rw [r2.length]; exact h1, h2 _ _ F (sim_lst S F (r2.append (by unfold Rps; exact ⟨_, _, rfl, r, rfl⟩))) rfl⟩⟩
def fExtend (a : Addr) (xs ds : List D) (μ : Mu) (Q : PQ) : Prop := match ds with | [y] => onLst y μ (fun _ zs => xs.length + zs.length ≤ sizeLine ∧ Q .non (mset μ a (.lst (xs ++ zs)))) | _ => False
theorem fExtend_run {a : Addr} {xs : List D} {y : D} {μ : Mu} {Q : PQ} : fExtend a xs [y] μ Q = onLst y μ (fun _ zs => xs.length + zs.length ≤ sizeLine ∧ Q .non (mset μ a (.lst (xs ++ zs)))) := rfl
theorem fExtend_inv {a : Addr} {xs ds : List D} {μ : Mu} {Q : PQ} (h : fExtend a xs ds μ Q) : ∃ b zs, ds = [.ob b] ∧ μ b = some (.lst zs) ∧ xs.length + zs.length ≤ sizeLine ∧ Q .non (mset μ a (.lst (xs ++ zs))) := by
  unfold fExtend at h
  split at h
  · obtain ⟨b, zs, rfl, e, q⟩ := onLst_inv h
    exact ⟨b, zs, rfl, e, q⟩
  · exact h.elim
def gExtend : GM := ⟨fExtend, fun {a xs ds μ Q Q'} hQ h => by
  obtain ⟨b, zs, rfl, e, h1, h2⟩ := fExtend_inv h
  exact onLst_mk (f := fun _ zs => xs.length + zs.length ≤ sizeLine ∧ Q' .non (mset μ a (.lst (xs ++ zs)))) e ⟨h1, hQ _ _ h2⟩⟩
theorem md_extend : MtD X "list.extend" gExtend := ⟨rExtend, mt_extend, fun a xs ds μ H vs Q S ea R h => by
  obtain ⟨b, zs, rfl, e, h1, h2⟩ := fExtend_inv h
  obtain ⟨v, rfl, r⟩ := rps1 R
  obtain ⟨us, hv, r2⟩ := S.lst ea
  obtain ⟨us', hv', r2'⟩ := S.lst e
  have F : Fr μ H (mset μ a (.lst (xs ++ zs))) (upd H a (.lst (us ++ us'))) := fr_set ea
  exact ⟨a, b, us, us', rfl, by rw [rp_ob r], hv, hv', by rw [r2.length, r2'.length]; exact h1, h2 _ _ F (sim_lst S F (r2.append r2')) rfl⟩⟩
theorem le_append {o e : Expr} {apos cpos : Pos} {wo we : WE} (ho : LE X Wx o wo) (ha : LAs X Wx [e] [we])
    (hb : ∀ {to : TE} {t : TA} {r : V → List V → Hp → VK → Prop}, MtR X "list.append" r → PE X o to → PA X [e] t → PE X (.Call (.Attribute o "append" apos) [e] [] cpos) (tBM X.K "list" r to t) := by exact fun h1 h2 h3 => pe_bm PySem.F.plainAttrs_list PySem.F.slot_list_append PySem.F.type_list_append h1 h2 h3) : LE X Wx (.Call (.Attribute o "append" apos) [e] [] cpos) (wMt gAppend wo [we]) :=
  le_mt PySem.F.slot_list_append PySem.F.type_list_append md_append ho ha hb
theorem le_extend {o e : Expr} {apos cpos : Pos} {wo we : WE} (ho : LE X Wx o wo) (ha : LAs X Wx [e] [we])
    (hb : ∀ {to : TE} {t : TA} {r : V → List V → Hp → VK → Prop}, MtR X "list.extend" r → PE X o to → PA X [e] t → PE X (.Call (.Attribute o "extend" apos) [e] [] cpos) (tBM X.K "list" r to t) := by exact fun h1 h2 h3 => pe_bm PySem.F.plainAttrs_list PySem.F.slot_list_extend PySem.F.type_list_extend h1 h2 h3) : LE X Wx (.Call (.Attribute o "extend" apos) [e] [] cpos) (wMt gExtend wo [we]) :=
  le_mt PySem.F.slot_list_extend PySem.F.type_list_extend md_extend ho ha hb
end
end Sq

/-! Keywords, defs, further statements. -/
namespace Sq
open PySem PySem.Spec PyProof.Rows L2
section
variable {X : Cx} {Wx : WX}
/-! ### keywords, in the parameters' order -/
def LKs (X : Cx) (Wx : WX) (kws : List Keyword) (ws : List WE) : Prop := PK X kws (lA X.K Wx (wArgs ws))
theorem PK.weak {kws : List Keyword} {t t' : TA} (h : PK X kws t) (hw : ∀ σ H Q, t' σ H Q → t σ H Q) : PK X kws t' := ⟨fun pos pins s σ H Q I q => h.run pos pins s σ H Q I (hw σ H Q q)⟩
theorem lk_nil : LKs X Wx [] [] := PK.weak pk_nil fun σ H Q ⟨ρ, μ, E, S, h⟩ => (show Out (Rps X.K) X.K μ H Q [] μ from h) _ _ (Fr.refl μ H) S rfl
theorem lk_cons {nm : Option Str} {e : Expr} {kpos : Pos} {kws : List Keyword} {w : WE} {ws : List WE} (ha : LE X Wx e w) (hr : LKs X Wx kws ws) : LKs X Wx (⟨nm, e, kpos⟩ :: kws) (w :: ws) :=
  PK.weak (pk_cons ha hr) fun σ H Q ⟨ρ, μ, E, S, h⟩ => by
    refine lW.bind (w := w) E S h (fun x μ1 v H1 F1 S1 E1 r1 h1 => ?_) fun _ _ _ h => h
    refine lW.bind (w := wArgs ws) E1 S1 h1 (fun xs μ2 vs H2 F2 S2 E2 r2 h2 => ?_) fun _ _ _ h => h.trans F1
    exact h2 _ _ (F1.trans F2) S2 (by unfold Rps; exact ⟨_, _, rfl, Rp.keep S1 F2 x r1, r2⟩)
def tCallKS (sp : Sp) (E : L2.St → XK) (n m : Nat) (t tk : TA) : TE := fun σ H Q => t σ H fun vs H1 => tk σ H1 fun zs H2 => vs.length = n ∧ zs.length = m ∧ sp (vs ++ zs) H2 Q (E σ)
/-- f(e, .., k = v, ..): n by position -/
theorem pe_runK {k n : Nat} {f : Addr} {fd : FuncData} {ps : List Str} {sp : Sp} {E : L2.St → XK} {x : Str} {p pos : Pos} {e : Expr} {es : List Expr} {kws : List Keyword} {t tk : TA} (F : RunOk X.prog X.w X.K X.mg X.base k f fd ps sp) (hgd : X.A.guards = some []) (hr : Room k X.A) (hg : Gl X x) (hm : X.mg x = some (.ref f)) (hk : PySem.W.keepIn X.K (.ref f) = true) (hb : KB X.K fd ps n) (hx : ∀ σ, PassesAt (L2.CX X.prog X.w) X σ (E σ))
    (ha : PA X (e :: es) t) (hkw : PK X kws tk) (hall : (backToKw pos (keywordEach kws X.env)).all (·.1.isSome) = true) (hks : (backToKw pos (keywordEach kws X.env)).filterMap (·.1) = ps.drop n)
    (hn : n ≤ ps.length) (hdb : (x == ("__debug__" : Str)) = false) (he : starEach (e :: es) X.env = (false, eval e X.env) :: starEach es X.env)
    (hpl : ((backTo pos (starEach (e :: es) X.env)).any (·.1) || (backToKw pos (keywordEach kws X.env)).any (·.1.isNone)) = false) :
    PE X (.Call (.Name x p) (e :: es) kws pos) (tCallKS sp E n (ps.length - n) t tk) := ⟨fun pins s σ H Q I h =>
  wpAny_Call_Name_kw (ld_glob I hg hm (PySem.W.callWith_KW (h₀ := X.base) I.ok.mod.kin hk hall (thn (ha.run pos pins s σ H _ I h) fun us s1 ⟨vs, H1, I1, r, q⟩ =>
    thn (hkw.run pos pins s1 σ H1 _ I1 q) fun ws s2 ⟨zs, H2, I2, rz, l1, l2, q2⟩ => ⟨I2.kIn, by
      rw [hks]
      exact run_go (args := ⟨us, (ps.drop n).zip ws⟩) F hgd hr (hx σ) I2 (hb s2 us ws I2.kIn (r.length.symm.trans l1) (by rw [← rz.length]; omega)) (r.append rz) q2⟩) hpl he) hdb)⟩
theorem pe_runK0 {k : Nat} {f : Addr} {fd : FuncData} {ps : List Str} {sp : Sp} {E : L2.St → XK} {x : Str} {p pos : Pos} {kws : List Keyword} {tk : TA} (F : RunOk X.prog X.w X.K X.mg X.base k f fd ps sp) (hgd : X.A.guards = some []) (hr : Room k X.A) (hg : Gl X x) (hm : X.mg x = some (.ref f)) (hk : PySem.W.keepIn X.K (.ref f) = true) (hb : KB X.K fd ps 0) (hx : ∀ σ, PassesAt (L2.CX X.prog X.w) X σ (E σ))
    (hkw : PK X kws tk) (hall : (backToKw pos (keywordEach kws X.env)).all (·.1.isSome) = true) (hks : (backToKw pos (keywordEach kws X.env)).filterMap (·.1) = ps)
    (hdb : (x == ("__debug__" : Str)) = false)
    (hpl : ((backTo pos (starEach [] X.env)).any (·.1) || (backToKw pos (keywordEach kws X.env)).any (·.1.isNone)) = false) :
    PE X (.Call (.Name x p) [] kws pos) (tCallKS sp E 0 ps.length tNil tk) := ⟨fun pins s σ H Q I h =>
  wpAny_Call_Name_kw (ld_glob I hg hm (PySem.W.callWith_KW0 (h₀ := X.base) I.ok.mod.kin hk hall (thn (hkw.run pos pins s σ H _ I h) fun ws s2 ⟨zs, H2, I2, rz, l1, l2, q2⟩ => ⟨I2.kIn, by
      rw [hks]
      exact run_go (args := ⟨[], ps.zip ws⟩) F hgd hr (hx σ) I2 (hb s2 [] ws I2.kIn rfl (by rw [← rz.length]; omega)) rz q2⟩) hpl) hdb)⟩
theorem wCall_k {S : SpD} {ws us : List WE} {ps : List Str} {n : Nat} (hl : ws.length = n) (hu : us.length = ps.length - n) (hn : n ≤ ps.length) : ∀ σ H Q, lE X.K Wx (wCall S (ws ++ us)) σ H Q → tCallKS (spOf X.K ps.length S) (fun σ => L2.WE Wx σ) n (ps.length - n) (lA X.K Wx (wArgs ws)) (lA X.K Wx (wArgs us)) σ H Q := fun σ H Q ⟨ρ, μ, E, S0, h⟩ => by
  have app : ∀ (ws us : List WE) (ρ : Ev) (μ : Mu) (Q : List D → Mu → Prop) (X : XQ), runAll (ws ++ us) ρ μ Q X → runAll ws ρ μ (fun ds μ1 => ds.length = ws.length ∧ runAll us ρ μ1 (fun es μ2 => es.length = us.length ∧ Q (ds ++ es) μ2) X) X := by
    intro ws
    induction ws with
    | nil => intro us ρ μ Q X h; exact ⟨rfl, runAll_len h⟩
    | cons w ws ih =>
      intro us ρ μ Q X h
      refine w.mono (fun d μ1 q => ?_) (fun _ _ _ q => q) h
      refine runAll_mono (fun ds μ2 q => ⟨by rw [List.length_cons, q.1]; rfl, q.2⟩) (fun _ _ _ q => q) (ih us ρ μ1 _ X q)
  refine lW.bind (w := wArgs ws) E S0 (app ws us ρ μ _ _ h) (fun xs μ1 vs H1 F1 S1 E1 r1 h1 => ?_) fun _ _ _ h => h
  refine lW.bind (w := wArgs us) E1 S1 h1.2 (fun ys μ2 zs H2 F2 S2 E2 r2 h2 => ?_) fun _ _ _ h => h.trans F1
  have a1 : vs.length = n := by rw [r1.length, h1.1, hl]
  have a2 : zs.length = ps.length - n := by rw [r2.length, h2.1, hu]
  refine ⟨a1, a2, by rw [List.length_append, a1, a2]; omega, xs ++ ys, μ2, (Rps.keep S1 F2 xs r1).append r2, S2, S.mono (fun _ _ q => q.trans (F1.trans F2)) (fun _ _ _ q => ?_) h2.2⟩
  exact fun dx v H' F' S' e r => q dx v H' (F1.trans (F2.trans F')) S' e r
theorem le_callK {k j : Nat} {x : Str} {p pos : Pos} {e : Expr} {es : List Expr} {kws : List Keyword} {ps : List Str} {ms : List Nat} {S : SpD} {ws us : List WE} (n : Nat) (F : FnD X.prog X.w X.K X.mg X.base j x ps ms S) (hgd : X.A.guards = some []) (hr : Room k X.A) (tk : Takes X Wx) (ha : LAs X Wx (e :: es) ws) (hkw : LKs X Wx kws us) (hjk : j ≤ k := by decide) (hn : n ∈ ms := by decide) (hl : ws.length = n := by rfl) (hu : us.length = ps.length - n := by rfl)
    (hg : Gl X x := by rfl) (hall : (backToKw pos (keywordEach kws X.env)).all (·.1.isSome) = true := by rfl) (hks : (backToKw pos (keywordEach kws X.env)).filterMap (·.1) = ps.drop n := by rfl)
    (hnp : n ≤ ps.length := by decide) (hdb : (x == ("__debug__" : Str)) = false := by decide) (he : starEach (e :: es) X.env = (false, eval e X.env) :: starEach es X.env := by rfl)
    (hpl : ((backTo pos (starEach (e :: es) X.env)).any (·.1) || (backToKw pos (keywordEach kws X.env)).any (·.1.isNone)) = false := by rfl) : LE X Wx (.Call (.Name x p) (e :: es) kws pos) (wCall S (ws ++ us)) := by
  obtain ⟨f, fd, G, hm, hk, _, hb⟩ := F.ex
  exact PE.weak (pe_runK G hgd (hr.mono hjk) hg hm hk (hb n hn) (fun σ => passAt tk σ) ha hkw hall hks hnp hdb he hpl) (wCall_k hl hu hnp)
theorem le_callK0 {k j : Nat} {x : Str} {p pos : Pos} {kws : List Keyword} {ps : List Str} {ms : List Nat} {S : SpD} {us : List WE} (F : FnD X.prog X.w X.K X.mg X.base j x ps ms S) (hgd : X.A.guards = some []) (hr : Room k X.A) (tk : Takes X Wx) (hkw : LKs X Wx kws us) (hjk : j ≤ k := by decide) (hn : 0 ∈ ms := by decide) (hu : us.length = ps.length := by rfl)
    (hg : Gl X x := by rfl) (hall : (backToKw pos (keywordEach kws X.env)).all (·.1.isSome) = true := by rfl) (hks : (backToKw pos (keywordEach kws X.env)).filterMap (·.1) = ps := by rfl)
    (hdb : (x == ("__debug__" : Str)) = false := by decide)
    (hpl : ((backTo pos (starEach [] X.env)).any (·.1) || (backToKw pos (keywordEach kws X.env)).any (·.1.isNone)) = false := by rfl) : LE X Wx (.Call (.Name x p) [] kws pos) (wCall S us) := by
  obtain ⟨f, fd, G, hm, hk, _, hb⟩ := F.ex
  refine PE.weak (pe_runK0 G hgd (hr.mono hjk) hg hm hk (hb 0 hn) (fun σ => passAt tk σ) hkw hall hks hdb hpl) fun σ H Q h => ?_
  obtain ⟨ρ, μ, E, S0, q⟩ := wCall_k (ws := []) (us := us) (ps := ps) (n := 0) rfl (by rw [hu]; rfl) (Nat.zero_le _) σ H Q h
  exact (show Out (Rps X.K) X.K μ H _ [] μ from q) [] H (Fr.refl μ H) S0 rfl

/-! ### x += e -/
def wAug (i : Nat) (g : G2) (a : WE) : WS := ⟨fun D ρ μ => (match ρ[i]? with | some (some x) => a.run ρ μ (fun y μ1 => g.run x y μ1 fun z μ2 => D.nx (ρ.set i (some z)) μ2) (D.ex ρ) | _ => False), fun {D D' ρ μ} h q => by
  revert q
  cases ρ[i]? with
  | none => exact id
  | some o =>
    cases o with
    | none => exact id
    | some x => exact fun q => a.mono (fun _ _ q => g.mono (fun _ _ q => h.nx _ _ q) q) (fun _ _ _ q => h.ex _ _ _ _ q) q⟩
theorem wAug_run {i : Nat} {g : G2} {a : WE} {D : PD} {ρ : Ev} {μ : Mu} : (wAug i g a).run D ρ μ = (match ρ[i]? with | some (some x) => a.run ρ μ (fun y μ1 => g.run x y μ1 fun z μ2 => D.nx (ρ.set i (some z)) μ2) (D.ex ρ) | _ => False) := rfl
theorem ls_aug (i : Nat) {x : Str} {e : Expr} {op : Operator} {g : G2} {w : WE} {pos pos' : Pos} (hN : X.N.Nodup) (ho : OpD X (inplaceOp op) g) (he : LE X Wx e w) (hi : X.N[i]? = some x := by rfl) (hx : Loc X.env.scope x := by first | exact Or.inl rfl | exact Or.inr rfl) (hf : X.fn x = true ∨ X.env.scope.names.lookup x = some .local := by first | exact .inl rfl | exact .inr rfl) :
    LS X Wx (.AugAssign (.Name x pos') op e pos) (wAug i g w) := by
  obtain ⟨r, h1, h2⟩ := ho
  have ip : PIp X op r := fun pins s σ H x y v u Q I rx ry q => h1 pins s σ H x y v u Q I rx ry q
  refine PS.weak (ps_aug hN hi hx he ip hf) fun D σ H ⟨ρ, μ, E, S, h⟩ => ?_
  rw [wAug_run] at h
  split at h
  · rename_i x e
    obtain ⟨v, e1, r1⟩ := E.get e
    refine ⟨v, e1, ?_⟩
    refine lW.bind E S h (fun y μ1 u H1 F1 S1 E1 r2 q1 => ?_) fun _ _ _ h => OutXE.x S E h
    refine h2 x y μ1 H1 v u (fun z H2 => D.nx (σ.set i (some z)) H2) S1 (Rp.keep S F1 x r1) r2 (g.mono (fun z μ2 q t H2 F2 S2 r3 => ?_) q1)
    exact q _ _ (F1.trans F2) S2 ((E1.keep S1 F2).set r3 i)
  · exact h.elim
def gAddI : G2 := gI (fun _ _ => True) fun i j => .int (i + j)
theorem od_iadd : OpD X (inplaceOp .Add) gAddI := od_int0 iop_add fun _ _ _ => rfl
theorem od_isub : OpD X (inplaceOp .Sub) gSub := od_int0 iop_sub fun _ _ _ => rfl

/-! ### a, b, c = x, y, z of plain local names -/
def wPar3 (i j l : Nat) (a b c : WE) : WS := ⟨fun D ρ μ => a.run ρ μ (fun x μ1 => b.run ρ μ1 (fun y μ2 => c.run ρ μ2 (fun z μ3 => D.nx (((ρ.set i (some x)).set j (some y)).set l (some z)) μ3) (D.ex ρ)) (D.ex ρ)) (D.ex ρ),
  fun h q => a.mono (fun _ _ q => b.mono (fun _ _ q => c.mono (fun _ _ q => h.nx _ _ q) (fun _ _ _ q => h.ex _ _ _ _ q) q) (fun _ _ _ q => h.ex _ _ _ _ q) q) (fun _ _ _ q => h.ex _ _ _ _ q) q⟩
theorem wPar3_run {i j l : Nat} {a b c : WE} {D : PD} {ρ : Ev} {μ : Mu} : (wPar3 i j l a b c).run D ρ μ = a.run ρ μ (fun x μ1 => b.run ρ μ1 (fun y μ2 => c.run ρ μ2 (fun z μ3 => D.nx (((ρ.set i (some x)).set j (some y)).set l (some z)) μ3) (D.ex ρ)) (D.ex ρ)) (D.ex ρ) := rfl
theorem rps3 {K : PySem.W.Frag} {H : Hp} {a b c : D} {vs : List V} (h : Rps K H [a, b, c] vs) : ∃ v u t, vs = [v, u, t] ∧ Rp K H a v ∧ Rp K H b u ∧ Rp K H c t := by
  unfold Rps at h
  obtain ⟨w, ws, rfl, r, q⟩ := h
  obtain ⟨u, t, rfl, e, f⟩ := rps2 q
  exact ⟨w, u, t, rfl, r, e, f⟩
theorem ls_par3 (i j l : Nat) {x y z : Str} {a b c : Expr} {wa wb wc : WE} {px py pz pt pos : Pos} {kt k2 pt2} (hN : X.N.Nodup) (ha : LAs X Wx [a, b, c] [wa, wb, wc]) (hw : swappedStores [.Tuple [.Name x px, .Name y py, .Name z pz] kt pt] (.Tuple [a, b, c] k2 pt2) X.env = pure (some [x, y, z]) := by rfl)
    (hc : X.calm = true := by rfl) (hi : X.N[i]? = some x := by rfl) (hj : X.N[j]? = some y := by rfl) (hl : X.N[l]? = some z := by rfl) (hij : i ≠ j := by decide) (hil : i ≠ l := by decide) (hjl : j ≠ l := by decide) (hx : X.env.scope.names.lookup x = some .local := by rfl) (hy : X.env.scope.names.lookup y = some .local := by rfl) (hz : X.env.scope.names.lookup z = some .local := by rfl)
    (hs : swapsWithSole [.Tuple [.Name x px, .Name y py, .Name z pz] kt pt] (.Tuple [a, b, c] k2 pt2) pos.line X.env = pure false := by rfl) : LS X Wx (.Assign [.Tuple [.Name x px, .Name y py, .Name z pz] kt pt] (.Tuple [a, b, c] k2 pt2) pos) (wPar3 i j l wa wb wc) :=
  PS.weak (ps_par3 hc hN hi hj hl hij hil hjl hx hy hz ha hw hs) fun D σ H ⟨ρ, μ, E, S, h⟩ => by
    refine lW.bind (w := wArgs [wa, wb, wc]) E S (Q := fun ds μ2 => ∃ x y z, ds = [x, y, z] ∧ (outD X.K Wx μ H D).nx (((ρ.set i (some x)).set j (some y)).set l (some z)) μ2) (X := (outD X.K Wx μ H D).ex ρ) ?_ (fun xs μ1 vs H1 F1 S1 E1 r1 h1 => ?_) fun _ _ _ h => OutXE.x S E h
    · exact wa.mono (fun x μ1 q => wb.mono (fun y μ2 q => wc.mono (fun z μ3 q => ⟨x, y, z, rfl, q⟩) (fun _ _ _ h => h) q) (fun _ _ _ h => h) q) (fun _ _ _ h => h) h
    obtain ⟨x, y, z, rfl, q⟩ := h1
    obtain ⟨v, u, t, rfl, a1, a2, a3⟩ := rps3 r1
    exact ⟨v, u, t, rfl, q _ _ F1 S1 (((E1.set a1 i).set a2 j).set a3 l)⟩
end

/-! ### defs -/
/-- a smaller store will do -/
def SubQ (Q : PQ) : PQ := fun d μ' => ∃ μ'', (∀ a o, μ'' a = some o → μ' a = some o) ∧ Q d μ''
theorem SubQ.of {Q : PQ} {d : D} {μ : Mu} (h : Q d μ) : SubQ Q d μ := ⟨μ, fun _ _ e => e, h⟩
theorem SubQ.mk {Q : PQ} {d : D} {μ μ' : Mu} (h : Q d μ) (s : ∀ a o, μ a = some o → μ' a = some o) : SubQ Q d μ' := ⟨μ, s, h⟩
def SubX (X : XQ) : XQ := fun C d μ' => ∃ μ'', (∀ a o, μ'' a = some o → μ' a = some o) ∧ X C d μ''
theorem sub_new {μ : Mu} {p : Addr} {o : O} (h : μ p = none) : ∀ a u, μ a = some u → mset μ p o a = some u := fun a u e => by rw [mset_ne (ne_free e h)]; exact e
theorem sub_fr {μ μ1 μ2 : Mu} {H H' : Hp} (s : ∀ a o, μ2 a = some o → μ1 a = some o) (F : Fr μ H μ1 H') : Fr μ H μ2 H' := fun b o e n z => ⟨(F b o e n z).1, by
  cases q : μ2 b with
  | none => rfl
  | some u => exact absurd (s b u q) (by rw [(F b o e n z).2]; intro h; cases h)⟩
theorem sub_sim {K : PySem.W.Frag} {μ1 μ2 : Mu} {H : Hp} (s : ∀ a o, μ2 a = some o → μ1 a = some o) (S : Sim K μ1 H) : Sim K μ2 H := ⟨fun a o e => S.at_ a o (s a o e)⟩
theorem SubQ.out {K : PySem.W.Frag} {μ : Mu} {H : Hp} {Q : VK} {d : D} {μ' : Mu} (h : SubQ (Out (Rp K) K μ H Q) d μ') : Out (Rp K) K μ H Q d μ' := fun v H' F S r => by
  obtain ⟨μ'', s, q⟩ := h
  exact q v H' (sub_fr s F) (sub_sim s S) r
/-- what is wanted of a def's body -/
def bodyD (Q : PQ) (X : XQ) : PD := ⟨fun _ μ => SubQ Q .non μ, SubQ Q, fun _ _ => False, fun _ _ => False, fun _ => SubX X⟩
theorem bodyD_nx {Q : PQ} {X : XQ} {ρ : Ev} {μ : Mu} : (bodyD Q X).nx ρ μ = SubQ Q .non μ := rfl
theorem bodyD_rt {Q : PQ} {X : XQ} : (bodyD Q X).rt = SubQ Q := rfl
theorem bodyD_ex {Q : PQ} {X : XQ} {ρ : Ev} : (bodyD Q X).ex ρ = SubX X := rfl
/-- the wish of a def's body -/
abbrev wxE (E : XK) : WX := fun cls d _ H => E cls d H
/-- a def: its body's walk, its body's reading -/
theorem fn_ok {P : Program} {w : World} {K : PySem.W.Frag} {mg : Str → Option Value} {base : Heap} {x : Str} {st : Stmt} {f : Addr} {fd : FuncData} {N ps : List Str} {ms : List Nat} {k : Nat} {Sd : SpD} (F : Fun K x x st f fd) (S : FnScope N ps (defScope st)) (hm : mg x = some (.ref f)) (hb : Binds K fd ps []) (hkb : ∀ n ∈ ms, KB K fd ps n) (wb : WS)
    (hder : ∀ (cdv : Value) (A : Around) (outer : List Env) (s : Shared) (H : Hp) (E : XK), A.guards = some [] → Room k (A.deeper (envOfC x (defScope st) s.heap.objs.size f cdv)) → LSs (cxOf (L2.CX P w) P w K mg base N x (defScope st) f cdv A outer s H E) (wxE E) (defBody st) wb)
    (hread : ∀ (ds : List D) (μ : Mu) (Q : PQ) (X : XQ), ds.length = ps.length → Sd.run ds μ Q X → wb.run (bodyD Q X) (ev0 N.length ds) μ) : FnD P w K mg base (k + 1) x ps ms Sd := by
  obtain ⟨oc, od, kV, doc, pm, an, cdv, ct, osl, efd, lk, hcd⟩ := F.ex
  refine ⟨f, fd, fun A outer s H args us vs Q E hg hr e0 hbd r hsp => ?_, hm, F.kp, hb, hkb⟩
  subst efd
  refine LamX.run_ofS (N := N) lk hcd S hr e0 hbd r hsp.1 fun hr' => ⟨_, hder cdv A outer s H E hg hr', ?_⟩
  obtain ⟨hl, ds, μ, R, Sm, q⟩ := hsp
  have hd : ds.length = ps.length := by rw [← R.length]; exact hl
  refine ⟨ev0 N.length ds, μ, ?_, Sm, wb.mono (D := bodyD (Out (Rp K) K μ H Q) (OutE K μ H E)) ⟨?_, fun d μ' h => SubQ.out h, fun _ _ z => z.elim, fun _ _ z => z.elim, ?_⟩ (hread ds μ _ _ hd q)⟩
  · unfold ev0 L2.start
    rw [R.length]
    exact EnvR.start R
  · exact fun ρ μ' h σ' H' F' S' E' => SubQ.out h .non H' F' S' rfl
  · rintro ρ C d μ' ⟨μ'', s, q⟩ σ' dx v H' F' S' E' e r
    exact q dx v H' (sub_fr s F') (sub_sim s S') e r
theorem fun_kb {K : PySem.W.Frag} {x qual : Str} {st : Stmt} {f : Addr} {fd : FuncData} {ps : List Str} {n : Nat} (F : Fun K x qual st f fd)
    (h : ∀ (kV doc pm : Value) (an : Option Addr) (cdv ct : Value) (us ws : List Value), us.length = n → ws.length + n = ps.length → bindArgs (PySem.W.fnOf x qual (defArgs st) (defBody st) (defScope st) .none kV doc pm an cdv ct) ⟨us, (ps.drop n).zip ws⟩ = pure (ps.zip (us ++ ws))) : KB K fd ps n := by
  obtain ⟨oc, od, kV, doc, pm, an, cdv, ct, osl, rfl, lk, hcd⟩ := F.ex
  exact fun s us ws _ h1 h2 => .of_eq (h kV doc pm an cdv ct us ws h1 h2)
end Sq

/-! Slices, membership, sorting, shown data, ranges as lists, chains of three. -/
namespace Sq
open PySem PySem.Spec PyProof.Rows L2

/-! ### slices -/
def cutD {α : Type} (xs : List α) (lo hi : Option Int) : List α := (xs.drop (HT.sIx xs.length 0 lo)).take (HT.sIx xs.length xs.length hi - HT.sIx xs.length 0 lo)
theorem Rps.cut {K : PySem.W.Frag} {H : Hp} {ds : List D} {vs : List V} (h : Rps K H ds vs) (lo hi : Option Int) : Rps K H (cutD ds lo hi) (L2.cutV vs lo hi) := by
  unfold cutD L2.cutV
  rw [h.length]
  exact (h.drop _).take _
theorem cutD_whole {α : Type} {xs : List α} {lo hi : Option Int} (h : HT.sIx xs.length 0 lo = 0 ∧ HT.sIx xs.length xs.length hi = xs.length) : cutD xs lo hi = xs := by
  unfold cutD
  rw [h.1, h.2, List.drop_zero, Nat.sub_zero, List.take_length]
abbrev lO (K : PySem.W.Frag) (Wx : WX) (w : Wp (Option Int)) : TO := lW (fun (_ : Hp) (b c : Option Int) => b = c) K Wx w
def LO (X : Cx) (Wx : WX) (e : Option Expr) (w : Wp (Option Int)) : Prop := PO X e (lO X.K Wx w)
theorem PO.weak {X : Cx} {e : Option Expr} {t t' : TO} (h : PO X e t) (hw : ∀ σ H Q, t' σ H Q → t σ H Q) : PO X e t' := ⟨fun pins s σ H Q I q => h.run pins s σ H Q I (hw σ H Q q)⟩
def wNoP : Wp (Option Int) := ⟨fun _ μ Q _ => Q none μ, fun hQ _ h => hQ _ _ h⟩
theorem wNoP_run {ρ : Ev} {μ : Mu} {Q : Option Int → Mu → Prop} {X : XQ} : wNoP.run ρ μ Q X = Q none μ := rfl
def onInt (z : D) (f : Int → Prop) : Prop := match z with | .int k => f k | _ => False
theorem onInt_int {k : Int} {f : Int → Prop} : onInt (.int k) f = f k := rfl
theorem onInt_mono {z : D} {f f' : Int → Prop} (h : ∀ k, f k → f' k) (q : onInt z f) : onInt z f' := by
  cases z with
  | int k => exact h k q
  | _ => exact q
theorem onInt_v {K : PySem.W.Frag} {H : Hp} {z : D} {v : V} {f : Int → Prop} (r : Rp K H z v) (q : onInt z f) : ∃ k, v = .int k ∧ f k := by
  cases z with
  | int k => exact ⟨k, r, q⟩
  | _ => exact q.elim
def wPart (a : WE) : Wp (Option Int) := ⟨fun ρ μ Q X => a.run ρ μ (fun x μ1 => onInt x fun i => Q (some i) μ1) X, fun hQ hX h => a.mono (fun _ _ h => onInt_mono (fun _ q => hQ _ _ q) h) hX h⟩
theorem wPart_run {a : WE} {ρ : Ev} {μ : Mu} {Q : Option Int → Mu → Prop} {X : XQ} : (wPart a).run ρ μ Q X = a.run ρ μ (fun x μ1 => onInt x fun i => Q (some i) μ1) X := rfl
section
variable {X : Cx} {Wx : WX}
theorem lo_none : LO X Wx none wNoP := PO.weak po_none fun σ H Q ⟨ρ, μ, E, S, h⟩ => (show Out (fun (_ : Hp) (b c : Option Int) => b = c) X.K μ H Q none μ from h) _ _ (Fr.refl μ H) S rfl
theorem lo_some {e : Expr} {w : WE} (h : LE X Wx e w) : LO X Wx (some e) (wPart w) := PO.weak (po_some h) fun σ H Q ⟨ρ, μ, E, S, h⟩ => by
  refine lW.bind E S h (fun x μ1 v H1 F1 S1 E1 r1 h1 => ?_) fun _ _ _ h => h
  obtain ⟨k, e, q⟩ := onInt_v r1 h1
  exact ⟨k, e, (show Out (fun (_ : Hp) (b c : Option Int) => b = c) X.K μ H Q (some k) μ1 from q) _ _ F1 S1 rfl⟩
def fSl (x : D) (lo hi : Option Int) (μ : Mu) (Q : PQ) : Prop := match x with
  | .tup ds => Q (.tup (cutD ds lo hi)) μ
  | .rls ds => ∀ p, μ p = none → Q (.ob p) (mset μ p (.lst (cutD ds lo hi)))
  | .ob a => (match μ a with | some (.lst ds) => ∀ p, μ p = none → Q (.ob p) (mset μ p (.lst (cutD ds lo hi))) | _ => False)
  | .str s => s.length ≤ sizeLine ∧ Q (.str (L2.cutS s lo hi)) μ
  | _ => False
theorem fSl_tup {ds : List D} {lo hi : Option Int} {μ : Mu} {Q : PQ} : fSl (.tup ds) lo hi μ Q = Q (.tup (cutD ds lo hi)) μ := rfl
theorem fSl_rls {ds : List D} {lo hi : Option Int} {μ : Mu} {Q : PQ} : fSl (.rls ds) lo hi μ Q = ∀ p, μ p = none → Q (.ob p) (mset μ p (.lst (cutD ds lo hi))) := rfl
theorem fSl_ob {a : Addr} {lo hi : Option Int} {μ : Mu} {Q : PQ} : fSl (.ob a) lo hi μ Q = (match μ a with | some (.lst ds) => ∀ p, μ p = none → Q (.ob p) (mset μ p (.lst (cutD ds lo hi))) | _ => False) := rfl
theorem fSl_str {s : Str} {lo hi : Option Int} {μ : Mu} {Q : PQ} : fSl (.str s) lo hi μ Q = (s.length ≤ sizeLine ∧ Q (.str (L2.cutS s lo hi)) μ) := rfl
theorem fSl_mono {x : D} {lo hi : Option Int} {μ : Mu} {Q Q' : PQ} (hQ : ∀ d μ', Q d μ' → Q' d μ') (h : fSl x lo hi μ Q) : fSl x lo hi μ Q' := by
  cases x with
  | tup ds => exact hQ _ _ h
  | rls ds => exact fun p hp => hQ _ _ (h p hp)
  | ob a =>
    rw [fSl_ob] at h ⊢
    split at h
    · exact fun p hp => hQ _ _ (h p hp)
    · exact h.elim
  | str s => exact ⟨h.1, hQ _ _ h.2⟩
  | _ => exact h
def wSl (a : WE) (lo hi : Wp (Option Int)) : WE := ⟨fun ρ μ Q X => a.run ρ μ (fun x μ1 => lo.run ρ μ1 (fun l μ2 => hi.run ρ μ2 (fun u μ3 => fSl x l u μ3 Q) X) X) X,
  fun hQ hX h => a.mono (fun _ _ h => lo.mono (fun _ _ h => hi.mono (fun _ _ h => fSl_mono hQ h) hX h) hX h) hX h⟩
theorem wSl_run {a : WE} {lo hi : Wp (Option Int)} {ρ : Ev} {μ : Mu} {Q : PQ} {X : XQ} : (wSl a lo hi).run ρ μ Q X = a.run ρ μ (fun x μ1 => lo.run ρ μ1 (fun l μ2 => hi.run ρ μ2 (fun u μ3 => fSl x l u μ3 Q) X) X) X := rfl
theorem le_sl {e : Expr} {lo hi : Option Expr} {p2 pos : Pos} {w : WE} {wl wh : Wp (Option Int)} (he : LE X Wx e w) (hl : LO X Wx lo wl) (hh : LO X Wx hi wh) : LE X Wx (.Subscript e (.Slice lo hi none p2) pos) (wSl w wl wh) :=
  PE.weak (pe_slice (sl_tupA.or (sl_list.or sl_str)) he hl hh) fun σ H Q ⟨ρ, μ, E, S, h⟩ => by
    refine lW.bind E S h (fun x μ1 v H1 F1 S1 E1 r1 h1 => ?_) fun _ _ _ h => h
    refine lW.bind E1 S1 h1 (fun l μ2 l' H2 F2 S2 E2 r2 h2 => ?_) fun _ _ _ h => h.trans F1
    subst r2
    refine lW.bind E2 S2 h2 (fun u μ3 u' H3 F3 S3 E3 r3 h3 => ?_) fun _ _ _ h => h.trans (F1.trans F2)
    subst r3
    have rx := Rp.keep S2 F3 x (Rp.keep S1 F2 x r1)
    have h4 := fSl_mono (fun _ _ q => Out.trans (F1.trans (F2.trans F3)) q) h3
    cases x with
    | tup ds =>
      obtain ⟨p, vs, rfl, t, r⟩ := rp_tup rx
      refine .inl ⟨p, vs, rfl, t, fun hw => ?_, fun _ => out_tup S3 (r.cut l u) h4⟩
      have e : cutD ds l u = ds := cutD_whole (by rw [r.length] at hw; exact hw)
      rw [fSl_tup, e] at h4
      exact h4 _ _ (Fr.refl _ _) S3 rx
    | rls ds =>
      obtain ⟨p, vs, rfl, t, r⟩ := rp_rls rx
      exact .inr (.inl ⟨p, vs, rfl, t.l, out_lst S3 (r.cut l u) h4⟩)
    | ob a =>
      rw [rp_ob rx]
      rw [fSl_ob] at h4
      split at h4
      · rename_i ds e
        obtain ⟨vs, h5, r⟩ := S3.lst e
        exact .inr (.inl ⟨a, vs, rfl, SqL.of h5, out_lst S3 (r.cut l u) h4⟩)
      · exact h4.elim
    | str s => rw [rp_str rx]; exact .inr (.inr ⟨s, rfl, h4.1, h4.2 _ _ (Fr.refl _ _) S3 rfl⟩)
    | _ => exact h4.elim

/-! ### data without addresses -/
mutual
def encD : D → PyData
  | .non => .none | .bl b => .bool b | .int i => .int i | .str x => .str x
  | .tup ds => .tuple (encDs ds) | .ob _ => .none | .rls _ => .none
def encDs : List D → List PyData
  | [] => [] | d :: ds => encD d :: encDs ds
end
mutual
def pureD : D → Bool
  | .non => true | .bl _ => true | .int _ => true | .str _ => true
  | .tup ds => pureDs ds | .ob _ => false | .rls _ => false
def pureDs : List D → Bool
  | [] => true | d :: ds => pureD d && pureDs ds
end
mutual
theorem pure_dpy {μ : Mu} : ∀ {d : D}, pureD d = true → DPy μ d (encD d)
  | .non, _ => .non
  | .bl b, _ => .bl b
  | .int i, _ => .int i
  | .str x, _ => .str x
  | .tup ds, h => by unfold encD; unfold pureD at h; exact .tup (pure_dpys h)
  | .ob _, h => by unfold pureD at h; cases h
  | .rls _, h => by unfold pureD at h; cases h
theorem pure_dpys {μ : Mu} : ∀ {ds : List D}, pureDs ds = true → DPys μ ds (encDs ds)
  | [], _ => .nil
  | d :: ds, h => by
    unfold encDs
    unfold pureDs at h
    rw [Bool.and_eq_true] at h
    exact .cons (pure_dpy h.1) (pure_dpys h.2)
end
theorem encDs_map : ∀ ds : List D, encDs ds = ds.map encD
  | [] => rfl
  | d :: ds => by unfold encDs; rw [encDs_map ds]; rfl
theorem pureDs_all : ∀ ds : List D, pureDs ds = ds.all pureD
  | [] => rfl
  | d :: ds => by unfold pureDs; rw [pureDs_all ds]; rfl
theorem encD_ints (ns : List Int) : encDs (ns.map D.int) = ns.map PyData.int := by
  rw [encDs_map, List.map_map]; rfl
theorem pureD_ints (ns : List Int) : pureDs (ns.map D.int) = true := by
  rw [pureDs_all, List.all_map]; simp [pureD]

/-! ### in, not in -/
def InP (x y : D) (μ : Mu) (Q : Bool → Prop) : Prop := ∃ d ds, DPy μ x d ∧ ((DPy μ y (.list ds) ∧ SeqAt.shaped (.list ds) = true) ∨ (DPy μ y (.tuple ds) ∧ SeqAt.shaped (.tuple ds) = true)) ∧ SeqAt.shaped d = true ∧ Q (ds.any fun z => PyData.eqv z d)
theorem InP.mono {x y : D} {μ : Mu} {Q Q' : Bool → Prop} (h : ∀ b, Q b → Q' b) (q : InP x y μ Q) : InP x y μ Q' := by
  obtain ⟨d, ds, h1, h2, h3, q⟩ := q
  exact ⟨d, ds, h1, h2, h3, h _ q⟩
def gIn : G2 := ⟨fun x y μ Q => InP x y μ fun b => Q (.bl b) μ, fun hQ h => h.mono fun _ q => hQ _ _ q⟩
def gNotIn : G2 := ⟨fun x y μ Q => InP x y μ fun b => Q (.bl (!b)) μ, fun hQ h => h.mono fun _ q => hQ _ _ q⟩
theorem gIn_run {x y : D} {μ : Mu} {Q : PQ} : gIn.run x y μ Q = InP x y μ fun b => Q (.bl b) μ := rfl
theorem gNotIn_run {x y : D} {μ : Mu} {Q : PQ} : gNotIn.run x y μ Q = InP x y μ fun b => Q (.bl (!b)) μ := rfl
def rInT (K : PySem.W.Frag) (f : Bool → Bool) : R2 := fun x y H Q => ∃ d ds, Dp K H x d ∧ Dp K H y (.tuple ds) ∧ SeqAt.shaped d = true ∧ SeqAt.shaped (.tuple ds) = true ∧ Q (.bl (f (ds.any fun z => PyData.eqv z d))) H
theorem op_inT (hu : X.A.units + 65 < cLine) : OpR X (compareOp .In) (rInT X.K id) := by
  intro pins s σ H x y v u Q I rx ry h
  obtain ⟨d, ds, hd, he, sd, se, q⟩ := h
  obtain ⟨as, r1⟩ := Dp.reads I d x v hd rx
  obtain ⟨bs, r2⟩ := Dp.reads I (.tuple ds) y u he ry
  exact SeqAt.in_tuple_reads r2 r1 (SeqAt.canLay_of_shaped se) (SeqAt.canLay_of_shaped sd) (room_in_shaped sd hu) ⟨.bl _, H, I, rfl, q⟩
theorem op_notInT (hu : X.A.units + 65 < cLine) : OpR X (compareOp .NotIn) (rInT X.K not) := by
  intro pins s σ H x y v u Q I rx ry h
  obtain ⟨d, ds, hd, he, sd, se, q⟩ := h
  obtain ⟨as, r1⟩ := Dp.reads I d x v hd rx
  obtain ⟨bs, r2⟩ := Dp.reads I (.tuple ds) y u he ry
  exact SeqAt.notIn_tuple_reads r2 r1 (SeqAt.canLay_of_shaped se) (SeqAt.canLay_of_shaped sd) (room_in_shaped sd hu) ⟨.bl _, H, I, rfl, q⟩
theorem od_in (hu : X.A.units + 65 < cLine) : OpD X (compareOp .In) gIn := ⟨_, (op_inD hu).or (op_inT hu), fun x y μ H vx vy Q S rx ry q => by
  obtain ⟨d, ds, h1, h2 | h2, h3, q⟩ := q
  · exact .inl ⟨d, ds, h1.dp S rx, h2.1.dp S ry, h3, h2.2, q _ _ (Fr.refl μ H) S rfl⟩
  · exact .inr ⟨d, ds, h1.dp S rx, h2.1.dp S ry, h3, h2.2, q _ _ (Fr.refl μ H) S rfl⟩⟩
theorem od_notIn (hu : X.A.units + 65 < cLine) : OpD X (compareOp .NotIn) gNotIn := ⟨_, (op_notInD hu).or (op_notInT hu), fun x y μ H vx vy Q S rx ry q => by
  obtain ⟨d, ds, h1, h2 | h2, h3, q⟩ := q
  · exact .inl ⟨d, ds, h1.dp S rx, h2.1.dp S ry, h3, h2.2, q _ _ (Fr.refl μ H) S rfl⟩
  · exact .inr ⟨d, ds, h1.dp S rx, h2.1.dp S ry, h3, h2.2, q _ _ (Fr.refl μ H) S rfl⟩⟩

/-! ### sorted -/
theorem rps_each {K : PySem.W.Frag} {pins : List (Addr × Obj)} {σ : L2.St} {H : Hp} {s : Shared} {μ : Mu} (I : Inv X pins σ H s) (S : Sim X.K μ H) : ∀ {ds : List D} {vs : List V} {us : List Value}, Rps X.K H ds vs → Vals vs us → (∀ d ∈ ds, pureD d = true) →
    PySem.W.EachIs (fun u d => ∃ as, Reads s.heap u (encD d) as) us ds ∧ PySem.W.EachIs (fun u d => ∃ v, RelV v u ∧ Rp X.K H d v) us ds
  | [], _, _, h, r, _ => by
    unfold Rps at h; subst h; cases r
    exact ⟨.nil, .nil⟩
  | d :: ds, _, _, h, r, hp => by
    unfold Rps at h
    obtain ⟨w, ws, rfl, a, b⟩ := h
    cases r with
    | cons r1 r2 =>
      have ih := rps_each (K := K) I S b r2 fun d hd => hp d (List.mem_cons_of_mem _ hd)
      exact ⟨.cons (Dp.reads I _ _ _ ((pure_dpy (hp d List.mem_cons_self)).dp S a) r1) ih.1, .cons ⟨w, r1, a⟩ ih.2⟩
theorem each_rps {K : PySem.W.Frag} {H : Hp} : ∀ {us : List Value} {ds : List D}, PySem.W.EachIs (fun u d => ∃ v, RelV v u ∧ Rp K H d v) us ds → ∃ vs, Vals vs us ∧ Rps K H ds vs
  | _, _, .nil => ⟨[], .nil, rfl⟩
  | _, _, .cons ⟨v, r, a⟩ t => by
    obtain ⟨vs, h1, h2⟩ := each_rps t
    exact ⟨v :: vs, .cons r h1, by unfold Rps; exact ⟨_, _, rfl, a, h2⟩⟩
/-- the order of data -/
abbrev leD : D → D → Bool := PySem.W.dataLe false encD
def SortOk (ds : List D) : Prop := (∀ d ∈ ds, pureD d = true) ∧ PySem.W.AllAlike (ds.map encD) ∧ PySem.W.Sortable (ds.map encD) ∧ ∀ d ∈ ds, (encD d).depth ≤ 60
def fSorted (x : D) (μ : Mu) (Q : PQ) : Prop := match x with
  | .ob a => (match μ a with | some (.lst ds) => SortOk ds ∧ ∀ p, μ p = none → Q (.ob p) (mset μ p (.lst (ds.mergeSort leD))) | _ => False)
  | _ => False
theorem fSorted_ob {a : Addr} {μ : Mu} {Q : PQ} : fSorted (.ob a) μ Q = (match μ a with | some (.lst ds) => SortOk ds ∧ ∀ p, μ p = none → Q (.ob p) (mset μ p (.lst (ds.mergeSort leD))) | _ => False) := rfl
def gSorted : GN := g1 fSorted fun {x μ Q Q'} hQ h => by
  cases x with
  | ob a =>
    rw [fSorted_ob] at h ⊢
    split at h
    · exact ⟨h.1, fun p hp => hQ _ _ (h.2 p hp)⟩
    · exact h.elim
  | _ => exact h
def rSortedD (K : PySem.W.Frag) : List V → Hp → VK → Prop := fun vs H Q => ∃ (a : Addr) (xs : List V) (ds : List D) (μ : Mu), vs = [V.ref a] ∧ H a = some (.lst xs) ∧ Sim K μ H ∧ Rps K H ds xs ∧ SortOk ds ∧
  ∀ us p, Rps K H (ds.mergeSort leD) us → H p = none → Q (.ref p) (upd H p (.lst us))
theorem cr_sortedD (hu : X.A.units + 64 < cLine) : CallR X (.builtin "sorted") (rSortedD X.K) := by
  intro pins s σ H vs us Q I r h
  obtain ⟨a, xs, ds, μ, rfl, ha, S, R, ok, q⟩ := h
  obtain ⟨its, rv, hl, hz⟩ := I.list (SqL.of ha)
  rw [Vals.ref1 r]
  obtain ⟨h1, h2⟩ := rps_each (K := X.K) I S R rv ok.1
  refine PySem.W.sorted_data (enc := encD) (bs := ds) hl.isList h2 h1 ok.2.1 ok.2.2.1 (by rw [← R.length]; exact hz) (fun d hd => by have := ok.2.2.2 d hd; omega) fun out e1 e2 => ?_
  obtain ⟨ws, v1, v2⟩ := each_rps e2
  obtain ⟨ep, he'⟩ := PyProof.Rows.sortedAll_at s.heap its out.toArray
  have hlen : ws.length ≤ sizeLine := by rw [v2.length, List.length_mergeSort, ← R.length]; exact hz
  exact ⟨.ref _, upd H (s.heap.objs.size + 1) (.lst ws), I.laid (t' := s.toks) (fun _ _ => PyProof.Rows.sortedAll_old) (Nat.le_succ _) ⟨hlen, out, ep, v1, he'⟩, rfl, q ws _ v2 (I.hok.fresh (Nat.le_succ _))⟩
theorem cd_sorted (hu : X.A.units + 64 < cLine) : CallD X (.builtin "sorted") gSorted := cd1 (cr_sortedD hu) (fun _ _ _ => rfl) fun x μ H v Q S R q => by
  cases x with
  | ob a =>
    rw [rp_ob R]
    rw [fSorted_ob] at q
    split at q
    · rename_i ds e
      obtain ⟨vs, h1, r⟩ := S.lst e
      exact ⟨a, vs, ds, μ, rfl, h1, S, r, q.1, fun us p ru hp => out_lst S ru q.2 p hp⟩
    · exact q.elim
  | _ => exact q.elim

/-! ### repr -/
def fRepr (x : D) (μ : Mu) (Q : PQ) : Prop := ∃ d, DPy μ x d ∧ SeqAt.shaped d = true ∧ d.showable = true ∧ d.shown.length ≤ sizeLine ∧ Q (.str d.shown) μ
def gRepr : GN := g1 fRepr fun {x μ Q Q'} hQ h => by
  obtain ⟨d, h1, h2, h3, h4, q⟩ := h
  exact ⟨d, h1, h2, h3, h4, hQ _ _ q⟩
def rRepr (K : PySem.W.Frag) : List V → Hp → VK → Prop := fun vs H Q => ∃ (x : V) (d : PyData), vs = [x] ∧ Dp K H x d ∧ SeqAt.shaped d = true ∧ d.showable = true ∧ d.shown.length ≤ sizeLine ∧ Q (.str d.shown) H
theorem cr_repr (hg : X.A.guards = some []) (hu : X.A.units + 65 < cLine) : CallR X (.builtin "repr") (rRepr X.K) := by
  intro pins s σ H vs us Q I r h
  obtain ⟨x, d, rfl, hd, hs, hsh, hln, q⟩ := h
  cases r with
  | cons r1 r2 =>
    cases r2
    rename_i u
    obtain ⟨as, rd⟩ := Dp.reads I d x u hd r1
    have hdep := SeqAt.depth_of_shaped hs
    have nd : d.hasDict = false := PyData.hasDict_of_canLay d (SeqAt.canLay_of_shaped hs)
    cases hd with
    | non => cases rd; exact PySem.P.repr_of_none ⟨.str _, H, I.tok _, ⟨_, rfl⟩, q⟩
    | bl b => cases rd; exact PySem.P.repr_of_bool ⟨.str _, H, I.tok _, ⟨_, rfl⟩, q⟩
    | int i =>
      cases rd
      exact PySem.P.repr_of_int (by simpa [PyData.showable] using hsh) ⟨.str _, H, I.tok _, ⟨_, rfl⟩, q⟩
    | str z =>
      cases rd
      exact PySem.P.repr_of_str ⟨.str _, H, I.tok _, ⟨_, rfl⟩, q⟩ hln
    | lst a1 a2 =>
      cases r1
      exact repr_of_reads' rd hsh (PyData.noDict_hsm nd) hg (by omega) (fun _ _ e => e) (fun h' u tk hk => ⟨.str _, H, I.kept hk, ⟨_, rfl⟩, q⟩) hln
    | tup a1 a2 =>
      cases r1
      exact repr_of_reads' rd hsh (PyData.noDict_hsm nd) hg (by omega) (fun _ _ e => e) (fun h' u tk hk => ⟨.str _, H, I.kept hk, ⟨_, rfl⟩, q⟩) hln
theorem cd_repr (hg : X.A.guards = some []) (hu : X.A.units + 65 < cLine) : CallD X (.builtin "repr") gRepr := cd1 (cr_repr hg hu) (fun _ _ _ => rfl) fun x μ H v Q S R ⟨d, h1, h2, h3, h4, q⟩ =>
  ⟨v, d, rfl, h1.dp S R, h2, h3, h4, q _ _ (Fr.refl μ H) S rfl⟩

/-! ### list(range(..)) -/
theorem rps_rg {K : PySem.W.Frag} {H : Hp} (lo : Int) (hi : Int) : Rps K H (rangeD lo (hi - lo).toNat) (L2.rgV lo hi) := by
  have e1 : rangeD lo (hi - lo).toNat = ((List.range (hi - lo).toNat).map fun i => lo + (i : Nat)).map D.int := by
    unfold rangeD; rw [List.map_map]; rfl
  have e2 : L2.rgV lo hi = ((List.range (hi - lo).toNat).map fun i => lo + (i : Nat)).map V.int := by
    unfold L2.rgV; rw [List.map_map]; rfl
  rw [e1, e2]
  exact Rps.of_ints _
def wLstRg1 (a : WE) : WE := ⟨fun ρ μ Q X => a.run ρ μ (fun x μ1 => onInt x fun j => L2.RgOk 0 j ∧ ∀ p, μ1 p = none → Q (.ob p) (mset μ1 p (.lst (rangeD 0 j.toNat)))) X,
  fun hQ hX h => a.mono (fun _ _ h => onInt_mono (fun _ q => ⟨q.1, fun p hp => hQ _ _ (q.2 p hp)⟩) h) hX h⟩
theorem wLstRg1_run {a : WE} {ρ : Ev} {μ : Mu} {Q : PQ} {X : XQ} : (wLstRg1 a).run ρ μ Q X = a.run ρ μ (fun x μ1 => onInt x fun j => L2.RgOk 0 j ∧ ∀ p, μ1 p = none → Q (.ob p) (mset μ1 p (.lst (rangeD 0 j.toNat)))) X := rfl
theorem le_listRg1 {a : Expr} {wa : WE} {p p2 pos pos2 : Pos} (hm : X.mg "list" = none) (hm2 : X.mg "range" = none) (ha : LE X Wx a wa) (hg : Gl X "list" := by rfl) (hg2 : Gl X "range" := by rfl) (hc : X.calm = true := by rfl)
    (na : starEach [a] X.env = (false, eval a X.env) :: starEach [] X.env := by rfl)
    (nb : starEach [.Call (.Name "range" p2) [a] [] pos2] X.env = (false, eval (.Call (.Name "range" p2) [a] [] pos2) X.env) :: starEach [] X.env := by rfl) : LE X Wx (.Call (.Name "list" p) [.Call (.Name "range" p2) [a] [] pos2] [] pos) (wLstRg1 wa) :=
  PE.weak (pe_listRg hc hg hm (prg_1 hg2 hm2 ha na) nb) fun σ H Q ⟨ρ, μ, E, S, h⟩ => by
    refine lW.bind E S h (fun x μ1 v H1 F1 S1 E1 r1 h1 => ?_) fun _ _ _ h => h
    obtain ⟨j, e, ok, q⟩ := onInt_v r1 h1
    have e2 := rps_rg (K := X.K) (H := H1) 0 j
    rw [Int.sub_zero] at e2
    exact ⟨j, e, ok, out_lst S1 e2 fun p hp => (q p hp).trans F1⟩

/-! ### ** of wider ints -/
def CPowW (i j : Int) : Prop := 0 ≤ j ∧ ∃ b : Nat, i.natAbs < 2 ^ b ∧ (b : Int) * j ≤ 2 ^ 27
theorem op_powW : OpR X (binaryOp .Pow) (rI CPowW fun i j => .int (i ^ j.toNat)) := opI fun i j _ _ _ _ _ hc q => by
  obtain ⟨h0, b, h1, h2⟩ := hc
  refine PyProof.Rows.pow_int h0 (Int.le_trans (Int.mul_le_mul_of_nonneg_right ?_ h0) h2) q
  exact Int.ofNat_le.mpr (PySem.intBits_le_iff.mpr h1)
def gPowW : G2 := gI CPowW fun i j => .int (i ^ j.toNat)
theorem od_powW : OpD X (binaryOp .Pow) gPowW := od_int op_powW fun _ _ _ => rfl

/-! ### chains of any length -/
def chainRun : List (G2 × WE) → D → Ev → Mu → PQ → XQ → Prop
  | [], _, _, _, _, _ => False
  | (g, w) :: cs, x, ρ, μ, Q, X => w.run ρ μ (fun y μ1 => g.run x y μ1 fun z μ2 => if cs.isEmpty then Q z μ2 else onBl z fun k => if k = true then chainRun cs y ρ μ2 Q X else Q (.bl false) μ2) X
theorem chainRun_mono : ∀ {cs : List (G2 × WE)} {x : D} {ρ : Ev} {μ : Mu} {Q Q' : PQ} {X X' : XQ}, (∀ d μ', Q d μ' → Q' d μ') → (∀ C d μ', X C d μ' → X' C d μ') → chainRun cs x ρ μ Q X → chainRun cs x ρ μ Q' X'
  | [], _, _, _, _, _, _, _, _, _, h => h
  | (g, w) :: cs, _, _, _, _, _, _, _, hQ, hX, h => w.mono (fun _ _ h => g.mono (fun z _ h => by
    revert h
    split
    · exact hQ _ _
    · exact onBl_mono fun k h => by
        cases k with
        | true => exact chainRun_mono hQ hX h
        | false => exact hQ _ _ h) h) hX h
end
end Sq

/-! Chains of any length. -/
namespace Sq
open PySem PySem.Spec PyProof.Rows L2
section
variable {X : Cx} {Wx : WX}
structure LCh (X : Cx) (Wx : WX) (ops : List CmpOp) (es : List Expr) (cs : List (G2 × WE)) : Prop where
  v : ∀ (pos : Pos) (pins : List (Addr × Obj)) (s : Shared) (σ : L2.St) (H : Hp) (u : Value) (x : V) (d : D) (ρ : Ev) (μ : Mu) (Q : VK), Inv X pins σ H s → RelV x u → Rp X.K H d x → EnvR X.K H ρ σ → Sim X.K μ H →
    chainRun cs d ρ μ (Out (Rp X.K) X.K μ H Q) (OutX X.K Wx σ μ H) → wpAny (model X.prog X.w) X.A (compareChain pos u ops (evalEach es X.env)) (EP X pins σ Q) X.xe s
  t : ∀ (pos : Pos) (pins : List (Addr × Obj)) (s : Shared) (σ : L2.St) (H : Hp) (u : Value) (x : V) (d : D) (ρ : Ev) (μ : Mu) (Q : Bool → Hp → Prop), Inv X pins σ H s → RelV x u → Rp X.K H d x → EnvR X.K H ρ σ → Sim X.K μ H →
    chainRun cs d ρ μ (fun z μ' => onBl z fun k => Out (fun (_ : Hp) (b c : Bool) => b = c) X.K μ H Q k μ') (OutX X.K Wx σ μ H) → wpAny (model X.prog X.w) X.A (testChain pos u ops (evalEach es X.env)) (TP X pins σ Q) X.xe s
theorem lch_last {op : CmpOp} {b : Expr} {g : G2} {w : WE} (ho : OpD X (compareOp op) g) (hb : LE X Wx b w) : LCh X Wx [op] [b] [(g, w)] := by
  obtain ⟨r, h1, h2⟩ := ho
  refine ⟨fun pos pins s σ H u x d ρ μ Q I ru R E S h => ?_, fun pos pins s σ H u x d ρ μ Q I ru R E S h => ?_⟩
  · refine chain_last (thn (hb.run pins s σ H (fun y H1 => ∃ (d : D) (μ1 : Mu), r x y H1 Q) I (lW.bind (R := Rp X.K) E S h (fun y μ1 v H1 F1 S1 E1 r1 q1 => ?_) fun _ _ _ h => h)) fun u2 s1 ⟨y, H1, I1, r1, _, _, q1⟩ => h1 pins s1 σ H1 x y u u2 _ I1 ru r1 q1)
    exact ⟨y, μ1, h2 d y μ1 H1 x v Q S1 (Rp.keep S F1 d R) r1 (g.mono (fun _ _ q => Out.trans F1 q) q1)⟩
  · refine test_last (thn (hb.run pins s σ H (fun y H1 => r x y H1 fun z H2 => ∃ k, z = .bl k ∧ Q k H2) I (lW.bind (R := Rp X.K) E S h (fun y μ1 v H1 F1 S1 E1 r1 q1 => ?_) fun _ _ _ h => h)) fun u2 s1 ⟨y, H1, I1, r1, q1⟩ => thn (h1 pins s1 σ H1 x y u u2 _ I1 ru r1 q1) fun u3 s2 ⟨z, H2, I2, r2, k, e, q2⟩ => ?_)
    · refine h2 d y μ1 H1 x v _ S1 (Rp.keep S F1 d R) r1 (g.mono (fun z μ2 q z' H2 F2 S2 r2 => ?_) q1)
      obtain ⟨k, e, q⟩ := onBl_v r2 (show onBl z _ from q)
      exact ⟨k, e, q _ _ (F1.trans F2) S2 rfl⟩
    · subst e
      cases r2
      exact wpAny_truthy_bool ⟨H2, I2, q2⟩
theorem lch_cons {op op' : CmpOp} {ops : List CmpOp} {b b' : Expr} {bs : List Expr} {g : G2} {w : WE} {c : G2 × WE} {cs : List (G2 × WE)} (ho : OpD X (compareOp op) g) (hb : LE X Wx b w) (hc : LCh X Wx (op' :: ops) (b' :: bs) (c :: cs)) : LCh X Wx (op :: op' :: ops) (b :: b' :: bs) ((g, w) :: c :: cs) := by
  obtain ⟨r, h1, h2⟩ := ho
  refine ⟨fun pos pins s σ H u x d ρ μ Q I ru R E S h => ?_, fun pos pins s σ H u x d ρ μ Q I ru R E S h => ?_⟩
  · refine chain_link (thn (hb.run pins s σ H (fun y H1 => ∃ (dy : D) (μ1 : Mu), Fr μ H μ1 H1 ∧ Sim X.K μ1 H1 ∧ EnvR X.K H1 ρ σ ∧ Rp X.K H1 dy y ∧ r x y H1 fun z H2 => ∃ k, z = .bl k ∧ ∃ μ2, Fr μ H μ2 H2 ∧ Sim X.K μ2 H2 ∧ EnvR X.K H2 ρ σ ∧ Rp X.K H2 dy y ∧
      (if k = true then chainRun (c :: cs) dy ρ μ2 (Out (Rp X.K) X.K μ H Q) (OutX X.K Wx σ μ H) else Out (Rp X.K) X.K μ H Q (.bl false) μ2)) I (lW.bind (R := Rp X.K) E S h (fun y μ1 v H1 F1 S1 E1 r1 q1 => ?_) fun _ _ _ h => h)) fun u2 s1 ⟨y, H1, I1, r1, dy, μ1, F1, S1, E1, R1, q1⟩ =>
        thn (h1 pins s1 σ H1 x y u u2 _ I1 ru r1 q1) fun u3 s2 ⟨z, H2, I2, r2, k, e, μ2, F2, S2, E2, R2, q2⟩ => ?_)
    · refine ⟨y, μ1, F1, S1, E1, r1, h2 d y μ1 H1 x v _ S1 (Rp.keep S F1 d R) r1 (g.mono (fun z μ2 q z' H2 F2 S2 r2 => ?_) q1)⟩
      obtain ⟨k, e, q⟩ := onBl_v r2 (show onBl z _ from q)
      exact ⟨k, e, μ2, F1.trans F2, S2, E1.keep S1 F2, Rp.keep S1 F2 y r1, q⟩
    · subst e
      cases r2
      refine wpAny_truthy_bool ?_
      cases k with
      | false => exact ite_ff ⟨.bl false, H2, I2, rfl, q2 _ _ F2 S2 rfl⟩
      | true => exact ite_tt (hc.v pos pins s2 σ H2 u2 y dy ρ μ2 Q I2 r1 R2 E2 S2 (chainRun_mono (fun _ _ q => Out.trans F2 q) (fun _ _ _ q => OutX.trans F2 q) q2))
  · refine test_link (thn (hb.run pins s σ H (fun y H1 => ∃ (dy : D) (μ1 : Mu), Fr μ H μ1 H1 ∧ Sim X.K μ1 H1 ∧ EnvR X.K H1 ρ σ ∧ Rp X.K H1 dy y ∧ r x y H1 fun z H2 => ∃ k, z = .bl k ∧ ∃ μ2, Fr μ H μ2 H2 ∧ Sim X.K μ2 H2 ∧ EnvR X.K H2 ρ σ ∧ Rp X.K H2 dy y ∧
      (if k = true then chainRun (c :: cs) dy ρ μ2 (fun z μ' => onBl z fun k => Out (fun (_ : Hp) (b c : Bool) => b = c) X.K μ H Q k μ') (OutX X.K Wx σ μ H) else Out (fun (_ : Hp) (b c : Bool) => b = c) X.K μ H Q false μ2)) I (lW.bind (R := Rp X.K) E S h (fun y μ1 v H1 F1 S1 E1 r1 q1 => ?_) fun _ _ _ h => h)) fun u2 s1 ⟨y, H1, I1, r1, dy, μ1, F1, S1, E1, R1, q1⟩ =>
        thn (h1 pins s1 σ H1 x y u u2 _ I1 ru r1 q1) fun u3 s2 ⟨z, H2, I2, r2, k, e, μ2, F2, S2, E2, R2, q2⟩ => ?_)
    · refine ⟨y, μ1, F1, S1, E1, r1, h2 d y μ1 H1 x v _ S1 (Rp.keep S F1 d R) r1 (g.mono (fun z μ2 q z' H2 F2 S2 r2 => ?_) q1)⟩
      obtain ⟨k, e, q⟩ := onBl_v r2 (show onBl z _ from q)
      refine ⟨k, e, μ2, F1.trans F2, S2, E1.keep S1 F2, Rp.keep S1 F2 y r1, ?_⟩
      cases k with
      | false => exact q
      | true => exact q
    · subst e
      cases r2
      refine wpAny_truthy_bool ?_
      cases k with
      | false => exact ite_ff ⟨H2, I2, q2 _ _ F2 S2 rfl⟩
      | true => exact ite_tt (hc.t pos pins s2 σ H2 u2 y dy ρ μ2 Q I2 r1 R2 E2 S2 (chainRun_mono (fun z _ q => onBl_mono (fun _ q => Out.trans F2 q) q) (fun _ _ _ q => OutX.trans F2 q) q2))
def wChainN (a : WE) (cs : List (G2 × WE)) : WE := ⟨fun ρ μ Q X => a.run ρ μ (fun x μ1 => chainRun cs x ρ μ1 Q X) X, fun hQ hX h => a.mono (fun _ _ h => chainRun_mono hQ hX h) hX h⟩
theorem wChainN_run {a : WE} {cs : List (G2 × WE)} {ρ : Ev} {μ : Mu} {Q : PQ} {X : XQ} : (wChainN a cs).run ρ μ Q X = a.run ρ μ (fun x μ1 => chainRun cs x ρ μ1 Q X) X := rfl
theorem chainRun_last {g : G2} {w : WE} {x : D} {ρ : Ev} {μ : Mu} {Q : PQ} {X : XQ} : chainRun [(g, w)] x ρ μ Q X = w.run ρ μ (fun y μ1 => g.run x y μ1 Q) X := rfl
theorem chainRun_cons {g : G2} {w : WE} {c : G2 × WE} {cs : List (G2 × WE)} {x : D} {ρ : Ev} {μ : Mu} {Q : PQ} {X : XQ} : chainRun ((g, w) :: c :: cs) x ρ μ Q X = w.run ρ μ (fun y μ1 => g.run x y μ1 fun z μ2 => onBl z fun k => if k = true then chainRun (c :: cs) y ρ μ2 Q X else Q (.bl false) μ2) X := rfl
theorem le_chainN {op op' : CmpOp} {ops : List CmpOp} {a b b' : Expr} {bs : List Expr} {pos : Pos} {wa : WE} {cs : List (G2 × WE)} (ha : LE X Wx a wa) (hc : LCh X Wx (op :: op' :: ops) (b :: b' :: bs) cs) (hm : lastMarks (op :: op' :: ops) (b :: b' :: bs) = false := by with_unfolding_all rfl) :
    LE X Wx (.Compare a (op :: op' :: ops) (b :: b' :: bs) pos) (wChainN wa cs) := ⟨fun pins s σ H Q I ⟨ρ, μ, E, S, h⟩ =>
  Compare_chain (thn (ha.run pins s σ H (fun x H1 => ∃ (d : D) (μ1 : Mu), Fr μ H μ1 H1 ∧ Sim X.K μ1 H1 ∧ EnvR X.K H1 ρ σ ∧ Rp X.K H1 d x ∧ chainRun cs d ρ μ1 (Out (Rp X.K) X.K μ H Q) (OutX X.K Wx σ μ H)) I (lW.bind (R := Rp X.K) E S h (fun x μ1 v H1 F1 S1 E1 r1 q1 => ⟨x, μ1, F1, S1, E1, r1, q1⟩) fun _ _ _ h => h))
    fun u s1 ⟨x, H1, I1, ru, d, μ1, F1, S1, E1, R1, q1⟩ => hc.v pos pins s1 σ H1 u x d ρ μ1 Q I1 ru R1 E1 S1 (chainRun_mono (fun _ _ q => Out.trans F1 q) (fun _ _ _ q => OutX.trans F1 q) q1)) hm⟩
theorem lt_chainN {op op' : CmpOp} {ops : List CmpOp} {a b b' : Expr} {bs : List Expr} {pos : Pos} {wa : WE} {cs : List (G2 × WE)} (ha : LE X Wx a wa) (hc : LCh X Wx (op :: op' :: ops) (b :: b' :: bs) cs) (hm : lastMarks (op :: op' :: ops) (b :: b' :: bs) = false := by with_unfolding_all rfl) :
    LT X Wx (.Compare a (op :: op' :: ops) (b :: b' :: bs) pos) (wTB (wChainN wa cs)) := ⟨fun pins s σ H Q I ⟨ρ, μ, E, S, h⟩ =>
  isTrue_chain (thn (ha.run pins s σ H (fun x H1 => ∃ (d : D) (μ1 : Mu), Fr μ H μ1 H1 ∧ Sim X.K μ1 H1 ∧ EnvR X.K H1 ρ σ ∧ Rp X.K H1 d x ∧ chainRun cs d ρ μ1 (fun z μ' => onBl z fun k => Out (fun (_ : Hp) (b c : Bool) => b = c) X.K μ H Q k μ') (OutX X.K Wx σ μ H)) I (lW.bind (R := Rp X.K) E S h (fun x μ1 v H1 F1 S1 E1 r1 q1 => ⟨x, μ1, F1, S1, E1, r1, q1⟩) fun _ _ _ h => h))
    fun u s1 ⟨x, H1, I1, ru, d, μ1, F1, S1, E1, R1, q1⟩ => hc.t pos pins s1 σ H1 u x d ρ μ1 Q I1 ru R1 E1 S1 (chainRun_mono (fun z _ q => onBl_mono (fun _ q => Out.trans F1 q) q) (fun _ _ _ q => OutX.trans F1 q) q1)) hm⟩
end
end Sq

/-! The law's end. -/
namespace Sq
open PySem PySem.Spec PyProof.Rows L2
abbrev mu0 : Mu := fun _ => none
/-- the law's call, its script a list that is read alone -/
theorem law_go {P : Program} {w : World} {K : PySem.W.Frag} {mg mb : Str → Option Value} {k : Nat} {fa a : Addr} {fd : FuncData} {x : Str} {S : SpD} {t : Shared} {vs : List Value} {ns : List Int}
    (hK : K.In t.heap) (hG : t.heap.Ns mainGlobals mg) (hB : t.heap.Ns builtinsNs mb) (hBB : ∀ z : Str, z ≠ "__name__" → mb z = bootBuiltins z) (hL : t.heap.NoLimit) (hgen : t.gens = #[])
    (hobj : t.heap.get? a = some { cls := .type "list", data := .seq vs.toArray }) (hints : IntsAre vs ns) (hz : ns.length ≤ sizeLine) (hroom : Room k callerA)
    (F : ∀ base : Heap, K.In base → base.Ns mainGlobals mg → RunOk P w K mg base k fa fd [x] (spOf K 1 S)) (hbd : ∀ (s : Shared) (u : Value), BindsTo s fd ⟨[u], []⟩ [(x, u)])
    (hS : S.run [.rls (ns.map D.int)] mu0 (fun d _ => d = .bl true) XF) :
    codeAny (model P w) callerA (.call (.ref fa) ⟨[.ref a], []⟩) (fun r s' => r = .ok (.ret (.bool true)) ∧ OldK t.heap s'.heap ∧ s'.os = t.os ∧ AllBare s'.gens) t := by
  have hV := L2.vals_ints hints
  have hlen := hints.length
  suffices go : ∀ H : Hp, (∀ b, H b = none ∨ (b = a ∧ K.lookup a = none ∧ ∃ o xs, H b = some (.frz o (.lst xs)))) → SqR K H a (ns.map V.int) → HOk P w H t.heap →
      codeAny (model P w) callerA (.call (.ref fa) ⟨[.ref a], []⟩) (fun r s' => r = .ok (.ret (.bool true)) ∧ OldK t.heap s'.heap ∧ s'.os = t.os ∧ AllBare s'.gens) t by
    cases e : K.lookup a with
    | some o =>
      have e' := hK a o e
      rw [hobj] at e'; cases e'
      exact go (fun _ => none) (fun _ => .inl rfl) (.inr ⟨_, vs.toArray, _, e, rfl, rfl, rfl, by rw [List.size_toArray, hlen]; exact hz, by simpa using hV⟩) fun b u z => nomatch z
    | none =>
      refine go (fun b => if b = a then some (.frz { cls := .type "list", data := .seq vs.toArray } (.lst (ns.map V.int))) else none) (fun b => ?_) (.inl ⟨_, if_pos rfl⟩) fun b u z => ?_
      · by_cases q : b = a
        · exact .inr ⟨q, e, _, _, if_pos q⟩
        · exact .inl (if_neg q)
      · by_cases q : b = a
        · have z2 := (if_pos q).symm.trans z
          cases z2
          subst q
          exact ⟨hobj, by rw [List.length_map]; exact hz, vs, _, hV, hobj⟩
        · exact nomatch (if_neg q).symm.trans z
  intro H one seq hok
  have free : ∀ {b : Addr} {o : Obj}, t.heap.get? b = some o → (b = a → K.lookup a = none → False) → (hidT t.heap H).get? b = some o := fun {b o} e n => hidT_get e (by
    rcases one b with z | ⟨z1, z2, _⟩
    · exact z
    · exact (n z1 z2).elim)
  have inB : K.In (hidT t.heap H) := fun b o e => free (hK b o e) fun z1 z2 => by
    subst z1
    rw [e] at z2; cases z2
  have nsB : ∀ {b : Addr} {m : Str → Option Value}, t.heap.Ns b m → (hidT t.heap H).Ns b m := fun {b m} ⟨o, es, ep, e, d, r⟩ => ⟨o, es, ep, free e (fun z1 _ => by
    subst z1
    rw [hobj] at e; cases e
    have d2 : Data.seq vs.toArray _ = Data.dict es ep := d
    cases d2), d, r⟩
  have md : Mod K mg (hidT t.heap H) := ⟨inB, nsB hG, ⟨mb, nsB hB, hBB⟩, by
    obtain ⟨mc, c1, c2⟩ := hL
    exact ⟨mc, nsB c1, c2⟩⟩
  have en : Env0 P w K mg (hidT t.heap H) callerA [] t H := ⟨rfl, md, fun b o e => of_hidT e, Nat.le_of_eq (hidT_size _ _), trivial, fun b hb => absurd (show b ∈ ([] : List Addr) from hb) (by simp), hok, .of_eq hgen⟩
  have S0 : Sim K mu0 H := ⟨fun b o e => nomatch e⟩
  have R0 : Rps K H [.rls (ns.map D.int)] [.ref a] := by
    unfold Rps
    refine ⟨_, _, rfl, ?_, rfl⟩
    unfold Rp
    exact ⟨a, _, rfl, seq, Rps.of_ints ns⟩
  have sp0 : spOf K 1 S [.ref a] H (fun v _ => v = .bl true) (fun _ _ _ => False) := ⟨rfl, _, _, R0, S0, S.mono (fun d μ' q v H' _ _ r => by
    subst q
    exact r) (fun _ _ _ q => q.elim) hS⟩
  refine codeAny_mono (F _ inB (nsB hG) callerA [] t H ⟨[.ref a], []⟩ [.ref a] [.ref a] _ _ rfl hroom en (hbd t (.ref a)) (.cons rfl .nil) sp0) fun r s' h => ?_
  match r, h with
  | .error e, ⟨_, _, _, _, _, _, _, _, _, _, _, _, z⟩ => exact z.elim
  | .ok .next, h => exact False.elim h
  | .ok .brk, h => exact False.elim h
  | .ok .cont, h => exact False.elim h
  | .ok (.ret u), ⟨v, H', e1, e2, un, ok2, rv, q⟩ =>
    have q2 : v = .bl true := q
    subst q2
    obtain rfl : u = Value.bool true := rv
    refine ⟨rfl, OldK.of_keep fun b o e => ?_, e1, e2⟩
    rcases one b with z | ⟨_, _, ob, xs, z⟩
    · exact un.keep b o e z (fun y => absurd (show b ∈ ([] : List Addr) from y) (by simp)) (by simp)
    · obtain ⟨a1, _⟩ := hok b _ z
      obtain ⟨a2, _⟩ := ok2 b _ (un.frzs b ob _ z)
      rw [e] at a1; cases a1
      exact a2
/-- the row's walk, from the promise of the law's def -/
theorem law_walk {l : PySem.W.OpenLaw} {q : Program} {loose : List Str} {XP : (Str → Option Value) → Heap → Prop} {YP : World → Heap → Prop} {d : DefRec} {K : Params → PySem.W.Frag} {x : Str} {S : SpD} (k : Nat)
    (hn : l.most = some 63) (hdf : d.params.defaults = []) (hk : k ≤ 90)
    (hY : ∀ (w : World) (h : Heap), YP w h → (K w.params).In h)
    (F : ∀ (w : World) (mg : Str → Option Value) (fa : Addr) (h : Heap), (K w.params).In h → h.Ns mainGlobals mg → mg d.name = some (.ref fa) →
      ∃ fd : FuncData, (∀ (s : Shared) (u : Value), BindsTo s fd ⟨[u], []⟩ [(x, u)]) ∧ ∀ base : Heap, (K w.params).In base → base.Ns mainGlobals mg → RunOk l.prog w (K w.params) mg base k fa fd [x] (spOf (K w.params) 1 S))
    (hS : ∀ ns : List Int, ns.length ≤ 63 → (∀ z ∈ ns, Builtin.Int.intBits z ≤ 1048576) → S.run [.rls (ns.map D.int)] mu0 (fun d _ => d = .bl true) XF) :
    PySem.W.WalkO q loose XP YP l.row.toRowW d [] (fun f vs => PySem.call f vs) := by
  refine Att.attach_callB hn hdf fun w s₀ s₁ mg mb fa o pm cd doc a vs ns G Y ho hd hcd hmg hobj hints hlen hbits hg => ?_
  have KX := hY w _ Y
  obtain ⟨fd, hb, hF⟩ := F w mg fa _ KX G.T.g hmg
  refine law_go KX G.T.g G.T.b G.T.builtins G.T.nolimit hg hobj hints (Nat.le_trans hlen (by rw [sizeLine_eq]; decide)) ?_ hF hb (hS ns hlen hbits)
  exact L2.Room.mono (k := 90) ⟨rfl, by decide, by decide⟩ hk
end Sq
namespace Sq
open PySem PySem.Spec PyProof.Rows L2
/-- a def's promise by its body, for the function object at hand -/
theorem fn_run {P : Program} {w : World} {K : PySem.W.Frag} {mg : Str → Option Value} {base : Heap} {x : Str} {st : Stmt} {f : Addr} {fd : FuncData} {N ps : List Str} {k : Nat} {Sd : SpD} (F : Fun K x x st f fd) (S : FnScope N ps (defScope st)) (wb : WS)
    (hder : ∀ (cdv : Value) (A : Around) (outer : List Env) (s : Shared) (H : Hp) (E : XK), A.guards = some [] → Room k (A.deeper (envOfC x (defScope st) s.heap.objs.size f cdv)) → LSs (cxOf (L2.CX P w) P w K mg base N x (defScope st) f cdv A outer s H E) (wxE E) (defBody st) wb)
    (hread : ∀ (ds : List D) (μ : Mu) (Q : PQ) (X : XQ), ds.length = ps.length → Sd.run ds μ Q X → wb.run (bodyD Q X) (ev0 N.length ds) μ) : RunOk P w K mg base (k + 1) f fd ps (spOf K ps.length Sd) := by
  obtain ⟨oc, od, kV, doc, pm, an, cdv, ct, osl, efd, lk, hcd⟩ := F.ex
  intro A outer s H args us vs Q E hg hr e0 hbd r hsp
  subst efd
  refine LamX.run_ofS (N := N) lk hcd S hr e0 hbd r hsp.1 fun hr' => ⟨_, hder cdv A outer s H E hg hr', ?_⟩
  obtain ⟨hl, ds, μ, R, Sm, q⟩ := hsp
  have hd : ds.length = ps.length := by rw [← R.length]; exact hl
  refine ⟨ev0 N.length ds, μ, ?_, Sm, wb.mono (D := bodyD (Out (Rp K) K μ H Q) (OutE K μ H E)) ⟨?_, fun d μ' h => SubQ.out h, fun _ _ z => z.elim, fun _ _ z => z.elim, ?_⟩ (hread ds μ _ _ hd q)⟩
  · unfold ev0 L2.start
    rw [R.length]
    exact EnvR.start R
  · exact fun ρ μ' h σ' H' F' S' E' => SubQ.out h .non H' F' S' rfl
  · rintro ρ C d μ' ⟨μ'', s, q⟩ σ' dx v H' F' S' E' e r
    exact q dx v H' (sub_fr s F') (sub_sim s S') e r
end Sq

/-! Promises: shapes, the harness's pot. -/
namespace Sq
open PySem PySem.Spec PyProof.Rows L2
theorem u65 {A : Around} {k : Nat} (r : Room k A) : A.units + 65 < cLine := by have := r.un; omega
section
variable {X : Cx} {Wx : WX}
theorem le_globI {x : Str} {n : Int} {pos : Pos} (hm : ∃ t, X.mg x = some (.int n t)) (hg : Gl X x := by rfl) (hd : (x == ("__debug__" : Str)) = false := by decide) : LE X Wx (.Name x pos) (wC (.int n)) := by
  obtain ⟨t, hm⟩ := hm
  exact le_glob (v := .int n) hm ⟨t, rfl⟩ (fun _ => rfl) hg hd
theorem le_globS {x y : Str} {pos : Pos} (hm : ∃ t, X.mg x = some (.str y t)) (hg : Gl X x := by rfl) (hd : (x == ("__debug__" : Str)) = false := by decide) : LE X Wx (.Name x pos) (wC (.str y)) := by
  obtain ⟨t, hm⟩ := hm
  exact le_glob (v := .str y) hm ⟨t, rfl⟩ (fun _ => rfl) hg hd
end
abbrev t2 (x y : Int) : D := .tup [.int x, .int y]
abbrev f3 (a b c : Int) : D := .tup [.int a, .int b, .int c]
abbrev t4 (p q r s : Int) : D := .tup [.int p, .int q, .int r, .int s]
/-- a promise: what is asked of the arguments, then every result that may come -/
def spQ (P : List D → Mu → PQ → Prop) (m : ∀ {ds μ Q Q'}, (∀ d μ', Q d μ' → Q' d μ') → P ds μ Q → P ds μ Q') : SpD := ⟨fun ds μ Q _ => P ds μ Q, fun hQ _ h => m hQ h⟩
/-- one result, nothing kept in the store -/
def spR (R : List D → D → Prop) : SpD := ⟨fun ds μ Q _ => ∃ r, R ds r ∧ Q r μ, fun hQ _ ⟨r, h, q⟩ => ⟨r, h, hQ _ _ q⟩⟩
theorem spR_run {R : List D → D → Prop} {ds : List D} {μ : Mu} {Q : PQ} {X : XQ} : (spR R).run ds μ Q X = ∃ r, R ds r ∧ Q r μ := rfl
def spNo : SpD := ⟨fun _ _ _ _ => False, fun _ _ h => h⟩
def B64 (x : Int) : Prop := -(2 ^ 64) < x ∧ x < 2 ^ 64
theorem B64.l {i j : Int} (h : B64 i) : IntMulOk i j := mulOk_l h.1 h.2
theorem B64.r {i j : Int} (h : B64 j) : IntMulOk i j := mulOk_r h.1 h.2
theorem B64.mk {x : Int} (h1 : -18446744073709551616 < x) (h2 : x < 18446744073709551616) : B64 x := ⟨by omega, by omega⟩

/-! ### the pot: [own, small, lap] -/
def potL (x y z : Int) : List D := [.int x, .int y, .int z]
def PotAt (n : Nat) (μ : Mu) (p : Addr) : Prop := ∃ x y z : Int, μ p = some (.lst (potL x y z)) ∧ 0 ≤ x ∧ 0 ≤ y ∧ y < 2305843009213693952 ∧ 0 ≤ z ∧ z ≤ n
/-- the store with another pot at p -/
def potS (μ : Mu) (p : Addr) (x y z : Int) : Mu := mset μ p (.lst (potL x y z))
theorem PotAt.mk {n : Nat} {μ : Mu} {p : Addr} {x y z : Int} (h0 : 0 ≤ x) (h1 : 0 ≤ y) (h2 : y < 2305843009213693952) (h3 : 0 ≤ z) (h4 : z ≤ n) : PotAt n (potS μ p x y z) p := ⟨x, y, z, mset_same _ _ _, h0, h1, h2, h3, h4⟩
theorem PotAt.mono {n m : Nat} {μ : Mu} {p : Addr} (h : PotAt n μ p) (k : n ≤ m) : PotAt m μ p := by
  obtain ⟨x, y, z, h1, h2, h3, h4, h5, h6⟩ := h
  exact ⟨x, y, z, h1, h2, h3, h4, h5, by omega⟩
theorem PotAt.ne {n : Nat} {μ : Mu} {p q : Addr} (h : PotAt n μ p) (k : μ q = none) : p ≠ q := by
  obtain ⟨x, y, z, h1, _⟩ := h
  exact ne_free h1 k
theorem PotAt.new {n : Nat} {μ : Mu} {p q : Addr} {o : O} (h : PotAt n μ p) (k : μ q = none) : PotAt n (mset μ q o) p := by
  have := h.ne k
  obtain ⟨x, y, z, h1, r⟩ := h
  exact ⟨x, y, z, by rw [mset_ne this]; exact h1, r⟩
/-- the pot alone has changed -/
def PotTo (n : Nat) (μ μ' : Mu) (p : Addr) : Prop := PotAt n μ' p ∧ ∀ b, b ≠ p → μ' b = μ b
theorem PotTo.at_ {n : Nat} {μ μ' : Mu} {p : Addr} (h : PotTo n μ μ' p) : PotAt n μ' p := h.1
theorem PotTo.trans {n m : Nat} {μ μ1 μ2 : Mu} {p : Addr} (h : PotTo n μ μ1 p) (k : PotTo m μ1 μ2 p) : PotTo m μ μ2 p := ⟨k.1, fun b hb => (k.2 b hb).trans (h.2 b hb)⟩
theorem PotTo.mono {n m : Nat} {μ μ1 : Mu} {p : Addr} (h : PotTo n μ μ1 p) (k : n ≤ m) : PotTo m μ μ1 p := ⟨h.1.mono k, h.2⟩
theorem PotTo.refl {n : Nat} {μ : Mu} {p : Addr} (h : PotAt n μ p) : PotTo n μ μ p := ⟨h, fun _ _ => rfl⟩
theorem PotTo.of {n : Nat} {μ : Mu} {p : Addr} {x y z : Int} (h0 : 0 ≤ x) (h1 : 0 ≤ y) (h2 : y < 2305843009213693952) (h3 : 0 ≤ z) (h4 : z ≤ n) : PotTo n μ (potS μ p x y z) p := ⟨PotAt.mk h0 h1 h2 h3 h4, fun b hb => mset_ne hb⟩
/-- _law_take -/
def spTake : SpD := spQ (fun ds μ Q => ∃ p upto n, ds = [.ob p, .int upto] ∧ PotAt n μ p ∧ n ≤ 1000000 ∧ 0 < upto ∧ upto < 1099511627776 ∧ ∀ d μ', 0 ≤ d → d < upto → PotTo (n + 1) μ μ' p → Q (.int d) μ') fun hQ ⟨p, u, n, h1, h2, h3, h4, h5, h6⟩ => ⟨p, u, n, h1, h2, h3, h4, h5, fun d μ' a b c => hQ _ _ (h6 d μ' a b c)⟩
/-- _law_of -/
def spOfL : SpD := spQ (fun ds μ Q => ∃ p l n xs, ds = [.ob p, .ob l] ∧ PotAt n μ p ∧ n ≤ 1000000 ∧ μ l = some (.lst xs) ∧ xs ≠ [] ∧ xs.length < 1000 ∧ l ≠ p ∧ ∀ d μ', d ∈ xs → PotTo (n + 1) μ μ' p → Q d μ') fun hQ ⟨p, l, n, xs, h1, h2, h3, h4, h5, h6, h7, h8⟩ => ⟨p, l, n, xs, h1, h2, h3, h4, h5, h6, h7, fun d μ' a b => hQ _ _ (h8 d μ' a b)⟩
/-- _law_pot -/
def spPot : SpD := spQ (fun ds μ Q => ∃ (ns : List Int) (k : Int), ds = [.rls (ns.map D.int), .int k] ∧ ns.length ≤ 63 ∧ 0 ≤ k ∧ k < 1000 ∧ ∀ p μ', μ p = none → PotTo 0 μ μ' p → Q (.ob p) μ') fun hQ ⟨ns, k, h1, h2, h3, h4, h5⟩ => ⟨ns, k, h1, h2, h3, h4, fun p μ' a b => hQ _ _ (h5 p μ' a b)⟩
/-- _law_cells -/
def spCells : SpD := spQ (fun ds μ Q => ∃ (ns : List Int) (m : Int), ds = [.rls (ns.map D.int), .int m] ∧ ns.length ≤ 63 ∧ 0 < m ∧ m < 1000 ∧ ∀ p (k : Nat), μ p = none → k ≤ m → Q (.ob p) (mset μ p (.lst (rangeD 0 k)))) fun hQ ⟨ns, m, h1, h2, h3, h4, h5⟩ => ⟨ns, m, h1, h2, h3, h4, fun p k a b => hQ _ _ (h5 p k a b)⟩
end Sq

/-! For readings. -/
namespace Sq
open PySem PySem.Spec PyProof.Rows L2
section
variable {α : Type}
theorem ixN_nn {n j : Nat} (h : j < n) : L2.ixN n (j : Int) = some j := by
  unfold L2.ixN
  rw [if_pos (by omega), if_pos (by omega)]
  simp
theorem atI_nat {xs : List α} {n : Nat} {x : α} (h : xs[n]? = some x) : L2.atI xs (n : Int) = some x := by
  unfold L2.atI
  rw [ixN_nn (List.getElem?_eq_some_iff.mp h).1]
  exact h
theorem atI_int {xs : List α} {i : Int} {x : α} (h0 : 0 ≤ i) (h : xs[i.toNat]? = some x) : L2.atI xs i = some x := by
  obtain ⟨n, rfl⟩ := Int.eq_ofNat_of_zero_le h0
  exact atI_nat h
theorem atI_0 {x : α} {xs : List α} : L2.atI (x :: xs) 0 = some x := atI_nat (n := 0) rfl
theorem atI_1 {x y : α} {xs : List α} : L2.atI (x :: y :: xs) 1 = some y := atI_nat (n := 1) rfl
theorem atI_2 {x y z : α} {xs : List α} : L2.atI (x :: y :: z :: xs) 2 = some z := atI_nat (n := 2) rfl
theorem atI_3 {x y z u : α} {xs : List α} : L2.atI (x :: y :: z :: u :: xs) 3 = some u := atI_nat (n := 3) rfl
theorem atI_m4 {x y z u : α} : L2.atI [x, y, z, u] (-1) = some u := rfl
theorem ixN_0 {n : Nat} : L2.ixN (n + 1) 0 = some 0 := ixN_nn (j := 0) (by omega)
theorem ixN_1 {n : Nat} : L2.ixN (n + 2) 1 = some 1 := ixN_nn (j := 1) (by omega)
theorem ixN_30 : L2.ixN 3 0 = some 0 := rfl
theorem ixN_31 : L2.ixN 3 1 = some 1 := rfl
theorem ixN_32 : L2.ixN 3 2 = some 2 := rfl
end
/-- a comprehension by an invariant -/
theorem lcG_by {t : CT} {tt : WT} {te : WE} {chk : Mu → Prop} {ds : List D} {ρ : Ev} {k : List D → Mu → Prop} (P : Nat → List D → Mu → Prop) (hc : ∀ i acc μ, i ≤ ds.length → P i acc μ → chk μ)
    (hs : ∀ i d acc μ, ds[i]? = some d → P i acc μ → ∃ ρ1, t.set d ρ = some ρ1 ∧ tt.run ρ1 μ (fun b μ1 => if b = true then te.run ρ1 μ1 (fun y μ2 => P (i + 1) (acc ++ [y]) μ2) XF else P (i + 1) acc μ1) XF) (hd : ∀ acc μ, P ds.length acc μ → k acc μ) {μ : Mu} (h0 : P 0 [] μ) : lcG t tt te chk ds [] ρ μ k := by
  have key : ∀ (n : Nat) (i : Nat) (acc : List D) (μ : Mu), i + n = ds.length → P i acc μ → lcG t tt te chk (ds.drop i) acc ρ μ k := by
    intro n
    induction n with
    | zero =>
      intro i acc μ hi p
      have e : i = ds.length := by omega
      subst e
      rw [List.drop_length]
      exact ⟨hc _ _ _ (Nat.le_refl _) p, hd _ _ p⟩
    | succ n ih =>
      intro i acc μ hi p
      have hlt : i < ds.length := by omega
      rw [List.drop_eq_getElem_cons hlt]
      obtain ⟨ρ1, e1, q⟩ := hs i ds[i] acc μ (by simp [hlt]) p
      refine ⟨hc _ _ _ (Nat.le_of_lt hlt) p, ?_⟩
      rw [e1]
      refine tt.mono (fun b μ1 q => ?_) (fun _ _ _ q => q) q
      cases b with
      | true => exact te.mono (fun y μ2 q => ih (i + 1) _ μ2 (by omega) q) (fun _ _ _ q => q) q
      | false => exact ih (i + 1) _ μ1 (by omega) q
  have := key ds.length 0 [] μ (by omega) h0
  rwa [List.drop_zero] at this
/-- one that leaves the store alone -/
theorem lcG_pure {t : CT} {tt : WT} {te : WE} {chk : Mu → Prop} {ρ : Ev} {μ : Mu} {k : List D → Mu → Prop} (f : D → Option D) (hc : chk μ) : ∀ {ds acc : List D},
    (∀ d ∈ ds, ∃ ρ1, t.set d ρ = some ρ1 ∧ tt.run ρ1 μ (fun b μ1 => if b = true then te.run ρ1 μ1 (fun y μ2 => μ2 = μ ∧ f d = some y) XF else μ1 = μ ∧ f d = none) XF) → k (acc ++ ds.filterMap f) μ → lcG t tt te chk ds acc ρ μ k
  | [], acc, _, h => ⟨hc, by simpa using h⟩
  | d :: ds, acc, hs, h => by
    obtain ⟨ρ1, e1, q⟩ := hs d List.mem_cons_self
    refine ⟨hc, ?_⟩
    rw [e1]
    refine tt.mono (fun b μ1 q => ?_) (fun _ _ _ q => q) q
    cases b with
    | true => exact te.mono (fun y μ2 ⟨e, e2⟩ => by
        subst e
        exact lcG_pure f hc (fun d' hd => hs d' (List.mem_cons_of_mem _ hd)) (by simpa [List.filterMap_cons, e2] using h)) (fun _ _ _ q => q) q
    | false =>
      obtain ⟨e, e2⟩ := (show μ1 = μ ∧ f d = none from q)
      subst e
      exact lcG_pure f hc (fun d' hd => hs d' (List.mem_cons_of_mem _ hd)) (by simpa [List.filterMap_cons, e2] using h)
/-- one without a test that leaves the store alone -/
theorem lcG_map {t : CT} {te : WE} {chk : Mu → Prop} {ρ : Ev} {μ : Mu} {k : List D → Mu → Prop} (g : D → D) (hc : chk μ) {ds : List D}
    (hs : ∀ d ∈ ds, ∃ ρ1, t.set d ρ = some ρ1 ∧ te.run ρ1 μ (fun y μ2 => μ2 = μ ∧ y = g d) XF) (h : k (ds.map g) μ) : lcG t wYes te chk ds [] ρ μ k :=
  lcG_pure (fun d => some (g d)) hc (fun d hd => by
    obtain ⟨ρ1, e, q⟩ := hs d hd
    exact ⟨ρ1, e, te.mono (fun y μ2 ⟨e1, e2⟩ => ⟨e1, by rw [e2]⟩) (fun _ _ _ q => q) q⟩) (by simpa using h)
theorem sizeBig : 16000000 ≤ sizeLine := by rw [sizeLine_eq]; decide
theorem small_size {n : Nat} (h : n ≤ 16000000) : n ≤ sizeLine := Nat.le_trans h sizeBig
theorem SubQ.skip {Q : PQ} {d : D} {μ : Mu} {p : Addr} {o : O} (hp : μ p = none) (h : Q d μ) : SubQ Q d (mset μ p o) := SubQ.mk h (sub_new hp)
/-- a greater store -/
def Ext (μ μ' : Mu) : Prop := ∀ a o, μ a = some o → μ' a = some o
theorem Ext.refl (μ : Mu) : Ext μ μ := fun _ _ h => h
theorem Ext.trans {μ μ1 μ2 : Mu} (h : Ext μ μ1) (k : Ext μ1 μ2) : Ext μ μ2 := fun a o e => k a o (h a o e)
theorem Ext.free {μ μ' : Mu} {p : Addr} (h : Ext μ μ') (k : μ' p = none) : μ p = none := by
  cases e : μ p with
  | none => rfl
  | some o => rw [h p o e] at k; cases k
theorem Ext.new {μ μ' : Mu} {p : Addr} {o : O} (h : Ext μ μ') (k : μ' p = none) : Ext μ (mset μ' p o) := fun a u e => by rw [mset_ne (ne_free (h a u e) k)]; exact h a u e
/-- an object behind the old store is written -/
theorem Ext.set {μ μ' : Mu} {p : Addr} {o : O} (h : Ext μ μ') (k : μ p = none) : Ext μ (mset μ' p o) := fun a u e => by rw [mset_ne (ne_free e k)]; exact h a u e
theorem Ext.both {μ μ' : Mu} {p : Addr} {o : O} (h : Ext μ μ') : Ext (mset μ p o) (mset μ' p o) := fun a u e => by
  by_cases q : a = p
  · subst q; rw [mset_same] at e ⊢; exact e
  · rw [mset_ne q] at e ⊢; exact h a u e
theorem SubQ.ext {Q : PQ} {d : D} {μ μ' : Mu} (h : Q d μ) (e : Ext μ μ') : SubQ Q d μ' := SubQ.mk h e
theorem SubQ.new {Q : PQ} {p : Addr} {o : O} {μ μ' : Mu} (e : Ext μ μ') (k : μ' p = none) (h : ∀ p, μ p = none → Q (.ob p) (mset μ p o)) : SubQ Q (.ob p) (mset μ' p o) := SubQ.mk (h p (e.free k)) e.both
/-- the pot has changed, things have come -/
def PotX (n : Nat) (μ μ' : Mu) (p : Addr) : Prop := PotAt n μ' p ∧ ∀ b o, b ≠ p → μ b = some o → μ' b = some o
theorem PotTo.x {n : Nat} {μ μ' : Mu} {p : Addr} (h : PotTo n μ μ' p) : PotX n μ μ' p := ⟨h.1, fun b o hb e => by rw [h.2 b hb]; exact e⟩
theorem PotX.refl {n : Nat} {μ : Mu} {p : Addr} (h : PotAt n μ p) : PotX n μ μ p := ⟨h, fun _ _ _ e => e⟩
theorem PotX.trans {n m : Nat} {μ μ1 μ2 : Mu} {p : Addr} (h : PotX n μ μ1 p) (k : PotX m μ1 μ2 p) : PotX m μ μ2 p := ⟨k.1, fun b o hb e => k.2 b o hb (h.2 b o hb e)⟩
theorem PotX.step {n m : Nat} {μ μ1 μ2 : Mu} {p : Addr} (h : PotX n μ μ1 p) (k : PotTo m μ1 μ2 p) : PotX m μ μ2 p := h.trans k.x
theorem PotX.new {n : Nat} {μ μ1 : Mu} {p q : Addr} {o : O} (h : PotX n μ μ1 p) (k : μ1 q = none) : PotX n μ (mset μ1 q o) p := ⟨h.1.new k, fun b u hb e => by rw [mset_ne (ne_free (h.2 b u hb e) k)]; exact h.2 b u hb e⟩
theorem PotX.set {n : Nat} {μ μ1 : Mu} {p q : Addr} {o : O} (h : PotX n μ μ1 p) (k : μ q = none) (hq : q ≠ p) : PotX n μ (mset μ1 q o) p := ⟨by
  obtain ⟨x, y, z, e, r⟩ := h.1
  exact ⟨x, y, z, by rw [mset_ne (fun w => hq w.symm)]; exact e, r⟩, fun b u hb e => by rw [mset_ne (ne_free e k)]; exact h.2 b u hb e⟩
theorem PotX.mono {n m : Nat} {μ μ1 : Mu} {p : Addr} (h : PotX n μ μ1 p) (k : n ≤ m) : PotX m μ μ1 p := ⟨h.1.mono k, h.2⟩
theorem PotX.sub {n : Nat} {μ μ' : Mu} {p : Addr} {Q : PQ} {d : D} (h : PotX n μ μ' p) (q : ∀ μ'', PotTo n μ μ'' p → Q d μ'') : SubQ Q d μ' := by
  obtain ⟨x, y, z, e, h1, h2, h3, h4, h5⟩ := h.1
  refine ⟨potS μ p x y z, fun a o ha => ?_, q _ (PotTo.of h1 h2 h3 h4 h5)⟩
  by_cases k : a = p
  · subst k
    unfold potS at ha
    rw [mset_same] at ha; cases ha; exact e
  · unfold potS at ha
    rw [mset_ne k] at ha
    exact h.2 a o k ha
theorem at_new {μ : Mu} {p q : Addr} {o u : O} (h : μ p = some u) (hq : μ q = none) : mset μ q o p = some u := by rw [mset_ne (ne_free h hq)]; exact h
/-- one statement, then the rest -/
theorem seq_by {a b : WS} {D : PD} {ρ : Ev} {μ : Mu} (P : Ev → Mu → Prop) (h1 : a.run { D with nx := P } ρ μ) (h2 : ∀ ρ μ, P ρ μ → b.run D ρ μ) : (wSeq a b).run D ρ μ := by
  rw [wSeq_run]
  exact a.mono (D := { D with nx := P }) (D' := { D with nx := fun ρ1 μ1 => b.run D ρ1 μ1 }) ⟨h2, fun _ _ q => q, fun _ _ q => q, fun _ _ q => q, fun _ _ _ _ q => q⟩ h1
/-- a test that leaves things alone -/
theorem if_by {c : WT} {a b : WS} {D : PD} {ρ : Ev} {μ : Mu} (k : Bool) (h : c.run ρ μ (fun k' μ1 => k' = k ∧ μ1 = μ) (D.ex ρ)) (h1 : k = true → a.run D ρ μ) (h2 : k = false → b.run D ρ μ) : (wIf c a b).run D ρ μ := by
  rw [wIf_run]
  refine c.mono (fun k' μ1 ⟨e1, e2⟩ => ?_) (fun _ _ _ q => q) h
  subst e1 e2
  cases k' with
  | true => exact h1 rfl
  | false => exact h2 rfl
theorem gLen_run {x : D} {μ : Mu} {Q : PQ} : gLen.run [x] μ Q = fLen x μ Q := rfl
theorem gAbs_run {x : D} {μ : Mu} {Q : PQ} : gAbs.run [x] μ Q = fAbs x μ Q := rfl
theorem gInt_run {x : D} {μ : Mu} {Q : PQ} : gInt.run [x] μ Q = fInt x μ Q := rfl
theorem gAll_run {x : D} {μ : Mu} {Q : PQ} : gAll.run [x] μ Q = fAll x μ Q := rfl
theorem gAny_run {x : D} {μ : Mu} {Q : PQ} : gAny.run [x] μ Q = fAny x μ Q := rfl
theorem gSum_run {x : D} {μ : Mu} {Q : PQ} : gSum.run [x] μ Q = fSum x μ Q := rfl
theorem gTuple_run {x : D} {μ : Mu} {Q : PQ} : gTuple.run [x] μ Q = fTuple x μ Q := rfl
theorem gList_run {x : D} {μ : Mu} {Q : PQ} : gList.run [x] μ Q = fList x μ Q := rfl
theorem gSorted_run {x : D} {μ : Mu} {Q : PQ} : gSorted.run [x] μ Q = fSorted x μ Q := rfl
theorem gRepr_run {x : D} {μ : Mu} {Q : PQ} : gRepr.run [x] μ Q = fRepr x μ Q := rfl
theorem gMax2_run {i j : Int} {μ : Mu} {Q : PQ} : gMax2.run [.int i, .int j] μ Q = Q (.int (if j > i then j else i)) μ := rfl
theorem gMin2_run {i j : Int} {μ : Mu} {Q : PQ} : gMin2.run [.int i, .int j] μ Q = Q (.int (if j < i then j else i)) μ := rfl
theorem gAppend_run {a : Addr} {xs ds : List D} {μ : Mu} {Q : PQ} : gAppend.run a xs ds μ Q = fAppend a xs ds μ Q := rfl
theorem gExtend_run {a : Addr} {xs ds : List D} {μ : Mu} {Q : PQ} : gExtend.run a xs ds μ Q = fExtend a xs ds μ Q := rfl
end Sq

/-! Data without addresses: ==, in, sorted, repr. -/
namespace Sq
open PySem PySem.Spec PyProof.Rows L2
mutual
/-- none, ints, texts, tuples of these -/
def plainD : D → Bool
  | .non => true | .int _ => true | .str x => PyData.strOk x
  | .tup ds => plainDs ds
  | .bl _ => false | .ob _ => false | .rls _ => false
def plainDs : List D → Bool
  | [] => true | d :: ds => plainD d && plainDs ds
end
theorem plainDs_all : ∀ ds : List D, plainDs ds = ds.all plainD
  | [] => rfl
  | d :: ds => by unfold plainDs; rw [plainDs_all ds]; rfl
mutual
theorem plain_pure : ∀ {d : D}, plainD d = true → pureD d = true
  | .non, _ => rfl
  | .int _, _ => rfl
  | .str _, _ => rfl
  | .tup ds, h => by unfold plainD at h; unfold pureD; exact plain_pures h
  | .bl _, _ => rfl
  | .ob _, h => by unfold plainD at h; cases h
  | .rls _, h => by unfold plainD at h; cases h
theorem plain_pures : ∀ {ds : List D}, plainDs ds = true → pureDs ds = true
  | [], _ => rfl
  | d :: ds, h => by
    unfold plainDs at h
    rw [Bool.and_eq_true] at h
    unfold pureDs
    rw [plain_pure h.1, plain_pures h.2]; rfl
end
mutual
theorem plain_lay : ∀ {d : D}, plainD d = true → (encD d).canLay0 = true
  | .non, _ => rfl
  | .int _, _ => rfl
  | .str _, h => by unfold plainD at h; unfold encD PyData.canLay0; exact h
  | .tup ds, h => by unfold plainD at h; unfold encD PyData.canLay0; exact plain_lays h
  | .bl _, _ => rfl
  | .ob _, h => by unfold plainD at h; cases h
  | .rls _, h => by unfold plainD at h; cases h
theorem plain_lays : ∀ {ds : List D}, plainDs ds = true → PyData.canLayAll0 (encDs ds) = true
  | [], _ => rfl
  | d :: ds, h => by
    unfold plainDs at h
    rw [Bool.and_eq_true] at h
    unfold encDs PyData.canLayAll0
    rw [plain_lay h.1, plain_lays h.2]; rfl
end
mutual
theorem plain_eqv : ∀ {d e : D}, plainD d = true → plainD e = true → (PyData.eqv (encD d) (encD e) = true ↔ d = e)
  | .non, .non, _, _ => by simp [encD, PyData.eqv]
  | .non, .int _, _, _ => by simp [encD, PyData.eqv]
  | .non, .str _, _, _ => by simp [encD, PyData.eqv]
  | .non, .tup _, _, _ => by simp [encD, PyData.eqv]
  | .int _, .non, _, _ => by simp [encD, PyData.eqv]
  | .int i, .int j, _, _ => by simp [encD, PyData.eqv]
  | .int _, .str _, _, _ => by simp [encD, PyData.eqv]
  | .int _, .tup _, _, _ => by simp [encD, PyData.eqv]
  | .str _, .non, _, _ => by simp [encD, PyData.eqv]
  | .str _, .int _, _, _ => by simp [encD, PyData.eqv]
  | .str _, .str _, _, _ => by simp [encD, PyData.eqv]
  | .str _, .tup _, _, _ => by simp [encD, PyData.eqv]
  | .tup _, .non, _, _ => by simp [encD, PyData.eqv]
  | .tup _, .int _, _, _ => by simp [encD, PyData.eqv]
  | .tup _, .str _, _, _ => by simp [encD, PyData.eqv]
  | .tup xs, .tup ys, h, k => by
    unfold plainD at h k
    have := plains_eqv h k
    simp only [encD, PyData.eqv, this, D.tup.injEq]
  | .bl _, _, h, _ => by unfold plainD at h; cases h
  | .ob _, _, h, _ => by unfold plainD at h; cases h
  | .rls _, _, h, _ => by unfold plainD at h; cases h
  | _, .bl _, _, k => by unfold plainD at k; cases k
  | _, .ob _, _, k => by unfold plainD at k; cases k
  | _, .rls _, _, k => by unfold plainD at k; cases k
theorem plains_eqv : ∀ {ds es : List D}, plainDs ds = true → plainDs es = true → (PyData.eqvAll (encDs ds) (encDs es) = true ↔ ds = es)
  | [], [], _, _ => by simp [encDs, PyData.eqvAll]
  | [], _ :: _, _, _ => by simp [encDs, PyData.eqvAll]
  | _ :: _, [], _, _ => by simp [encDs, PyData.eqvAll]
  | d :: ds, e :: es, h, k => by
    unfold plainDs at h k
    rw [Bool.and_eq_true] at h k
    simp only [encDs, PyData.eqvAll, Bool.and_eq_true, plain_eqv h.1 k.1, plains_eqv h.2 k.2, List.cons.injEq]
end
theorem plains_mem {ds : List D} (h : plainDs ds = true) : ∀ d ∈ ds, plainD d = true := by
  rw [plainDs_all, List.all_eq_true] at h; exact h
theorem plains_of {ds : List D} (h : ∀ d ∈ ds, plainD d = true) : plainDs ds = true := by
  rw [plainDs_all, List.all_eq_true]; exact h
/-- as a whole: plain, not deep -/
def okD (d : D) : Bool := plainD d && decide ((encD d).depth ≤ 60)
theorem okD.p {d : D} (h : okD d = true) : plainD d = true := by unfold okD at h; rw [Bool.and_eq_true] at h; exact h.1
theorem okD.d {d : D} (h : okD d = true) : (encD d).depth ≤ 60 := by unfold okD at h; rw [Bool.and_eq_true] at h; exact of_decide_eq_true h.2
theorem okD.shaped {d : D} (h : okD d = true) : SeqAt.shaped (encD d) = true := by
  unfold SeqAt.shaped
  rw [plain_lay (okD.p h), decide_eq_true (Nat.le_trans (okD.d h) (by decide))]; rfl
theorem EqB_tup {xs ys : List D} {μ : Mu} {Q : Bool → Prop} (hx : okD (.tup xs) = true) (hy : okD (.tup ys) = true) (h1 : xs = ys → Q true) (h2 : xs ≠ ys → Q false) : EqB (.tup xs) (.tup ys) μ Q := by
  refine (show EqP (.tup xs) (.tup ys) μ Q from ⟨_, _, pure_dpy (plain_pure (okD.p hx)), pure_dpy (plain_pure (okD.p hy)), okD.shaped hx, okD.shaped hy, ?_⟩)
  have e := plain_eqv (okD.p hx) (okD.p hy)
  by_cases h : xs = ys
  · rw [e.mpr (by rw [h])]; exact h1 h
  · have : PyData.eqv (encD (.tup xs)) (encD (.tup ys)) = false := by
      rw [← Bool.not_eq_true, e]
      exact fun z => h (D.tup.inj z)
    rw [this]; exact h2 h
theorem depthAll_le {n : Nat} : ∀ {ds : List D}, (∀ d ∈ ds, (encD d).depth ≤ n) → PyData.depthAll (encDs ds) ≤ n
  | [], _ => Nat.zero_le _
  | d :: ds, h => by
    unfold encDs PyData.depthAll
    exact Nat.max_le.mpr ⟨h d List.mem_cons_self, depthAll_le fun e he => h e (List.mem_cons_of_mem _ he)⟩
/-- a list of plain things in the store -/
theorem dpy_lst {μ : Mu} {a : Addr} {ds : List D} (e : μ a = some (.lst ds)) (h : ∀ d ∈ ds, okD d = true) : DPy μ (.ob a) (.list (encDs ds)) ∧ SeqAt.shaped (.list (encDs ds)) = true := by
  have hp : plainDs ds = true := plains_of fun d hd => okD.p (h d hd)
  refine ⟨.lst e (pure_dpys (plain_pures hp)), ?_⟩
  have h1 : PyData.depthAll (encDs ds) ≤ 60 := depthAll_le fun d hd => okD.d (h d hd)
  unfold SeqAt.shaped PyData.canLay0 PyData.depth
  rw [plain_lays hp, decide_eq_true (by omega)]; rfl
theorem InP_lst {x : D} {a : Addr} {ds : List D} {μ : Mu} {Q : Bool → Prop} (e : μ a = some (.lst ds)) (hx : okD x = true) (hd : ∀ d ∈ ds, okD d = true) (h1 : x ∈ ds → Q true) (h2 : x ∉ ds → Q false) : InP x (.ob a) μ Q := by
  refine ⟨_, _, pure_dpy (plain_pure (okD.p hx)), .inl (dpy_lst e hd), okD.shaped hx, ?_⟩
  have key : ((encDs ds).any fun z => PyData.eqv z (encD x)) = true ↔ x ∈ ds := by
    rw [encDs_map, List.any_map, List.any_eq_true]
    constructor
    · rintro ⟨d, hm, hq⟩
      have := (plain_eqv (okD.p (hd d hm)) (okD.p hx)).mp hq
      rw [← this]; exact hm
    · intro hm
      exact ⟨x, hm, (plain_eqv (okD.p hx) (okD.p hx)).mpr rfl⟩
  by_cases h : x ∈ ds
  · rw [key.mpr h]; exact h1 h
  · rw [Bool.eq_false_iff.mpr (fun z => h (key.mp z))]; exact h2 h
/-- two lists of the store -/
theorem EqB_lst {a b : Addr} {xs ys : List D} {μ : Mu} {Q : Bool → Prop} (ea : μ a = some (.lst xs)) (eb : μ b = some (.lst ys)) (hx : ∀ d ∈ xs, okD d = true) (hy : ∀ d ∈ ys, okD d = true) (h1 : xs = ys → Q true) (h2 : xs ≠ ys → Q false) : EqB (.ob a) (.ob b) μ Q := by
  obtain ⟨p1, s1⟩ := dpy_lst ea hx
  obtain ⟨p2, s2⟩ := dpy_lst eb hy
  refine (show EqP (.ob a) (.ob b) μ Q from ⟨_, _, p1, p2, s1, s2, ?_⟩)
  have e := plains_eqv (plains_of fun d hd => okD.p (hx d hd)) (plains_of fun d hd => okD.p (hy d hd))
  by_cases h : xs = ys
  · rw [show PyData.eqv (.list (encDs xs)) (.list (encDs ys)) = true from e.mpr h]; exact h1 h
  · have : PyData.eqv (.list (encDs xs)) (.list (encDs ys)) = false := Bool.eq_false_iff.mpr fun z => h (e.mp z)
    rw [this]; exact h2 h

/-! ### the order of tuples of ints -/
def tupI (xs : List Int) : D := .tup (xs.map D.int)
theorem encD_tupI (xs : List Int) : encD (tupI xs) = .tuple (xs.map PyData.int) := by unfold tupI encD; rw [encD_ints]
theorem leD_tupI (xs ys : List Int) : leD (tupI xs) (tupI ys) = !decide (ys < xs) := by
  show (!PySem.W.dataLt (encD (tupI ys)) (encD (tupI xs))) = _
  rw [encD_tupI, encD_tupI, PySem.W.dataLt_tuple]
  exact congrArg not (PySem.W.dataLt_ints ys xs)
theorem leD_total : PySem.W.TotalLe leD := PySem.W.sortLe_total _ false _
theorem leD_anti {xs ys : List Int} (h1 : leD (tupI xs) (tupI ys) = true) (h2 : leD (tupI ys) (tupI xs) = true) : xs = ys := by
  rw [leD_tupI, Bool.not_eq_true', decide_eq_false_iff_not] at h1 h2
  exact List.le_antisymm (show xs ≤ ys from h1) (show ys ≤ xs from h2)
theorem alikeAll_ints (xs ys : List Int) : PySem.W.alike (encD (tupI xs)) (encD (tupI ys)) = true := by
  rw [encD_tupI, encD_tupI, PySem.W.alike]
  exact PySem.W.alike_ints xs ys
theorem okD_tupI (xs : List Int) : okD (tupI xs) = true := by
  unfold okD tupI plainD
  have h1 : plainDs (xs.map D.int) = true := plains_of fun d hd => by
    obtain ⟨i, _, rfl⟩ := List.mem_map.mp hd; rfl
  have h2 : (encD (.tup (xs.map D.int))).depth = 1 := by
    unfold encD PyData.depth
    rw [encD_ints, PySem.W.depth_ints]
  rw [h1, h2]; rfl
/-- tuples of ints, none without parts, may be sorted -/
theorem sortOk_ints {ds : List D} (h : ∀ d ∈ ds, ∃ x xs, d = tupI (x :: xs)) : SortOk ds := by
  refine ⟨fun d hd => ?_, ?_, .inl fun e he => ?_, fun d hd => ?_⟩
  · obtain ⟨x, xs, rfl⟩ := h d hd
    exact plain_pure (okD.p (okD_tupI _))
  · intro e he e' he'
    obtain ⟨d, hd, rfl⟩ := List.mem_map.mp he
    obtain ⟨d', hd', rfl⟩ := List.mem_map.mp he'
    obtain ⟨x, xs, rfl⟩ := h d hd
    obtain ⟨y, ys, rfl⟩ := h d' hd'
    exact alikeAll_ints _ _
  · obtain ⟨d, hd, rfl⟩ := List.mem_map.mp he
    obtain ⟨x, xs, rfl⟩ := h d hd
    exact ⟨.int x, xs.map PyData.int, by rw [encD_tupI]; rfl⟩
  · obtain ⟨x, xs, rfl⟩ := h d hd
    exact okD.d (okD_tupI _)
/-- sorted: one list for all sequences of it -/
theorem sort_perm {ds es : List D} (h : ∀ d ∈ ds, ∃ xs, d = tupI xs) (p : ds.Perm es) : ds.mergeSort leD = es.mergeSort leD := by
  have tr : ∀ a b c : D, leD a b = true → leD b c = true → leD a c = true := leD_total.trans
  have to : ∀ a b : D, (leD a b || leD b a) = true := fun a b => by
    have := leD_total.total a b
    simpa [Bool.or_eq_true] using this
  refine List.Perm.eq_of_pairwise (le := fun a b => leD a b = true) (fun a b ha hb h1 h2 => ?_) (List.pairwise_mergeSort tr to ds) (List.pairwise_mergeSort tr to es) ((List.mergeSort_perm ds leD).trans (p.trans (List.mergeSort_perm es leD).symm))
  obtain ⟨xs, rfl⟩ := h a (List.mem_mergeSort.mp ha)
  obtain ⟨ys, rfl⟩ := h b (p.mem_iff.mpr (List.mem_mergeSort.mp hb))
  rw [leD_anti h1 h2]
end Sq

/-! How long shown data are. -/
namespace Sq
open PySem PySem.Spec PyProof.Rows L2
theorem tupleText_len (ts : List Str) : (tupleText ts).length ≤ piled ts + 3 := by
  unfold tupleText
  rw [Str.length_append, Str.length_append]
  have h1 : (("(" : Str)).length = 1 := rfl
  have h2 : (Str.ofString (if (ts.length == 1) = true then ",)" else ")")).length ≤ 2 := by split <;> decide
  have h3 : (Str.join ", " ts).length ≤ piled ts := by
    by_cases h : ts = []
    · subst h; decide
    · have := join_length_add ts h
      omega
  omega
theorem piled_le {n : Nat} : ∀ {ts : List Str}, (∀ t ∈ ts, t.length ≤ n) → piled ts ≤ (n + 2) * ts.length
  | [], _ => by simp [piled]
  | t :: ts, h => by
    have h1 := h t List.mem_cons_self
    have h2 := piled_le (n := n) (ts := ts) fun u hu => h u (List.mem_cons_of_mem _ hu)
    rw [List.length_cons, Nat.mul_succ, piled_cons]
    omega
theorem shownAll_map : ∀ ds : List PyData, PyData.shownAll ds = ds.map PyData.shown
  | [] => rfl
  | d :: ds => by unfold PyData.shownAll; rw [shownAll_map ds]; rfl
theorem shown_tups {n : Nat} {ds : List D} (h : ∀ d ∈ ds, (encD d).shown.length ≤ n) : (encD (.tup ds)).shown.length ≤ (n + 2) * ds.length + 3 := by
  have e : (encD (.tup ds)).shown = tupleText (PyData.shownAll (encDs ds)) := by unfold encD PyData.shown; rfl
  rw [e]
  refine Nat.le_trans (tupleText_len _) (Nat.add_le_add_right ?_ 3)
  have := piled_le (n := n) (ts := PyData.shownAll (encDs ds)) (by
    rw [shownAll_map, encDs_map]
    intro t ht
    obtain ⟨p, hp, rfl⟩ := List.mem_map.mp ht
    obtain ⟨d, hd, rfl⟩ := List.mem_map.mp hp
    exact h d hd)
  rw [shownAll_map, encDs_map, List.length_map, List.length_map] at this
  rw [shownAll_map, encDs_map]
  exact this
theorem shown_int {i : Int} (h : i.natAbs < 10 ^ 30) : (encD (.int i)).shown.length ≤ 31 := by
  have e : (encD (.int i)).shown = Str.ofString (toString i) := by unfold encD PyData.shown; rfl
  rw [e]
  have := int_text_length_le10 (k := 30) (by decide) h
  rw [PySem.ofString_length]
  omega
def smallI (i : Int) : Prop := -10 ^ 30 < i ∧ i < 10 ^ 30
theorem smallI.abs {i : Int} (h : smallI i) : i.natAbs < 10 ^ 30 := by
  obtain ⟨h1, h2⟩ := h
  omega
theorem shown_tupI {xs : List Int} (h : ∀ x ∈ xs, smallI x) : (encD (tupI xs)).shown.length ≤ 33 * xs.length + 3 := by
  have := shown_tups (n := 31) (ds := xs.map D.int) (fun d hd => by
    obtain ⟨i, hi, rfl⟩ := List.mem_map.mp hd
    exact shown_int (h i hi).abs)
  rw [List.length_map] at this
  exact this
mutual
def litI : D → Prop
  | .int i => smallI i
  | .tup ds => litIs ds
  | .non => True | .str _ => True
  | _ => False
def litIs : List D → Prop
  | [] => True | d :: ds => litI d ∧ litIs ds
end
mutual
theorem lit_show : ∀ {d : D}, litI d → (encD d).showable = true
  | .int i, h => by
    unfold litI at h
    unfold encD PyData.showable
    have h1 := h.abs
    have : i.natAbs.log2 < 1920 := by
      by_cases h0 : i.natAbs = 0
      · rw [h0]; decide
      · rw [Nat.log2_lt h0]
        have : (10 ^ 30 : Nat) < 2 ^ 100 := by decide
        have : (2 ^ 100 : Nat) ≤ 2 ^ 1920 := Nat.pow_le_pow_right (by decide) (by decide)
        omega
    exact decide_eq_true this
  | .tup ds, h => by
    unfold litI at h
    unfold encD PyData.showable
    exact lits_show h
  | .non, _ => rfl
  | .str _, _ => rfl
  | .bl _, h => by unfold litI at h; exact h.elim
  | .ob _, h => by unfold litI at h; exact h.elim
  | .rls _, h => by unfold litI at h; exact h.elim
theorem lits_show : ∀ {ds : List D}, litIs ds → PyData.showableAll (encDs ds) = true
  | [], _ => rfl
  | d :: ds, h => by
    unfold litIs at h
    unfold encDs PyData.showableAll
    rw [lit_show h.1, lits_show h.2]; rfl
end
theorem litIs_of : ∀ {ds : List D}, (∀ d ∈ ds, litI d) → litIs ds
  | [], _ => by unfold litIs; trivial
  | d :: ds, h => by unfold litIs; exact ⟨h d List.mem_cons_self, litIs_of fun e he => h e (List.mem_cons_of_mem _ he)⟩
theorem lit_tupI {xs : List Int} (h : ∀ x ∈ xs, smallI x) : litI (tupI xs) := by
  unfold tupI litI
  exact litIs_of fun d hd => by
    obtain ⟨i, hi, rfl⟩ := List.mem_map.mp hd
    unfold litI; exact h i hi
theorem fRepr_ok {x : D} {μ : Mu} {Q : PQ} (h1 : okD x = true) (h2 : litI x) (h3 : (encD x).shown.length ≤ sizeLine) (q : Q (.str (encD x).shown) μ) : fRepr x μ Q :=
  ⟨_, pure_dpy (plain_pure (okD.p h1)), okD.shaped h1, lit_show h2, h3, q⟩
end Sq

/-! k08: the promises. -/
namespace K8
open PySem PySem.Spec PyProof.Rows L2 Sq
def val (a b c x y : Int) : Int := a * x * x + b * x * y + c * y * y
def mid (a b c p q r s : Int) : Int := 2 * a * p * q + b * (p * s + q * r) + 2 * c * r * s
def Bd (a b c : Int) : Prop := -1000000 ≤ a ∧ a ≤ 1000000 ∧ -1000000 ≤ b ∧ b ≤ 1000000 ∧ -1000000 ≤ c ∧ c ≤ 1000000
instance (a b c : Int) : Decidable (Bd a b c) := by unfold Bd; infer_instance
def Pos (a b c : Int) : Prop := 0 < a ∧ b * b < 4 * a * c
def Red (a b c : Int) : Prop := -a < b ∧ b ≤ a ∧ a ≤ c ∧ (0 ≤ b ∨ a ≠ c)
instance (a b c : Int) : Decidable (Red a b c) := by unfold Red; infer_instance
/-- the turn p q r s leads from a b c to A B C -/
structure To (a b c A B C p q r s : Int) : Prop where
  det : p * s - q * r = 1
  eA : val a b c p r = A
  eB : mid a b c p q r s = B
  eC : val a b c q s = C
structure Lst (a b c A B C p q r s : Int) : Prop where
  to : To a b c A B C p q r s
  red : Red A B C
def B64s (xs : List Int) : Prop := ∀ x ∈ xs, B64 x
def Sis_whole : SpD := spR fun ds r => ∃ i, ds = [.int i] ∧ r = .bl true
def Sare_wholes : SpD := spR fun ds r => ∃ ns : List Int, ds = [.tup (ns.map D.int)] ∧ ns.length ≤ 1000 ∧ r = .bl true
def Sare_ints : SpD := spR fun ds r => ∃ (ns : List Int) (k m : Int), ds = [.tup (ns.map D.int), .int k, .int m] ∧ ns.length ≤ 1000 ∧ r = .bl (decide ((ns.length : Int) = k) && ns.all fun n => decide ((if n < 0 then -n else n) ≤ m))
def Sis_form : SpD := spR fun ds r => ∃ a b c, ds = [f3 a b c] ∧ r = .bl (decide (Bd a b c))
def Slook_at_form : SpD := spR fun ds r => ∃ a b c, ds = [f3 a b c] ∧ Bd a b c ∧ r = .non
def Stold_size : SpD := spR fun ds r => ∃ a b c, ds = [f3 a b c] ∧ B64 b ∧ B64 c ∧ r = .int (b * b - 4 * a * c)
def Stold_value : SpD := spR fun ds r => ∃ a b c x y, ds = [f3 a b c, .int x, .int y] ∧ B64 x ∧ B64 y ∧ r = .int (val a b c x y)
def Stold_kind : SpD := spR fun ds r => ∃ a b c, ds = [f3 a b c] ∧ Bd a b c ∧ b * b - 4 * a * c < 0 ∧ r = .str (if 0 < a then "above" else "below")
def Stold_turned : SpD := spR fun ds r => ∃ a b c p q u v, ds = [f3 a b c, t4 p q u v] ∧ B64 b ∧ B64 p ∧ B64 q ∧ B64 u ∧ B64 v ∧ r = f3 (val a b c p u) (mid a b c p q u v) (val a b c q v)
def Stold_then : SpD := spR fun ds r => ∃ p q u v e f g h, ds = [t4 p q u v, t4 e f g h] ∧ ((B64 p ∧ B64 q ∧ B64 u ∧ B64 v) ∨ (B64 e ∧ B64 f ∧ B64 g ∧ B64 h)) ∧ r = t4 (p * e + q * g) (p * f + q * h) (u * e + v * g) (u * f + v * h)
def Stold_back : SpD := spR fun ds r => ∃ p q u v, ds = [t4 p q u v] ∧ r = t4 v (-q) (-u) p
def Slook_at_above : SpD := spR fun ds r => ∃ a b c, ds = [f3 a b c] ∧ Bd a b c ∧ Pos a b c ∧ r = .non
def Sis_least : SpD := spR fun ds r => ∃ a b c, ds = [f3 a b c] ∧ r = .bl (decide (Red a b c))
def Stold_least : SpD := spQ (fun ds μ Q => ∃ a b c, ds = [f3 a b c] ∧ Bd a b c ∧ Pos a b c ∧ ∀ A B C p q r s, Lst a b c A B C p q r s → Q (.tup [f3 A B C, t4 p q r s]) μ) fun hQ ⟨a, b, c, h1, h2, h3, h4⟩ => ⟨a, b, c, h1, h2, h3, fun A B C p q r s h => hQ _ _ (h4 A B C p q r s h)⟩
def Sleast_form : SpD := Stold_least
def Slook_at_two : SpD := spR fun ds r => ∃ a b c d e f, ds = [f3 a b c, f3 d e f] ∧ Bd a b c ∧ Pos a b c ∧ Bd d e f ∧ Pos d e f ∧ r = .non
/-- what same_above tells of the least ones -/
def sameD (A B C p q r s A' B' C' p' q' r' s' : Int) : D :=
  if A = A' ∧ B = B' ∧ C = C' then .tup [.str "turn", t4 (p * s' + q * -r') (p * -q' + q * p') (r * s' + s * -r') (r * -q' + s * p')] else .tup [.str "least", f3 A B C, f3 A' B' C']
def Ssame_above : SpD := spQ (fun ds μ Q => ∃ a b c d e f, ds = [f3 a b c, f3 d e f] ∧ Bd a b c ∧ Pos a b c ∧ Bd d e f ∧ Pos d e f ∧
    ∀ A B C p q r s A' B' C' p' q' r' s', Lst a b c A B C p q r s → Lst d e f A' B' C' p' q' r' s' → Q (sameD A B C p q r s A' B' C' p' q' r' s') μ)
  fun hQ ⟨a, b, c, d, e, f, h1, h2, h3, h4, h5, h6⟩ => ⟨a, b, c, d, e, f, h1, h2, h3, h4, h5, fun A B C p q r s A' B' C' p' q' r' s' k l => hQ _ _ (h6 A B C p q r s A' B' C' p' q' r' s' k l)⟩
abbrev Tn := Int × Int × Int × Int
def tnD (t : Tn) : D := t4 t.1 t.2.1 t.2.2.1 t.2.2.2
/-- the own turns of a least one, as they are found -/
def ownL (a b c : Int) : List Tn := [(1, 0, 0, 1), (-1, 0, 0, -1)] ++ (if b = 0 ∧ a = c then [(0, -1, 1, 0), (0, 1, -1, 0)] else []) ++ (if a = b ∧ b = c then [(0, -1, 1, 1), (0, 1, -1, -1), (1, 1, -1, 0), (-1, -1, 1, 0)] else [])
def thenT (t u : Tn) : Tn := (t.1 * u.1 + t.2.1 * u.2.2.1, t.1 * u.2.1 + t.2.1 * u.2.2.2, t.2.2.1 * u.1 + t.2.2.2 * u.2.2.1, t.2.2.1 * u.2.1 + t.2.2.2 * u.2.2.2)
def backT (t : Tn) : Tn := (t.2.2.2, -t.2.1, -t.2.2.1, t.1)
def sortT (ts : List Tn) : List D := (ts.map tnD).mergeSort leD
def Stold_own : SpD := spQ (fun ds μ Q => ∃ a b c, ds = [f3 a b c] ∧ ∀ p, μ p = none → Q (.ob p) (mset μ p (.lst (sortT (ownL a b c))))) fun hQ ⟨a, b, c, h1, h2⟩ => ⟨a, b, c, h1, fun p hp => hQ _ _ (h2 p hp)⟩
/-- own turns, by way of the least one -/
def viaT (t : Tn) (us : List Tn) : List Tn := us.map fun u => thenT (thenT t u) (backT t)
def Sown_turns : SpD := spQ (fun ds μ Q => ∃ a b c, ds = [f3 a b c] ∧ Bd a b c ∧ Pos a b c ∧ ∀ A B C p q r s us, Lst a b c A B C p q r s → us.Perm (ownL A B C) → Q (.tup (sortT (viaT (p, q, r, s) us))) μ)
  fun hQ ⟨a, b, c, h1, h2, h3, h4⟩ => ⟨a, b, c, h1, h2, h3, fun A B C p q r s us k l => hQ _ _ (h4 A B C p q r s us k l)⟩
def S_law_pot : SpD := spPot
def S_law_take : SpD := spTake
def S_law_of : SpD := spOfL
def S_law_cells : SpD := spCells
def S_law_is_int : SpD := spR fun ds r => ∃ i lo hi, ds = [.int i, .int lo, .int hi] ∧ r = .bl (decide (lo ≤ i ∧ i ≤ hi))
def S_law_root : SpD := spQ (fun ds μ Q => ∃ n, ds = [.int n] ∧ 0 ≤ n ∧ n < 1152921504606846976 ∧ ∀ r, 0 ≤ r → r * r ≤ n → n < (r + 1) * (r + 1) → Q (.int r) μ) fun hQ ⟨n, h1, h2, h3, h4⟩ => ⟨n, h1, h2, h3, fun r a b c => hQ _ _ (h4 r a b c)⟩
def S_law_value : SpD := Stold_value
def Small (x : Int) : Prop := -1099511627776 < x ∧ x < 1099511627776
def S_law_turned : SpD := spR fun ds r => ∃ a b c p q u v, ds = [f3 a b c, t4 p q u v] ∧ B64 b ∧ Small p ∧ Small q ∧ Small u ∧ Small v ∧ r = f3 (val a b c p u) (mid a b c p q u v) (val a b c q v)
def S_law_is_turn : SpD := spR fun ds r => ∃ p q u v, ds = [t4 p q u v] ∧ B64 p ∧ B64 q ∧ r = .bl (decide (p * v - q * u = 1))
def S_law_then : SpD := Stold_then
def S_law_turn_drawn : SpD := spQ (fun ds μ Q => ∃ p n, ds = [.ob p] ∧ PotAt n μ p ∧ n + 20 ≤ 1000000 ∧ ∀ a b c d μ', a * d - b * c = 1 → Small a → Small b → Small c → Small d → PotTo (n + 20) μ μ' p → Q (t4 a b c d) μ')
  fun hQ ⟨p, n, h1, h2, h3, h4⟩ => ⟨p, n, h1, h2, h3, fun a b c d μ' k1 k2 k3 k4 k5 k6 => hQ _ _ (h4 a b c d μ' k1 k2 k3 k4 k5 k6)⟩
def S_law_is_form : SpD := Sis_form
def S_law_above_drawn : SpD := spQ (fun ds μ Q => ∃ p m n, ds = [.ob p, .int m] ∧ PotAt n μ p ∧ n + 3 ≤ 1000000 ∧ 0 < m ∧ m ≤ 100000 ∧ ∀ a b c μ', 1 ≤ a → a ≤ m → 1 ≤ c → c ≤ m → b * b < 4 * a * c → PotTo (n + 3) μ μ' p → Q (f3 a b c) μ')
  fun hQ ⟨p, m, n, h1, h2, h3, h4, h5, h6⟩ => ⟨p, m, n, h1, h2, h3, h4, h5, fun a b c μ' k1 k2 k3 k4 k5 k6 => hQ _ _ (h6 a b c μ' k1 k2 k3 k4 k5 k6)⟩
/-- small enough for this law's own going through -/
def Tiny (a b c n : Int) : Prop := 1 ≤ a ∧ a ≤ 4 ∧ 1 ≤ c ∧ c ≤ 4 ∧ b * b < 4 * a * c ∧ 0 < n ∧ n ≤ 64
def lettersL (a b c n : Int) (L : List (Int × Int)) : Prop := L.Nodup ∧ (∀ x y, (x, y) ∈ L ↔ val a b c x y = n) ∧ (∀ x y, (x, y) ∈ L → -40 ≤ x ∧ x ≤ 40 ∧ -40 ≤ y ∧ y ≤ 40) ∧ L.length ≤ 2000
def S_law_letters : SpD := spQ (fun ds μ Q => ∃ a b c n, ds = [f3 a b c, .int n] ∧ Tiny a b c n ∧ ∀ L p, lettersL a b c n L → μ p = none → Q (.ob p) (mset μ p (.lst (L.map fun z : Int × Int => t2 z.1 z.2)))) fun hQ ⟨a, b, c, n, h1, h2, h3⟩ => ⟨a, b, c, n, h1, h2, fun L p k l => hQ _ _ (h3 L p k l)⟩
def allL (a b c d e f : Int) (L : List Tn) : Prop := L.Nodup ∧ ∀ t : Tn, t ∈ L ↔ To a b c d e f t.1 t.2.1 t.2.2.1 t.2.2.2
def S_law_all_turns : SpD := spQ (fun ds μ Q => ∃ a b c d e f, ds = [f3 a b c, f3 d e f] ∧ Tiny a b c d ∧ Tiny a b c f ∧ ∀ L p, allL a b c d e f L → μ p = none → Q (.ob p) (mset μ p (.lst (sortT L))))
  fun hQ ⟨a, b, c, d, e, f, h1, h2, h3, h4⟩ => ⟨a, b, c, d, e, f, h1, h2, h3, fun L p k l => hQ _ _ (h4 L p k l)⟩
def S_law_is_least : SpD := Sis_least
def S_law_is_form_right : SpD := spR fun ds r => ∃ a b c p q u v, ds = [f3 a b c, t4 p q u v] ∧ Bd a b c ∧ Pos a b c ∧ p * v - q * u = 1 ∧ Small p ∧ Small q ∧ Small u ∧ Small v ∧ r = .bl true
def S_law_right : SpD := spQ (fun ds μ Q => ∃ p, ds = [.ob p] ∧ PotAt 0 μ p ∧ ∀ μ', PotTo 1000 μ μ' p → Q (.bl true) μ') fun hQ ⟨p, h1, h2, h3⟩ => ⟨p, h1, h2, fun μ' a => hQ _ _ (h3 μ' a)⟩
def Slaw : SpD := spR fun ds r => ∃ ns : List Int, ds = [.rls (ns.map D.int)] ∧ ns.length ≤ 63 ∧ r = .bl true
end K8

set_option maxHeartbeats 8000000
/-! The walks, printed by gen.py. -/
namespace K8
open PySem PySem.Spec PyProof.Rows L2 Sq
def top (i : Nat) : Stmt := PySem.Challenge.pw_squaresowed_k08_whole_least_forms_and_ow.main.body.getD i (.Pass ⟨0, 0, 0, 0⟩)
/-- what the module says of the names -/
structure Txt (mg : Str → Option Value) : Prop where
  z_abs : mg "abs" = none
  z_all : mg "all" = none
  z_bool : mg "bool" = none
  z_int : mg "int" = none
  z_isinstance : mg "isinstance" = none
  z_len : mg "len" = none
  z_list : mg "list" = none
  z_max : mg "max" = none
  z_min : mg "min" = none
  z_range : mg "range" = none
  z_repr : mg "repr" = none
  z_sorted : mg "sorted" = none
  z_sum : mg "sum" = none
  z_tuple : mg "tuple" = none
  c_ABOVE : ∃ t, mg "ABOVE" = some (.str "above" t)
  c_BELOW : ∃ t, mg "BELOW" = some (.str "below" t)
  c_LEAST : ∃ t, mg "LEAST" = some (.str "least" t)
  c_MOST_PART : ∃ t, mg "MOST_PART" = some (.int 1000000 t)
  c_TURN : ∃ t, mg "TURN" = some (.str "turn" t)
/-! ### is_whole -/
abbrev sis_whole : Stmt := top 5
abbrev Nis_whole : List Str := ["value"]
theorem sc_is_whole : FnScope Nis_whole ["value"] (defScope sis_whole) := ⟨rfl, rfl, rfl, by decide +kernel, rfl, by decide +kernel, by decide +kernel⟩
def wis_whole : WS := wRet (wAndV (wIsi .int (wVar 0)) (wNotV (wIsi .bool (wVar 0))))
theorem der_is_whole {P : Program} {w : World} {K : PySem.W.Frag} {mg : Str → Option Value} {base : Heap} {f : Addr} (T : Txt mg)  (cdv : Value) (A : Around) (outer : List Env) (s : Shared) (H : Hp) (E : XK) (hg : A.guards = some []) (hr : Room 0 (A.deeper (envOfC "is_whole" (defScope sis_whole) s.heap.objs.size f cdv))) :
    LSs (cxOf (L2.CX P w) P w K mg base Nis_whole "is_whole" (defScope sis_whole) f cdv A outer s H E) (wxE E) (defBody sis_whole) wis_whole :=
  lss_one (ls_ret (le_and (le_isi (t := .int) T.z_isinstance T.z_int (by decide +kernel) (le_var 0)) (le_one (le_not (le_isi (t := .bool) T.z_isinstance T.z_bool (by decide +kernel) (le_var 0))))))
/-! ### are_wholes -/
abbrev sare_wholes : Stmt := top 6
abbrev Nare_wholes : List Str := ["value", "one"]
theorem sc_are_wholes : FnScope Nare_wholes ["value"] (defScope sare_wholes) := ⟨rfl, rfl, rfl, by decide +kernel, rfl, by decide +kernel, by decide +kernel⟩
def ware_wholes : WS := wRet (wAndV (wIsi .tuple (wVar 0)) (wB gAll [wLc (wSeqI (wVar 0)) (CT.one 1) (wYes) (wCall Sis_whole [wVar 1])]))
theorem der_are_wholes {P : Program} {w : World} {K : PySem.W.Frag} {mg : Str → Option Value} {base : Heap} {f : Addr} (T : Txt mg) (F_is_whole : FnD P w K mg base 1 "is_whole" ["value"] [] Sis_whole) (cdv : Value) (A : Around) (outer : List Env) (s : Shared) (H : Hp) (E : XK) (hg : A.guards = some []) (hr : Room 1 (A.deeper (envOfC "are_wholes" (defScope sare_wholes) s.heap.objs.size f cdv))) :
    LSs (cxOf (L2.CX P w) P w K mg base Nare_wholes "are_wholes" (defScope sare_wholes) f cdv A outer s H E) (wxE E) (defBody sare_wholes) ware_wholes :=
  lss_one (ls_ret (le_and (le_isi (t := .tuple) T.z_isinstance T.z_tuple (by decide +kernel) (le_var 0)) (le_one (le_callB (cd_all rfl) T.z_all (by decide +kernel) (la_cons (le_lc sc_are_wholes.nd (li_seq (le_var 0)) (ok := by show BlkOk Nare_wholes (defScope sare_wholes) _ _; exact ⟨rfl, by decide +kernel, by decide +kernel, by decide +kernel, by decide +kernel⟩) (own := [("one", 1)]) (hv := rfl) (hg := (fun _ _ _ _ _ => pg_one 1 sc_are_wholes.nd)) (ht := (fun _ _ _ _ _ => lps_nil)) (he := (fun _ _ _ _ _ => le_call F_is_whole hg hr LamX.takes0 (la_cons (le_var 1) (la_nil))))) (la_nil))))))
/-! ### are_ints -/
abbrev sare_ints : Stmt := top 7
abbrev Nare_ints : List Str := ["value", "many", "most", "one"]
theorem sc_are_ints : FnScope Nare_ints ["value", "many", "most"] (defScope sare_ints) := ⟨rfl, rfl, rfl, by decide +kernel, rfl, by decide +kernel, by decide +kernel⟩
def ware_ints : WS := wRet (wAndV (wCall Sare_wholes [wVar 0]) (wAndV (wOp gEq (wB gLen [wVar 0]) (wVar 1)) (wB gAll [wLc (wSeqI (wVar 0)) (CT.one 3) (wYes) (wOp gLe (wB gAbs [wVar 3]) (wVar 2))])))
theorem der_are_ints {P : Program} {w : World} {K : PySem.W.Frag} {mg : Str → Option Value} {base : Heap} {f : Addr} (T : Txt mg) (F_are_wholes : FnD P w K mg base 2 "are_wholes" ["value"] [] Sare_wholes) (cdv : Value) (A : Around) (outer : List Env) (s : Shared) (H : Hp) (E : XK) (hg : A.guards = some []) (hr : Room 2 (A.deeper (envOfC "are_ints" (defScope sare_ints) s.heap.objs.size f cdv))) :
    LSs (cxOf (L2.CX P w) P w K mg base Nare_ints "are_ints" (defScope sare_ints) f cdv A outer s H E) (wxE E) (defBody sare_ints) ware_ints :=
  lss_one (ls_ret (le_and (le_call F_are_wholes hg hr (takes_of rfl rfl rfl rfl) (la_cons (le_var 0) (la_nil))) (le_and (le_cmp (od_eq hr.units) (le_callB cd_len T.z_len (by decide +kernel) (la_cons (le_var 0) (la_nil))) (le_var 1)) (le_one (le_callB (cd_all rfl) T.z_all (by decide +kernel) (la_cons (le_lc sc_are_ints.nd (li_seq (le_var 0)) (ok := by show BlkOk Nare_ints (defScope sare_ints) _ _; exact ⟨rfl, by decide +kernel, by decide +kernel, by decide +kernel, by decide +kernel⟩) (own := [("one", 3)]) (hv := rfl) (hg := (fun _ _ _ _ _ => pg_one 3 sc_are_ints.nd)) (ht := (fun _ _ _ _ _ => lps_nil)) (he := (fun _ _ _ _ _ => le_cmp od_le (le_callB cd_abs T.z_abs (by decide +kernel) (la_cons (le_var 3) (la_nil))) (le_var 2)))) (la_nil)))))))
/-! ### is_form -/
abbrev sis_form : Stmt := top 17
abbrev Nis_form : List Str := ["value"]
theorem sc_is_form : FnScope Nis_form ["value"] (defScope sis_form) := ⟨rfl, rfl, rfl, by decide +kernel, rfl, by decide +kernel, by decide +kernel⟩
def wis_form : WS := wRet (wCall Sare_ints [wVar 0, wOp gAdd (wC (.int 1)) (wC (.int 2)), wC (.int 1000000)])
theorem der_is_form {P : Program} {w : World} {K : PySem.W.Frag} {mg : Str → Option Value} {base : Heap} {f : Addr} (T : Txt mg) (F_are_ints : FnD P w K mg base 3 "are_ints" ["value", "many", "most"] [] Sare_ints) (cdv : Value) (A : Around) (outer : List Env) (s : Shared) (H : Hp) (E : XK) (hg : A.guards = some []) (hr : Room 3 (A.deeper (envOfC "is_form" (defScope sis_form) s.heap.objs.size f cdv))) :
    LSs (cxOf (L2.CX P w) P w K mg base Nis_form "is_form" (defScope sis_form) f cdv A outer s H E) (wxE E) (defBody sis_form) wis_form :=
  lss_one (ls_ret (le_call F_are_ints hg hr (takes_of rfl rfl rfl rfl) (la_cons (le_var 0) (la_cons (le_op od_add (le_int) (le_int)) (la_cons (le_globI T.c_MOST_PART) (la_nil))))))
/-! ### look_at_form -/
abbrev slook_at_form : Stmt := top 18
abbrev Nlook_at_form : List Str := ["form"]
theorem sc_look_at_form : FnScope Nlook_at_form ["form"] (defScope slook_at_form) := ⟨rfl, rfl, rfl, by decide +kernel, rfl, by decide +kernel, by decide +kernel⟩
def wlook_at_form : WS := wIf (wNotT (wTB (wCall Sis_form [wVar 0]))) (wNever) (wNext)
theorem der_look_at_form {P : Program} {w : World} {K : PySem.W.Frag} {mg : Str → Option Value} {base : Heap} {f : Addr} (T : Txt mg) (F_is_form : FnD P w K mg base 4 "is_form" ["value"] [] Sis_form) (cdv : Value) (A : Around) (outer : List Env) (s : Shared) (H : Hp) (E : XK) (hg : A.guards = some []) (hr : Room 4 (A.deeper (envOfC "look_at_form" (defScope slook_at_form) s.heap.objs.size f cdv))) :
    LSs (cxOf (L2.CX P w) P w K mg base Nlook_at_form "look_at_form" (defScope slook_at_form) f cdv A outer s H E) (wxE E) (defBody slook_at_form) wlook_at_form :=
  lss_one (ls_if (lt_not (lt_val (le_call F_is_form hg hr (takes_of rfl rfl rfl rfl) (la_cons (le_var 0) (la_nil))))) (lss_one (ls_never)) (lss_nil))
/-! ### told_size -/
abbrev stold_size : Stmt := top 19
abbrev Ntold_size : List Str := ["form"]
theorem sc_told_size : FnScope Ntold_size ["form"] (defScope stold_size) := ⟨rfl, rfl, rfl, by decide +kernel, rfl, by decide +kernel, by decide +kernel⟩
def wtold_size : WS := wRet (wOp gSub (wOp gMul (wOp gIx (wVar 0) (wC (.int 1))) (wOp gIx (wVar 0) (wC (.int 1)))) (wOp gMul (wOp gMul (wC (.int 4)) (wOp gIx (wVar 0) (wC (.int 0)))) (wOp gIx (wVar 0) (wC (.int 2)))))
theorem der_told_size {P : Program} {w : World} {K : PySem.W.Frag} {mg : Str → Option Value} {base : Heap} {f : Addr} (T : Txt mg)  (cdv : Value) (A : Around) (outer : List Env) (s : Shared) (H : Hp) (E : XK) (hg : A.guards = some []) (hr : Room 0 (A.deeper (envOfC "told_size" (defScope stold_size) s.heap.objs.size f cdv))) :
    LSs (cxOf (L2.CX P w) P w K mg base Ntold_size "told_size" (defScope stold_size) f cdv A outer s H E) (wxE E) (defBody stold_size) wtold_size :=
  lss_one (ls_ret (le_op od_sub (le_op od_mul (le_ix (le_var 0) (le_int)) (le_ix (le_var 0) (le_int))) (le_op od_mul (le_op od_mul (le_int) (le_ix (le_var 0) (le_int))) (le_ix (le_var 0) (le_int)))))
/-! ### told_value -/
abbrev stold_value : Stmt := top 20
abbrev Ntold_value : List Str := ["form", "x", "y"]
theorem sc_told_value : FnScope Ntold_value ["form", "x", "y"] (defScope stold_value) := ⟨rfl, rfl, rfl, by decide +kernel, rfl, by decide +kernel, by decide +kernel⟩
def wtold_value : WS := wRet (wOp gAdd (wOp gAdd (wOp gMul (wOp gMul (wOp gIx (wVar 0) (wC (.int 0))) (wVar 1)) (wVar 1)) (wOp gMul (wOp gMul (wOp gIx (wVar 0) (wC (.int 1))) (wVar 1)) (wVar 2))) (wOp gMul (wOp gMul (wOp gIx (wVar 0) (wC (.int 2))) (wVar 2)) (wVar 2)))
theorem der_told_value {P : Program} {w : World} {K : PySem.W.Frag} {mg : Str → Option Value} {base : Heap} {f : Addr} (T : Txt mg)  (cdv : Value) (A : Around) (outer : List Env) (s : Shared) (H : Hp) (E : XK) (hg : A.guards = some []) (hr : Room 0 (A.deeper (envOfC "told_value" (defScope stold_value) s.heap.objs.size f cdv))) :
    LSs (cxOf (L2.CX P w) P w K mg base Ntold_value "told_value" (defScope stold_value) f cdv A outer s H E) (wxE E) (defBody stold_value) wtold_value :=
  lss_one (ls_ret (le_op od_add (le_op od_add (le_op od_mul (le_op od_mul (le_ix (le_var 0) (le_int)) (le_var 1)) (le_var 1)) (le_op od_mul (le_op od_mul (le_ix (le_var 0) (le_int)) (le_var 1)) (le_var 2))) (le_op od_mul (le_op od_mul (le_ix (le_var 0) (le_int)) (le_var 2)) (le_var 2))))
/-! ### told_kind -/
abbrev stold_kind : Stmt := top 21
abbrev Ntold_kind : List Str := ["form", "whole"]
theorem sc_told_kind : FnScope Ntold_kind ["form"] (defScope stold_kind) := ⟨rfl, rfl, rfl, by decide +kernel, rfl, by decide +kernel, by decide +kernel⟩
def wtold_kind : WS := wSeq (wSet 1 (wCall Stold_size [wVar 0])) (wSeq (wIf (wTB (wOp gLt (wVar 1) (wC (.int 0)))) (wRet (wIfE (wTB (wOp gGt (wOp gIx (wVar 0) (wC (.int 0))) (wC (.int 0)))) (wC (.str "above")) (wC (.str "below")))) (wNext)) (wNever))
theorem der_told_kind {P : Program} {w : World} {K : PySem.W.Frag} {mg : Str → Option Value} {base : Heap} {f : Addr} (T : Txt mg) (F_told_size : FnD P w K mg base 1 "told_size" ["form"] [] Stold_size) (cdv : Value) (A : Around) (outer : List Env) (s : Shared) (H : Hp) (E : XK) (hg : A.guards = some []) (hr : Room 1 (A.deeper (envOfC "told_kind" (defScope stold_kind) s.heap.objs.size f cdv))) :
    LSs (cxOf (L2.CX P w) P w K mg base Ntold_kind "told_kind" (defScope stold_kind) f cdv A outer s H E) (wxE E) (defBody stold_kind) wtold_kind :=
  lss_cons (ls_set 1 sc_told_kind.nd (le_call F_told_size hg hr (takes_of rfl rfl rfl rfl) (la_cons (le_var 0) (la_nil)))) (lss_cons (ls_if (lt_cmp od_lt (le_var 1) (le_int)) (lss_one (ls_ret (le_ifE (lt_cmp od_gt (le_ix (le_var 0) (le_int)) (le_int)) (le_globS T.c_ABOVE) (le_globS T.c_BELOW)))) (lss_nil)) (lss_one (ls_never)))
/-! ### told_turned -/
abbrev stold_turned : Stmt := top 22
abbrev Ntold_turned : List Str := ["form", "turn", "p", "q", "r", "s", "middle"]
theorem sc_told_turned : FnScope Ntold_turned ["form", "turn"] (defScope stold_turned) := ⟨rfl, rfl, rfl, by decide +kernel, rfl, by decide +kernel, by decide +kernel⟩
def wtold_turned : WS := wSeq (wAsg (wVar 1) (gT [gN 2, gN 3, gN 4, gN 5])) (wSeq (wSet 6 (wOp gAdd (wOp gAdd (wOp gMul (wOp gMul (wOp gMul (wC (.int 2)) (wOp gIx (wVar 0) (wC (.int 0)))) (wVar 2)) (wVar 3)) (wOp gMul (wOp gIx (wVar 0) (wC (.int 1))) (wOp gAdd (wOp gMul (wVar 2) (wVar 5)) (wOp gMul (wVar 3) (wVar 4))))) (wOp gMul (wOp gMul (wOp gMul (wC (.int 2)) (wOp gIx (wVar 0) (wC (.int 2)))) (wVar 4)) (wVar 5)))) (wRet (wTup [wCall Stold_value [wVar 0, wVar 2, wVar 4], wVar 6, wCall Stold_value [wVar 0, wVar 3, wVar 5]])))
theorem der_told_turned {P : Program} {w : World} {K : PySem.W.Frag} {mg : Str → Option Value} {base : Heap} {f : Addr} (T : Txt mg) (F_told_value : FnD P w K mg base 1 "told_value" ["form", "x", "y"] [] Stold_value) (cdv : Value) (A : Around) (outer : List Env) (s : Shared) (H : Hp) (E : XK) (hg : A.guards = some []) (hr : Room 1 (A.deeper (envOfC "told_turned" (defScope stold_turned) s.heap.objs.size f cdv))) :
    LSs (cxOf (L2.CX P w) P w K mg base Ntold_turned "told_turned" (defScope stold_turned) f cdv A outer s H E) (wxE E) (defBody stold_turned) wtold_turned :=
  lss_cons (ls_asg (le_var 1) (lg_tup (lgs_cons (lg_name 2 sc_told_turned.nd) (lgs_cons (lg_name 3 sc_told_turned.nd) (lgs_cons (lg_name 4 sc_told_turned.nd) (lgs_cons (lg_name 5 sc_told_turned.nd) (lgs_nil))))))) (lss_cons (ls_set 6 sc_told_turned.nd (le_op od_add (le_op od_add (le_op od_mul (le_op od_mul (le_op od_mul (le_int) (le_ix (le_var 0) (le_int))) (le_var 2)) (le_var 3)) (le_op od_mul (le_ix (le_var 0) (le_int)) (le_op od_add (le_op od_mul (le_var 2) (le_var 5)) (le_op od_mul (le_var 3) (le_var 4))))) (le_op od_mul (le_op od_mul (le_op od_mul (le_int) (le_ix (le_var 0) (le_int))) (le_var 4)) (le_var 5)))) (lss_one (ls_ret (le_tup (la_cons (le_call F_told_value hg hr (takes_of rfl rfl rfl rfl) (la_cons (le_var 0) (la_cons (le_var 2) (la_cons (le_var 4) (la_nil))))) (la_cons (le_var 6) (la_cons (le_call F_told_value hg hr (takes_of rfl rfl rfl rfl) (la_cons (le_var 0) (la_cons (le_var 3) (la_cons (le_var 5) (la_nil))))) (la_nil))))))))
/-! ### told_then -/
abbrev stold_then : Stmt := top 23
abbrev Ntold_then : List Str := ["one", "other", "p", "q", "r", "s", "e", "f", "g", "h"]
theorem sc_told_then : FnScope Ntold_then ["one", "other"] (defScope stold_then) := ⟨rfl, rfl, rfl, by decide +kernel, rfl, by decide +kernel, by decide +kernel⟩
def wtold_then : WS := wSeq (wAsg (wVar 0) (gT [gN 2, gN 3, gN 4, gN 5])) (wSeq (wAsg (wVar 1) (gT [gN 6, gN 7, gN 8, gN 9])) (wRet (wTup [wOp gAdd (wOp gMul (wVar 2) (wVar 6)) (wOp gMul (wVar 3) (wVar 8)), wOp gAdd (wOp gMul (wVar 2) (wVar 7)) (wOp gMul (wVar 3) (wVar 9)), wOp gAdd (wOp gMul (wVar 4) (wVar 6)) (wOp gMul (wVar 5) (wVar 8)), wOp gAdd (wOp gMul (wVar 4) (wVar 7)) (wOp gMul (wVar 5) (wVar 9))])))
theorem der_told_then {P : Program} {w : World} {K : PySem.W.Frag} {mg : Str → Option Value} {base : Heap} {f : Addr} (T : Txt mg)  (cdv : Value) (A : Around) (outer : List Env) (s : Shared) (H : Hp) (E : XK) (hg : A.guards = some []) (hr : Room 0 (A.deeper (envOfC "told_then" (defScope stold_then) s.heap.objs.size f cdv))) :
    LSs (cxOf (L2.CX P w) P w K mg base Ntold_then "told_then" (defScope stold_then) f cdv A outer s H E) (wxE E) (defBody stold_then) wtold_then :=
  lss_cons (ls_asg (le_var 0) (lg_tup (lgs_cons (lg_name 2 sc_told_then.nd) (lgs_cons (lg_name 3 sc_told_then.nd) (lgs_cons (lg_name 4 sc_told_then.nd) (lgs_cons (lg_name 5 sc_told_then.nd) (lgs_nil))))))) (lss_cons (ls_asg (le_var 1) (lg_tup (lgs_cons (lg_name 6 sc_told_then.nd) (lgs_cons (lg_name 7 sc_told_then.nd) (lgs_cons (lg_name 8 sc_told_then.nd) (lgs_cons (lg_name 9 sc_told_then.nd) (lgs_nil))))))) (lss_one (ls_ret (le_tup (la_cons (le_op od_add (le_op od_mul (le_var 2) (le_var 6)) (le_op od_mul (le_var 3) (le_var 8))) (la_cons (le_op od_add (le_op od_mul (le_var 2) (le_var 7)) (le_op od_mul (le_var 3) (le_var 9))) (la_cons (le_op od_add (le_op od_mul (le_var 4) (le_var 6)) (le_op od_mul (le_var 5) (le_var 8))) (la_cons (le_op od_add (le_op od_mul (le_var 4) (le_var 7)) (le_op od_mul (le_var 5) (le_var 9))) (la_nil)))))))))
/-! ### told_back -/
abbrev stold_back : Stmt := top 24
abbrev Ntold_back : List Str := ["turn"]
theorem sc_told_back : FnScope Ntold_back ["turn"] (defScope stold_back) := ⟨rfl, rfl, rfl, by decide +kernel, rfl, by decide +kernel, by decide +kernel⟩
def wtold_back : WS := wRet (wTup [wOp gIx (wVar 0) (wNeg (wC (.int 1))), wNeg (wOp gIx (wVar 0) (wC (.int 1))), wNeg (wOp gIx (wVar 0) (wC (.int 2))), wOp gIx (wVar 0) (wC (.int 0))])
theorem der_told_back {P : Program} {w : World} {K : PySem.W.Frag} {mg : Str → Option Value} {base : Heap} {f : Addr} (T : Txt mg)  (cdv : Value) (A : Around) (outer : List Env) (s : Shared) (H : Hp) (E : XK) (hg : A.guards = some []) (hr : Room 0 (A.deeper (envOfC "told_back" (defScope stold_back) s.heap.objs.size f cdv))) :
    LSs (cxOf (L2.CX P w) P w K mg base Ntold_back "told_back" (defScope stold_back) f cdv A outer s H E) (wxE E) (defBody stold_back) wtold_back :=
  lss_one (ls_ret (le_tup (la_cons (le_ix (le_var 0) (le_neg (le_int))) (la_cons (le_neg (le_ix (le_var 0) (le_int))) (la_cons (le_neg (le_ix (le_var 0) (le_int))) (la_cons (le_ix (le_var 0) (le_int)) (la_nil)))))))
/-! ### look_at_above -/
abbrev slook_at_above : Stmt := top 28
abbrev Nlook_at_above : List Str := ["form"]
theorem sc_look_at_above : FnScope Nlook_at_above ["form"] (defScope slook_at_above) := ⟨rfl, rfl, rfl, by decide +kernel, rfl, by decide +kernel, by decide +kernel⟩
def wlook_at_above : WS := wSeq (wExpr (wCall Slook_at_form [wVar 0])) (wIf (wTB (wOp gNe (wCall Stold_kind [wVar 0]) (wC (.str "above")))) (wNever) (wNext))
theorem der_look_at_above {P : Program} {w : World} {K : PySem.W.Frag} {mg : Str → Option Value} {base : Heap} {f : Addr} (T : Txt mg) (F_look_at_form : FnD P w K mg base 5 "look_at_form" ["form"] [] Slook_at_form) (F_told_kind : FnD P w K mg base 2 "told_kind" ["form"] [] Stold_kind) (cdv : Value) (A : Around) (outer : List Env) (s : Shared) (H : Hp) (E : XK) (hg : A.guards = some []) (hr : Room 5 (A.deeper (envOfC "look_at_above" (defScope slook_at_above) s.heap.objs.size f cdv))) :
    LSs (cxOf (L2.CX P w) P w K mg base Nlook_at_above "look_at_above" (defScope slook_at_above) f cdv A outer s H E) (wxE E) (defBody slook_at_above) wlook_at_above :=
  lss_cons (ls_expr (le_call F_look_at_form hg hr (takes_of rfl rfl rfl rfl) (la_cons (le_var 0) (la_nil)))) (lss_one (ls_if (lt_cmp (od_ne hr.units) (le_call F_told_kind hg hr (takes_of rfl rfl rfl rfl) (la_cons (le_var 0) (la_nil))) (le_globS T.c_ABOVE)) (lss_one (ls_never)) (lss_nil)))
/-! ### is_least -/
abbrev sis_least : Stmt := top 29
abbrev Nis_least : List Str := ["form", "a", "b", "c"]
theorem sc_is_least : FnScope Nis_least ["form"] (defScope sis_least) := ⟨rfl, rfl, rfl, by decide +kernel, rfl, by decide +kernel, by decide +kernel⟩
def wis_least : WS := wSeq (wAsg (wVar 0) (gT [gN 1, gN 2, gN 3])) (wRet (wAndV (wChainN (wNeg (wVar 1)) [(gLt, wVar 2), (gLe, wVar 1), (gLe, wVar 3)]) (wOrV (wOp gGe (wVar 2) (wC (.int 0))) (wOp gNe (wVar 1) (wVar 3)))))
theorem der_is_least {P : Program} {w : World} {K : PySem.W.Frag} {mg : Str → Option Value} {base : Heap} {f : Addr} (T : Txt mg)  (cdv : Value) (A : Around) (outer : List Env) (s : Shared) (H : Hp) (E : XK) (hg : A.guards = some []) (hr : Room 0 (A.deeper (envOfC "is_least" (defScope sis_least) s.heap.objs.size f cdv))) :
    LSs (cxOf (L2.CX P w) P w K mg base Nis_least "is_least" (defScope sis_least) f cdv A outer s H E) (wxE E) (defBody sis_least) wis_least :=
  lss_cons (ls_asg (le_var 0) (lg_tup (lgs_cons (lg_name 1 sc_is_least.nd) (lgs_cons (lg_name 2 sc_is_least.nd) (lgs_cons (lg_name 3 sc_is_least.nd) (lgs_nil)))))) (lss_one (ls_ret (le_and (le_chainN (le_neg (le_var 1)) (lch_cons od_lt (le_var 2) (lch_cons od_le (le_var 1) (lch_last od_le (le_var 3))))) (le_one (le_or (le_cmp od_ge (le_var 2) (le_int)) (le_one (le_cmp (od_ne hr.units) (le_var 1) (le_var 3))))))))
/-! ### told_least -/
abbrev stold_least : Stmt := top 30
abbrev Ntold_least : List Str := ["form", "here", "turn", "a", "b", "c", "step"]
theorem sc_told_least : FnScope Ntold_least ["form"] (defScope stold_least) := ⟨rfl, rfl, rfl, by decide +kernel, rfl, by decide +kernel, by decide +kernel⟩
def wtold_least : WS := wSeq (wPar 1 2 (wVar 0) (wTup [wC (.int 1), wC (.int 0), wC (.int 0), wC (.int 1)])) (wSeq (wWhile (wNotT (wTB (wCall Sis_least [wVar 1]))) (wSeq (wAsg (wVar 1) (gT [gN 3, gN 4, gN 5])) (wSeq (wIf (wOrT (wTB (wOp gGt (wVar 3) (wVar 5))) (wAndT (wTB (wOp gEq (wVar 3) (wVar 5))) (wTB (wOp gLt (wVar 4) (wC (.int 0)))))) (wSet 6 (wTup [wC (.int 0), wNeg (wC (.int 1)), wC (.int 1), wC (.int 0)])) (wSet 6 (wTup [wC (.int 1), wOp gFdiv (wOp gSub (wVar 3) (wVar 4)) (wOp gMul (wC (.int 2)) (wVar 3)), wC (.int 0), wC (.int 1)]))) (wPar 1 2 (wCall Stold_turned [wVar 1, wVar 6]) (wCall Stold_then [wVar 2, wVar 6]))))) (wRet (wTup [wVar 1, wVar 2])))
theorem der_told_least {P : Program} {w : World} {K : PySem.W.Frag} {mg : Str → Option Value} {base : Heap} {f : Addr} (T : Txt mg) (F_is_least : FnD P w K mg base 1 "is_least" ["form"] [] Sis_least) (F_told_then : FnD P w K mg base 1 "told_then" ["one", "other"] [] Stold_then) (F_told_turned : FnD P w K mg base 2 "told_turned" ["form", "turn"] [] Stold_turned) (cdv : Value) (A : Around) (outer : List Env) (s : Shared) (H : Hp) (E : XK) (hg : A.guards = some []) (hr : Room 2 (A.deeper (envOfC "told_least" (defScope stold_least) s.heap.objs.size f cdv))) :
    LSs (cxOf (L2.CX P w) P w K mg base Ntold_least "told_least" (defScope stold_least) f cdv A outer s H E) (wxE E) (defBody stold_least) wtold_least :=
  lss_cons (ls_par 1 2 sc_told_least.nd (la_cons (le_var 0) (la_cons (le_tup (la_cons (le_int) (la_cons (le_int) (la_cons (le_int) (la_cons (le_int) (la_nil)))))) (la_nil)))) (lss_cons (ls_while (passes_of rfl) (lt_not (lt_val (le_call F_is_least hg hr (takes_of rfl rfl rfl rfl) (la_cons (le_var 1) (la_nil))))) (lss_cons (ls_asg (le_var 1) (lg_tup (lgs_cons (lg_name 3 sc_told_least.nd) (lgs_cons (lg_name 4 sc_told_least.nd) (lgs_cons (lg_name 5 sc_told_least.nd) (lgs_nil)))))) (lss_cons (ls_if ((lw_or (lt_cmp od_gt (le_var 3) (le_var 5)) (lw_or1 ((lw_and (lt_cmp (od_eq hr.units) (le_var 3) (le_var 5)) (lw_and1 (lt_cmp od_lt (le_var 4) (le_int)))).lt))).lt) (lss_one (ls_set 6 sc_told_least.nd (le_tup (la_cons (le_int) (la_cons (le_neg (le_int)) (la_cons (le_int) (la_cons (le_int) (la_nil)))))))) (lss_one (ls_set 6 sc_told_least.nd (le_tup (la_cons (le_int) (la_cons (le_op od_fdiv (le_op od_sub (le_var 3) (le_var 4)) (le_op od_mul (le_int) (le_var 3))) (la_cons (le_int) (la_cons (le_int) (la_nil))))))))) (lss_one (ls_par 1 2 sc_told_least.nd (la_cons (le_call F_told_turned hg hr (takes_of rfl rfl rfl rfl) (la_cons (le_var 1) (la_cons (le_var 6) (la_nil)))) (la_cons (le_call F_told_then hg hr (takes_of rfl rfl rfl rfl) (la_cons (le_var 2) (la_cons (le_var 6) (la_nil)))) (la_nil)))))))) (lss_one (ls_ret (le_tup (la_cons (le_var 1) (la_cons (le_var 2) (la_nil)))))))
/-! ### least_form -/
abbrev sleast_form : Stmt := top 31
abbrev Nleast_form : List Str := ["form"]
theorem sc_least_form : FnScope Nleast_form ["form"] (defScope sleast_form) := ⟨rfl, rfl, rfl, by decide +kernel, rfl, by decide +kernel, by decide +kernel⟩
def wleast_form : WS := wSeq (wExpr (wCall Slook_at_above [wVar 0])) (wRet (wCall Stold_least [wVar 0]))
theorem der_least_form {P : Program} {w : World} {K : PySem.W.Frag} {mg : Str → Option Value} {base : Heap} {f : Addr} (T : Txt mg) (F_look_at_above : FnD P w K mg base 6 "look_at_above" ["form"] [] Slook_at_above) (F_told_least : FnD P w K mg base 3 "told_least" ["form"] [] Stold_least) (cdv : Value) (A : Around) (outer : List Env) (s : Shared) (H : Hp) (E : XK) (hg : A.guards = some []) (hr : Room 6 (A.deeper (envOfC "least_form" (defScope sleast_form) s.heap.objs.size f cdv))) :
    LSs (cxOf (L2.CX P w) P w K mg base Nleast_form "least_form" (defScope sleast_form) f cdv A outer s H E) (wxE E) (defBody sleast_form) wleast_form :=
  lss_cons (ls_expr (le_call F_look_at_above hg hr (takes_of rfl rfl rfl rfl) (la_cons (le_var 0) (la_nil)))) (lss_one (ls_ret (le_call F_told_least hg hr (takes_of rfl rfl rfl rfl) (la_cons (le_var 0) (la_nil)))))
/-! ### look_at_two -/
abbrev slook_at_two : Stmt := top 32
abbrev Nlook_at_two : List Str := ["one", "other"]
theorem sc_look_at_two : FnScope Nlook_at_two ["one", "other"] (defScope slook_at_two) := ⟨rfl, rfl, rfl, by decide +kernel, rfl, by decide +kernel, by decide +kernel⟩
def wlook_at_two : WS := wSeq (wExpr (wCall Slook_at_above [wVar 0])) (wExpr (wCall Slook_at_above [wVar 1]))
theorem der_look_at_two {P : Program} {w : World} {K : PySem.W.Frag} {mg : Str → Option Value} {base : Heap} {f : Addr} (T : Txt mg) (F_look_at_above : FnD P w K mg base 6 "look_at_above" ["form"] [] Slook_at_above) (cdv : Value) (A : Around) (outer : List Env) (s : Shared) (H : Hp) (E : XK) (hg : A.guards = some []) (hr : Room 6 (A.deeper (envOfC "look_at_two" (defScope slook_at_two) s.heap.objs.size f cdv))) :
    LSs (cxOf (L2.CX P w) P w K mg base Nlook_at_two "look_at_two" (defScope slook_at_two) f cdv A outer s H E) (wxE E) (defBody slook_at_two) wlook_at_two :=
  lss_cons (ls_expr (le_call F_look_at_above hg hr (takes_of rfl rfl rfl rfl) (la_cons (le_var 0) (la_nil)))) (lss_one (ls_expr (le_call F_look_at_above hg hr (takes_of rfl rfl rfl rfl) (la_cons (le_var 1) (la_nil)))))
/-! ### same_above -/
abbrev ssame_above : Stmt := top 33
abbrev Nsame_above : List Str := ["one", "other", "first", "second"]
theorem sc_same_above : FnScope Nsame_above ["one", "other"] (defScope ssame_above) := ⟨rfl, rfl, rfl, by decide +kernel, rfl, by decide +kernel, by decide +kernel⟩
def wsame_above : WS := wSeq (wExpr (wCall Slook_at_two [wVar 0, wVar 1])) (wSeq (wPar 2 3 (wCall Stold_least [wVar 0]) (wCall Stold_least [wVar 1])) (wSeq (wIf (wTB (wOp gNe (wOp gIx (wVar 2) (wC (.int 0))) (wOp gIx (wVar 3) (wC (.int 0))))) (wRet (wTup [wC (.str "least"), wOp gIx (wVar 2) (wC (.int 0)), wOp gIx (wVar 3) (wC (.int 0))])) (wNext)) (wRet (wTup [wC (.str "turn"), wCall Stold_then [wOp gIx (wVar 2) (wC (.int 1)), wCall Stold_back [wOp gIx (wVar 3) (wC (.int 1))]]]))))
theorem der_same_above {P : Program} {w : World} {K : PySem.W.Frag} {mg : Str → Option Value} {base : Heap} {f : Addr} (T : Txt mg) (F_look_at_two : FnD P w K mg base 7 "look_at_two" ["one", "other"] [] Slook_at_two) (F_told_back : FnD P w K mg base 1 "told_back" ["turn"] [] Stold_back) (F_told_least : FnD P w K mg base 3 "told_least" ["form"] [] Stold_least) (F_told_then : FnD P w K mg base 1 "told_then" ["one", "other"] [] Stold_then) (cdv : Value) (A : Around) (outer : List Env) (s : Shared) (H : Hp) (E : XK) (hg : A.guards = some []) (hr : Room 7 (A.deeper (envOfC "same_above" (defScope ssame_above) s.heap.objs.size f cdv))) :
    LSs (cxOf (L2.CX P w) P w K mg base Nsame_above "same_above" (defScope ssame_above) f cdv A outer s H E) (wxE E) (defBody ssame_above) wsame_above :=
  lss_cons (ls_expr (le_call F_look_at_two hg hr (takes_of rfl rfl rfl rfl) (la_cons (le_var 0) (la_cons (le_var 1) (la_nil))))) (lss_cons (ls_par 2 3 sc_same_above.nd (la_cons (le_call F_told_least hg hr (takes_of rfl rfl rfl rfl) (la_cons (le_var 0) (la_nil))) (la_cons (le_call F_told_least hg hr (takes_of rfl rfl rfl rfl) (la_cons (le_var 1) (la_nil))) (la_nil)))) (lss_cons (ls_if (lt_cmp (od_ne hr.units) (le_ix (le_var 2) (le_int)) (le_ix (le_var 3) (le_int))) (lss_one (ls_ret (le_tup (la_cons (le_globS T.c_LEAST) (la_cons (le_ix (le_var 2) (le_int)) (la_cons (le_ix (le_var 3) (le_int)) (la_nil))))))) (lss_nil)) (lss_one (ls_ret (le_tup (la_cons (le_globS T.c_TURN) (la_cons (le_call F_told_then hg hr (takes_of rfl rfl rfl rfl) (la_cons (le_ix (le_var 2) (le_int)) (la_cons (le_call F_told_back hg hr (takes_of rfl rfl rfl rfl) (la_cons (le_ix (le_var 3) (le_int)) (la_nil))) (la_nil)))) (la_nil))))))))
/-! ### told_own -/
abbrev stold_own : Stmt := top 34
abbrev Ntold_own : List Str := ["form", "a", "b", "c", "found", "turn", "part"]
theorem sc_told_own : FnScope Ntold_own ["form"] (defScope stold_own) := ⟨rfl, rfl, rfl, by decide +kernel, rfl, by decide +kernel, by decide +kernel⟩
def wtold_own : WS := wSeq (wAsg (wVar 0) (gT [gN 1, gN 2, gN 3])) (wSeq (wSet 4 (wLst [wTup [wC (.int 1), wC (.int 0), wC (.int 0), wC (.int 1)], wTup [wNeg (wC (.int 1)), wC (.int 0), wC (.int 0), wNeg (wC (.int 1))]])) (wSeq (wIf (wAndT (wTB (wOp gEq (wVar 2) (wC (.int 0)))) (wTB (wOp gEq (wVar 1) (wVar 3)))) (wExpr (wMt gExtend (wVar 4) [wLst [wTup [wC (.int 0), wNeg (wC (.int 1)), wC (.int 1), wC (.int 0)], wTup [wC (.int 0), wC (.int 1), wNeg (wC (.int 1)), wC (.int 0)]]])) (wNext)) (wSeq (wIf (wTB (wChainN (wVar 1) [(gEq, wVar 2), (gEq, wVar 3)])) (wFor (wSeqI (wTup [wTup [wC (.int 0), wNeg (wC (.int 1)), wC (.int 1), wC (.int 1)], wTup [wC (.int 1), wC (.int 1), wNeg (wC (.int 1)), wC (.int 0)]])) (gN 5) (wExpr (wMt gExtend (wVar 4) [wLst [wVar 5, wB gTuple [wLc (wSeqI (wVar 5)) (CT.one 6) (wYes) (wNeg (wVar 6))]]]))) (wNext)) (wRet (wB gSorted [wVar 4])))))
theorem der_told_own {P : Program} {w : World} {K : PySem.W.Frag} {mg : Str → Option Value} {base : Heap} {f : Addr} (T : Txt mg)  (cdv : Value) (A : Around) (outer : List Env) (s : Shared) (H : Hp) (E : XK) (hg : A.guards = some []) (hr : Room 0 (A.deeper (envOfC "told_own" (defScope stold_own) s.heap.objs.size f cdv))) :
    LSs (cxOf (L2.CX P w) P w K mg base Ntold_own "told_own" (defScope stold_own) f cdv A outer s H E) (wxE E) (defBody stold_own) wtold_own :=
  lss_cons (ls_asg (le_var 0) (lg_tup (lgs_cons (lg_name 1 sc_told_own.nd) (lgs_cons (lg_name 2 sc_told_own.nd) (lgs_cons (lg_name 3 sc_told_own.nd) (lgs_nil)))))) (lss_cons (ls_set 4 sc_told_own.nd (le_lst (la_cons (le_tup (la_cons (le_int) (la_cons (le_int) (la_cons (le_int) (la_cons (le_int) (la_nil)))))) (la_cons (le_tup (la_cons (le_neg (le_int)) (la_cons (le_int) (la_cons (le_int) (la_cons (le_neg (le_int)) (la_nil)))))) (la_nil))))) (lss_cons (ls_if ((lw_and (lt_cmp (od_eq hr.units) (le_var 2) (le_int)) (lw_and1 (lt_cmp (od_eq hr.units) (le_var 1) (le_var 3)))).lt) (lss_one (ls_expr (le_extend (le_var 4) (la_cons (le_lst (la_cons (le_tup (la_cons (le_int) (la_cons (le_neg (le_int)) (la_cons (le_int) (la_cons (le_int) (la_nil)))))) (la_cons (le_tup (la_cons (le_int) (la_cons (le_int) (la_cons (le_neg (le_int)) (la_cons (le_int) (la_nil)))))) (la_nil)))) (la_nil))))) (lss_nil)) (lss_cons (ls_if (lt_chainN (le_var 1) (lch_cons (od_eq hr.units) (le_var 2) (lch_last (od_eq hr.units) (le_var 3)))) (lss_one (ls_for (passes_of rfl) (li_seq (le_tup (la_cons (le_tup (la_cons (le_int) (la_cons (le_neg (le_int)) (la_cons (le_int) (la_cons (le_int) (la_nil)))))) (la_cons (le_tup (la_cons (le_int) (la_cons (le_int) (la_cons (le_neg (le_int)) (la_cons (le_int) (la_nil)))))) (la_nil))))) (lg_name 5 sc_told_own.nd) (lss_one (ls_expr (le_extend (le_var 4) (la_cons (le_lst (la_cons (le_var 5) (la_cons (le_callTy cd_tuple T.z_tuple (by decide +kernel) (la_cons (le_lc sc_told_own.nd (li_seq (le_var 5)) (ok := by show BlkOk Ntold_own (defScope stold_own) _ _; exact ⟨rfl, by decide +kernel, by decide +kernel, by decide +kernel, by decide +kernel⟩) (own := [("part", 6)]) (hv := rfl) (hg := (fun _ _ _ _ _ => pg_one 6 sc_told_own.nd)) (ht := (fun _ _ _ _ _ => lps_nil)) (he := (fun _ _ _ _ _ => le_neg (le_var 6)))) (la_nil))) (la_nil)))) (la_nil))))))) (lss_nil)) (lss_one (ls_ret (le_callB (cd_sorted hr.units) T.z_sorted (by decide +kernel) (la_cons (le_var 4) (la_nil))))))))
/-! ### own_turns -/
abbrev sown_turns : Stmt := top 35
abbrev Nown_turns : List Str := ["form", "least", "turn", "back", "own"]
theorem sc_own_turns : FnScope Nown_turns ["form"] (defScope sown_turns) := ⟨rfl, rfl, rfl, by decide +kernel, rfl, by decide +kernel, by decide +kernel⟩
def wown_turns : WS := wSeq (wExpr (wCall Slook_at_above [wVar 0])) (wSeq (wAsg (wCall Stold_least [wVar 0]) (gT [gN 1, gN 2])) (wSeq (wSet 3 (wCall Stold_back [wVar 2])) (wRet (wB gTuple [wB gSorted [wLc (wSeqI (wCall Stold_own [wVar 1])) (CT.one 4) (wYes) (wCall Stold_then [wCall Stold_then [wVar 2, wVar 4], wVar 3])]]))))
theorem der_own_turns {P : Program} {w : World} {K : PySem.W.Frag} {mg : Str → Option Value} {base : Heap} {f : Addr} (T : Txt mg) (F_look_at_above : FnD P w K mg base 6 "look_at_above" ["form"] [] Slook_at_above) (F_told_back : FnD P w K mg base 1 "told_back" ["turn"] [] Stold_back) (F_told_least : FnD P w K mg base 3 "told_least" ["form"] [] Stold_least) (F_told_own : FnD P w K mg base 1 "told_own" ["form"] [] Stold_own) (F_told_then : FnD P w K mg base 1 "told_then" ["one", "other"] [] Stold_then) (cdv : Value) (A : Around) (outer : List Env) (s : Shared) (H : Hp) (E : XK) (hg : A.guards = some []) (hr : Room 6 (A.deeper (envOfC "own_turns" (defScope sown_turns) s.heap.objs.size f cdv))) :
    LSs (cxOf (L2.CX P w) P w K mg base Nown_turns "own_turns" (defScope sown_turns) f cdv A outer s H E) (wxE E) (defBody sown_turns) wown_turns :=
  lss_cons (ls_expr (le_call F_look_at_above hg hr (takes_of rfl rfl rfl rfl) (la_cons (le_var 0) (la_nil)))) (lss_cons (ls_asg (le_call F_told_least hg hr (takes_of rfl rfl rfl rfl) (la_cons (le_var 0) (la_nil))) (lg_tup (lgs_cons (lg_name 1 sc_own_turns.nd) (lgs_cons (lg_name 2 sc_own_turns.nd) (lgs_nil))))) (lss_cons (ls_set 3 sc_own_turns.nd (le_call F_told_back hg hr (takes_of rfl rfl rfl rfl) (la_cons (le_var 2) (la_nil)))) (lss_one (ls_ret (le_callTy cd_tuple T.z_tuple (by decide +kernel) (la_cons (le_callB (cd_sorted hr.units) T.z_sorted (by decide +kernel) (la_cons (le_lc sc_own_turns.nd (li_seq (le_call F_told_own hg hr (takes_of rfl rfl rfl rfl) (la_cons (le_var 1) (la_nil)))) (ok := by show BlkOk Nown_turns (defScope sown_turns) _ _; exact ⟨rfl, by decide +kernel, by decide +kernel, by decide +kernel, by decide +kernel⟩) (own := [("own", 4)]) (hv := rfl) (hg := (fun _ _ _ _ _ => pg_one 4 sc_own_turns.nd)) (ht := (fun _ _ _ _ _ => lps_nil)) (he := (fun _ _ _ _ _ => le_call F_told_then hg hr LamX.takes0 (la_cons (le_call F_told_then hg hr LamX.takes0 (la_cons (le_var 2) (la_cons (le_var 4) (la_nil)))) (la_cons (le_var 3) (la_nil)))))) (la_nil))) (la_nil)))))))
/-! ### _law_pot -/
abbrev s_law_pot : Stmt := top 37
abbrev N_law_pot : List Str := ["script", "place", "cell", "own", "small"]
theorem sc__law_pot : FnScope N_law_pot ["script", "place"] (defScope s_law_pot) := ⟨rfl, rfl, rfl, by decide +kernel, rfl, by decide +kernel, by decide +kernel⟩
def w_law_pot : WS := wSeq (wSet 2 (wIfE (wTB (wOp gLt (wVar 1) (wB gLen [wVar 0]))) (wOp gIx (wVar 0) (wVar 1)) (wOp gAdd (wOp gAdd (wOp gMod (wB gInt [wB gSum [wSl (wVar 0) (wNoP) (wPart (wC (.int 1)))]]) (wC (.int 1000303))) (wOp gMul (wC (.int 5231)) (wVar 1))) (wC (.int 3671))))) (wSeq (wSet 3 (wOp gMul (wOp gMod (wB gInt [wB gAbs [wVar 2]]) (wOp gPowW (wOp gPowW (wC (.int 10)) (wC (.int 60))) (wC (.int 5)))) (wB gInt [wOp gGe (wB gAbs [wVar 2]) (wOp gPowW (wC (.int 10)) (wC (.int 18)))]))) (wSeq (wSet 4 (wOp gMod (wB gInt [wVar 2]) (wC (.int 2305843009213693951)))) (wRet (wLst [wVar 3, wOp gMod (wB gInt [wOp gAdd (wOp gAdd (wOp gMul (wVar 4) (wC (.int 68213))) (wOp gMul (wOp gMul (wC (.int 11057)) (wVar 1)) (wVar 1))) (wC (.int 3019))]) (wC (.int 2305843009213693921)), wC (.int 0)]))))
theorem der__law_pot {P : Program} {w : World} {K : PySem.W.Frag} {mg : Str → Option Value} {base : Heap} {f : Addr} (T : Txt mg)  (cdv : Value) (A : Around) (outer : List Env) (s : Shared) (H : Hp) (E : XK) (hg : A.guards = some []) (hr : Room 0 (A.deeper (envOfC "_law_pot" (defScope s_law_pot) s.heap.objs.size f cdv))) :
    LSs (cxOf (L2.CX P w) P w K mg base N_law_pot "_law_pot" (defScope s_law_pot) f cdv A outer s H E) (wxE E) (defBody s_law_pot) w_law_pot :=
  lss_cons (ls_set 2 sc__law_pot.nd (le_ifE (lt_cmp od_lt (le_var 1) (le_callB cd_len T.z_len (by decide +kernel) (la_cons (le_var 0) (la_nil)))) (le_ix (le_var 0) (le_var 1)) (le_op od_add (le_op od_add (le_op od_mod (le_callTy cd_int T.z_int (by decide +kernel) (la_cons (le_callB (cd_sum rfl) T.z_sum (by decide +kernel) (la_cons (le_sl (le_var 0) (lo_none) (lo_some (le_int))) (la_nil))) (la_nil))) (le_int)) (le_op od_mul (le_int) (le_var 1))) (le_int)))) (lss_cons (ls_set 3 sc__law_pot.nd (le_op od_mul (le_op od_mod (le_callTy cd_int T.z_int (by decide +kernel) (la_cons (le_callB cd_abs T.z_abs (by decide +kernel) (la_cons (le_var 2) (la_nil))) (la_nil))) (le_op od_powW (le_op od_powW (le_int) (le_int)) (le_int))) (le_callTy cd_int T.z_int (by decide +kernel) (la_cons (le_cmp od_ge (le_callB cd_abs T.z_abs (by decide +kernel) (la_cons (le_var 2) (la_nil))) (le_op od_powW (le_int) (le_int))) (la_nil))))) (lss_cons (ls_set 4 sc__law_pot.nd (le_op od_mod (le_callTy cd_int T.z_int (by decide +kernel) (la_cons (le_var 2) (la_nil))) (le_int))) (lss_one (ls_ret (le_lst (la_cons (le_var 3) (la_cons (le_op od_mod (le_callTy cd_int T.z_int (by decide +kernel) (la_cons (le_op od_add (le_op od_add (le_op od_mul (le_var 4) (le_int)) (le_op od_mul (le_op od_mul (le_int) (le_var 1)) (le_var 1))) (le_int)) (la_nil))) (le_int)) (la_cons (le_int) (la_nil)))))))))
/-! ### _law_take -/
abbrev s_law_take : Stmt := top 38
abbrev N_law_take : List Str := ["pot", "upto", "digit", "prime", "blend"]
theorem sc__law_take : FnScope N_law_take ["pot", "upto"] (defScope s_law_take) := ⟨rfl, rfl, rfl, by decide +kernel, rfl, by decide +kernel, by decide +kernel⟩
def w_law_take : WS := wSeq (wIf (wTB (wOp gGt (wOp gIx (wVar 0) (wC (.int 0))) (wC (.int 0)))) (wSeq (wSet 2 (wOp gMod (wB gInt [wOp gIx (wVar 0) (wC (.int 0))]) (wVar 1))) (wSeq (wAsg (wOp gFdiv (wOp gIx (wVar 0) (wC (.int 0))) (wVar 1)) (gS (wVar 0) (wC (.int 0)))) (wRet (wVar 2)))) (wNext)) (wSeq (wAsg (wOp gAdd (wOp gIx (wVar 0) (wC (.int 2))) (wC (.int 1))) (gS (wVar 0) (wC (.int 2)))) (wSeq (wSet 3 (wOp gIx (wLst [wC (.int 2147483647), wC (.int 2147483629), wC (.int 2147483587), wC (.int 2147483579), wC (.int 2147483563)]) (wOp gMod (wB gInt [wOp gIx (wVar 0) (wC (.int 2))]) (wC (.int 5))))) (wSeq (wSet 4 (wOp gMod (wB gInt [wOp gPowW (wB gInt [wOp gAdd (wOp gAdd (wOp gIx (wVar 0) (wC (.int 1))) (wOp gMul (wOp gMul (wC (.int 97213)) (wOp gIx (wVar 0) (wC (.int 2)))) (wOp gIx (wVar 0) (wC (.int 2))))) (wC (.int 3671))]) (wC (.int 3))]) (wVar 3))) (wSeq (wSet 4 (wOp gMod (wB gInt [wOp gMul (wVar 4) (wOp gAdd (wOp gMod (wB gInt [wVar 4]) (wC (.int 13711))) (wOp gMul (wC (.int 431)) (wOp gIx (wVar 0) (wC (.int 2)))))]) (wC (.int 2305843009213693907)))) (wRet (wOp gMod (wB gInt [wOp gFdiv (wVar 4) (wC (.int 233))]) (wVar 1)))))))
theorem der__law_take {P : Program} {w : World} {K : PySem.W.Frag} {mg : Str → Option Value} {base : Heap} {f : Addr} (T : Txt mg)  (cdv : Value) (A : Around) (outer : List Env) (s : Shared) (H : Hp) (E : XK) (hg : A.guards = some []) (hr : Room 0 (A.deeper (envOfC "_law_take" (defScope s_law_take) s.heap.objs.size f cdv))) :
    LSs (cxOf (L2.CX P w) P w K mg base N_law_take "_law_take" (defScope s_law_take) f cdv A outer s H E) (wxE E) (defBody s_law_take) w_law_take :=
  lss_cons (ls_if (lt_cmp od_gt (le_ix (le_var 0) (le_int)) (le_int)) (lss_cons (ls_set 2 sc__law_take.nd (le_op od_mod (le_callTy cd_int T.z_int (by decide +kernel) (la_cons (le_ix (le_var 0) (le_int)) (la_nil))) (le_var 1))) (lss_cons (ls_asg (le_op od_fdiv (le_ix (le_var 0) (le_int)) (le_var 1)) (lg_sub (le_var 0) (le_int))) (lss_one (ls_ret (le_var 2))))) (lss_nil)) (lss_cons (ls_asg (le_op od_add (le_ix (le_var 0) (le_int)) (le_int)) (lg_sub (le_var 0) (le_int))) (lss_cons (ls_set 3 sc__law_take.nd (le_ix (le_lst (la_cons (le_int) (la_cons (le_int) (la_cons (le_int) (la_cons (le_int) (la_cons (le_int) (la_nil))))))) (le_op od_mod (le_callTy cd_int T.z_int (by decide +kernel) (la_cons (le_ix (le_var 0) (le_int)) (la_nil))) (le_int)))) (lss_cons (ls_set 4 sc__law_take.nd (le_op od_mod (le_callTy cd_int T.z_int (by decide +kernel) (la_cons (le_op od_powW (le_callTy cd_int T.z_int (by decide +kernel) (la_cons (le_op od_add (le_op od_add (le_ix (le_var 0) (le_int)) (le_op od_mul (le_op od_mul (le_int) (le_ix (le_var 0) (le_int))) (le_ix (le_var 0) (le_int)))) (le_int)) (la_nil))) (le_int)) (la_nil))) (le_var 3))) (lss_cons (ls_set 4 sc__law_take.nd (le_op od_mod (le_callTy cd_int T.z_int (by decide +kernel) (la_cons (le_op od_mul (le_var 4) (le_op od_add (le_op od_mod (le_callTy cd_int T.z_int (by decide +kernel) (la_cons (le_var 4) (la_nil))) (le_int)) (le_op od_mul (le_int) (le_ix (le_var 0) (le_int))))) (la_nil))) (le_int))) (lss_one (ls_ret (le_op od_mod (le_callTy cd_int T.z_int (by decide +kernel) (la_cons (le_op od_fdiv (le_var 4) (le_int)) (la_nil))) (le_var 1))))))))
/-! ### _law_of -/
abbrev s_law_of : Stmt := top 39
abbrev N_law_of : List Str := ["pot", "some"]
theorem sc__law_of : FnScope N_law_of ["pot", "some"] (defScope s_law_of) := ⟨rfl, rfl, rfl, by decide +kernel, rfl, by decide +kernel, by decide +kernel⟩
def w_law_of : WS := wRet (wOp gIx (wVar 1) (wCall S_law_take [wVar 0, wB gLen [wVar 1]]))
theorem der__law_of {P : Program} {w : World} {K : PySem.W.Frag} {mg : Str → Option Value} {base : Heap} {f : Addr} (T : Txt mg) (F__law_take : FnD P w K mg base 1 "_law_take" ["pot", "upto"] [] S_law_take) (cdv : Value) (A : Around) (outer : List Env) (s : Shared) (H : Hp) (E : XK) (hg : A.guards = some []) (hr : Room 1 (A.deeper (envOfC "_law_of" (defScope s_law_of) s.heap.objs.size f cdv))) :
    LSs (cxOf (L2.CX P w) P w K mg base N_law_of "_law_of" (defScope s_law_of) f cdv A outer s H E) (wxE E) (defBody s_law_of) w_law_of :=
  lss_one (ls_ret (le_ix (le_var 1) (le_call F__law_take hg hr (takes_of rfl rfl rfl rfl) (la_cons (le_var 0) (la_cons (le_callB cd_len T.z_len (by decide +kernel) (la_cons (le_var 1) (la_nil))) (la_nil))))))
/-! ### _law_cells -/
abbrev s_law_cells : Stmt := top 40
abbrev N_law_cells : List Str := ["script", "most"]
theorem sc__law_cells : FnScope N_law_cells ["script", "most"] (defScope s_law_cells) := ⟨rfl, rfl, rfl, by decide +kernel, rfl, by decide +kernel, by decide +kernel⟩
def w_law_cells : WS := wRet (wLstRg1 (wB gMax2 [wC (.int 1), wB gMin2 [wVar 1, wB gLen [wVar 0]]]))
theorem der__law_cells {P : Program} {w : World} {K : PySem.W.Frag} {mg : Str → Option Value} {base : Heap} {f : Addr} (T : Txt mg)  (cdv : Value) (A : Around) (outer : List Env) (s : Shared) (H : Hp) (E : XK) (hg : A.guards = some []) (hr : Room 0 (A.deeper (envOfC "_law_cells" (defScope s_law_cells) s.heap.objs.size f cdv))) :
    LSs (cxOf (L2.CX P w) P w K mg base N_law_cells "_law_cells" (defScope s_law_cells) f cdv A outer s H E) (wxE E) (defBody s_law_cells) w_law_cells :=
  lss_one (ls_ret (le_listRg1 T.z_list T.z_range (le_callB (cd_max2 rfl) T.z_max (by decide +kernel) (la_cons (le_int) (la_cons (le_callB (cd_min2 rfl) T.z_min (by decide +kernel) (la_cons (le_var 1) (la_cons (le_callB cd_len T.z_len (by decide +kernel) (la_cons (le_var 0) (la_nil))) (la_nil)))) (la_nil))))))
/-! ### _law_is_int -/
abbrev s_law_is_int : Stmt := top 41
abbrev N_law_is_int : List Str := ["value", "low", "high"]
theorem sc__law_is_int : FnScope N_law_is_int ["value", "low", "high"] (defScope s_law_is_int) := ⟨rfl, rfl, rfl, by decide +kernel, rfl, by decide +kernel, by decide +kernel⟩
def w_law_is_int : WS := wRet (wAndV (wIsi .int (wVar 0)) (wAndV (wNotV (wIsi .bool (wVar 0))) (wChainN (wVar 1) [(gLe, wVar 0), (gLe, wVar 2)])))
theorem der__law_is_int {P : Program} {w : World} {K : PySem.W.Frag} {mg : Str → Option Value} {base : Heap} {f : Addr} (T : Txt mg)  (cdv : Value) (A : Around) (outer : List Env) (s : Shared) (H : Hp) (E : XK) (hg : A.guards = some []) (hr : Room 0 (A.deeper (envOfC "_law_is_int" (defScope s_law_is_int) s.heap.objs.size f cdv))) :
    LSs (cxOf (L2.CX P w) P w K mg base N_law_is_int "_law_is_int" (defScope s_law_is_int) f cdv A outer s H E) (wxE E) (defBody s_law_is_int) w_law_is_int :=
  lss_one (ls_ret (le_and (le_isi (t := .int) T.z_isinstance T.z_int (by decide +kernel) (le_var 0)) (le_and (le_not (le_isi (t := .bool) T.z_isinstance T.z_bool (by decide +kernel) (le_var 0))) (le_one (le_chainN (le_var 1) (lch_cons od_le (le_var 0) (lch_last od_le (le_var 2))))))))
/-! ### _law_root -/
abbrev s_law_root : Stmt := top 42
abbrev N_law_root : List Str := ["number", "low", "high", "half"]
theorem sc__law_root : FnScope N_law_root ["number"] (defScope s_law_root) := ⟨rfl, rfl, rfl, by decide +kernel, rfl, by decide +kernel, by decide +kernel⟩
def w_law_root : WS := wSeq (wAsg (wTup [wC (.int 0), wC (.int 1)]) (gT [gN 1, gN 2])) (wSeq (wWhile (wTB (wOp gLe (wOp gMul (wVar 2) (wVar 2)) (wVar 0))) (wSet 2 (wOp gMul (wVar 2) (wC (.int 2))))) (wSeq (wWhile (wTB (wOp gGt (wOp gSub (wVar 2) (wVar 1)) (wC (.int 1)))) (wSeq (wSet 3 (wOp gFdiv (wOp gAdd (wVar 1) (wVar 2)) (wC (.int 2)))) (wAsg (wIfE (wTB (wOp gLe (wOp gMul (wVar 3) (wVar 3)) (wVar 0))) (wTup [wVar 3, wVar 2]) (wTup [wVar 1, wVar 3])) (gT [gN 1, gN 2])))) (wRet (wVar 1))))
theorem der__law_root {P : Program} {w : World} {K : PySem.W.Frag} {mg : Str → Option Value} {base : Heap} {f : Addr} (T : Txt mg)  (cdv : Value) (A : Around) (outer : List Env) (s : Shared) (H : Hp) (E : XK) (hg : A.guards = some []) (hr : Room 0 (A.deeper (envOfC "_law_root" (defScope s_law_root) s.heap.objs.size f cdv))) :
    LSs (cxOf (L2.CX P w) P w K mg base N_law_root "_law_root" (defScope s_law_root) f cdv A outer s H E) (wxE E) (defBody s_law_root) w_law_root :=
  lss_cons (ls_asg (le_tup (la_cons (le_int) (la_cons (le_int) (la_nil)))) (lg_tup (lgs_cons (lg_name 1 sc__law_root.nd) (lgs_cons (lg_name 2 sc__law_root.nd) (lgs_nil))))) (lss_cons (ls_while (passes_of rfl) (lt_cmp od_le (le_op od_mul (le_var 2) (le_var 2)) (le_var 0)) (lss_one (ls_set 2 sc__law_root.nd (le_op od_mul (le_var 2) (le_int))))) (lss_cons (ls_while (passes_of rfl) (lt_cmp od_gt (le_op od_sub (le_var 2) (le_var 1)) (le_int)) (lss_cons (ls_set 3 sc__law_root.nd (le_op od_fdiv (le_op od_add (le_var 1) (le_var 2)) (le_int))) (lss_one (ls_asg (le_ifE (lt_cmp od_le (le_op od_mul (le_var 3) (le_var 3)) (le_var 0)) (le_tup (la_cons (le_var 3) (la_cons (le_var 2) (la_nil)))) (le_tup (la_cons (le_var 1) (la_cons (le_var 3) (la_nil))))) (lg_tup (lgs_cons (lg_name 1 sc__law_root.nd) (lgs_cons (lg_name 2 sc__law_root.nd) (lgs_nil)))))))) (lss_one (ls_ret (le_var 1)))))
/-! ### _law_value -/
abbrev s_law_value : Stmt := top 43
abbrev N_law_value : List Str := ["form", "x", "y"]
theorem sc__law_value : FnScope N_law_value ["form", "x", "y"] (defScope s_law_value) := ⟨rfl, rfl, rfl, by decide +kernel, rfl, by decide +kernel, by decide +kernel⟩
def w_law_value : WS := wRet (wOp gAdd (wOp gAdd (wOp gMul (wOp gMul (wOp gIx (wVar 0) (wC (.int 0))) (wVar 1)) (wVar 1)) (wOp gMul (wOp gMul (wOp gIx (wVar 0) (wC (.int 1))) (wVar 1)) (wVar 2))) (wOp gMul (wOp gMul (wOp gIx (wVar 0) (wC (.int 2))) (wVar 2)) (wVar 2)))
theorem der__law_value {P : Program} {w : World} {K : PySem.W.Frag} {mg : Str → Option Value} {base : Heap} {f : Addr} (T : Txt mg)  (cdv : Value) (A : Around) (outer : List Env) (s : Shared) (H : Hp) (E : XK) (hg : A.guards = some []) (hr : Room 0 (A.deeper (envOfC "_law_value" (defScope s_law_value) s.heap.objs.size f cdv))) :
    LSs (cxOf (L2.CX P w) P w K mg base N_law_value "_law_value" (defScope s_law_value) f cdv A outer s H E) (wxE E) (defBody s_law_value) w_law_value :=
  lss_one (ls_ret (le_op od_add (le_op od_add (le_op od_mul (le_op od_mul (le_ix (le_var 0) (le_int)) (le_var 1)) (le_var 1)) (le_op od_mul (le_op od_mul (le_ix (le_var 0) (le_int)) (le_var 1)) (le_var 2))) (le_op od_mul (le_op od_mul (le_ix (le_var 0) (le_int)) (le_var 2)) (le_var 2))))
/-! ### _law_turned -/
abbrev s_law_turned : Stmt := top 44
abbrev N_law_turned : List Str := ["form", "turn", "p", "q", "r", "s", "middle"]
theorem sc__law_turned : FnScope N_law_turned ["form", "turn"] (defScope s_law_turned) := ⟨rfl, rfl, rfl, by decide +kernel, rfl, by decide +kernel, by decide +kernel⟩
def w_law_turned : WS := wSeq (wAsg (wVar 1) (gT [gN 2, gN 3, gN 4, gN 5])) (wSeq (wSet 6 (wOp gSub (wOp gSub (wCall S_law_value [wVar 0, wOp gAdd (wVar 2) (wVar 3), wOp gAdd (wVar 4) (wVar 5)]) (wCall S_law_value [wVar 0, wVar 2, wVar 4])) (wCall S_law_value [wVar 0, wVar 3, wVar 5]))) (wRet (wTup [wCall S_law_value [wVar 0, wVar 2, wVar 4], wVar 6, wCall S_law_value [wVar 0, wVar 3, wVar 5]])))
theorem der__law_turned {P : Program} {w : World} {K : PySem.W.Frag} {mg : Str → Option Value} {base : Heap} {f : Addr} (T : Txt mg) (F__law_value : FnD P w K mg base 1 "_law_value" ["form", "x", "y"] [] S_law_value) (cdv : Value) (A : Around) (outer : List Env) (s : Shared) (H : Hp) (E : XK) (hg : A.guards = some []) (hr : Room 1 (A.deeper (envOfC "_law_turned" (defScope s_law_turned) s.heap.objs.size f cdv))) :
    LSs (cxOf (L2.CX P w) P w K mg base N_law_turned "_law_turned" (defScope s_law_turned) f cdv A outer s H E) (wxE E) (defBody s_law_turned) w_law_turned :=
  lss_cons (ls_asg (le_var 1) (lg_tup (lgs_cons (lg_name 2 sc__law_turned.nd) (lgs_cons (lg_name 3 sc__law_turned.nd) (lgs_cons (lg_name 4 sc__law_turned.nd) (lgs_cons (lg_name 5 sc__law_turned.nd) (lgs_nil))))))) (lss_cons (ls_set 6 sc__law_turned.nd (le_op od_sub (le_op od_sub (le_call F__law_value hg hr (takes_of rfl rfl rfl rfl) (la_cons (le_var 0) (la_cons (le_op od_add (le_var 2) (le_var 3)) (la_cons (le_op od_add (le_var 4) (le_var 5)) (la_nil))))) (le_call F__law_value hg hr (takes_of rfl rfl rfl rfl) (la_cons (le_var 0) (la_cons (le_var 2) (la_cons (le_var 4) (la_nil)))))) (le_call F__law_value hg hr (takes_of rfl rfl rfl rfl) (la_cons (le_var 0) (la_cons (le_var 3) (la_cons (le_var 5) (la_nil))))))) (lss_one (ls_ret (le_tup (la_cons (le_call F__law_value hg hr (takes_of rfl rfl rfl rfl) (la_cons (le_var 0) (la_cons (le_var 2) (la_cons (le_var 4) (la_nil))))) (la_cons (le_var 6) (la_cons (le_call F__law_value hg hr (takes_of rfl rfl rfl rfl) (la_cons (le_var 0) (la_cons (le_var 3) (la_cons (le_var 5) (la_nil))))) (la_nil))))))))
/-! ### _law_is_turn -/
abbrev s_law_is_turn : Stmt := top 45
abbrev N_law_is_turn : List Str := ["value", "one"]
theorem sc__law_is_turn : FnScope N_law_is_turn ["value"] (defScope s_law_is_turn) := ⟨rfl, rfl, rfl, by decide +kernel, rfl, by decide +kernel, by decide +kernel⟩
def w_law_is_turn : WS := wSeq (wIf (wOrT (wNotT (wTB (wIsi .tuple (wVar 0)))) (wTB (wOp gNe (wB gLen [wVar 0]) (wC (.int 4))))) (wRet (wC (.bl false))) (wNext)) (wSeq (wIf (wNotT (wTB (wB gAll [wLc (wSeqI (wVar 0)) (CT.one 1) (wYes) (wAndV (wIsi .int (wVar 1)) (wNotV (wIsi .bool (wVar 1))))]))) (wRet (wC (.bl false))) (wNext)) (wRet (wOp gEq (wOp gSub (wOp gMul (wOp gIx (wVar 0) (wC (.int 0))) (wOp gIx (wVar 0) (wC (.int 3)))) (wOp gMul (wOp gIx (wVar 0) (wC (.int 1))) (wOp gIx (wVar 0) (wC (.int 2))))) (wC (.int 1)))))
theorem der__law_is_turn {P : Program} {w : World} {K : PySem.W.Frag} {mg : Str → Option Value} {base : Heap} {f : Addr} (T : Txt mg)  (cdv : Value) (A : Around) (outer : List Env) (s : Shared) (H : Hp) (E : XK) (hg : A.guards = some []) (hr : Room 0 (A.deeper (envOfC "_law_is_turn" (defScope s_law_is_turn) s.heap.objs.size f cdv))) :
    LSs (cxOf (L2.CX P w) P w K mg base N_law_is_turn "_law_is_turn" (defScope s_law_is_turn) f cdv A outer s H E) (wxE E) (defBody s_law_is_turn) w_law_is_turn :=
  lss_cons (ls_if ((lw_or (lt_not (lt_val (le_isi (t := .tuple) T.z_isinstance T.z_tuple (by decide +kernel) (le_var 0)))) (lw_or1 (lt_cmp (od_ne hr.units) (le_callB cd_len T.z_len (by decide +kernel) (la_cons (le_var 0) (la_nil))) (le_int)))).lt) (lss_one (ls_ret (le_bl))) (lss_nil)) (lss_cons (ls_if (lt_not (lt_val (le_callB (cd_all rfl) T.z_all (by decide +kernel) (la_cons (le_lc sc__law_is_turn.nd (li_seq (le_var 0)) (ok := by show BlkOk N_law_is_turn (defScope s_law_is_turn) _ _; exact ⟨rfl, by decide +kernel, by decide +kernel, by decide +kernel, by decide +kernel⟩) (own := [("one", 1)]) (hv := rfl) (hg := (fun _ _ _ _ _ => pg_one 1 sc__law_is_turn.nd)) (ht := (fun _ _ _ _ _ => lps_nil)) (he := (fun _ _ _ _ _ => le_and (le_isi (t := .int) T.z_isinstance T.z_int (by decide +kernel) (le_var 1)) (le_one (le_not (le_isi (t := .bool) T.z_isinstance T.z_bool (by decide +kernel) (le_var 1))))))) (la_nil))))) (lss_one (ls_ret (le_bl))) (lss_nil)) (lss_one (ls_ret (le_cmp (od_eq hr.units) (le_op od_sub (le_op od_mul (le_ix (le_var 0) (le_int)) (le_ix (le_var 0) (le_int))) (le_op od_mul (le_ix (le_var 0) (le_int)) (le_ix (le_var 0) (le_int)))) (le_int)))))
/-! ### _law_then -/
abbrev s_law_then : Stmt := top 46
abbrev N_law_then : List Str := ["one", "other", "p", "q", "r", "s", "e", "f", "g", "h"]
theorem sc__law_then : FnScope N_law_then ["one", "other"] (defScope s_law_then) := ⟨rfl, rfl, rfl, by decide +kernel, rfl, by decide +kernel, by decide +kernel⟩
def w_law_then : WS := wSeq (wAsg (wVar 0) (gT [gN 2, gN 3, gN 4, gN 5])) (wSeq (wAsg (wVar 1) (gT [gN 6, gN 7, gN 8, gN 9])) (wRet (wTup [wOp gAdd (wOp gMul (wVar 2) (wVar 6)) (wOp gMul (wVar 3) (wVar 8)), wOp gAdd (wOp gMul (wVar 2) (wVar 7)) (wOp gMul (wVar 3) (wVar 9)), wOp gAdd (wOp gMul (wVar 4) (wVar 6)) (wOp gMul (wVar 5) (wVar 8)), wOp gAdd (wOp gMul (wVar 4) (wVar 7)) (wOp gMul (wVar 5) (wVar 9))])))
theorem der__law_then {P : Program} {w : World} {K : PySem.W.Frag} {mg : Str → Option Value} {base : Heap} {f : Addr} (T : Txt mg)  (cdv : Value) (A : Around) (outer : List Env) (s : Shared) (H : Hp) (E : XK) (hg : A.guards = some []) (hr : Room 0 (A.deeper (envOfC "_law_then" (defScope s_law_then) s.heap.objs.size f cdv))) :
    LSs (cxOf (L2.CX P w) P w K mg base N_law_then "_law_then" (defScope s_law_then) f cdv A outer s H E) (wxE E) (defBody s_law_then) w_law_then :=
  lss_cons (ls_asg (le_var 0) (lg_tup (lgs_cons (lg_name 2 sc__law_then.nd) (lgs_cons (lg_name 3 sc__law_then.nd) (lgs_cons (lg_name 4 sc__law_then.nd) (lgs_cons (lg_name 5 sc__law_then.nd) (lgs_nil))))))) (lss_cons (ls_asg (le_var 1) (lg_tup (lgs_cons (lg_name 6 sc__law_then.nd) (lgs_cons (lg_name 7 sc__law_then.nd) (lgs_cons (lg_name 8 sc__law_then.nd) (lgs_cons (lg_name 9 sc__law_then.nd) (lgs_nil))))))) (lss_one (ls_ret (le_tup (la_cons (le_op od_add (le_op od_mul (le_var 2) (le_var 6)) (le_op od_mul (le_var 3) (le_var 8))) (la_cons (le_op od_add (le_op od_mul (le_var 2) (le_var 7)) (le_op od_mul (le_var 3) (le_var 9))) (la_cons (le_op od_add (le_op od_mul (le_var 4) (le_var 6)) (le_op od_mul (le_var 5) (le_var 8))) (la_cons (le_op od_add (le_op od_mul (le_var 4) (le_var 7)) (le_op od_mul (le_var 5) (le_var 9))) (la_nil)))))))))
/-! ### _law_turn_drawn -/
abbrev s_law_turn_drawn : Stmt := top 47
abbrev N_law_turn_drawn : List Str := ["pot", "found", "lap", "step"]
theorem sc__law_turn_drawn : FnScope N_law_turn_drawn ["pot"] (defScope s_law_turn_drawn) := ⟨rfl, rfl, rfl, by decide +kernel, rfl, by decide +kernel, by decide +kernel⟩
def w_law_turn_drawn : WS := wSeq (wSet 1 (wTup [wC (.int 1), wC (.int 0), wC (.int 0), wC (.int 1)])) (wSeq (wFor (wRng1 (wCall S_law_take [wVar 0, wC (.int 6)])) (gN 2) (wSeq (wSet 3 (wOp gSub (wB gInt [wCall S_law_take [wVar 0, wC (.int 7)]]) (wC (.int 3)))) (wSet 1 (wCall S_law_then [wVar 1, wCall S_law_of [wVar 0, wLst [wTup [wC (.int 1), wVar 3, wC (.int 0), wC (.int 1)], wTup [wC (.int 1), wC (.int 0), wVar 3, wC (.int 1)], wTup [wC (.int 0), wNeg (wC (.int 1)), wC (.int 1), wC (.int 0)]]]])))) (wRet (wVar 1)))
theorem der__law_turn_drawn {P : Program} {w : World} {K : PySem.W.Frag} {mg : Str → Option Value} {base : Heap} {f : Addr} (T : Txt mg) (F__law_of : FnD P w K mg base 2 "_law_of" ["pot", "some"] [] S_law_of) (F__law_take : FnD P w K mg base 1 "_law_take" ["pot", "upto"] [] S_law_take) (F__law_then : FnD P w K mg base 1 "_law_then" ["one", "other"] [] S_law_then) (cdv : Value) (A : Around) (outer : List Env) (s : Shared) (H : Hp) (E : XK) (hg : A.guards = some []) (hr : Room 2 (A.deeper (envOfC "_law_turn_drawn" (defScope s_law_turn_drawn) s.heap.objs.size f cdv))) :
    LSs (cxOf (L2.CX P w) P w K mg base N_law_turn_drawn "_law_turn_drawn" (defScope s_law_turn_drawn) f cdv A outer s H E) (wxE E) (defBody s_law_turn_drawn) w_law_turn_drawn :=
  lss_cons (ls_set 1 sc__law_turn_drawn.nd (le_tup (la_cons (le_int) (la_cons (le_int) (la_cons (le_int) (la_cons (le_int) (la_nil))))))) (lss_cons (ls_for (passes_of rfl) (li_rng1 T.z_range (la_cons (le_call F__law_take hg hr (takes_of rfl rfl rfl rfl) (la_cons (le_var 0) (la_cons (le_int) (la_nil)))) (la_nil))) (lg_name 2 sc__law_turn_drawn.nd) (lss_cons (ls_set 3 sc__law_turn_drawn.nd (le_op od_sub (le_callTy cd_int T.z_int (by decide +kernel) (la_cons (le_call F__law_take hg hr (takes_of rfl rfl rfl rfl) (la_cons (le_var 0) (la_cons (le_int) (la_nil)))) (la_nil))) (le_int))) (lss_one (ls_set 1 sc__law_turn_drawn.nd (le_call F__law_then hg hr (takes_of rfl rfl rfl rfl) (la_cons (le_var 1) (la_cons (le_call F__law_of hg hr (takes_of rfl rfl rfl rfl) (la_cons (le_var 0) (la_cons (le_lst (la_cons (le_tup (la_cons (le_int) (la_cons (le_var 3) (la_cons (le_int) (la_cons (le_int) (la_nil)))))) (la_cons (le_tup (la_cons (le_int) (la_cons (le_int) (la_cons (le_var 3) (la_cons (le_int) (la_nil)))))) (la_cons (le_tup (la_cons (le_int) (la_cons (le_neg (le_int)) (la_cons (le_int) (la_cons (le_int) (la_nil)))))) (la_nil))))) (la_nil)))) (la_nil)))))))) (lss_one (ls_ret (le_var 1))))
/-! ### _law_is_form -/
abbrev s_law_is_form : Stmt := top 48
abbrev N_law_is_form : List Str := ["value", "one"]
theorem sc__law_is_form : FnScope N_law_is_form ["value"] (defScope s_law_is_form) := ⟨rfl, rfl, rfl, by decide +kernel, rfl, by decide +kernel, by decide +kernel⟩
def w_law_is_form : WS := wSeq (wIf (wOrT (wNotT (wTB (wIsi .tuple (wVar 0)))) (wTB (wOp gNe (wB gLen [wVar 0]) (wC (.int 3))))) (wRet (wC (.bl false))) (wNext)) (wRet (wB gAll [wLc (wSeqI (wVar 0)) (CT.one 1) (wYes) (wCall S_law_is_int [wVar 1, wNeg (wOp gPowW (wC (.int 10)) (wC (.int 6))), wOp gPowW (wC (.int 10)) (wC (.int 6))])]))
theorem der__law_is_form {P : Program} {w : World} {K : PySem.W.Frag} {mg : Str → Option Value} {base : Heap} {f : Addr} (T : Txt mg) (F__law_is_int : FnD P w K mg base 1 "_law_is_int" ["value", "low", "high"] [] S_law_is_int) (cdv : Value) (A : Around) (outer : List Env) (s : Shared) (H : Hp) (E : XK) (hg : A.guards = some []) (hr : Room 1 (A.deeper (envOfC "_law_is_form" (defScope s_law_is_form) s.heap.objs.size f cdv))) :
    LSs (cxOf (L2.CX P w) P w K mg base N_law_is_form "_law_is_form" (defScope s_law_is_form) f cdv A outer s H E) (wxE E) (defBody s_law_is_form) w_law_is_form :=
  lss_cons (ls_if ((lw_or (lt_not (lt_val (le_isi (t := .tuple) T.z_isinstance T.z_tuple (by decide +kernel) (le_var 0)))) (lw_or1 (lt_cmp (od_ne hr.units) (le_callB cd_len T.z_len (by decide +kernel) (la_cons (le_var 0) (la_nil))) (le_int)))).lt) (lss_one (ls_ret (le_bl))) (lss_nil)) (lss_one (ls_ret (le_callB (cd_all rfl) T.z_all (by decide +kernel) (la_cons (le_lc sc__law_is_form.nd (li_seq (le_var 0)) (ok := by show BlkOk N_law_is_form (defScope s_law_is_form) _ _; exact ⟨rfl, by decide +kernel, by decide +kernel, by decide +kernel, by decide +kernel⟩) (own := [("one", 1)]) (hv := rfl) (hg := (fun _ _ _ _ _ => pg_one 1 sc__law_is_form.nd)) (ht := (fun _ _ _ _ _ => lps_nil)) (he := (fun _ _ _ _ _ => le_call F__law_is_int hg hr LamX.takes0 (la_cons (le_var 1) (la_cons (le_neg (le_op od_powW (le_int) (le_int))) (la_cons (le_op od_powW (le_int) (le_int)) (la_nil))))))) (la_nil)))))
/-! ### _law_above_drawn -/
abbrev s_law_above_drawn : Stmt := top 49
abbrev N_law_above_drawn : List Str := ["pot", "most", "a", "c", "wide"]
theorem sc__law_above_drawn : FnScope N_law_above_drawn ["pot", "most"] (defScope s_law_above_drawn) := ⟨rfl, rfl, rfl, by decide +kernel, rfl, by decide +kernel, by decide +kernel⟩
def w_law_above_drawn : WS := wSeq (wPar 2 3 (wB gInt [wOp gAdd (wC (.int 1)) (wCall S_law_take [wVar 0, wVar 1])]) (wB gInt [wOp gAdd (wC (.int 1)) (wCall S_law_take [wVar 0, wVar 1])])) (wSeq (wSet 4 (wCall S_law_root [wOp gSub (wOp gMul (wOp gMul (wC (.int 4)) (wVar 2)) (wVar 3)) (wC (.int 1))])) (wRet (wTup [wVar 2, wOp gSub (wB gInt [wCall S_law_take [wVar 0, wOp gAdd (wOp gMul (wC (.int 2)) (wVar 4)) (wC (.int 1))]]) (wVar 4), wVar 3])))
theorem der__law_above_drawn {P : Program} {w : World} {K : PySem.W.Frag} {mg : Str → Option Value} {base : Heap} {f : Addr} (T : Txt mg) (F__law_root : FnD P w K mg base 1 "_law_root" ["number"] [] S_law_root) (F__law_take : FnD P w K mg base 1 "_law_take" ["pot", "upto"] [] S_law_take) (cdv : Value) (A : Around) (outer : List Env) (s : Shared) (H : Hp) (E : XK) (hg : A.guards = some []) (hr : Room 1 (A.deeper (envOfC "_law_above_drawn" (defScope s_law_above_drawn) s.heap.objs.size f cdv))) :
    LSs (cxOf (L2.CX P w) P w K mg base N_law_above_drawn "_law_above_drawn" (defScope s_law_above_drawn) f cdv A outer s H E) (wxE E) (defBody s_law_above_drawn) w_law_above_drawn :=
  lss_cons (ls_par 2 3 sc__law_above_drawn.nd (la_cons (le_callTy cd_int T.z_int (by decide +kernel) (la_cons (le_op od_add (le_int) (le_call F__law_take hg hr (takes_of rfl rfl rfl rfl) (la_cons (le_var 0) (la_cons (le_var 1) (la_nil))))) (la_nil))) (la_cons (le_callTy cd_int T.z_int (by decide +kernel) (la_cons (le_op od_add (le_int) (le_call F__law_take hg hr (takes_of rfl rfl rfl rfl) (la_cons (le_var 0) (la_cons (le_var 1) (la_nil))))) (la_nil))) (la_nil)))) (lss_cons (ls_set 4 sc__law_above_drawn.nd (le_call F__law_root hg hr (takes_of rfl rfl rfl rfl) (la_cons (le_op od_sub (le_op od_mul (le_op od_mul (le_int) (le_var 2)) (le_var 3)) (le_int)) (la_nil)))) (lss_one (ls_ret (le_tup (la_cons (le_var 2) (la_cons (le_op od_sub (le_callTy cd_int T.z_int (by decide +kernel) (la_cons (le_call F__law_take hg hr (takes_of rfl rfl rfl rfl) (la_cons (le_var 0) (la_cons (le_op od_add (le_op od_mul (le_int) (le_var 4)) (le_int)) (la_nil)))) (la_nil))) (le_var 4)) (la_cons (le_var 3) (la_nil))))))))
/-! ### _law_letters -/
abbrev s_law_letters : Stmt := top 50
abbrev N_law_letters : List Str := ["form", "number", "a", "b", "c", "wide", "found", "y", "most", "x"]
theorem sc__law_letters : FnScope N_law_letters ["form", "number"] (defScope s_law_letters) := ⟨rfl, rfl, rfl, by decide +kernel, rfl, by decide +kernel, by decide +kernel⟩
def w_law_letters : WS := wSeq (wAsg (wVar 0) (gT [gN 2, gN 3, gN 4])) (wSeq (wSet 5 (wOp gSub (wOp gMul (wOp gMul (wC (.int 4)) (wVar 2)) (wVar 4)) (wOp gMul (wVar 3) (wVar 3)))) (wSeq (wSet 6 (wLst [])) (wSeq (wFor (wRng2 (wNeg (wCall S_law_root [wOp gFdiv (wOp gMul (wOp gMul (wC (.int 4)) (wVar 2)) (wVar 1)) (wVar 5)])) (wOp gAdd (wCall S_law_root [wOp gFdiv (wOp gMul (wOp gMul (wC (.int 4)) (wVar 2)) (wVar 1)) (wVar 5)]) (wC (.int 1)))) (gN 7) (wSeq (wSet 8 (wCall S_law_root [wOp gFdiv (wOp gMul (wOp gMul (wC (.int 4)) (wVar 4)) (wVar 1)) (wVar 5)])) (wExpr (wMt gExtend (wVar 6) [wLc (wRng2 (wNeg (wVar 8)) (wOp gAdd (wVar 8) (wC (.int 1)))) (CT.one 9) (wTB (wOp gEq (wCall S_law_value [wVar 0, wVar 9, wVar 7]) (wVar 1))) (wTup [wVar 9, wVar 7])])))) (wRet (wVar 6)))))
theorem der__law_letters {P : Program} {w : World} {K : PySem.W.Frag} {mg : Str → Option Value} {base : Heap} {f : Addr} (T : Txt mg) (F__law_root : FnD P w K mg base 1 "_law_root" ["number"] [] S_law_root) (F__law_value : FnD P w K mg base 1 "_law_value" ["form", "x", "y"] [] S_law_value) (cdv : Value) (A : Around) (outer : List Env) (s : Shared) (H : Hp) (E : XK) (hg : A.guards = some []) (hr : Room 1 (A.deeper (envOfC "_law_letters" (defScope s_law_letters) s.heap.objs.size f cdv))) :
    LSs (cxOf (L2.CX P w) P w K mg base N_law_letters "_law_letters" (defScope s_law_letters) f cdv A outer s H E) (wxE E) (defBody s_law_letters) w_law_letters :=
  lss_cons (ls_asg (le_var 0) (lg_tup (lgs_cons (lg_name 2 sc__law_letters.nd) (lgs_cons (lg_name 3 sc__law_letters.nd) (lgs_cons (lg_name 4 sc__law_letters.nd) (lgs_nil)))))) (lss_cons (ls_set 5 sc__law_letters.nd (le_op od_sub (le_op od_mul (le_op od_mul (le_int) (le_var 2)) (le_var 4)) (le_op od_mul (le_var 3) (le_var 3)))) (lss_cons (ls_set 6 sc__law_letters.nd (le_lst (la_nil))) (lss_cons (ls_for (passes_of rfl) (li_rng2 T.z_range (la_cons (le_neg (le_call F__law_root hg hr (takes_of rfl rfl rfl rfl) (la_cons (le_op od_fdiv (le_op od_mul (le_op od_mul (le_int) (le_var 2)) (le_var 1)) (le_var 5)) (la_nil)))) (la_cons (le_op od_add (le_call F__law_root hg hr (takes_of rfl rfl rfl rfl) (la_cons (le_op od_fdiv (le_op od_mul (le_op od_mul (le_int) (le_var 2)) (le_var 1)) (le_var 5)) (la_nil))) (le_int)) (la_nil)))) (lg_name 7 sc__law_letters.nd) (lss_cons (ls_set 8 sc__law_letters.nd (le_call F__law_root hg hr (takes_of rfl rfl rfl rfl) (la_cons (le_op od_fdiv (le_op od_mul (le_op od_mul (le_int) (le_var 4)) (le_var 1)) (le_var 5)) (la_nil)))) (lss_one (ls_expr (le_extend (le_var 6) (la_cons (le_lc sc__law_letters.nd (li_rng2 T.z_range (la_cons (le_neg (le_var 8)) (la_cons (le_op od_add (le_var 8) (le_int)) (la_nil)))) (ok := by show BlkOk N_law_letters (defScope s_law_letters) _ _; exact ⟨rfl, by decide +kernel, by decide +kernel, by decide +kernel, by decide +kernel⟩) (own := [("x", 9)]) (hv := rfl) (hg := (fun _ _ _ _ _ => pg_one 9 sc__law_letters.nd)) (ht := (fun _ _ _ _ _ => lps_one (lt_cmp (od_eq hr.units) (le_call F__law_value hg hr LamX.takes0 (la_cons (le_var 0) (la_cons (le_var 9) (la_cons (le_var 7) (la_nil))))) (le_var 1)))) (he := (fun _ _ _ _ _ => le_tup (la_cons (le_var 9) (la_cons (le_var 7) (la_nil)))))) (la_nil))))))) (lss_one (ls_ret (le_var 6))))))
/-! ### _law_all_turns -/
abbrev s_law_all_turns : Stmt := top 51
abbrev N_law_all_turns : List Str := ["one", "other", "found", "p", "r", "q", "s"]
theorem sc__law_all_turns : FnScope N_law_all_turns ["one", "other"] (defScope s_law_all_turns) := ⟨rfl, rfl, rfl, by decide +kernel, rfl, by decide +kernel, by decide +kernel⟩
def w_law_all_turns : WS := wSeq (wSet 2 (wLst [])) (wSeq (wFor (wSeqI (wCall S_law_letters [wVar 0, wOp gIx (wVar 1) (wC (.int 0))])) (gT [gN 3, gN 4]) (wFor (wSeqI (wCall S_law_letters [wVar 0, wOp gIx (wVar 1) (wC (.int 2))])) (gT [gN 5, gN 6]) (wIf (wAndT (wTB (wOp gEq (wOp gSub (wOp gMul (wVar 3) (wVar 6)) (wOp gMul (wVar 5) (wVar 4))) (wC (.int 1)))) (wTB (wOp gEq (wCall S_law_turned [wVar 0, wTup [wVar 3, wVar 5, wVar 4, wVar 6]]) (wVar 1)))) (wExpr (wMt gAppend (wVar 2) [wTup [wVar 3, wVar 5, wVar 4, wVar 6]])) (wNext)))) (wRet (wB gSorted [wVar 2])))
theorem der__law_all_turns {P : Program} {w : World} {K : PySem.W.Frag} {mg : Str → Option Value} {base : Heap} {f : Addr} (T : Txt mg) (F__law_letters : FnD P w K mg base 2 "_law_letters" ["form", "number"] [] S_law_letters) (F__law_turned : FnD P w K mg base 2 "_law_turned" ["form", "turn"] [] S_law_turned) (cdv : Value) (A : Around) (outer : List Env) (s : Shared) (H : Hp) (E : XK) (hg : A.guards = some []) (hr : Room 2 (A.deeper (envOfC "_law_all_turns" (defScope s_law_all_turns) s.heap.objs.size f cdv))) :
    LSs (cxOf (L2.CX P w) P w K mg base N_law_all_turns "_law_all_turns" (defScope s_law_all_turns) f cdv A outer s H E) (wxE E) (defBody s_law_all_turns) w_law_all_turns :=
  lss_cons (ls_set 2 sc__law_all_turns.nd (le_lst (la_nil))) (lss_cons (ls_for (passes_of rfl) (li_seq (le_call F__law_letters hg hr (takes_of rfl rfl rfl rfl) (la_cons (le_var 0) (la_cons (le_ix (le_var 1) (le_int)) (la_nil))))) (lg_tup (lgs_cons (lg_name 3 sc__law_all_turns.nd) (lgs_cons (lg_name 4 sc__law_all_turns.nd) (lgs_nil)))) (lss_one (ls_for (passes_of rfl) (li_seq (le_call F__law_letters hg hr (takes_of rfl rfl rfl rfl) (la_cons (le_var 0) (la_cons (le_ix (le_var 1) (le_int)) (la_nil))))) (lg_tup (lgs_cons (lg_name 5 sc__law_all_turns.nd) (lgs_cons (lg_name 6 sc__law_all_turns.nd) (lgs_nil)))) (lss_one (ls_if ((lw_and (lt_cmp (od_eq hr.units) (le_op od_sub (le_op od_mul (le_var 3) (le_var 6)) (le_op od_mul (le_var 5) (le_var 4))) (le_int)) (lw_and1 (lt_cmp (od_eq hr.units) (le_call F__law_turned hg hr (takes_of rfl rfl rfl rfl) (la_cons (le_var 0) (la_cons (le_tup (la_cons (le_var 3) (la_cons (le_var 5) (la_cons (le_var 4) (la_cons (le_var 6) (la_nil)))))) (la_nil)))) (le_var 1)))).lt) (lss_one (ls_expr (le_append (le_var 2) (la_cons (le_tup (la_cons (le_var 3) (la_cons (le_var 5) (la_cons (le_var 4) (la_cons (le_var 6) (la_nil)))))) (la_nil))))) (lss_nil)))))) (lss_one (ls_ret (le_callB (cd_sorted hr.units) T.z_sorted (by decide +kernel) (la_cons (le_var 2) (la_nil))))))
/-! ### _law_is_least -/
abbrev s_law_is_least : Stmt := top 52
abbrev N_law_is_least : List Str := ["form", "a", "b", "c"]
theorem sc__law_is_least : FnScope N_law_is_least ["form"] (defScope s_law_is_least) := ⟨rfl, rfl, rfl, by decide +kernel, rfl, by decide +kernel, by decide +kernel⟩
def w_law_is_least : WS := wSeq (wAsg (wVar 0) (gT [gN 1, gN 2, gN 3])) (wRet (wAndV (wChainN (wNeg (wVar 1)) [(gLt, wVar 2), (gLe, wVar 1), (gLe, wVar 3)]) (wOrV (wOp gGe (wVar 2) (wC (.int 0))) (wOp gNe (wVar 1) (wVar 3)))))
theorem der__law_is_least {P : Program} {w : World} {K : PySem.W.Frag} {mg : Str → Option Value} {base : Heap} {f : Addr} (T : Txt mg)  (cdv : Value) (A : Around) (outer : List Env) (s : Shared) (H : Hp) (E : XK) (hg : A.guards = some []) (hr : Room 0 (A.deeper (envOfC "_law_is_least" (defScope s_law_is_least) s.heap.objs.size f cdv))) :
    LSs (cxOf (L2.CX P w) P w K mg base N_law_is_least "_law_is_least" (defScope s_law_is_least) f cdv A outer s H E) (wxE E) (defBody s_law_is_least) w_law_is_least :=
  lss_cons (ls_asg (le_var 0) (lg_tup (lgs_cons (lg_name 1 sc__law_is_least.nd) (lgs_cons (lg_name 2 sc__law_is_least.nd) (lgs_cons (lg_name 3 sc__law_is_least.nd) (lgs_nil)))))) (lss_one (ls_ret (le_and (le_chainN (le_neg (le_var 1)) (lch_cons od_lt (le_var 2) (lch_cons od_le (le_var 1) (lch_last od_le (le_var 3))))) (le_one (le_or (le_cmp od_ge (le_var 2) (le_int)) (le_one (le_cmp (od_ne hr.units) (le_var 1) (le_var 3))))))))
/-! ### _law_is_form_right -/
abbrev s_law_is_form_right : Stmt := top 53
abbrev N_law_is_form_right : List Str := ["form", "turn", "told", "turned"]
theorem sc__law_is_form_right : FnScope N_law_is_form_right ["form", "turn"] (defScope s_law_is_form_right) := ⟨rfl, rfl, rfl, by decide +kernel, rfl, by decide +kernel, by decide +kernel⟩
def w_law_is_form_right : WS := wSeq (wSet 2 (wCall Sleast_form [wVar 0])) (wSeq (wIf (wOrT (wNotT (wTB (wIsi .tuple (wVar 2)))) (wOrT (wTB (wOp gNe (wB gLen [wVar 2]) (wC (.int 2)))) (wNotT (wTB (wCall S_law_is_turn [wOp gIx (wVar 2) (wC (.int 1))]))))) (wRet (wC (.bl false))) (wNext)) (wSeq (wIf (wOrT (wTB (wOp gNe (wCall S_law_turned [wVar 0, wOp gIx (wVar 2) (wC (.int 1))]) (wOp gIx (wVar 2) (wC (.int 0))))) (wNotT (wTB (wCall S_law_is_least [wOp gIx (wVar 2) (wC (.int 0))])))) (wRet (wC (.bl false))) (wNext)) (wSeq (wSet 3 (wCall S_law_turned [wVar 0, wVar 1])) (wRet (wOrV (wNotV (wCall S_law_is_form [wVar 3])) (wOp gEq (wB gRepr [wOp gIx (wCall Sleast_form [wVar 3]) (wC (.int 0))]) (wB gRepr [wOp gIx (wVar 2) (wC (.int 0))])))))))
theorem der__law_is_form_right {P : Program} {w : World} {K : PySem.W.Frag} {mg : Str → Option Value} {base : Heap} {f : Addr} (T : Txt mg) (F__law_is_form : FnD P w K mg base 2 "_law_is_form" ["value"] [] S_law_is_form) (F__law_is_least : FnD P w K mg base 1 "_law_is_least" ["form"] [] S_law_is_least) (F__law_is_turn : FnD P w K mg base 1 "_law_is_turn" ["value"] [] S_law_is_turn) (F__law_turned : FnD P w K mg base 2 "_law_turned" ["form", "turn"] [] S_law_turned) (F_least_form : FnD P w K mg base 7 "least_form" ["form"] [0] Sleast_form) (cdv : Value) (A : Around) (outer : List Env) (s : Shared) (H : Hp) (E : XK) (hg : A.guards = some []) (hr : Room 7 (A.deeper (envOfC "_law_is_form_right" (defScope s_law_is_form_right) s.heap.objs.size f cdv))) :
    LSs (cxOf (L2.CX P w) P w K mg base N_law_is_form_right "_law_is_form_right" (defScope s_law_is_form_right) f cdv A outer s H E) (wxE E) (defBody s_law_is_form_right) w_law_is_form_right :=
  lss_cons (ls_set 2 sc__law_is_form_right.nd (le_callK0 F_least_form hg hr (takes_of rfl rfl rfl rfl) (lk_cons (le_var 0) (lk_nil)))) (lss_cons (ls_if ((lw_or (lt_not (lt_val (le_isi (t := .tuple) T.z_isinstance T.z_tuple (by decide +kernel) (le_var 2)))) (lw_or (lt_cmp (od_ne hr.units) (le_callB cd_len T.z_len (by decide +kernel) (la_cons (le_var 2) (la_nil))) (le_int)) (lw_or1 (lt_not (lt_val (le_call F__law_is_turn hg hr (takes_of rfl rfl rfl rfl) (la_cons (le_ix (le_var 2) (le_int)) (la_nil)))))))).lt) (lss_one (ls_ret (le_bl))) (lss_nil)) (lss_cons (ls_if ((lw_or (lt_cmp (od_ne hr.units) (le_call F__law_turned hg hr (takes_of rfl rfl rfl rfl) (la_cons (le_var 0) (la_cons (le_ix (le_var 2) (le_int)) (la_nil)))) (le_ix (le_var 2) (le_int))) (lw_or1 (lt_not (lt_val (le_call F__law_is_least hg hr (takes_of rfl rfl rfl rfl) (la_cons (le_ix (le_var 2) (le_int)) (la_nil))))))).lt) (lss_one (ls_ret (le_bl))) (lss_nil)) (lss_cons (ls_set 3 sc__law_is_form_right.nd (le_call F__law_turned hg hr (takes_of rfl rfl rfl rfl) (la_cons (le_var 0) (la_cons (le_var 1) (la_nil))))) (lss_one (ls_ret (le_or (le_not (le_call F__law_is_form hg hr (takes_of rfl rfl rfl rfl) (la_cons (le_var 3) (la_nil)))) (le_one (le_cmp (od_eq hr.units) (le_callB (cd_repr hg (u65 hr)) T.z_repr (by decide +kernel) (la_cons (le_ix (le_call F_least_form hg hr (takes_of rfl rfl rfl rfl) (la_cons (le_var 3) (la_nil))) (le_int)) (la_nil))) (le_callB (cd_repr hg (u65 hr)) T.z_repr (by decide +kernel) (la_cons (le_ix (le_var 2) (le_int)) (la_nil)))))))))))
/-! ### _law_right -/
abbrev s_law_right : Stmt := top 54
abbrev N_law_right : List Str := ["pot", "lap", "form", "one", "other", "turns", "told", "least", "own"]
theorem sc__law_right : FnScope N_law_right ["pot"] (defScope s_law_right) := ⟨rfl, rfl, rfl, by decide +kernel, rfl, by decide +kernel, by decide +kernel⟩
def w_law_right : WS := wSeq (wFor (wRng1 (wC (.int 4))) (gN 1) (wSeq (wSet 2 (wCall S_law_above_drawn [wVar 0, wCall S_law_of [wVar 0, wLst [wC (.int 5), wC (.int 60), wOp gPowW (wC (.int 10)) (wC (.int 5))]]])) (wSeq (wIf (wNotT (wTB (wCall S_law_is_form_right [wVar 2, wCall S_law_turn_drawn [wVar 0]]))) (wRet (wC (.bl false))) (wNext)) (wSeq (wPar 3 4 (wCall S_law_above_drawn [wVar 0, wC (.int 4)]) (wCall S_law_above_drawn [wVar 0, wC (.int 4)])) (wSeq (wIf (wTB (wOp gEq (wCall S_law_take [wVar 0, wC (.int 2)]) (wC (.int 0)))) (wSet 4 (wCall S_law_turned [wVar 3, wCall S_law_of [wVar 0, wLst [wTup [wC (.int 1), wC (.int 1), wC (.int 0), wC (.int 1)], wTup [wC (.int 0), wNeg (wC (.int 1)), wC (.int 1), wC (.int 0)], wTup [wC (.int 1), wC (.int 0), wNeg (wC (.int 1)), wC (.int 1)], wTup [wC (.int 2), wC (.int 1), wC (.int 1), wC (.int 1)]]]])) (wNext)) (wSeq (wPar 5 6 (wCall S_law_all_turns [wVar 3, wVar 4]) (wCall Ssame_above ([wVar 3] ++ [wVar 4]))) (wSeq (wIf (wTB (wOp gNe (wOp gEq (wOp gIx (wVar 6) (wC (.int 0))) (wC (.str "turn"))) (wOp gNe (wVar 5) (wLst [])))) (wRet (wC (.bl false))) (wNext)) (wSeq (wIf (wAndT (wTB (wOp gEq (wOp gIx (wVar 6) (wC (.int 0))) (wC (.str "turn")))) (wTB (wOp gNotIn (wOp gIx (wVar 6) (wC (.int 1))) (wVar 5)))) (wRet (wC (.bl false))) (wNext)) (wSeq (wIf (wAndT (wTB (wOp gEq (wOp gIx (wVar 6) (wC (.int 0))) (wC (.str "least")))) (wOrT (wNotT (wTB (wB gAll [wLc (wSeqI (wSl (wVar 6) (wPart (wC (.int 1))) (wNoP))) (CT.one 7) (wYes) (wCall S_law_is_least [wVar 7])]))) (wTB (wOp gEq (wOp gIx (wVar 6) (wC (.int 1))) (wOp gIx (wVar 6) (wC (.int 2))))))) (wRet (wC (.bl false))) (wNext)) (wSeq (wIf (wTB (wOp gNe (wB gRepr [wCall Sown_turns [wVar 3]]) (wB gRepr [wB gTuple [wCall S_law_all_turns [wVar 3, wVar 3]]]))) (wRet (wC (.bl false))) (wNext)) (wFor (wSeqI (wLst [wTup [wC (.int 1), wC (.int 0), wC (.int 1)], wTup [wC (.int 3), wC (.int 3), wC (.int 3)], wTup [wC (.int 2), wC (.int 0), wC (.int 2)], wTup [wC (.int 2), wC (.int 1), wC (.int 3)]])) (gN 7) (wSeq (wSet 8 (wCall Sown_turns [wCall S_law_turned [wVar 7, wTup [wC (.int 1), wC (.int 2), wC (.int 0), wC (.int 1)]]])) (wIf (wTB (wOp gNe (wB gLen [wVar 8]) (wIfE (wTB (wOp gEq (wOp gIx (wVar 7) (wC (.int 1))) (wC (.int 0)))) (wC (.int 4)) (wIfE (wTB (wOp gEq (wOp gIx (wVar 7) (wC (.int 0))) (wOp gIx (wVar 7) (wC (.int 2))))) (wC (.int 6)) (wC (.int 2)))))) (wRet (wC (.bl false))) (wNext)))))))))))))) (wRet (wC (.bl true)))
theorem der__law_right {P : Program} {w : World} {K : PySem.W.Frag} {mg : Str → Option Value} {base : Heap} {f : Addr} (T : Txt mg) (F__law_above_drawn : FnD P w K mg base 2 "_law_above_drawn" ["pot", "most"] [] S_law_above_drawn) (F__law_all_turns : FnD P w K mg base 3 "_law_all_turns" ["one", "other"] [] S_law_all_turns) (F__law_is_form_right : FnD P w K mg base 8 "_law_is_form_right" ["form", "turn"] [] S_law_is_form_right) (F__law_is_least : FnD P w K mg base 1 "_law_is_least" ["form"] [] S_law_is_least) (F__law_of : FnD P w K mg base 2 "_law_of" ["pot", "some"] [] S_law_of) (F__law_take : FnD P w K mg base 1 "_law_take" ["pot", "upto"] [] S_law_take) (F__law_turn_drawn : FnD P w K mg base 3 "_law_turn_drawn" ["pot"] [] S_law_turn_drawn) (F__law_turned : FnD P w K mg base 2 "_law_turned" ["form", "turn"] [] S_law_turned) (F_own_turns : FnD P w K mg base 7 "own_turns" ["form"] [0] Sown_turns) (F_same_above : FnD P w K mg base 8 "same_above" ["one", "other"] [1] Ssame_above) (cdv : Value) (A : Around) (outer : List Env) (s : Shared) (H : Hp) (E : XK) (hg : A.guards = some []) (hr : Room 8 (A.deeper (envOfC "_law_right" (defScope s_law_right) s.heap.objs.size f cdv))) :
    LSs (cxOf (L2.CX P w) P w K mg base N_law_right "_law_right" (defScope s_law_right) f cdv A outer s H E) (wxE E) (defBody s_law_right) w_law_right :=
  lss_cons (ls_for (passes_of rfl) (li_rng1 T.z_range (la_cons (le_int) (la_nil))) (lg_name 1 sc__law_right.nd) (lss_cons (ls_set 2 sc__law_right.nd (le_call F__law_above_drawn hg hr (takes_of rfl rfl rfl rfl) (la_cons (le_var 0) (la_cons (le_call F__law_of hg hr (takes_of rfl rfl rfl rfl) (la_cons (le_var 0) (la_cons (le_lst (la_cons (le_int) (la_cons (le_int) (la_cons (le_op od_powW (le_int) (le_int)) (la_nil))))) (la_nil)))) (la_nil))))) (lss_cons (ls_if (lt_not (lt_val (le_call F__law_is_form_right hg hr (takes_of rfl rfl rfl rfl) (la_cons (le_var 2) (la_cons (le_call F__law_turn_drawn hg hr (takes_of rfl rfl rfl rfl) (la_cons (le_var 0) (la_nil))) (la_nil)))))) (lss_one (ls_ret (le_bl))) (lss_nil)) (lss_cons (ls_par 3 4 sc__law_right.nd (la_cons (le_call F__law_above_drawn hg hr (takes_of rfl rfl rfl rfl) (la_cons (le_var 0) (la_cons (le_int) (la_nil)))) (la_cons (le_call F__law_above_drawn hg hr (takes_of rfl rfl rfl rfl) (la_cons (le_var 0) (la_cons (le_int) (la_nil)))) (la_nil)))) (lss_cons (ls_if (lt_cmp (od_eq hr.units) (le_call F__law_take hg hr (takes_of rfl rfl rfl rfl) (la_cons (le_var 0) (la_cons (le_int) (la_nil)))) (le_int)) (lss_one (ls_set 4 sc__law_right.nd (le_call F__law_turned hg hr (takes_of rfl rfl rfl rfl) (la_cons (le_var 3) (la_cons (le_call F__law_of hg hr (takes_of rfl rfl rfl rfl) (la_cons (le_var 0) (la_cons (le_lst (la_cons (le_tup (la_cons (le_int) (la_cons (le_int) (la_cons (le_int) (la_cons (le_int) (la_nil)))))) (la_cons (le_tup (la_cons (le_int) (la_cons (le_neg (le_int)) (la_cons (le_int) (la_cons (le_int) (la_nil)))))) (la_cons (le_tup (la_cons (le_int) (la_cons (le_int) (la_cons (le_neg (le_int)) (la_cons (le_int) (la_nil)))))) (la_cons (le_tup (la_cons (le_int) (la_cons (le_int) (la_cons (le_int) (la_cons (le_int) (la_nil)))))) (la_nil)))))) (la_nil)))) (la_nil)))))) (lss_nil)) (lss_cons (ls_par 5 6 sc__law_right.nd (la_cons (le_call F__law_all_turns hg hr (takes_of rfl rfl rfl rfl) (la_cons (le_var 3) (la_cons (le_var 4) (la_nil)))) (la_cons (le_callK 1 F_same_above hg hr (takes_of rfl rfl rfl rfl) (la_cons (le_var 3) (la_nil)) (lk_cons (le_var 4) (lk_nil))) (la_nil)))) (lss_cons (ls_if (lt_cmp (od_ne hr.units) (le_cmp (od_eq hr.units) (le_ix (le_var 6) (le_int)) (le_str)) (le_cmp (od_ne hr.units) (le_var 5) (le_lst (la_nil)))) (lss_one (ls_ret (le_bl))) (lss_nil)) (lss_cons (ls_if ((lw_and (lt_cmp (od_eq hr.units) (le_ix (le_var 6) (le_int)) (le_str)) (lw_and1 (lt_cmp (od_notIn (u65 hr)) (le_ix (le_var 6) (le_int)) (le_var 5)))).lt) (lss_one (ls_ret (le_bl))) (lss_nil)) (lss_cons (ls_if ((lw_and (lt_cmp (od_eq hr.units) (le_ix (le_var 6) (le_int)) (le_str)) (lw_and1 ((lw_or (lt_not (lt_val (le_callB (cd_all rfl) T.z_all (by decide +kernel) (la_cons (le_lc sc__law_right.nd (li_seq (le_sl (le_var 6) (lo_some (le_int)) (lo_none))) (ok := by show BlkOk N_law_right (defScope s_law_right) _ _; exact ⟨rfl, by decide +kernel, by decide +kernel, by decide +kernel, by decide +kernel⟩) (own := [("least", 7)]) (hv := rfl) (hg := (fun _ _ _ _ _ => pg_one 7 sc__law_right.nd)) (ht := (fun _ _ _ _ _ => lps_nil)) (he := (fun _ _ _ _ _ => le_call F__law_is_least hg hr LamX.takes0 (la_cons (le_var 7) (la_nil))))) (la_nil))))) (lw_or1 (lt_cmp (od_eq hr.units) (le_ix (le_var 6) (le_int)) (le_ix (le_var 6) (le_int))))).lt))).lt) (lss_one (ls_ret (le_bl))) (lss_nil)) (lss_cons (ls_if (lt_cmp (od_ne hr.units) (le_callB (cd_repr hg (u65 hr)) T.z_repr (by decide +kernel) (la_cons (le_callK0 F_own_turns hg hr (takes_of rfl rfl rfl rfl) (lk_cons (le_var 3) (lk_nil))) (la_nil))) (le_callB (cd_repr hg (u65 hr)) T.z_repr (by decide +kernel) (la_cons (le_callTy cd_tuple T.z_tuple (by decide +kernel) (la_cons (le_call F__law_all_turns hg hr (takes_of rfl rfl rfl rfl) (la_cons (le_var 3) (la_cons (le_var 3) (la_nil)))) (la_nil))) (la_nil)))) (lss_one (ls_ret (le_bl))) (lss_nil)) (lss_one (ls_for (passes_of rfl) (li_seq (le_lst (la_cons (le_tup (la_cons (le_int) (la_cons (le_int) (la_cons (le_int) (la_nil))))) (la_cons (le_tup (la_cons (le_int) (la_cons (le_int) (la_cons (le_int) (la_nil))))) (la_cons (le_tup (la_cons (le_int) (la_cons (le_int) (la_cons (le_int) (la_nil))))) (la_cons (le_tup (la_cons (le_int) (la_cons (le_int) (la_cons (le_int) (la_nil))))) (la_nil))))))) (lg_name 7 sc__law_right.nd) (lss_cons (ls_set 8 sc__law_right.nd (le_call F_own_turns hg hr (takes_of rfl rfl rfl rfl) (la_cons (le_call F__law_turned hg hr (takes_of rfl rfl rfl rfl) (la_cons (le_var 7) (la_cons (le_tup (la_cons (le_int) (la_cons (le_int) (la_cons (le_int) (la_cons (le_int) (la_nil)))))) (la_nil)))) (la_nil)))) (lss_one (ls_if (lt_cmp (od_ne hr.units) (le_callB cd_len T.z_len (by decide +kernel) (la_cons (le_var 8) (la_nil))) (le_ifE (lt_cmp (od_eq hr.units) (le_ix (le_var 7) (le_int)) (le_int)) (le_int) (le_ifE (lt_cmp (od_eq hr.units) (le_ix (le_var 7) (le_int)) (le_ix (le_var 7) (le_int))) (le_int) (le_int)))) (lss_one (ls_ret (le_bl))) (lss_nil)))))))))))))))) (lss_one (ls_ret (le_bl)))
/-! ### law -/
abbrev slaw : Stmt := top 55
abbrev Nlaw : List Str := ["script", "at"]
theorem sc_law : FnScope Nlaw ["script"] (defScope slaw) := ⟨rfl, rfl, rfl, by decide +kernel, rfl, by decide +kernel, by decide +kernel⟩
def wlaw : WS := wRet (wB gAll [wLc (wSeqI (wCall S_law_cells [wVar 0, wC (.int 3)])) (CT.one 1) (wYes) (wCall S_law_right [wCall S_law_pot [wVar 0, wVar 1]])])
theorem der_law {P : Program} {w : World} {K : PySem.W.Frag} {mg : Str → Option Value} {base : Heap} {f : Addr} (T : Txt mg) (F__law_cells : FnD P w K mg base 1 "_law_cells" ["script", "most"] [] S_law_cells) (F__law_pot : FnD P w K mg base 1 "_law_pot" ["script", "place"] [] S_law_pot) (F__law_right : FnD P w K mg base 9 "_law_right" ["pot"] [] S_law_right) (cdv : Value) (A : Around) (outer : List Env) (s : Shared) (H : Hp) (E : XK) (hg : A.guards = some []) (hr : Room 9 (A.deeper (envOfC "law" (defScope slaw) s.heap.objs.size f cdv))) :
    LSs (cxOf (L2.CX P w) P w K mg base Nlaw "law" (defScope slaw) f cdv A outer s H E) (wxE E) (defBody slaw) wlaw :=
  lss_one (ls_ret (le_callB (cd_all rfl) T.z_all (by decide +kernel) (la_cons (le_lc sc_law.nd (li_seq (le_call F__law_cells hg hr (takes_of rfl rfl rfl rfl) (la_cons (le_var 0) (la_cons (le_int) (la_nil))))) (ok := by show BlkOk Nlaw (defScope slaw) _ _; exact ⟨rfl, by decide +kernel, by decide +kernel, by decide +kernel, by decide +kernel⟩) (own := [("at", 1)]) (hv := rfl) (hg := (fun _ _ _ _ _ => pg_one 1 sc_law.nd)) (ht := (fun _ _ _ _ _ => lps_nil)) (he := (fun _ _ _ _ _ => le_call F__law_right hg hr LamX.takes0 (la_cons (le_call F__law_pot hg hr LamX.takes0 (la_cons (le_var 0) (la_cons (le_var 1) (la_nil)))) (la_nil))))) (la_nil))))
end K8

/-! k08: forms above nought. -/
namespace K8
open PySem PySem.Spec PyProof.Rows L2 Sq
theorem To.comp {a b c A B C p q r s A' B' C' e f g h : Int} (k : To a b c A B C p q r s) (l : To A B C A' B' C' e f g h) : To a b c A' B' C' (p * e + q * g) (p * f + q * h) (r * e + s * g) (r * f + s * h) := by
  obtain ⟨d, rfl, rfl, rfl⟩ := k
  obtain ⟨d', rfl, rfl, rfl⟩ := l
  constructor
  · grind
  · unfold val mid; grind
  · unfold val mid; grind
  · unfold val mid; grind
theorem To.id {a b c : Int} : To a b c a b c 1 0 0 1 := by
  constructor <;> (try unfold val) <;> (try unfold mid) <;> grind
theorem To.disc {a b c A B C p q r s : Int} (k : To a b c A B C p q r s) : 4 * A * C - B * B = 4 * a * c - b * b := by
  obtain ⟨d, rfl, rfl, rfl⟩ := k
  unfold val mid
  have : (p * s - q * r) * (p * s - q * r) = 1 := by rw [d]; rfl
  grind
theorem To.back {a b c A B C p q r s : Int} (k : To a b c A B C p q r s) : To A B C a b c s (-q) (-r) p := by
  obtain ⟨d, rfl, rfl, rfl⟩ := k
  have h2 : (p * s - q * r) * (p * s - q * r) = 1 := by rw [d]; rfl
  constructor
  · grind
  · unfold val mid; grind
  · unfold val mid; grind
  · unfold val mid; grind
theorem mul_pos_of {a c x : Int} (ha : 0 < a) (h : x * x < 4 * a * c) : 0 < c := by
  rcases Int.lt_or_le 0 c with h1 | h1
  · exact h1
  · have h2 : 0 ≤ x * x := by rcases Int.le_total 0 x with h | h; exact Int.mul_nonneg h h; exact Int.mul_nonneg_of_nonpos_of_nonpos h h
    have h3 : a * c ≤ 0 := Int.mul_nonpos_of_nonneg_of_nonpos (Int.le_of_lt ha) h1
    have h4 : 4 * a * c = 4 * (a * c) := by rw [Int.mul_assoc]
    omega
theorem Pos.c {a b c : Int} (h : Pos a b c) : 0 < c := mul_pos_of h.1 h.2
theorem sq_nn (x : Int) : 0 ≤ x * x := by
  rcases Int.le_total 0 x with h | h
  · exact Int.mul_nonneg h h
  · exact Int.mul_nonneg_of_nonpos_of_nonpos h h
theorem sq_le {x y : Int} (h0 : -y ≤ x) (h1 : x ≤ y) : x * x ≤ y * y := by
  have e : y * y - x * x = (y - x) * (y + x) := by grind
  have := Int.mul_nonneg (a := y - x) (b := y + x) (by omega) (by omega)
  omega
theorem abs_lt_of_sq {x y : Int} (hy : 0 ≤ y) (h : x * x < y * y) : -y < x ∧ x < y := by
  constructor
  · rcases Int.lt_or_le (-y) x with h1 | h1
    · exact h1
    · have := sq_le (x := y) (y := -x) (by omega) (by omega)
      have e : -x * -x = x * x := by grind
      omega
  · rcases Int.lt_or_le x y with h1 | h1
    · exact h1
    · have := sq_le (x := y) (y := x) (by omega) h1
      omega
theorem abs_le_of_sq {x y : Int} (hy : 0 ≤ y) (h : x * x ≤ y * y) : -y ≤ x ∧ x ≤ y := by
  have := abs_lt_of_sq (x := x) (y := y + 1) (by omega) (by
    have e : (y + 1) * (y + 1) = y * y + 2 * y + 1 := by grind
    omega)
  omega
theorem To.pos {a b c A B C p q r s : Int} (k : To a b c A B C p q r s) (h : Pos a b c) (hA : 0 < A) : Pos A B C := ⟨hA, by
  have := k.disc
  have := h.2
  omega⟩
/-- four times a value, by squares -/
theorem val4a (a b c x y : Int) : 4 * a * val a b c x y = (2 * a * x + b * y) * (2 * a * x + b * y) + (4 * a * c - b * b) * (y * y) := by unfold val; grind
theorem val4c (a b c x y : Int) : 4 * c * val a b c x y = (2 * c * y + b * x) * (2 * c * y + b * x) + (4 * a * c - b * b) * (x * x) := by unfold val; grind
theorem val_y {a b c x y : Int} : (4 * a * c - b * b) * (y * y) ≤ 4 * a * val a b c x y := by
  have := val4a a b c x y
  have := sq_nn (2 * a * x + b * y)
  omega
theorem val_x {a b c x y : Int} : (4 * a * c - b * b) * (x * x) ≤ 4 * c * val a b c x y := by
  have := val4c a b c x y
  have := sq_nn (2 * c * y + b * x)
  omega
theorem val_pos {a b c x y : Int} (h : Pos a b c) (hn : ¬(x = 0 ∧ y = 0)) : 0 < val a b c x y := by
  have hD : 0 < 4 * a * c - b * b := by have := h.2; omega
  by_cases hy : y = 0
  · subst hy
    have hx : x ≠ 0 := fun e => hn ⟨e, rfl⟩
    have e : val a b c x 0 = a * (x * x) := by unfold val; grind
    rw [e]
    have : 0 < x * x := by
      rcases Int.lt_or_lt_of_ne hx with g | g
      · exact Int.mul_pos_of_neg_of_neg g g
      · exact Int.mul_pos g g
    exact Int.mul_pos h.1 this
  · have : 0 < y * y := by
      rcases Int.lt_or_lt_of_ne hy with g | g
      · exact Int.mul_pos_of_neg_of_neg g g
      · exact Int.mul_pos g g
    have h1 := Int.mul_pos hD this
    have h2 := val_y (a := a) (b := b) (c := c) (x := x) (y := y)
    rcases Int.lt_or_le 0 (val a b c x y) with g | g
    · exact g
    · have h3 : a * val a b c x y ≤ 0 := Int.mul_nonpos_of_nonneg_of_nonpos (Int.le_of_lt h.1) g
      have e : 4 * a * val a b c x y = 4 * (a * val a b c x y) := by rw [Int.mul_assoc]
      omega
/-! ### least ones -/
theorem red_b2 {a b c : Int} (h : Red a b c) : b * b ≤ a * a := sq_le (by have := h.1; omega) h.2.1
theorem red_D {a b c : Int} (h : Red a b c) (ha : 0 < a) : 3 * (a * a) ≤ 4 * a * c - b * b := by
  have h1 := red_b2 h
  have h2 := Int.mul_le_mul_of_nonneg_left h.2.2.1 (Int.le_of_lt ha)
  have e : 4 * a * c = 4 * (a * c) := by rw [Int.mul_assoc]
  omega
theorem Red.pos {a b c : Int} (h : Red a b c) : 0 < a := by have := h.1; have := h.2.1; omega
theorem Red.ps {a b c : Int} (h : Red a b c) : Pos a b c := ⟨h.pos, by
  have := red_D h h.pos
  have := Int.mul_pos h.pos h.pos
  omega⟩
/-- a z z + b z -/
theorem az_nn {a b c z : Int} (h : Red a b c) : 0 ≤ (a * z + b) * z := by
  have ha := h.pos
  obtain ⟨h1, h2, _⟩ := h
  rcases Int.lt_trichotomy z 0 with g | g | g
  · have : a * z ≤ a * -1 := Int.mul_le_mul_of_nonneg_left (by omega) (Int.le_of_lt ha)
    exact Int.mul_nonneg_of_nonpos_of_nonpos (by omega) (by omega)
  · subst g; rw [Int.mul_zero]; exact Int.le_refl 0
  · have : a * 1 ≤ a * z := Int.mul_le_mul_of_nonneg_left (by omega) (Int.le_of_lt ha)
    exact Int.mul_nonneg (by omega) (by omega)
theorem val_unit {a b c x y : Int} (hy : y * y = 1) : val a b c x y = (a * (x * y) + b) * (x * y) + c := by
  unfold val
  have e : a * x * x = a * x * x * (y * y) := by rw [hy, Int.mul_one]
  have e2 : c * y * y = c * (y * y) := by rw [Int.mul_assoc]
  rw [e2, hy, e]; grind
theorem sq_cases (y : Int) : y = 0 ∨ y * y = 1 ∨ 4 ≤ y * y := by
  rcases Int.lt_trichotomy y 0 with g | g | g
  · by_cases h : y = -1
    · subst h; simp
    · have := sq_le (x := 2) (y := -y) (by omega) (by omega)
      have e : -y * -y = y * y := by grind
      omega
  · exact .inl g
  · by_cases h : y = 1
    · subst h; simp
    · have := sq_le (x := 2) (y := y) (by omega) (by omega)
      omega
theorem val_far {a b c x y : Int} (h : Red a b c) (hy : 4 ≤ y * y) : 3 * a ≤ val a b c x y := by
  have ha := h.pos
  have h1 := val_y (a := a) (b := b) (c := c) (x := x) (y := y)
  have h2 := red_D h ha
  have h3 : 3 * (a * a) * 4 ≤ (4 * a * c - b * b) * (y * y) := Int.mul_le_mul h2 hy (by decide) (by have := Int.mul_pos ha ha; omega)
  have h4 : a * (3 * a) ≤ a * val a b c x y := by
    have e : 4 * a * val a b c x y = 4 * (a * val a b c x y) := by rw [Int.mul_assoc]
    have e2 : a * (3 * a) = 3 * (a * a) := by grind
    omega
  exact Int.le_of_mul_le_mul_left h4 ha
theorem red_val_ge {a b c x y : Int} (h : Red a b c) (hn : ¬(x = 0 ∧ y = 0)) : a ≤ val a b c x y := by
  have ha := h.pos
  rcases sq_cases y with g | g | g
  · subst g
    have e : val a b c x 0 = a * (x * x) := by unfold val; grind
    have : 1 ≤ x * x := by
      rcases sq_cases x with k | k | k
      · exact absurd ⟨k, rfl⟩ hn
      · omega
      · omega
    have := Int.mul_le_mul_of_nonneg_left this (Int.le_of_lt ha)
    omega
  · rw [val_unit g]
    have := az_nn (z := x * y) h
    have := h.2.2.1
    omega
  · have := val_far (x := x) h g
    omega
theorem unit_cases {x : Int} (h : x * x = 1) : x = 1 ∨ x = -1 := by
  have := abs_le_of_sq (x := x) (y := 1) (by decide) (by omega)
  have h0 : x ≠ 0 := fun e => by subst e; simp at h
  omega
/-- where the least value is paid -/
theorem red_val_eq {a b c x y : Int} (h : Red a b c) (e : val a b c x y = a) : (y = 0 ∧ (x = 1 ∨ x = -1)) ∨ (x = 0 ∧ (y = 1 ∨ y = -1) ∧ c = a) ∨ (((x = 1 ∧ y = -1) ∨ (x = -1 ∧ y = 1)) ∧ b = a ∧ c = a) := by
  have ha := h.pos
  rcases sq_cases y with g | g | g
  · subst g
    have e2 : val a b c x 0 = a * (x * x) := by unfold val; grind
    have h1 : x * x = 1 := Int.eq_of_mul_eq_mul_left (Int.ne_of_gt ha) (by omega)
    exact .inl ⟨rfl, unit_cases h1⟩
  · rw [val_unit g] at e
    have h1 := az_nn (z := x * y) h
    have hc : c = a := by have := h.2.2.1; omega
    have h2 : (a * (x * y) + b) * (x * y) = 0 := by omega
    rcases Int.mul_eq_zero.mp h2 with k | k
    · have hz : x * y = 0 ∨ x * y = -1 := by
        obtain ⟨g1, g2, _⟩ := h
        rcases Int.lt_trichotomy (x * y) 0 with q | q | q
        · by_cases q2 : x * y = -1
          · exact .inr q2
          · have : a * (x * y) ≤ a * -2 := Int.mul_le_mul_of_nonneg_left (by omega) (Int.le_of_lt ha)
            omega
        · exact .inl q
        · have : a * 1 ≤ a * (x * y) := Int.mul_le_mul_of_nonneg_left (by omega) (Int.le_of_lt ha)
          omega
      rcases hz with z | z
      · rcases unit_cases g with rfl | rfl <;> exact .inr (.inl ⟨by omega, by simp, hc⟩)
      · rw [z] at k
        rcases unit_cases g with rfl | rfl
        · exact .inr (.inr ⟨.inr ⟨by omega, rfl⟩, by omega, hc⟩)
        · exact .inr (.inr ⟨.inl ⟨by omega, rfl⟩, by omega, hc⟩)
    · rcases unit_cases g with rfl | rfl <;> exact .inr (.inl ⟨by omega, by simp, hc⟩)
  · have := val_far (x := x) h g
    omega
theorem two_mul_zero {a k : Int} (ha : 0 < a) (h1 : -(2 * a) < 2 * a * k) (h2 : 2 * a * k < 2 * a) : k = 0 := by
  rcases Int.lt_trichotomy k 0 with g | g | g
  · have : 2 * a * k ≤ 2 * a * -1 := Int.mul_le_mul_of_nonneg_left (by omega) (by omega)
    omega
  · exact g
  · have : 2 * a * 1 ≤ 2 * a * k := Int.mul_le_mul_of_nonneg_left (by omega) (by omega)
    omega
theorem two_mul_one {a k : Int} (ha : 0 < a) (h1 : -(2 * a) < 2 * a * k) (h2 : 2 * a * k ≤ 2 * a) : k = 0 ∨ k = 1 := by
  rcases Int.lt_trichotomy k 0 with g | g | g
  · have : 2 * a * k ≤ 2 * a * -1 := Int.mul_le_mul_of_nonneg_left (by omega) (by omega)
    omega
  · exact .inl g
  · by_cases q : k = 1
    · exact .inr q
    · have : 2 * a * 2 ≤ 2 * a * k := Int.mul_le_mul_of_nonneg_left (by omega) (by omega)
      omega
theorem disc_c {a b c C : Int} (ha : 0 < a) (h : 4 * a * C - b * b = 4 * a * c - b * b) : c = C := by
  have : 4 * a * C = 4 * a * c := by omega
  exact (Int.eq_of_mul_eq_mul_left (by omega) this).symm
/-- there is one least form alone -/
theorem red_uniq {a b c A B C p q r s : Int} (k : To a b c A B C p q r s) (h : Red a b c) (h' : Red A B C) : a = A ∧ b = B ∧ c = C := by
  have ha := h.pos
  have hA := h'.pos
  have n1 : ¬(p = 0 ∧ r = 0) := fun ⟨e1, e2⟩ => by have := k.det; subst e1 e2; simp at this
  have kb := k.back
  have n2 : ¬(s = 0 ∧ -r = 0) := fun ⟨e1, e2⟩ => by have := k.det; have e3 : r = 0 := by omega
                                                    subst e1 e3; simp at this
  have g1 := red_val_ge h n1
  rw [k.eA] at g1
  have g2 := red_val_ge h' n2
  rw [kb.eA] at g2
  obtain rfl : a = A := by omega
  have hd := k.disc
  have hB := k.eB
  unfold mid at hB
  have hdet := k.det
  refine ⟨rfl, ?_⟩
  rcases red_val_eq h k.eA with ⟨rfl, hp⟩ | ⟨rfl, hr, rfl⟩ | ⟨hp, rfl, rfl⟩
  · have hs : p * s = 1 := by omega
    have e : B = b + 2 * a * (p * q) := by rw [← hB, show p * s + q * 0 = 1 by omega]; grind
    have hk := two_mul_zero (k := p * q) ha (by have := h.1; have := h.2.1; have := h'.1; have := h'.2.1; omega) (by have := h.1; have := h.2.1; have := h'.1; have := h'.2.1; omega)
    rw [hk, Int.mul_zero, Int.add_zero] at e
    subst e
    exact ⟨rfl, disc_c ha hd⟩
  · have hq : q * r = -1 := by omega
    have e : B = -b + 2 * c * (r * s) := by
      rw [← hB]
      rw [show 0 * s + q * r = -1 by omega]; grind
    have hk := two_mul_one (k := r * s) ha (by have := h.1; have := h.2.1; have := h'.1; have := h'.2.1; omega) (by have := h.1; have := h.2.1; have := h'.1; have := h'.2.1; omega)
    rcases hk with hk | hk
    · rw [hk, Int.mul_zero, Int.add_zero] at e
      subst e
      have e2 : -b * -b = b * b := by grind
      rw [e2] at hd
      have := disc_c ha hd
      subst this
      have h1 := h.2.2.2
      have h2 := h'.2.2.2
      exact ⟨by omega, rfl⟩
    · rw [hk] at e
      have hb : b = B := by have := h.2.1; have := h'.2.1; omega
      subst hb
      exact ⟨rfl, disc_c ha hd⟩
  · have h3 := h'.2.2.1
    have h4 : c * c ≤ c * C := Int.mul_le_mul_of_nonneg_left h3 (Int.le_of_lt ha)
    have e4 : 4 * c * C = 4 * (c * C) := by rw [Int.mul_assoc]
    have e5 : 4 * c * c = 4 * (c * c) := by rw [Int.mul_assoc]
    have h5 : c * c ≤ B * B := by omega
    have hb : c = B := by
      rcases Int.lt_or_le B c with g | g
      · have := sq_le (x := B) (y := c - 1) (by have := h'.1; omega) (by omega)
        have e : (c - 1) * (c - 1) = c * c - 2 * c + 1 := by grind
        omega
      · have := h'.2.1; omega
    subst hb
    exact ⟨rfl, disc_c ha hd⟩
theorem mem_own {a b c : Int} {t : Tn} : t ∈ ownL a b c ↔ t = (1, 0, 0, 1) ∨ t = (-1, 0, 0, -1) ∨ ((b = 0 ∧ a = c) ∧ (t = (0, -1, 1, 0) ∨ t = (0, 1, -1, 0))) ∨ ((a = b ∧ b = c) ∧ (t = (0, -1, 1, 1) ∨ t = (0, 1, -1, -1) ∨ t = (1, 1, -1, 0) ∨ t = (-1, -1, 1, 0))) := by
  unfold ownL
  by_cases h1 : b = 0 ∧ a = c
  · by_cases h2 : a = b ∧ b = c
    · rw [if_pos h1, if_pos h2, eq_true h1, eq_true h2]
      simp only [List.mem_append, List.mem_cons, List.not_mem_nil, or_false, true_and, or_assoc]
    · rw [if_pos h1, if_neg h2, eq_true h1, eq_false h2]
      simp only [List.mem_append, List.mem_cons, List.not_mem_nil, or_false, true_and, or_assoc, false_and]
  · by_cases h2 : a = b ∧ b = c
    · rw [if_neg h1, if_pos h2, eq_false h1, eq_true h2]
      simp only [List.mem_append, List.mem_cons, List.not_mem_nil, or_false, true_and, or_assoc, false_and, false_or]
    · rw [if_neg h1, if_neg h2, eq_false h1, eq_false h2]
      simp only [List.mem_append, List.mem_cons, List.not_mem_nil, or_false, true_and, or_assoc, false_and, false_or]
/-- the own turns of a least form -/
theorem own_iff {a b c p q r s : Int} (h : Red a b c) : To a b c a b c p q r s ↔ (p, q, r, s) ∈ ownL a b c := by
  have ha := h.pos
  constructor
  · intro k
    have hB := k.eB
    unfold mid at hB
    have hdet := k.det
    rw [mem_own]
    rcases red_val_eq h k.eA with ⟨rfl, hp⟩ | ⟨rfl, hr, rfl⟩ | ⟨hp, rfl, rfl⟩
    · have hs : p * s = 1 := by omega
      have e : 2 * a * (p * q) = 0 := by
        rw [show p * s + q * 0 = 1 by omega] at hB
        have : 2 * a * p * q = 2 * a * (p * q) := by grind
        omega
      have hpq : p * q = 0 := by
        rcases Int.mul_eq_zero.mp e with z | z
        · omega
        · exact z
      rcases hp with rfl | rfl
      · have e1 : q = 0 := by omega
        have e2 : s = 1 := by omega
        subst e1 e2; simp
      · have e1 : q = 0 := by omega
        have e2 : s = -1 := by omega
        subst e1 e2; simp
    · have hq : q * r = -1 := by omega
      have e : c * (r * s) = b := by
        rw [show 0 * s + q * r = -1 by omega] at hB
        have e2 : 2 * c * r * s = 2 * (c * (r * s)) := by grind
        have e3 : 2 * c * 0 * q = 0 := by simp
        omega
      have hk := two_mul_one (k := r * s) ha (by rw [Int.mul_assoc, e]; have := h.1; omega) (by rw [Int.mul_assoc, e]; have := h.2.1; omega)
      rcases hk with hk | hk
      · rw [hk, Int.mul_zero] at e
        subst e
        rcases hr with rfl | rfl
        · have e1 : q = -1 := by omega
          have e2 : s = 0 := by omega
          subst e1 e2; simp
        · have e1 : q = 1 := by omega
          have e2 : s = 0 := by omega
          subst e1 e2; simp
      · rw [hk, Int.mul_one] at e
        subst e
        rcases hr with rfl | rfl
        · have e1 : q = -1 := by omega
          have e2 : s = 1 := by omega
          subst e1 e2; simp
        · have e1 : q = 1 := by omega
          have e2 : s = -1 := by omega
          subst e1 e2; simp
    · rcases hp with ⟨rfl, rfl⟩ | ⟨rfl, rfl⟩
      · have e1 : s + q = 1 := by omega
        obtain rfl : s = 1 - q := by omega
        have e : c * (q - 1) = 0 := by grind
        rcases Int.mul_eq_zero.mp e with z | z
        · omega
        · obtain rfl : q = 1 := by omega
          simp
      · have e1 : s + q = -1 := by omega
        obtain rfl : s = -1 - q := by omega
        have e : c * (q + 1) = 0 := by grind
        rcases Int.mul_eq_zero.mp e with z | z
        · omega
        · obtain rfl : q = -1 := by omega
          simp
  · intro k
    rw [mem_own] at k
    simp only [Prod.mk.injEq] at k
    rcases k with ⟨rfl, rfl, rfl, rfl⟩ | ⟨rfl, rfl, rfl, rfl⟩ | ⟨⟨rfl, rfl⟩, ⟨rfl, rfl, rfl, rfl⟩ | ⟨rfl, rfl, rfl, rfl⟩⟩ | ⟨⟨rfl, rfl⟩, ⟨rfl, rfl, rfl, rfl⟩ | ⟨rfl, rfl, rfl, rfl⟩ | ⟨rfl, rfl, rfl, rfl⟩ | ⟨rfl, rfl, rfl, rfl⟩⟩
    all_goals (constructor <;> (try unfold val) <;> (try unfold mid) <;> grind)
end K8

/-! k08: the readings. -/
namespace K8
open PySem PySem.Spec PyProof.Rows L2 Sq
local macro_rules | `(tactic| walk_at "sq") => `(tactic| simp only [wVar_run, wC_run, wOp_run, onBl_bl, gI_run, gAdd_int, gAdd_str, gAdd_tup, gMul_int, EqB_int, EqB_str, EqB_bl, gEq_run, gNe_run, wNeg_run, wNotV_run, wAndV_run, wOrV_run, wTB_run, wNotT_run, wAndT_run, wOrT_run, wIfE_run, runAll_nil, runAll_cons, wTup_run, wLst_run, gIx_tup, gIx_rls, gIx_str, gIx_ob, wB_run, fLen_tup, fLen_rls, fLen_str, fLen_ob, fAbs_int, fInt_int, fInt_bl, fTuple_tup, fTuple_ob, wIsi_run, wCall_run, wNext_run, wSeq_run, wBreak_run, wCont_run, wNever_run, wExpr_run, wRet_run, wRetN_run, wIf_run, gN_run, runGs_nil, runGs_cons, gT_run, gS_run, sIx_ob, wAsg_run, wSet_run, wPar_run, wPar3_run, wSeqI_run, fSeq_tup, fSeq_rls, fSeq_ob, wRng1_run, fRng1_int, wRng2_run, fRng2_int, wFor_run, wLc_run, wYes_run, onLst_ob, wMt_run, fAppend_run, fExtend_run, wAug_run, bodyD_nx, bodyD_rt, bodyD_ex, wNoP_run, onInt_int, wPart_run, fSl_tup, fSl_rls, fSl_str, fSl_ob, wSl_run, gIn_run, gNotIn_run, fSorted_ob, wLstRg1_run, wChainN_run, chainRun_last, chainRun_cons, spR_run,
  Sq.gSub, gFdiv, gMod, gLt, gLe, gGt, gGe, gAddI, gPowW, gLen_run, gAbs_run, gInt_run, gAll_run, gAny_run, gSum_run, gTuple_run, gList_run, gSorted_run, gRepr_run, gMax2_run, gMin2_run, gAppend_run, gExtend_run, CT.set_one, CT.set_many, CT.slots, setAll, wipeE, lcG_nil,
  List.getElem?_cons_zero, List.getElem?_cons_succ, List.getElem?_nil, List.set_cons_zero, List.set_cons_succ, List.length_cons, List.length_nil, ev0, List.map_cons, List.map_nil, List.cons_append, List.nil_append, List.replicate_succ, List.replicate_zero, Nat.reduceSub, Nat.reduceAdd, mset_same, decide_true, decide_false, if_true, if_false, ite_true, ite_false, Bool.false_eq_true, Bool.not_true, Bool.not_false, true_and, and_true, decide_eq_true_eq, Bool.not_eq_true', decide_eq_false_iff_not, ite_not, isA, atI_0, atI_1, atI_2, atI_3, atI_m4, ixN_0, ixN_1, ixN_30, ixN_31, ixN_32])
theorem rd_told_value (ds : List D) (μ : Mu) (Q : PQ) (X : XQ) (hl : ds.length = 3) (h : Stold_value.run ds μ Q X) : wtold_value.run (bodyD Q X) (ev0 3 ds) μ := by
  obtain ⟨r, ⟨a, b, c, x, y, rfl, hx, hy, rfl⟩, q⟩ := h
  unfold wtold_value
  walk_at "sq"
  exact ⟨hx.r, hx.r, hx.r, hy.r, hy.r, hy.r, .of q⟩
theorem rd_told_size (ds : List D) (μ : Mu) (Q : PQ) (X : XQ) (hl : ds.length = 1) (h : Stold_size.run ds μ Q X) : wtold_size.run (bodyD Q X) (ev0 1 ds) μ := by
  obtain ⟨r, ⟨a, b, c, rfl, hb, hc, rfl⟩, q⟩ := h
  unfold wtold_size
  walk_at "sq"
  exact ⟨hb.r, mulOk_l (by omega) (by omega), hc.r, .of q⟩
theorem rd_is_whole (ds : List D) (μ : Mu) (Q : PQ) (X : XQ) (hl : ds.length = 1) (h : Sis_whole.run ds μ Q X) : wis_whole.run (bodyD Q X) (ev0 1 ds) μ := by
  obtain ⟨r, ⟨i, rfl, rfl⟩, q⟩ := h
  unfold wis_whole
  walk_at "sq"
  exact .of q
theorem all_true {α : Type} (xs : List α) : (xs.map fun _ => true).all id = true := by simp
theorem rd_are_wholes (ds : List D) (μ : Mu) (Q : PQ) (X : XQ) (hl : ds.length = 1) (h : Sare_wholes.run ds μ Q X) : ware_wholes.run (bodyD Q X) (ev0 2 ds) μ := by
  obtain ⟨r, ⟨ns, rfl, hn, rfl⟩, q⟩ := h
  unfold ware_wholes
  walk_at "sq"
  refine ⟨small_size (by simp; omega), lcG_map (fun _ => .bl true) trivial (fun d hd => ?_) fun p hp => ?_⟩
  · obtain ⟨i, _, rfl⟩ := List.mem_map.mp hd
    exact ⟨_, rfl, by
      walk_at "sq"
      exact ⟨.bl true, ⟨i, rfl, rfl⟩, rfl, rfl⟩⟩
  · refine ⟨p, ns.map fun _ => true, rfl, by rw [mset_same]; simp, ?_⟩
    rw [all_true]
    exact .skip hp q
theorem all_dec {α : Type} (xs : List α) (f : α → Bool) : (xs.map f).all id = xs.all f := by rw [List.all_map]; rfl
theorem rd_are_ints (ds : List D) (μ : Mu) (Q : PQ) (X : XQ) (hl : ds.length = 3) (h : Sare_ints.run ds μ Q X) : ware_ints.run (bodyD Q X) (ev0 4 ds) μ := by
  obtain ⟨r, ⟨ns, k, m, rfl, hn, rfl⟩, q⟩ := h
  unfold ware_ints
  walk_at "sq"
  refine ⟨.bl true, ⟨ns, rfl, hn, rfl⟩, ?_⟩
  walk_at "sq"
  rw [List.length_map]
  by_cases hk : (ns.length : Int) = k
  · rw [if_pos hk]
    refine ⟨small_size (by omega), lcG_map (fun d => match d with | .int n => .bl (decide ((if n < 0 then -n else n) ≤ m)) | _ => .non) trivial (fun d hd => ?_) fun p hp => ?_⟩
    · obtain ⟨i, _, rfl⟩ := List.mem_map.mp hd
      exact ⟨_, rfl, by
        walk_at "sq"⟩
    · refine ⟨p, ns.map fun n => decide ((if n < 0 then -n else n) ≤ m), rfl, by rw [mset_same, List.map_map, List.map_map]; rfl, ?_⟩
      rw [all_dec]
      rw [decide_eq_true hk, Bool.true_and] at q
      exact .skip hp q
  · rw [if_neg hk]
    rw [decide_eq_false hk, Bool.false_and] at q
    exact .of q
theorem rd_is_form (ds : List D) (μ : Mu) (Q : PQ) (X : XQ) (hl : ds.length = 1) (h : Sis_form.run ds μ Q X) : wis_form.run (bodyD Q X) (ev0 1 ds) μ := by
  obtain ⟨r, ⟨a, b, c, rfl, rfl⟩, q⟩ := h
  unfold wis_form
  walk_at "sq"
  refine ⟨_, ⟨[a, b, c], 3, 1000000, rfl, by simp, rfl⟩, .of ?_⟩
  have e : ((decide ((([a, b, c] : List Int).length : Int) = 3) && [a, b, c].all fun n => decide ((if n < 0 then -n else n) ≤ 1000000)) = decide (Bd a b c)) := by
    rw [Bool.eq_iff_iff]
    simp only [List.length_cons, List.length_nil, List.all_cons, List.all_nil, Bool.and_true, Bool.and_eq_true, decide_eq_true_eq]
    unfold Bd
    constructor
    · rintro ⟨_, h1, h2, h3⟩
      split at h1 <;> split at h2 <;> split at h3 <;> omega
    · rintro ⟨h1, h2, h3, h4, h5, h6⟩
      refine ⟨by decide, ?_, ?_, ?_⟩ <;> split <;> omega
  rw [e]
  exact q
theorem rd_look_at_form (ds : List D) (μ : Mu) (Q : PQ) (X : XQ) (hl : ds.length = 1) (h : Slook_at_form.run ds μ Q X) : wlook_at_form.run (bodyD Q X) (ev0 1 ds) μ := by
  obtain ⟨r, ⟨a, b, c, rfl, hb, rfl⟩, q⟩ := h
  unfold wlook_at_form
  walk_at "sq"
  refine ⟨_, ⟨a, b, c, rfl, rfl⟩, ?_⟩
  walk_at "sq"
  rw [if_pos hb]
  exact .of q
theorem rd_told_kind (ds : List D) (μ : Mu) (Q : PQ) (X : XQ) (hl : ds.length = 1) (h : Stold_kind.run ds μ Q X) : wtold_kind.run (bodyD Q X) (ev0 2 ds) μ := by
  obtain ⟨r, ⟨a, b, c, rfl, hb, hn, rfl⟩, q⟩ := h
  unfold wtold_kind
  walk_at "sq"
  obtain ⟨h1, h2, h3, h4, h5, h6⟩ := hb
  refine ⟨_, ⟨a, b, c, rfl, .mk (by omega) (by omega), .mk (by omega) (by omega), rfl⟩, ?_⟩
  walk_at "sq"
  rw [if_pos hn]
  by_cases ha : 0 < a
  · rw [if_pos ha] at q ⊢; exact .of q
  · rw [if_neg ha] at q ⊢; exact .of q
theorem rd_told_turned (ds : List D) (μ : Mu) (Q : PQ) (X : XQ) (hl : ds.length = 2) (h : Stold_turned.run ds μ Q X) : wtold_turned.run (bodyD Q X) (ev0 7 ds) μ := by
  obtain ⟨r, ⟨a, b, c, p, q', u, v, rfl, hb, hp, hq, hu, hv, rfl⟩, q⟩ := h
  unfold wtold_turned
  walk_at "sq"
  refine ⟨mulOk_l (by omega) (by omega), hp.r, hq.r, hv.r, hu.r, hb.l, mulOk_l (by omega) (by omega), hu.r, hv.r, ?_⟩
  refine ⟨_, ⟨a, b, c, p, u, rfl, hp, hu, rfl⟩, ?_⟩
  refine ⟨_, ⟨a, b, c, q', v, rfl, hq, hv, rfl⟩, ?_⟩
  exact .of q
theorem rd_told_then (ds : List D) (μ : Mu) (Q : PQ) (X : XQ) (hl : ds.length = 2) (h : Stold_then.run ds μ Q X) : wtold_then.run (bodyD Q X) (ev0 10 ds) μ := by
  obtain ⟨r, ⟨p, q', u, v, e, f, g, k, rfl, hb, rfl⟩, q⟩ := h
  unfold wtold_then
  walk_at "sq"
  rcases hb with ⟨h1, h2, h3, h4⟩ | ⟨h1, h2, h3, h4⟩
  · exact ⟨h1.l, h2.l, h1.l, h2.l, h3.l, h4.l, h3.l, h4.l, .of q⟩
  · exact ⟨h1.r, h3.r, h2.r, h4.r, h1.r, h3.r, h2.r, h4.r, .of q⟩
theorem rd_told_back (ds : List D) (μ : Mu) (Q : PQ) (X : XQ) (hl : ds.length = 1) (h : Stold_back.run ds μ Q X) : wtold_back.run (bodyD Q X) (ev0 1 ds) μ := by
  obtain ⟨r, ⟨p, q', u, v, rfl, rfl⟩, q⟩ := h
  unfold wtold_back
  walk_at "sq"
  exact .of q
theorem rd_look_at_above (ds : List D) (μ : Mu) (Q : PQ) (X : XQ) (hl : ds.length = 1) (h : Slook_at_above.run ds μ Q X) : wlook_at_above.run (bodyD Q X) (ev0 1 ds) μ := by
  obtain ⟨r, ⟨a, b, c, rfl, hb, hp, rfl⟩, q⟩ := h
  unfold wlook_at_above
  walk_at "sq"
  refine ⟨_, ⟨a, b, c, rfl, hb, rfl⟩, ?_⟩
  refine ⟨_, ⟨a, b, c, rfl, hb, ?_, rfl⟩, ?_⟩
  · have := hp.2; omega
  rw [if_pos hp.1]
  walk_at "sq"
  exact .of q
theorem dec_red {a b c : Int} {P : Bool → Prop} (q : P (decide (Red a b c))) : (if -a < b then (if b ≤ a then (if a ≤ c then (if 0 ≤ b then P true else P !decide (a = c)) else P false) else P false) else P false) := by
  by_cases h1 : -a < b
  · by_cases h2 : b ≤ a
    · by_cases h3 : a ≤ c
      · by_cases h4 : 0 ≤ b
        · rw [if_pos h1, if_pos h2, if_pos h3, if_pos h4]
          rw [decide_eq_true (p := Red a b c) ⟨h1, h2, h3, .inl h4⟩] at q; exact q
        · rw [if_pos h1, if_pos h2, if_pos h3, if_neg h4]
          by_cases h5 : a = c
          · rw [decide_eq_false (p := Red a b c) (fun ⟨_, _, _, z⟩ => z.elim h4 fun y => y h5)] at q
            rw [decide_eq_true h5]; exact q
          · rw [decide_eq_true (p := Red a b c) ⟨h1, h2, h3, .inr h5⟩] at q
            rw [decide_eq_false h5]; exact q
      · rw [if_pos h1, if_pos h2, if_neg h3]
        rw [decide_eq_false (p := Red a b c) (fun ⟨_, _, z, _⟩ => h3 z)] at q; exact q
    · rw [if_pos h1, if_neg h2]
      rw [decide_eq_false (p := Red a b c) (fun ⟨_, z, _, _⟩ => h2 z)] at q; exact q
  · rw [if_neg h1]
    rw [decide_eq_false (p := Red a b c) (fun ⟨z, _, _, _⟩ => h1 z)] at q; exact q
theorem rd_is_least (ds : List D) (μ : Mu) (Q : PQ) (X : XQ) (hl : ds.length = 1) (h : Sis_least.run ds μ Q X) : wis_least.run (bodyD Q X) (ev0 4 ds) μ := by
  obtain ⟨r, ⟨a, b, c, rfl, rfl⟩, q⟩ := h
  unfold wis_least
  walk_at "sq"
  exact dec_red (P := fun z => SubQ Q (.bl z) μ) (.of q)
/-- the measure -/
def meas (a b c : Int) : Nat := 8 * a.toNat + (if -a < b ∧ b ≤ a then (if a ≤ c then (if a = c ∧ b < 0 then 1 else 0) else 2) else (if b < 0 then 4 else 3))
theorem fdiv_bd {x y : Int} (hy : 0 < y) : y * x.fdiv y ≤ x ∧ x < y * x.fdiv y + y := by
  rw [Int.fdiv_eq_ediv_of_nonneg _ (Int.le_of_lt hy)]
  have h1 := Int.mul_ediv_add_emod x y
  have h2 := Int.emod_nonneg x (Int.ne_of_gt hy)
  have h3 := Int.emod_lt_of_pos x hy
  omega
theorem fdiv_abs {x y B : Int} (hy : 0 < y) (h1 : -B ≤ x) (h2 : x ≤ B) (hB : 0 ≤ B) : -B - 1 ≤ x.fdiv y ∧ x.fdiv y ≤ B := by
  obtain ⟨g1, g2⟩ := fdiv_bd (x := x) hy
  constructor
  · rcases Int.lt_or_le (x.fdiv y) (-B - 1) with k | k
    · have : y * x.fdiv y ≤ y * (-B - 2) := Int.mul_le_mul_of_nonneg_left (by omega) (Int.le_of_lt hy)
      have e : y * (-B - 2) = -(y * B) - 2 * y := by grind
      have := Int.mul_le_mul_of_nonneg_right (show 1 ≤ y by omega) hB
      omega
    · exact k
  · rcases Int.lt_or_le B (x.fdiv y) with k | k
    · have : y * (B + 1) ≤ y * x.fdiv y := Int.mul_le_mul_of_nonneg_left (by omega) (Int.le_of_lt hy)
      have e : y * (B + 1) = y * B + y := by grind
      have := Int.mul_le_mul_of_nonneg_right (show 1 ≤ y by omega) hB
      omega
    · exact k
/-- how the parts are bounded on the way -/
def Way (a b c A B C : Int) : Prop := Pos A B C ∧ A ≤ 10000000000000 ∧ C ≤ 10000000000000 ∧ 4 * A * C - B * B = 4 * a * c - b * b
theorem Way.b {a b c A B C : Int} (h : Way a b c A B C) : -20000000000000 < B ∧ B < 20000000000000 := by
  obtain ⟨⟨h1, h2⟩, h3, h4, _⟩ := h
  have hC := mul_pos_of h1 h2
  refine abs_lt_of_sq (by decide) ?_
  have h5 : A * C ≤ 10000000000000 * 10000000000000 := Int.mul_le_mul h3 h4 (Int.le_of_lt hC) (by decide)
  have e : 4 * A * C = 4 * (A * C) := by rw [Int.mul_assoc]
  omega
theorem way_swap {a b c A B C : Int} (h : Way a b c A B C) : Way a b c C (-B) A := by
  obtain ⟨⟨h1, h2⟩, h3, h4, h5⟩ := h
  have hC := mul_pos_of h1 h2
  have e : -B * -B = B * B := by grind
  have e2 : 4 * C * A = 4 * A * C := by grind
  exact ⟨⟨hC, by rw [e, e2]; exact h2⟩, h4, h3, by rw [e, e2]; exact h5⟩
theorem way_norm {a b c A B C k : Int} (hb : Bd a b c) (hp : Pos a b c) (h : Way a b c A B C) (h1 : -A < B + 2 * A * k) (h2 : B + 2 * A * k ≤ A) : Way a b c A (B + 2 * A * k) (A * k * k + B * k + C) := by
  obtain ⟨⟨g1, g2⟩, g3, g4, g5⟩ := h
  have e : 4 * A * (A * k * k + B * k + C) - (B + 2 * A * k) * (B + 2 * A * k) = 4 * A * C - B * B := by grind
  have e2 : (B + 2 * A * k) * (B + 2 * A * k) ≤ A * A := sq_le (by omega) h2
  have hD : 0 < 4 * a * c - b * b := by have := hp.2; omega
  have hac : a * c ≤ 1000000 * 1000000 := Int.mul_le_mul hb.2.1 hb.2.2.2.2.2 (Int.le_of_lt hp.c) (by decide)
  have e3 : 4 * a * c = 4 * (a * c) := by rw [Int.mul_assoc]
  have hbb := sq_nn b
  refine ⟨⟨g1, by omega⟩, g3, ?_, by omega⟩
  rcases Int.lt_or_le 10000000000000 (A * k * k + B * k + C) with z | z
  · have h5 : A * 10000000000001 ≤ A * (A * k * k + B * k + C) := Int.mul_le_mul_of_nonneg_left (by omega) (Int.le_of_lt g1)
    have h6 : A * A ≤ A * 10000000000000 := Int.mul_le_mul_of_nonneg_left g3 (Int.le_of_lt g1)
    have e4 : 4 * A * (A * k * k + B * k + C) = 4 * (A * (A * k * k + B * k + C)) := by rw [Int.mul_assoc]
    omega
  · exact z
theorem turned_swap {A B C : Int} {R : PQ} {X : XQ} {μ : Mu} (hB : B64 B) (h : R (f3 C (-B) A) μ) : Stold_turned.run [f3 A B C, t4 0 (-1) 1 0] μ R X := by
  refine ⟨_, ⟨A, B, C, 0, -1, 1, 0, rfl, hB, .mk (by decide) (by decide), .mk (by decide) (by decide), .mk (by decide) (by decide), .mk (by decide) (by decide), rfl⟩, ?_⟩
  have e1 : val A B C 0 1 = C := by unfold val; grind
  have e2 : mid A B C 0 (-1) 1 0 = -B := by unfold mid; grind
  have e3 : val A B C (-1) 0 = A := by unfold val; grind
  rw [e1, e2, e3]
  exact h
theorem turned_norm {A B C k : Int} {R : PQ} {X : XQ} {μ : Mu} (hB : B64 B) (hk : B64 k) (h : R (f3 A (B + 2 * A * k) (A * k * k + B * k + C)) μ) : Stold_turned.run [f3 A B C, t4 1 k 0 1] μ R X := by
  refine ⟨_, ⟨A, B, C, 1, k, 0, 1, rfl, hB, .mk (by decide) (by decide), hk, .mk (by decide) (by decide), .mk (by decide) (by decide), rfl⟩, ?_⟩
  have e1 : val A B C 1 0 = A := by unfold val; grind
  have e2 : mid A B C 1 k 0 1 = B + 2 * A * k := by unfold mid; grind
  have e3 : val A B C k 1 = A * k * k + B * k + C := by unfold val; grind
  rw [e1, e2, e3]
  exact h
theorem then_step {p q r s e f g h : Int} {R : PQ} {X : XQ} {μ : Mu} (h1 : B64 e) (h2 : B64 f) (h3 : B64 g) (h4 : B64 h) (k : R (t4 (p * e + q * g) (p * f + q * h) (r * e + s * g) (r * f + s * h)) μ) : Stold_then.run [t4 p q r s, t4 e f g h] μ R X :=
  ⟨_, ⟨p, q, r, s, e, f, g, h, rfl, .inr ⟨h1, h2, h3, h4⟩, rfl⟩, k⟩
theorem to_swap (A B C : Int) : To A B C C (-B) A 0 (-1) 1 0 := by
  constructor <;> (try unfold val) <;> (try unfold mid) <;> grind
theorem to_norm (A B C k : Int) : To A B C A (B + 2 * A * k) (A * k * k + B * k + C) 1 k 0 1 := by
  constructor <;> (try unfold val) <;> (try unfold mid) <;> grind
theorem meas_swap1 {A B C : Int} (hC : 0 < C) (h : C < A) : meas C (-B) A < meas A B C := by
  unfold meas
  have : C.toNat < A.toNat := by omega
  have g1 : (if -C < -B ∧ -B ≤ C then (if C ≤ A then (if C = A ∧ -B < 0 then 1 else 0) else 2) else (if -B < 0 then 4 else 3)) ≤ 4 := by
    split <;> (try split) <;> (try split) <;> omega
  omega
theorem meas_swap2 {A B C : Int} (hA : 0 < A) (h : A = C) (hb : B < 0) : meas C (-B) A < meas A B C := by
  subst h
  unfold meas
  by_cases h1 : -A < B
  · rw [if_pos (⟨by omega, by omega⟩ : -A < -B ∧ -B ≤ A), if_pos (⟨h1, by omega⟩ : -A < B ∧ B ≤ A), if_pos (Int.le_refl A), if_pos (Int.le_refl A), if_neg (fun z => by omega), if_pos ⟨rfl, hb⟩]
    omega
  · rw [if_neg (fun z => h1 z.1 : ¬(-A < B ∧ B ≤ A)), if_pos hb]
    have g1 : (if -A < -B ∧ -B ≤ A then (if A ≤ A then (if A = A ∧ -B < 0 then 1 else 0) else 2) else (if -B < 0 then 4 else 3)) ≤ 3 := by
      split <;> (try split) <;> (try split) <;> omega
    omega
theorem meas_norm {A B C B' C' : Int} (h : ¬(-A < B ∧ B ≤ A)) (h1 : -A < B') (h2 : B' ≤ A) : meas A B' C' < meas A B C := by
  unfold meas
  rw [if_neg h, if_pos ⟨h1, h2⟩]
  have g1 : (if A ≤ C' then (if A = C' ∧ B' < 0 then 1 else 0) else 2) ≤ 2 := by
    split <;> (try split) <;> omega
  have g2 : 3 ≤ (if B < 0 then 4 else 3) := by split <;> omega
  omega
theorem divOk_small {j : Int} (h0 : 0 < j) (h1 : j < 18446744073709551616) : DivOk j := ⟨by omega, by
  have : (18446744073709551616 : Nat) ≤ 2 ^ 9000 := Nat.le_trans (by decide : 18446744073709551616 ≤ 2 ^ 64) (Nat.pow_le_pow_right (by decide) (by decide))
  omega⟩
theorem rd_told_least (ds : List D) (μ : Mu) (Q : PQ) (X : XQ) (hl : ds.length = 1) (h : Stold_least.run ds μ Q X) : wtold_least.run (bodyD Q X) (ev0 7 ds) μ := by
  obtain ⟨a, b, c, rfl, hb, hp, q⟩ := h
  unfold wtold_least
  walk_at "sq"
  refine wWhile_by (fun m ρ μ' => μ' = μ ∧ ∃ A B C p q r s e1 e2 e3 e4, ρ = [some (f3 a b c), some (f3 A B C), some (t4 p q r s), e1, e2, e3, e4] ∧ To a b c A B C p q r s ∧ Way a b c A B C ∧ meas A B C = m) _ ⟨rfl, a, b, c, 1, 0, 0, 1, none, none, none, none, rfl, .id, ⟨hp, by have := hb.2.1; omega, by have := hb.2.2.2.2.2; omega, rfl⟩, rfl⟩ ?_
  rintro m ρ μ' ⟨rfl, A, B, C, p, q', r, s, e1, e2, e3, e4, rfl, ht, hw, hm⟩
  walk_at "sq"
  refine ⟨_, ⟨A, B, C, rfl, rfl⟩, ?_⟩
  walk_at "sq"
  by_cases hred : Red A B C
  · rw [if_pos hred]
    exact .of (q A B C p q' r s ⟨ht, hred⟩)
  · rw [if_neg hred]
    have hA := hw.1.1
    have hC := hw.1.c
    have bB := hw.b
    have hB : B64 B := .mk (by omega) (by omega)
    have hA2 := hw.2.1
    have z0 : B64 0 := .mk (by decide) (by decide)
    have z1 : B64 1 := .mk (by decide) (by decide)
    have zm : B64 (-1) := .mk (by decide) (by decide)
    have hk := fdiv_abs (x := A - B) (y := 2 * A) (B := 30000000000000) (by omega) (by omega) (by omega) (by decide)
    have hkk := fdiv_bd (x := A - B) (y := 2 * A) (by omega)
    have kB : B64 ((A - B).fdiv (2 * A)) := .mk (by omega) (by omega)
    by_cases h1 : C < A
    · rw [if_pos h1]
      refine turned_swap hB (then_step z0 zm z1 z0 ⟨_, hm ▸ meas_swap1 (B := B) hC h1, rfl, _, _, _, _, _, _, _, _, _, _, _, rfl, ht.comp (to_swap A B C), way_swap hw, rfl⟩)
    · rw [if_neg h1]
      by_cases h2 : A = C ∧ B < 0
      · rw [if_pos h2.1, if_pos h2.2]
        refine turned_swap hB (then_step z0 zm z1 z0 ⟨_, hm ▸ meas_swap2 hA h2.1 h2.2, rfl, _, _, _, _, _, _, _, _, _, _, _, rfl, ht.comp (to_swap A B C), way_swap hw, rfl⟩)
      · have hn : ¬(-A < B ∧ B ≤ A) := fun ⟨g1, g2⟩ => hred ⟨g1, g2, by omega, by omega⟩
        have go : IntMulOk 2 A ∧ DivOk (2 * A) := ⟨mulOk_l (by decide) (by decide), divOk_small (by omega) (by omega)⟩
        by_cases h3 : A = C
        · rw [if_pos h3, if_neg (fun z => h2 ⟨h3, z⟩)]
          refine ⟨go.1, go.2, turned_norm hB kB (then_step z1 kB z0 z1 ⟨_, hm ▸ meas_norm (C := C) hn ?_ ?_, rfl, _, _, _, _, _, _, _, _, _, _, _, rfl, ht.comp (to_norm A B C _), way_norm hb hp hw ?_ ?_, rfl⟩)⟩ <;> omega
        · rw [if_neg h3]
          refine ⟨go.1, go.2, turned_norm hB kB (then_step z1 kB z0 z1 ⟨_, hm ▸ meas_norm (C := C) hn ?_ ?_, rfl, _, _, _, _, _, _, _, _, _, _, _, rfl, ht.comp (to_norm A B C _), way_norm hb hp hw ?_ ?_, rfl⟩)⟩ <;> omega
end K8

/-! k08: the readings, on. -/
namespace K8
open PySem PySem.Spec PyProof.Rows L2 Sq
local macro_rules | `(tactic| walk_at "sq") => `(tactic| simp only [wVar_run, wC_run, wOp_run, onBl_bl, gI_run, gAdd_int, gAdd_str, gAdd_tup, gMul_int, EqB_int, EqB_str, EqB_bl, gEq_run, gNe_run, wNeg_run, wNotV_run, wAndV_run, wOrV_run, wTB_run, wNotT_run, wAndT_run, wOrT_run, wIfE_run, runAll_nil, runAll_cons, wTup_run, wLst_run, gIx_tup, gIx_rls, gIx_str, gIx_ob, wB_run, fLen_tup, fLen_rls, fLen_str, fLen_ob, fAbs_int, fInt_int, fInt_bl, fTuple_tup, fTuple_ob, wIsi_run, wCall_run, wNext_run, wSeq_run, wBreak_run, wCont_run, wNever_run, wExpr_run, wRet_run, wRetN_run, wIf_run, gN_run, runGs_nil, runGs_cons, gT_run, gS_run, sIx_ob, wAsg_run, wSet_run, wPar_run, wPar3_run, wSeqI_run, fSeq_tup, fSeq_rls, fSeq_ob, wRng1_run, fRng1_int, wRng2_run, fRng2_int, wFor_run, wLc_run, wYes_run, onLst_ob, wMt_run, fAppend_run, fExtend_run, wAug_run, bodyD_nx, bodyD_rt, bodyD_ex, wNoP_run, onInt_int, wPart_run, fSl_tup, fSl_rls, fSl_str, fSl_ob, wSl_run, gIn_run, gNotIn_run, fSorted_ob, wLstRg1_run, wChainN_run, chainRun_last, chainRun_cons, spR_run,
  Sq.gSub, gFdiv, gMod, gLt, gLe, gGt, gGe, gAddI, gPowW, gLen_run, gAbs_run, gInt_run, gAll_run, gAny_run, gSum_run, gTuple_run, gList_run, gSorted_run, gRepr_run, gMax2_run, gMin2_run, gAppend_run, gExtend_run, CT.set_one, CT.set_many, CT.slots, setAll, wipeE, lcG_nil,
  List.getElem?_cons_zero, List.getElem?_cons_succ, List.getElem?_nil, Int.cast_ofNat_Int, List.set_cons_zero, List.set_cons_succ, List.length_cons, List.length_nil, ev0, List.map_cons, List.map_nil, List.cons_append, List.nil_append, List.replicate_succ, List.replicate_zero, Nat.reduceSub, Nat.reduceAdd, mset_same, decide_true, decide_false, if_true, if_false, ite_true, ite_false, Bool.false_eq_true, Bool.true_eq_false, reduceCtorEq, Bool.not_true, Bool.not_false, true_and, and_true, decide_eq_true_eq, Bool.not_eq_true', decide_eq_false_iff_not, ite_not, isA, atI_0, atI_1, atI_2, atI_3, atI_m4, ixN_0, ixN_1, ixN_30, ixN_31, ixN_32])
theorem rd_least_form (ds : List D) (μ : Mu) (Q : PQ) (X : XQ) (hl : ds.length = 1) (h : Sleast_form.run ds μ Q X) : wleast_form.run (bodyD Q X) (ev0 1 ds) μ := by
  obtain ⟨a, b, c, rfl, hb, hp, q⟩ := h
  unfold wleast_form
  walk_at "sq"
  refine ⟨_, ⟨a, b, c, rfl, hb, hp, rfl⟩, a, b, c, rfl, hb, hp, fun A B C p q' r s k => .of (q _ _ _ _ _ _ _ k)⟩
theorem rd_look_at_two (ds : List D) (μ : Mu) (Q : PQ) (X : XQ) (hl : ds.length = 2) (h : Slook_at_two.run ds μ Q X) : wlook_at_two.run (bodyD Q X) (ev0 2 ds) μ := by
  obtain ⟨r, ⟨a, b, c, d, e, f, rfl, h1, h2, h3, h4, rfl⟩, q⟩ := h
  unfold wlook_at_two
  walk_at "sq"
  exact ⟨_, ⟨a, b, c, rfl, h1, h2, rfl⟩, _, ⟨d, e, f, rfl, h3, h4, rfl⟩, .of q⟩
/-- a turn to a least form is not great -/
theorem lst_small {a b c A B C p q r s : Int} (hb : Bd a b c) (hp : Pos a b c) (k : Lst a b c A B C p q r s) : (-4000000000 < p ∧ p < 4000000000) ∧ (-4000000000 < q ∧ q < 4000000000) ∧ (-4000000000 < r ∧ r < 4000000000) ∧ (-4000000000 < s ∧ s < 4000000000) ∧ A ≤ 2000000 ∧ C ≤ 3000000000000 := by
  have hD := k.to.disc
  have hA := k.red.pos
  have h3 := red_D k.red hA
  have h0 : 1 ≤ 4 * a * c - b * b := by have := hp.2; omega
  have hbb := sq_nn b
  have hcp := hp.c
  have hac : a * c ≤ 1000000 * 1000000 := Int.mul_le_mul hb.2.1 hb.2.2.2.2.2 (Int.le_of_lt hcp) (by decide)
  have e1 : 4 * a * c = 4 * (a * c) := by rw [Int.mul_assoc]
  have hA2 : A ≤ 2000000 := by
    have := abs_le_of_sq (x := A) (y := 2000000) (by decide) (by omega)
    omega
  have hBB := red_b2 k.red
  have hAA : A * A ≤ 2000000 * 2000000 := sq_le (by omega) hA2
  have hAC : A * C ≤ 2000000000000 := by
    have e2 : 4 * A * C = 4 * (A * C) := by rw [Int.mul_assoc]
    omega
  have hC0 : 0 < C := k.red.ps.c
  have hC : C ≤ 3000000000000 := by
    have : 1 * C ≤ A * C := Int.mul_le_mul_of_nonneg_right (by omega) (Int.le_of_lt hC0)
    omega
  have key : ∀ {x n m v : Int}, (4 * a * c - b * b) * (x * x) ≤ 4 * m * v → 0 ≤ m → m ≤ 1000000 → 0 ≤ v → v ≤ 3000000000000 → -4000000000 < x ∧ x < 4000000000 := by
    intro x n m v h1 h2 h3 h4 h5
    have g1 : 1 * (x * x) ≤ (4 * a * c - b * b) * (x * x) := Int.mul_le_mul_of_nonneg_right h0 (sq_nn x)
    have g2 : m * v ≤ 1000000 * 3000000000000 := Int.mul_le_mul h3 h5 h4 (by decide)
    have e2 : 4 * m * v = 4 * (m * v) := by rw [Int.mul_assoc]
    have := abs_lt_of_sq (x := x) (y := 4000000000) (by decide) (by omega)
    exact this
  have vA := k.to.eA
  have vC := k.to.eC
  have hA0 := hp.1
  refine ⟨key (n := 0) (m := c) (v := A) ?_ (by omega) hb.2.2.2.2.2 (by omega) (by omega), key (n := 0) (m := c) (v := C) ?_ (by omega) hb.2.2.2.2.2 (by omega) (by omega), key (n := 0) (m := a) (v := A) ?_ (by omega) hb.2.1 (by omega) (by omega), key (n := 0) (m := a) (v := C) ?_ (by omega) hb.2.1 (by omega) (by omega), hA2, hC⟩
  · rw [← vA]; exact val_x
  · rw [← vC]; exact val_x
  · rw [← vA]; exact val_y
  · rw [← vC]; exact val_y
theorem okf3 (a b c : Int) : okD (f3 a b c) = true := okD_tupI [a, b, c]
theorem okt4 (a b c d : Int) : okD (t4 a b c d) = true := okD_tupI [a, b, c, d]
theorem rd_same_above (ds : List D) (μ : Mu) (Q : PQ) (X : XQ) (hl : ds.length = 2) (h : Ssame_above.run ds μ Q X) : wsame_above.run (bodyD Q X) (ev0 4 ds) μ := by
  obtain ⟨a, b, c, d, e, f, rfl, h1, h2, h3, h4, q⟩ := h
  unfold wsame_above
  walk_at "sq"
  refine ⟨_, ⟨a, b, c, d, e, f, rfl, h1, h2, h3, h4, rfl⟩, ?_⟩
  refine ⟨a, b, c, rfl, h1, h2, fun A B C p q' r s k => ⟨d, e, f, rfl, h3, h4, fun A' B' C' p' q'' r' s' k' => ?_⟩⟩
  walk_at "sq"
  have q := q _ _ _ _ _ _ _ _ _ _ _ _ _ _ k k'
  refine EqB_tup (okf3 A B C) (okf3 A' B' C') (fun e => ?_) fun e => ?_
  · walk_at "sq"
    injection e with e1 e; injection e with e2 e; injection e with e3 e
    injection e1 with e1; injection e2 with e2; injection e3 with e3
    obtain ⟨l1, l2, l3, l4, _⟩ := lst_small h1 h2 k
    refine ⟨_, ⟨p', q'', r', s', rfl, rfl⟩, _, ⟨p, q', r, s, s', -q'', -r', p', rfl, .inl ⟨.mk (by omega) (by omega), .mk (by omega) (by omega), .mk (by omega) (by omega), .mk (by omega) (by omega)⟩, rfl⟩, .of ?_⟩
    unfold sameD at q
    rw [if_pos ⟨e1, e2, e3⟩] at q
    exact q
  · walk_at "sq"
    unfold sameD at q
    rw [if_neg (fun ⟨g1, g2, g3⟩ => e (by rw [g1, g2, g3]))] at q
    exact .of q
theorem tn_tupI (t : Tn) : tnD t = tupI [t.1, t.2.1, t.2.2.1, t.2.2.2] := rfl
theorem tns_ok {ts : List Tn} : ∀ d ∈ ts.map tnD, ∃ x xs, d = tupI (x :: xs) := fun d hd => by
  obtain ⟨t, _, rfl⟩ := List.mem_map.mp hd
  exact ⟨_, _, tn_tupI t⟩
def ownA (a b c : Int) : List Tn := if b = 0 ∧ a = c then [(0, -1, 1, 0), (0, 1, -1, 0)] else []
def ownB (a b c : Int) : List Tn := if a = b ∧ b = c then [(0, -1, 1, 1), (0, 1, -1, -1), (1, 1, -1, 0), (-1, -1, 1, 0)] else []
def own0 : List Tn := [(1, 0, 0, 1), (-1, 0, 0, -1)]
theorem ownL_eq (a b c : Int) : ownL a b c = own0 ++ ownA a b c ++ ownB a b c := rfl
theorem rd_told_own (ds : List D) (μ : Mu) (Q : PQ) (X : XQ) (hl : ds.length = 1) (h : Stold_own.run ds μ Q X) : wtold_own.run (bodyD Q X) (ev0 7 ds) μ := by
  obtain ⟨a, b, c, rfl, q⟩ := h
  unfold wtold_own
  refine seq_by (fun ρ μ' => ρ = [some (f3 a b c), some (.int a), some (.int b), some (.int c), none, none, none] ∧ μ' = μ) ?_ ?_
  · walk_at "sq"
  rintro ρ μ' ⟨rfl, rfl⟩
  refine seq_by (fun ρ μ1 => ∃ p, ρ = [some (f3 a b c), some (.int a), some (.int b), some (.int c), some (.ob p), none, none] ∧ μ' p = none ∧ Ext μ' μ1 ∧ μ1 p = some (.lst (own0.map tnD))) ?_ ?_
  · walk_at "sq"
    exact fun p hp => ⟨p, rfl, hp, (Ext.refl _).new hp, mset_same _ _ _⟩
  rintro ρ μ1 ⟨p, rfl, hp, e1, h1⟩
  refine seq_by (fun ρ μ2 => ρ = [some (f3 a b c), some (.int a), some (.int b), some (.int c), some (.ob p), none, none] ∧ Ext μ' μ2 ∧ μ2 p = some (.lst ((own0 ++ ownA a b c).map tnD))) ?_ ?_
  · refine if_by (decide (b = 0 ∧ a = c)) ?_ (fun hk => ?_) fun hk => ?_
    · walk_at "sq"
      by_cases g1 : b = 0
      · rw [if_pos g1]
        by_cases g2 : a = c
        · rw [decide_eq_true g2, decide_eq_true ⟨g1, g2⟩]
        · rw [decide_eq_false g2, decide_eq_false (fun z => g2 z.2)]
      · rw [if_neg g1, decide_eq_false (fun z => g1 z.1)]
    · have hk := of_decide_eq_true hk
      walk_at "sq"
      rw [h1]
      dsimp only
      intro p1 hp1
      rw [at_new h1 hp1]
      refine ⟨by show 2 + 2 ≤ sizeLine; exact small_size (by decide), (e1.new hp1).set hp, ?_⟩
      rw [ownA, if_pos hk]
      rfl
    · have hk := of_decide_eq_false hk
      walk_at "sq"
      exact ⟨e1, by rw [h1, ownA, if_neg hk]; rfl⟩
  rintro ρ μ2 ⟨rfl, e2, h2⟩
  refine seq_by (fun ρ μ3 => ρ[4]? = some (some (.ob p)) ∧ Ext μ' μ3 ∧ μ3 p = some (.lst ((own0 ++ ownA a b c ++ ownB a b c).map tnD))) ?_ ?_
  · refine if_by (decide (a = b ∧ b = c)) ?_ (fun hk => ?_) fun hk => ?_
    · walk_at "sq"
      by_cases g1 : a = b
      · rw [if_pos g1]
        by_cases g2 : b = c
        · rw [decide_eq_true g2, decide_eq_true ⟨g1, g2⟩]
        · rw [decide_eq_false g2, decide_eq_false (fun z => g2 z.2)]
      · rw [if_neg g1, decide_eq_false (fun z => g1 z.1)]
    · have hk := of_decide_eq_true hk
      walk_at "sq"
      refine forW_by (fun i ρ μ3 => (∃ e5 e6, ρ = [some (f3 a b c), some (.int a), some (.int b), some (.int c), some (.ob p), e5, e6]) ∧ Ext μ' μ3 ∧ μ3 p = some (.lst ((own0 ++ ownA a b c ++ (ownB a b c).take (2 * i)).map tnD))) (fun _ _ _ _ _ => trivial) ?_ ?_ ⟨⟨_, _, rfl⟩, e2, by rw [h2]; simp⟩
      · rintro i d ρ μ3 hi ⟨⟨e5, e6, rfl⟩, e3, h3⟩
        have hlen : (own0 ++ ownA a b c).length ≤ 4 := by
          rw [ownA]; split <;> decide
        have key : ∀ (x y z u : Int), d = t4 x y z u → (ownB a b c).take (2 * (i + 1)) = (ownB a b c).take (2 * i) ++ [(x, y, z, u), (-x, -y, -z, -u)] → i < 2 → (gN 5).run d [some (f3 a b c), some (.int a), some (.int b), some (.int c), some (.ob p), e5, e6] μ3 (fun ρ1 μ1 => (wExpr (wMt gExtend (wVar 4) [wLst [wVar 5, wB gTuple [wLc (wSeqI (wVar 5)) (CT.one 6) (wYes) (wNeg (wVar 6))]]])).run (PD.turn { (bodyD Q X) with nx := fun ρ μ3 => ρ[4]? = some (some (.ob p)) ∧ Ext μ' μ3 ∧ μ3 p = some (.lst ((own0 ++ ownA a b c ++ ownB a b c).map tnD)) } fun ρ2 μ2 => (∃ e5 e6, ρ2 = [some (f3 a b c), some (.int a), some (.int b), some (.int c), some (.ob p), e5, e6]) ∧ Ext μ' μ2 ∧ μ2 p = some (.lst ((own0 ++ ownA a b c ++ (ownB a b c).take (2 * (i + 1))).map tnD))) ρ1 μ1) (fun ρ => SubX X) := by
          rintro x y z u rfl hB hi2
          walk_at "sq"
          rw [h3]
          dsimp only
          refine ⟨small_size (by decide), lcG_map (fun d => match d with | .int n => .int (-n) | _ => .non) trivial (fun d hd => ?_) fun p1 hp1 => ?_⟩
          · simp only [List.mem_cons, List.not_mem_nil, or_false] at hd
            rcases hd with rfl | rfl | rfl | rfl <;> exact ⟨_, rfl, by walk_at "sq"⟩
          · walk_at "sq"
            intro p2 hp2
            obtain ⟨n12, hp2'⟩ := mset_free hp2
            rw [at_new (at_new h3 hp1) hp2]
            refine ⟨?_, ⟨_, _, rfl⟩, ((e3.new hp1).new hp2).set hp, ?_⟩
            · rw [List.length_map, List.length_append, List.length_take]
              exact small_size (by omega)
            · rw [hB, ← List.append_assoc]
              simp only [List.map_append]
              rfl
        have hB4 : ownB a b c = [(0, -1, 1, 1), (0, 1, -1, -1), (1, 1, -1, 0), (-1, -1, 1, 0)] := by rw [ownB, if_pos hk]
        match i, hi with
        | 0, hi => cases hi; exact key 0 (-1) 1 1 rfl (by rw [hB4]; rfl) (by decide)
        | 1, hi => cases hi; exact key 1 1 (-1) 0 rfl (by rw [hB4]; rfl) (by decide)
      · rintro ρ μ3 ⟨⟨e5, e6, rfl⟩, e3, h3⟩
        refine ⟨rfl, e3, ?_⟩
        rw [h3]
        have hB4 : ownB a b c = [(0, -1, 1, 1), (0, 1, -1, -1), (1, 1, -1, 0), (-1, -1, 1, 0)] := by rw [ownB, if_pos hk]
        rw [hB4]; rfl
    · have hk := of_decide_eq_false hk
      walk_at "sq"
      exact ⟨e2, by rw [h2, ownB, if_neg hk]; simp⟩
  rintro ρ μ3 ⟨hρ, e3, h3⟩
  walk_at "sq"
  rw [hρ]
  dsimp only
  walk_at "sq"
  rw [h3]
  dsimp only
  rw [← ownL_eq]
  exact ⟨sortOk_ints tns_ok, fun p2 hp2 => .new e3 hp2 q⟩
theorem own_small {a b c : Int} : ∀ t ∈ ownL a b c, (B64 t.1 ∧ B64 t.2.1 ∧ B64 t.2.2.1 ∧ B64 t.2.2.2) := by
  intro t ht
  have z0 : B64 0 := .mk (by decide) (by decide)
  have z1 : B64 1 := .mk (by decide) (by decide)
  have zm : B64 (-1) := .mk (by decide) (by decide)
  rw [mem_own] at ht
  rcases ht with rfl | rfl | ⟨_, rfl | rfl⟩ | ⟨_, rfl | rfl | rfl | rfl⟩ <;> exact ⟨by assumption, by assumption, by assumption, by assumption⟩
theorem rd_own_turns (ds : List D) (μ : Mu) (Q : PQ) (X : XQ) (hl : ds.length = 1) (h : Sown_turns.run ds μ Q X) : wown_turns.run (bodyD Q X) (ev0 5 ds) μ := by
  obtain ⟨a, b, c, rfl, hb, hp, q⟩ := h
  unfold wown_turns
  walk_at "sq"
  refine ⟨_, ⟨a, b, c, rfl, hb, hp, rfl⟩, a, b, c, rfl, hb, hp, fun A B C p q' r s k => ?_⟩
  walk_at "sq"
  refine ⟨_, ⟨p, q', r, s, rfl, rfl⟩, ?_⟩
  refine ⟨A, B, C, rfl, fun l hl => ?_⟩
  walk_at "sq"
  obtain ⟨us, pu, eu⟩ : ∃ us : List Tn, us.Perm (ownL A B C) ∧ sortT (ownL A B C) = us.map tnD := by
    refine ⟨(ownL A B C).mergeSort (fun t u => leD (tnD t) (tnD u)), List.mergeSort_perm _ _, ?_⟩
    exact (List.map_mergeSort (r := fun t u => leD (tnD t) (tnD u)) (s := leD) (f := tnD) fun _ _ _ _ => rfl).symm
  rw [eu]
  obtain ⟨l1, l2, l3, l4, _⟩ := lst_small hb hp k
  have hlen : us.length ≤ 8 := by
    rw [pu.length_eq, ownL]
    split <;> split <;> decide
  refine ⟨small_size (by rw [List.length_map]; omega), lcG_map (fun d => match d with | .tup [.int e, .int f, .int g, .int h] => tnD (thenT (thenT (p, q', r, s) (e, f, g, h)) (backT (p, q', r, s))) | _ => .non) (mset_same _ _ _) (fun d hd => ?_) fun p1 hp1 => ?_⟩
  · obtain ⟨t, ht, rfl⟩ := List.mem_map.mp hd
    obtain ⟨b1, b2, b3, b4⟩ := own_small t (pu.mem_iff.mp ht)
    refine ⟨_, rfl, ?_⟩
    walk_at "sq"
    refine ⟨_, ⟨p, q', r, s, t.1, t.2.1, t.2.2.1, t.2.2.2, rfl, .inr ⟨b1, b2, b3, b4⟩, rfl⟩, _, ⟨_, _, _, _, s, -q', -r, p, rfl, .inr ⟨.mk (by omega) (by omega), .mk (by omega) (by omega), .mk (by omega) (by omega), .mk (by omega) (by omega)⟩, rfl⟩, rfl, rfl⟩
  · have e : List.map (fun d => match d with | .tup [.int e, .int f, .int g, .int h] => tnD (thenT (thenT (p, q', r, s) (e, f, g, h)) (backT (p, q', r, s))) | _ => .non) (us.map tnD) = (viaT (p, q', r, s) us).map tnD := by
      unfold viaT
      rw [List.map_map, List.map_map]
      rfl
    rw [e]
    refine ⟨sortOk_ints tns_ok, fun p2 hp2 => ?_⟩
    exact .ext (q _ _ _ _ _ _ _ us k pu) (((Ext.refl _).new hl).new hp1 |>.new hp2)
end K8

/-! k08: the harness. -/
namespace K8
open PySem PySem.Spec PyProof.Rows L2 Sq
local macro_rules | `(tactic| walk_at "sq") => `(tactic| simp only [wVar_run, wC_run, wOp_run, onBl_bl, gI_run, gAdd_int, gAdd_str, gAdd_tup, gMul_int, EqB_int, EqB_str, EqB_bl, gEq_run, gNe_run, wNeg_run, wNotV_run, wAndV_run, wOrV_run, wTB_run, wNotT_run, wAndT_run, wOrT_run, wIfE_run, runAll_nil, runAll_cons, wTup_run, wLst_run, gIx_tup, gIx_rls, gIx_str, gIx_ob, wB_run, fLen_tup, fLen_rls, fLen_str, fLen_ob, fAbs_int, fInt_int, fInt_bl, fTuple_tup, fTuple_ob, wIsi_run, wCall_run, wNext_run, wSeq_run, wBreak_run, wCont_run, wNever_run, wExpr_run, wRet_run, wRetN_run, wIf_run, gN_run, runGs_nil, runGs_cons, gT_run, gS_run, sIx_ob, wAsg_run, wSet_run, wPar_run, wPar3_run, wSeqI_run, fSeq_tup, fSeq_rls, fSeq_ob, wRng1_run, fRng1_int, wRng2_run, fRng2_int, wFor_run, wLc_run, wYes_run, onLst_ob, wMt_run, fAppend_run, fExtend_run, wAug_run, bodyD_nx, bodyD_rt, bodyD_ex, wNoP_run, onInt_int, wPart_run, fSl_tup, fSl_rls, fSl_str, fSl_ob, wSl_run, gIn_run, gNotIn_run, fSorted_ob, wLstRg1_run, wChainN_run, chainRun_last, chainRun_cons, spR_run,
  Sq.gSub, gFdiv, gMod, gLt, gLe, gGt, gGe, gAddI, gPowW, gLen_run, gAbs_run, gInt_run, gAll_run, gAny_run, gSum_run, gTuple_run, gList_run, gSorted_run, gRepr_run, gMax2_run, gMin2_run, gAppend_run, gExtend_run, CT.set_one, CT.set_many, CT.slots, setAll, wipeE, lcG_nil,
  List.getElem?_cons_zero, List.getElem?_cons_succ, List.getElem?_nil, Int.cast_ofNat_Int, List.set_cons_zero, List.set_cons_succ, List.length_cons, List.length_nil, ev0, List.map_cons, List.map_nil, List.cons_append, List.nil_append, List.replicate_succ, List.replicate_zero, Nat.reduceSub, Nat.reduceAdd, mset_same, decide_true, decide_false, if_true, if_false, ite_true, ite_false, Bool.false_eq_true, Bool.true_eq_false, reduceCtorEq, Bool.not_true, Bool.not_false, true_and, and_true, decide_eq_true_eq, Bool.not_eq_true', decide_eq_false_iff_not, ite_not, isA, atI_0, atI_1, atI_2, atI_3, atI_m4, ixN_0, ixN_1, ixN_30, ixN_31, ixN_32])
theorem fmod_bd {x y : Int} (hy : 0 < y) : 0 ≤ x.fmod y ∧ x.fmod y < y := by
  rw [Int.fmod_eq_emod_of_nonneg _ (Int.le_of_lt hy)]
  exact ⟨Int.emod_nonneg x (Int.ne_of_gt hy), Int.emod_lt_of_pos x hy⟩
theorem fdiv_nn {x y : Int} (hx : 0 ≤ x) (hy : 0 < y) : 0 ≤ x.fdiv y := by
  rw [Int.fdiv_eq_ediv_of_nonneg _ (Int.le_of_lt hy)]
  exact Int.ediv_nonneg hx (Int.le_of_lt hy)
theorem bigM : (0 : Int) < (10 ^ Int.toNat 60) ^ Int.toNat 5 := by decide +kernel
theorem pw1 : CPowW 10 60 := ⟨by decide, 4, by decide, by decide⟩
theorem pw2 : CPowW (10 ^ Int.toNat 60) 5 := ⟨by decide, 200, by decide +kernel, by decide⟩
theorem pw3 : CPowW 10 18 := ⟨by decide, 4, by decide, by decide⟩
theorem sum_take1 {ns : List Int} : ∃ ms : List Int, Sq.cutD (ns.map D.int) none (some 1) = ms.map D.int := by
  unfold Sq.cutD
  rw [← List.map_drop, ← List.map_take]
  exact ⟨_, rfl⟩
theorem rd_law_pot (ds : List D) (μ : Mu) (Q : PQ) (X : XQ) (hl : ds.length = 2) (h : S_law_pot.run ds μ Q X) : w_law_pot.run (bodyD Q X) (ev0 5 ds) μ := by
  obtain ⟨ns, k, rfl, hn, h0, h1, q⟩ := h
  unfold w_law_pot
  refine seq_by (fun ρ μ1 => ∃ v : Int, ρ = [some (.rls (ns.map D.int)), some (.int k), some (.int v), none, none] ∧ Ext μ μ1) ?_ ?_
  · walk_at "sq"
    rw [List.length_map]
    by_cases hk : k < (ns.length : Int)
    · rw [if_pos hk]
      obtain ⟨j, rfl⟩ := Int.eq_ofNat_of_zero_le h0
      have hj : j < ns.length := by omega
      rw [atI_nat (x := D.int ns[j]) (by rw [List.getElem?_map, List.getElem?_eq_getElem hj]; rfl)]
      exact ⟨_, rfl, Ext.refl _⟩
    · rw [if_neg hk]
      intro p hp
      obtain ⟨ms, e⟩ := sum_take1 (ns := ns)
      refine ⟨p, ms, rfl, by rw [mset_same, e], ?_⟩
      walk_at "sq"
      exact ⟨by decide, mulOk_l (by decide) (by decide), _, rfl, (Ext.refl _).new hp⟩
  rintro ρ μ1 ⟨v, rfl, e1⟩
  walk_at "sq"
  generalize hM : ((10 : Int) ^ Int.toNat 60) ^ Int.toNat 5 = M
  have hM0 : 0 < M := hM ▸ bigM
  generalize (if v < 0 then -v else v) = w
  have f1 := fmod_bd (x := w) hM0
  have f2 := fmod_bd (x := v.fmod 2305843009213693951 * 68213 + 11057 * k * k + 3019) (y := 2305843009213693921) (by decide)
  refine ⟨pw1, pw2, Int.ne_of_gt hM0, pw3, mulOk_r (by split <;> decide) (by split <;> decide), by decide, mulOk_r (by decide) (by decide), mulOk_l (by decide) (by decide), mulOk_r (by omega) (by omega), by decide, fun p hp => .new e1 hp fun p hp => q p _ hp (PotTo.of ?_ f2.1 (by omega) (by decide) (by decide))⟩
  split
  · rw [Int.mul_one]; exact f1.1
  · rw [Int.mul_zero]; exact Int.le_refl 0
theorem rd_law_take (ds : List D) (μ : Mu) (Q : PQ) (X : XQ) (hl : ds.length = 2) (h : S_law_take.run ds μ Q X) : w_law_take.run (bodyD Q X) (ev0 5 ds) μ := by
  obtain ⟨p, u, n, rfl, ⟨x, y, z, hp, hx, hy, hy2, hz, hz2⟩, hn, h0, h1, q⟩ := h
  unfold w_law_take
  have hdu : DivOk u := divOk_small h0 (by omega)
  refine seq_by (fun ρ μ1 => ρ = [some (.ob p), some (.int u), none, none, none] ∧ μ1 = μ) ?_ ?_
  · walk_at "sq"
    rw [hp]
    unfold potL
    walk_at "sq"
    by_cases hx0 : 0 < x
    · rw [if_pos hx0, hp]
      unfold potL
      walk_at "sq"
      refine ⟨Int.ne_of_gt h0, ?_⟩
      rw [hp]
      unfold potL
      walk_at "sq"
      refine ⟨hdu, ?_⟩
      rw [hp]
      unfold potL
      walk_at "sq"
      have f1 := fmod_bd (x := x) h0
      exact .of (q _ _ f1.1 f1.2 (PotTo.of (x := x.fdiv u) (y := y) (z := z) (fdiv_nn hx h0) hy hy2 hz (by omega)))
    · rw [if_neg hx0]
      trivial
  rintro ρ μ1 ⟨rfl, rfl⟩
  refine seq_by (fun ρ μ2 => ρ = [some (.ob p), some (.int u), none, none, none] ∧ μ2 = potS μ1 p x y (z + 1)) ?_ ?_
  · walk_at "sq"
    rw [hp]
    unfold potL
    walk_at "sq"
    rw [hp]
    unfold potL
    walk_at "sq"
    rfl
  rintro ρ μ2 ⟨rfl, rfl⟩
  have hpot : potS μ1 p x y (z + 1) p = some (.lst (potL x y (z + 1))) := mset_same _ _ _
  generalize hS : potS μ1 p x y (z + 1) = μ2
  rw [hS] at hpot
  refine seq_by (fun ρ μ3 => ∃ pr : Int, ρ = [some (.ob p), some (.int u), none, some (.int pr), none] ∧ 0 < pr ∧ pr ≤ 2147483647 ∧ Ext μ2 μ3) ?_ ?_
  · walk_at "sq"
    intro l hl
    rw [at_new hpot hl]
    unfold potL
    walk_at "sq"
    refine ⟨by decide, ?_⟩
    have f5 := fmod_bd (x := z + 1) (y := 5) (by decide)
    have hc : (z + 1).fmod 5 = 0 ∨ (z + 1).fmod 5 = 1 ∨ (z + 1).fmod 5 = 2 ∨ (z + 1).fmod 5 = 3 ∨ (z + 1).fmod 5 = 4 := by omega
    have e := (Ext.refl μ2).new (o := .lst [.int 2147483647, .int 2147483629, .int 2147483587, .int 2147483579, .int 2147483563]) hl
    rcases hc with hc | hc | hc | hc | hc <;> rw [hc] <;> exact ⟨_, rfl, by decide, by decide, e⟩
  rintro ρ μ3 ⟨pr, rfl, hpr, hpr2, e3⟩
  have hpot3 := e3 p _ hpot
  refine seq_by (fun ρ μ4 => ∃ b : Int, ρ = [some (.ob p), some (.int u), none, some (.int pr), some (.int b)] ∧ 0 ≤ b ∧ b < pr ∧ μ4 = μ3) ?_ ?_
  · walk_at "sq"
    rw [hpot3]
    unfold potL
    walk_at "sq"
    rw [hpot3]
    unfold potL
    walk_at "sq"
    have b1 := fmod_bd (x := (y + 97213 * (z + 1) * (z + 1) + 3671) ^ Int.toNat 3) hpr
    have zz : (z + 1) * (z + 1) ≤ 1000001 * 1000001 := Int.mul_le_mul (by omega) (by omega) (by omega) (by decide)
    have e : 97213 * (z + 1) * (z + 1) = 97213 * ((z + 1) * (z + 1)) := by rw [Int.mul_assoc]
    have zn : 0 ≤ (z + 1) * (z + 1) := Int.mul_nonneg (by omega) (by omega)
    have pw : CPowW (y + 97213 * (z + 1) * (z + 1) + 3671) 3 := ⟨by decide, 64, by omega, by decide⟩
    exact ⟨mulOk_l (by decide) (by decide), mulOk_r (by omega) (by omega), pw, Int.ne_of_gt hpr, _, rfl, b1.1, b1.2⟩
  rintro ρ μ4 ⟨b, rfl, hb, hb2, rfl⟩
  refine seq_by (fun ρ μ5 => ∃ b : Int, ρ = [some (.ob p), some (.int u), none, some (.int pr), some (.int b)] ∧ μ5 = μ4) ?_ ?_
  · walk_at "sq"
    rw [hpot3]
    unfold potL
    walk_at "sq"
    exact ⟨by decide, mulOk_l (by decide) (by decide), mulOk_l (by omega) (by omega), by decide, _, rfl⟩
  rintro ρ μ5 ⟨b', rfl, rfl⟩
  walk_at "sq"
  have f6 := fmod_bd (x := b'.fdiv 233) h0
  refine ⟨divOk_small (by decide) (by decide), Int.ne_of_gt h0, .ext (q _ _ f6.1 f6.2 ?_) e3⟩
  rw [← hS]
  exact PotTo.of hx hy hy2 (by omega) (by omega)
theorem rd_law_of (ds : List D) (μ : Mu) (Q : PQ) (X : XQ) (hl : ds.length = 2) (h : S_law_of.run ds μ Q X) : w_law_of.run (bodyD Q X) (ev0 2 ds) μ := by
  obtain ⟨p, l, n, xs, rfl, hp, hn, hx, hne, hlen, hlp, q⟩ := h
  unfold w_law_of
  walk_at "sq"
  rw [hx]
  dsimp only
  have h0 : 0 < xs.length := List.length_pos_iff.mpr hne
  refine ⟨p, xs.length, n, rfl, hp, hn, by omega, by omega, fun d μ' d0 d1 k => ?_⟩
  walk_at "sq"
  rw [k.2 l hlp, hx]
  dsimp only
  obtain ⟨j, rfl⟩ := Int.eq_ofNat_of_zero_le d0
  have hj : j < xs.length := by omega
  rw [atI_nat (x := xs[j]) (by simp [hj])]
  exact .of (q _ _ (List.getElem_mem hj) k)
theorem rd_law_cells (ds : List D) (μ : Mu) (Q : PQ) (X : XQ) (hl : ds.length = 2) (h : S_law_cells.run ds μ Q X) : w_law_cells.run (bodyD Q X) (ev0 2 ds) μ := by
  obtain ⟨ns, m, rfl, hn, h0, h1, q⟩ := h
  unfold w_law_cells
  walk_at "sq"
  rw [List.length_map]
  refine ⟨.of_le (by decide) ?_ (by decide) ?_, fun p hp => ?_⟩
  · split <;> split <;> omega
  · split <;> split <;> omega
  · refine .of (q p _ hp ?_)
    split <;> split <;> omega
theorem rd_law_is_int (ds : List D) (μ : Mu) (Q : PQ) (X : XQ) (hl : ds.length = 3) (h : S_law_is_int.run ds μ Q X) : w_law_is_int.run (bodyD Q X) (ev0 3 ds) μ := by
  obtain ⟨r, ⟨i, lo, hi, rfl, rfl⟩, q⟩ := h
  unfold w_law_is_int
  walk_at "sq"
  by_cases h1 : lo ≤ i
  · rw [if_pos h1]
    by_cases h2 : i ≤ hi
    · rw [decide_eq_true ⟨h1, h2⟩] at q; rw [decide_eq_true h2]; exact .of q
    · rw [decide_eq_false (fun z => h2 z.2)] at q; rw [decide_eq_false h2]; exact .of q
  · rw [if_neg h1]
    rw [decide_eq_false (fun z => h1 z.1)] at q; exact .of q
theorem rd_law_value (ds : List D) (μ : Mu) (Q : PQ) (X : XQ) (hl : ds.length = 3) (h : S_law_value.run ds μ Q X) : w_law_value.run (bodyD Q X) (ev0 3 ds) μ := by
  obtain ⟨r, ⟨a, b, c, x, y, rfl, hx, hy, rfl⟩, q⟩ := h
  unfold w_law_value
  walk_at "sq"
  exact ⟨hx.r, hx.r, hx.r, hy.r, hy.r, hy.r, .of q⟩
theorem rd_law_turned (ds : List D) (μ : Mu) (Q : PQ) (X : XQ) (hl : ds.length = 2) (h : S_law_turned.run ds μ Q X) : w_law_turned.run (bodyD Q X) (ev0 7 ds) μ := by
  obtain ⟨r, ⟨a, b, c, p, q', u, v, rfl, hb, hp, hq, hu, hv, rfl⟩, q⟩ := h
  unfold w_law_turned
  walk_at "sq"
  obtain ⟨p1, p2⟩ := hp
  obtain ⟨q1, q2⟩ := hq
  obtain ⟨u1, u2⟩ := hu
  obtain ⟨v1, v2⟩ := hv
  have Bp : B64 p := .mk (by omega) (by omega)
  have Bq : B64 q' := .mk (by omega) (by omega)
  have Bu : B64 u := .mk (by omega) (by omega)
  have Bv : B64 v := .mk (by omega) (by omega)
  refine ⟨_, ⟨a, b, c, _, _, rfl, .mk (by omega) (by omega), .mk (by omega) (by omega), rfl⟩, _, ⟨a, b, c, _, _, rfl, Bp, Bu, rfl⟩, ?_⟩
  walk_at "sq"
  refine ⟨_, ⟨a, b, c, _, _, rfl, Bq, Bv, rfl⟩, ?_⟩
  walk_at "sq"
  refine ⟨_, ⟨a, b, c, _, _, rfl, Bp, Bu, rfl⟩, _, ⟨a, b, c, _, _, rfl, Bq, Bv, rfl⟩, .of ?_⟩
  have e : val a b c (p + q') (u + v) - val a b c p u - val a b c q' v = mid a b c p q' u v := by unfold val mid; grind
  rw [e]
  exact q
theorem all4 {p q u v : Int} : (([D.int p, D.int q, D.int u, D.int v] : List D).map fun _ => D.bl true) = ([true, true, true, true] : List Bool).map D.bl := rfl
theorem rd_law_is_turn (ds : List D) (μ : Mu) (Q : PQ) (X : XQ) (hl : ds.length = 1) (h : S_law_is_turn.run ds μ Q X) : w_law_is_turn.run (bodyD Q X) (ev0 2 ds) μ := by
  obtain ⟨r, ⟨p, q', u, v, rfl, hp, hq, rfl⟩, q⟩ := h
  unfold w_law_is_turn
  walk_at "sq"
  refine ⟨small_size (by decide), lcG_map (fun _ => .bl true) trivial (fun d hd => ?_) fun l hl => ?_⟩
  · simp only [List.mem_cons, List.not_mem_nil, or_false] at hd
    rcases hd with rfl | rfl | rfl | rfl <;> exact ⟨_, rfl, by walk_at "sq"⟩
  · refine ⟨l, [true, true, true, true], rfl, mset_same _ _ _, ?_⟩
    walk_at "sq"
    exact ⟨hp.l, hq.l, .ext q ((Ext.refl _).new hl)⟩
theorem rd_law_then (ds : List D) (μ : Mu) (Q : PQ) (X : XQ) (hl : ds.length = 2) (h : S_law_then.run ds μ Q X) : w_law_then.run (bodyD Q X) (ev0 10 ds) μ := by
  obtain ⟨r, ⟨p, q', u, v, e, f, g, k, rfl, hb, rfl⟩, q⟩ := h
  unfold w_law_then
  walk_at "sq"
  rcases hb with ⟨h1, h2, h3, h4⟩ | ⟨h1, h2, h3, h4⟩
  · exact ⟨h1.l, h2.l, h1.l, h2.l, h3.l, h4.l, h3.l, h4.l, .of q⟩
  · exact ⟨h1.r, h3.r, h2.r, h4.r, h1.r, h3.r, h2.r, h4.r, .of q⟩
theorem rd_law_is_form (ds : List D) (μ : Mu) (Q : PQ) (X : XQ) (hl : ds.length = 1) (h : S_law_is_form.run ds μ Q X) : w_law_is_form.run (bodyD Q X) (ev0 2 ds) μ := by
  obtain ⟨r, ⟨a, b, c, rfl, rfl⟩, q⟩ := h
  unfold w_law_is_form
  walk_at "sq"
  have pw6 : CPowW 10 6 := ⟨by decide, 4, by decide, by decide⟩
  refine ⟨small_size (by decide), lcG_map (fun d => match d with | .int n => .bl (decide (-1000000 ≤ n ∧ n ≤ 1000000)) | _ => .non) trivial (fun d hd => ?_) fun l hl => ?_⟩
  · simp only [List.mem_cons, List.not_mem_nil, or_false] at hd
    rcases hd with rfl | rfl | rfl <;> exact ⟨_, rfl, by
      walk_at "sq"
      exact ⟨pw6, pw6, _, ⟨_, _, _, rfl, rfl⟩, rfl, rfl⟩⟩
  · refine ⟨l, [decide (-1000000 ≤ a ∧ a ≤ 1000000), decide (-1000000 ≤ b ∧ b ≤ 1000000), decide (-1000000 ≤ c ∧ c ≤ 1000000)], rfl, mset_same _ _ _, ?_⟩
    have e : ([decide (-1000000 ≤ a ∧ a ≤ 1000000), decide (-1000000 ≤ b ∧ b ≤ 1000000), decide (-1000000 ≤ c ∧ c ≤ 1000000)] : List Bool).all id = decide (Bd a b c) := by
      rw [Bool.eq_iff_iff]
      simp only [List.all_cons, List.all_nil, id_eq, Bool.and_true, Bool.and_eq_true, decide_eq_true_eq]
      unfold Bd
      omega
    rw [e]
    exact .ext q ((Ext.refl _).new hl)
theorem rd_law_is_least (ds : List D) (μ : Mu) (Q : PQ) (X : XQ) (hl : ds.length = 1) (h : S_law_is_least.run ds μ Q X) : w_law_is_least.run (bodyD Q X) (ev0 4 ds) μ := by
  obtain ⟨r, ⟨a, b, c, rfl, rfl⟩, q⟩ := h
  unfold w_law_is_least
  walk_at "sq"
  exact dec_red (P := fun z => SubQ Q (.bl z) μ) (.of q)
theorem le_sq {x : Int} (h : 0 ≤ x) : x ≤ x * x := by
  rcases Int.lt_or_le x 1 with g | g
  · have : x = 0 := by omega
    subst this; decide
  · have : x * 1 ≤ x * x := Int.mul_le_mul_of_nonneg_left g h
    omega
theorem rd_law_root (ds : List D) (μ : Mu) (Q : PQ) (X : XQ) (hl : ds.length = 1) (h : S_law_root.run ds μ Q X) : w_law_root.run (bodyD Q X) (ev0 4 ds) μ := by
  obtain ⟨n, rfl, h0, h1, q⟩ := h
  unfold w_law_root
  refine seq_by (fun ρ μ1 => ρ = [some (.int n), some (.int 0), some (.int 1), none] ∧ μ1 = μ) (by walk_at "sq") ?_
  rintro ρ μ1 ⟨rfl, rfl⟩
  refine seq_by (fun ρ μ2 => ∃ hi : Int, ρ = [some (.int n), some (.int 0), some (.int hi), none] ∧ 1 ≤ hi ∧ n < hi * hi ∧ hi ≤ 4 * n + 4 ∧ μ2 = μ1) ?_ ?_
  · refine wWhile_by (fun m ρ μ2 => ∃ hi : Int, ρ = [some (.int n), some (.int 0), some (.int hi), none] ∧ 1 ≤ hi ∧ hi * hi ≤ 4 * n + 4 ∧ m = (4 * n + 5 - hi).toNat ∧ μ2 = μ1) _ ⟨1, rfl, by decide, by omega, rfl, rfl⟩ ?_
    rintro m ρ μ2 ⟨hi, rfl, g1, g2, rfl, rfl⟩
    have g3 := le_sq (x := hi) (by omega)
    walk_at "sq"
    refine ⟨mulOk_l (by omega) (by omega), ?_⟩
    by_cases g4 : hi * hi ≤ n
    · rw [if_pos g4]
      have e : hi * 2 * (hi * 2) = 4 * (hi * hi) := by grind
      exact ⟨mulOk_r (by decide) (by decide), _, by omega, _, rfl, by omega, by omega, rfl⟩
    · rw [if_neg g4]
      exact ⟨hi, rfl, g1, by omega, by omega⟩
  rintro ρ μ2 ⟨hi, rfl, g1, g2, g3, rfl⟩
  refine seq_by (fun ρ μ3 => ∃ lo hi : Int, ∃ e, ρ = [some (.int n), some (.int lo), some (.int hi), e] ∧ 0 ≤ lo ∧ lo * lo ≤ n ∧ n < (lo + 1) * (lo + 1) ∧ μ3 = μ2) ?_ ?_
  · refine wWhile_by (fun m ρ μ3 => ∃ lo hi : Int, ∃ e, ρ = [some (.int n), some (.int lo), some (.int hi), e] ∧ 0 ≤ lo ∧ lo < hi ∧ lo * lo ≤ n ∧ n < hi * hi ∧ hi ≤ 4 * n + 4 ∧ m = (hi - lo).toNat ∧ μ3 = μ2) _ ⟨0, hi, none, rfl, by decide, by omega, by simpa using h0, g2, g3, rfl, rfl⟩ ?_
    rintro m ρ μ3 ⟨lo, hi, e, rfl, k1, k2, k3, k4, k5, rfl, rfl⟩
    walk_at "sq"
    by_cases k6 : 1 < hi - lo
    · rw [if_pos k6]
      obtain ⟨f1, f2⟩ := fdiv_bd (x := lo + hi) (y := 2) (by decide)
      refine ⟨divOk_small (by decide) (by decide), mulOk_l (by omega) (by omega), ?_⟩
      by_cases k7 : (lo + hi).fdiv 2 * (lo + hi).fdiv 2 ≤ n
      · rw [if_pos k7]
        exact ⟨_, by omega, _, _, _, rfl, by omega, by omega, k7, k4, k5, rfl⟩
      · rw [if_neg k7]
        exact ⟨_, by omega, _, _, _, rfl, k1, by omega, k3, by omega, by omega, rfl⟩
    · rw [if_neg k6]
      obtain rfl : hi = lo + 1 := by omega
      exact ⟨lo, _, e, rfl, k1, k3, k4⟩
  rintro ρ μ3 ⟨lo, hi, e, rfl, k1, k2, k3, rfl⟩
  walk_at "sq"
  exact .of (q lo k1 k2 k3)
end K8

/-! k08: the harness, drawn things and letters. -/
namespace K8
open PySem PySem.Spec PyProof.Rows L2 Sq
local macro_rules | `(tactic| walk_at "sq") => `(tactic| simp only [wVar_run, wC_run, wOp_run, onBl_bl, gI_run, gAdd_int, gAdd_str, gAdd_tup, gMul_int, EqB_int, EqB_str, EqB_bl, gEq_run, gNe_run, wNeg_run, wNotV_run, wAndV_run, wOrV_run, wTB_run, wNotT_run, wAndT_run, wOrT_run, wIfE_run, runAll_nil, runAll_cons, wTup_run, wLst_run, gIx_tup, gIx_rls, gIx_str, gIx_ob, wB_run, fLen_tup, fLen_rls, fLen_str, fLen_ob, fAbs_int, fInt_int, fInt_bl, fTuple_tup, fTuple_ob, wIsi_run, wCall_run, wNext_run, wSeq_run, wBreak_run, wCont_run, wNever_run, wExpr_run, wRet_run, wRetN_run, wIf_run, gN_run, runGs_nil, runGs_cons, gT_run, gS_run, sIx_ob, wAsg_run, wSet_run, wPar_run, wPar3_run, wSeqI_run, fSeq_tup, fSeq_rls, fSeq_ob, wRng1_run, fRng1_int, wRng2_run, fRng2_int, wFor_run, wLc_run, wYes_run, onLst_ob, wMt_run, fAppend_run, fExtend_run, wAug_run, bodyD_nx, bodyD_rt, bodyD_ex, wNoP_run, onInt_int, wPart_run, fSl_tup, fSl_rls, fSl_str, fSl_ob, wSl_run, gIn_run, gNotIn_run, fSorted_ob, wLstRg1_run, wChainN_run, chainRun_last, chainRun_cons, spR_run,
  Sq.gSub, gFdiv, gMod, gLt, gLe, gGt, gGe, gAddI, gPowW, gLen_run, gAbs_run, gInt_run, gAll_run, gAny_run, gSum_run, gTuple_run, gList_run, gSorted_run, gRepr_run, gMax2_run, gMin2_run, gAppend_run, gExtend_run, CT.set_one, CT.set_many, CT.slots, setAll, wipeE, lcG_nil,
  List.getElem?_cons_zero, List.getElem?_cons_succ, List.getElem?_nil, Int.cast_ofNat_Int, List.set_cons_zero, List.set_cons_succ, List.length_cons, List.length_nil, ev0, List.map_cons, List.map_nil, List.cons_append, List.nil_append, List.replicate_succ, List.replicate_zero, Nat.reduceSub, Nat.reduceAdd, mset_same, decide_true, decide_false, if_true, if_false, ite_true, ite_false, Bool.false_eq_true, Bool.true_eq_false, reduceCtorEq, Bool.not_true, Bool.not_false, true_and, and_true, decide_eq_true_eq, Bool.not_eq_true', decide_eq_false_iff_not, ite_not, isA, atI_0, atI_1, atI_2, atI_3, atI_m4, ixN_0, ixN_1, ixN_30, ixN_31, ixN_32])
theorem rd_law_turn_drawn (ds : List D) (μ : Mu) (Q : PQ) (X : XQ) (hl : ds.length = 1) (h : S_law_turn_drawn.run ds μ Q X) : w_law_turn_drawn.run (bodyD Q X) (ev0 4 ds) μ := by
  obtain ⟨p, n, rfl, hp, hn, q⟩ := h
  unfold w_law_turn_drawn
  refine seq_by (fun ρ μ1 => ρ = [some (.ob p), some (t4 1 0 0 1), none, none] ∧ μ1 = μ) (by walk_at "sq") ?_
  rintro ρ μ1 ⟨rfl, rfl⟩
  refine seq_by (fun ρ μ2 => ∃ a b c d e2 e3, ρ = [some (.ob p), some (t4 a b c d), e2, e3] ∧ a * d - b * c = 1 ∧ Small a ∧ Small b ∧ Small c ∧ Small d ∧ PotX (n + 20) μ1 μ2 p) ?_ ?_
  · walk_at "sq"
    refine ⟨p, 6, n, rfl, hp, by omega, by decide, by decide, fun k μ2 k0 k1 hk => ?_⟩
    walk_at "sq"
    refine ⟨by omega, by omega, ?_⟩
    refine forW_by (fun i ρ μ3 => ∃ a b c d e2 e3, ρ = [some (.ob p), some (t4 a b c d), e2, e3] ∧ a * d - b * c = 1 ∧ (-(4 ^ i) ≤ a ∧ a ≤ 4 ^ i) ∧ (-(4 ^ i) ≤ b ∧ b ≤ 4 ^ i) ∧ (-(4 ^ i) ≤ c ∧ c ≤ 4 ^ i) ∧ (-(4 ^ i) ≤ d ∧ d ≤ 4 ^ i) ∧ PotX (n + 1 + 2 * i) μ1 μ3 p) (fun _ _ _ _ _ => trivial) ?_ ?_ ⟨1, 0, 0, 1, _, _, rfl, by decide, by decide, by decide, by decide, by decide, hk.x⟩
    · rintro i x ρ μ3 hi ⟨a, b, c, d, e2, e3, rfl, hdet, ha, hb, hc, hd, hx⟩
      obtain ⟨hi2, rfl⟩ := rangeD_get hi
      have hi5 : i < 5 := by omega
      walk_at "sq"
      refine ⟨p, 7, n + 1 + 2 * i, rfl, hx.1, by omega, by decide, by decide, fun st μ4 s0 s1 hst => ?_⟩
      walk_at "sq"
      intro l hl
      have hx4 := hx.step hst
      refine ⟨p, l, n + 1 + 2 * i + 1, _, rfl, hx4.1.new hl, by omega, mset_same _ _ _, by simp, by simp, fun z => hx4.1.ne hl z.symm, fun u μ5 hu hto => ?_⟩
      have hx5 := (hx4.new hl).step hto
      have p4 : (4 : Int) ^ (i + 1) = 4 * 4 ^ i := by rw [Int.pow_succ, Int.mul_comm]
      have pm : (4 : Int) ^ i ≤ 1024 := by
        have : i = 0 ∨ i = 1 ∨ i = 2 ∨ i = 3 ∨ i = 4 := by omega
        rcases this with rfl | rfl | rfl | rfl | rfl <;> decide
      have st7 : st - 3 = -3 ∨ st - 3 = -2 ∨ st - 3 = -1 ∨ st - 3 = 0 ∨ st - 3 = 1 ∨ st - 3 = 2 ∨ st - 3 = 3 := by omega
      have fin : ∀ e f g k : Int, u = t4 e f g k → e * k - f * g = 1 → B64 e → B64 f → B64 g → B64 k → (-(4 ^ (i + 1)) ≤ a * e + b * g ∧ a * e + b * g ≤ 4 ^ (i + 1)) → (-(4 ^ (i + 1)) ≤ a * f + b * k ∧ a * f + b * k ≤ 4 ^ (i + 1)) → (-(4 ^ (i + 1)) ≤ c * e + d * g ∧ c * e + d * g ≤ 4 ^ (i + 1)) → (-(4 ^ (i + 1)) ≤ c * f + d * k ∧ c * f + d * k ≤ 4 ^ (i + 1)) →
          S_law_then.run [t4 a b c d, u] μ5 (fun d μ1_1 => ∃ a b c d_1 e2_1 e3, [some (D.ob p), some d, some (.int (0 + (i : Nat))), some (.int (st - 3))] = [some (D.ob p), some (t4 a b c d_1), e2_1, e3] ∧ a * d_1 - b * c = 1 ∧ (-(4 ^ (i + 1)) ≤ a ∧ a ≤ 4 ^ (i + 1)) ∧ (-(4 ^ (i + 1)) ≤ b ∧ b ≤ 4 ^ (i + 1)) ∧ (-(4 ^ (i + 1)) ≤ c ∧ c ≤ 4 ^ (i + 1)) ∧ (-(4 ^ (i + 1)) ≤ d_1 ∧ d_1 ≤ 4 ^ (i + 1)) ∧ PotX (n + 1 + 2 * (i + 1)) μ1 μ1_1 p) (SubX X) := by
        intro e f g k hu2 dt b1 b2 b3 b4 c1 c2 c3 c4
        subst hu2
        refine ⟨_, ⟨a, b, c, d, e, f, g, k, rfl, .inr ⟨b1, b2, b3, b4⟩, rfl⟩, _, _, _, _, _, _, rfl, ?_, c1, c2, c3, c4, hx5⟩
        have : (a * d - b * c) * (e * k - f * g) = 1 := by rw [hdet, dt]; rfl
        grind
      have z0 : B64 0 := .mk (by decide) (by decide)
      have z1 : B64 1 := .mk (by decide) (by decide)
      have zm : B64 (-1) := .mk (by decide) (by decide)
      have zs : B64 (st - 3) := .mk (by omega) (by omega)
      simp only [List.mem_cons, List.not_mem_nil, or_false] at hu
      generalize st - 3 = w at *
      rcases hu with rfl | rfl | rfl
      · refine fin 1 w 0 1 rfl (by omega) z1 zs z0 z1 ?_ ?_ ?_ ?_ <;> rcases st7 with rfl | rfl | rfl | rfl | rfl | rfl | rfl <;> omega
      · refine fin 1 0 w 1 rfl (by omega) z1 z0 zs z1 ?_ ?_ ?_ ?_ <;> rcases st7 with rfl | rfl | rfl | rfl | rfl | rfl | rfl <;> omega
      · refine fin 0 (-1) 1 0 rfl (by decide) z0 zm z1 z0 ?_ ?_ ?_ ?_ <;> omega
    · rintro ρ μ3 ⟨a, b, c, d, e2, e3, rfl, hdet, ha, hb, hc, hd, hx⟩
      rw [rangeD_len] at *
      have hk5 : k.toNat ≤ 5 := by omega
      have pm : (4 : Int) ^ k.toNat ≤ 1024 := by
        have : k.toNat = 0 ∨ k.toNat = 1 ∨ k.toNat = 2 ∨ k.toNat = 3 ∨ k.toNat = 4 ∨ k.toNat = 5 := by omega
        rcases this with h | h | h | h | h | h <;> rw [h] <;> decide
      exact ⟨a, b, c, d, e2, e3, rfl, hdet, ⟨by omega, by omega⟩, ⟨by omega, by omega⟩, ⟨by omega, by omega⟩, ⟨by omega, by omega⟩, hx.mono (by omega)⟩
  rintro ρ μ2 ⟨a, b, c, d, e2, e3, rfl, hdet, ha, hb, hc, hd, hx⟩
  walk_at "sq"
  exact hx.sub fun μ'' h => q a b c d μ'' hdet ha hb hc hd h
theorem rd_law_above_drawn (ds : List D) (μ : Mu) (Q : PQ) (X : XQ) (hl : ds.length = 2) (h : S_law_above_drawn.run ds μ Q X) : w_law_above_drawn.run (bodyD Q X) (ev0 5 ds) μ := by
  obtain ⟨p, m, n, rfl, hp, hn, h0, h1, q⟩ := h
  unfold w_law_above_drawn
  walk_at "sq"
  refine ⟨p, m, n, rfl, hp, by omega, h0, by omega, fun a μ1 a0 a1 k1 => ?_⟩
  walk_at "sq"
  refine ⟨p, m, n + 1, rfl, k1.1, by omega, h0, by omega, fun c μ2 c0 c1 k2 => ?_⟩
  walk_at "sq"
  have hac : (1 + a) * (1 + c) ≤ 100000 * 100000 := Int.mul_le_mul (by omega) (by omega) (by omega) (by decide)
  have hac0 : 1 * 1 ≤ (1 + a) * (1 + c) := Int.mul_le_mul (by omega) (by omega) (by decide) (by omega)
  have e : 4 * (1 + a) * (1 + c) = 4 * ((1 + a) * (1 + c)) := by rw [Int.mul_assoc]
  refine ⟨mulOk_l (by decide) (by decide), mulOk_l (by omega) (by omega), _, rfl, by omega, by omega, fun r r0 r1 r2 => ?_⟩
  walk_at "sq"
  have hr := abs_le_of_sq (x := r) (y := 200000) (by decide) (by omega)
  refine ⟨mulOk_l (by decide) (by decide), p, _, n + 2, rfl, k2.1, by omega, by omega, by omega, fun b μ3 b0 b1 k3 => ?_⟩
  walk_at "sq"
  refine .of (q _ _ _ μ3 (by omega) (by omega) (by omega) (by omega) ?_ ((k1.trans k2).trans k3))
  have := sq_le (x := b - r) (y := r) (by omega) (by omega)
  omega
end K8

/-! k08: the harness, going through letters. -/
namespace K8
open PySem PySem.Spec PyProof.Rows L2 Sq
local macro_rules | `(tactic| walk_at "sq") => `(tactic| simp only [wVar_run, wC_run, wOp_run, onBl_bl, gI_run, gAdd_int, gAdd_str, gAdd_tup, gMul_int, EqB_int, EqB_str, EqB_bl, gEq_run, gNe_run, wNeg_run, wNotV_run, wAndV_run, wOrV_run, wTB_run, wNotT_run, wAndT_run, wOrT_run, wIfE_run, runAll_nil, runAll_cons, wTup_run, wLst_run, gIx_tup, gIx_rls, gIx_str, gIx_ob, wB_run, fLen_tup, fLen_rls, fLen_str, fLen_ob, fAbs_int, fInt_int, fInt_bl, fTuple_tup, fTuple_ob, wIsi_run, wCall_run, wNext_run, wSeq_run, wBreak_run, wCont_run, wNever_run, wExpr_run, wRet_run, wRetN_run, wIf_run, gN_run, runGs_nil, runGs_cons, gT_run, gS_run, sIx_ob, wAsg_run, wSet_run, wPar_run, wPar3_run, wSeqI_run, fSeq_tup, fSeq_rls, fSeq_ob, wRng1_run, fRng1_int, wRng2_run, fRng2_int, wFor_run, wLc_run, wYes_run, onLst_ob, wMt_run, fAppend_run, fExtend_run, wAug_run, bodyD_nx, bodyD_rt, bodyD_ex, wNoP_run, onInt_int, wPart_run, fSl_tup, fSl_rls, fSl_str, fSl_ob, wSl_run, gIn_run, gNotIn_run, fSorted_ob, wLstRg1_run, wChainN_run, chainRun_last, chainRun_cons, spR_run,
  Sq.gSub, gFdiv, gMod, gLt, gLe, gGt, gGe, gAddI, gPowW, gLen_run, gAbs_run, gInt_run, gAll_run, gAny_run, gSum_run, gTuple_run, gList_run, gSorted_run, gRepr_run, gMax2_run, gMin2_run, gAppend_run, gExtend_run, CT.set_one, CT.set_many, CT.slots, setAll, wipeE, lcG_nil,
  List.getElem?_cons_zero, List.getElem?_cons_succ, List.getElem?_nil, Int.cast_ofNat_Int, List.set_cons_zero, List.set_cons_succ, List.length_cons, List.length_nil, ev0, List.map_cons, List.map_nil, List.cons_append, List.nil_append, List.replicate_succ, List.replicate_zero, Nat.reduceSub, Nat.reduceAdd, mset_same, decide_true, decide_false, if_true, if_false, ite_true, ite_false, Bool.false_eq_true, Bool.true_eq_false, reduceCtorEq, Bool.not_true, Bool.not_false, true_and, and_true, decide_eq_true_eq, Bool.not_eq_true', decide_eq_false_iff_not, ite_not, isA, atI_0, atI_1, atI_2, atI_3, atI_m4, ixN_0, ixN_1, ixN_30, ixN_31, ixN_32])
theorem disc3 {a b c : Int} (h : b * b < 4 * a * c) : 3 ≤ 4 * a * c - b * b := by
  have e : 4 * a * c = 4 * (a * c) := by rw [Int.mul_assoc]
  have k2 : b % 2 = 0 ∨ b % 2 = 1 := by omega
  rcases k2 with k | k
  · have : b = 2 * (b / 2) := by omega
    generalize b / 2 = z at this
    subst this
    have : 2 * z * (2 * z) = 4 * (z * z) := by grind
    omega
  · have : b = 2 * (b / 2) + 1 := by omega
    generalize b / 2 = z at this
    subst this
    have : (2 * z + 1) * (2 * z + 1) = 4 * (z * z + z) + 1 := by grind
    omega
/-- the letters lie within the law's own bounds -/
theorem le_root {D m x r : Int} (hD : 0 < D) (h : D * (x * x) ≤ m) (hr : m.fdiv D < (r + 1) * (r + 1)) (h0 : 0 ≤ r) : -r ≤ x ∧ x ≤ r := by
  have h1 := (fdiv_bd (x := m) hD).2
  have h2 : x * x ≤ m.fdiv D := by
    rcases Int.lt_or_le (m.fdiv D) (x * x) with g | g
    · have : D * (m.fdiv D + 1) ≤ D * (x * x) := Int.mul_le_mul_of_nonneg_left (by omega) (Int.le_of_lt hD)
      have e : D * (m.fdiv D + 1) = D * m.fdiv D + D := by grind
      omega
    · exact g
  have := abs_lt_of_sq (x := x) (y := r + 1) (by omega) (by omega)
  omega
theorem root_small {D m r : Int} (hD : 3 ≤ D) (hm : 0 ≤ m) (h : m ≤ 1024) (h0 : 0 ≤ r) (hr : r * r ≤ m.fdiv D) : r ≤ 18 := by
  have h1 := (fdiv_bd (x := m) (y := D) (by omega)).1
  have h3 := fdiv_nn (x := m) (y := D) hm (by omega)
  have h2 : 3 * m.fdiv D ≤ D * m.fdiv D := Int.mul_le_mul_of_nonneg_right hD h3
  rcases Int.lt_or_le 18 r with g | g
  · have := sq_le (x := 19) (y := r) (by omega) (by omega)
    omega
  · exact g
def row (a b c n lo y : Int) (cnt : Nat) : List (Int × Int) := (List.range cnt).filterMap fun j => if val a b c (lo + (j : Nat)) y = n then some (lo + (j : Nat), y) else none
theorem mem_row {a b c n lo y : Int} {cnt : Nat} {x y' : Int} : (x, y') ∈ row a b c n lo y cnt ↔ y' = y ∧ val a b c x y = n ∧ lo ≤ x ∧ x < lo + cnt := by
  unfold row
  rw [List.mem_filterMap]
  constructor
  · rintro ⟨j, hj, e⟩
    rw [List.mem_range] at hj
    split at e
    · rename_i hv
      cases e
      exact ⟨rfl, hv, by omega, by omega⟩
    · cases e
  · rintro ⟨rfl, hv, h1, h2⟩
    refine ⟨(x - lo).toNat, by rw [List.mem_range]; omega, ?_⟩
    have e : lo + ((x - lo).toNat : Int) = x := by omega
    rw [e, if_pos hv]
theorem row_nodup {a b c n lo y : Int} {cnt : Nat} : (row a b c n lo y cnt).Nodup := by
  unfold row
  rw [List.Nodup, List.pairwise_filterMap]
  refine List.Pairwise.imp (fun {i j} hij z e1 u e2 => ?_) (List.nodup_range (n := cnt))
  split at e1
  · split at e2
    · cases e1; cases e2
      intro e
      injection e with e
      omega
    · cases e2
  · cases e1
theorem row_len {a b c n lo y : Int} {cnt : Nat} : (row a b c n lo y cnt).length ≤ cnt := by
  unfold row
  refine Nat.le_trans (List.length_filterMap_le _ _) ?_
  rw [List.length_range]
  exact Nat.le_refl _
abbrev prD (z : Int × Int) : D := t2 z.1 z.2
theorem row_run {a b c n lo y : Int} {cnt : Nat} : (rangeD lo cnt).filterMap (fun d => match d with | .int x => if val a b c x y = n then some (t2 x y) else none | _ => none) = (row a b c n lo y cnt).map prD := by
  unfold rangeD row
  rw [List.filterMap_map, List.map_filterMap]
  congr 1
  funext j
  show (if val a b c (lo + (j : Nat)) y = n then some (t2 (lo + (j : Nat)) y) else none) = Option.map prD (if val a b c (lo + (j : Nat)) y = n then some (lo + (j : Nat), y) else none)
  split <;> rfl
theorem rd_law_letters (ds : List D) (μ : Mu) (Q : PQ) (X : XQ) (hl : ds.length = 2) (h : S_law_letters.run ds μ Q X) : w_law_letters.run (bodyD Q X) (ev0 10 ds) μ := by
  obtain ⟨a, b, c, n, rfl, ⟨a0, a1, c0, c1, hd, n0, n1⟩, q⟩ := h
  unfold w_law_letters
  have hD := disc3 hd
  refine seq_by (fun ρ μ1 => ρ = [some (f3 a b c), some (.int n), some (.int a), some (.int b), some (.int c), none, none, none, none, none] ∧ μ1 = μ) (by walk_at "sq") ?_
  rintro ρ μ1 ⟨rfl, rfl⟩
  have hb := abs_le_of_sq (x := b) (y := 8) (by decide) (by
    have : a * c ≤ 4 * 4 := Int.mul_le_mul a1 c1 (by omega) (by decide)
    have e : 4 * a * c = 4 * (a * c) := by rw [Int.mul_assoc]
    omega)
  generalize hDD : 4 * a * c - b * b = Dd at *
  refine seq_by (fun ρ μ2 => ρ = [some (f3 a b c), some (.int n), some (.int a), some (.int b), some (.int c), some (.int Dd), none, none, none, none] ∧ μ2 = μ1) ?_ ?_
  · walk_at "sq"
    exact ⟨mulOk_l (by decide) (by decide), mulOk_r (by omega) (by omega), mulOk_r (by omega) (by omega), by rw [hDD]⟩
  rintro ρ μ2 ⟨rfl, rfl⟩
  have han : a * n ≤ 4 * 64 := Int.mul_le_mul a1 n1 (by omega) (by decide)
  have hcn : c * n ≤ 4 * 64 := Int.mul_le_mul c1 n1 (by omega) (by decide)
  have han0 : 0 ≤ a * n := Int.mul_nonneg (by omega) (by omega)
  have hcn0 : 0 ≤ c * n := Int.mul_nonneg (by omega) (by omega)
  have ean : 4 * a * n = 4 * (a * n) := by rw [Int.mul_assoc]
  have ecn : 4 * c * n = 4 * (c * n) := by rw [Int.mul_assoc]
  have dOk : DivOk Dd := ⟨by omega, by
    have hac : a * c ≤ 4 * 4 := Int.mul_le_mul a1 c1 (by omega) (by decide)
    have e : 4 * a * c = 4 * (a * c) := by rw [Int.mul_assoc]
    have := sq_nn b
    exact (divOk_small (j := Dd) (by omega) (by omega)).2⟩
  have fa0 := fdiv_nn (x := 4 * a * n) (y := Dd) (by omega) (by omega)
  have fc0 := fdiv_nn (x := 4 * c * n) (y := Dd) (by omega) (by omega)
  have fa1 := (fdiv_bd (x := 4 * a * n) (y := Dd) (by omega)).1
  have fc1 := (fdiv_bd (x := 4 * c * n) (y := Dd) (by omega)).1
  have fa2 : 4 * a * n ≤ 1024 := by omega
  have fc2 : 4 * c * n ≤ 1024 := by omega
  have ga : (4 * a * n).fdiv Dd < 1152921504606846976 := by
    have : 3 * (4 * a * n).fdiv Dd ≤ Dd * (4 * a * n).fdiv Dd := Int.mul_le_mul_of_nonneg_right hD fa0
    omega
  have gc : (4 * c * n).fdiv Dd < 1152921504606846976 := by
    have : 3 * (4 * c * n).fdiv Dd ≤ Dd * (4 * c * n).fdiv Dd := Int.mul_le_mul_of_nonneg_right hD fc0
    omega
  refine seq_by (fun ρ μ3 => ∃ l, ρ = [some (f3 a b c), some (.int n), some (.int a), some (.int b), some (.int c), some (.int Dd), some (.ob l), none, none, none] ∧ μ2 l = none ∧ μ3 = mset μ2 l (.lst [])) ?_ ?_
  · walk_at "sq"
    exact fun p hp => ⟨p, rfl, hp, rfl⟩
  rintro ρ μ3 ⟨l, rfl, hlf, rfl⟩
  refine seq_by (fun ρ μ4 => ∃ L : List (Int × Int), ρ[6]? = some (some (.ob l)) ∧ lettersL a b c n L ∧ Ext μ2 μ4 ∧ μ4 l = some (.lst (L.map prD))) ?_ ?_
  · walk_at "sq"
    refine ⟨mulOk_l (by decide) (by decide), mulOk_r (by omega) (by omega), dOk, _, rfl, fa0, ga, fun r r0 r1 r2 => ?_⟩
    walk_at "sq"
    refine ⟨mulOk_l (by decide) (by decide), mulOk_r (by omega) (by omega), dOk, _, rfl, fa0, ga, fun r' r0' r1' r2' => ?_⟩
    walk_at "sq"
    have hr := root_small (m := 4 * a * n) hD (by omega) fa2 r0 r1
    have hr' := root_small (m := 4 * a * n) hD (by omega) fa2 r0' r1'
    have err : r = r' := by
      have h1 := abs_lt_of_sq (x := r) (y := r' + 1) (by omega) (by omega)
      have h2 := abs_lt_of_sq (x := r') (y := r + 1) (by omega) (by omega)
      omega
    subst err
    refine ⟨⟨by omega, by omega, by omega, by omega⟩, ?_⟩
    refine forW_by (fun i ρ μ4 => (∃ e7 e8 e9, ρ = [some (f3 a b c), some (.int n), some (.int a), some (.int b), some (.int c), some (.int Dd), some (.ob l), e7, e8, e9]) ∧ Ext μ2 μ4 ∧ ∃ L : List (Int × Int), L.Nodup ∧ (∀ x y, (x, y) ∈ L ↔ val a b c x y = n ∧ -r ≤ y ∧ y < -r + i) ∧ L.length ≤ 37 * i ∧ μ4 l = some (.lst (L.map prD))) (fun _ _ _ _ _ => trivial) ?_ ?_ ⟨⟨_, _, _, rfl⟩, (Ext.refl _).new hlf, [], List.nodup_nil, fun x y => ⟨(fun z => nomatch z), fun z => by omega⟩, by simp, mset_same _ _ _⟩
    · rintro i d ρ μ4 hi ⟨⟨e7, e8, e9, rfl⟩, e4, L, nd, hm, hlen, h4⟩
      obtain ⟨hi2, rfl⟩ := rangeD_get hi
      walk_at "sq"
      refine ⟨mulOk_l (by decide) (by decide), mulOk_r (by omega) (by omega), dOk, _, rfl, fc0, gc, fun s s0 s1 s2 => ?_⟩
      have hs := root_small (m := 4 * c * n) hD (by omega) fc2 s0 s1
      walk_at "sq"
      rw [h4]
      dsimp only
      refine ⟨⟨by omega, by omega, by omega, by omega⟩, by rw [rangeD_len]; exact small_size (by omega), ?_⟩
      refine lcG_pure (fun d => match d with | .int x => if val a b c x (-r + (i : Nat)) = n then some (t2 x (-r + (i : Nat))) else none | _ => none) trivial (fun d hd => ?_) ?_
      · obtain ⟨j, hj⟩ := List.getElem?_of_mem hd
        obtain ⟨hj2, rfl⟩ := rangeD_get hj
        refine ⟨_, rfl, ?_⟩
        walk_at "sq"
        refine ⟨_, ⟨a, b, c, _, _, rfl, .mk (by omega) (by omega), .mk (by omega) (by omega), rfl⟩, ?_⟩
        walk_at "sq"
        by_cases hv : val a b c (-s + (j : Nat)) (-r + (i : Nat)) = n
        · rw [if_pos hv]; exact if_pos hv
        · rw [if_neg hv]; exact if_neg hv
      · rw [List.nil_append, row_run]
        intro p1 hp1
        rw [at_new h4 hp1]
        have hrl := row_len (a := a) (b := b) (c := c) (n := n) (lo := -s) (y := -r + (i : Nat)) (cnt := (s + 1 - -s).toNat)
        refine ⟨?_, ⟨_, _, _, rfl⟩, (e4.new hp1).set hlf, L ++ row a b c n (-s) (-r + (i : Nat)) (s + 1 - -s).toNat, ?_, ?_, ?_, ?_⟩
        · rw [List.length_map, List.length_map]
          exact small_size (by omega)
        · rw [List.nodup_append]
          refine ⟨nd, row_nodup, fun z hz u hu e => ?_⟩
          obtain ⟨x, y⟩ := z
          subst e
          have h1 := (hm x y).mp hz
          have h2 := mem_row.mp hu
          omega
        · intro x y
          rw [List.mem_append, hm, mem_row]
          constructor
          · rintro (⟨h1, h2, h3⟩ | ⟨rfl, h2, h3, h4⟩)
            · exact ⟨h1, h2, by omega⟩
            · exact ⟨h2, by omega, by omega⟩
          · rintro ⟨h1, h2, h3⟩
            by_cases hy : y = -r + (i : Nat)
            · subst hy
              have hx := val_x (a := a) (b := b) (c := c) (x := x) (y := -r + (i : Nat))
              rw [h1, hDD] at hx
              have := le_root (by omega) hx s2 s0
              exact .inr ⟨rfl, h1, by omega, by omega⟩
            · exact .inl ⟨h1, h2, by omega⟩
        · rw [List.length_append]; omega
        · rw [List.map_append]
    · rintro ρ μ4 ⟨⟨e7, e8, e9, rfl⟩, e4, L, nd, hm, hlen, h4⟩
      rw [rangeD_len] at *
      refine ⟨L, rfl, ⟨nd, fun x y => ?_, fun x y hxy => ?_, by omega⟩, e4, h4⟩
      · rw [hm]
        refine ⟨fun h => h.1, fun h => ⟨h, ?_⟩⟩
        have hy := val_y (a := a) (b := b) (c := c) (x := x) (y := y)
        rw [h, hDD] at hy
        have := le_root (by omega) hy r2 r0
        omega
      · have h := ((hm x y).mp hxy).1
        have hx := val_x (a := a) (b := b) (c := c) (x := x) (y := y)
        have hy := val_y (a := a) (b := b) (c := c) (x := x) (y := y)
        rw [h, hDD] at hx hy
        have k1 : 3 * (x * x) ≤ Dd * (x * x) := Int.mul_le_mul_of_nonneg_right hD (sq_nn x)
        have k2 : 3 * (y * y) ≤ Dd * (y * y) := Int.mul_le_mul_of_nonneg_right hD (sq_nn y)
        have g1 := abs_le_of_sq (x := x) (y := 40) (by decide) (by omega)
        have g2 := abs_le_of_sq (x := y) (y := 40) (by decide) (by omega)
        exact ⟨g1.1, g1.2, g2.1, g2.2⟩
  rintro ρ μ4 ⟨L, hρ, hL, e4, h4⟩
  walk_at "sq"
  rw [hρ]
  refine SubQ.mk (q L l hL hlf) fun b o e => ?_
  by_cases k : b = l
  · subst k
    rw [mset_same] at e; cases e; exact h4
  · rw [mset_ne k] at e; exact e4 b o e
theorem To.of_vals {a b c d e f p q r s : Int} : To a b c d e f p q r s ↔ p * s - q * r = 1 ∧ val a b c p r = d ∧ mid a b c p q r s = e ∧ val a b c q s = f :=
  ⟨fun h => ⟨h.det, h.eA, h.eB, h.eC⟩, fun h => ⟨h.1, h.2.1, h.2.2.1, h.2.2.2⟩⟩
theorem take_succ_at {α : Type} {xs : List α} {i : Nat} {x : α} (h : xs[i]? = some x) : xs.take (i + 1) = xs.take i ++ [x] := by
  rw [List.take_add_one, h]; rfl
theorem not_mem_take {α : Type} {xs : List α} (nd : xs.Nodup) {i : Nat} {x : α} (h : xs[i]? = some x) : x ∉ xs.take i := by
  have h2 : (xs.take (i + 1)).Nodup := List.Nodup.sublist (List.take_sublist _ _) nd
  rw [take_succ_at h, List.nodup_append] at h2
  exact fun hm => h2.2.2 x hm x (by simp) rfl
/-- the turns whose letters are among those gone through -/
def goneL (a b c d e f : Int) (P : Int × Int → Int × Int → Prop) (F : List Tn) : Prop := F.Nodup ∧ ∀ t : Tn, t ∈ F ↔ P (t.1, t.2.2.1) (t.2.1, t.2.2.2) ∧ To a b c d e f t.1 t.2.1 t.2.2.1 t.2.2.2
theorem rd_law_all_turns (ds : List D) (μ : Mu) (Q : PQ) (X : XQ) (hl : ds.length = 2) (h : S_law_all_turns.run ds μ Q X) : w_law_all_turns.run (bodyD Q X) (ev0 7 ds) μ := by
  obtain ⟨a, b, c, d, e, f, rfl, td, tf, q⟩ := h
  unfold w_law_all_turns
  refine seq_by (fun ρ μ1 => ∃ l, ρ = [some (f3 a b c), some (f3 d e f), some (.ob l), none, none, none, none] ∧ μ l = none ∧ μ1 = mset μ l (.lst [])) ?_ ?_
  · walk_at "sq"
    exact fun p hp => ⟨p, rfl, hp, rfl⟩
  rintro ρ μ1 ⟨l, rfl, hlf, rfl⟩
  have bB : B64 b := by
    have hac : a * c ≤ 4 * 4 := Int.mul_le_mul td.2.1 td.2.2.2.1 (by have := td.2.2.1; omega) (by decide)
    have e : 4 * a * c = 4 * (a * c) := by rw [Int.mul_assoc]
    have h5 := td.2.2.2.2.1
    have := abs_le_of_sq (x := b) (y := 8) (by decide) (by omega)
    exact .mk (by omega) (by omega)
  refine seq_by (fun ρ μ2 => ∃ F : List Tn, ρ[2]? = some (some (.ob l)) ∧ allL a b c d e f F ∧ Ext μ μ2 ∧ μ2 l = some (.lst (F.map tnD))) ?_ ?_
  · walk_at "sq"
    refine ⟨a, b, c, d, rfl, td, fun L1 l1 hL1 hl1 => ?_⟩
    walk_at "sq"
    have hl1' := mset_free hl1
    refine forW_by (fun i ρ μ2 => (∃ e3 e4 e5 e6, ρ = [some (f3 a b c), some (f3 d e f), some (.ob l), e3, e4, e5, e6]) ∧ Ext μ μ2 ∧ μ2 l1 = some (.lst (L1.map prD)) ∧ ∃ F : List Tn, goneL a b c d e f (fun z _ => z ∈ L1.take i) F ∧ F.length ≤ 2000 * i ∧ μ2 l = some (.lst (F.map tnD))) (fun _ _ _ _ h => h.2.2.1) ?_ ?_ ⟨⟨_, _, _, _, rfl⟩, ((Ext.refl _).new hlf).new hl1, mset_same _ _ _, [], ⟨List.nodup_nil, fun t => ⟨(fun z => nomatch z), fun z => by simp at z⟩⟩, by simp, at_new (mset_same _ _ _) hl1⟩
    · rintro i x ρ μ2 hi ⟨⟨e3, e4, e5, e6, rfl⟩, e2, hk1, F, ⟨nd, hm⟩, hlen, h2⟩
      rw [List.getElem?_map] at hi
      cases hz : L1[i]? with
      | none => rw [hz] at hi; cases hi
      | some z =>
        rw [hz] at hi
        cases hi
        obtain ⟨p, r⟩ := z
        have hpr := hL1.2.2.1 p r (List.mem_of_getElem? hz)
        have hvp := (hL1.2.1 p r).mp (List.mem_of_getElem? hz)
        have hi2 : i < 2000 := Nat.lt_of_lt_of_le (List.getElem?_eq_some_iff.mp hz).1 hL1.2.2.2
        walk_at "sq"
        refine ⟨a, b, c, f, rfl, tf, fun L2 l2 hL2 hl2 => ?_⟩
        walk_at "sq"
        refine forW_by (fun j ρ μ3 => (∃ e5 e6, ρ = [some (f3 a b c), some (f3 d e f), some (.ob l), some (.int p), some (.int r), e5, e6]) ∧ Ext μ μ3 ∧ μ3 l1 = some (.lst (L1.map prD)) ∧ μ3 l2 = some (.lst (L2.map prD)) ∧ ∃ F : List Tn, goneL a b c d e f (fun z u => z ∈ L1.take i ∨ (z = (p, r) ∧ u ∈ L2.take j)) F ∧ F.length ≤ 2000 * i + j ∧ μ3 l = some (.lst (F.map tnD))) (fun _ _ _ _ h => h.2.2.2.1) ?_ ?_ ⟨⟨_, _, rfl⟩, e2.new hl2, at_new hk1 hl2, mset_same _ _ _, F, ⟨nd, fun t => by rw [hm]; simp⟩, by omega, at_new h2 hl2⟩
        · rintro j x ρ μ3 hj ⟨⟨e5, e6, rfl⟩, e3', hk1', hk2', G, ⟨nd', hm'⟩, hlen', h3⟩
          rw [List.getElem?_map] at hj
          cases hu : L2[j]? with
          | none => rw [hu] at hj; cases hj
          | some u =>
            rw [hu] at hj
            cases hj
            obtain ⟨q', s⟩ := u
            have hqs := hL2.2.2.1 q' s (List.mem_of_getElem? hu)
            have hvq := (hL2.2.1 q' s).mp (List.mem_of_getElem? hu)
            have hj2 : j < 2000 := Nat.lt_of_lt_of_le (List.getElem?_eq_some_iff.mp hu).1 hL2.2.2.2
            have step : ∀ G' : List Tn, (G' = G ++ [(p, q', r, s)] ∧ To a b c d e f p q' r s) ∨ (G' = G ∧ ¬To a b c d e f p q' r s) → goneL a b c d e f (fun z u => z ∈ L1.take i ∨ (z = (p, r) ∧ u ∈ L2.take (j + 1))) G' ∧ G'.length ≤ 2000 * i + (j + 1) := by
              rintro G' (⟨rfl, ht⟩ | ⟨rfl, ht⟩)
              · refine ⟨⟨?_, fun t => ?_⟩, by rw [List.length_append]; simp; omega⟩
                · rw [List.nodup_append]
                  refine ⟨nd', by simp, fun t ht u hu' e => ?_⟩
                  simp only [List.mem_cons, List.not_mem_nil, or_false] at hu'
                  subst hu'; subst e
                  rcases ((hm' _).mp ht).1 with g | ⟨_, g⟩
                  · exact not_mem_take hL1.1 hz g
                  · exact not_mem_take hL2.1 hu g
                · rw [List.mem_append, hm', take_succ_at hu]
                  simp only [List.mem_cons, List.not_mem_nil, or_false, List.mem_append]
                  constructor
                  · rintro (⟨g | ⟨g1, g2⟩, g3⟩ | rfl)
                    · exact ⟨.inl g, g3⟩
                    · exact ⟨.inr ⟨g1, .inl g2⟩, g3⟩
                    · exact ⟨.inr ⟨rfl, .inr rfl⟩, ht⟩
                  · rintro ⟨g | ⟨g1, g2 | g2⟩, g3⟩
                    · exact .inl ⟨.inl g, g3⟩
                    · exact .inl ⟨.inr ⟨g1, g2⟩, g3⟩
                    · refine .inr ?_
                      obtain ⟨t1, t2, t3, t4⟩ := t
                      simp only [Prod.mk.injEq] at g1 g2
                      obtain ⟨rfl, rfl⟩ := g1
                      obtain ⟨rfl, rfl⟩ := g2
                      rfl
              · refine ⟨⟨nd', fun t => ?_⟩, by omega⟩
                rw [hm', take_succ_at hu]
                simp only [List.mem_cons, List.not_mem_nil, or_false, List.mem_append]
                constructor
                · rintro ⟨g | ⟨g1, g2⟩, g3⟩
                  · exact ⟨.inl g, g3⟩
                  · exact ⟨.inr ⟨g1, .inl g2⟩, g3⟩
                · rintro ⟨g | ⟨g1, g2 | g2⟩, g3⟩
                  · exact ⟨.inl g, g3⟩
                  · exact ⟨.inr ⟨g1, g2⟩, g3⟩
                  · refine absurd g3 ?_
                    obtain ⟨t1, t2, t3, t4⟩ := t
                    simp only [Prod.mk.injEq] at g1 g2
                    obtain ⟨rfl, rfl⟩ := g1
                    obtain ⟨rfl, rfl⟩ := g2
                    exact ht
            have sm : ∀ x : Int, -40 ≤ x → x ≤ 40 → Small x := fun x h1 h2 => ⟨by omega, by omega⟩
            walk_at "sq"
            refine ⟨mulOk_l (by omega) (by omega), mulOk_l (by omega) (by omega), ?_⟩
            by_cases hdet : p * s - q' * r = 1
            · rw [if_pos hdet]
              refine ⟨_, ⟨a, b, c, p, q', r, s, rfl, bB, sm p (by omega) (by omega), sm q' (by omega) (by omega), sm r (by omega) (by omega), sm s (by omega) (by omega), rfl⟩, ?_⟩
              refine EqB_tup (okD_tupI [_, _, _]) (okD_tupI [_, _, _]) (fun he => ?_) fun he => ?_
              · have ht : To a b c d e f p q' r s := by
                  injection he with e1 he; injection he with e2' he; injection he with e3'' he
                  injection e1 with e1; injection e2' with e2'; injection e3'' with e3''
                  exact ⟨hdet, e1, e2', e3''⟩
                obtain ⟨s1, s2⟩ := step _ (.inl ⟨rfl, ht⟩)
                walk_at "sq"
                rw [h3]
                dsimp only
                have n1 : l1 ≠ l := fun z => by rw [z] at hl1'; exact hl1'.1 rfl
                have n2 : l2 ≠ l := fun z => by rw [z, h2] at hl2; cases hl2
                refine ⟨by rw [List.length_map]; exact Nat.lt_of_lt_of_le (by omega : G.length < 16000000) sizeBig, ⟨_, _, rfl⟩, e3'.set hlf, by rw [mset_ne n1]; exact hk1', by rw [mset_ne n2]; exact hk2', _, s1, s2, ?_⟩
                rw [List.map_append]
                rfl
              · have ht : ¬To a b c d e f p q' r s := fun ht => he (by rw [ht.eA, ht.eB, ht.eC])
                obtain ⟨s1, s2⟩ := step _ (.inr ⟨rfl, ht⟩)
                walk_at "sq"
                exact ⟨⟨_, _, rfl⟩, e3', hk1', hk2', G, s1, s2, h3⟩
            · rw [if_neg hdet]
              have ht : ¬To a b c d e f p q' r s := fun ht => hdet ht.det
              obtain ⟨s1, s2⟩ := step _ (.inr ⟨rfl, ht⟩)
              exact ⟨⟨_, _, rfl⟩, e3', hk1', hk2', G, s1, s2, h3⟩
        · rintro ρ μ3 ⟨⟨e5, e6, rfl⟩, e3', hk1', hk2', G, ⟨nd', hm'⟩, hlen', h3⟩
          rw [List.length_map] at *
          refine ⟨⟨_, _, _, _, rfl⟩, e3', hk1', G, ⟨nd', fun t => ?_⟩, by have := hL2.2.2.2; omega, h3⟩
          rw [hm', List.take_length, take_succ_at hz]
          simp only [List.mem_append, List.mem_cons, List.not_mem_nil, or_false]
          constructor
          · rintro ⟨g | ⟨g1, g2⟩, g3⟩
            · exact ⟨.inl g, g3⟩
            · exact ⟨.inr g1, g3⟩
          · rintro ⟨g | g, g3⟩
            · exact ⟨.inl g, g3⟩
            · exact ⟨.inr ⟨g, (hL2.2.1 _ _).mpr g3.eC⟩, g3⟩
    · rintro ρ μ2 ⟨⟨e3, e4, e5, e6, rfl⟩, e2, hk1, F, ⟨nd, hm⟩, hlen, h2⟩
      rw [List.length_map] at *
      refine ⟨F, rfl, ⟨nd, fun t => ?_⟩, e2, h2⟩
      rw [hm, List.take_length]
      exact ⟨fun h => h.2, fun h => ⟨(hL1.2.1 _ _).mpr h.eA, h⟩⟩
  rintro ρ μ2 ⟨F, hρ, hF, e2, h2⟩
  walk_at "sq"
  rw [hρ]
  dsimp only
  walk_at "sq"
  rw [h2]
  dsimp only
  exact ⟨sortOk_ints tns_ok, fun p2 hp2 => .new e2 hp2 fun p hp => q F p hF hp⟩
end K8

/-! k08: the law. -/
namespace K8
open PySem PySem.Spec PyProof.Rows L2 Sq
local macro_rules | `(tactic| walk_at "sq") => `(tactic| simp only [wVar_run, wC_run, wOp_run, onBl_bl, gI_run, gAdd_int, gAdd_str, gAdd_tup, gMul_int, EqB_int, EqB_str, EqB_bl, gEq_run, gNe_run, wNeg_run, wNotV_run, wAndV_run, wOrV_run, wTB_run, wNotT_run, wAndT_run, wOrT_run, wIfE_run, runAll_nil, runAll_cons, wTup_run, wLst_run, gIx_tup, gIx_rls, gIx_str, gIx_ob, wB_run, fLen_tup, fLen_rls, fLen_str, fLen_ob, fAbs_int, fInt_int, fInt_bl, fTuple_tup, fTuple_ob, wIsi_run, wCall_run, wNext_run, wSeq_run, wBreak_run, wCont_run, wNever_run, wExpr_run, wRet_run, wRetN_run, wIf_run, gN_run, runGs_nil, runGs_cons, gT_run, gS_run, sIx_ob, wAsg_run, wSet_run, wPar_run, wPar3_run, wSeqI_run, fSeq_tup, fSeq_rls, fSeq_ob, wRng1_run, fRng1_int, wRng2_run, fRng2_int, wFor_run, wLc_run, wYes_run, onLst_ob, wMt_run, fAppend_run, fExtend_run, wAug_run, bodyD_nx, bodyD_rt, bodyD_ex, wNoP_run, onInt_int, wPart_run, fSl_tup, fSl_rls, fSl_str, fSl_ob, wSl_run, gIn_run, gNotIn_run, fSorted_ob, wLstRg1_run, wChainN_run, chainRun_last, chainRun_cons, spR_run,
  Sq.gSub, gFdiv, gMod, gLt, gLe, gGt, gGe, gAddI, gPowW, gLen_run, gAbs_run, gInt_run, gAll_run, gAny_run, gSum_run, gTuple_run, gList_run, gSorted_run, gRepr_run, gMax2_run, gMin2_run, gAppend_run, gExtend_run, CT.set_one, CT.set_many, CT.slots, setAll, wipeE, lcG_nil,
  List.getElem?_cons_zero, List.getElem?_cons_succ, List.getElem?_nil, Int.cast_ofNat_Int, List.set_cons_zero, List.set_cons_succ, List.length_cons, List.length_nil, ev0, List.map_cons, List.map_nil, List.cons_append, List.nil_append, List.replicate_succ, List.replicate_zero, Nat.reduceSub, Nat.reduceAdd, mset_same, decide_true, decide_false, if_true, if_false, ite_true, ite_false, Bool.false_eq_true, Bool.true_eq_false, reduceCtorEq, Bool.not_true, Bool.not_false, true_and, and_true, decide_eq_true_eq, Bool.not_eq_true', decide_eq_false_iff_not, ite_not, isA, atI_0, atI_1, atI_2, atI_3, atI_m4, ixN_0, ixN_1, ixN_30, ixN_31, ixN_32])
theorem thenT_assoc (t u v : Tn) : thenT (thenT t u) v = thenT t (thenT u v) := by
  unfold thenT
  simp only [Prod.mk.injEq]
  refine ⟨?_, ?_, ?_, ?_⟩ <;> grind
def idT : Tn := (1, 0, 0, 1)
def detT (t : Tn) : Int := t.1 * t.2.2.2 - t.2.1 * t.2.2.1
theorem then_id (t : Tn) : thenT t idT = t := by
  obtain ⟨p, q, r, s⟩ := t
  unfold thenT idT
  simp
theorem id_then (t : Tn) : thenT idT t = t := by
  obtain ⟨p, q, r, s⟩ := t
  unfold thenT idT
  simp
theorem back_then {t : Tn} (h : detT t = 1) : thenT (backT t) t = idT := by
  obtain ⟨p, q, r, s⟩ := t
  unfold detT at h
  unfold thenT idT backT
  simp only [Prod.mk.injEq] at *
  refine ⟨?_, ?_, ?_, ?_⟩ <;> grind
theorem then_back {t : Tn} (h : detT t = 1) : thenT t (backT t) = idT := by
  obtain ⟨p, q, r, s⟩ := t
  unfold detT at h
  unfold thenT idT backT
  simp only [Prod.mk.injEq] at *
  refine ⟨?_, ?_, ?_, ?_⟩ <;> grind
theorem via_inv {t u : Tn} (h : detT t = 1) : thenT (thenT (backT t) (thenT (thenT t u) (backT t))) t = u := by
  rw [thenT_assoc, thenT_assoc, thenT_assoc, back_then h, then_id, ← thenT_assoc, back_then h, id_then]
theorem via_inv' {t u : Tn} (h : detT t = 1) : thenT (thenT t (thenT (thenT (backT t) u) t)) (backT t) = u := by
  rw [thenT_assoc, thenT_assoc, thenT_assoc, then_back h, then_id, ← thenT_assoc, then_back h, id_then]
abbrev ToT (a b c A B C : Int) (t : Tn) : Prop := To a b c A B C t.1 t.2.1 t.2.2.1 t.2.2.2
theorem ToT.comp {a b c A B C A' B' C' : Int} {t u : Tn} (h : ToT a b c A B C t) (k : ToT A B C A' B' C' u) : ToT a b c A' B' C' (thenT t u) := To.comp h k
theorem ToT.back {a b c A B C : Int} {t : Tn} (h : ToT a b c A B C t) : ToT A B C a b c (backT t) := To.back h
theorem ToT.dt {a b c A B C : Int} {t : Tn} (h : ToT a b c A B C t) : detT t = 1 := h.det
theorem own_nodup (a b c : Int) : (ownL a b c).Nodup := by
  unfold ownL
  split <;> split <;> decide
/-- own turns, by way of the least one, are all own turns -/
theorem via_all {a b c A B C : Int} {t : Tn} (h : ToT a b c A B C t) (hr : Red A B C) {us : List Tn} (pu : us.Perm (ownL A B C)) : allL a b c a b c (viaT t us) := by
  have hd := h.dt
  constructor
  · unfold viaT
    rw [List.Nodup, List.pairwise_map]
    refine List.Pairwise.imp (fun {u v} hne e => hne ?_) (pu.nodup_iff.mpr (own_nodup A B C))
    rw [← via_inv (t := t) (u := u) hd, e, via_inv hd]
  · intro x
    unfold viaT
    rw [List.mem_map]
    constructor
    · rintro ⟨u, hu, rfl⟩
      have := (own_iff (p := u.1) (q := u.2.1) (r := u.2.2.1) (s := u.2.2.2) hr).mpr (pu.mem_iff.mp hu)
      exact (ToT.comp (ToT.comp h (show ToT A B C A B C u from this)) h.back)
    · intro hx
      refine ⟨thenT (thenT (backT t) x) t, ?_, via_inv' hd⟩
      have g : ToT A B C A B C (thenT (thenT (backT t) x) t) := ToT.comp (ToT.comp h.back (show ToT a b c a b c x from hx)) h
      exact pu.mem_iff.mpr ((own_iff hr).mp g)
theorem all_perm {a b c d e f : Int} {L M : List Tn} (h : allL a b c d e f L) (k : allL a b c d e f M) : L.Perm M :=
  (List.perm_ext_iff_of_nodup h.1 k.1).mpr fun t => (h.2 t).trans (k.2 t).symm
theorem sortT_perm {L M : List Tn} (h : L.Perm M) : sortT L = sortT M := by
  unfold sortT
  refine sort_perm (fun d hd => ?_) (h.map tnD)
  obtain ⟨t, _, rfl⟩ := List.mem_map.mp hd
  exact ⟨_, tn_tupI t⟩
/-- the least form is one -/
theorem least_same {a b c d e f A B C A' B' C' : Int} {t u v : Tn} (h : ToT a b c d e f v) (k : ToT a b c A B C t) (l : ToT d e f A' B' C' u) (r : Red A B C) (r' : Red A' B' C') : A = A' ∧ B = B' ∧ C = C' :=
  red_uniq (ToT.comp (ToT.comp k.back h) l) r r'
theorem sm_of {x : Int} (h : -4000000000 < x ∧ x < 4000000000) : Small x := ⟨by omega, by omega⟩
theorem b64_of {x : Int} (h : -4000000000 < x ∧ x < 4000000000) : B64 x := .mk (by omega) (by omega)
theorem repr_f3 {A B C : Int} {μ : Mu} {Q : PQ} (h1 : smallI A) (h2 : smallI B) (h3 : smallI C) (q : Q (.str (encD (f3 A B C)).shown) μ) : fRepr (f3 A B C) μ Q := by
  have hs : ∀ x ∈ [A, B, C], smallI x := by
    intro x hx
    simp only [List.mem_cons, List.not_mem_nil, or_false] at hx
    rcases hx with rfl | rfl | rfl <;> assumption
  have e : f3 A B C = tupI [A, B, C] := rfl
  rw [e] at q ⊢
  have hlen := shown_tupI hs
  have e2 : 33 * [A, B, C].length + 3 = 102 := rfl
  rw [e2] at hlen
  exact fRepr_ok (okD_tupI _) (lit_tupI hs) (small_size (Nat.le_trans hlen (by decide))) q
theorem rd_law_is_form_right (ds : List D) (μ : Mu) (Q : PQ) (X : XQ) (hl : ds.length = 2) (h : S_law_is_form_right.run ds μ Q X) : w_law_is_form_right.run (bodyD Q X) (ev0 4 ds) μ := by
  obtain ⟨r, ⟨a, b, c, p, q', u, v, rfl, hb, hp, hdet, sp, sq, su, sv, rfl⟩, q⟩ := h
  unfold w_law_is_form_right
  refine seq_by (fun ρ μ1 => ∃ A B C P Q' R S, ρ = [some (f3 a b c), some (t4 p q' u v), some (.tup [f3 A B C, t4 P Q' R S]), none] ∧ Lst a b c A B C P Q' R S ∧ μ1 = μ) ?_ ?_
  · walk_at "sq"
    exact ⟨a, b, c, rfl, hb, hp, fun A B C P Q' R S k => ⟨A, B, C, P, Q', R, S, rfl, k, rfl⟩⟩
  rintro ρ μ1 ⟨A, B, C, P, Q', R, S, rfl, hL, rfl⟩
  obtain ⟨l1, l2, l3, l4, l5, l6⟩ := lst_small hb hp hL
  refine seq_by (fun ρ μ2 => ρ = [some (f3 a b c), some (t4 p q' u v), some (.tup [f3 A B C, t4 P Q' R S]), none] ∧ μ2 = μ1) ?_ ?_
  · walk_at "sq"
    refine ⟨_, ⟨P, Q', R, S, rfl, b64_of l1, b64_of l2, rfl⟩, ?_⟩
    walk_at "sq"
    rw [if_pos hL.to.det]
    trivial
  rintro ρ μ2 ⟨rfl, rfl⟩
  have bB : B64 b := .mk (by have := hb.2.2.1; omega) (by have := hb.2.2.2.1; omega)
  refine seq_by (fun ρ μ3 => ρ = [some (f3 a b c), some (t4 p q' u v), some (.tup [f3 A B C, t4 P Q' R S]), none] ∧ μ3 = μ2) ?_ ?_
  · walk_at "sq"
    refine ⟨_, ⟨a, b, c, P, Q', R, S, rfl, bB, sm_of l1, sm_of l2, sm_of l3, sm_of l4, rfl⟩, ?_⟩
    rw [hL.to.eA, hL.to.eB, hL.to.eC]
    refine EqB_tup (okf3 A B C) (okf3 A B C) (fun _ => ?_) fun z => absurd rfl z
    walk_at "sq"
    refine ⟨_, ⟨A, B, C, rfl, rfl⟩, ?_⟩
    walk_at "sq"
    rw [if_pos hL.red]
    trivial
  rintro ρ μ3 ⟨rfl, rfl⟩
  walk_at "sq"
  have tt : To a b c (val a b c p u) (mid a b c p q' u v) (val a b c q' v) p q' u v := ⟨hdet, rfl, rfl, rfl⟩
  generalize hd : val a b c p u = d at *
  generalize he : mid a b c p q' u v = e at *
  generalize hf : val a b c q' v = f at *
  refine ⟨_, ⟨a, b, c, p, q', u, v, rfl, bB, sp, sq, su, sv, rfl⟩, ?_⟩
  rw [hd, he, hf]
  refine ⟨_, ⟨d, e, f, rfl, rfl⟩, ?_⟩
  walk_at "sq"
  by_cases hbd : Bd d e f
  · rw [if_pos hbd]
    have hpu : ¬(p = 0 ∧ u = 0) := fun ⟨z1, z2⟩ => by subst z1 z2; simp at hdet
    have hpos : Pos d e f := tt.pos hp (by rw [← hd]; exact val_pos hp hpu)
    refine ⟨d, e, f, rfl, hbd, hpos, fun A' B' C' P' Q'' R' S' k => ?_⟩
    obtain ⟨rfl, rfl, rfl⟩ := least_same (t := (P, Q', R, S)) (u := (P', Q'', R', S')) (v := (p, q', u, v)) tt hL.to k.to hL.red k.red
    walk_at "sq"
    have h1 := hL.red.1
    have h2 := hL.red.2.1
    have h3 := hL.red.2.2.1
    have s1 : smallI A := ⟨by omega, by omega⟩
    have s2 : smallI B := ⟨by omega, by omega⟩
    have s3 : smallI C := ⟨by omega, by omega⟩
    refine repr_f3 s1 s2 s3 (repr_f3 s1 s2 s3 ?_)
    walk_at "sq"
    exact .of q
  · rw [if_neg hbd]
    exact .of q
theorem tiny_small {a b c n x y : Int} (h : Tiny a b c n) (e : val a b c x y = n) : (-40 ≤ x ∧ x ≤ 40) ∧ (-40 ≤ y ∧ y ≤ 40) := by
  obtain ⟨a0, a1, c0, c1, hd, n0, n1⟩ := h
  have hD := disc3 hd
  have hx := val_x (a := a) (b := b) (c := c) (x := x) (y := y)
  have hy := val_y (a := a) (b := b) (c := c) (x := x) (y := y)
  rw [e] at hx hy
  have han : a * n ≤ 4 * 64 := Int.mul_le_mul a1 n1 (by omega) (by decide)
  have hcn : c * n ≤ 4 * 64 := Int.mul_le_mul c1 n1 (by omega) (by decide)
  have ean : 4 * a * n = 4 * (a * n) := by rw [Int.mul_assoc]
  have ecn : 4 * c * n = 4 * (c * n) := by rw [Int.mul_assoc]
  have k1 : 3 * (x * x) ≤ (4 * a * c - b * b) * (x * x) := Int.mul_le_mul_of_nonneg_right hD (sq_nn x)
  have k2 : 3 * (y * y) ≤ (4 * a * c - b * b) * (y * y) := Int.mul_le_mul_of_nonneg_right hD (sq_nn y)
  exact ⟨abs_le_of_sq (x := x) (y := 40) (by decide) (by omega), abs_le_of_sq (x := y) (y := 40) (by decide) (by omega)⟩
theorem okD_tups {ds : List D} (h : ∀ d ∈ ds, ∃ xs, d = tupI xs) : okD (.tup ds) = true := by
  have h1 : plainDs ds = true := plains_of fun d hd => by
    obtain ⟨xs, rfl⟩ := h d hd
    exact okD.p (okD_tupI xs)
  have h2 : PyData.depthAll (encDs ds) ≤ 1 := depthAll_le fun d hd => by
    obtain ⟨xs, rfl⟩ := h d hd
    rw [encD_tupI, PyData.depth, PySem.W.depth_ints]
    exact Nat.le_refl _
  unfold okD plainD Sq.encD PyData.depth
  rw [h1, decide_eq_true (by omega)]; rfl
theorem sortT_mem {L : List Tn} {d : D} (h : d ∈ sortT L) : ∃ t ∈ L, d = tnD t := by
  unfold sortT at h
  obtain ⟨t, ht, rfl⟩ := List.mem_map.mp (List.mem_mergeSort.mp h)
  exact ⟨t, ht, rfl⟩
theorem sortT_len (L : List Tn) : (sortT L).length = L.length := by
  unfold sortT
  rw [List.length_mergeSort, List.length_map]
theorem repr_turns {L : List Tn} {μ : Mu} {Q : PQ} (hl : L.length ≤ 10) (h : ∀ t ∈ L, smallI t.1 ∧ smallI t.2.1 ∧ smallI t.2.2.1 ∧ smallI t.2.2.2) (q : Q (.str (encD (.tup (sortT L))).shown) μ) : fRepr (.tup (sortT L)) μ Q := by
  have hs : ∀ t ∈ L, ∀ x ∈ [t.1, t.2.1, t.2.2.1, t.2.2.2], smallI x := by
    intro t ht x hx
    obtain ⟨h1, h2, h3, h4⟩ := h t ht
    simp only [List.mem_cons, List.not_mem_nil, or_false] at hx
    rcases hx with rfl | rfl | rfl | rfl <;> assumption
  have hlen := shown_tups (n := 135) (ds := sortT L) (fun d hd => by
    obtain ⟨t, ht, rfl⟩ := sortT_mem hd
    rw [tn_tupI]
    exact shown_tupI (hs t ht))
  rw [sortT_len] at hlen
  refine fRepr_ok (okD_tups fun d hd => ?_) ?_ (small_size (by omega)) q
  · obtain ⟨t, ht, rfl⟩ := sortT_mem hd
    exact ⟨_, tn_tupI t⟩
  · unfold litI
    refine litIs_of fun d hd => ?_
    obtain ⟨t, ht, rfl⟩ := sortT_mem hd
    rw [tn_tupI]
    exact lit_tupI (hs t ht)
/-- other, as it is drawn or made -/
def Oth (a b c d e f : Int) : Prop := Tiny a b c d ∧ Tiny a b c f ∧ Bd a b c ∧ Pos a b c ∧ Bd d e f ∧ Pos d e f ∧ Tiny a b c a ∧ Tiny a b c c
theorem small_b {a b c : Int} (a0 : 1 ≤ a) (a1 : a ≤ 4) (c0 : 1 ≤ c) (c1 : c ≤ 4) (h : b * b < 4 * a * c) : -8 ≤ b ∧ b ≤ 8 := by
  have : a * c ≤ 4 * 4 := Int.mul_le_mul a1 c1 (by omega) (by decide)
  have e : 4 * a * c = 4 * (a * c) := by rw [Int.mul_assoc]
  exact abs_le_of_sq (x := b) (y := 8) (by decide) (by omega)
theorem oth_mk {a b c d e f : Int} (a0 : 1 ≤ a) (a1 : a ≤ 4) (c0 : 1 ≤ c) (c1 : c ≤ 4) (h : b * b < 4 * a * c) (d0 : 1 ≤ d) (d1 : d ≤ 64) (f0 : 1 ≤ f) (f1 : f ≤ 64) (hp : Pos d e f) : Oth a b c d e f := by
  have hb := small_b a0 a1 c0 c1 h
  have he : -128 ≤ e ∧ e ≤ 128 := by
    have : d * f ≤ 64 * 64 := Int.mul_le_mul d1 f1 (by omega) (by decide)
    have e2 : 4 * d * f = 4 * (d * f) := by rw [Int.mul_assoc]
    have := hp.2
    exact abs_le_of_sq (x := e) (y := 128) (by decide) (by omega)
  exact ⟨⟨a0, a1, c0, c1, h, by omega, d1⟩, ⟨a0, a1, c0, c1, h, by omega, f1⟩, ⟨by omega, by omega, by omega, by omega, by omega, by omega⟩, ⟨by omega, h⟩, ⟨by omega, by omega, by omega, by omega, by omega, by omega⟩, hp, ⟨a0, a1, c0, c1, h, by omega, by omega⟩, ⟨a0, a1, c0, c1, h, by omega, by omega⟩⟩
theorem oth_turned {a b c p q r s : Int} (a0 : 1 ≤ a) (a1 : a ≤ 4) (c0 : 1 ≤ c) (c1 : c ≤ 4) (h : b * b < 4 * a * c) (ht : (p, q, r, s) ∈ ([(1, 1, 0, 1), (0, -1, 1, 0), (1, 0, -1, 1), (2, 1, 1, 1)] : List Tn)) : Oth a b c (val a b c p r) (mid a b c p q r s) (val a b c q s) := by
  have hb := small_b a0 a1 c0 c1 h
  have hp : Pos a b c := ⟨by omega, h⟩
  have key : ∀ x y : Int, ¬(x = 0 ∧ y = 0) → (val a b c x y ≤ 64) → 1 ≤ val a b c x y ∧ val a b c x y ≤ 64 := fun x y hn hv => ⟨by have := val_pos hp hn; omega, hv⟩
  simp only [List.mem_cons, List.not_mem_nil, or_false, Prod.mk.injEq] at ht
  have hdet : p * s - q * r = 1 := by
    rcases ht with ⟨rfl, rfl, rfl, rfl⟩ | ⟨rfl, rfl, rfl, rfl⟩ | ⟨rfl, rfl, rfl, rfl⟩ | ⟨rfl, rfl, rfl, rfl⟩ <;> decide
  have k1 := key p r (fun z => by rcases ht with ⟨rfl, rfl, rfl, rfl⟩ | ⟨rfl, rfl, rfl, rfl⟩ | ⟨rfl, rfl, rfl, rfl⟩ | ⟨rfl, rfl, rfl, rfl⟩ <;> omega) (by unfold val; rcases ht with ⟨rfl, rfl, rfl, rfl⟩ | ⟨rfl, rfl, rfl, rfl⟩ | ⟨rfl, rfl, rfl, rfl⟩ | ⟨rfl, rfl, rfl, rfl⟩ <;> omega)
  have k2 := key q s (fun z => by rcases ht with ⟨rfl, rfl, rfl, rfl⟩ | ⟨rfl, rfl, rfl, rfl⟩ | ⟨rfl, rfl, rfl, rfl⟩ | ⟨rfl, rfl, rfl, rfl⟩ <;> omega) (by unfold val; rcases ht with ⟨rfl, rfl, rfl, rfl⟩ | ⟨rfl, rfl, rfl, rfl⟩ | ⟨rfl, rfl, rfl, rfl⟩ | ⟨rfl, rfl, rfl, rfl⟩ <;> omega)
  exact oth_mk a0 a1 c0 c1 h k1.1 k1.2 k2.1 k2.2 (To.pos (p := p) (q := q) (r := r) (s := s) ⟨hdet, rfl, rfl, rfl⟩ hp (by omega))
/-- what is told fits what was gone through -/
inductive Told (a b c d e f : Int) (L : List Tn) : D → Prop
  | turn (t : Tn) : t ∈ L → Told a b c d e f L (.tup [.str "turn", tnD t])
  | least (A B C A' B' C' : Int) : L = [] → Red A B C → Red A' B' C' → [D.int A, .int B, .int C] ≠ [.int A', .int B', .int C'] → Told a b c d e f L (.tup [.str "least", f3 A B C, f3 A' B' C'])
theorem told_of {a b c d e f A B C p q r s A' B' C' p' q' r' s' : Int} {L : List Tn} (hL : allL a b c d e f L) (k : Lst a b c A B C p q r s) (l : Lst d e f A' B' C' p' q' r' s') : Told a b c d e f L (sameD A B C p q r s A' B' C' p' q' r' s') := by
  unfold sameD
  by_cases h : A = A' ∧ B = B' ∧ C = C'
  · rw [if_pos h]
    obtain ⟨rfl, rfl, rfl⟩ := h
    refine .turn (p * s' + q * -r', p * -q' + q * p', r * s' + s * -r', r * -q' + s * p') ((hL.2 _).mpr ?_)
    exact k.to.comp l.to.back
  · rw [if_neg h]
    refine .least _ _ _ _ _ _ ?_ k.red l.red fun z => h ?_
    · cases L with
      | nil => rfl
      | cons t L =>
        have ht := (hL.2 t).mp List.mem_cons_self
        exact absurd (least_same (t := (p, q, r, s)) (u := (p', q', r', s')) ht k.to l.to k.red l.red) h
    · injection z with e1 z; injection z with e2 z; injection z with e3 z
      injection e1 with e1; injection e2 with e2; injection e3 with e3
      exact ⟨e1, e2, e3⟩
theorem str_ne : (Str.ofString "least" = Str.ofString "turn") = False := eq_false (by decide)
theorem str_ne' : (Str.ofString "turn" = Str.ofString "least") = False := eq_false (by decide)
theorem own_turns_small {a b c : Int} (h1 : Tiny a b c a) (h2 : Tiny a b c c) {t : Tn} (k : ToT a b c a b c t) : smallI t.1 ∧ smallI t.2.1 ∧ smallI t.2.2.1 ∧ smallI t.2.2.2 := by
  have g1 := tiny_small h1 k.eA
  have g2 := tiny_small h2 k.eC
  refine ⟨⟨?_, ?_⟩, ⟨?_, ?_⟩, ⟨?_, ?_⟩, ⟨?_, ?_⟩⟩ <;> omega
theorem ownL_len (a b c : Int) : (ownL a b c).length ≤ 8 := by
  rw [ownL]; split <;> split <;> decide
theorem viaT_len (t : Tn) (us : List Tn) : (viaT t us).length = us.length := by unfold viaT; rw [List.length_map]
end K8

/-! k08: the law's own walk. -/
namespace K8
open PySem PySem.Spec PyProof.Rows L2 Sq
local macro_rules | `(tactic| walk_at "sq") => `(tactic| simp only [wVar_run, wC_run, wOp_run, onBl_bl, gI_run, gAdd_int, gAdd_str, gAdd_tup, gMul_int, EqB_int, EqB_str, EqB_bl, gEq_run, gNe_run, wNeg_run, wNotV_run, wAndV_run, wOrV_run, wTB_run, wNotT_run, wAndT_run, wOrT_run, wIfE_run, runAll_nil, runAll_cons, wTup_run, wLst_run, gIx_tup, gIx_rls, gIx_str, gIx_ob, wB_run, fLen_tup, fLen_rls, fLen_str, fLen_ob, fAbs_int, fInt_int, fInt_bl, fTuple_tup, fTuple_ob, wIsi_run, wCall_run, wNext_run, wSeq_run, wBreak_run, wCont_run, wNever_run, wExpr_run, wRet_run, wRetN_run, wIf_run, gN_run, runGs_nil, runGs_cons, gT_run, gS_run, sIx_ob, wAsg_run, wSet_run, wPar_run, wPar3_run, wSeqI_run, fSeq_tup, fSeq_rls, fSeq_ob, wRng1_run, fRng1_int, wRng2_run, fRng2_int, wFor_run, wLc_run, wYes_run, onLst_ob, wMt_run, fAppend_run, fExtend_run, wAug_run, bodyD_nx, bodyD_rt, bodyD_ex, wNoP_run, onInt_int, wPart_run, fSl_tup, fSl_rls, fSl_str, fSl_ob, wSl_run, gIn_run, gNotIn_run, fSorted_ob, wLstRg1_run, wChainN_run, chainRun_last, chainRun_cons, spR_run,
  Sq.gSub, gFdiv, gMod, gLt, gLe, gGt, gGe, gAddI, gPowW, gLen_run, gAbs_run, gInt_run, gAll_run, gAny_run, gSum_run, gTuple_run, gList_run, gSorted_run, gRepr_run, gMax2_run, gMin2_run, gAppend_run, gExtend_run, CT.set_one, CT.set_many, CT.slots, setAll, wipeE, lcG_nil,
  List.getElem?_cons_zero, List.getElem?_cons_succ, List.getElem?_nil, Int.cast_ofNat_Int, List.set_cons_zero, List.set_cons_succ, List.length_cons, List.length_nil, ev0, List.map_cons, List.map_nil, List.cons_append, List.nil_append, List.replicate_succ, List.replicate_zero, Nat.reduceSub, Nat.reduceAdd, mset_same, decide_true, decide_false, if_true, if_false, ite_true, ite_false, Bool.false_eq_true, Bool.true_eq_false, reduceCtorEq, Bool.not_true, Bool.not_false, true_and, and_true, decide_eq_true_eq, Bool.not_eq_true', decide_eq_false_iff_not, ite_not, isA, atI_0, atI_1, atI_2, atI_3, atI_m4, ixN_0, ixN_1, ixN_30, ixN_31, ixN_32])
theorem oks {L : List Tn} : ∀ d ∈ sortT L, okD d = true := fun d hd => by
  obtain ⟨t, _, rfl⟩ := sortT_mem hd
  exact okt4 _ _ _ _
theorem nlt : ¬(Str.ofString "least" = Str.ofString "turn") := by decide
theorem ntl : ¬(Str.ofString "turn" = Str.ofString "least") := by decide
theorem own_check {a b c : Int} (hr : Red a b c) (hb : Bd a b c) (hb2 : Bd a (4 * a + b) (4 * a + 2 * b + c)) {μ : Mu} {Q : PQ} {X : XQ} (q : ∀ ds : List D, ds.length = (ownL a b c).length → Q (.tup ds) μ) :
    S_law_turned.run [f3 a b c, t4 1 2 0 1] μ (fun d μ1 => Sown_turns.run [d] μ1 Q X) X := by
  have hp := hr.ps
  refine ⟨_, ⟨a, b, c, 1, 2, 0, 1, rfl, .mk (by have := hb.2.2.1; omega) (by have := hb.2.2.2.1; omega), ⟨by decide, by decide⟩, ⟨by decide, by decide⟩, ⟨by decide, by decide⟩, ⟨by decide, by decide⟩, rfl⟩, ?_⟩
  have tt : To a b c (val a b c 1 0) (mid a b c 1 2 0 1) (val a b c 2 1) 1 2 0 1 := ⟨by decide, rfl, rfl, rfl⟩
  have e1 : val a b c 1 0 = a := by unfold val; grind
  have e2 : mid a b c 1 2 0 1 = 4 * a + b := by unfold mid; grind
  have e3 : val a b c 2 1 = 4 * a + 2 * b + c := by unfold val; grind
  rw [e1, e2, e3] at tt ⊢
  refine ⟨_, _, _, rfl, hb2, tt.pos hp hr.pos, fun A B C p q' r s us k pu => ?_⟩
  obtain ⟨rfl, rfl, rfl⟩ := red_uniq (ToT.comp (t := (1, 2, 0, 1)) (u := (p, q', r, s)) tt k.to) hr k.red
  exact q _ (by rw [sortT_len, viaT_len, pu.length_eq])
theorem rd_law_right (ds : List D) (μ : Mu) (Q : PQ) (X : XQ) (hl : ds.length = 1) (h : S_law_right.run ds μ Q X) : w_law_right.run (bodyD Q X) (ev0 9 ds) μ := by
  obtain ⟨p, rfl, hp, q⟩ := h
  unfold w_law_right
  refine seq_by (fun ρ μ' => PotX 1000 μ μ' p) ?_ ?_
  · walk_at "sq"
    refine ⟨by decide, by decide, ?_⟩
    refine forW_by (fun i ρ μ' => (∃ e1 e2 e3 e4 e5 e6 e7 e8, ρ = [some (.ob p), e1, e2, e3, e4, e5, e6, e7, e8]) ∧ PotX (100 * i) μ μ' p) (fun _ _ _ _ _ => trivial) ?_ (fun ρ μ' ⟨_, hx⟩ => hx.mono (by decide)) ⟨⟨_, _, _, _, _, _, _, _, rfl⟩, .refl hp⟩
    rintro i x ρ μ1 hi ⟨⟨e1, e2, e3, e4, e5, e6, e7, e8, rfl⟩, hx⟩
    obtain ⟨hi4, rfl⟩ := rangeD_get hi
    have hi4' : i < 4 := hi4
    rw [gN_run]
    simp only [List.set_cons_zero, List.set_cons_succ]
    refine seq_by (fun ρ μ2 => ∃ e1 a b c, ρ = [some (.ob p), e1, some (f3 a b c), e3, e4, e5, e6, e7, e8] ∧ Bd a b c ∧ Pos a b c ∧ PotX (100 * i + 4) μ μ2 p) ?_ ?_
    · walk_at "sq"
      refine ⟨⟨by decide, 4, by decide, by decide⟩, fun l hl => ⟨p, l, 100 * i, _, rfl, hx.1.new hl, by omega, mset_same _ _ _, by simp, by simp, fun z => hx.1.ne hl z.symm, fun d μ2 hd k1 => ?_⟩⟩
      obtain ⟨m, rfl, m0, m1⟩ : ∃ m : Int, d = .int m ∧ 0 < m ∧ m ≤ 100000 := by
        simp only [List.mem_cons, List.not_mem_nil, or_false] at hd
        rcases hd with rfl | rfl | rfl
        · exact ⟨5, rfl, by decide, by decide⟩
        · exact ⟨60, rfl, by decide, by decide⟩
        · exact ⟨_, rfl, by decide, by decide⟩
      have hx2 := (hx.new hl).step k1
      refine ⟨p, m, 100 * i + 1, rfl, hx2.1, by omega, m0, m1, fun a b c μ3 a0 a1 c0 c1 hb k2 => ?_⟩
      have hac : a * c ≤ 100000 * 100000 := Int.mul_le_mul (by omega) (by omega) (by omega) (by decide)
      have e : 4 * a * c = 4 * (a * c) := by rw [Int.mul_assoc]
      have hbb := abs_le_of_sq (x := b) (y := 200000) (by decide) (by omega)
      exact ⟨_, a, b, c, rfl, ⟨by omega, by omega, by omega, by omega, by omega, by omega⟩, ⟨by omega, hb⟩, hx2.step k2⟩
    rintro ρ μ2 ⟨e1', a0, b0, c0, rfl, hbd0, hpos0, hx2⟩
    refine seq_by (fun ρ μ3 => (∃ e1 e2, ρ = [some (.ob p), e1, e2, e3, e4, e5, e6, e7, e8]) ∧ PotX (100 * i + 24) μ μ3 p) ?_ ?_
    · walk_at "sq"
      refine ⟨p, 100 * i + 4, rfl, hx2.1, by omega, fun t1 t2 t3 t4' μ3 hdet s1 s2 s3 s4 k => ?_⟩
      refine ⟨_, ⟨a0, b0, c0, t1, t2, t3, t4', rfl, hbd0, hpos0, hdet, s1, s2, s3, s4, rfl⟩, ?_⟩
      walk_at "sq"
      exact ⟨⟨_, _, rfl⟩, hx2.step k⟩
    rintro ρ μ3 ⟨⟨e1'', e2'', rfl⟩, hx3⟩
    refine seq_by (fun ρ μ4 => ∃ a b c d e f, (∃ e1 e2, ρ = [some (.ob p), e1, e2, some (f3 a b c), some (f3 d e f), e5, e6, e7, e8]) ∧ (1 ≤ a ∧ a ≤ 4 ∧ 1 ≤ c ∧ c ≤ 4 ∧ b * b < 4 * a * c) ∧ Oth a b c d e f ∧ PotX (100 * i + 30) μ μ4 p) ?_ ?_
    · walk_at "sq"
      refine ⟨p, 4, 100 * i + 24, rfl, hx3.1, by omega, by decide, by decide, fun a b c μ4 a0 a1 c0 c1 hb k1 => ?_⟩
      have hx4 := hx3.step k1
      refine ⟨p, 4, 100 * i + 27, rfl, hx4.1, by omega, by decide, by decide, fun d e f μ5 d0 d1 f0 f1 he k2 => ?_⟩
      exact ⟨a, b, c, d, e, f, ⟨_, _, rfl⟩, ⟨a0, a1, c0, c1, hb⟩, oth_mk a0 a1 c0 c1 hb d0 (by omega) f0 (by omega) ⟨by omega, he⟩, hx4.step k2⟩
    rintro ρ μ4 ⟨a, b, c, d, e, f, ⟨e1', e2', rfl⟩, ⟨a0, a1, c0, c1, hb⟩, hoth, hx4⟩
    refine seq_by (fun ρ μ5 => ∃ d e f, (∃ e1 e2, ρ = [some (.ob p), e1, e2, some (f3 a b c), some (f3 d e f), e5, e6, e7, e8]) ∧ Oth a b c d e f ∧ PotX (100 * i + 32) μ μ5 p) ?_ ?_
    · walk_at "sq"
      refine ⟨p, 2, 100 * i + 30, rfl, hx4.1, by omega, by decide, by decide, fun k μ5 k0 k1 hk => ?_⟩
      have hx5 := hx4.step hk
      walk_at "sq"
      by_cases hk0 : k = 0
      · rw [if_pos hk0]
        intro l hl
        refine ⟨p, l, 100 * i + 31, _, rfl, hx5.1.new hl, by omega, mset_same _ _ _, by simp, by simp, fun z => hx5.1.ne hl z.symm, fun t μ6 ht k6 => ?_⟩
        have hx6 := (hx5.new hl).step k6
        have hbb := small_b a0 a1 c0 c1 hb
        have fin : ∀ tp tq tr ts : Int, t = t4 tp tq tr ts → (tp, tq, tr, ts) ∈ ([(1, 1, 0, 1), (0, -1, 1, 0), (1, 0, -1, 1), (2, 1, 1, 1)] : List Tn) → Small tp → Small tq → Small tr → Small ts →
            S_law_turned.run [f3 a b c, t] μ6 (fun d μ1_1 => ∃ d_1 e f, (∃ e1 e2, [some (.ob p), e1', e2', some (f3 a b c), some d, e5, e6, e7, e8] = [some (D.ob p), e1, e2, some (f3 a b c), some (f3 d_1 e f), e5, e6, e7, e8]) ∧ Oth a b c d_1 e f ∧ PotX (100 * i + 32) μ μ1_1 p) (SubX X) := by
          intro tp tq tr ts e hmem s1 s2 s3 s4
          subst e
          refine ⟨_, ⟨a, b, c, tp, tq, tr, ts, rfl, .mk (by omega) (by omega), s1, s2, s3, s4, rfl⟩, _, _, _, ⟨_, _, rfl⟩, oth_turned a0 a1 c0 c1 hb hmem, hx6⟩
        simp only [List.mem_cons, List.not_mem_nil, or_false] at ht
        rcases ht with rfl | rfl | rfl | rfl
        · exact fin 1 1 0 1 rfl (by simp) ⟨by decide, by decide⟩ ⟨by decide, by decide⟩ ⟨by decide, by decide⟩ ⟨by decide, by decide⟩
        · exact fin 0 (-1) 1 0 rfl (by simp) ⟨by decide, by decide⟩ ⟨by decide, by decide⟩ ⟨by decide, by decide⟩ ⟨by decide, by decide⟩
        · exact fin 1 0 (-1) 1 rfl (by simp) ⟨by decide, by decide⟩ ⟨by decide, by decide⟩ ⟨by decide, by decide⟩ ⟨by decide, by decide⟩
        · exact fin 2 1 1 1 rfl (by simp) ⟨by decide, by decide⟩ ⟨by decide, by decide⟩ ⟨by decide, by decide⟩ ⟨by decide, by decide⟩
      · rw [if_neg hk0]
        exact ⟨d, e, f, ⟨_, _, rfl⟩, hoth, hx5.mono (by omega)⟩
    rintro ρ μ5 ⟨d', e', f', ⟨e1'', e2''', rfl⟩, ⟨td, tf, bd1, ps1, bd2, ps2, ta, tc⟩, hx5⟩
    refine seq_by (fun ρ μ6 => ∃ L l t, (∃ e1 e2, ρ = [some (.ob p), e1, e2, some (f3 a b c), some (f3 d' e' f'), some (.ob l), some t, e7, e8]) ∧ allL a b c d' e' f' L ∧ Told a b c d' e' f' L t ∧ μ6 l = some (.lst (sortT L)) ∧ PotX (100 * i + 32) μ μ6 p) ?_ ?_
    · walk_at "sq"
      refine ⟨a, b, c, d', e', f', rfl, td, tf, fun L l hL hl => ?_⟩
      refine ⟨a, b, c, d', e', f', rfl, bd1, ps1, bd2, ps2, fun A B C p1 q1 r1 s1 A' B' C' p2 q2 r2 s2 k k' => ?_⟩
      exact ⟨L, l, _, ⟨_, _, rfl⟩, hL, told_of hL k k', mset_same _ _ _, hx5.new hl⟩
    rintro ρ μ6 ⟨L, l, t, ⟨e1', e2', rfl⟩, hL, hT, hl6, hx6⟩
    refine seq_by (fun ρ μ7 => (∃ e1 e2, ρ = [some (.ob p), e1, e2, some (f3 a b c), some (f3 d' e' f'), some (.ob l), some t, e7, e8]) ∧ μ7 l = some (.lst (sortT L)) ∧ PotX (100 * i + 32) μ μ7 p) ?_ ?_
    · cases hT with
      | turn t ht =>
        walk_at "sq"
        intro l2 hl2
        refine EqB_lst (at_new hl6 hl2) (mset_same _ _ _) oks (fun _ z => nomatch z) (fun z => ?_) fun _ => ?_
        · have := sortT_len L
          rw [z] at this
          rw [List.eq_nil_of_length_eq_zero this.symm] at ht
          cases ht
        · walk_at "sq"
          exact ⟨⟨_, _, rfl⟩, at_new hl6 hl2, hx6.new hl2⟩
      | least A B C A' B' C' hn r1 r2 hne =>
        walk_at "sq"
        intro l2 hl2
        refine EqB_lst (at_new hl6 hl2) (mset_same _ _ _) oks (fun _ z => nomatch z) (fun z => ?_) fun z => ?_
        · walk_at "sq"
          rw [if_neg nlt]
          exact ⟨⟨_, _, rfl⟩, at_new hl6 hl2, hx6.new hl2⟩
        · rw [hn] at z
          exact absurd (by simp [sortT]) z
    rintro ρ μ7 ⟨⟨e1'', e2'', rfl⟩, hl7, hx7⟩
    refine seq_by (fun ρ μ8 => (∃ e1 e2, ρ = [some (.ob p), e1, e2, some (f3 a b c), some (f3 d' e' f'), some (.ob l), some t, e7, e8]) ∧ PotX (100 * i + 32) μ μ8 p) ?_ ?_
    · cases hT with
      | turn t ht =>
        walk_at "sq"
        refine InP_lst hl7 (okt4 _ _ _ _) oks (fun _ => ?_) fun z => absurd ?_ z
        · walk_at "sq"
          exact ⟨⟨_, _, rfl⟩, hx7⟩
        · unfold sortT
          exact List.mem_mergeSort.mpr (List.mem_map.mpr ⟨t, ht, rfl⟩)
      | least A B C A' B' C' hn r1 r2 hne =>
        walk_at "sq"
        rw [if_neg nlt]
        exact ⟨⟨_, _, rfl⟩, hx7⟩
    rintro ρ μ8 ⟨⟨e1', e2', rfl⟩, hx8⟩
    refine seq_by (fun ρ μ9 => (∃ e1 e2 e5 e6 e7, ρ = [some (.ob p), e1, e2, some (f3 a b c), some (f3 d' e' f'), e5, e6, e7, e8]) ∧ PotX (100 * i + 32) μ μ9 p) ?_ ?_
    · cases hT with
      | turn t ht =>
        walk_at "sq"
        rw [if_neg ntl]
        exact ⟨⟨_, _, _, _, _, rfl⟩, hx8⟩
      | least A B C A' B' C' hn r1 r2 hne =>
        walk_at "sq"
        have ecut : Sq.cutD [D.str (Str.ofString "least"), f3 A B C, f3 A' B' C'] (some 1) none = [f3 A B C, f3 A' B' C'] := rfl
        rw [ecut]
        refine ⟨small_size (show 2 ≤ 16000000 by decide), lcG_map (fun _ => .bl true) trivial (fun x hx => ?_) fun l2 hl2 => ?_⟩
        · simp only [List.mem_cons, List.not_mem_nil, or_false] at hx
          rcases hx with rfl | rfl
          · exact ⟨_, rfl, by
              walk_at "sq"
              exact ⟨_, ⟨A, B, C, rfl, rfl⟩, rfl, by rw [decide_eq_true r1]⟩⟩
          · exact ⟨_, rfl, by
              walk_at "sq"
              exact ⟨_, ⟨A', B', C', rfl, rfl⟩, rfl, by rw [decide_eq_true r2]⟩⟩
        · refine ⟨l2, [true, true], rfl, mset_same _ _ _, ?_⟩
          walk_at "sq"
          rw [if_neg (by decide : ¬(([true, true] : List Bool).all id = false))]
          refine EqB_tup (okf3 A B C) (okf3 A' B' C') (fun z => absurd z hne) fun _ => ?_
          walk_at "sq"
          exact ⟨⟨_, _, _, _, _, rfl⟩, hx8.new hl2⟩
    rintro ρ μ9 ⟨⟨e1'', e2''', e5', e6', e7', rfl⟩, hx9⟩
    refine seq_by (fun ρ μ10 => (∃ e1 e2 e3 e4 e5 e6 e7, ρ = [some (.ob p), e1, e2, e3, e4, e5, e6, e7, e8]) ∧ PotX (100 * i + 32) μ μ10 p) ?_ ?_
    · walk_at "sq"
      refine ⟨a, b, c, rfl, bd1, ps1, fun A B C p1 q1 r1 s1 us k pu => ?_⟩
      have hv := via_all (t := (p1, q1, r1, s1)) k.to k.red pu
      have hlen : (viaT (p1, q1, r1, s1) us).length ≤ 10 := by
        rw [viaT_len, pu.length_eq]
        exact Nat.le_trans (ownL_len A B C) (by decide)
      refine repr_turns hlen (fun t ht => own_turns_small ta tc ((hv.2 t).mp ht)) ?_
      refine ⟨a, b, c, a, b, c, rfl, ta, tc, fun M l3 hM hl3 => ?_⟩
      walk_at "sq"
      rw [← sortT_perm (all_perm hv hM)]
      refine repr_turns hlen (fun t ht => own_turns_small ta tc ((hv.2 t).mp ht)) ?_
      walk_at "sq"
      exact ⟨⟨_, _, _, _, _, _, _, rfl⟩, hx9.new hl3⟩
    rintro ρ μ10 ⟨⟨e1', e2', e3', e4', e5'', e6'', e7'', rfl⟩, hx10⟩
    walk_at "sq"
    intro l4 hl4
    refine forW_by (fun j ρ μ' => (∃ e1 e2 e3 e4 e5 e6 e7 e8, ρ = [some (.ob p), e1, e2, e3, e4, e5, e6, e7, e8]) ∧ PotX (100 * (i + 1)) μ μ' p ∧ μ' l4 = some (.lst [f3 1 0 1, f3 3 3 3, f3 2 0 2, f3 2 1 3])) (fun _ _ _ _ h => h.2.2) ?_ ?_ ⟨⟨_, _, _, _, _, _, _, _, rfl⟩, (hx10.new hl4).mono (by omega), mset_same _ _ _⟩
    rotate_left
    · rintro ρ μ' ⟨h1, h2, _⟩
      exact ⟨h1, h2⟩
    rintro j x ρ μ11 hj ⟨⟨e1, e2, e3, e4, e5, e6, e7, e8, rfl⟩, hx11, h11⟩
    match j, hj with
    | 0, hj =>
      cases hj
      walk_at "sq"
      refine own_check (by decide) (by decide) (by decide) fun ds hds => ?_
      walk_at "sq"
      rw [hds, if_pos (by decide)]
      exact ⟨⟨_, _, _, _, _, _, _, _, rfl⟩, hx11, h11⟩
    | 1, hj =>
      cases hj
      walk_at "sq"
      refine own_check (by decide) (by decide) (by decide) fun ds hds => ?_
      walk_at "sq"
      rw [hds, if_neg (by decide), if_pos (by decide)]
      exact ⟨⟨_, _, _, _, _, _, _, _, rfl⟩, hx11, h11⟩
    | 2, hj =>
      cases hj
      walk_at "sq"
      refine own_check (by decide) (by decide) (by decide) fun ds hds => ?_
      walk_at "sq"
      rw [hds, if_pos (by decide)]
      exact ⟨⟨_, _, _, _, _, _, _, _, rfl⟩, hx11, h11⟩
    | 3, hj =>
      cases hj
      walk_at "sq"
      refine own_check (by decide) (by decide) (by decide) fun ds hds => ?_
      walk_at "sq"
      rw [hds, if_neg (by decide), if_neg (by decide), if_pos (by decide)]
      exact ⟨⟨_, _, _, _, _, _, _, _, rfl⟩, hx11, h11⟩
  intro ρ μ' hx
  walk_at "sq"
  exact hx.sub q
theorem rd_law (ds : List D) (μ : Mu) (Q : PQ) (X : XQ) (hl : ds.length = 1) (h : Slaw.run ds μ Q X) : wlaw.run (bodyD Q X) (ev0 2 ds) μ := by
  obtain ⟨r, ⟨ns, rfl, hn, rfl⟩, q⟩ := h
  unfold wlaw
  walk_at "sq"
  refine ⟨ns, 3, rfl, hn, by decide, by decide, fun l k hl hk => ?_⟩
  walk_at "sq"
  refine ⟨by rw [rangeD_len]; exact small_size (by omega), ?_⟩
  refine lcG_by (fun i acc μ' => Ext μ μ' ∧ μ' l = some (.lst (rangeD 0 k)) ∧ acc = (List.replicate i true).map D.bl) (fun _ _ _ _ h => h.2.1) ?_ ?_ ⟨(Ext.refl _).new hl, mset_same _ _ _, rfl⟩
  · rintro i d acc μ1 hi ⟨e1, h1, rfl⟩
    obtain ⟨hi2, rfl⟩ := rangeD_get hi
    refine ⟨_, rfl, ?_⟩
    walk_at "sq"
    refine ⟨ns, _, rfl, hn, by omega, by omega, fun p μ2 hp k2 => ?_⟩
    refine ⟨p, rfl, k2.1, fun μ3 k3 => ?_⟩
    have hlp : l ≠ p := ne_free h1 hp
    refine ⟨fun a o ha => ?_, ?_, ?_⟩
    · have hap : a ≠ p := ne_free (e1 a o ha) hp
      rw [k3.2 a hap, k2.2 a hap]
      exact e1 a o ha
    · rw [k3.2 l hlp, k2.2 l hlp]; exact h1
    · show _ = (List.replicate (i + 1) true).map D.bl
      rw [List.replicate_succ', List.map_append]; rfl
  · rintro acc μ1 ⟨e1, h1, rfl⟩ p hp
    refine ⟨p, List.replicate (rangeD 0 k).length true, rfl, mset_same _ _ _, ?_⟩
    have e : (List.replicate (rangeD 0 k).length true).all id = true := by simp
    rw [e]
    exact .ext q (e1.new hp)
end K8

/-! The end, printed by genz.py. -/
namespace K8
open PySem PySem.Spec PyProof.Rows L2 Sq
/-- what the top has written of the def x -/
structure DefAt (K : PySem.W.Frag) (x : Str) (st : Stmt) (f : Addr) (oc : Value) (od : Option Addr) (kV dc pm : Value) (an : Option Addr) (cd ct : Value) (sl : Array (Option Value)) : Prop where
  a : PySem.W.nsIn K mainGlobals x = some (some (.ref f))
  l : K.lookup f = some ⟨oc, od, .func (PySem.W.fnOf x x (defArgs st) (defBody st) (defScope st) .none kV dc pm an cd ct), sl⟩
  c : PySem.W.codeIn K cd x = true
  k : PySem.W.keepIn K (.ref f) = true
theorem all_mk {l : PySem.W.OpenLaw} {w : World} {K : PySem.W.Frag} {h : Heap} {mg : Str → Option Value} {fa : Addr} (X : K.In h) (G : h.Ns mainGlobals mg) (hfa : mg "law" = some (.ref fa))
    {f0 f1 f2 f3 f4 f5 f6 f7 f8 f9 f10 f11 f12 f13 f14 f15 f16 f17 f18 f19 f20 f21 f22 f23 f24 f25 f26 f27 f28 f29 f30 f31 f32 f33 f34 f35 f36 f37 : Addr} {od0 an0 od1 an1 od2 an2 od3 an3 od4 an4 od5 an5 od6 an6 od7 an7 od8 an8 od9 an9 od10 an10 od11 an11 od12 an12 od13 an13 od14 an14 od15 an15 od16 an16 od17 an17 od18 an18 od19 an19 od20 an20 od21 an21 od22 an22 od23 an23 od24 an24 od25 an25 od26 an26 od27 an27 od28 an28 od29 an29 od30 an30 od31 an31 od32 an32 od33 an33 od34 an34 od35 an35 od36 an36 od37 an37 : Option Addr} {sl0 sl1 sl2 sl3 sl4 sl5 sl6 sl7 sl8 sl9 sl10 sl11 sl12 sl13 sl14 sl15 sl16 sl17 sl18 sl19 sl20 sl21 sl22 sl23 sl24 sl25 sl26 sl27 sl28 sl29 sl30 sl31 sl32 sl33 sl34 sl35 sl36 sl37 : Array (Option Value)} {oc0 kV0 dc0 pm0 cd0 ct0 oc1 kV1 dc1 pm1 cd1 ct1 oc2 kV2 dc2 pm2 cd2 ct2 oc3 kV3 dc3 pm3 cd3 ct3 oc4 kV4 dc4 pm4 cd4 ct4 oc5 kV5 dc5 pm5 cd5 ct5 oc6 kV6 dc6 pm6 cd6 ct6 oc7 kV7 dc7 pm7 cd7 ct7 oc8 kV8 dc8 pm8 cd8 ct8 oc9 kV9 dc9 pm9 cd9 ct9 oc10 kV10 dc10 pm10 cd10 ct10 oc11 kV11 dc11 pm11 cd11 ct11 oc12 kV12 dc12 pm12 cd12 ct12 oc13 kV13 dc13 pm13 cd13 ct13 oc14 kV14 dc14 pm14 cd14 ct14 oc15 kV15 dc15 pm15 cd15 ct15 oc16 kV16 dc16 pm16 cd16 ct16 oc17 kV17 dc17 pm17 cd17 ct17 oc18 kV18 dc18 pm18 cd18 ct18 oc19 kV19 dc19 pm19 cd19 ct19 oc20 kV20 dc20 pm20 cd20 ct20 oc21 kV21 dc21 pm21 cd21 ct21 oc22 kV22 dc22 pm22 cd22 ct22 oc23 kV23 dc23 pm23 cd23 ct23 oc24 kV24 dc24 pm24 cd24 ct24 oc25 kV25 dc25 pm25 cd25 ct25 oc26 kV26 dc26 pm26 cd26 ct26 oc27 kV27 dc27 pm27 cd27 ct27 oc28 kV28 dc28 pm28 cd28 ct28 oc29 kV29 dc29 pm29 cd29 ct29 oc30 kV30 dc30 pm30 cd30 ct30 oc31 kV31 dc31 pm31 cd31 ct31 oc32 kV32 dc32 pm32 cd32 ct32 oc33 kV33 dc33 pm33 cd33 ct33 oc34 kV34 dc34 pm34 cd34 ct34 oc35 kV35 dc35 pm35 cd35 ct35 oc36 kV36 dc36 pm36 cd36 ct36 oc37 kV37 dc37 pm37 cd37 ct37 : Value} {tk_ABOVE tk_BELOW tk_LEAST tk_MOST_PART tk_TURN : Tok}
    (h0 : DefAt K "is_whole" sis_whole f0 oc0 od0 kV0 dc0 pm0 an0 cd0 ct0 sl0)
    (h1 : DefAt K "are_wholes" sare_wholes f1 oc1 od1 kV1 dc1 pm1 an1 cd1 ct1 sl1)
    (h2 : DefAt K "are_ints" sare_ints f2 oc2 od2 kV2 dc2 pm2 an2 cd2 ct2 sl2)
    (h3 : DefAt K "is_form" sis_form f3 oc3 od3 kV3 dc3 pm3 an3 cd3 ct3 sl3)
    (h4 : DefAt K "look_at_form" slook_at_form f4 oc4 od4 kV4 dc4 pm4 an4 cd4 ct4 sl4)
    (h5 : DefAt K "told_size" stold_size f5 oc5 od5 kV5 dc5 pm5 an5 cd5 ct5 sl5)
    (h6 : DefAt K "told_value" stold_value f6 oc6 od6 kV6 dc6 pm6 an6 cd6 ct6 sl6)
    (h7 : DefAt K "told_kind" stold_kind f7 oc7 od7 kV7 dc7 pm7 an7 cd7 ct7 sl7)
    (h8 : DefAt K "told_turned" stold_turned f8 oc8 od8 kV8 dc8 pm8 an8 cd8 ct8 sl8)
    (h9 : DefAt K "told_then" stold_then f9 oc9 od9 kV9 dc9 pm9 an9 cd9 ct9 sl9)
    (h10 : DefAt K "told_back" stold_back f10 oc10 od10 kV10 dc10 pm10 an10 cd10 ct10 sl10)
    (h11 : DefAt K "look_at_above" slook_at_above f11 oc11 od11 kV11 dc11 pm11 an11 cd11 ct11 sl11)
    (h12 : DefAt K "is_least" sis_least f12 oc12 od12 kV12 dc12 pm12 an12 cd12 ct12 sl12)
    (h13 : DefAt K "told_least" stold_least f13 oc13 od13 kV13 dc13 pm13 an13 cd13 ct13 sl13)
    (h14 : DefAt K "least_form" sleast_form f14 oc14 od14 kV14 dc14 pm14 an14 cd14 ct14 sl14)
    (h15 : DefAt K "look_at_two" slook_at_two f15 oc15 od15 kV15 dc15 pm15 an15 cd15 ct15 sl15)
    (h16 : DefAt K "same_above" ssame_above f16 oc16 od16 kV16 dc16 pm16 an16 cd16 ct16 sl16)
    (h17 : DefAt K "told_own" stold_own f17 oc17 od17 kV17 dc17 pm17 an17 cd17 ct17 sl17)
    (h18 : DefAt K "own_turns" sown_turns f18 oc18 od18 kV18 dc18 pm18 an18 cd18 ct18 sl18)
    (h19 : DefAt K "_law_pot" s_law_pot f19 oc19 od19 kV19 dc19 pm19 an19 cd19 ct19 sl19)
    (h20 : DefAt K "_law_take" s_law_take f20 oc20 od20 kV20 dc20 pm20 an20 cd20 ct20 sl20)
    (h21 : DefAt K "_law_of" s_law_of f21 oc21 od21 kV21 dc21 pm21 an21 cd21 ct21 sl21)
    (h22 : DefAt K "_law_cells" s_law_cells f22 oc22 od22 kV22 dc22 pm22 an22 cd22 ct22 sl22)
    (h23 : DefAt K "_law_is_int" s_law_is_int f23 oc23 od23 kV23 dc23 pm23 an23 cd23 ct23 sl23)
    (h24 : DefAt K "_law_root" s_law_root f24 oc24 od24 kV24 dc24 pm24 an24 cd24 ct24 sl24)
    (h25 : DefAt K "_law_value" s_law_value f25 oc25 od25 kV25 dc25 pm25 an25 cd25 ct25 sl25)
    (h26 : DefAt K "_law_turned" s_law_turned f26 oc26 od26 kV26 dc26 pm26 an26 cd26 ct26 sl26)
    (h27 : DefAt K "_law_is_turn" s_law_is_turn f27 oc27 od27 kV27 dc27 pm27 an27 cd27 ct27 sl27)
    (h28 : DefAt K "_law_then" s_law_then f28 oc28 od28 kV28 dc28 pm28 an28 cd28 ct28 sl28)
    (h29 : DefAt K "_law_turn_drawn" s_law_turn_drawn f29 oc29 od29 kV29 dc29 pm29 an29 cd29 ct29 sl29)
    (h30 : DefAt K "_law_is_form" s_law_is_form f30 oc30 od30 kV30 dc30 pm30 an30 cd30 ct30 sl30)
    (h31 : DefAt K "_law_above_drawn" s_law_above_drawn f31 oc31 od31 kV31 dc31 pm31 an31 cd31 ct31 sl31)
    (h32 : DefAt K "_law_letters" s_law_letters f32 oc32 od32 kV32 dc32 pm32 an32 cd32 ct32 sl32)
    (h33 : DefAt K "_law_all_turns" s_law_all_turns f33 oc33 od33 kV33 dc33 pm33 an33 cd33 ct33 sl33)
    (h34 : DefAt K "_law_is_least" s_law_is_least f34 oc34 od34 kV34 dc34 pm34 an34 cd34 ct34 sl34)
    (h35 : DefAt K "_law_is_form_right" s_law_is_form_right f35 oc35 od35 kV35 dc35 pm35 an35 cd35 ct35 sl35)
    (h36 : DefAt K "_law_right" s_law_right f36 oc36 od36 kV36 dc36 pm36 an36 cd36 ct36 sl36)
    (h37 : DefAt K "law" slaw f37 oc37 od37 kV37 dc37 pm37 an37 cd37 ct37 sl37)
    (z_abs : PySem.W.nsIn K mainGlobals "abs" = some none)
    (z_all : PySem.W.nsIn K mainGlobals "all" = some none)
    (z_bool : PySem.W.nsIn K mainGlobals "bool" = some none)
    (z_int : PySem.W.nsIn K mainGlobals "int" = some none)
    (z_isinstance : PySem.W.nsIn K mainGlobals "isinstance" = some none)
    (z_len : PySem.W.nsIn K mainGlobals "len" = some none)
    (z_list : PySem.W.nsIn K mainGlobals "list" = some none)
    (z_max : PySem.W.nsIn K mainGlobals "max" = some none)
    (z_min : PySem.W.nsIn K mainGlobals "min" = some none)
    (z_range : PySem.W.nsIn K mainGlobals "range" = some none)
    (z_repr : PySem.W.nsIn K mainGlobals "repr" = some none)
    (z_sorted : PySem.W.nsIn K mainGlobals "sorted" = some none)
    (z_sum : PySem.W.nsIn K mainGlobals "sum" = some none)
    (z_tuple : PySem.W.nsIn K mainGlobals "tuple" = some none)
    (c_ABOVE : PySem.W.nsIn K mainGlobals "ABOVE" = some (some (.str "above" tk_ABOVE)))
    (c_BELOW : PySem.W.nsIn K mainGlobals "BELOW" = some (some (.str "below" tk_BELOW)))
    (c_LEAST : PySem.W.nsIn K mainGlobals "LEAST" = some (some (.str "least" tk_LEAST)))
    (c_MOST_PART : PySem.W.nsIn K mainGlobals "MOST_PART" = some (some (.int 1000000 tk_MOST_PART)))
    (c_TURN : PySem.W.nsIn K mainGlobals "TURN" = some (some (.str "turn" tk_TURN)))
    : ∃ fd : FuncData, (∀ (s : Shared) (v : Value), BindsTo s fd ⟨[v], []⟩ [("script", v)]) ∧ ∀ base : Heap, K.In base → base.Ns mainGlobals mg → RunOk l.prog w K mg base 10 fa fd ["script"] (spOf K 1 Slaw) := by
  have e := hfa.symm.trans (PySem.W.mg_of X G h37.a)
  cases e
  have T : Txt mg := ⟨PySem.W.mg_none_of X G z_abs, PySem.W.mg_none_of X G z_all, PySem.W.mg_none_of X G z_bool, PySem.W.mg_none_of X G z_int, PySem.W.mg_none_of X G z_isinstance, PySem.W.mg_none_of X G z_len, PySem.W.mg_none_of X G z_list, PySem.W.mg_none_of X G z_max, PySem.W.mg_none_of X G z_min, PySem.W.mg_none_of X G z_range, PySem.W.mg_none_of X G z_repr, PySem.W.mg_none_of X G z_sorted, PySem.W.mg_none_of X G z_sum, PySem.W.mg_none_of X G z_tuple, ⟨_, PySem.W.mg_of X G c_ABOVE⟩, ⟨_, PySem.W.mg_of X G c_BELOW⟩, ⟨_, PySem.W.mg_of X G c_LEAST⟩, ⟨_, PySem.W.mg_of X G c_MOST_PART⟩, ⟨_, PySem.W.mg_of X G c_TURN⟩⟩
  refine ⟨PySem.W.fnOf "law" "law" (defArgs slaw) (defBody slaw) (defScope slaw) .none kV37 dc37 pm37 an37 cd37 ct37, fun s v => .of_eq rfl, fun base _ _ => ?_⟩
  have g_is_whole := fun_mk (st := sis_whole) h0.l h0.c h0.k
  have F_is_whole : FnD l.prog w K mg base 1 "is_whole" ["value"] [] Sis_whole := fn_ok g_is_whole sc_is_whole (PySem.W.mg_of X G h0.a) (g_is_whole.binds fun _ _ _ _ _ _ us hl => match us, hl with | [_], _ => rfl) (fun _ h => nomatch h) wis_whole (fun cdv A outer s H E hg hr => der_is_whole T cdv A outer s H E hg hr) rd_is_whole
  have g_told_size := fun_mk (st := stold_size) h5.l h5.c h5.k
  have F_told_size : FnD l.prog w K mg base 1 "told_size" ["form"] [] Stold_size := fn_ok g_told_size sc_told_size (PySem.W.mg_of X G h5.a) (g_told_size.binds fun _ _ _ _ _ _ us hl => match us, hl with | [_], _ => rfl) (fun _ h => nomatch h) wtold_size (fun cdv A outer s H E hg hr => der_told_size T cdv A outer s H E hg hr) rd_told_size
  have g_told_value := fun_mk (st := stold_value) h6.l h6.c h6.k
  have F_told_value : FnD l.prog w K mg base 1 "told_value" ["form", "x", "y"] [] Stold_value := fn_ok g_told_value sc_told_value (PySem.W.mg_of X G h6.a) (g_told_value.binds fun _ _ _ _ _ _ us hl => match us, hl with | [_, _, _], _ => rfl) (fun _ h => nomatch h) wtold_value (fun cdv A outer s H E hg hr => der_told_value T cdv A outer s H E hg hr) rd_told_value
  have g_told_then := fun_mk (st := stold_then) h9.l h9.c h9.k
  have F_told_then : FnD l.prog w K mg base 1 "told_then" ["one", "other"] [] Stold_then := fn_ok g_told_then sc_told_then (PySem.W.mg_of X G h9.a) (g_told_then.binds fun _ _ _ _ _ _ us hl => match us, hl with | [_, _], _ => rfl) (fun _ h => nomatch h) wtold_then (fun cdv A outer s H E hg hr => der_told_then T cdv A outer s H E hg hr) rd_told_then
  have g_told_back := fun_mk (st := stold_back) h10.l h10.c h10.k
  have F_told_back : FnD l.prog w K mg base 1 "told_back" ["turn"] [] Stold_back := fn_ok g_told_back sc_told_back (PySem.W.mg_of X G h10.a) (g_told_back.binds fun _ _ _ _ _ _ us hl => match us, hl with | [_], _ => rfl) (fun _ h => nomatch h) wtold_back (fun cdv A outer s H E hg hr => der_told_back T cdv A outer s H E hg hr) rd_told_back
  have g_is_least := fun_mk (st := sis_least) h12.l h12.c h12.k
  have F_is_least : FnD l.prog w K mg base 1 "is_least" ["form"] [] Sis_least := fn_ok g_is_least sc_is_least (PySem.W.mg_of X G h12.a) (g_is_least.binds fun _ _ _ _ _ _ us hl => match us, hl with | [_], _ => rfl) (fun _ h => nomatch h) wis_least (fun cdv A outer s H E hg hr => der_is_least T cdv A outer s H E hg hr) rd_is_least
  have g_told_own := fun_mk (st := stold_own) h17.l h17.c h17.k
  have F_told_own : FnD l.prog w K mg base 1 "told_own" ["form"] [] Stold_own := fn_ok g_told_own sc_told_own (PySem.W.mg_of X G h17.a) (g_told_own.binds fun _ _ _ _ _ _ us hl => match us, hl with | [_], _ => rfl) (fun _ h => nomatch h) wtold_own (fun cdv A outer s H E hg hr => der_told_own T cdv A outer s H E hg hr) rd_told_own
  have g__law_pot := fun_mk (st := s_law_pot) h19.l h19.c h19.k
  have F__law_pot : FnD l.prog w K mg base 1 "_law_pot" ["script", "place"] [] S_law_pot := fn_ok g__law_pot sc__law_pot (PySem.W.mg_of X G h19.a) (g__law_pot.binds fun _ _ _ _ _ _ us hl => match us, hl with | [_, _], _ => rfl) (fun _ h => nomatch h) w_law_pot (fun cdv A outer s H E hg hr => der__law_pot T cdv A outer s H E hg hr) rd_law_pot
  have g__law_take := fun_mk (st := s_law_take) h20.l h20.c h20.k
  have F__law_take : FnD l.prog w K mg base 1 "_law_take" ["pot", "upto"] [] S_law_take := fn_ok g__law_take sc__law_take (PySem.W.mg_of X G h20.a) (g__law_take.binds fun _ _ _ _ _ _ us hl => match us, hl with | [_, _], _ => rfl) (fun _ h => nomatch h) w_law_take (fun cdv A outer s H E hg hr => der__law_take T cdv A outer s H E hg hr) rd_law_take
  have g__law_cells := fun_mk (st := s_law_cells) h22.l h22.c h22.k
  have F__law_cells : FnD l.prog w K mg base 1 "_law_cells" ["script", "most"] [] S_law_cells := fn_ok g__law_cells sc__law_cells (PySem.W.mg_of X G h22.a) (g__law_cells.binds fun _ _ _ _ _ _ us hl => match us, hl with | [_, _], _ => rfl) (fun _ h => nomatch h) w_law_cells (fun cdv A outer s H E hg hr => der__law_cells T cdv A outer s H E hg hr) rd_law_cells
  have g__law_is_int := fun_mk (st := s_law_is_int) h23.l h23.c h23.k
  have F__law_is_int : FnD l.prog w K mg base 1 "_law_is_int" ["value", "low", "high"] [] S_law_is_int := fn_ok g__law_is_int sc__law_is_int (PySem.W.mg_of X G h23.a) (g__law_is_int.binds fun _ _ _ _ _ _ us hl => match us, hl with | [_, _, _], _ => rfl) (fun _ h => nomatch h) w_law_is_int (fun cdv A outer s H E hg hr => der__law_is_int T cdv A outer s H E hg hr) rd_law_is_int
  have g__law_root := fun_mk (st := s_law_root) h24.l h24.c h24.k
  have F__law_root : FnD l.prog w K mg base 1 "_law_root" ["number"] [] S_law_root := fn_ok g__law_root sc__law_root (PySem.W.mg_of X G h24.a) (g__law_root.binds fun _ _ _ _ _ _ us hl => match us, hl with | [_], _ => rfl) (fun _ h => nomatch h) w_law_root (fun cdv A outer s H E hg hr => der__law_root T cdv A outer s H E hg hr) rd_law_root
  have g__law_value := fun_mk (st := s_law_value) h25.l h25.c h25.k
  have F__law_value : FnD l.prog w K mg base 1 "_law_value" ["form", "x", "y"] [] S_law_value := fn_ok g__law_value sc__law_value (PySem.W.mg_of X G h25.a) (g__law_value.binds fun _ _ _ _ _ _ us hl => match us, hl with | [_, _, _], _ => rfl) (fun _ h => nomatch h) w_law_value (fun cdv A outer s H E hg hr => der__law_value T cdv A outer s H E hg hr) rd_law_value
  have g__law_is_turn := fun_mk (st := s_law_is_turn) h27.l h27.c h27.k
  have F__law_is_turn : FnD l.prog w K mg base 1 "_law_is_turn" ["value"] [] S_law_is_turn := fn_ok g__law_is_turn sc__law_is_turn (PySem.W.mg_of X G h27.a) (g__law_is_turn.binds fun _ _ _ _ _ _ us hl => match us, hl with | [_], _ => rfl) (fun _ h => nomatch h) w_law_is_turn (fun cdv A outer s H E hg hr => der__law_is_turn T cdv A outer s H E hg hr) rd_law_is_turn
  have g__law_then := fun_mk (st := s_law_then) h28.l h28.c h28.k
  have F__law_then : FnD l.prog w K mg base 1 "_law_then" ["one", "other"] [] S_law_then := fn_ok g__law_then sc__law_then (PySem.W.mg_of X G h28.a) (g__law_then.binds fun _ _ _ _ _ _ us hl => match us, hl with | [_, _], _ => rfl) (fun _ h => nomatch h) w_law_then (fun cdv A outer s H E hg hr => der__law_then T cdv A outer s H E hg hr) rd_law_then
  have g__law_is_least := fun_mk (st := s_law_is_least) h34.l h34.c h34.k
  have F__law_is_least : FnD l.prog w K mg base 1 "_law_is_least" ["form"] [] S_law_is_least := fn_ok g__law_is_least sc__law_is_least (PySem.W.mg_of X G h34.a) (g__law_is_least.binds fun _ _ _ _ _ _ us hl => match us, hl with | [_], _ => rfl) (fun _ h => nomatch h) w_law_is_least (fun cdv A outer s H E hg hr => der__law_is_least T cdv A outer s H E hg hr) rd_law_is_least
  have g_are_wholes := fun_mk (st := sare_wholes) h1.l h1.c h1.k
  have F_are_wholes : FnD l.prog w K mg base 2 "are_wholes" ["value"] [] Sare_wholes := fn_ok g_are_wholes sc_are_wholes (PySem.W.mg_of X G h1.a) (g_are_wholes.binds fun _ _ _ _ _ _ us hl => match us, hl with | [_], _ => rfl) (fun _ h => nomatch h) ware_wholes (fun cdv A outer s H E hg hr => der_are_wholes T F_is_whole cdv A outer s H E hg hr) rd_are_wholes
  have g_told_kind := fun_mk (st := stold_kind) h7.l h7.c h7.k
  have F_told_kind : FnD l.prog w K mg base 2 "told_kind" ["form"] [] Stold_kind := fn_ok g_told_kind sc_told_kind (PySem.W.mg_of X G h7.a) (g_told_kind.binds fun _ _ _ _ _ _ us hl => match us, hl with | [_], _ => rfl) (fun _ h => nomatch h) wtold_kind (fun cdv A outer s H E hg hr => der_told_kind T F_told_size cdv A outer s H E hg hr) rd_told_kind
  have g_told_turned := fun_mk (st := stold_turned) h8.l h8.c h8.k
  have F_told_turned : FnD l.prog w K mg base 2 "told_turned" ["form", "turn"] [] Stold_turned := fn_ok g_told_turned sc_told_turned (PySem.W.mg_of X G h8.a) (g_told_turned.binds fun _ _ _ _ _ _ us hl => match us, hl with | [_, _], _ => rfl) (fun _ h => nomatch h) wtold_turned (fun cdv A outer s H E hg hr => der_told_turned T F_told_value cdv A outer s H E hg hr) rd_told_turned
  have g__law_of := fun_mk (st := s_law_of) h21.l h21.c h21.k
  have F__law_of : FnD l.prog w K mg base 2 "_law_of" ["pot", "some"] [] S_law_of := fn_ok g__law_of sc__law_of (PySem.W.mg_of X G h21.a) (g__law_of.binds fun _ _ _ _ _ _ us hl => match us, hl with | [_, _], _ => rfl) (fun _ h => nomatch h) w_law_of (fun cdv A outer s H E hg hr => der__law_of T F__law_take cdv A outer s H E hg hr) rd_law_of
  have g__law_turned := fun_mk (st := s_law_turned) h26.l h26.c h26.k
  have F__law_turned : FnD l.prog w K mg base 2 "_law_turned" ["form", "turn"] [] S_law_turned := fn_ok g__law_turned sc__law_turned (PySem.W.mg_of X G h26.a) (g__law_turned.binds fun _ _ _ _ _ _ us hl => match us, hl with | [_, _], _ => rfl) (fun _ h => nomatch h) w_law_turned (fun cdv A outer s H E hg hr => der__law_turned T F__law_value cdv A outer s H E hg hr) rd_law_turned
  have g__law_is_form := fun_mk (st := s_law_is_form) h30.l h30.c h30.k
  have F__law_is_form : FnD l.prog w K mg base 2 "_law_is_form" ["value"] [] S_law_is_form := fn_ok g__law_is_form sc__law_is_form (PySem.W.mg_of X G h30.a) (g__law_is_form.binds fun _ _ _ _ _ _ us hl => match us, hl with | [_], _ => rfl) (fun _ h => nomatch h) w_law_is_form (fun cdv A outer s H E hg hr => der__law_is_form T F__law_is_int cdv A outer s H E hg hr) rd_law_is_form
  have g__law_above_drawn := fun_mk (st := s_law_above_drawn) h31.l h31.c h31.k
  have F__law_above_drawn : FnD l.prog w K mg base 2 "_law_above_drawn" ["pot", "most"] [] S_law_above_drawn := fn_ok g__law_above_drawn sc__law_above_drawn (PySem.W.mg_of X G h31.a) (g__law_above_drawn.binds fun _ _ _ _ _ _ us hl => match us, hl with | [_, _], _ => rfl) (fun _ h => nomatch h) w_law_above_drawn (fun cdv A outer s H E hg hr => der__law_above_drawn T F__law_root F__law_take cdv A outer s H E hg hr) rd_law_above_drawn
  have g__law_letters := fun_mk (st := s_law_letters) h32.l h32.c h32.k
  have F__law_letters : FnD l.prog w K mg base 2 "_law_letters" ["form", "number"] [] S_law_letters := fn_ok g__law_letters sc__law_letters (PySem.W.mg_of X G h32.a) (g__law_letters.binds fun _ _ _ _ _ _ us hl => match us, hl with | [_, _], _ => rfl) (fun _ h => nomatch h) w_law_letters (fun cdv A outer s H E hg hr => der__law_letters T F__law_root F__law_value cdv A outer s H E hg hr) rd_law_letters
  have g_are_ints := fun_mk (st := sare_ints) h2.l h2.c h2.k
  have F_are_ints : FnD l.prog w K mg base 3 "are_ints" ["value", "many", "most"] [] Sare_ints := fn_ok g_are_ints sc_are_ints (PySem.W.mg_of X G h2.a) (g_are_ints.binds fun _ _ _ _ _ _ us hl => match us, hl with | [_, _, _], _ => rfl) (fun _ h => nomatch h) ware_ints (fun cdv A outer s H E hg hr => der_are_ints T F_are_wholes cdv A outer s H E hg hr) rd_are_ints
  have g_told_least := fun_mk (st := stold_least) h13.l h13.c h13.k
  have F_told_least : FnD l.prog w K mg base 3 "told_least" ["form"] [] Stold_least := fn_ok g_told_least sc_told_least (PySem.W.mg_of X G h13.a) (g_told_least.binds fun _ _ _ _ _ _ us hl => match us, hl with | [_], _ => rfl) (fun _ h => nomatch h) wtold_least (fun cdv A outer s H E hg hr => der_told_least T F_is_least F_told_then F_told_turned cdv A outer s H E hg hr) rd_told_least
  have g__law_turn_drawn := fun_mk (st := s_law_turn_drawn) h29.l h29.c h29.k
  have F__law_turn_drawn : FnD l.prog w K mg base 3 "_law_turn_drawn" ["pot"] [] S_law_turn_drawn := fn_ok g__law_turn_drawn sc__law_turn_drawn (PySem.W.mg_of X G h29.a) (g__law_turn_drawn.binds fun _ _ _ _ _ _ us hl => match us, hl with | [_], _ => rfl) (fun _ h => nomatch h) w_law_turn_drawn (fun cdv A outer s H E hg hr => der__law_turn_drawn T F__law_of F__law_take F__law_then cdv A outer s H E hg hr) rd_law_turn_drawn
  have g__law_all_turns := fun_mk (st := s_law_all_turns) h33.l h33.c h33.k
  have F__law_all_turns : FnD l.prog w K mg base 3 "_law_all_turns" ["one", "other"] [] S_law_all_turns := fn_ok g__law_all_turns sc__law_all_turns (PySem.W.mg_of X G h33.a) (g__law_all_turns.binds fun _ _ _ _ _ _ us hl => match us, hl with | [_, _], _ => rfl) (fun _ h => nomatch h) w_law_all_turns (fun cdv A outer s H E hg hr => der__law_all_turns T F__law_letters F__law_turned cdv A outer s H E hg hr) rd_law_all_turns
  have g_is_form := fun_mk (st := sis_form) h3.l h3.c h3.k
  have F_is_form : FnD l.prog w K mg base 4 "is_form" ["value"] [] Sis_form := fn_ok g_is_form sc_is_form (PySem.W.mg_of X G h3.a) (g_is_form.binds fun _ _ _ _ _ _ us hl => match us, hl with | [_], _ => rfl) (fun _ h => nomatch h) wis_form (fun cdv A outer s H E hg hr => der_is_form T F_are_ints cdv A outer s H E hg hr) rd_is_form
  have g_look_at_form := fun_mk (st := slook_at_form) h4.l h4.c h4.k
  have F_look_at_form : FnD l.prog w K mg base 5 "look_at_form" ["form"] [] Slook_at_form := fn_ok g_look_at_form sc_look_at_form (PySem.W.mg_of X G h4.a) (g_look_at_form.binds fun _ _ _ _ _ _ us hl => match us, hl with | [_], _ => rfl) (fun _ h => nomatch h) wlook_at_form (fun cdv A outer s H E hg hr => der_look_at_form T F_is_form cdv A outer s H E hg hr) rd_look_at_form
  have g_look_at_above := fun_mk (st := slook_at_above) h11.l h11.c h11.k
  have F_look_at_above : FnD l.prog w K mg base 6 "look_at_above" ["form"] [] Slook_at_above := fn_ok g_look_at_above sc_look_at_above (PySem.W.mg_of X G h11.a) (g_look_at_above.binds fun _ _ _ _ _ _ us hl => match us, hl with | [_], _ => rfl) (fun _ h => nomatch h) wlook_at_above (fun cdv A outer s H E hg hr => der_look_at_above T F_look_at_form F_told_kind cdv A outer s H E hg hr) rd_look_at_above
  have g_least_form := fun_mk (st := sleast_form) h14.l h14.c h14.k
  have F_least_form : FnD l.prog w K mg base 7 "least_form" ["form"] [0] Sleast_form := fn_ok g_least_form sc_least_form (PySem.W.mg_of X G h14.a) (g_least_form.binds fun _ _ _ _ _ _ us hl => match us, hl with | [_], _ => rfl) (fun n hn => match n, hn with | _, .head _ => fun_kb g_least_form fun _ _ _ _ _ _ us ws h1 h2 => match us, ws, h1, h2 with | [], [_], _, _ => rfl) wleast_form (fun cdv A outer s H E hg hr => der_least_form T F_look_at_above F_told_least cdv A outer s H E hg hr) rd_least_form
  have g_look_at_two := fun_mk (st := slook_at_two) h15.l h15.c h15.k
  have F_look_at_two : FnD l.prog w K mg base 7 "look_at_two" ["one", "other"] [] Slook_at_two := fn_ok g_look_at_two sc_look_at_two (PySem.W.mg_of X G h15.a) (g_look_at_two.binds fun _ _ _ _ _ _ us hl => match us, hl with | [_, _], _ => rfl) (fun _ h => nomatch h) wlook_at_two (fun cdv A outer s H E hg hr => der_look_at_two T F_look_at_above cdv A outer s H E hg hr) rd_look_at_two
  have g_own_turns := fun_mk (st := sown_turns) h18.l h18.c h18.k
  have F_own_turns : FnD l.prog w K mg base 7 "own_turns" ["form"] [0] Sown_turns := fn_ok g_own_turns sc_own_turns (PySem.W.mg_of X G h18.a) (g_own_turns.binds fun _ _ _ _ _ _ us hl => match us, hl with | [_], _ => rfl) (fun n hn => match n, hn with | _, .head _ => fun_kb g_own_turns fun _ _ _ _ _ _ us ws h1 h2 => match us, ws, h1, h2 with | [], [_], _, _ => rfl) wown_turns (fun cdv A outer s H E hg hr => der_own_turns T F_look_at_above F_told_back F_told_least F_told_own F_told_then cdv A outer s H E hg hr) rd_own_turns
  have g_same_above := fun_mk (st := ssame_above) h16.l h16.c h16.k
  have F_same_above : FnD l.prog w K mg base 8 "same_above" ["one", "other"] [1] Ssame_above := fn_ok g_same_above sc_same_above (PySem.W.mg_of X G h16.a) (g_same_above.binds fun _ _ _ _ _ _ us hl => match us, hl with | [_, _], _ => rfl) (fun n hn => match n, hn with | _, .head _ => fun_kb g_same_above fun _ _ _ _ _ _ us ws h1 h2 => match us, ws, h1, h2 with | [_], [_], _, _ => rfl) wsame_above (fun cdv A outer s H E hg hr => der_same_above T F_look_at_two F_told_back F_told_least F_told_then cdv A outer s H E hg hr) rd_same_above
  have g__law_is_form_right := fun_mk (st := s_law_is_form_right) h35.l h35.c h35.k
  have F__law_is_form_right : FnD l.prog w K mg base 8 "_law_is_form_right" ["form", "turn"] [] S_law_is_form_right := fn_ok g__law_is_form_right sc__law_is_form_right (PySem.W.mg_of X G h35.a) (g__law_is_form_right.binds fun _ _ _ _ _ _ us hl => match us, hl with | [_, _], _ => rfl) (fun _ h => nomatch h) w_law_is_form_right (fun cdv A outer s H E hg hr => der__law_is_form_right T F__law_is_form F__law_is_least F__law_is_turn F__law_turned F_least_form cdv A outer s H E hg hr) rd_law_is_form_right
  have g__law_right := fun_mk (st := s_law_right) h36.l h36.c h36.k
  have F__law_right : FnD l.prog w K mg base 9 "_law_right" ["pot"] [] S_law_right := fn_ok g__law_right sc__law_right (PySem.W.mg_of X G h36.a) (g__law_right.binds fun _ _ _ _ _ _ us hl => match us, hl with | [_], _ => rfl) (fun _ h => nomatch h) w_law_right (fun cdv A outer s H E hg hr => der__law_right T F__law_above_drawn F__law_all_turns F__law_is_form_right F__law_is_least F__law_of F__law_take F__law_turn_drawn F__law_turned F_own_turns F_same_above cdv A outer s H E hg hr) rd_law_right
  exact fn_run (fun_mk (st := slaw) h37.l h37.c h37.k) sc_law wlaw (fun cdv A outer s H E hg hr => der_law T F__law_cells F__law_pot F__law_right cdv A outer s H E hg hr) rd_law
theorem law_S (ns : List Int) (hn : ns.length ≤ 63) (hb : ∀ z ∈ ns, Builtin.Int.intBits z ≤ 1048576) : Slaw.run [.rls (ns.map D.int)] mu0 (fun d _ => d = .bl true) XF := ⟨_, ⟨ns, rfl, hn, rfl⟩, rfl⟩
end K8
open PySem PySem.W PyProof.Rows
set_option maxRecDepth 100000 in
set_option maxHeartbeats 0 in
theorem PySem.Challenge.cw_squaresowed_k08_whole_least_forms_and_ow_holds : PySem.Challenge.rw_squaresowed_k08_whole_least_forms_and_ow.Holds := by
  w_on; o_law; k_head; (case hw => w_witness2)
  k_fill
  refine Sq.law_walk (l := PySem.Challenge.rw_squaresowed_k08_whole_least_forms_and_ow) (x := "script") (S := K8.Slaw) 10 rfl rfl (by decide) (fun w h Y => PySem.W.kIn_of Y) ?F (fun ns h1 h2 => K8.law_S ns h1 h2)
  case F =>
    intro w mg fa h KX G hmg
    refine' K8.all_mk KX G hmg ⟨?a0, ?l0, ?c0, ?k0⟩ ⟨?a1, ?l1, ?c1, ?k1⟩ ⟨?a2, ?l2, ?c2, ?k2⟩ ⟨?a3, ?l3, ?c3, ?k3⟩ ⟨?a4, ?l4, ?c4, ?k4⟩ ⟨?a5, ?l5, ?c5, ?k5⟩ ⟨?a6, ?l6, ?c6, ?k6⟩ ⟨?a7, ?l7, ?c7, ?k7⟩ ⟨?a8, ?l8, ?c8, ?k8⟩ ⟨?a9, ?l9, ?c9, ?k9⟩ ⟨?a10, ?l10, ?c10, ?k10⟩ ⟨?a11, ?l11, ?c11, ?k11⟩ ⟨?a12, ?l12, ?c12, ?k12⟩ ⟨?a13, ?l13, ?c13, ?k13⟩ ⟨?a14, ?l14, ?c14, ?k14⟩ ⟨?a15, ?l15, ?c15, ?k15⟩ ⟨?a16, ?l16, ?c16, ?k16⟩ ⟨?a17, ?l17, ?c17, ?k17⟩ ⟨?a18, ?l18, ?c18, ?k18⟩ ⟨?a19, ?l19, ?c19, ?k19⟩ ⟨?a20, ?l20, ?c20, ?k20⟩ ⟨?a21, ?l21, ?c21, ?k21⟩ ⟨?a22, ?l22, ?c22, ?k22⟩ ⟨?a23, ?l23, ?c23, ?k23⟩ ⟨?a24, ?l24, ?c24, ?k24⟩ ⟨?a25, ?l25, ?c25, ?k25⟩ ⟨?a26, ?l26, ?c26, ?k26⟩ ⟨?a27, ?l27, ?c27, ?k27⟩ ⟨?a28, ?l28, ?c28, ?k28⟩ ⟨?a29, ?l29, ?c29, ?k29⟩ ⟨?a30, ?l30, ?c30, ?k30⟩ ⟨?a31, ?l31, ?c31, ?k31⟩ ⟨?a32, ?l32, ?c32, ?k32⟩ ⟨?a33, ?l33, ?c33, ?k33⟩ ⟨?a34, ?l34, ?c34, ?k34⟩ ⟨?a35, ?l35, ?c35, ?k35⟩ ⟨?a36, ?l36, ?c36, ?k36⟩ ⟨?a37, ?l37, ?c37, ?k37⟩ ?z_abs ?z_all ?z_bool ?z_int ?z_isinstance ?z_len ?z_list ?z_max ?z_min ?z_range ?z_repr ?z_sorted ?z_sum ?z_tuple ?c_ABOVE ?c_BELOW ?c_LEAST ?c_MOST_PART ?c_TURN
    (case a0 => k_is); (case l0 => k_is); (case c0 => k_is); (case k0 => k_is)
    (case a1 => k_is); (case l1 => k_is); (case c1 => k_is); (case k1 => k_is)
    (case a2 => k_is); (case l2 => k_is); (case c2 => k_is); (case k2 => k_is)
    (case a3 => k_is); (case l3 => k_is); (case c3 => k_is); (case k3 => k_is)
    (case a4 => k_is); (case l4 => k_is); (case c4 => k_is); (case k4 => k_is)
    (case a5 => k_is); (case l5 => k_is); (case c5 => k_is); (case k5 => k_is)
    (case a6 => k_is); (case l6 => k_is); (case c6 => k_is); (case k6 => k_is)
    (case a7 => k_is); (case l7 => k_is); (case c7 => k_is); (case k7 => k_is)
    (case a8 => k_is); (case l8 => k_is); (case c8 => k_is); (case k8 => k_is)
    (case a9 => k_is); (case l9 => k_is); (case c9 => k_is); (case k9 => k_is)
    (case a10 => k_is); (case l10 => k_is); (case c10 => k_is); (case k10 => k_is)
    (case a11 => k_is); (case l11 => k_is); (case c11 => k_is); (case k11 => k_is)
    (case a12 => k_is); (case l12 => k_is); (case c12 => k_is); (case k12 => k_is)
    (case a13 => k_is); (case l13 => k_is); (case c13 => k_is); (case k13 => k_is)
    (case a14 => k_is); (case l14 => k_is); (case c14 => k_is); (case k14 => k_is)
    (case a15 => k_is); (case l15 => k_is); (case c15 => k_is); (case k15 => k_is)
    (case a16 => k_is); (case l16 => k_is); (case c16 => k_is); (case k16 => k_is)
    (case a17 => k_is); (case l17 => k_is); (case c17 => k_is); (case k17 => k_is)
    (case a18 => k_is); (case l18 => k_is); (case c18 => k_is); (case k18 => k_is)
    (case a19 => k_is); (case l19 => k_is); (case c19 => k_is); (case k19 => k_is)
    (case a20 => k_is); (case l20 => k_is); (case c20 => k_is); (case k20 => k_is)
    (case a21 => k_is); (case l21 => k_is); (case c21 => k_is); (case k21 => k_is)
    (case a22 => k_is); (case l22 => k_is); (case c22 => k_is); (case k22 => k_is)
    (case a23 => k_is); (case l23 => k_is); (case c23 => k_is); (case k23 => k_is)
    (case a24 => k_is); (case l24 => k_is); (case c24 => k_is); (case k24 => k_is)
    (case a25 => k_is); (case l25 => k_is); (case c25 => k_is); (case k25 => k_is)
    (case a26 => k_is); (case l26 => k_is); (case c26 => k_is); (case k26 => k_is)
    (case a27 => k_is); (case l27 => k_is); (case c27 => k_is); (case k27 => k_is)
    (case a28 => k_is); (case l28 => k_is); (case c28 => k_is); (case k28 => k_is)
    (case a29 => k_is); (case l29 => k_is); (case c29 => k_is); (case k29 => k_is)
    (case a30 => k_is); (case l30 => k_is); (case c30 => k_is); (case k30 => k_is)
    (case a31 => k_is); (case l31 => k_is); (case c31 => k_is); (case k31 => k_is)
    (case a32 => k_is); (case l32 => k_is); (case c32 => k_is); (case k32 => k_is)
    (case a33 => k_is); (case l33 => k_is); (case c33 => k_is); (case k33 => k_is)
    (case a34 => k_is); (case l34 => k_is); (case c34 => k_is); (case k34 => k_is)
    (case a35 => k_is); (case l35 => k_is); (case c35 => k_is); (case k35 => k_is)
    (case a36 => k_is); (case l36 => k_is); (case c36 => k_is); (case k36 => k_is)
    (case a37 => k_is); (case l37 => k_is); (case c37 => k_is); (case k37 => k_is)
    (case z_abs => k_is); (case z_all => k_is); (case z_bool => k_is); (case z_int => k_is); (case z_isinstance => k_is); (case z_len => k_is); (case z_list => k_is); (case z_max => k_is); (case z_min => k_is); (case z_range => k_is); (case z_repr => k_is); (case z_sorted => k_is); (case z_sum => k_is); (case z_tuple => k_is)
    (case c_ABOVE => k_is); (case c_BELOW => k_is); (case c_LEAST => k_is); (case c_MOST_PART => k_is); (case c_TURN => k_is)
