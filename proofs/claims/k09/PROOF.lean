import PyProof.Rows.All
import Wide.All
import OpenK.AllK
import Wide.FinOn
import HandS.ForMost
import HandS.ForExc
import HandS.Wide
import HandS.TupAny
import HandS.Lambda
import HandS.IsInst
import HandS.CallSlots
import HandS.Style
import HandS.MakeKw
import HandS.Conv
import HandS.Deep
import HandS.Text
import KE.SortData
import KE.IntBitsLaws
import PyProof.ReprRoads
import HandS.Ends
import HandS.EndBits
import HandS.ExcInit
import KE.KExcSuper
import KE.KSuper
import HandS.Iter
import HandS.Exc
import HandS.Comp
import HandS.ExcIs
import KE.KExcIs
import HandS.ExcField
import HandS.Dict
import PyProof.RowDictHeap
import HandS.RaiseMore
import HandS.EndTab
import KE.KNestM
import KE.RegKSuper
import KE.RegKIsAll
import PySem.Challenge.RW_squaresowed_k09_papers_of_forms_above_ju
set_option Elab.async false
set_option linter.all false
set_option maxRecDepth 100000
set_option maxHeartbeats 4000000
/-! The pure layer: Python values as data D (tuples by value, other objects by address in an abstract store Mu), weakest preconditions over them, shown sound over the hand layer's judgements. -/
namespace Sq
open PySem PySem.Spec PyProof.Rows L2

/-- data: what a value is; a tuple by its items, another object by its address -/
inductive D where
  | non | bl (b : Bool) | int (i : Int) | str (x : Str) | tup (xs : List D) | ob (a : Addr)
  /-- a list that is read alone (the script, a list of the module's own) -/
  | rls (xs : List D)
/-- a lambda without parameters: its text, the cells that it holds -/
structure LamT where
  q : Str
  params : Arguments
  body : Expr
  scope : Scope
  clo : List (Str × Addr)
/-- what stands at an address of the store -/
inductive O where
  /-- a list -/
  | lst (xs : List D)
  /-- an error of the class at C, made with the value d -/
  | exc (C : Addr) (d : D)
  /-- a dict whose keys are ints and texts -/
  | dct (ks : List Key) (xs : List D)
  /-- a lambda -/
  | lam (t : LamT)
  /-- a def's table of the code objects that its lambdas got -/
  | tab (q : Str)
abbrev Mu := Addr → Option O
def mset (μ : Mu) (a : Addr) (o : O) : Mu := fun b => if b = a then some o else μ b
theorem mset_same (μ : Mu) (a : Addr) (o : O) : mset μ a o a = some o := by unfold mset; rw [if_pos rfl]
theorem mset_ne {μ : Mu} {a b : Addr} {o : O} (h : b ≠ a) : mset μ a o b = μ b := by unfold mset; rw [if_neg h]
theorem mset_mset (μ : Mu) (a : Addr) (o u : O) : mset (mset μ a o) a u = mset μ a u := by
  funext b; unfold mset; split <;> rfl
theorem ne_free {μ : Mu} {a b : Addr} {o : O} (h : μ a = some o) (h' : μ b = none) : a ≠ b := by
  intro e; subst e; rw [h] at h'; cases h'
theorem mset_free {μ : Mu} {a b : Addr} {o : O} (h : mset μ a o b = none) : b ≠ a ∧ μ b = none := by
  unfold mset at h
  split at h
  · cases h
  · exact ⟨by assumption, h⟩

/-! ### data at a heap -/
/-- a list that nobody writes -/
def SqR (K : PySem.W.Frag) (H : Hp) (a : Addr) (xs : List V) : Prop :=
  (∃ o, H a = some (.frz o (.lst xs))) ∨ ∃ (o : Obj) (its : Array Value) (n : Nat), K.lookup a = some o ∧ o.cls = .type "list" ∧ o.dict = none ∧ o.data = .seq its n ∧ its.size ≤ sizeLine ∧ Vals xs its.toList
theorem SqR.l {K : PySem.W.Frag} {H : Hp} {a : Addr} {xs : List V} (h : SqR K H a xs) : SqL K H a xs := h.elim (fun h => .inl (.inr h)) .inr
mutual
def Rp (K : PySem.W.Frag) (H : Hp) : D → V → Prop
  | .non, v => v = .non
  | .bl b, v => v = .bl b
  | .int i, v => v = .int i
  | .str x, v => v = .str x
  | .tup ds, v => ∃ p vs, v = .ref p ∧ SqT K H p vs ∧ Rps K H ds vs
  | .ob a, v => v = .ref a
  | .rls ds, v => ∃ p vs, v = .ref p ∧ SqR K H p vs ∧ Rps K H ds vs
def Rps (K : PySem.W.Frag) (H : Hp) : List D → List V → Prop
  | [], vs => vs = []
  | d :: ds, vs => ∃ w ws, vs = w :: ws ∧ Rp K H d w ∧ Rps K H ds ws
end
/-- the object of a caught error: its class, its own dict -/
def ExcO (a C dx : Addr) : HO := .ext fun h => ∃ oe vs, h.get? a = some oe ∧ oe.cls = .ref C ∧ oe.dict = some dx ∧ oe.data = .fields vs
/-- the very object, whatever else -/
def anyH (a : Addr) : HO := .ext fun h => ∃ o, h.get? a = some o
def CodeK (H : Hp) (c : Addr) (q : Str) : Prop := ∃ (oc : Obj) (vs : Array Value), oc.data = .fields vs ∧ H c = some (.frz oc (LamX.CodeO c q))
def OR (K : PySem.W.Frag) (H : Hp) (a : Addr) : O → Prop
  | .lst ds => ∃ vs, H a = some (.lst vs) ∧ Rps K H ds vs
  | .exc C d => ∃ dx v, H a = some (ExcO a C dx) ∧ H dx = some (.xd [("value", v)]) ∧ Rp K H d v
  | .dct ks ds => ∃ vs, H a = some (.dK (ks.zip vs)) ∧ ks.length = ds.length ∧ Rps K H ds vs
  | .lam t => ∃ pm c' ctv, H a = some (.frz (PySem.W.kla_obj "<lambda>" t.q t.params t.body t.scope t.clo pm c' ctv) (anyH a)) ∧ CodeK H c' t.q
  | .tab q => ∃ ps : Array Value, H a = some (.tbl ps) ∧ TriplesOk ps.toList ∧ ∀ (pos : Pos) (cv : Value), codeAmong pos ps.toList = some cv → ∃ c, cv = .ref c ∧ CodeK H c q
/-- what an object of the store is told as -/
def inStore : HO → Bool
  | .lst _ | .ext _ | .tbl _ | .dK _ => true
  | .frz o (.ext _) => (match o.data with | .func _ => true | _ => false)
  | _ => false
/-- the store is held -/
structure Sim (K : PySem.W.Frag) (μ : Mu) (H : Hp) : Prop where
  at_ : ∀ a o, μ a = some o → OR K H a o
/-- what is tracked and not in the store stays -/
def Fr (μ : Mu) (H : Hp) (μ' : Mu) (H' : Hp) : Prop := ∀ b o, H b = some o → (∀ ps, o ≠ .tbl ps) → μ b = none → H' b = some o ∧ μ' b = none
theorem Fr.refl (μ : Mu) (H : Hp) : Fr μ H μ H := fun _ _ h _ n => ⟨h, n⟩
theorem Fr.trans {μ μ1 μ2 : Mu} {H H1 H2 : Hp} (a : Fr μ H μ1 H1) (b : Fr μ1 H1 μ2 H2) : Fr μ H μ2 H2 := fun c o h n m => let ⟨h1, m1⟩ := a c o h n m; b c o h1 n m1
theorem or_some {K : PySem.W.Frag} {H : Hp} {a : Addr} {o : O} (h : OR K H a o) : ∃ u, H a = some u ∧ inStore u = true := by
  cases o with
  | lst ds => obtain ⟨vs, z, _⟩ := h; exact ⟨_, z, rfl⟩
  | exc C d => obtain ⟨dx, v, z, _⟩ := h; exact ⟨_, z, rfl⟩
  | dct ks ds => obtain ⟨vs, z, _⟩ := h; exact ⟨_, z, rfl⟩
  | lam t => obtain ⟨pm, c', ctv, z, _⟩ := h; exact ⟨_, z, rfl⟩
  | tab q => obtain ⟨ps, z, _⟩ := h; exact ⟨_, z, rfl⟩
theorem Sim.free {K : PySem.W.Frag} {μ : Mu} {H : Hp} (S : Sim K μ H) {a : Addr} (h : H a = none) : μ a = none := by
  cases e : μ a with
  | none => rfl
  | some o =>
    obtain ⟨u, z, _⟩ := or_some (S.at_ a o e)
    rw [h] at z
    cases z
theorem Sim.notTup {K : PySem.W.Frag} {μ : Mu} {H : Hp} (S : Sim K μ H) {a : Addr} {o : HO} (h : H a = some o) (hn : inStore o = false) : μ a = none := by
  cases e : μ a with
  | none => rfl
  | some u =>
    obtain ⟨u', z, q⟩ := or_some (S.at_ a u e)
    rw [h] at z
    cases z
    rw [hn] at q
    cases q
theorem codeK_store {oc : Obj} {vs : Array Value} {c : Addr} {q : Str} (e : oc.data = .fields vs) : inStore (.frz oc (LamX.CodeO c q)) = false := by
  unfold LamX.CodeO
  show (match oc.data with | .func _ => true | _ => false) = false
  rw [e]
theorem codeK_keep {K : PySem.W.Frag} {μ μ' : Mu} {H H' : Hp} (S : Sim K μ H) (F : Fr μ H μ' H') {c : Addr} {q : Str} (h : CodeK H c q) : CodeK H' c q := by
  obtain ⟨oc, vs, e, h⟩ := h
  exact ⟨oc, vs, e, (F c _ h (fun _ z => by cases z) (S.notTup h (codeK_store e))).1⟩
theorem sqT_keep {K : PySem.W.Frag} {μ μ' : Mu} {H H' : Hp} (S : Sim K μ H) (F : Fr μ H μ' H') {p : Addr} {vs : List V} (h : SqT K H p vs) : SqT K H' p vs := by
  rcases h with (h | ⟨o, h⟩) | h
  · exact .inl (.inl (F p _ h (fun _ z => by cases z) (S.notTup h rfl)).1)
  · exact .inl (.inr ⟨o, (F p _ h (fun _ z => by cases z) (S.notTup h rfl)).1⟩)
  · exact .inr h
theorem sqR_keep {K : PySem.W.Frag} {μ μ' : Mu} {H H' : Hp} (S : Sim K μ H) (F : Fr μ H μ' H') {p : Addr} {vs : List V} (h : SqR K H p vs) : SqR K H' p vs := by
  rcases h with ⟨o, h⟩ | h
  · exact .inl ⟨o, (F p _ h (fun _ z => by cases z) (S.notTup h rfl)).1⟩
  · exact .inr h
mutual
theorem Rp.keep {K : PySem.W.Frag} {μ μ' : Mu} {H H' : Hp} (S : Sim K μ H) (F : Fr μ H μ' H') : ∀ (d : D) {v : V}, Rp K H d v → Rp K H' d v
  | .non, _, h => h
  | .bl _, _, h => h
  | .int _, _, h => h
  | .str _, _, h => h
  | .tup ds, _, h => by
    unfold Rp at h ⊢
    obtain ⟨p, vs, e, q, r⟩ := h
    exact ⟨p, vs, e, sqT_keep S F q, Rps.keep S F ds r⟩
  | .ob _, _, h => h
  | .rls ds, _, h => by
    unfold Rp at h ⊢
    obtain ⟨p, vs, e, q, r⟩ := h
    exact ⟨p, vs, e, sqR_keep S F q, Rps.keep S F ds r⟩
theorem Rps.keep {K : PySem.W.Frag} {μ μ' : Mu} {H H' : Hp} (S : Sim K μ H) (F : Fr μ H μ' H') : ∀ (ds : List D) {vs : List V}, Rps K H ds vs → Rps K H' ds vs
  | [], _, h => h
  | d :: ds, _, h => by
    unfold Rps at h ⊢
    obtain ⟨w, ws, e, a, b⟩ := h
    exact ⟨w, ws, e, Rp.keep S F d a, Rps.keep S F ds b⟩
end
theorem Rps.length {K : PySem.W.Frag} {H : Hp} : ∀ {ds : List D} {vs : List V}, Rps K H ds vs → vs.length = ds.length
  | [], _, h => by unfold Rps at h; subst h; rfl
  | d :: ds, _, h => by
    unfold Rps at h
    obtain ⟨w, ws, rfl, _, b⟩ := h
    simp [Rps.length b]
theorem Rps.append {K : PySem.W.Frag} {H : Hp} : ∀ {ds es : List D} {vs ws : List V}, Rps K H ds vs → Rps K H es ws → Rps K H (ds ++ es) (vs ++ ws)
  | [], _, _, _, h, g => by unfold Rps at h; subst h; exact g
  | d :: ds, _, _, _, h, g => by
    unfold Rps at h
    obtain ⟨w, ws, rfl, a, b⟩ := h
    show Rps K H (d :: (ds ++ _)) (w :: (ws ++ _))
    unfold Rps
    exact ⟨_, _, rfl, a, Rps.append b g⟩
theorem Rps.get {K : PySem.W.Frag} {H : Hp} : ∀ {ds : List D} {vs : List V} {i : Nat} {d : D}, Rps K H ds vs → ds[i]? = some d → ∃ v, vs[i]? = some v ∧ Rp K H d v
  | [], _, _, _, _, e => by simp at e
  | x :: xs, _, 0, d, h, e => by
    unfold Rps at h
    obtain ⟨w, ws, rfl, a, b⟩ := h
    simp at e; subst e
    exact ⟨w, rfl, a⟩
  | x :: xs, _, i + 1, d, h, e => by
    unfold Rps at h
    obtain ⟨w, ws, rfl, a, b⟩ := h
    obtain ⟨v, h1, h2⟩ := Rps.get (i := i) b (by simpa using e)
    exact ⟨v, by simpa using h1, h2⟩
theorem Rps.getV {K : PySem.W.Frag} {H : Hp} : ∀ {ds : List D} {vs : List V} {i : Nat} {v : V}, Rps K H ds vs → vs[i]? = some v → ∃ d, ds[i]? = some d ∧ Rp K H d v := by
  intro ds vs i v h e
  have hl := h.length
  have hi : i < ds.length := by rw [← hl]; exact (List.getElem?_eq_some_iff.mp e).1
  obtain ⟨w, h1, h2⟩ := h.get (i := i) (d := ds[i]) (by simp [hi])
  rw [e] at h1; cases h1
  exact ⟨_, by simp [hi], h2⟩
theorem Rps.take {K : PySem.W.Frag} {H : Hp} : ∀ {ds : List D} {vs : List V} (n : Nat), Rps K H ds vs → Rps K H (ds.take n) (vs.take n)
  | _, _, 0, _ => by simp [Rps]
  | [], _, n + 1, h => by unfold Rps at h; subst h; simp [Rps]
  | d :: ds, _, n + 1, h => by
    unfold Rps at h
    obtain ⟨w, ws, rfl, a, b⟩ := h
    simp only [List.take_succ_cons]
    unfold Rps
    exact ⟨_, _, rfl, a, Rps.take n b⟩
theorem Rps.drop {K : PySem.W.Frag} {H : Hp} : ∀ {ds : List D} {vs : List V} (n : Nat), Rps K H ds vs → Rps K H (ds.drop n) (vs.drop n)
  | _, _, 0, h => h
  | [], _, n + 1, h => by unfold Rps at h; subst h; simp [Rps]
  | d :: ds, _, n + 1, h => by
    unfold Rps at h
    obtain ⟨w, ws, rfl, a, b⟩ := h
    simp only [List.drop_succ_cons]
    exact Rps.drop n b
theorem Rps.set {K : PySem.W.Frag} {H : Hp} {d : D} {v : V} (r : Rp K H d v) : ∀ {ds : List D} {vs : List V} (n : Nat), Rps K H ds vs → Rps K H (ds.set n d) (vs.set n v)
  | [], _, n, h => by unfold Rps at h; subst h; simp [Rps]
  | x :: xs, _, 0, h => by
    unfold Rps at h
    obtain ⟨w, ws, rfl, a, b⟩ := h
    simp only [List.set_cons_zero]
    unfold Rps
    exact ⟨_, _, rfl, r, b⟩
  | x :: xs, _, n + 1, h => by
    unfold Rps at h
    obtain ⟨w, ws, rfl, a, b⟩ := h
    simp only [List.set_cons_succ]
    unfold Rps
    exact ⟨_, _, rfl, a, Rps.set r n b⟩
theorem Rps.ints {K : PySem.W.Frag} {H : Hp} : ∀ {ns : List Int} {vs : List V}, Rps K H (ns.map D.int) vs → vs = ns.map V.int
  | [], _, h => h
  | n :: ns, _, h => by
    simp only [List.map_cons] at h ⊢
    unfold Rps at h
    obtain ⟨w, ws, rfl, a, b⟩ := h
    have a' : w = V.int n := a
    rw [a', Rps.ints b]
theorem Rps.of_ints {K : PySem.W.Frag} {H : Hp} : ∀ (ns : List Int), Rps K H (ns.map D.int) (ns.map V.int)
  | [] => rfl
  | n :: ns => by
    simp only [List.map_cons]
    unfold Rps
    exact ⟨_, _, rfl, rfl, Rps.of_ints ns⟩
theorem Rps.bls {K : PySem.W.Frag} {H : Hp} : ∀ {ns : List Bool} {vs : List V}, Rps K H (ns.map D.bl) vs → vs = ns.map V.bl
  | [], _, h => h
  | n :: ns, _, h => by
    simp only [List.map_cons] at h ⊢
    unfold Rps at h
    obtain ⟨w, ws, rfl, a, b⟩ := h
    have a' : w = V.bl n := a
    rw [a', Rps.bls b]

/-! ### writes -/
/-- a new object, its store's entry -/
theorem fr_new {μ : Mu} {H : Hp} {p : Addr} {o : HO} {u : O} (h : H p = none) : Fr μ H (mset μ p u) (upd H p o) := fun b x e _ n => by
  have : b ≠ p := ne_of_none e h
  exact ⟨by rw [upd_ne this]; exact e, by rw [mset_ne this]; exact n⟩
/-- a new object, not in the store (a tuple) -/
theorem fr_tup {μ : Mu} {H : Hp} {p : Addr} {o : HO} (h : H p = none) : Fr μ H μ (upd H p o) := fun b x e _ n => by
  have : b ≠ p := ne_of_none e h
  exact ⟨by rw [upd_ne this]; exact e, n⟩
/-- an object of the store is written -/
theorem fr_set {μ : Mu} {H : Hp} {p : Addr} {o : HO} {u u' : O} (h : μ p = some u') : Fr μ H (mset μ p u) (upd H p o) := fun b x e _ n => by
  have : b ≠ p := fun z => by subst z; rw [h] at n; cases n
  exact ⟨by rw [upd_ne this]; exact e, by rw [mset_ne this]; exact n⟩
theorem OR.keep {K : PySem.W.Frag} {μ μ' : Mu} {H H' : Hp} (S : Sim K μ H) (F : Fr μ H μ' H') {a : Addr} {o : O} (h : OR K H a o) (ha : ∀ x, H a = some x → H' a = some x) : OR K H' a o := by
  cases o with
  | lst ds =>
    obtain ⟨vs, e, r⟩ := h
    exact ⟨vs, ha _ e, Rps.keep S F ds r⟩
  | exc C d =>
    obtain ⟨dx, v, e, e2, r⟩ := h
    exact ⟨dx, v, ha _ e, (F dx _ e2 (fun _ z => by cases z) (S.notTup e2 rfl)).1, Rp.keep S F d r⟩
  | dct ks ds =>
    obtain ⟨vs, e, hl, r⟩ := h
    exact ⟨vs, ha _ e, hl, Rps.keep S F ds r⟩
  | lam t =>
    obtain ⟨pm, c', ctv, e, k⟩ := h
    exact ⟨pm, c', ctv, ha _ e, codeK_keep S F k⟩
  | tab q =>
    obtain ⟨ps, e, e2, k⟩ := h
    exact ⟨ps, ha _ e, e2, fun pos cv z => by
      obtain ⟨c, ec, kc⟩ := k pos cv z
      exact ⟨c, ec, codeK_keep S F kc⟩⟩
theorem sim_tup {K : PySem.W.Frag} {μ : Mu} {H : Hp} (S : Sim K μ H) {p : Addr} {o : HO} (h : H p = none) : Sim K μ (upd H p o) := ⟨fun a u e =>
  (S.at_ a u e).keep S (fr_tup h) fun x q => by rw [upd_ne (ne_of_none q h)]; exact q⟩
theorem sim_lst {K : PySem.W.Frag} {μ : Mu} {H : Hp} (S : Sim K μ H) {p : Addr} {ds : List D} {vs : List V} (F : Fr μ H (mset μ p (.lst ds)) (upd H p (.lst vs))) (r : Rps K H ds vs) : Sim K (mset μ p (.lst ds)) (upd H p (.lst vs)) := ⟨fun a u e => by
  by_cases ha : a = p
  · subst ha
    rw [mset_same] at e; cases e
    exact ⟨vs, upd_same, Rps.keep S F ds r⟩
  · rw [mset_ne ha] at e
    exact (S.at_ a u e).keep S F fun x q => by rw [upd_ne ha]; exact q⟩

/-! ### environments -/
abbrev Ev := List (Option D)
def EnvR (K : PySem.W.Frag) (H : Hp) : Ev → L2.St → Prop
  | [], σ => σ = []
  | e :: ρ, σ => ∃ s σ', σ = s :: σ' ∧ (∀ d, e = some d → ∃ v, s = some v ∧ Rp K H d v) ∧ EnvR K H ρ σ'
theorem EnvR.keep {K : PySem.W.Frag} {μ μ' : Mu} {H H' : Hp} (S : Sim K μ H) (F : Fr μ H μ' H') : ∀ {ρ : Ev} {σ : L2.St}, EnvR K H ρ σ → EnvR K H' ρ σ
  | [], _, h => h
  | e :: ρ, _, h => by
    unfold EnvR at h ⊢
    obtain ⟨s, σ', rfl, a, b⟩ := h
    refine ⟨s, σ', rfl, fun d q => ?_, EnvR.keep S F b⟩
    obtain ⟨v, h1, h2⟩ := a d q
    exact ⟨v, h1, Rp.keep S F d h2⟩
theorem EnvR.get {K : PySem.W.Frag} {H : Hp} : ∀ {ρ : Ev} {σ : L2.St} {i : Nat} {d : D}, EnvR K H ρ σ → ρ[i]? = some (some d) → ∃ v, σ[i]? = some (some v) ∧ Rp K H d v
  | [], _, _, _, _, e => by simp at e
  | x :: ρ, _, 0, d, h, e => by
    unfold EnvR at h
    obtain ⟨s, σ', rfl, a, b⟩ := h
    simp at e
    obtain ⟨v, h1, h2⟩ := a d e
    exact ⟨v, by rw [h1]; rfl, h2⟩
  | x :: ρ, _, i + 1, d, h, e => by
    unfold EnvR at h
    obtain ⟨s, σ', rfl, a, b⟩ := h
    obtain ⟨v, h1, h2⟩ := EnvR.get (i := i) b (by simpa using e)
    exact ⟨v, by simpa using h1, h2⟩
theorem EnvR.set {K : PySem.W.Frag} {H : Hp} {d : D} {v : V} (r : Rp K H d v) : ∀ {ρ : Ev} {σ : L2.St} (i : Nat), EnvR K H ρ σ → EnvR K H (ρ.set i (some d)) (σ.set i (some v))
  | [], _, _, h => by unfold EnvR at h; subst h; simp [EnvR]
  | x :: ρ, _, 0, h => by
    unfold EnvR at h
    obtain ⟨s, σ', rfl, a, b⟩ := h
    simp only [List.set_cons_zero]
    unfold EnvR
    exact ⟨_, _, rfl, fun d' q => by cases q; exact ⟨v, rfl, r⟩, b⟩
  | x :: ρ, _, i + 1, h => by
    unfold EnvR at h
    obtain ⟨s, σ', rfl, a, b⟩ := h
    simp only [List.set_cons_succ]
    unfold EnvR
    exact ⟨_, _, rfl, a, EnvR.set r i b⟩
theorem EnvR.wipe {K : PySem.W.Frag} {H : Hp} : ∀ {ρ : Ev} {σ : L2.St} (i : Nat) (s : Option V), EnvR K H ρ σ → EnvR K H (ρ.set i none) (σ.set i s)
  | [], _, _, _, h => by unfold EnvR at h; subst h; simp [EnvR]
  | x :: ρ, _, 0, _, h => by
    unfold EnvR at h
    obtain ⟨s, σ', rfl, a, b⟩ := h
    simp only [List.set_cons_zero]
    unfold EnvR
    exact ⟨_, _, rfl, fun d' q => (by cases q), b⟩
  | x :: ρ, _, i + 1, t, h => by
    unfold EnvR at h
    obtain ⟨s, σ', rfl, a, b⟩ := h
    simp only [List.set_cons_succ]
    unfold EnvR
    exact ⟨_, _, rfl, a, EnvR.wipe i t b⟩
/-- the start -/
def ev0 (n : Nat) (ds : List D) : Ev := ds.map some ++ List.replicate (n - ds.length) none
theorem EnvR.nones {K : PySem.W.Frag} {H : Hp} : ∀ (n : Nat), EnvR K H (List.replicate n Option.none) (List.replicate n Option.none)
  | 0 => rfl
  | n + 1 => by
    simp only [List.replicate_succ]
    unfold EnvR
    exact ⟨_, _, rfl, fun d q => (by cases q), EnvR.nones n⟩
theorem EnvR.start {K : PySem.W.Frag} {H : Hp} {m : Nat} : ∀ {ds : List D} {vs : List V}, Rps K H ds vs → EnvR K H (ds.map some ++ List.replicate m none) (vs.map some ++ List.replicate m none)
  | [], _, h => by unfold Rps at h; subst h; exact EnvR.nones m
  | d :: ds, _, h => by
    unfold Rps at h
    obtain ⟨w, ws, rfl, a, b⟩ := h
    simp only [List.map_cons, List.cons_append]
    unfold EnvR
    exact ⟨_, _, rfl, fun d' q => by cases q; exact ⟨w, rfl, a⟩, EnvR.start b⟩
end Sq

/-! Weakest preconditions over data, lifted to the hand layer's readings: expressions. -/
namespace Sq
open PySem PySem.Spec PyProof.Rows L2

abbrev PQ := D → Mu → Prop
/-- an error: its class, its value -/
abbrev XQ := Addr → D → Mu → Prop
structure Wp (α : Type) where
  run : Ev → Mu → (α → Mu → Prop) → XQ → Prop
  mono : ∀ {ρ μ Q Q' X X'}, (∀ d μ', Q d μ' → Q' d μ') → (∀ C d μ', X C d μ' → X' C d μ') → run ρ μ Q X → run ρ μ Q' X'
abbrev WE := Wp D
abbrev WT := Wp Bool
abbrev WA := Wp (List D)

def Out {α β : Type} (R : Hp → α → β → Prop) (K : PySem.W.Frag) (μ : Mu) (H : Hp) (Q : β → Hp → Prop) : α → Mu → Prop := fun d μ' => ∀ v H', Fr μ H μ' H' → Sim K μ' H' → R H' d v → Q v H'
def OutX (K : PySem.W.Frag) (Wx : WX) (σ : L2.St) (μ : Mu) (H : Hp) : XQ := fun C d μ' => ∀ dx v H', Fr μ H μ' H' → Sim K μ' H' → H' dx = some (.xd [("value", v)]) → Rp K H' d v → Wx (.ref C) (some dx) σ H'
def lW {α β : Type} (R : Hp → α → β → Prop) (K : PySem.W.Frag) (Wx : WX) (w : Wp α) : L2.St → Hp → (β → Hp → Prop) → Prop := fun σ H Q =>
  ∃ ρ μ, EnvR K H ρ σ ∧ Sim K μ H ∧ w.run ρ μ (Out R K μ H Q) (OutX K Wx σ μ H)
abbrev lE (K : PySem.W.Frag) (Wx : WX) (w : WE) : TE := lW (Rp K) K Wx w
abbrev lT (K : PySem.W.Frag) (Wx : WX) (w : WT) : TT := lW (fun (_ : Hp) (b c : Bool) => b = c) K Wx w
abbrev lA (K : PySem.W.Frag) (Wx : WX) (w : WA) : TA := lW (Rps K) K Wx w
def LE (X : Cx) (Wx : WX) (e : Expr) (w : WE) : Prop := PE X e (lE X.K Wx w)
def LT (X : Cx) (Wx : WX) (e : Expr) (w : WT) : Prop := PT X e (lT X.K Wx w)
def LA (X : Cx) (Wx : WX) (es : List Expr) (w : WA) : Prop := PA X es (lA X.K Wx w)

theorem Out.trans {α β : Type} {R : Hp → α → β → Prop} {K : PySem.W.Frag} {μ μ1 : Mu} {H H1 : Hp} {Q : β → Hp → Prop} (F : Fr μ H μ1 H1) {d : α} {μ' : Mu} (h : Out R K μ H Q d μ') : Out R K μ1 H1 Q d μ' := fun v H' F' S r => h v H' (F.trans F') S r
theorem OutX.trans {K : PySem.W.Frag} {Wx : WX} {σ : L2.St} {μ μ1 : Mu} {H H1 : Hp} (F : Fr μ H μ1 H1) {C : Addr} {d : D} {μ' : Mu} (h : OutX K Wx σ μ H C d μ') : OutX K Wx σ μ1 H1 C d μ' := fun dx v H' F' S r r2 => h dx v H' (F.trans F') S r r2
/-- one part, then the rest -/
theorem lW.bind {α β : Type} {R : Hp → α → β → Prop} {K : PySem.W.Frag} {Wx : WX} {w : Wp α} {σ : L2.St} {H : Hp} {ρ : Ev} {μ : Mu} {Q : α → Mu → Prop} {X : XQ} {Q' : β → Hp → Prop} (E : EnvR K H ρ σ) (S : Sim K μ H) (h : w.run ρ μ Q X)
    (hQ : ∀ d μ1 v H1, Fr μ H μ1 H1 → Sim K μ1 H1 → EnvR K H1 ρ σ → R H1 d v → Q d μ1 → Q' v H1) (hX : ∀ C d μ', X C d μ' → OutX K Wx σ μ H C d μ') : lW R K Wx w σ H Q' :=
  ⟨ρ, μ, E, S, w.mono (fun d μ1 q v H1 F S1 r => hQ d μ1 v H1 F S1 (E.keep S F) r q) hX h⟩
theorem PE.weak {X : Cx} {e : Expr} {t t' : TE} (h : PE X e t) (hw : ∀ σ H Q, t' σ H Q → t σ H Q) : PE X e t' := ⟨fun pins s σ H Q I q => h.run pins s σ H Q I (hw σ H Q q)⟩
theorem PT.weak {X : Cx} {e : Expr} {t t' : TT} (h : PT X e t) (hw : ∀ σ H Q, t' σ H Q → t σ H Q) : PT X e t' := ⟨fun pins s σ H Q I q => h.run pins s σ H Q I (hw σ H Q q)⟩
theorem PW.weak {X : Cx} {e : Expr} {t t' : TT} (h : PW X e t) (hw : ∀ σ H Q, t' σ H Q → t σ H Q) : PW X e t' := ⟨fun wh pins s σ H Q I q => h.run wh pins s σ H Q I (hw σ H Q q)⟩
theorem PA.weak {X : Cx} {es : List Expr} {t t' : TA} (h : PA X es t) (hw : ∀ σ H Q, t' σ H Q → t σ H Q) : PA X es t' := ⟨fun pos pins s σ H Q I q => h.run pos pins s σ H Q I (hw σ H Q q)⟩

section
variable {X : Cx} {Wx : WX}
/-! ### names, constants -/
def wVar (i : Nat) : WE := ⟨fun ρ μ Q _ => match ρ[i]? with | some (some d) => Q d μ | _ => False, fun {ρ μ Q Q' X X'} hQ _ h => by
  revert h
  cases ρ[i]? with
  | none => exact id
  | some o =>
    cases o with
    | none => exact id
    | some d => exact hQ d μ⟩
theorem wVar_run {i : Nat} {ρ : Ev} {μ : Mu} {Q : PQ} {X : XQ} : (wVar i).run ρ μ Q X = (match ρ[i]? with | some (some d) => Q d μ | _ => False) := rfl
theorem le_var (i : Nat) {x : Str} {pos : Pos} (hN : X.N[i]? = some x := by rfl) (hv : Vis X.env.scope x := by first | exact Or.inl rfl | exact Or.inr (Or.inl rfl) | exact Or.inr (Or.inr rfl)) (hd : (x == ("__debug__" : Str)) = false := by decide)
    (hcd : (x == ("__classdict__" : Str)) = false := by decide) : LE X Wx (.Name x pos) (wVar i) :=
  PE.weak (pe_var hN hv hd hcd) fun σ H Q ⟨ρ, μ, E, S, h⟩ => by
    rw [wVar_run] at h
    split at h
    · rename_i d e
      obtain ⟨v, h1, h2⟩ := E.get e
      exact ⟨v, h1, h v H (Fr.refl μ H) S h2⟩
    · exact h.elim
def wC (d : D) : WE := ⟨fun _ μ Q _ => Q d μ, fun hQ _ h => hQ _ _ h⟩
theorem wC_run {d : D} {ρ : Ev} {μ : Mu} {Q : PQ} {X : XQ} : (wC d).run ρ μ Q X = Q d μ := rfl
theorem le_const {e : Expr} {v : V} {d : D} (h : PE X e (tC v)) (r : ∀ H, Rp X.K H d v) : LE X Wx e (wC d) := PE.weak h fun σ H Q ⟨ρ, μ, E, S, h⟩ => h v H (Fr.refl μ H) S (r H)
theorem le_int {i j pos} : LE X Wx (.Constant (.int i) j pos) (wC (.int i)) := le_const pe_int fun _ => rfl
theorem le_bl {b j pos} : LE X Wx (.Constant (.bool b) j pos) (wC (.bl b)) := le_const pe_bl fun _ => rfl
theorem le_non {j pos} : LE X Wx (.Constant .none j pos) (wC .non) := le_const pe_non fun _ => rfl
theorem le_str {x j pos} : LE X Wx (.Constant (.str x) j pos) (wC (.str x)) := le_const pe_str fun _ => rfl
/-- a constant of the module -/
theorem le_glob {x : Str} {d : D} {v : V} {u : Value} {pos : Pos} (hm : X.mg x = some u) (r : RelV v u) (rd : ∀ H, Rp X.K H d v) (hg : Gl X x := by rfl) (hd : (x == ("__debug__" : Str)) = false := by decide) : LE X Wx (.Name x pos) (wC d) :=
  le_const (pe_glob hg hm r hd) rd

/-! ### operators by values -/
/-- what an operator does with two data -/
structure G2 where
  run : D → D → Mu → PQ → Prop
  mono : ∀ {x y μ Q Q'}, (∀ d μ', Q d μ' → Q' d μ') → run x y μ Q → run x y μ Q'
def OpD (X : Cx) (f : Value → Value → Sem Value) (g : G2) : Prop := ∃ r : R2, OpR X f r ∧ ∀ x y μ H vx vy Q, Sim X.K μ H → Rp X.K H x vx → Rp X.K H y vy → g.run x y μ (Out (Rp X.K) X.K μ H Q) → r vx vy H Q
def wOp (g : G2) (a b : WE) : WE := ⟨fun ρ μ Q X => a.run ρ μ (fun x μ1 => b.run ρ μ1 (fun y μ2 => g.run x y μ2 Q) X) X, fun hQ hX h => a.mono (fun _ _ h => b.mono (fun _ _ h => g.mono hQ h) hX h) hX h⟩
theorem wOp_run {g : G2} {a b : WE} {ρ : Ev} {μ : Mu} {Q : PQ} {X : XQ} : (wOp g a b).run ρ μ Q X = a.run ρ μ (fun x μ1 => b.run ρ μ1 (fun y μ2 => g.run x y μ2 Q) X) X := rfl
theorem wOp_t {g : G2} {f : Value → Value → Sem Value} {wa wb : WE} {r : R2} (hg : ∀ x y μ H vx vy Q, Sim X.K μ H → Rp X.K H x vx → Rp X.K H y vy → g.run x y μ (Out (Rp X.K) X.K μ H Q) → r vx vy H Q) :
    ∀ σ H Q, lE X.K Wx (wOp g wa wb) σ H Q → tOp r (lE X.K Wx wa) (lE X.K Wx wb) σ H Q := fun σ H Q ⟨ρ, μ, E, S, h⟩ => by
  refine lW.bind E S h (fun x μ1 v H1 F1 S1 E1 r1 h1 => ?_) fun _ _ _ h => h
  refine lW.bind E1 S1 h1 (fun y μ2 u H2 F2 S2 E2 r2 h2 => ?_) fun _ _ _ h => h.trans F1
  exact hg x y μ2 H2 v u Q S2 (Rp.keep S1 F2 x r1) r2 (g.mono (fun _ _ q => q.trans (F1.trans F2)) h2)
theorem le_op {op : Operator} {a b : Expr} {pos : Pos} {g : G2} {wa wb : WE} (ho : OpD X (binaryOp op) g) (ha : LE X Wx a wa) (hb : LE X Wx b wb) : LE X Wx (.BinOp a op b pos) (wOp g wa wb) := by
  obtain ⟨r, h1, h2⟩ := ho
  exact PE.weak (pe_op h1 ha hb) (wOp_t (f := binaryOp op) h2)
theorem le_cmp {op : CmpOp} {a b : Expr} {pos : Pos} {g : G2} {wa wb : WE} (ho : OpD X (compareOp op) g) (ha : LE X Wx a wa) (hb : LE X Wx b wb) (hm : behindInMarks op b = false := by first | exact nomark _ | rfl) : LE X Wx (.Compare a [op] [b] pos) (wOp g wa wb) := by
  obtain ⟨r, h1, h2⟩ := ho
  exact PE.weak (pe_cmpR h1 ha hb hm) (wOp_t (f := compareOp op) h2)
/-- of a bool -/
def onBl (z : D) (f : Bool → Prop) : Prop := match z with | .bl k => f k | _ => False
theorem onBl_bl {k : Bool} {f : Bool → Prop} : onBl (.bl k) f = f k := rfl
theorem onBl_mono {z : D} {f f' : Bool → Prop} (h : ∀ k, f k → f' k) (q : onBl z f) : onBl z f' := by
  cases z with
  | bl k => exact h k q
  | _ => exact q
theorem onBl_v {K : PySem.W.Frag} {H : Hp} {z : D} {v : V} {f : Bool → Prop} (r : Rp K H z v) (q : onBl z f) : ∃ k, v = .bl k ∧ f k := by
  cases z with
  | bl k => exact ⟨k, r, q⟩
  | _ => exact q.elim
/-- a < b < c -/
def wChain (g g' : G2) (a b c : WE) : WE := ⟨fun ρ μ Q X => a.run ρ μ (fun x μ1 => b.run ρ μ1 (fun y μ2 => g.run x y μ2 fun z μ3 => onBl z fun k => if k = true then c.run ρ μ3 (fun u μ4 => g'.run y u μ4 Q) X else Q (.bl false) μ3) X) X,
  fun hQ hX h => a.mono (fun _ _ h => b.mono (fun _ _ h => g.mono (fun z _ h => onBl_mono (fun k h => by
    cases k with
    | true => exact c.mono (fun _ _ h => g'.mono hQ h) hX h
    | false => exact hQ _ _ h) h) h) hX h) hX h⟩
theorem wChain_run {g g' : G2} {a b c : WE} {ρ : Ev} {μ : Mu} {Q : PQ} {X : XQ} : (wChain g g' a b c).run ρ μ Q X = a.run ρ μ (fun x μ1 => b.run ρ μ1 (fun y μ2 => g.run x y μ2 fun z μ3 => onBl z fun k => if k = true then c.run ρ μ3 (fun u μ4 => g'.run y u μ4 Q) X else Q (.bl false) μ3) X) X := rfl
theorem le_chain {op op' : CmpOp} {a b c : Expr} {pos : Pos} {g g' : G2} {wa wb wc : WE} (ho : OpD X (compareOp op) g) (ho' : OpD X (compareOp op') g') (ha : LE X Wx a wa) (hb : LE X Wx b wb) (hc : LE X Wx c wc)
    (hm : lastMarks [op, op'] [b, c] = false := by with_unfolding_all rfl) : LE X Wx (.Compare a [op, op'] [b, c] pos) (wChain g g' wa wb wc) := by
  obtain ⟨r, h1, h2⟩ := ho
  obtain ⟨r', h1', h2'⟩ := ho'
  refine PE.weak (pe_chain h1 h1' ha hb hc hm) fun σ H Q ⟨ρ, μ, E, S, h⟩ => ?_
  refine lW.bind E S h (fun x μ1 v H1 F1 S1 E1 r1 h1 => ?_) fun _ _ _ h => h
  refine lW.bind E1 S1 h1 (fun y μ2 u H2 F2 S2 E2 r2 h2a => ?_) fun _ _ _ h => h.trans F1
  refine h2 x y μ2 H2 v u _ S2 (Rp.keep S1 F2 x r1) r2 (g.mono (fun z μ3 q z' H3 F3 S3 r3 => ?_) h2a)
  obtain ⟨k, e, q⟩ := onBl_v r3 q
  refine ⟨k, e, ?_⟩
  cases k with
  | false => exact iteF ((show Out (Rp X.K) X.K μ H Q (.bl false) μ3 from q) _ _ (F1.trans (F2.trans F3)) S3 rfl)
  | true =>
    refine iteT (lW.bind (E2.keep S2 F3) S3 q (fun t μ4 w H4 F4 S4 E4 r4 h4 => ?_) fun _ _ _ h => h.trans (F1.trans (F2.trans F3)))
    exact h2' y t μ4 H4 u w Q S4 (Rp.keep S3 F4 y (Rp.keep S2 F3 y r2)) r4 (g'.mono (fun _ _ q => q.trans (F1.trans (F2.trans (F3.trans F4)))) h4)
end
end Sq

/-! Operators over data. -/
namespace Sq
open PySem PySem.Spec PyProof.Rows L2

/-! ### data from values -/
section
variable {K : PySem.W.Frag} {H : Hp} {v : V}
theorem rp_non (r : Rp K H .non v) : v = .non := r
theorem rp_bl {b : Bool} (r : Rp K H (.bl b) v) : v = .bl b := r
theorem rp_int {i : Int} (r : Rp K H (.int i) v) : v = .int i := r
theorem rp_str {x : Str} (r : Rp K H (.str x) v) : v = .str x := r
theorem rp_ob {a : Addr} (r : Rp K H (.ob a) v) : v = .ref a := r
theorem rp_tup {ds : List D} (r : Rp K H (.tup ds) v) : ∃ p vs, v = .ref p ∧ SqT K H p vs ∧ Rps K H ds vs := by unfold Rp at r; exact r
theorem rp_rls {ds : List D} (r : Rp K H (.rls ds) v) : ∃ p vs, v = .ref p ∧ SqR K H p vs ∧ Rps K H ds vs := by unfold Rp at r; exact r
theorem rp_mk {ds : List D} {p : Addr} {vs : List V} (h : SqT K H p vs) (r : Rps K H ds vs) : Rp K H (.tup ds) (.ref p) := by unfold Rp; exact ⟨p, vs, rfl, h, r⟩
/-- a list of the store -/
theorem Sim.lst {μ : Mu} (S : Sim K μ H) {a : Addr} {ds : List D} (h : μ a = some (.lst ds)) : ∃ vs, H a = some (.lst vs) ∧ Rps K H ds vs := S.at_ a _ h
end
/-- the new tuple -/
theorem out_tup {K : PySem.W.Frag} {μ : Mu} {H : Hp} {Q : VK} {ds : List D} {vs : List V} (S : Sim K μ H) (r : Rps K H ds vs) (h : Out (Rp K) K μ H Q (.tup ds) μ) : ∀ p, H p = none → Q (.ref p) (upd H p (.tup vs)) := fun p hp =>
  h _ _ (fr_tup hp) (sim_tup S hp) (rp_mk (SqT.of upd_same) (Rps.keep S (fr_tup hp) ds r))
/-- the new list -/
theorem out_lst {K : PySem.W.Frag} {μ : Mu} {H : Hp} {Q : VK} {ds : List D} {vs : List V} (S : Sim K μ H) (r : Rps K H ds vs) (h : ∀ p, μ p = none → Out (Rp K) K μ H Q (.ob p) (mset μ p (.lst ds))) : ∀ p, H p = none → Q (.ref p) (upd H p (.lst vs)) := fun p hp =>
  h p (S.free hp) _ _ (fr_new hp) (sim_lst S (fr_new hp) r) rfl

/-! ### ints -/
def gI (C : Int → Int → Prop) (g : Int → Int → D) : G2 := ⟨fun x y μ Q => match x, y with | .int i, .int j => C i j ∧ Q (g i j) μ | _, _ => False, fun {x y μ Q Q'} hQ h => by
  cases x <;> cases y <;> first | exact ⟨h.1, hQ _ _ h.2⟩ | exact h⟩
theorem gI_run {C : Int → Int → Prop} {g : Int → Int → D} {i j : Int} {μ : Mu} {Q : PQ} : (gI C g).run (.int i) (.int j) μ Q = (C i j ∧ Q (g i j) μ) := rfl
section
variable {X : Cx}
theorem od_int {f : Value → Value → Sem Value} {C : Int → Int → Prop} {gv : Int → Int → V} {g : Int → Int → D} (h : OpR X f (rI C gv)) (e : ∀ i j H, Rp X.K H (g i j) (gv i j)) : OpD X f (gI C g) := ⟨_, h, fun x y μ H vx vy Q S rx ry q => by
  cases x <;> cases y <;> first
    | exact q.elim
    | (rw [rp_int rx, rp_int ry]; exact ⟨_, _, rfl, rfl, q.1, q.2 _ _ (Fr.refl μ H) S (e _ _ H)⟩)⟩
theorem od_int0 {f : Value → Value → Sem Value} {gv : Int → Int → V} {g : Int → Int → D} (h : OpR X f (rI0 gv)) (e : ∀ i j H, Rp X.K H (g i j) (gv i j)) : OpD X f (gI (fun _ _ => True) g) := ⟨_, h, fun x y μ H vx vy Q S rx ry q => by
  cases x <;> cases y <;> first
    | exact q.elim
    | (rw [rp_int rx, rp_int ry]; exact ⟨_, _, rfl, rfl, q.2 _ _ (Fr.refl μ H) S (e _ _ H)⟩)⟩
def gSub : G2 := gI (fun _ _ => True) fun i j => .int (i - j)
theorem od_sub : OpD X (binaryOp .Sub) gSub := od_int0 op_sub fun _ _ _ => rfl
/-- a divisor: not 0, below 2 ^ 9000 -/
def DivOk (j : Int) : Prop := j ≠ 0 ∧ j.natAbs < 2 ^ 9000
theorem op_fdivA : OpR X (binaryOp .FloorDiv) (rI (fun _ j => DivOk j) fun i j => .int (i.fdiv j)) := opI fun i j _ _ _ _ _ hc q =>
  floordiv_int hc.1 q (.inl (PyProof.noPylong_of_log2 (PySem.Flt.log2_lt_of (by decide) hc.2)))
def gFdiv : G2 := gI (fun _ j => DivOk j) fun i j => .int (i.fdiv j)
theorem od_fdiv : OpD X (binaryOp .FloorDiv) gFdiv := od_int op_fdivA fun _ _ _ => rfl
def gMod : G2 := gI (fun _ j => j ≠ 0) fun i j => .int (i.fmod j)
theorem od_mod : OpD X (binaryOp .Mod) gMod := od_int op_modN fun _ _ _ => rfl
/-- a < b of ints -/
def gLt : G2 := gI (fun _ _ => True) fun i j => .bl (decide (i < j))
def gLe : G2 := gI (fun _ _ => True) fun i j => .bl (decide (i ≤ j))
def gGt : G2 := gI (fun _ _ => True) fun i j => .bl (decide (j < i))
def gGe : G2 := gI (fun _ _ => True) fun i j => .bl (decide (j ≤ i))
theorem od_lt : OpD X (compareOp .Lt) gLt := od_int0 op_lt fun _ _ _ => rfl
theorem od_le : OpD X (compareOp .LtE) gLe := od_int0 op_le fun _ _ _ => rfl
theorem od_gt : OpD X (compareOp .Gt) gGt := od_int0 op_gt fun _ _ _ => rfl
theorem od_ge : OpD X (compareOp .GtE) gGe := od_int0 op_ge fun _ _ _ => rfl

/-! ### + of ints, texts, tuples, lists -/
def gAdd : G2 := ⟨fun x y μ Q => match x, y with
    | .int i, .int j => Q (.int (i + j)) μ
    | .str s, .str t => s.length + t.length ≤ sizeLine ∧ Q (.str (s ++ t)) μ
    | .tup xs, .tup ys => xs.length + ys.length ≤ sizeLine ∧ Q (.tup (xs ++ ys)) μ
    | .ob a, .ob b => (match μ a, μ b with | some (.lst xs), some (.lst ys) => xs.length + ys.length ≤ sizeLine ∧ ∀ p, μ p = none → Q (.ob p) (mset μ p (.lst (xs ++ ys))) | _, _ => False)
    | _, _ => False, fun {x y μ Q Q'} hQ h => by
  cases x <;> cases y <;> first
    | exact hQ _ _ h
    | exact ⟨h.1, hQ _ _ h.2⟩
    | (revert h; dsimp only; split
       · exact fun h => ⟨h.1, fun p hp => hQ _ _ (h.2 p hp)⟩
       · exact id)
    | exact h⟩
theorem gAdd_int {i j : Int} {μ : Mu} {Q : PQ} : gAdd.run (.int i) (.int j) μ Q = Q (.int (i + j)) μ := rfl
theorem gAdd_str {i j : Str} {μ : Mu} {Q : PQ} : gAdd.run (.str i) (.str j) μ Q = (i.length + j.length ≤ sizeLine ∧ Q (.str (i ++ j)) μ) := rfl
theorem gAdd_tup {i j : List D} {μ : Mu} {Q : PQ} : gAdd.run (.tup i) (.tup j) μ Q = (i.length + j.length ≤ sizeLine ∧ Q (.tup (i ++ j)) μ) := rfl
theorem gAdd_ob {a b : Addr} {μ : Mu} {Q : PQ} : gAdd.run (.ob a) (.ob b) μ Q = (match μ a, μ b with | some (.lst xs), some (.lst ys) => xs.length + ys.length ≤ sizeLine ∧ ∀ p, μ p = none → Q (.ob p) (mset μ p (.lst (xs ++ ys))) | _, _ => False) := rfl
theorem od_add : OpD X (binaryOp .Add) gAdd := ⟨_, (op_add.or (op_add_str.or (op_catA.or op_cat))), fun x y μ H vx vy Q S rx ry q => by
  cases x <;> cases y <;> first
    | exact q.elim
    | (rw [rp_int rx, rp_int ry]; exact .inl ⟨_, _, rfl, rfl, (show Out (Rp X.K) X.K μ H Q _ μ from q) _ _ (Fr.refl μ H) S rfl⟩)
    | (rw [rp_str rx, rp_str ry]; exact .inr (.inl ⟨_, _, rfl, rfl, q.1, q.2 _ _ (Fr.refl μ H) S rfl⟩))
    | (rename_i xs ys
       obtain ⟨p, vs, e1, t1, r1⟩ := rp_tup rx
       obtain ⟨p', vs', e2, t2, r2⟩ := rp_tup ry
       subst e1 e2
       have q' : Out (Rp X.K) X.K μ H Q (.tup (xs ++ ys)) μ := q.2
       refine .inr (.inr (.inl ⟨p, p', vs, vs', rfl, rfl, t1, t2, by rw [r1.length, r2.length]; exact q.1, fun e => ?_, fun _ e => ?_, fun _ _ => out_tup S (r1.append r2) q'⟩))
       · have : xs = [] := List.eq_nil_of_length_eq_zero (by rw [← r1.length, e]; rfl)
         subst this
         exact q' _ _ (Fr.refl μ H) S ry
       · have : ys = [] := List.eq_nil_of_length_eq_zero (by rw [← r2.length, e]; rfl)
         subst this
         rw [List.append_nil] at q'
         exact q' _ _ (Fr.refl μ H) S rx)
    | (rename_i a b
       rw [rp_ob rx, rp_ob ry]
       rw [gAdd_ob] at q
       split at q
       · rename_i xs ys e1 e2
         obtain ⟨vs, h1, r1⟩ := S.lst e1
         obtain ⟨vs', h2, r2⟩ := S.lst e2
         exact .inr (.inr (.inr ⟨a, b, vs, vs', rfl, rfl, h1, h2, by rw [r1.length, r2.length]; exact q.1, out_lst S (r1.append r2) q.2⟩))
       · exact q.elim)⟩

/-! ### * of ints; list * int, tuple * int -/
/-- a product of a size that the model carries -/
def gMul : G2 := ⟨fun x y μ Q => match x, y with
    | .int i, .int j => IntMulOk i j ∧ Q (.int (i * j)) μ
    | .ob a, .int k => (match μ a with | some (.lst xs) => -(2 ^ 63) ≤ k ∧ k < 2 ^ 63 ∧ xs.length * k.toNat ≤ sizeLine ∧ ∀ p, μ p = none → Q (.ob p) (mset μ p (.lst (List.replicate k.toNat xs).flatten)) | _ => False)
    | _, _ => False, fun {x y μ Q Q'} hQ h => by
  cases x <;> cases y <;> first
    | exact ⟨h.1, hQ _ _ h.2⟩
    | (revert h; dsimp only; split
       · exact fun h => ⟨h.1, h.2.1, h.2.2.1, fun p hp => hQ _ _ (h.2.2.2 p hp)⟩
       · exact id)
    | exact h⟩
theorem gMul_int {i j : Int} {μ : Mu} {Q : PQ} : gMul.run (.int i) (.int j) μ Q = (IntMulOk i j ∧ Q (.int (i * j)) μ) := rfl
theorem gMul_ob {a : Addr} {k : Int} {μ : Mu} {Q : PQ} : gMul.run (.ob a) (.int k) μ Q = (match μ a with | some (.lst xs) => -(2 ^ 63) ≤ k ∧ k < 2 ^ 63 ∧ xs.length * k.toNat ≤ sizeLine ∧ ∀ p, μ p = none → Q (.ob p) (mset μ p (.lst (List.replicate k.toNat xs).flatten)) | _ => False) := rfl
theorem op_mulA : OpR X (binaryOp .Mult) (rI IntMulOk fun i j => .int (i * j)) := opI fun _ _ _ _ _ _ _ hc q => mul_int q hc
theorem Rps.rep {K : PySem.W.Frag} {H : Hp} {ds : List D} {vs : List V} (h : Rps K H ds vs) : ∀ n : Nat, Rps K H (List.replicate n ds).flatten (List.replicate n vs).flatten
  | 0 => by simp [Rps]
  | n + 1 => by
    simp only [List.replicate_succ, List.flatten_cons]
    exact h.append (Rps.rep h n)
theorem od_mul : OpD X (binaryOp .Mult) gMul := ⟨_, op_mulA.or op_rep, fun x y μ H vx vy Q S rx ry q => by
  cases x <;> cases y <;> first
    | exact q.elim
    | (rw [rp_int rx, rp_int ry]; exact .inl ⟨_, _, rfl, rfl, q.1, q.2 _ _ (Fr.refl μ H) S rfl⟩)
    | (rename_i a k
       rw [rp_ob rx, rp_int ry]
       rw [gMul_ob] at q
       split at q
       · rename_i xs e1
         obtain ⟨vs, h1, r1⟩ := S.lst e1
         exact .inr ⟨a, k, vs, rfl, rfl, h1, q.1, q.2.1, by rw [r1.length]; exact q.2.2.1, out_lst S (r1.rep k.toNat) q.2.2.2⟩
       · exact q.elim)⟩
theorem mulOk_l {i j : Int} (h1 : -(2 ^ 64) < i) (h2 : i < 2 ^ 64) : IntMulOk i j := .of_left (intBits_le_64 h1 h2)
theorem mulOk_r {i j : Int} (h1 : -(2 ^ 64) < j) (h2 : j < 2 ^ 64) : IntMulOk i j := .of_right (intBits_le_64 h1 h2)
theorem mulOk_w {i j : Int} {a b : Nat} (ha : i.natAbs < 2 ^ a) (hb : j.natAbs < 2 ^ b) (h0 : 0 < a) (h1 : 0 < b) (h : a + b ≤ 1000000) : IntMulOk i j := (wide_mul ha hb h0 h1 h).ok

/-! ### ** -/
def gPow : G2 := gI CPow fun i j => .int (i ^ j.toNat)
theorem od_pow : OpD X (binaryOp .Pow) gPow := od_int op_pow fun _ _ _ => rfl

/-! ### == and != -/
mutual
inductive DPy (μ : Mu) : D → PyData → Prop
  | non : DPy μ .non .none
  | bl (b : Bool) : DPy μ (.bl b) (.bool b)
  | int (i : Int) : DPy μ (.int i) (.int i)
  | str (x : Str) : DPy μ (.str x) (.str x)
  | tup {ds : List D} {ps : List PyData} : DPys μ ds ps → DPy μ (.tup ds) (.tuple ps)
  | lst {a : Addr} {ds : List D} {ps : List PyData} : μ a = some (.lst ds) → DPys μ ds ps → DPy μ (.ob a) (.list ps)
inductive DPys (μ : Mu) : List D → List PyData → Prop
  | nil : DPys μ [] []
  | cons {d : D} {ds : List D} {p : PyData} {ps : List PyData} : DPy μ d p → DPys μ ds ps → DPys μ (d :: ds) (p :: ps)
end
mutual
theorem DPy.dp {K : PySem.W.Frag} {μ : Mu} {H : Hp} (S : Sim K μ H) : ∀ {p : PyData} {d : D} {v : V}, DPy μ d p → Rp K H d v → Dp K H v p
  | _, _, _, .non, r => by rw [rp_non r]; exact .non
  | _, _, _, .bl b, r => by rw [rp_bl r]; exact .bl b
  | _, _, _, .int i, r => by rw [rp_int r]; exact .int i
  | _, _, _, .str x, r => by rw [rp_str r]; exact .str x
  | _, _, _, .tup h, r => by
    obtain ⟨p, vs, rfl, t, q⟩ := rp_tup r
    exact .tup t (DPys.dp S h q)
  | _, _, _, .lst e h, r => by
    rw [rp_ob r]
    obtain ⟨vs, h1, q⟩ := S.lst e
    exact .lst (SqL.of h1) (DPys.dp S h q)
theorem DPys.dp {K : PySem.W.Frag} {μ : Mu} {H : Hp} (S : Sim K μ H) : ∀ {ps : List PyData} {ds : List D} {vs : List V}, DPys μ ds ps → Rps K H ds vs → DpAll K H vs ps
  | _, _, _, .nil, r => by unfold Rps at r; subst r; exact .nil
  | _, _, _, .cons a b, r => by
    unfold Rps at r
    obtain ⟨w, ws, rfl, r1, r2⟩ := r
    exact .cons (DPy.dp S a r1) (DPys.dp S b r2)
end
/-- == of data -/
def EqP (x y : D) (μ : Mu) (Q : Bool → Prop) : Prop := ∃ d e, DPy μ x d ∧ DPy μ y e ∧ SeqAt.shaped d = true ∧ SeqAt.shaped e = true ∧ Q (PyData.eqv d e)
def EqB (x y : D) (μ : Mu) (Q : Bool → Prop) : Prop := match x, y with
  | .int i, .int j => Q (decide (i = j))
  | .str i, .str j => Q (decide (i = j))
  | .bl i, .bl j => Q (decide (i = j))
  | x, y => EqP x y μ Q
theorem EqP.mono {x y : D} {μ : Mu} {Q Q' : Bool → Prop} (h : ∀ b, Q b → Q' b) (q : EqP x y μ Q) : EqP x y μ Q' := by
  obtain ⟨d, e, h1, h2, h3, h4, q⟩ := q
  exact ⟨d, e, h1, h2, h3, h4, h _ q⟩
theorem EqB.mono {x y : D} {μ : Mu} {Q Q' : Bool → Prop} (h : ∀ b, Q b → Q' b) (q : EqB x y μ Q) : EqB x y μ Q' := by
  revert q
  unfold EqB
  split
  · exact h _
  · exact h _
  · exact h _
  · exact EqP.mono h
theorem EqB_int {i j : Int} {μ : Mu} {Q : Bool → Prop} : EqB (.int i) (.int j) μ Q = Q (decide (i = j)) := rfl
theorem EqB_str {i j : Str} {μ : Mu} {Q : Bool → Prop} : EqB (.str i) (.str j) μ Q = Q (decide (i = j)) := rfl
theorem EqB_bl {i j : Bool} {μ : Mu} {Q : Bool → Prop} : EqB (.bl i) (.bl j) μ Q = Q (decide (i = j)) := rfl
def gEq : G2 := ⟨fun x y μ Q => EqB x y μ fun b => Q (.bl b) μ, fun hQ h => h.mono fun _ q => hQ _ _ q⟩
def gNe : G2 := ⟨fun x y μ Q => EqB x y μ fun b => Q (.bl (!b)) μ, fun hQ h => h.mono fun _ q => hQ _ _ q⟩
theorem gEq_run {x y : D} {μ : Mu} {Q : PQ} : gEq.run x y μ Q = EqB x y μ fun b => Q (.bl b) μ := rfl
theorem gNe_run {x y : D} {μ : Mu} {Q : PQ} : gNe.run x y μ Q = EqB x y μ fun b => Q (.bl (!b)) μ := rfl
theorem dec_vint {i j : Int} : decide (V.int i = V.int j) = decide (i = j) := by simp
theorem dec_vstr {i j : Str} : decide (V.str i = V.str j) = decide (i = j) := by simp
theorem dec_vbl {i j : Bool} : decide (V.bl i = V.bl j) = decide (i = j) := by simp
theorem eqB_v {K : PySem.W.Frag} {x y : D} {μ : Mu} {H : Hp} {vx vy : V} {Q : Bool → Prop} (S : Sim K μ H) (rx : Rp K H x vx) (ry : Rp K H y vy) (q : EqB x y μ Q) :
    (scal vx vy = true ∧ Q (decide (vx = vy))) ∨ ∃ d e, Dp K H vx d ∧ Dp K H vy e ∧ SeqAt.shaped d = true ∧ SeqAt.shaped e = true ∧ Q (PyData.eqv d e) := by
  revert q
  unfold EqB
  split
  · intro q; rw [rp_int rx, rp_int ry]; exact .inl ⟨rfl, by rw [dec_vint]; exact q⟩
  · intro q; rw [rp_str rx, rp_str ry]; exact .inl ⟨rfl, by rw [dec_vstr]; exact q⟩
  · intro q; rw [rp_bl rx, rp_bl ry]; exact .inl ⟨rfl, by rw [dec_vbl]; exact q⟩
  · rintro ⟨d, e, h1, h2, h3, h4, q⟩
    exact .inr ⟨d, e, h1.dp S rx, h2.dp S ry, h3, h4, q⟩
theorem od_eq (hu : X.A.units + 64 < cLine) : OpD X (compareOp .Eq) gEq := ⟨_, op_eq.or (op_eqD hu), fun x y μ H vx vy Q S rx ry q => by
  rcases eqB_v (Q := fun b => Out (Rp X.K) X.K μ H Q (.bl b) μ) S rx ry q with ⟨h, q⟩ | ⟨d, e, h1, h2, h3, h4, q⟩
  · exact .inl ⟨h, q _ _ (Fr.refl μ H) S rfl⟩
  · exact .inr ⟨d, e, h1, h2, h3, h4, q _ _ (Fr.refl μ H) S rfl⟩⟩
theorem od_ne (hu : X.A.units + 64 < cLine) : OpD X (compareOp .NotEq) gNe := ⟨_, op_ne.or (op_neD hu), fun x y μ H vx vy Q S rx ry q => by
  rcases eqB_v (Q := fun b => Out (Rp X.K) X.K μ H Q (.bl (!b)) μ) S rx ry q with ⟨h, q⟩ | ⟨d, e, h1, h2, h3, h4, q⟩
  · exact .inl ⟨h, q _ _ (Fr.refl μ H) S rfl⟩
  · exact .inr ⟨d, e, h1, h2, h3, h4, q _ _ (Fr.refl μ H) S rfl⟩⟩
end
end Sq

/-! Truth, tests, displays, items, slices, calls. -/
namespace Sq
open PySem PySem.Spec PyProof.Rows L2
section
variable {X : Cx} {Wx : WX}
/-! ### unary -/
structure G1 where
  run : D → Mu → PQ → Prop
  mono : ∀ {x μ Q Q'}, (∀ d μ', Q d μ' → Q' d μ') → run x μ Q → run x μ Q'
def wNeg (a : WE) : WE := ⟨fun ρ μ Q X => a.run ρ μ (fun x μ1 => match x with | .int i => Q (.int (-i)) μ1 | _ => False) X, fun hQ hX h => a.mono (fun x _ h => by cases x <;> first | exact hQ _ _ h | exact h) hX h⟩
theorem wNeg_run {a : WE} {ρ : Ev} {μ : Mu} {Q : PQ} {X : XQ} : (wNeg a).run ρ μ Q X = a.run ρ μ (fun x μ1 => match x with | .int i => Q (.int (-i)) μ1 | _ => False) X := rfl
theorem le_neg {a : Expr} {wa : WE} {pos : Pos} (ha : LE X Wx a wa) : LE X Wx (.UnaryOp .USub a pos) (wNeg wa) :=
  PE.weak (pe_un un_neg ha) fun σ H Q ⟨ρ, μ, E, S, h⟩ => by
    refine lW.bind E S h (fun x μ1 v H1 F1 S1 E1 r1 h1 => ?_) fun _ _ _ h => h
    cases x <;> first
      | exact h1.elim
      | (rw [rp_int r1]; exact ⟨_, rfl, (show Out (Rp X.K) X.K μ H Q _ μ1 from h1) _ _ F1 S1 rfl⟩)
def wNotV (a : WE) : WE := ⟨fun ρ μ Q X => a.run ρ μ (fun x μ1 => onBl x fun k => Q (.bl (!k)) μ1) X, fun hQ hX h => a.mono (fun x _ h => onBl_mono (fun k h => hQ _ _ h) h) hX h⟩
theorem wNotV_run {a : WE} {ρ : Ev} {μ : Mu} {Q : PQ} {X : XQ} : (wNotV a).run ρ μ Q X = a.run ρ μ (fun x μ1 => onBl x fun k => Q (.bl (!k)) μ1) X := rfl
theorem le_not {a : Expr} {wa : WE} {pos : Pos} (ha : LE X Wx a wa) : LE X Wx (.UnaryOp .Not a pos) (wNotV wa) :=
  PE.weak (pe_not ha) fun σ H Q ⟨ρ, μ, E, S, h⟩ => by
    refine lW.bind E S h (fun x μ1 v H1 F1 S1 E1 r1 h1 => ?_) fun _ _ _ h => h
    obtain ⟨k, e, q⟩ := onBl_v r1 h1
    exact ⟨k, e, (show Out (Rp X.K) X.K μ H Q _ μ1 from q) _ _ F1 S1 rfl⟩
/-! ### and, or as values -/
def wAndV (a b : WE) : WE := ⟨fun ρ μ Q X => a.run ρ μ (fun x μ1 => onBl x fun k => if k = true then b.run ρ μ1 Q X else Q (.bl false) μ1) X, fun hQ hX h => a.mono (fun x _ h => onBl_mono (fun k h => by
  cases k with
  | true => exact b.mono hQ hX h
  | false => exact hQ _ _ h) h) hX h⟩
def wOrV (a b : WE) : WE := ⟨fun ρ μ Q X => a.run ρ μ (fun x μ1 => onBl x fun k => if k = true then Q (.bl true) μ1 else b.run ρ μ1 Q X) X, fun hQ hX h => a.mono (fun x _ h => onBl_mono (fun k h => by
  cases k with
  | true => exact hQ _ _ h
  | false => exact b.mono hQ hX h) h) hX h⟩
theorem wAndV_run {a b : WE} {ρ : Ev} {μ : Mu} {Q : PQ} {X : XQ} : (wAndV a b).run ρ μ Q X = a.run ρ μ (fun x μ1 => onBl x fun k => if k = true then b.run ρ μ1 Q X else Q (.bl false) μ1) X := rfl
theorem wOrV_run {a b : WE} {ρ : Ev} {μ : Mu} {Q : PQ} {X : XQ} : (wOrV a b).run ρ μ Q X = a.run ρ μ (fun x μ1 => onBl x fun k => if k = true then Q (.bl true) μ1 else b.run ρ μ1 Q X) X := rfl
theorem le_one {op} {a : Expr} {pos : Pos} {wa : WE} (h : LE X Wx a wa) : LE X Wx (.BoolOp op [a] pos) wa := pe_one h
theorem le_and {a b : Expr} {rest : List Expr} {pos : Pos} {wa wb : WE} (ha : LE X Wx a wa) (hb : LE X Wx (.BoolOp .And (b :: rest) pos) wb) : LE X Wx (.BoolOp .And (a :: b :: rest) pos) (wAndV wa wb) :=
  PE.weak (pe_and ha hb) fun σ H Q ⟨ρ, μ, E, S, h⟩ => by
    refine lW.bind E S h (fun x μ1 v H1 F1 S1 E1 r1 h1 => ?_) fun _ _ _ h => h
    obtain ⟨k, e, q⟩ := onBl_v r1 h1
    refine ⟨k, e, ?_⟩
    cases k with
    | true => exact iteT (lW.bind E1 S1 q (fun y μ2 u H2 F2 S2 E2 r2 q2 => q2 _ _ (F1.trans F2) S2 r2) fun _ _ _ h => h.trans F1)
    | false => exact iteF ((show Out (Rp X.K) X.K μ H Q (.bl false) μ1 from q) _ _ F1 S1 rfl)
theorem le_or {a b : Expr} {rest : List Expr} {pos : Pos} {wa wb : WE} (ha : LE X Wx a wa) (hb : LE X Wx (.BoolOp .Or (b :: rest) pos) wb) : LE X Wx (.BoolOp .Or (a :: b :: rest) pos) (wOrV wa wb) :=
  PE.weak (pe_or ha hb) fun σ H Q ⟨ρ, μ, E, S, h⟩ => by
    refine lW.bind E S h (fun x μ1 v H1 F1 S1 E1 r1 h1 => ?_) fun _ _ _ h => h
    obtain ⟨k, e, q⟩ := onBl_v r1 h1
    refine ⟨k, e, ?_⟩
    cases k with
    | true => exact iteT ((show Out (Rp X.K) X.K μ H Q (.bl true) μ1 from q) _ _ F1 S1 rfl)
    | false => exact iteF (lW.bind E1 S1 q (fun y μ2 u H2 F2 S2 E2 r2 q2 => q2 _ _ (F1.trans F2) S2 r2) fun _ _ _ h => h.trans F1)

/-! ### tests -/
def wTB (a : WE) : WT := ⟨fun ρ μ Q X => a.run ρ μ (fun x μ1 => onBl x fun k => Q k μ1) X, fun hQ hX h => a.mono (fun x _ h => onBl_mono (fun k h => hQ _ _ h) h) hX h⟩
theorem wTB_run {a : WE} {ρ : Ev} {μ : Mu} {Q : Bool → Mu → Prop} {X : XQ} : (wTB a).run ρ μ Q X = a.run ρ μ (fun x μ1 => onBl x fun k => Q k μ1) X := rfl
theorem wTB_t {a : WE} : ∀ σ H Q, lT X.K Wx (wTB a) σ H Q → tB (lE X.K Wx a) σ H Q := fun σ H Q ⟨ρ, μ, E, S, h⟩ => by
  refine lW.bind E S h (fun x μ1 v H1 F1 S1 E1 r1 h1 => ?_) fun _ _ _ h => h
  obtain ⟨k, e, q⟩ := onBl_v r1 h1
  exact ⟨k, e, (show Out (fun (_ : Hp) (b c : Bool) => b = c) X.K μ H Q k μ1 from q) _ _ F1 S1 rfl⟩
/-- a call, a name, a constant, .. that gives a bool -/
theorem lt_val {e : Expr} {w : WE} (h : LE X Wx e w) (he : ∀ whole, isTrue e X.env whole = (do let v ← whole; standAt e.pos; holding [v] (truthy v)) := by intro _; rfl) : LT X Wx e (wTB w) := PT.weak (pt_val h he) wTB_t
theorem lt_cmp {op : CmpOp} {a b : Expr} {pos : Pos} {g : G2} {wa wb : WE} (ho : OpD X (compareOp op) g) (ha : LE X Wx a wa) (hb : LE X Wx b wb) (hm : behindInMarks op b = false := by first | exact nomark _ | rfl) : LT X Wx (.Compare a [op] [b] pos) (wTB (wOp g wa wb)) := by
  obtain ⟨r, h1, h2⟩ := ho
  refine PT.weak (pt_cmpR h1 ha hb hm) fun σ H Q h => ?_
  exact wOp_t (f := compareOp op) h2 σ H _ (wTB_t σ H Q h)
theorem wChain_t {op op' : CmpOp} {r r' : R2} {g g' : G2} {wa wb wc : WE} (h2 : ∀ x y μ H vx vy Q, Sim X.K μ H → Rp X.K H x vx → Rp X.K H y vy → g.run x y μ (Out (Rp X.K) X.K μ H Q) → r vx vy H Q)
    (h2' : ∀ x y μ H vx vy Q, Sim X.K μ H → Rp X.K H x vx → Rp X.K H y vy → g'.run x y μ (Out (Rp X.K) X.K μ H Q) → r' vx vy H Q) : ∀ σ H Q, lE X.K Wx (wChain g g' wa wb wc) σ H Q → tChain r r' (lE X.K Wx wa) (lE X.K Wx wb) (lE X.K Wx wc) σ H Q := fun σ H Q ⟨ρ, μ, E, S, h⟩ => by
  refine lW.bind E S h (fun x μ1 v H1 F1 S1 E1 r1 h1 => ?_) fun _ _ _ h => h
  refine lW.bind E1 S1 h1 (fun y μ2 u H2 F2 S2 E2 r2 h2a => ?_) fun _ _ _ h => h.trans F1
  refine h2 x y μ2 H2 v u _ S2 (Rp.keep S1 F2 x r1) r2 (g.mono (fun z μ3 q z' H3 F3 S3 r3 => ?_) h2a)
  obtain ⟨k, e, q⟩ := onBl_v r3 q
  refine ⟨k, e, ?_⟩
  cases k with
  | false => exact iteF ((show Out (Rp X.K) X.K μ H Q (.bl false) μ3 from q) _ _ (F1.trans (F2.trans F3)) S3 rfl)
  | true =>
    refine iteT (lW.bind (E2.keep S2 F3) S3 q (fun t μ4 w H4 F4 S4 E4 r4 h4 => ?_) fun _ _ _ h => h.trans (F1.trans (F2.trans F3)))
    exact h2' y t μ4 H4 u w Q S4 (Rp.keep S3 F4 y (Rp.keep S2 F3 y r2)) r4 (g'.mono (fun _ _ q => q.trans (F1.trans (F2.trans (F3.trans F4)))) h4)
theorem lt_chain {op op' : CmpOp} {a b c : Expr} {pos : Pos} {g g' : G2} {wa wb wc : WE} (ho : OpD X (compareOp op) g) (ho' : OpD X (compareOp op') g') (ha : LE X Wx a wa) (hb : LE X Wx b wb) (hc : LE X Wx c wc)
    (hm : lastMarks [op, op'] [b, c] = false := by with_unfolding_all rfl) : LT X Wx (.Compare a [op, op'] [b, c] pos) (wTB (wChain g g' wa wb wc)) := by
  obtain ⟨r, h1, h2⟩ := ho
  obtain ⟨r', h1', h2'⟩ := ho'
  exact PT.weak (pt_chain h1 h1' ha hb hc hm) fun σ H Q h => wChain_t (op := op) (op' := op') h2 h2' σ H _ (wTB_t σ H Q h)
def wNotT (a : WT) : WT := ⟨fun ρ μ Q X => a.run ρ μ (fun k μ1 => Q (!k) μ1) X, fun hQ hX h => a.mono (fun _ _ h => hQ _ _ h) hX h⟩
theorem wNotT_run {a : WT} {ρ : Ev} {μ : Mu} {Q : Bool → Mu → Prop} {X : XQ} : (wNotT a).run ρ μ Q X = a.run ρ μ (fun k μ1 => Q (!k) μ1) X := rfl
theorem lt_not {a : Expr} {pos : Pos} {wa : WT} (ha : LT X Wx a wa) : LT X Wx (.UnaryOp .Not a pos) (wNotT wa) := PT.weak (pt_not ha) fun σ H Q ⟨ρ, μ, E, S, h⟩ => by
  refine lW.bind E S h (fun x μ1 v H1 F1 S1 E1 r1 h1 => ?_) fun _ _ _ h => h
  subst r1
  exact h1 _ _ F1 S1 rfl
def wAndT (a b : WT) : WT := ⟨fun ρ μ Q X => a.run ρ μ (fun k μ1 => if k = true then b.run ρ μ1 Q X else Q false μ1) X, fun hQ hX h => a.mono (fun k _ h => by
  cases k with
  | true => exact b.mono hQ hX h
  | false => exact hQ _ _ h) hX h⟩
def wOrT (a b : WT) : WT := ⟨fun ρ μ Q X => a.run ρ μ (fun k μ1 => if k = true then Q true μ1 else b.run ρ μ1 Q X) X, fun hQ hX h => a.mono (fun k _ h => by
  cases k with
  | true => exact hQ _ _ h
  | false => exact b.mono hQ hX h) hX h⟩
theorem wAndT_run {a b : WT} {ρ : Ev} {μ : Mu} {Q : Bool → Mu → Prop} {X : XQ} : (wAndT a b).run ρ μ Q X = a.run ρ μ (fun k μ1 => if k = true then b.run ρ μ1 Q X else Q false μ1) X := rfl
theorem wOrT_run {a b : WT} {ρ : Ev} {μ : Mu} {Q : Bool → Mu → Prop} {X : XQ} : (wOrT a b).run ρ μ Q X = a.run ρ μ (fun k μ1 => if k = true then Q true μ1 else b.run ρ μ1 Q X) X := rfl
def LW (X : Cx) (Wx : WX) (e : Expr) (w : WT) : Prop := PW X e (lT X.K Wx w)
theorem LW.lt {e : Expr} {w : WT} (h : LW X Wx e w) : LT X Wx e w := PW.pt h
theorem lw_and1 {a : Expr} {pos : Pos} {wa : WT} (ha : LT X Wx a wa) : LW X Wx (.BoolOp .And [a] pos) wa := pw_and1 ha
theorem lw_or1 {a : Expr} {pos : Pos} {wa : WT} (ha : LT X Wx a wa) : LW X Wx (.BoolOp .Or [a] pos) wa := pw_or1 ha
theorem lw_and {a b : Expr} {rest : List Expr} {pos : Pos} {wa wb : WT} (ha : LT X Wx a wa) (hb : LW X Wx (.BoolOp .And (b :: rest) pos) wb) : LW X Wx (.BoolOp .And (a :: b :: rest) pos) (wAndT wa wb) :=
  PW.weak (pw_and ha hb) fun σ H Q ⟨ρ, μ, E, S, h⟩ => by
    refine lW.bind E S h (fun x μ1 v H1 F1 S1 E1 r1 h1 => ?_) fun _ _ _ h => h
    subst r1
    cases x with
    | true => exact iteT (lW.bind E1 S1 h1 (fun y μ2 u H2 F2 S2 E2 r2 q2 => q2 _ _ (F1.trans F2) S2 r2) fun _ _ _ h => h.trans F1)
    | false => exact iteF (h1 _ _ F1 S1 rfl)
theorem lw_or {a b : Expr} {rest : List Expr} {pos : Pos} {wa wb : WT} (ha : LT X Wx a wa) (hb : LW X Wx (.BoolOp .Or (b :: rest) pos) wb) : LW X Wx (.BoolOp .Or (a :: b :: rest) pos) (wOrT wa wb) :=
  PW.weak (pw_or ha hb) fun σ H Q ⟨ρ, μ, E, S, h⟩ => by
    refine lW.bind E S h (fun x μ1 v H1 F1 S1 E1 r1 h1 => ?_) fun _ _ _ h => h
    subst r1
    cases x with
    | true => exact iteT (h1 _ _ F1 S1 rfl)
    | false => exact iteF (lW.bind E1 S1 h1 (fun y μ2 u H2 F2 S2 E2 r2 q2 => q2 _ _ (F1.trans F2) S2 r2) fun _ _ _ h => h.trans F1)
def wIfE (c : WT) (a b : WE) : WE := ⟨fun ρ μ Q X => c.run ρ μ (fun k μ1 => if k = true then a.run ρ μ1 Q X else b.run ρ μ1 Q X) X, fun hQ hX h => c.mono (fun k _ h => by
  cases k with
  | true => exact a.mono hQ hX h
  | false => exact b.mono hQ hX h) hX h⟩
theorem wIfE_run {c : WT} {a b : WE} {ρ : Ev} {μ : Mu} {Q : PQ} {X : XQ} : (wIfE c a b).run ρ μ Q X = c.run ρ μ (fun k μ1 => if k = true then a.run ρ μ1 Q X else b.run ρ μ1 Q X) X := rfl
theorem le_ifE {c a b : Expr} {pos : Pos} {wc : WT} {wa wb : WE} (hc : LT X Wx c wc) (ha : LE X Wx a wa) (hb : LE X Wx b wb) : LE X Wx (.IfExp c a b pos) (wIfE wc wa wb) :=
  PE.weak (pe_ifExp hc ha hb) fun σ H Q ⟨ρ, μ, E, S, h⟩ => by
    refine lW.bind E S h (fun x μ1 v H1 F1 S1 E1 r1 h1 => ?_) fun _ _ _ h => h
    subst r1
    cases x with
    | true => exact iteT (lW.bind E1 S1 h1 (fun y μ2 u H2 F2 S2 E2 r2 q2 => q2 _ _ (F1.trans F2) S2 r2) fun _ _ _ h => h.trans F1)
    | false => exact iteF (lW.bind E1 S1 h1 (fun y μ2 u H2 F2 S2 E2 r2 q2 => q2 _ _ (F1.trans F2) S2 r2) fun _ _ _ h => h.trans F1)

/-! ### argument lists, displays -/
def runAll : List WE → Ev → Mu → (List D → Mu → Prop) → XQ → Prop
  | [], _, μ, Q, _ => Q [] μ
  | w :: ws, ρ, μ, Q, X => w.run ρ μ (fun d μ1 => runAll ws ρ μ1 (fun ds μ2 => Q (d :: ds) μ2) X) X
theorem runAll_nil {ρ : Ev} {μ : Mu} {Q : List D → Mu → Prop} {X : XQ} : runAll [] ρ μ Q X = Q [] μ := rfl
theorem runAll_cons {w : WE} {ws : List WE} {ρ : Ev} {μ : Mu} {Q : List D → Mu → Prop} {X : XQ} : runAll (w :: ws) ρ μ Q X = w.run ρ μ (fun d μ1 => runAll ws ρ μ1 (fun ds μ2 => Q (d :: ds) μ2) X) X := rfl
theorem runAll_mono : ∀ {ws : List WE} {ρ : Ev} {μ : Mu} {Q Q' : List D → Mu → Prop} {X X' : XQ}, (∀ d μ', Q d μ' → Q' d μ') → (∀ C d μ', X C d μ' → X' C d μ') → runAll ws ρ μ Q X → runAll ws ρ μ Q' X'
  | [], _, _, _, _, _, _, hQ, _, h => hQ _ _ h
  | w :: ws, _, _, _, _, _, _, hQ, hX, h => w.mono (fun _ _ h => runAll_mono (ws := ws) (fun _ _ h => hQ _ _ h) hX h) hX h
theorem runAll_len : ∀ {ws : List WE} {ρ : Ev} {μ : Mu} {Q : List D → Mu → Prop} {X : XQ}, runAll ws ρ μ Q X → runAll ws ρ μ (fun ds μ1 => ds.length = ws.length ∧ Q ds μ1) X
  | [], _, _, _, _, h => ⟨rfl, h⟩
  | w :: ws, _, _, _, _, h => w.mono (fun _ _ h => runAll_mono (ws := ws) (fun ds _ h => ⟨by rw [List.length_cons, h.1]; rfl, h.2⟩) (fun _ _ _ h => h) (runAll_len h)) (fun _ _ _ h => h) h
def wArgs (ws : List WE) : WA := ⟨runAll ws, runAll_mono⟩
def LAs (X : Cx) (Wx : WX) (es : List Expr) (ws : List WE) : Prop := PA X es (lA X.K Wx (wArgs ws))
theorem la_nil : LAs X Wx [] [] := PA.weak pa_nil fun σ H Q ⟨ρ, μ, E, S, h⟩ => (show Out (Rps X.K) X.K μ H Q [] μ from h) _ _ (Fr.refl μ H) S rfl
theorem la_cons {e : Expr} {es : List Expr} {w : WE} {ws : List WE} (ha : LE X Wx e w) (hr : LAs X Wx es ws) (hs : starEach (e :: es) X.env = (false, eval e X.env) :: starEach es X.env := by rfl) : LAs X Wx (e :: es) (w :: ws) :=
  PA.weak (pa_cons ha hr hs) fun σ H Q ⟨ρ, μ, E, S, h⟩ => by
    refine lW.bind (w := w) E S h (fun x μ1 v H1 F1 S1 E1 r1 h1 => ?_) fun _ _ _ h => h
    refine lW.bind (w := wArgs ws) E1 S1 h1 (fun xs μ2 vs H2 F2 S2 E2 r2 h2 => ?_) fun _ _ _ h => h.trans F1
    exact h2 _ _ (F1.trans F2) S2 (by unfold Rps; exact ⟨_, _, rfl, Rp.keep S1 F2 x r1, r2⟩)
def wTup (ws : List WE) : WE := ⟨fun ρ μ Q X => runAll ws ρ μ (fun ds μ1 => Q (.tup ds) μ1) X, fun hQ hX h => runAll_mono (fun _ _ h => hQ _ _ h) hX h⟩
def wLst (ws : List WE) : WE := ⟨fun ρ μ Q X => runAll ws ρ μ (fun ds μ1 => ∀ p, μ1 p = none → Q (.ob p) (mset μ1 p (.lst ds))) X, fun hQ hX h => runAll_mono (fun _ _ h p hp => hQ _ _ (h p hp)) hX h⟩
theorem wTup_run {ws : List WE} {ρ : Ev} {μ : Mu} {Q : PQ} {X : XQ} : (wTup ws).run ρ μ Q X = runAll ws ρ μ (fun ds μ1 => Q (.tup ds) μ1) X := rfl
theorem wLst_run {ws : List WE} {ρ : Ev} {μ : Mu} {Q : PQ} {X : XQ} : (wLst ws).run ρ μ Q X = runAll ws ρ μ (fun ds μ1 => ∀ p, μ1 p = none → Q (.ob p) (mset μ1 p (.lst ds))) X := rfl
theorem le_tup {es : List Expr} {x1 pos} {ws : List WE} (h : LAs X Wx es ws) (hl : ws.length ≤ 1000 := by decide) : LE X Wx (.Tuple es x1 pos) (wTup ws) := PE.weak (pe_tup h) fun σ H Q ⟨ρ, μ, E, S, h⟩ => by
  refine lW.bind (w := wArgs ws) E S (runAll_len h) (fun xs μ1 vs H1 F1 S1 E1 r1 h1 => ⟨?_, ?_⟩) fun _ _ _ h => h
  · rw [r1.length, h1.1]
    exact Nat.le_trans hl (by rw [sizeLine_eq]; decide)
  · exact out_tup S1 r1 (h1.2.trans F1)
theorem le_lst {es : List Expr} {pos} {ws : List WE} (h : LAs X Wx es ws) (hl : ws.length ≤ 1000 := by decide) : LE X Wx (.List es pos) (wLst ws) := PE.weak (pe_lst h) fun σ H Q ⟨ρ, μ, E, S, h⟩ => by
  refine lW.bind (w := wArgs ws) E S (runAll_len h) (fun xs μ1 vs H1 F1 S1 E1 r1 h1 => ⟨?_, ?_⟩) fun _ _ _ h => h
  · rw [r1.length, h1.1]
    exact Nat.le_trans hl (by rw [sizeLine_eq]; decide)
  · exact out_lst S1 r1 fun p hp => (h1.2 p hp).trans F1

/-! ### items -/
def gIx : G2 := ⟨fun x y μ Q => match x, y with
    | .tup ds, .int i => (match atI ds i with | some d => Q d μ | none => False)
    | .ob a, .int i => (match μ a with | some (.lst ds) => (match atI ds i with | some d => Q d μ | none => False) | _ => False)
    | .rls ds, .int i => (match atI ds i with | some d => Q d μ | none => False)
    | .str s, .int i => (match atI s.cps.toList i with | some c => s.length ≤ sizeLine ∧ Q (.str ⟨#[c]⟩) μ | none => False)
    | _, _ => False, fun {x y μ Q Q'} hQ h => by
  cases x <;> cases y <;> first
    | (revert h; dsimp only; split <;> first | exact hQ _ _ | exact id | exact fun h => ⟨h.1, hQ _ _ h.2⟩ | (split <;> first | exact hQ _ _ | exact id))
    | exact h⟩
theorem gIx_tup {ds : List D} {i : Int} {μ : Mu} {Q : PQ} : gIx.run (.tup ds) (.int i) μ Q = (match atI ds i with | some d => Q d μ | none => False) := rfl
theorem gIx_rls {ds : List D} {i : Int} {μ : Mu} {Q : PQ} : gIx.run (.rls ds) (.int i) μ Q = (match atI ds i with | some d => Q d μ | none => False) := rfl
theorem gIx_ob {a : Addr} {i : Int} {μ : Mu} {Q : PQ} : gIx.run (.ob a) (.int i) μ Q = (match μ a with | some (.lst ds) => (match atI ds i with | some d => Q d μ | none => False) | _ => False) := rfl
theorem gIx_str {s : Str} {i : Int} {μ : Mu} {Q : PQ} : gIx.run (.str s) (.int i) μ Q = (match atI s.cps.toList i with | some c => s.length ≤ sizeLine ∧ Q (.str ⟨#[c]⟩) μ | none => False) := rfl
theorem Rps.atI {K : PySem.W.Frag} {H : Hp} {ds : List D} {vs : List V} {i : Int} {d : D} (h : Rps K H ds vs) (e : L2.atI ds i = some d) : ∃ v, L2.atI vs i = some v ∧ Rp K H d v := by
  unfold L2.atI at e ⊢
  rw [h.length]
  cases q : ixN ds.length i with
  | none => rw [q] at e; cases e
  | some j =>
    rw [q] at e
    obtain ⟨v, h1, h2⟩ := h.get (show ds[j]? = some d from e)
    exact ⟨v, h1, h2⟩
theorem ix_d {X : Cx} : ∃ r : R2, IxR X r ∧ ∀ x y μ H vx vy Q, Sim X.K μ H → Rp X.K H x vx → Rp X.K H y vy → gIx.run x y μ (Out (Rp X.K) X.K μ H Q) → r vx vy H Q := ⟨_, ix_seq, fun x y μ H vx vy Q S rx ry q => by
    cases x <;> cases y <;> first
      | exact q.elim
      | (rename_i ds i
         rw [gIx_tup] at q
         split at q
         · rename_i d e
           obtain ⟨p, vs, e1, t, r⟩ := rp_tup rx
           subst e1
           rw [rp_int ry]
           obtain ⟨v, h1, h2⟩ := r.atI e
           exact .inr (.inl ⟨p, vs, i, v, rfl, rfl, t, h1, q _ _ (Fr.refl μ H) S h2⟩)
         · exact q.elim)
      | (rename_i ds i
         rw [gIx_rls] at q
         split at q
         · rename_i d e
           obtain ⟨p, vs, e1, t, r⟩ := rp_rls rx
           subst e1
           rw [rp_int ry]
           obtain ⟨v, h1, h2⟩ := r.atI e
           exact .inl ⟨p, vs, i, v, rfl, rfl, t.l, h1, q _ _ (Fr.refl μ H) S h2⟩
         · exact q.elim)
      | (rename_i a i
         rw [gIx_ob] at q
         split at q
         · rename_i ds e0
           split at q
           · rename_i d e
             rw [rp_ob rx, rp_int ry]
             obtain ⟨vs, h0, r⟩ := S.lst e0
             obtain ⟨v, h1, h2⟩ := r.atI e
             exact .inl ⟨a, vs, i, v, rfl, rfl, SqL.of h0, h1, q _ _ (Fr.refl μ H) S h2⟩
           · exact q.elim
         · exact q.elim)
      | (rename_i s i
         rw [gIx_str] at q
         split at q
         · rename_i c e
           rw [rp_str rx, rp_int ry]
           exact .inr (.inr ⟨s, i, c, rfl, rfl, q.1, e, q.2 _ _ (Fr.refl μ H) S rfl⟩)
         · exact q.elim)⟩
theorem le_ix {a b : Expr} {pos : Pos} {wa wb : WE} (ha : LE X Wx a wa) (hb : LE X Wx b wb) (hs : PlainIx b := by exact fun _ _ => rfl) : LE X Wx (.Subscript a b pos) (wOp gIx wa wb) := by
  obtain ⟨r, h1, h2⟩ := ix_d (X := X)
  exact PE.weak (pe_ix h1 ha hb hs) (wOp_t (f := fun _ _ => pure .none) h2)
end
end Sq

/-! Calls. -/
namespace Sq
open PySem PySem.Spec PyProof.Rows L2
section
variable {X : Cx} {Wx : WX}
/-! ### built-ins by values -/
structure GN where
  run : List D → Mu → PQ → Prop
  mono : ∀ {ds μ Q Q'}, (∀ d μ', Q d μ' → Q' d μ') → run ds μ Q → run ds μ Q'
def CallD (X : Cx) (f : Value) (g : GN) : Prop := ∃ r : List V → Hp → VK → Prop, CallR X f r ∧ ∀ ds μ H vs Q, Sim X.K μ H → Rps X.K H ds vs → g.run ds μ (Out (Rp X.K) X.K μ H Q) → r vs H Q
def wB (g : GN) (ws : List WE) : WE := ⟨fun ρ μ Q X => runAll ws ρ μ (fun ds μ1 => g.run ds μ1 Q) X, fun hQ hX h => runAll_mono (fun _ _ h => g.mono hQ h) hX h⟩
theorem wB_run {g : GN} {ws : List WE} {ρ : Ev} {μ : Mu} {Q : PQ} {X : XQ} : (wB g ws).run ρ μ Q X = runAll ws ρ μ (fun ds μ1 => g.run ds μ1 Q) X := rfl
theorem wB_t {g : GN} {ws : List WE} {r : List V → Hp → VK → Prop} (h : ∀ ds μ H vs Q, Sim X.K μ H → Rps X.K H ds vs → g.run ds μ (Out (Rp X.K) X.K μ H Q) → r vs H Q) :
    ∀ σ H Q, lE X.K Wx (wB g ws) σ H Q → tCB r (lA X.K Wx (wArgs ws)) σ H Q := fun σ H Q ⟨ρ, μ, E, S, h1⟩ => by
  refine lW.bind (w := wArgs ws) E S h1 (fun xs μ1 vs H1 F1 S1 E1 r1 q1 => ?_) fun _ _ _ h => h
  exact h xs μ1 H1 vs Q S1 r1 (g.mono (fun _ _ q => q.trans F1) q1)
theorem le_callB {g : GN} {id : String} {x : Str} {p pos : Pos} {e : Expr} {es : List Expr} {ws : List WE} (hc : CallD X (.builtin id) g) (hm : X.mg x = none) (hv : bootBuiltins x = some (.builtin id)) (ha : LAs X Wx (e :: es) ws)
    (hg : Gl X x := by rfl) (hn : x ≠ "__name__" := by decide) (hdb : (x == ("__debug__" : Str)) = false := by decide)
    (he : starEach (e :: es) X.env = (false, eval e X.env) :: starEach es X.env := by rfl) (hpl : (backTo pos (starEach es X.env)).any (·.1) = false := by rfl) : LE X Wx (.Call (.Name x p) (e :: es) [] pos) (wB g ws) := by
  obtain ⟨r, h1, h2⟩ := hc
  exact PE.weak (pe_callB h1 hg hm hv ha hn hdb he hpl) (wB_t h2)
theorem le_callTy {g : GN} {T : String} {x : Str} {p pos : Pos} {e : Expr} {es : List Expr} {ws : List WE} (hc : CallD X (.type T) g) (hm : X.mg x = none) (hv : bootBuiltins x = some (.type T)) (ha : LAs X Wx (e :: es) ws)
    (hg : Gl X x := by rfl) (hn : x ≠ "__name__" := by decide) (hdb : (x == ("__debug__" : Str)) = false := by decide)
    (he : starEach (e :: es) X.env = (false, eval e X.env) :: starEach es X.env := by rfl) (hpl : (backTo pos (starEach es X.env)).any (·.1) = false := by rfl) : LE X Wx (.Call (.Name x p) (e :: es) [] pos) (wB g ws) := by
  obtain ⟨r, h1, h2⟩ := hc
  exact PE.weak (pe_callTy h1 hg hm hv ha hn hdb he hpl) (wB_t h2)

theorem rps1 {K : PySem.W.Frag} {H : Hp} {d : D} {vs : List V} (h : Rps K H [d] vs) : ∃ v, vs = [v] ∧ Rp K H d v := by
  unfold Rps at h
  obtain ⟨w, ws, rfl, a, b⟩ := h
  unfold Rps at b
  subst b
  exact ⟨w, rfl, a⟩
theorem rps2 {K : PySem.W.Frag} {H : Hp} {d e : D} {vs : List V} (h : Rps K H [d, e] vs) : ∃ v u, vs = [v, u] ∧ Rp K H d v ∧ Rp K H e u := by
  unfold Rps at h
  obtain ⟨w, ws, rfl, a, b⟩ := h
  obtain ⟨u, rfl, c⟩ := rps1 b
  exact ⟨w, u, rfl, a, c⟩
/-- a built-in of one argument -/
def g1 (f : D → Mu → PQ → Prop) (hf : ∀ {x μ Q Q'}, (∀ d μ', Q d μ' → Q' d μ') → f x μ Q → f x μ Q') : GN := ⟨fun ds μ Q => match ds with | [x] => f x μ Q | _ => False, fun {ds μ Q Q'} hQ h => by
  match ds, h with
  | [x], h => exact hf hQ h
  | [], h => exact h
  | _ :: _ :: _, h => exact h⟩
theorem g1_run {f : D → Mu → PQ → Prop} {hf : ∀ {x μ Q Q'}, (∀ d μ', Q d μ' → Q' d μ') → f x μ Q → f x μ Q'} {x : D} {μ : Mu} {Q : PQ} : (g1 f hf).run [x] μ Q = f x μ Q := rfl
theorem cd1 {fn : Value} {g : GN} {f : D → Mu → PQ → Prop} {r : List V → Hp → VK → Prop} (hr : CallR X fn r) (hg : ∀ ds μ Q, g.run ds μ Q = (match ds with | [x] => f x μ Q | _ => False))
    (h : ∀ x μ H v Q, Sim X.K μ H → Rp X.K H x v → f x μ (Out (Rp X.K) X.K μ H Q) → r [v] H Q) : CallD X fn g := ⟨r, hr, fun ds μ H vs Q S R q => by
  rw [hg] at q
  match ds, R, q with
  | [x], R, q =>
    obtain ⟨v, e, R1⟩ := rps1 R
    subst e
    exact h x μ H v Q S R1 q
  | [], _, q => exact q.elim
  | _ :: _ :: _, _, q => exact q.elim⟩

/-- len -/
def fLen (x : D) (μ : Mu) (Q : PQ) : Prop := match x with
  | .tup ds => Q (.int ds.length) μ
  | .rls ds => Q (.int ds.length) μ
  | .ob a => (match μ a with | some (.lst ds) => Q (.int ds.length) μ | _ => False)
  | .str s => s.length ≤ sizeLine ∧ Q (.int s.length) μ
  | _ => False
theorem fLen_tup {ds : List D} {μ : Mu} {Q : PQ} : fLen (.tup ds) μ Q = Q (.int ds.length) μ := rfl
theorem fLen_rls {ds : List D} {μ : Mu} {Q : PQ} : fLen (.rls ds) μ Q = Q (.int ds.length) μ := rfl
theorem fLen_ob {a : Addr} {μ : Mu} {Q : PQ} : fLen (.ob a) μ Q = (match μ a with | some (.lst ds) => Q (.int ds.length) μ | _ => False) := rfl
theorem fLen_str {s : Str} {μ : Mu} {Q : PQ} : fLen (.str s) μ Q = (s.length ≤ sizeLine ∧ Q (.int s.length) μ) := rfl
def gLen : GN := g1 fLen fun {x μ Q Q'} hQ h => by
  cases x with
  | tup ds => exact hQ _ _ h
  | rls ds => exact hQ _ _ h
  | ob a =>
    rw [fLen_ob] at h ⊢
    split at h
    · exact hQ _ _ h
    · exact h.elim
  | str s => exact ⟨h.1, hQ _ _ h.2⟩
  | _ => exact h
theorem cd_len : CallD X (.builtin "len") gLen := cd1 (call_len_seq.or call_len_str) (fun _ _ _ => rfl) fun x μ H v Q S R q => by
  cases x with
  | tup ds =>
    obtain ⟨p, vs, rfl, t, r⟩ := rp_tup R
    exact .inl ⟨p, vs, rfl, .inr t, by rw [r.length]; exact (show Out (Rp X.K) X.K μ H Q (.int ds.length) μ from q) _ _ (Fr.refl μ H) S rfl⟩
  | rls ds =>
    obtain ⟨p, vs, rfl, t, r⟩ := rp_rls R
    exact .inl ⟨p, vs, rfl, .inl t.l, by rw [r.length]; exact (show Out (Rp X.K) X.K μ H Q (.int ds.length) μ from q) _ _ (Fr.refl μ H) S rfl⟩
  | ob a =>
    rw [rp_ob R]
    rw [fLen_ob] at q
    split at q
    · rename_i ds e
      obtain ⟨vs, h1, r⟩ := S.lst e
      exact .inl ⟨a, vs, rfl, .inl (SqL.of h1), by rw [r.length]; exact q _ _ (Fr.refl μ H) S rfl⟩
    · exact q.elim
  | str s => rw [rp_str R]; exact .inr ⟨s, rfl, q.1, q.2 _ _ (Fr.refl μ H) S rfl⟩
  | _ => exact q.elim
/-- abs -/
def fAbs (x : D) (μ : Mu) (Q : PQ) : Prop := match x with
  | .int i => Q (.int (if i < 0 then -i else i)) μ
  | _ => False
theorem fAbs_int {i : Int} {μ : Mu} {Q : PQ} : fAbs (.int i) μ Q = Q (.int (if i < 0 then -i else i)) μ := rfl
def gAbs : GN := g1 fAbs fun {x μ Q Q'} hQ h => by cases x <;> first | exact hQ _ _ h | exact h
theorem cd_abs : CallD X (.builtin "abs") gAbs := cd1 call_abs (fun _ _ _ => rfl) fun x μ H v Q S R q => by
  cases x <;> first
    | exact q.elim
    | (rw [rp_int R]; exact ⟨_, rfl, (show Out (Rp X.K) X.K μ H Q _ μ from q) _ _ (Fr.refl μ H) S rfl⟩)
/-- int of an int, a bool -/
def fInt (x : D) (μ : Mu) (Q : PQ) : Prop := match x with
  | .int i => Q (.int i) μ
  | .bl k => Q (.int (if k = true then 1 else 0)) μ
  | _ => False
theorem fInt_int {i : Int} {μ : Mu} {Q : PQ} : fInt (.int i) μ Q = Q (.int i) μ := rfl
theorem fInt_bl {k : Bool} {μ : Mu} {Q : PQ} : fInt (.bl k) μ Q = Q (.int (if k = true then 1 else 0)) μ := rfl
def gInt : GN := g1 fInt fun {x μ Q Q'} hQ h => by cases x <;> first | exact hQ _ _ h | exact h
theorem cd_int : CallD X (.type "int") gInt := cd1 call_int1 (fun _ _ _ => rfl) fun x μ H v Q S R q => by
  cases x <;> first
    | exact q.elim
    | (rw [rp_int R]; exact .inl ⟨_, rfl, (show Out (Rp X.K) X.K μ H Q _ μ from q) _ _ (Fr.refl μ H) S rfl⟩)
    | (rw [rp_bl R]; exact .inr ⟨_, rfl, (show Out (Rp X.K) X.K μ H Q _ μ from q) _ _ (Fr.refl μ H) S rfl⟩)
/-- all, any of a list of bools -/
def fAll (x : D) (μ : Mu) (Q : PQ) : Prop := ∃ (a : Addr) (bs : List Bool), x = .ob a ∧ μ a = some (.lst (bs.map D.bl)) ∧ Q (.bl (bs.all id)) μ
def fAny (x : D) (μ : Mu) (Q : PQ) : Prop := ∃ (a : Addr) (bs : List Bool), x = .ob a ∧ μ a = some (.lst (bs.map D.bl)) ∧ Q (.bl (bs.any id)) μ
def gAll : GN := g1 fAll fun {_ _ _ _} hQ z => by obtain ⟨a, bs, e, h, q⟩ := z; exact ⟨a, bs, e, h, hQ _ _ q⟩
def gAny : GN := g1 fAny fun {_ _ _ _} hQ z => by obtain ⟨a, bs, e, h, q⟩ := z; exact ⟨a, bs, e, h, hQ _ _ q⟩
theorem cd_all (hc : X.calm = true) : CallD X (.builtin "all") gAll := cd1 (cr_all hc) (fun _ _ _ => rfl) fun x μ H v Q S R ⟨a, bs, e, h, q⟩ => by
  subst e
  rw [rp_ob R]
  obtain ⟨vs, h1, r⟩ := S.lst h
  rw [Rps.bls r] at h1
  exact ⟨a, bs, rfl, SqL.of h1, q _ _ (Fr.refl μ H) S rfl⟩
theorem cd_any (hc : X.calm = true) : CallD X (.builtin "any") gAny := cd1 (cr_any hc) (fun _ _ _ => rfl) fun x μ H v Q S R ⟨a, bs, e, h, q⟩ => by
  subst e
  rw [rp_ob R]
  obtain ⟨vs, h1, r⟩ := S.lst h
  rw [Rps.bls r] at h1
  exact ⟨a, bs, rfl, SqL.of h1, q _ _ (Fr.refl μ H) S rfl⟩
/-- sum of a list of ints -/
def fSum (x : D) (μ : Mu) (Q : PQ) : Prop := ∃ (a : Addr) (ns : List Int), x = .ob a ∧ μ a = some (.lst (ns.map D.int)) ∧ Q (.int ns.sum) μ
def gSum : GN := g1 fSum fun {_ _ _ _} hQ z => by obtain ⟨a, bs, e, h, q⟩ := z; exact ⟨a, bs, e, h, hQ _ _ q⟩
theorem cd_sum (hc : X.calm = true) : CallD X (.builtin "sum") gSum := cd1 (cr_sum hc) (fun _ _ _ => rfl) fun x μ H v Q S R ⟨a, ns, e, h, q⟩ => by
  subst e
  rw [rp_ob R]
  obtain ⟨vs, h1, r⟩ := S.lst h
  rw [Rps.ints r] at h1
  exact ⟨a, ns, rfl, SqL.of h1, q _ _ (Fr.refl μ H) S rfl⟩
/-- tuple of a list, of a tuple -/
def fTuple (x : D) (μ : Mu) (Q : PQ) : Prop := match x with
  | .tup ds => Q (.tup ds) μ
  | .ob a => (match μ a with | some (.lst ds) => Q (.tup ds) μ | _ => False)
  | _ => False
theorem fTuple_tup {ds : List D} {μ : Mu} {Q : PQ} : fTuple (.tup ds) μ Q = Q (.tup ds) μ := rfl
theorem fTuple_ob {a : Addr} {μ : Mu} {Q : PQ} : fTuple (.ob a) μ Q = (match μ a with | some (.lst ds) => Q (.tup ds) μ | _ => False) := rfl
def gTuple : GN := g1 fTuple fun {x μ Q Q'} hQ h => by
  cases x with
  | tup ds => exact hQ _ _ h
  | ob a =>
    rw [fTuple_ob] at h ⊢
    split at h
    · exact hQ _ _ h
    · exact h.elim
  | _ => exact h
theorem cd_tuple : CallD X (.type "tuple") gTuple := cd1 call_tuple_of (fun _ _ _ => rfl) fun x μ H v Q S R q => by
  cases x with
  | tup ds =>
    obtain ⟨p, vs, rfl, t, r⟩ := rp_tup R
    exact ⟨p, vs, rfl, .inr ⟨t, (show Out (Rp X.K) X.K μ H Q (.tup ds) μ from q) _ _ (Fr.refl μ H) S R⟩⟩
  | ob a =>
    rw [rp_ob R]
    rw [fTuple_ob] at q
    split at q
    · rename_i ds e
      obtain ⟨vs, h1, r⟩ := S.lst e
      exact ⟨a, vs, rfl, .inl ⟨SqL.of h1, out_tup S r q⟩⟩
    · exact q.elim
  | _ => exact q.elim
/-- list of a list, of a tuple -/
def fList (x : D) (μ : Mu) (Q : PQ) : Prop := match x with
  | .tup ds => ∀ p, μ p = none → Q (.ob p) (mset μ p (.lst ds))
  | .ob a => (match μ a with | some (.lst ds) => ∀ p, μ p = none → Q (.ob p) (mset μ p (.lst ds)) | _ => False)
  | _ => False
theorem fList_tup {ds : List D} {μ : Mu} {Q : PQ} : fList (.tup ds) μ Q = ∀ p, μ p = none → Q (.ob p) (mset μ p (.lst ds)) := rfl
theorem fList_ob {a : Addr} {μ : Mu} {Q : PQ} : fList (.ob a) μ Q = (match μ a with | some (.lst ds) => ∀ p, μ p = none → Q (.ob p) (mset μ p (.lst ds)) | _ => False) := rfl
def gList : GN := g1 fList fun {x μ Q Q'} hQ h => by
  cases x with
  | tup ds => exact fun p hp => hQ _ _ (h p hp)
  | ob a =>
    rw [fList_ob] at h ⊢
    split at h
    · exact fun p hp => hQ _ _ (h p hp)
    · exact h.elim
  | _ => exact h
theorem cd_list : CallD X (.type "list") gList := cd1 call_list_of (fun _ _ _ => rfl) fun x μ H v Q S R q => by
  cases x with
  | tup ds =>
    obtain ⟨p, vs, rfl, t, r⟩ := rp_tup R
    exact ⟨p, vs, rfl, .inr t, out_lst S r q⟩
  | ob a =>
    rw [rp_ob R]
    rw [fList_ob] at q
    split at q
    · rename_i ds e
      obtain ⟨vs, h1, r⟩ := S.lst e
      exact ⟨a, vs, rfl, .inl (SqL.of h1), out_lst S r q⟩
    · exact q.elim
  | _ => exact q.elim
/-- min, max of two ints -/
def f2I (f : Int → Int → Int) (ds : List D) (μ : Mu) (Q : PQ) : Prop := match ds with | [.int i, .int j] => Q (.int (f i j)) μ | _ => False
theorem f2I_inv {f : Int → Int → Int} {ds : List D} {μ : Mu} {Q : PQ} (h : f2I f ds μ Q) : ∃ i j, ds = [.int i, .int j] ∧ Q (.int (f i j)) μ := by
  unfold f2I at h
  split at h
  · exact ⟨_, _, rfl, h⟩
  · exact h.elim
def g2I (f : Int → Int → Int) : GN := ⟨f2I f, fun {ds μ Q Q'} hQ h => by
  obtain ⟨i, j, rfl, q⟩ := f2I_inv h
  exact hQ _ _ q⟩
theorem g2I_run {f : Int → Int → Int} {i j : Int} {μ : Mu} {Q : PQ} : (g2I f).run [.int i, .int j] μ Q = Q (.int (f i j)) μ := rfl
def gMax2 : GN := g2I fun i j => if j > i then j else i
def gMin2 : GN := g2I fun i j => if j < i then j else i
theorem cd2I {fn : Value} {f : Int → Int → Int} (hr : CallR X fn (fun xs H Q => ∃ i j, xs = [.int i, .int j] ∧ Q (.int (f i j)) H)) : CallD X fn (g2I f) := ⟨_, hr, fun ds μ H vs Q S R q => by
  obtain ⟨i, j, rfl, q⟩ := f2I_inv q
  obtain ⟨v, u, rfl, r1, r2⟩ := rps2 R
  rw [rp_int r1, rp_int r2]
  exact ⟨i, j, rfl, q _ _ (Fr.refl μ H) S rfl⟩⟩
theorem cd_max2 (hc : X.calm = true) : CallD X (.builtin "max") gMax2 := cd2I (call_max2 hc)
theorem cd_min2 (hc : X.calm = true) : CallD X (.builtin "min") gMin2 := cd2I (call_min2 hc)

/-! ### isinstance with a built-in type -/
inductive TyN where | int | bool | str | tuple | list
  deriving DecidableEq
def TyN.s : TyN → String
  | .int => "int" | .bool => "bool" | .str => "str" | .tuple => "tuple" | .list => "list"
def isA (t : TyN) (d : D) (μ : Mu) : Option Bool := match d with
  | .non => some false
  | .bl _ => some (match t with | .int => true | .bool => true | _ => false)
  | .int _ => some (match t with | .int => true | _ => false)
  | .str _ => some (match t with | .str => true | _ => false)
  | .tup _ => some (match t with | .tuple => true | _ => false)
  | .ob a => (match μ a with | some (.lst _) => some (match t with | .list => true | _ => false) | some (.dct _ _) => some false | _ => none)
  | .rls _ => none
def wIsi (t : TyN) (a : WE) : WE := ⟨fun ρ μ Q X => a.run ρ μ (fun d μ1 => match isA t d μ1 with | some b => Q (.bl b) μ1 | none => False) X, fun hQ hX h => a.mono (fun d μ1 h => by
  revert h; split
  · exact hQ _ _
  · exact id) hX h⟩
theorem wIsi_run {t : TyN} {a : WE} {ρ : Ev} {μ : Mu} {Q : PQ} {X : XQ} : (wIsi t a).run ρ μ Q X = a.run ρ μ (fun d μ1 => match isA t d μ1 with | some b => Q (.bl b) μ1 | none => False) X := rfl
theorem isA_rel {K : PySem.W.Frag} {μ : Mu} {H : Hp} (S : Sim K μ H) {t : TyN} {d : D} {v : V} {b : Bool} (R : Rp K H d v) (h : isA t d μ = some b) : ∃ T : String, TyX K H v (.type T) ∧ kitB T t.s = some b := by
  cases d with
  | non => rw [rp_non R]; exact ⟨_, .base .non, by cases t <;> (cases h; decide +kernel)⟩
  | bl k => rw [rp_bl R]; exact ⟨_, .base (.bl k), by cases t <;> (cases h; decide +kernel)⟩
  | int i => rw [rp_int R]; exact ⟨_, .base (.int i), by cases t <;> (cases h; decide +kernel)⟩
  | str s => rw [rp_str R]; exact ⟨_, .base (.str s), by cases t <;> (cases h; decide +kernel)⟩
  | tup ds =>
    obtain ⟨p, vs, rfl, q, r⟩ := rp_tup R
    refine ⟨"tuple", ?_, by cases t <;> (cases h; decide +kernel)⟩
    rcases q with (q | ⟨o, q⟩) | ⟨o, its, n, e, c, _⟩
    · exact .base (.tup q)
    · exact .fTuple q
    · exact .kTuple e c
  | ob a =>
    rw [rp_ob R]
    unfold isA at h
    dsimp only at h
    split at h
    · rename_i ds e
      obtain ⟨vs, h1, _⟩ := S.lst e
      exact ⟨"list", .base (.lst h1), by cases t <;> (cases h; decide +kernel)⟩
    · rename_i ks ds e
      obtain ⟨vs, h1, _⟩ := S.at_ _ _ e
      exact ⟨"dict", .base (.dK h1), by cases t <;> (cases h; decide +kernel)⟩
    · cases h
  | rls ds => cases h
theorem le_isi {t : TyN} {a : Expr} {wa : WE} {T : Str} {p p2 pos : Pos} (hm : X.mg "isinstance" = none) (hmT : X.mg T = none) (hvT : bootBuiltins T = some (.type t.s)) (ha : LE X Wx a wa)
    (hg : Gl X "isinstance" := by rfl) (hgT : Gl X T := by rfl) (hn : T ≠ "__name__" := by decide) (hdb : (T == ("__debug__" : Str)) = false := by decide)
    (hs : starEach (a :: [.Name T p2]) X.env = (false, eval a X.env) :: starEach [.Name T p2] X.env := by rfl) (hs2 : starEach (.Name T p2 :: []) X.env = (false, eval (.Name T p2) X.env) :: starEach [] X.env := by rfl)
    (hpl : (backTo pos (starEach [.Name T p2] X.env)).any (·.1) = false := by rfl) : LE X Wx (.Call (.Name "isinstance" p) [a, .Name T p2] [] pos) (wIsi t wa) := by
  refine PE.weak (pe_callB call_isi hg hm (by decide +kernel) (pa_cons ha (pa_cons (pe_bltn hgT hmT hvT (show RelV (.ty t.s) (.type t.s) from rfl) hn hdb) pa_nil hs2) hs) (by decide) (by decide) hs hpl) fun σ H Q ⟨ρ, μ, E, S, h⟩ => ?_
  refine lW.bind E S h (fun x μ1 v H1 F1 S1 E1 r1 h1 => ?_) fun _ _ _ h => h
  cases q : isA t x μ1 with
  | none => rw [q] at h1; exact h1.elim
  | some b =>
    rw [q] at h1
    obtain ⟨T', ty, k⟩ := isA_rel S1 r1 q
    exact ⟨v, .ty t.s, .type T', .type t.s, b, rfl, .ty _, ty, kit_ty k, h1 _ _ F1 S1 rfl⟩

/-! ### calls of defs -/
structure SpD where
  run : List D → Mu → PQ → XQ → Prop
  mono : ∀ {ds μ Q Q' X X'}, (∀ d μ', Q d μ' → Q' d μ') → (∀ C d μ', X C d μ' → X' C d μ') → run ds μ Q X → run ds μ Q' X'
def OutE (K : PySem.W.Frag) (μ : Mu) (H : Hp) (E : XK) : XQ := fun C d μ' => ∀ dx v H', Fr μ H μ' H' → Sim K μ' H' → H' dx = some (.xd [("value", v)]) → Rp K H' d v → E (.ref C) (some dx) H'
def spOf (K : PySem.W.Frag) (n : Nat) (S : SpD) : Sp := fun vs H Q E => vs.length = n ∧ ∃ ds μ, Rps K H ds vs ∧ Sim K μ H ∧ S.run ds μ (Out (Rp K) K μ H Q) (OutE K μ H E)
def wCall (S : SpD) (ws : List WE) : WE := ⟨fun ρ μ Q X => runAll ws ρ μ (fun ds μ1 => S.run ds μ1 Q X) X, fun hQ hX h => runAll_mono (fun _ _ h => S.mono hQ hX h) hX h⟩
theorem wCall_run {S : SpD} {ws : List WE} {ρ : Ev} {μ : Mu} {Q : PQ} {X : XQ} : (wCall S ws).run ρ μ Q X = runAll ws ρ μ (fun ds μ1 => S.run ds μ1 Q X) X := rfl
/-- n values by position, the rest by the parameters' names -/
def KB (K : PySem.W.Frag) (fd : FuncData) (ps : List Str) (n : Nat) : Prop := ∀ (s : Shared) (us ws : List Value), K.In s.heap → us.length = n → ws.length + n = ps.length → BindsTo s fd ⟨us, (ps.drop n).zip ws⟩ (ps.zip (us ++ ws))
/-- a def keeps its promise where no repr is under way -/
def RunOk (P : Program) (w : World) (K : PySem.W.Frag) (mg : Str → Option Value) (base : Heap) (k : Nat) (f : Addr) (fd : FuncData) (ps : List Str) (sp : Sp) : Prop :=
  ∀ (A : Around) (outer : List Env) (s : Shared) (H : Hp) (args : Args) (us : List Value) (vs : List V) (Q : VK) (E : XK), A.guards = some [] → Room k A → Env0 P w K mg base A outer s H → BindsTo s fd args (ps.zip us) → Vals vs us → sp vs H Q E →
    codeAny (model P w) A (.call (.ref f) args) (CR (L2.CX P w) outer P w H s Q E) s
/-- a def of the text that keeps the promise S -/
structure FnD (P : Program) (w : World) (K : PySem.W.Frag) (mg : Str → Option Value) (base : Heap) (k : Nat) (x : Str) (ps : List Str) (ms : List Nat) (S : SpD) : Prop where
  ex : ∃ (f : Addr) (fd : FuncData), RunOk P w K mg base k f fd ps (spOf K ps.length S) ∧ mg x = some (.ref f) ∧ PySem.W.keepIn K (.ref f) = true ∧ Binds K fd ps [] ∧ ∀ n ∈ ms, KB K fd ps n
theorem FnD.mono {P : Program} {w : World} {K : PySem.W.Frag} {mg : Str → Option Value} {base : Heap} {j k : Nat} {x : Str} {ps : List Str} {ms : List Nat} {S : SpD} (F : FnD P w K mg base j x ps ms S) (h : j ≤ k) : FnD P w K mg base k x ps ms S := by
  obtain ⟨f, fd, a, b⟩ := F.ex
  exact ⟨f, fd, fun A outer s H args us vs Q E hg hr => a A outer s H args us vs Q E hg (hr.mono h), b⟩
/-- the callee runs -/
theorem run_go {k : Nat} {f : Addr} {fd : FuncData} {ps : List Str} {sp : Sp} {pins : List (Addr × Obj)} {σ : L2.St} {H : Hp} {s : Shared} {Q : VK} {args : Args} {us : List Value} {vs : List V} {E : XK} (F : RunOk X.prog X.w X.K X.mg X.base k f fd ps sp) (hgd : X.A.guards = some []) (hr : Room k X.A) (hx : PassesAt (L2.CX X.prog X.w) X σ E)
    (I : Inv X pins σ H s) (hb : BindsTo s fd args (ps.zip us)) (r : Vals vs us) (h : sp vs H Q E) : wpAny (model X.prog X.w) X.A (call (.ref f) args.pos args.kw) (EP X pins σ Q) X.xe s :=
  wpAny_call (codeAny_mono (F X.A X.stack s H args us vs Q E hgd hr I.env0 hb r h) fun res s' hq => match res, hq with
    | .error e, hq => hx pins H s e s' I hq
    | .ok (.ret _), hq => I.after hq
    | .ok .next, hq => False.elim hq
    | .ok .brk, hq => False.elim hq
    | .ok .cont, hq => False.elim hq)
/-- f(e, ..), all by position -/
theorem pe_run {k : Nat} {f : Addr} {fd : FuncData} {ps : List Str} {sp : Sp} {E : L2.St → XK} {x : Str} {p pos : Pos} {e : Expr} {es : List Expr} {t : TA} (F : RunOk X.prog X.w X.K X.mg X.base k f fd ps sp) (hgd : X.A.guards = some []) (hr : Room k X.A) (hg : Gl X x) (hm : X.mg x = some (.ref f)) (hk : PySem.W.keepIn X.K (.ref f) = true) (hb : Binds X.K fd ps []) (hx : ∀ σ, PassesAt (L2.CX X.prog X.w) X σ (E σ))
    (ha : PA X (e :: es) t) (hdb : (x == ("__debug__" : Str)) = false) (he : starEach (e :: es) X.env = (false, eval e X.env) :: starEach es X.env) (hpl : (backTo pos (starEach es X.env)).any (·.1) = false) :
    PE X (.Call (.Name x p) (e :: es) [] pos) (fun σ H Q => t σ H fun vs H1 => vs.length = ps.length ∧ sp vs H1 Q (E σ)) := ⟨fun pins s σ H Q I h =>
  wpAny_Call_Name_kw (ld_glob I hg hm (PySem.W.callWith_K (h₀ := X.base) I.ok.mod.kin hk (thn (ha.run pos pins s σ H _ I h) fun us s1 ⟨vs, H1, I1, r, hl, q⟩ => ⟨I1.kIn, by
    have hbb := hb s1 us I1.kIn (by rw [List.append_nil, ← r.length]; exact hl)
    rw [List.append_nil] at hbb
    exact run_go (args := ⟨us, []⟩) F hgd hr (hx σ) I1 hbb r q⟩) he hpl) hdb)⟩
theorem le_call {k j : Nat} {x : Str} {p pos : Pos} {e : Expr} {es : List Expr} {ps : List Str} {ms : List Nat} {S : SpD} {ws : List WE} (F : FnD X.prog X.w X.K X.mg X.base j x ps ms S) (hgd : X.A.guards = some []) (hr : Room k X.A) (tk : Takes X Wx) (ha : LAs X Wx (e :: es) ws) (hjk : j ≤ k := by decide) (hl : ws.length = ps.length := by rfl) (hg : Gl X x := by rfl)
    (hdb : (x == ("__debug__" : Str)) = false := by decide) (he : starEach (e :: es) X.env = (false, eval e X.env) :: starEach es X.env := by rfl) (hpl : (backTo pos (starEach es X.env)).any (·.1) = false := by rfl) : LE X Wx (.Call (.Name x p) (e :: es) [] pos) (wCall S ws) := by
  obtain ⟨f, fd, G, hm, hk, hb, _⟩ := F.ex
  refine PE.weak (pe_run G hgd (hr.mono hjk) hg hm hk hb (fun σ => passAt tk σ) ha hdb he hpl) fun σ H Q ⟨ρ, μ, E, S0, h⟩ => ?_
  refine lW.bind (w := wArgs ws) E S0 (runAll_len h) (fun xs μ1 vs H1 F1 S1 E1 r1 h1 => ?_) fun _ _ _ h => h
  have hv : vs.length = ps.length := by rw [r1.length, h1.1, hl]
  refine ⟨hv, hv, xs, μ1, r1, S1, S.mono (fun _ _ q => q.trans F1) (fun _ _ _ q => ?_) h1.2⟩
  exact fun dx v H' F' S' e r => q dx v H' (F1.trans F') S' e r
end
end Sq

/-! Statements, targets. -/
namespace Sq
open PySem PySem.Spec PyProof.Rows L2
/-- what is wanted behind a statement -/
structure PD where
  nx : Ev → Mu → Prop
  rt : PQ
  bk : Ev → Mu → Prop
  ct : Ev → Mu → Prop
  ex : Ev → XQ
structure PD.le (D D' : PD) : Prop where
  nx : ∀ ρ μ, D.nx ρ μ → D'.nx ρ μ
  rt : ∀ d μ, D.rt d μ → D'.rt d μ
  bk : ∀ ρ μ, D.bk ρ μ → D'.bk ρ μ
  ct : ∀ ρ μ, D.ct ρ μ → D'.ct ρ μ
  ex : ∀ ρ C d μ, D.ex ρ C d μ → D'.ex ρ C d μ
theorem PD.le.refl (D : PD) : D.le D := ⟨fun _ _ h => h, fun _ _ h => h, fun _ _ h => h, fun _ _ h => h, fun _ _ _ _ h => h⟩
structure WS where
  run : PD → Ev → Mu → Prop
  mono : ∀ {D D' : PD} {ρ : Ev} {μ : Mu}, D.le D' → run D ρ μ → run D' ρ μ
def OutS (K : PySem.W.Frag) (μ : Mu) (H : Hp) (Q : L2.St → Hp → Prop) : Ev → Mu → Prop := fun ρ' μ' => ∀ σ' H', Fr μ H μ' H' → Sim K μ' H' → EnvR K H' ρ' σ' → Q σ' H'
def OutXE (K : PySem.W.Frag) (Wx : WX) (μ : Mu) (H : Hp) : Ev → XQ := fun ρ' C d μ' => ∀ σ' dx v H', Fr μ H μ' H' → Sim K μ' H' → EnvR K H' ρ' σ' → H' dx = some (.xd [("value", v)]) → Rp K H' d v → Wx (.ref C) (some dx) σ' H'
def outD (K : PySem.W.Frag) (Wx : WX) (μ : Mu) (H : Hp) (D : Ends) : PD := ⟨OutS K μ H D.nx, Out (Rp K) K μ H D.rt, OutS K μ H D.bk, OutS K μ H D.ct, OutXE K Wx μ H⟩
def lS (K : PySem.W.Frag) (Wx : WX) (w : WS) : TS := fun D σ H => ∃ ρ μ, EnvR K H ρ σ ∧ Sim K μ H ∧ w.run (outD K Wx μ H D) ρ μ
def LS (X : Cx) (Wx : WX) (st : Stmt) (w : WS) : Prop := PS X st (lS X.K Wx w)
def LSs (X : Cx) (Wx : WX) (st : List Stmt) (w : WS) : Prop := PSs X st (lS X.K Wx w)
theorem PS.weak {X : Cx} {st : Stmt} {t t' : TS} (h : PS X st t) (hw : ∀ D σ H, t' D σ H → t D σ H) : PS X st t' := ⟨fun pins s σ H D I q => h.run pins s σ H D I (hw D σ H q)⟩
theorem PSs.weak {X : Cx} {st : List Stmt} {t t' : TS} (h : PSs X st t) (hw : ∀ D σ H, t' D σ H → t D σ H) : PSs X st t' := ⟨fun pins s σ H D I q => h.run pins s σ H D I (hw D σ H q)⟩
theorem OutS.trans {K : PySem.W.Frag} {μ μ1 : Mu} {H H1 : Hp} {Q : L2.St → Hp → Prop} (F : Fr μ H μ1 H1) {ρ : Ev} {μ' : Mu} (h : OutS K μ H Q ρ μ') : OutS K μ1 H1 Q ρ μ' := fun σ' H' F' S e => h σ' H' (F.trans F') S e
theorem OutXE.trans {K : PySem.W.Frag} {Wx : WX} {μ μ1 : Mu} {H H1 : Hp} (F : Fr μ H μ1 H1) {ρ : Ev} {C : Addr} {d : D} {μ' : Mu} (h : OutXE K Wx μ H ρ C d μ') : OutXE K Wx μ1 H1 ρ C d μ' := fun σ' dx v H' F' S e r r2 => h σ' dx v H' (F.trans F') S e r r2
theorem outD.trans {K : PySem.W.Frag} {Wx : WX} {μ μ1 : Mu} {H H1 : Hp} {D : Ends} (F : Fr μ H μ1 H1) : (outD K Wx μ H D).le (outD K Wx μ1 H1 D) := ⟨fun _ _ h => OutS.trans F h, fun _ _ h => Out.trans F h, fun _ _ h => OutS.trans F h, fun _ _ h => OutS.trans F h, fun _ _ _ _ h => OutXE.trans F h⟩
theorem OutXE.x {K : PySem.W.Frag} {Wx : WX} {μ : Mu} {H : Hp} {ρ : Ev} {σ : L2.St} (S : Sim K μ H) (E : EnvR K H ρ σ) {C : Addr} {d : D} {μ' : Mu} (h : OutXE K Wx μ H ρ C d μ') : OutX K Wx σ μ H C d μ' := fun dx v H' F S' r r2 => h σ dx v H' F S' (E.keep S F) r r2
section
variable {X : Cx} {Wx : WX}
/-! ### blocks -/
def wNext : WS := ⟨fun D ρ μ => D.nx ρ μ, fun h q => h.nx _ _ q⟩
theorem wNext_run {D : PD} {ρ : Ev} {μ : Mu} : wNext.run D ρ μ = D.nx ρ μ := rfl
def wSeq (a b : WS) : WS := ⟨fun D ρ μ => a.run { D with nx := fun ρ1 μ1 => b.run D ρ1 μ1 } ρ μ, fun {D D' ρ μ} h q => a.mono (D := { D with nx := fun ρ1 μ1 => b.run D ρ1 μ1 }) (D' := { D' with nx := fun ρ1 μ1 => b.run D' ρ1 μ1 }) ⟨fun _ _ q => b.mono h q, h.rt, h.bk, h.ct, h.ex⟩ q⟩
theorem wSeq_run {a b : WS} {D : PD} {ρ : Ev} {μ : Mu} : (wSeq a b).run D ρ μ = a.run { D with nx := fun ρ1 μ1 => b.run D ρ1 μ1 } ρ μ := rfl
theorem lss_nil : LSs X Wx [] wNext := PSs.weak pss_nil fun D σ H ⟨ρ, μ, E, S, h⟩ => (show OutS X.K μ H D.nx ρ μ from h) σ H (Fr.refl μ H) S E
theorem lss_cons {st : Stmt} {rest : List Stmt} {a b : WS} (h1 : LS X Wx st a) (h2 : LSs X Wx rest b) : LSs X Wx (st :: rest) (wSeq a b) := PSs.weak (pss_cons h1 h2) fun D σ H ⟨ρ, μ, E, S, h⟩ =>
  ⟨ρ, μ, E, S, a.mono (D := { outD X.K Wx μ H D with nx := fun ρ1 μ1 => b.run (outD X.K Wx μ H D) ρ1 μ1 }) (D' := outD X.K Wx μ H { D with nx := lS X.K Wx b D }) ⟨fun ρ1 μ1 q σ1 H1 F1 S1 E1 => ⟨ρ1, μ1, E1, S1, b.mono (outD.trans F1) q⟩, fun _ _ h => h, fun _ _ h => h, fun _ _ h => h, fun _ _ _ _ h => h⟩ h⟩
theorem lss_one {st : Stmt} {a : WS} (h1 : LS X Wx st a) : LSs X Wx [st] a := pss_one h1
def wBreak : WS := ⟨fun D ρ μ => D.bk ρ μ, fun h q => h.bk _ _ q⟩
def wCont : WS := ⟨fun D ρ μ => D.ct ρ μ, fun h q => h.ct _ _ q⟩
theorem wBreak_run {D : PD} {ρ : Ev} {μ : Mu} : wBreak.run D ρ μ = D.bk ρ μ := rfl
theorem wCont_run {D : PD} {ρ : Ev} {μ : Mu} : wCont.run D ρ μ = D.ct ρ μ := rfl
theorem ls_pass {pos} : LS X Wx (.Pass pos) wNext := PS.weak ps_pass fun D σ H ⟨ρ, μ, E, S, h⟩ => (show OutS X.K μ H D.nx ρ μ from h) σ H (Fr.refl μ H) S E
theorem ls_break {pos} : LS X Wx (.Break pos) wBreak := PS.weak ps_break fun D σ H ⟨ρ, μ, E, S, h⟩ => (show OutS X.K μ H D.bk ρ μ from h) σ H (Fr.refl μ H) S E
theorem ls_continue {pos} : LS X Wx (.Continue pos) wCont := PS.weak ps_continue fun D σ H ⟨ρ, μ, E, S, h⟩ => (show OutS X.K μ H D.ct ρ μ from h) σ H (Fr.refl μ H) S E
/-- code that is never come to -/
def wNever : WS := ⟨fun _ _ _ => False, fun _ h => h⟩
theorem wNever_run {D : PD} {ρ : Ev} {μ : Mu} : wNever.run D ρ μ = False := rfl
theorem ls_never {st : Stmt} : LS X Wx st wNever := PS.weak ps_never fun _ _ _ ⟨_, _, _, _, h⟩ => h.elim
theorem lss_never {st : List Stmt} : LSs X Wx st wNever := PSs.weak pss_never fun _ _ _ ⟨_, _, _, _, h⟩ => h.elim
def wExpr (a : WE) : WS := ⟨fun D ρ μ => a.run ρ μ (fun _ μ1 => D.nx ρ μ1) (D.ex ρ), fun h q => a.mono (fun _ _ q => h.nx _ _ q) (fun _ _ _ q => h.ex _ _ _ _ q) q⟩
theorem wExpr_run {a : WE} {D : PD} {ρ : Ev} {μ : Mu} : (wExpr a).run D ρ μ = a.run ρ μ (fun _ μ1 => D.nx ρ μ1) (D.ex ρ) := rfl
theorem ls_expr {e : Expr} {pos : Pos} {w : WE} (he : LE X Wx e w) (hs : swapsWith e none pos.line X.env = pure false := by rfl) : LS X Wx (.Expr e pos) (wExpr w) := PS.weak (ps_expr he hs) fun D σ H ⟨ρ, μ, E, S, h⟩ => by
  exact lW.bind E S h (fun x μ1 v H1 F1 S1 E1 r1 h1 => h1 σ H1 F1 S1 E1) fun _ _ _ h => OutXE.x S E h
def wRet (a : WE) : WS := ⟨fun D ρ μ => a.run ρ μ D.rt (D.ex ρ), fun h q => a.mono (fun _ _ q => h.rt _ _ q) (fun _ _ _ q => h.ex _ _ _ _ q) q⟩
theorem wRet_run {a : WE} {D : PD} {ρ : Ev} {μ : Mu} : (wRet a).run D ρ μ = a.run ρ μ D.rt (D.ex ρ) := rfl
theorem ls_ret {e : Expr} {pos : Pos} {w : WE} (he : LE X Wx e w) : LS X Wx (.Return (some e) pos) (wRet w) := PS.weak (ps_ret he) fun D σ H ⟨ρ, μ, E, S, h⟩ => by
  exact lW.bind E S h (fun x μ1 v H1 F1 S1 E1 r1 h1 => h1 v H1 F1 S1 r1) fun _ _ _ h => OutXE.x S E h
def wRetN : WS := ⟨fun D ρ μ => D.rt .non μ, fun h q => h.rt _ _ q⟩
theorem wRetN_run {D : PD} {ρ : Ev} {μ : Mu} : wRetN.run D ρ μ = D.rt .non μ := rfl
theorem ls_retN {pos : Pos} : LS X Wx (.Return none pos) wRetN := PS.weak ps_retN fun D σ H ⟨ρ, μ, E, S, h⟩ => (show Out (Rp X.K) X.K μ H D.rt .non μ from h) _ _ (Fr.refl μ H) S rfl
def wIf (c : WT) (a b : WS) : WS := ⟨fun D ρ μ => c.run ρ μ (fun k μ1 => if k = true then a.run D ρ μ1 else b.run D ρ μ1) (D.ex ρ), fun h q => c.mono (fun k _ q => by
  cases k with
  | true => exact a.mono h q
  | false => exact b.mono h q) (fun _ _ _ q => h.ex _ _ _ _ q) q⟩
theorem wIf_run {c : WT} {a b : WS} {D : PD} {ρ : Ev} {μ : Mu} : (wIf c a b).run D ρ μ = c.run ρ μ (fun k μ1 => if k = true then a.run D ρ μ1 else b.run D ρ μ1) (D.ex ρ) := rfl
theorem ls_if {c : Expr} {sa sb : List Stmt} {pos : Pos} {wc : WT} {a b : WS} (hc : LT X Wx c wc) (ha : LSs X Wx sa a) (hb : LSs X Wx sb b) : LS X Wx (.If c sa sb pos) (wIf wc a b) := PS.weak (ps_if hc ha hb) fun D σ H ⟨ρ, μ, E, S, h⟩ => by
  refine lW.bind E S h (fun x μ1 v H1 F1 S1 E1 r1 h1 => ?_) fun _ _ _ h => OutXE.x S E h
  subst r1
  cases x with
  | true => exact iteT ⟨ρ, μ1, E1, S1, a.mono (outD.trans F1) h1⟩
  | false => exact iteF ⟨ρ, μ1, E1, S1, b.mono (outD.trans F1) h1⟩

/-! ### targets -/
structure WG where
  run : D → Ev → Mu → (Ev → Mu → Prop) → (Ev → XQ) → Prop
  mono : ∀ {d : D} {ρ : Ev} {μ : Mu} {Q Q' : Ev → Mu → Prop} {X X' : Ev → XQ}, (∀ ρ μ, Q ρ μ → Q' ρ μ) → (∀ ρ C d μ, X ρ C d μ → X' ρ C d μ) → run d ρ μ Q X → run d ρ μ Q' X'
def lG (K : PySem.W.Frag) (Wx : WX) (g : WG) : TG := fun v σ H Q => ∃ ρ μ d, EnvR K H ρ σ ∧ Sim K μ H ∧ Rp K H d v ∧ g.run d ρ μ (OutS K μ H Q) (OutXE K Wx μ H)
def LG (X : Cx) (Wx : WX) (e : Expr) (g : WG) : Prop := PG X e (lG X.K Wx g)
theorem PG.weak {X : Cx} {e : Expr} {t t' : TG} (h : PG X e t) (hw : ∀ v σ H Q, t' v σ H Q → t v σ H Q) : PG X e t' := ⟨fun pins s σ H v u Q I r q => h.run pins s σ H v u Q I r (hw v σ H Q q)⟩
theorem PGs.weak {X : Cx} {e : List Expr} {t t' : TGs} (h : PGs X e t) (hw : ∀ v σ H Q, t' v σ H Q → t v σ H Q) : PGs X e t' := ⟨fun pins s σ H v u Q I r q => h.run pins s σ H v u Q I r (hw v σ H Q q)⟩
def gN (i : Nat) : WG := ⟨fun d ρ μ Q _ => Q (ρ.set i (some d)) μ, fun hQ _ q => hQ _ _ q⟩
theorem gN_run {i : Nat} {d : D} {ρ : Ev} {μ : Mu} {Q : Ev → Mu → Prop} {X : Ev → XQ} : (gN i).run d ρ μ Q X = Q (ρ.set i (some d)) μ := rfl
theorem lg_name (i : Nat) {x : Str} {pos : Pos} (hN : X.N.Nodup) (hi : X.N[i]? = some x := by rfl) (hx : Loc X.env.scope x := by first | exact Or.inl rfl | exact Or.inr rfl) (hf : X.fn x = true ∨ X.env.scope.names.lookup x = some .local := by first | exact .inl rfl | exact .inr rfl) : LG X Wx (.Name x pos) (gN i) :=
  PG.weak (pg_name hN hi hx hf) fun v σ H Q ⟨ρ, μ, d, E, S, R, h⟩ => h _ _ (Fr.refl μ H) S (E.set R i)
def runGs : List WG → List D → Ev → Mu → (Ev → Mu → Prop) → (Ev → XQ) → Prop
  | [], [], ρ, μ, Q, _ => Q ρ μ
  | g :: gs, d :: ds, ρ, μ, Q, X => g.run d ρ μ (fun ρ1 μ1 => runGs gs ds ρ1 μ1 Q X) X
  | _, _, _, _, _, _ => False
theorem runGs_nil {ρ : Ev} {μ : Mu} {Q : Ev → Mu → Prop} {X : Ev → XQ} : runGs [] [] ρ μ Q X = Q ρ μ := rfl
theorem runGs_cons {g : WG} {gs : List WG} {d : D} {ds : List D} {ρ : Ev} {μ : Mu} {Q : Ev → Mu → Prop} {X : Ev → XQ} : runGs (g :: gs) (d :: ds) ρ μ Q X = g.run d ρ μ (fun ρ1 μ1 => runGs gs ds ρ1 μ1 Q X) X := rfl
theorem runGs_mono : ∀ {gs : List WG} {ds : List D} {ρ : Ev} {μ : Mu} {Q Q' : Ev → Mu → Prop} {X X' : Ev → XQ}, (∀ ρ μ, Q ρ μ → Q' ρ μ) → (∀ ρ C d μ, X ρ C d μ → X' ρ C d μ) → runGs gs ds ρ μ Q X → runGs gs ds ρ μ Q' X'
  | [], [], _, _, _, _, _, _, hQ, _, h => hQ _ _ h
  | g :: gs, d :: ds, _, _, _, _, _, _, hQ, hX, h => g.mono (fun _ _ q => runGs_mono (gs := gs) hQ hX q) hX h
  | [], _ :: _, _, _, _, _, _, _, _, _, h => h
  | _ :: _, [], _, _, _, _, _, _, _, _, h => h
theorem runGs_len : ∀ {gs : List WG} {ds : List D} {ρ : Ev} {μ : Mu} {Q : Ev → Mu → Prop} {X : Ev → XQ}, runGs gs ds ρ μ Q X → gs.length = ds.length ∨ gs.length ≠ ds.length
  | _, _, _, _, _, _, _ => by omega
def LGs (X : Cx) (Wx : WX) (es : List Expr) (gs : List WG) : Prop := PGs X es (fun vs σ H Q => ∃ ρ μ ds, EnvR X.K H ρ σ ∧ Sim X.K μ H ∧ Rps X.K H ds vs ∧ runGs gs ds ρ μ (OutS X.K μ H Q) (OutXE X.K Wx μ H))
theorem lgs_nil : LGs X Wx [] [] := PGs.weak pgs_nil fun vs σ H Q ⟨ρ, μ, ds, E, S, R, h⟩ => by
  cases ds with
  | nil => unfold Rps at R; exact ⟨R, (show OutS X.K μ H Q ρ μ from h) _ _ (Fr.refl μ H) S E⟩
  | cons d ds => exact h.elim
theorem lgs_cons {e : Expr} {es : List Expr} {g : WG} {gs : List WG} (h1 : LG X Wx e g) (h2 : LGs X Wx es gs) (hs : (assignEach (e :: es) X.env).map (·.2) = assign e X.env :: (assignEach es X.env).map (·.2) := by rfl) : LGs X Wx (e :: es) (g :: gs) :=
  PGs.weak (pgs_cons h1 h2 hs) fun vs σ H Q ⟨ρ, μ, ds, E, S, R, h⟩ => by
    cases ds with
    | nil => exact h.elim
    | cons d ds =>
      unfold Rps at R
      obtain ⟨w, ws, rfl, r1, r2⟩ := R
      refine ⟨w, ws, rfl, ρ, μ, d, E, S, r1, g.mono (fun ρ1 μ1 q σ1 H1 F1 S1 E1 => ?_) (fun _ _ _ _ h => h) h⟩
      exact ⟨ρ1, μ1, ds, E1, S1, Rps.keep S F1 ds r2, runGs_mono (fun _ _ q => OutS.trans F1 q) (fun _ _ _ _ q => OutXE.trans F1 q) q⟩
/-- a tuple is unpacked -/
def gT (gs : List WG) : WG := ⟨fun d ρ μ Q X => match d with | .tup ds => ds.length = gs.length ∧ runGs gs ds ρ μ Q X | _ => False, fun {d ρ μ Q Q' X X'} hQ hX q => by
  cases d <;> first | exact q | exact ⟨q.1, runGs_mono hQ hX q.2⟩⟩
theorem gT_run {gs : List WG} {ds : List D} {ρ : Ev} {μ : Mu} {Q : Ev → Mu → Prop} {X : Ev → XQ} : (gT gs).run (.tup ds) ρ μ Q X = (ds.length = gs.length ∧ runGs gs ds ρ μ Q X) := rfl
theorem lg_tup {es : List Expr} {k : Nat} {pos : Pos} {gs : List WG} (h : LGs X Wx es gs) (hc : X.calm = true := by rfl) (hn : (assignEach es X.env).length = gs.length := by rfl) (hst : (assignEach es X.env).findIdx? (·.1) = none := by rfl) : LG X Wx (.Tuple es k pos) (gT gs) :=
  PG.weak (pg_tup (n := gs.length) hc h hn hst) fun v σ H Q ⟨ρ, μ, d, E, S, R, h⟩ => by
    cases d <;> first
      | exact h.elim
      | (obtain ⟨p, vs, rfl, t, r⟩ := rp_tup R
         exact ⟨p, vs, rfl, t, by rw [r.length, h.1], ρ, μ, _, E, S, r, h.2⟩)
/-- o[i] = d -/
def sIx (o i d : D) (μ : Mu) (Q : Mu → Prop) : Prop := match o, i with
  | .ob a, .int k => (match μ a with | some (.lst xs) => (match ixN xs.length k with | some j => Q (mset μ a (.lst (xs.set j d))) | none => False) | _ => False)
  | _, _ => False
theorem sIx_ob {a : Addr} {k : Int} {d : D} {μ : Mu} {Q : Mu → Prop} : sIx (.ob a) (.int k) d μ Q = (match μ a with | some (.lst xs) => (match ixN xs.length k with | some j => Q (mset μ a (.lst (xs.set j d))) | none => False) | _ => False) := rfl
theorem sIx_inv {o i d : D} {μ : Mu} {Q : Mu → Prop} (h : sIx o i d μ Q) : ∃ a k xs j, o = .ob a ∧ i = .int k ∧ μ a = some (.lst xs) ∧ ixN xs.length k = some j ∧ Q (mset μ a (.lst (xs.set j d))) := by
  unfold sIx at h
  split at h
  · split at h
    · split at h
      · exact ⟨_, _, _, _, rfl, rfl, by assumption, by assumption, h⟩
      · exact h.elim
    · exact h.elim
  · exact h.elim
theorem sIx_mk {a : Addr} {k : Int} {xs : List D} {j : Nat} {d : D} {μ : Mu} {Q : Mu → Prop} (h1 : μ a = some (.lst xs)) (h2 : ixN xs.length k = some j) (h : Q (mset μ a (.lst (xs.set j d)))) : sIx (.ob a) (.int k) d μ Q := by
  rw [sIx_ob, h1]
  dsimp only
  rw [h2]
  exact h
def gS (wo wi : WE) : WG := ⟨fun d ρ μ Q X => wo.run ρ μ (fun o μ1 => wi.run ρ μ1 (fun i μ2 => sIx o i d μ2 fun μ3 => Q ρ μ3) (X ρ)) (X ρ), fun {d ρ μ Q Q' X X'} hQ hX q => wo.mono (fun _ _ q => wi.mono (fun _ _ q => by
  obtain ⟨a, k, xs, j, rfl, rfl, e1, e2, q⟩ := sIx_inv q
  exact sIx_mk e1 e2 (hQ _ _ q)) (fun _ _ _ q => hX _ _ _ _ q) q) (fun _ _ _ q => hX _ _ _ _ q) q⟩
theorem gS_run {wo wi : WE} {d : D} {ρ : Ev} {μ : Mu} {Q : Ev → Mu → Prop} {X : Ev → XQ} : (gS wo wi).run d ρ μ Q X = wo.run ρ μ (fun o μ1 => wi.run ρ μ1 (fun i μ2 => sIx o i d μ2 fun μ3 => Q ρ μ3) (X ρ)) (X ρ) := rfl
theorem lg_sub {o i : Expr} {pos : Pos} {wo wi : WE} (ho : LE X Wx o wo) (hi : LE X Wx i wi)
    (ha : ∀ v, assign (.Subscript o i pos) X.env v = (do
      let ov ← holding [v] (eval o X.env)
      let iv ← holding [v, ov] (eval i X.env)
      standAt pos
      holding [v, ov, iv] (setItem ov iv v)
      release [v, ov, iv] []) := by intro _; rfl) : LG X Wx (.Subscript o i pos) (gS wo wi) := PG.weak (pg_sub ho hi set_list ha) fun v σ H Q ⟨ρ, μ, d, E, S, R, h⟩ => by
  refine lW.bind E S h (fun x μ1 vo H1 F1 S1 E1 r1 h1 => ?_) fun _ _ _ h => OutXE.x S E h
  refine lW.bind E1 S1 h1 (fun y μ2 vi H2 F2 S2 E2 r2 h2 => ?_) fun _ _ _ h => OutX.trans F1 (OutXE.x S E h)
  obtain ⟨a, k, xs, j, rfl, rfl, e1, e2, q⟩ := sIx_inv h2
  obtain ⟨vs, h3, r3⟩ := S2.lst e1
  have R2 : Rp X.K H2 d v := Rp.keep S1 F2 d (Rp.keep S F1 d R)
  have F3 : Fr μ2 H2 (mset μ2 a (.lst (xs.set j d))) (upd H2 a (.lst (vs.set j v))) := fr_set e1
  exact ⟨a, vs, k, j, rp_ob r1, rp_int r2, h3, by rw [r3.length]; exact e2, q _ _ (F1.trans (F2.trans F3)) (sim_lst S2 F3 (r3.set R2 j)) (E2.keep S2 F3)⟩

/-! ### assignments -/
def wAsg (a : WE) (g : WG) : WS := ⟨fun D ρ μ => a.run ρ μ (fun d μ1 => g.run d ρ μ1 D.nx D.ex) (D.ex ρ), fun h q => a.mono (fun _ _ q => g.mono h.nx h.ex q) (fun _ _ _ q => h.ex _ _ _ _ q) q⟩
theorem wAsg_run {a : WE} {g : WG} {D : PD} {ρ : Ev} {μ : Mu} : (wAsg a g).run D ρ μ = a.run ρ μ (fun d μ1 => g.run d ρ μ1 D.nx D.ex) (D.ex ρ) := rfl
theorem wAsg_t {w : WE} {g : WG} : ∀ D σ H, lS X.K Wx (wAsg w g) D σ H → tAsg (lE X.K Wx w) (lG X.K Wx g) D σ H := fun D σ H ⟨ρ, μ, E, S, h⟩ => by
  refine lW.bind E S h (fun x μ1 v H1 F1 S1 E1 r1 h1 => ?_) fun _ _ _ h => OutXE.x S E h
  exact ⟨ρ, μ1, x, E1, S1, r1, g.mono (fun _ _ q => OutS.trans F1 q) (fun _ _ _ _ q => OutXE.trans F1 q) h1⟩
theorem ls_asg {tg e : Expr} {pos : Pos} {w : WE} {g : WG} (he : LE X Wx e w) (hg : LG X Wx tg g) (hs : swapsWithSole [tg] e pos.line X.env = pure false := by rfl) (hw : swappedStores [tg] e X.env = pure none := by rfl)
    (h1 : (assignEach [tg] X.env).map (·.2) = [assign tg X.env] := by rfl) : LS X Wx (.Assign [tg] e pos) (wAsg w g) := PS.weak (ps_asg he hg hs hw h1) wAsg_t
def wSet (i : Nat) (a : WE) : WS := ⟨fun D ρ μ => a.run ρ μ (fun d μ1 => D.nx (ρ.set i (some d)) μ1) (D.ex ρ), fun h q => a.mono (fun _ _ q => h.nx _ _ q) (fun _ _ _ q => h.ex _ _ _ _ q) q⟩
theorem wSet_run {i : Nat} {a : WE} {D : PD} {ρ : Ev} {μ : Mu} : (wSet i a).run D ρ μ = a.run ρ μ (fun d μ1 => D.nx (ρ.set i (some d)) μ1) (D.ex ρ) := rfl
theorem wSet_t {i : Nat} {w : WE} : ∀ D σ H, lS X.K Wx (wSet i w) D σ H → tAsg (lE X.K Wx w) (gName i) D σ H := fun D σ H ⟨ρ, μ, E, S, h⟩ => by
  refine lW.bind E S h (fun x μ1 v H1 F1 S1 E1 r1 h1 => ?_) fun _ _ _ h => OutXE.x S E h
  exact h1 _ _ F1 S1 (E1.set r1 i)
theorem ls_set (i : Nat) {x : Str} {e : Expr} {pos pos' : Pos} {w : WE} (hN : X.N.Nodup) (he : LE X Wx e w) (hi : X.N[i]? = some x := by rfl) (hx : Loc X.env.scope x := by first | exact Or.inl rfl | exact Or.inr rfl)
    (hs : swapsWith e (some (.Name x pos')) pos.line X.env = pure false := by rfl) (hf : X.fn x = true ∨ X.env.scope.names.lookup x = some .local := by first | exact .inl rfl | exact .inr rfl) : LS X Wx (.Assign [.Name x pos'] e pos) (wSet i w) :=
  PS.weak (ps_set hN hi hx he hs hf) wSet_t
/-- a, b = x, y of plain local names -/
def wPar (i j : Nat) (a b : WE) : WS := ⟨fun D ρ μ => a.run ρ μ (fun x μ1 => b.run ρ μ1 (fun y μ2 => D.nx ((ρ.set i (some x)).set j (some y)) μ2) (D.ex ρ)) (D.ex ρ), fun h q => a.mono (fun _ _ q => b.mono (fun _ _ q => h.nx _ _ q) (fun _ _ _ q => h.ex _ _ _ _ q) q) (fun _ _ _ q => h.ex _ _ _ _ q) q⟩
theorem wPar_run {i j : Nat} {a b : WE} {D : PD} {ρ : Ev} {μ : Mu} : (wPar i j a b).run D ρ μ = a.run ρ μ (fun x μ1 => b.run ρ μ1 (fun y μ2 => D.nx ((ρ.set i (some x)).set j (some y)) μ2) (D.ex ρ)) (D.ex ρ) := rfl
theorem ls_par (i j : Nat) {x y : Str} {a b : Expr} {wa wb : WE} {px py pt pos : Pos} {kt k2 pt2} (hN : X.N.Nodup) (ha : LAs X Wx [a, b] [wa, wb]) (hw : swappedStores [.Tuple [.Name x px, .Name y py] kt pt] (.Tuple [a, b] k2 pt2) X.env = pure (some [x, y]) := by rfl)
    (hc : X.calm = true := by rfl) (hi : X.N[i]? = some x := by rfl) (hj : X.N[j]? = some y := by rfl) (hij : i ≠ j := by decide) (hx : X.env.scope.names.lookup x = some .local := by rfl) (hy : X.env.scope.names.lookup y = some .local := by rfl)
    (hs : swapsWithSole [.Tuple [.Name x px, .Name y py] kt pt] (.Tuple [a, b] k2 pt2) pos.line X.env = pure false := by rfl) : LS X Wx (.Assign [.Tuple [.Name x px, .Name y py] kt pt] (.Tuple [a, b] k2 pt2) pos) (wPar i j wa wb) :=
  PS.weak (ps_par hc hN hi hj hij hx hy ha hw hs) fun D σ H ⟨ρ, μ, E, S, h⟩ => by
    refine lW.bind (w := wArgs [wa, wb]) E S (Q := fun ds μ2 => ∃ x y, ds = [x, y] ∧ (outD X.K Wx μ H D).nx ((ρ.set i (some x)).set j (some y)) μ2) (X := (outD X.K Wx μ H D).ex ρ) ?_ (fun xs μ1 vs H1 F1 S1 E1 r1 h1 => ?_) fun _ _ _ h => OutXE.x S E h
    · exact wa.mono (fun x μ1 q => wb.mono (fun y μ2 q => ⟨x, y, rfl, q⟩) (fun _ _ _ h => h) q) (fun _ _ _ h => h) h
    obtain ⟨x, y, rfl, q⟩ := h1
    obtain ⟨v, u, rfl, a1, a2⟩ := rps2 r1
    exact ⟨v, u, rfl, q _ _ F1 S1 ((E1.set a1 i).set a2 j)⟩
end
end Sq

/-! Loops, comprehensions, methods, keywords, defs. -/
namespace Sq
open PySem PySem.Spec PyProof.Rows L2
section
variable {X : Cx} {Wx : WX}
/-! ### while -/
/-- behind a turn -/
abbrev PD.turn (D : PD) (N : Ev → Mu → Prop) : PD := ⟨N, D.rt, D.nx, N, D.ex⟩
theorem PD.turn_le {D D' : PD} {N N' : Ev → Mu → Prop} (h : D.le D') (hN : ∀ ρ μ, N ρ μ → N' ρ μ) : (D.turn N).le (D'.turn N') := ⟨hN, h.rt, h.nx, hN, h.ex⟩
def wWhile (c : WT) (b : WS) : WS := ⟨fun D ρ μ => ∃ W : Nat → Ev → Mu → Prop, (∃ m, W m ρ μ) ∧ ∀ m ρ μ, W m ρ μ → c.run ρ μ (fun k μ1 => if k = true then b.run (D.turn fun ρ' μ' => ∃ m', m' < m ∧ W m' ρ' μ') ρ μ1 else D.nx ρ μ1) (D.ex ρ),
  fun {D D' ρ μ} h ⟨W, h0, hs⟩ => ⟨W, h0, fun m ρ μ w => c.mono (fun k μ1 q => by
    cases k with
    | true => exact b.mono (PD.turn_le h fun _ _ q => q) q
    | false => exact h.nx _ _ q) (fun _ _ _ q => h.ex _ _ _ _ q) (hs m ρ μ w)⟩⟩
theorem wWhile_run {c : WT} {b : WS} {D : PD} {ρ : Ev} {μ : Mu} : (wWhile c b).run D ρ μ = ∃ W : Nat → Ev → Mu → Prop, (∃ m, W m ρ μ) ∧ ∀ m ρ μ, W m ρ μ → c.run ρ μ (fun k μ1 => if k = true then b.run (D.turn fun ρ' μ' => ∃ m', m' < m ∧ W m' ρ' μ') ρ μ1 else D.nx ρ μ1) (D.ex ρ) := rfl
/-- by an invariant and a measure -/
theorem wWhile_by {c : WT} {b : WS} {D : PD} {ρ : Ev} {μ : Mu} (P : Nat → Ev → Mu → Prop) (m0 : Nat) (h0 : P m0 ρ μ)
    (hs : ∀ m ρ μ, P m ρ μ → c.run ρ μ (fun k μ1 => if k = true then b.run (D.turn fun ρ' μ' => ∃ m', m' < m ∧ P m' ρ' μ') ρ μ1 else D.nx ρ μ1) (D.ex ρ)) : (wWhile c b).run D ρ μ := ⟨P, ⟨m0, h0⟩, hs⟩
theorem ls_while {c : Expr} {body : List Stmt} {pos : Pos} {wc : WT} {wb : WS} (hp : PassesOwn (model X.prog X.w) X.A X.env X.xe) (hc : LT X Wx c wc) (hb : LSs X Wx body wb) : LS X Wx (.While c body [] pos) (wWhile wc wb) :=
  PS.weak (ps_while hp hc hb) fun D σ H ⟨ρ, μ, E, S, W, ⟨m0, h0⟩, hs⟩ => by
    refine ⟨fun m σ' H' => ∃ ρ' μ', EnvR X.K H' ρ' σ' ∧ Sim X.K μ' H' ∧ Fr μ H μ' H' ∧ W m ρ' μ', ⟨m0, ρ, μ, E, S, Fr.refl μ H, h0⟩, ?_⟩
    rintro m σ1 H1 ⟨ρ1, μ1, E1, S1, F1, w1⟩
    refine lW.bind E1 S1 (hs m ρ1 μ1 w1) (fun k μ2 k' H2 F2 S2 E2 r2 q2 => ?_) fun _ _ _ h => OutXE.x S1 E1 (OutXE.trans F1 h)
    subst r2
    cases k with
    | false => exact iteF ((show OutS X.K μ H D.nx ρ1 μ2 from q2) _ _ (F1.trans F2) S2 E2)
    | true =>
      refine iteT ⟨fun σ' H' => ∃ m', m' < m ∧ ∃ ρ' μ', EnvR X.K H' ρ' σ' ∧ Sim X.K μ' H' ∧ Fr μ H μ' H' ∧ W m' ρ' μ', fun _ _ h => h, ρ1, μ2, E2, S2, ?_⟩
      refine wb.mono ⟨?_, fun _ _ h => Out.trans (F1.trans F2) h, fun _ _ h => OutS.trans (F1.trans F2) h, ?_, fun _ _ _ _ h => OutXE.trans (F1.trans F2) h⟩ q2
      all_goals
        rintro ρ' μ' ⟨m', hm, w'⟩ σ' H' F' S' E'
        exact ⟨m', hm, ρ', μ', E', S', F1.trans (F2.trans F'), w'⟩

/-! ### what is walked -/
structure WI where
  run : Ev → Mu → (List D → (Mu → Prop) → Mu → Prop) → XQ → Prop
  mono : ∀ {ρ : Ev} {μ : Mu} {Q Q' : List D → (Mu → Prop) → Mu → Prop} {X X' : XQ}, (∀ ds chk μ', Q ds chk μ' → Q' ds chk μ') → (∀ C d μ', X C d μ' → X' C d μ') → run ρ μ Q X → run ρ μ Q' X'
/-- the iterator J yields the items ds while chk stands -/
structure ItOk (K : PySem.W.Frag) (μ0 : Mu) (H0 : Hp) (J : It) (ds : List D) (chk : Mu → Prop) : Prop where
  stop : ∀ μ H, Fr μ0 H0 μ H → Sim K μ H → chk μ → J.stop ds.length H
  go : ∀ i d μ H, ds[i]? = some d → Fr μ0 H0 μ H → Sim K μ H → chk μ → J.go i H
  yld : ∀ i d μ H x H', ds[i]? = some d → Fr μ0 H0 μ H → Sim K μ H → chk μ → J.yld i H x H' → Fr μ H μ H' ∧ Sim K μ H' ∧ Rp K H' d x
def LI (X : Cx) (Wx : WX) (tg iter : Expr) (wi : WI) : Prop := PI X tg iter (fun σ H R => ∃ ρ μ, EnvR X.K H ρ σ ∧ Sim X.K μ H ∧ wi.run ρ μ (fun ds chk μ1 => ∀ J H1, Fr μ H μ1 H1 → Sim X.K μ1 H1 → ItOk X.K μ1 H1 J ds chk → R J H1) (OutX X.K Wx σ μ H))
theorem PI.weak {X : Cx} {tg iter : Expr} {t t' : TI} (h : PI X tg iter t) (hw : ∀ σ H R, t' σ H R → t σ H R) : PI X tg iter t' := ⟨fun pins s σ H R I q => h.run pins s σ H R I (hw σ H R q)⟩
/-- a list or a tuple -/
def iSeqR (K : PySem.W.Frag) (tl : TE) : TI := fun σ H R => tl σ H fun x H1 => ∃ a, x = .ref a ∧ (((∃ xs, SqL K H1 a xs) ∧ R (Itl K a) H1) ∨ ((∃ xs, SqT K H1 a xs) ∧ R (Itt K a) H1))
theorem pi_seq {tg l : Expr} {tl : TE} (hl : PE X l tl) : PI X tg l (iSeqR X.K tl) := by
  refine ⟨fun pins s σ H R I h => ?_⟩
  refine thn (hl.run pins s σ H _ I h) fun v s1 ⟨x, H1, I1, r1, q1⟩ => ?_
  obtain ⟨a, e, ⟨⟨xs, hq⟩, q⟩ | ⟨⟨xs, hq⟩, q⟩⟩ := q1
  · subst e
    cases r1
    obtain ⟨its, rv, p, hz⟩ := I1.list hq
    refine wpAny_pyIter_list p.isList ?_
    refine ⟨s1.heap.objs.size, [s1.heap.objs.size], _, _, H1, rfl, I1.kept (t' := s1.toks) fun b o e => Heap.get?_push_of_some _ e, turn_list a _, ⟨_, Heap.get?_push_size _ rfl, rfl, rfl⟩, fun b hb => ?_, q⟩
    have e : b = s1.heap.objs.size := by simpa using hb
    subst e
    exact I1.fpOk (Nat.le_refl _) (I1.hok.fresh (Nat.le_refl _))
  · subst e
    cases r1
    obtain ⟨its, rv, p, hz⟩ := I1.tuple hq
    refine wpAny_pyIter_tuple (show s1.heap.IsTuple a its.toArray from p) ?_
    refine ⟨s1.heap.objs.size, [s1.heap.objs.size], _, _, H1, rfl, I1.kept (t' := s1.toks) fun b o e => Heap.get?_push_of_some _ e, turn_tuple a _, ⟨_, Heap.get?_push_size _ rfl, rfl, rfl⟩, fun b hb => ?_, q⟩
    have e : b = s1.heap.objs.size := by simpa using hb
    subst e
    exact I1.fpOk (Nat.le_refl _) (I1.hok.fresh (Nat.le_refl _))
def fSeq (x : D) (μ : Mu) (Q : List D → (Mu → Prop) → Mu → Prop) : Prop := match x with
  | .tup ds => Q ds (fun _ => True) μ
  | .rls ds => Q ds (fun _ => True) μ
  | .ob a => (match μ a with | some (.lst ds) => Q ds (fun μ' => μ' a = some (.lst ds)) μ | _ => False)
  | _ => False
theorem fSeq_tup {ds : List D} {μ : Mu} {Q : List D → (Mu → Prop) → Mu → Prop} : fSeq (.tup ds) μ Q = Q ds (fun _ => True) μ := rfl
theorem fSeq_rls {ds : List D} {μ : Mu} {Q : List D → (Mu → Prop) → Mu → Prop} : fSeq (.rls ds) μ Q = Q ds (fun _ => True) μ := rfl
theorem fSeq_ob {a : Addr} {μ : Mu} {Q : List D → (Mu → Prop) → Mu → Prop} : fSeq (.ob a) μ Q = (match μ a with | some (.lst ds) => Q ds (fun μ' => μ' a = some (.lst ds)) μ | _ => False) := rfl
theorem fSeq_mono {x : D} {μ : Mu} {Q Q' : List D → (Mu → Prop) → Mu → Prop} (hQ : ∀ ds chk μ', Q ds chk μ' → Q' ds chk μ') (h : fSeq x μ Q) : fSeq x μ Q' := by
  cases x with
  | tup ds => exact hQ _ _ _ h
  | rls ds => exact hQ _ _ _ h
  | ob a =>
    rw [fSeq_ob] at h ⊢
    split at h
    · exact hQ _ _ _ h
    · exact h.elim
  | _ => exact h
def wSeqI (a : WE) : WI := ⟨fun ρ μ Q X => a.run ρ μ (fun x μ1 => fSeq x μ1 Q) X, fun hQ hX h => a.mono (fun _ _ h => fSeq_mono hQ h) hX h⟩
theorem wSeqI_run {a : WE} {ρ : Ev} {μ : Mu} {Q : List D → (Mu → Prop) → Mu → Prop} {X : XQ} : (wSeqI a).run ρ μ Q X = a.run ρ μ (fun x μ1 => fSeq x μ1 Q) X := rfl
theorem itOk_tup {K : PySem.W.Frag} {μ : Mu} {H : Hp} {p : Addr} {vs : List V} {ds : List D} (S : Sim K μ H) (t : SqT K H p vs) (r : Rps K H ds vs) : ItOk K μ H (Itt K p) ds (fun _ => True) where
  stop := fun μ' H' F S' _ => ⟨vs, sqT_keep S F t, by rw [r.length]; exact Nat.le_refl _⟩
  go := fun i d μ' H' e F S' _ => by
    obtain ⟨v, h1, _⟩ := r.get e
    exact ⟨vs, v, sqT_keep S F t, h1⟩
  yld := fun i d μ' H' x H2 e F S' _ y => by
    obtain ⟨rfl, y⟩ := y
    have t' := sqT_keep S F t
    obtain ⟨v, h1, h2⟩ := (Rps.keep S F ds r).get e
    have := y vs t'
    rw [h1] at this; cases this
    exact ⟨Fr.refl _ _, S', h2⟩
theorem itOk_rls {K : PySem.W.Frag} {μ : Mu} {H : Hp} {p : Addr} {vs : List V} {ds : List D} (S : Sim K μ H) (t : SqR K H p vs) (r : Rps K H ds vs) : ItOk K μ H (Itl K p) ds (fun _ => True) where
  stop := fun μ' H' F S' _ => ⟨vs, (sqR_keep S F t).l, by rw [r.length]; exact Nat.le_refl _⟩
  go := fun i d μ' H' e F S' _ => by
    obtain ⟨v, h1, _⟩ := r.get e
    exact ⟨vs, v, (sqR_keep S F t).l, h1⟩
  yld := fun i d μ' H' x H2 e F S' _ y => by
    obtain ⟨rfl, y⟩ := y
    have t' := sqR_keep S F t
    obtain ⟨v, h1, h2⟩ := (Rps.keep S F ds r).get e
    have := y vs t'.l
    rw [h1] at this; cases this
    exact ⟨Fr.refl _ _, S', h2⟩
theorem itOk_lst {K : PySem.W.Frag} {μ : Mu} {H : Hp} {a : Addr} {ds : List D} : ItOk K μ H (Itl K a) ds (fun μ' => μ' a = some (.lst ds)) where
  stop := fun μ' H' F S' c => by
    obtain ⟨vs, h1, r⟩ := S'.lst c
    exact ⟨vs, SqL.of h1, by rw [r.length]; exact Nat.le_refl _⟩
  go := fun i d μ' H' e F S' c => by
    obtain ⟨vs, h1, r⟩ := S'.lst c
    obtain ⟨v, h2, _⟩ := r.get e
    exact ⟨vs, v, SqL.of h1, h2⟩
  yld := fun i d μ' H' x H2 e F S' c y => by
    obtain ⟨rfl, y⟩ := y
    obtain ⟨vs, h1, r⟩ := S'.lst c
    obtain ⟨v, h2, h3⟩ := r.get e
    have := y vs (SqL.of h1)
    rw [h2] at this; cases this
    exact ⟨Fr.refl _ _, S', h3⟩
theorem li_seq {tg e : Expr} {w : WE} (he : LE X Wx e w) : LI X Wx tg e (wSeqI w) := PI.weak (pi_seq he) fun σ H R ⟨ρ, μ, E, S, h⟩ => by
  refine lW.bind E S h (fun x μ1 v H1 F1 S1 E1 r1 h1 => ?_) fun _ _ _ h => h
  cases x with
  | tup ds =>
    obtain ⟨p, vs, rfl, t, r⟩ := rp_tup r1
    exact ⟨p, rfl, .inr ⟨⟨vs, t⟩, h1 _ H1 F1 S1 (itOk_tup S1 t r)⟩⟩
  | rls ds =>
    obtain ⟨p, vs, rfl, t, r⟩ := rp_rls r1
    exact ⟨p, rfl, .inl ⟨⟨vs, t.l⟩, h1 _ H1 F1 S1 (itOk_rls S1 t r)⟩⟩
  | ob a =>
    rw [fSeq_ob] at h1
    split at h1
    · rename_i ds e
      obtain ⟨vs, h2, r⟩ := S1.lst e
      exact ⟨a, rp_ob r1, .inl ⟨⟨vs, SqL.of h2⟩, h1 _ H1 F1 S1 itOk_lst⟩⟩
    · exact h1.elim
  | _ => exact h1.elim
/-- range -/
def rangeD (lo : Int) (n : Nat) : List D := (List.range n).map fun i => D.int (lo + (i : Nat))
theorem rangeD_len (lo : Int) (n : Nat) : (rangeD lo n).length = n := by unfold rangeD; simp
theorem rangeD_get {lo : Int} {n i : Nat} {d : D} (h : (rangeD lo n)[i]? = some d) : i < n ∧ d = .int (lo + (i : Nat)) := by
  unfold rangeD at h
  rw [List.getElem?_map] at h
  by_cases hi : i < n
  · rw [List.getElem?_range hi] at h
    cases h
    exact ⟨hi, rfl⟩
  · rw [List.getElem?_eq_none (by simpa using hi)] at h
    cases h
theorem itOk_rng {K : PySem.W.Frag} {μ : Mu} {H : Hp} {lo : Int} {n : Nat} : ItOk K μ H (Itr lo n) (rangeD lo n) (fun _ => True) where
  stop := fun μ' H' F S' _ => by show n ≤ _; rw [rangeD_len]; exact Nat.le_refl _
  go := fun i d μ' H' e F S' _ => (rangeD_get e).1
  yld := fun i d μ' H' x H2 e F S' _ y => by
    obtain ⟨rfl, rfl⟩ := y
    rw [(rangeD_get e).2]
    exact ⟨Fr.refl _ _, S', rfl⟩
def fRng1 (ds : List D) (μ : Mu) (Q : List D → (Mu → Prop) → Mu → Prop) : Prop := match ds with
  | [.int j] => -(2 ^ 62) ≤ j ∧ j < 2 ^ 62 ∧ Q (rangeD 0 j.toNat) (fun _ => True) μ
  | _ => False
theorem fRng1_inv {ds : List D} {μ : Mu} {Q : List D → (Mu → Prop) → Mu → Prop} (h : fRng1 ds μ Q) : ∃ j, ds = [.int j] ∧ -(2 ^ 62) ≤ j ∧ j < 2 ^ 62 ∧ Q (rangeD 0 j.toNat) (fun _ => True) μ := by
  unfold fRng1 at h
  split at h
  · exact ⟨_, rfl, h⟩
  · exact h.elim
def wRng1 (a : WE) : WI := ⟨fun ρ μ Q X => runAll [a] ρ μ (fun ds μ1 => fRng1 ds μ1 Q) X, fun hQ hX h => runAll_mono (fun _ _ h => by
  obtain ⟨j, rfl, h1, h2, q⟩ := fRng1_inv h
  exact ⟨h1, h2, hQ _ _ _ q⟩) hX h⟩
theorem wRng1_run {a : WE} {ρ : Ev} {μ : Mu} {Q : List D → (Mu → Prop) → Mu → Prop} {X : XQ} : (wRng1 a).run ρ μ Q X = runAll [a] ρ μ (fun ds μ1 => fRng1 ds μ1 Q) X := rfl
theorem fRng1_int {j : Int} {μ : Mu} {Q : List D → (Mu → Prop) → Mu → Prop} : fRng1 [.int j] μ Q = (-(2 ^ 62) ≤ j ∧ j < 2 ^ 62 ∧ Q (rangeD 0 j.toNat) (fun _ => True) μ) := rfl
theorem li_rng1 {tg a : Expr} {wa : WE} {p pos : Pos} (hm : X.mg "range" = none) (ha : LAs X Wx [a] [wa]) (hg : Gl X "range" := by rfl) (hs : starEach [a] X.env = [(false, eval a X.env)] := by rfl) : LI X Wx tg (.Call (.Name "range" p) [a] [] pos) (wRng1 wa) :=
  PI.weak (pi_range1 hg hm ha hs) fun σ H R ⟨ρ, μ, E, S, h⟩ => by
    refine lW.bind (w := wArgs [wa]) E S h (fun xs μ1 vs H1 F1 S1 E1 r1 h1 => ?_) fun _ _ _ h => h
    obtain ⟨j, rfl, h2, h3, q⟩ := fRng1_inv h1
    obtain ⟨v, rfl, r⟩ := rps1 r1
    rw [rp_int r]
    exact ⟨j, rfl, h2, h3, q _ H1 F1 S1 itOk_rng⟩
def fRng2 (ds : List D) (μ : Mu) (Q : List D → (Mu → Prop) → Mu → Prop) : Prop := match ds with
  | [.int i, .int j] => (-(2 ^ 62) ≤ i ∧ i < 2 ^ 62 ∧ -(2 ^ 62) ≤ j ∧ j < 2 ^ 62) ∧ Q (rangeD i (j - i).toNat) (fun _ => True) μ
  | _ => False
theorem fRng2_int {i j : Int} {μ : Mu} {Q : List D → (Mu → Prop) → Mu → Prop} : fRng2 [.int i, .int j] μ Q = ((-(2 ^ 62) ≤ i ∧ i < 2 ^ 62 ∧ -(2 ^ 62) ≤ j ∧ j < 2 ^ 62) ∧ Q (rangeD i (j - i).toNat) (fun _ => True) μ) := rfl
theorem fRng2_inv {ds : List D} {μ : Mu} {Q : List D → (Mu → Prop) → Mu → Prop} (h : fRng2 ds μ Q) : ∃ i j, ds = [.int i, .int j] ∧ (-(2 ^ 62) ≤ i ∧ i < 2 ^ 62 ∧ -(2 ^ 62) ≤ j ∧ j < 2 ^ 62) ∧ Q (rangeD i (j - i).toNat) (fun _ => True) μ := by
  unfold fRng2 at h
  split at h
  · exact ⟨_, _, rfl, h⟩
  · exact h.elim
def wRng2 (a b : WE) : WI := ⟨fun ρ μ Q X => runAll [a, b] ρ μ (fun ds μ1 => fRng2 ds μ1 Q) X, fun hQ hX h => runAll_mono (fun _ _ h => by
  obtain ⟨i, j, rfl, h1, q⟩ := fRng2_inv h
  exact ⟨h1, hQ _ _ _ q⟩) hX h⟩
theorem wRng2_run {a b : WE} {ρ : Ev} {μ : Mu} {Q : List D → (Mu → Prop) → Mu → Prop} {X : XQ} : (wRng2 a b).run ρ μ Q X = runAll [a, b] ρ μ (fun ds μ1 => fRng2 ds μ1 Q) X := rfl
theorem li_rng2 {tg a b : Expr} {wa wb : WE} {p pos : Pos} (hm : X.mg "range" = none) (ha : LAs X Wx [a, b] [wa, wb]) (hg : Gl X "range" := by rfl) (hs : starEach [a, b] X.env = [(false, eval a X.env), (false, eval b X.env)] := by rfl) (hs2 : starEach [b] X.env = [(false, eval b X.env)] := by rfl) : LI X Wx tg (.Call (.Name "range" p) [a, b] [] pos) (wRng2 wa wb) :=
  PI.weak (pi_range2 hg hm ha hs hs2) fun σ H R ⟨ρ, μ, E, S, h⟩ => by
    refine lW.bind (w := wArgs [wa, wb]) E S h (fun xs μ1 vs H1 F1 S1 E1 r1 h1 => ?_) fun _ _ _ h => h
    obtain ⟨i, j, rfl, h2, q⟩ := fRng2_inv h1
    obtain ⟨v, u, rfl, r, r'⟩ := rps2 r1
    rw [rp_int r, rp_int r']
    exact ⟨i, j, rfl, h2, q _ H1 F1 S1 itOk_rng⟩

/-! ### for -/
def forW (g : WG) (b : WS) (chk : Mu → Prop) : List D → PD → Ev → Mu → Prop
  | [], D, ρ, μ => chk μ ∧ D.nx ρ μ
  | d :: ds, D, ρ, μ => chk μ ∧ g.run d ρ μ (fun ρ1 μ1 => b.run (D.turn fun ρ2 μ2 => forW g b chk ds D ρ2 μ2) ρ1 μ1) D.ex
theorem forW_nil {g : WG} {b : WS} {chk : Mu → Prop} {D : PD} {ρ : Ev} {μ : Mu} : forW g b chk [] D ρ μ = (chk μ ∧ D.nx ρ μ) := rfl
theorem forW_cons {g : WG} {b : WS} {chk : Mu → Prop} {d : Sq.D} {ds : List Sq.D} {D : PD} {ρ : Ev} {μ : Mu} : forW g b chk (d :: ds) D ρ μ = (chk μ ∧ g.run d ρ μ (fun ρ1 μ1 => b.run (D.turn fun ρ2 μ2 => forW g b chk ds D ρ2 μ2) ρ1 μ1) D.ex) := rfl
theorem forW_mono {g : WG} {b : WS} {chk : Mu → Prop} {D D' : PD} (h : D.le D') : ∀ {ds : List Sq.D} {ρ : Ev} {μ : Mu}, forW g b chk ds D ρ μ → forW g b chk ds D' ρ μ
  | [], _, _, q => ⟨q.1, h.nx _ _ q.2⟩
  | d :: ds, _, _, q => ⟨q.1, g.mono (fun _ _ q => b.mono (PD.turn_le h fun _ _ q => forW_mono h q) q) h.ex q.2⟩
/-- by an invariant over the turn's number -/
theorem forW_by {g : WG} {b : WS} {chk : Mu → Prop} {D : PD} {ds : List Sq.D} (P : Nat → Ev → Mu → Prop) (hc : ∀ i ρ μ, i ≤ ds.length → P i ρ μ → chk μ)
    (hs : ∀ i d ρ μ, ds[i]? = some d → P i ρ μ → g.run d ρ μ (fun ρ1 μ1 => b.run (D.turn fun ρ2 μ2 => P (i + 1) ρ2 μ2) ρ1 μ1) D.ex) (hd : ∀ ρ μ, P ds.length ρ μ → D.nx ρ μ) {ρ : Ev} {μ : Mu} (h0 : P 0 ρ μ) : forW g b chk ds D ρ μ := by
  have key : ∀ (n : Nat) (i : Nat) (ρ : Ev) (μ : Mu), i + n = ds.length → P i ρ μ → forW g b chk (ds.drop i) D ρ μ := by
    intro n
    induction n with
    | zero =>
      intro i ρ μ hi p
      have e : i = ds.length := by omega
      subst e
      rw [List.drop_length]
      exact ⟨hc _ _ _ (Nat.le_refl _) p, hd _ _ p⟩
    | succ n ih =>
      intro i ρ μ hi p
      have hlt : i < ds.length := by omega
      rw [List.drop_eq_getElem_cons hlt]
      refine ⟨hc _ _ _ (Nat.le_of_lt hlt) p, g.mono (fun ρ1 μ1 q => b.mono (PD.turn_le (PD.le.refl D) fun ρ2 μ2 q => ih (i + 1) ρ2 μ2 (by omega) q) q) (fun _ _ _ _ q => q) (hs i _ ρ μ (by simp [hlt]) p)⟩
  have := key ds.length 0 ρ μ (by omega) h0
  rwa [List.drop_zero] at this
def wFor (wi : WI) (g : WG) (b : WS) : WS := ⟨fun D ρ μ => wi.run ρ μ (fun ds chk μ1 => forW g b chk ds D ρ μ1) (D.ex ρ), fun h q => wi.mono (fun _ _ _ q => forW_mono h q) (fun _ _ _ q => h.ex _ _ _ _ q) q⟩
theorem wFor_run {wi : WI} {g : WG} {b : WS} {D : PD} {ρ : Ev} {μ : Mu} : (wFor wi g b).run D ρ μ = wi.run ρ μ (fun ds chk μ1 => forW g b chk ds D ρ μ1) (D.ex ρ) := rfl
theorem ls_for {tg iter : Expr} {body : List Stmt} {pos : Pos} {wi : WI} {g : WG} {wb : WS} (hp : PassesOwn (model X.prog X.w) X.A X.env X.xe) (hi : LI X Wx tg iter wi) (hg : LG X Wx tg g) (hb : LSs X Wx body wb) (hc : X.calm = true := by rfl)
    (hs : ∀ x, foldedSetIterable iter X.env x = pure x := by intro _; rfl) : LS X Wx (.For tg iter body [] pos) (wFor wi g wb) := PS.weak (ps_for hp hc hi hg hb hs) fun D σ H ⟨ρ, μ, E, S, h⟩ => by
  refine ⟨ρ, μ, E, S, wi.mono (fun ds chk μ1 q J H1 F1 S1 ok => ?_) (fun _ _ _ q => OutXE.x S E q) h⟩
  refine ⟨fun i m σ' H' => ∃ ρ' μ', i + m = ds.length ∧ EnvR X.K H' ρ' σ' ∧ Sim X.K μ' H' ∧ Fr μ1 H1 μ' H' ∧ forW g wb chk (ds.drop i) (outD X.K Wx μ H D) ρ' μ', ⟨ds.length, ρ, μ1, by omega, E.keep S F1, S1, Fr.refl _ _, by rw [List.drop_zero]; exact q⟩, ?_⟩
  rintro i m σ2 H2 ⟨ρ2, μ2, hm, E2, S2, F2, q2⟩
  by_cases hlt : i < ds.length
  · rw [List.drop_eq_getElem_cons hlt] at q2
    obtain ⟨hchk, q2⟩ := q2
    have hd : ds[i]? = some ds[i] := by simp [hlt]
    refine .inr ⟨ok.go i _ μ2 H2 hd F2 S2 hchk, fun σ' H' => ∃ m', m' < m ∧ ∃ ρ' μ', i + 1 + m' = ds.length ∧ EnvR X.K H' ρ' σ' ∧ Sim X.K μ' H' ∧ Fr μ1 H1 μ' H' ∧ forW g wb chk (ds.drop (i + 1)) (outD X.K Wx μ H D) ρ' μ', fun _ _ h => h, fun x H3 y => ?_⟩
    obtain ⟨F3, S3, r3⟩ := ok.yld i _ μ2 H2 x H3 hd F2 S2 hchk y
    refine ⟨ρ2, μ2, ds[i], E2.keep S2 F3, S3, r3, g.mono (fun ρ4 μ4 q4 σ4 H4 F4 S4 E4 => ?_) (fun _ _ _ _ h => OutXE.trans (F1.trans (F2.trans F3)) h) q2⟩
    refine ⟨ρ4, μ4, E4, S4, wb.mono ⟨?_, fun _ _ h => Out.trans (F1.trans (F2.trans (F3.trans F4))) h, fun _ _ h => OutS.trans (F1.trans (F2.trans (F3.trans F4))) h, ?_, fun _ _ _ _ h => OutXE.trans (F1.trans (F2.trans (F3.trans F4))) h⟩ q4⟩
    all_goals
      rintro ρ5 μ5 q5 σ5 H5 F5 S5 E5
      exact ⟨m - 1, by omega, ρ5, μ5, by omega, E5, S5, F2.trans (F3.trans (F4.trans F5)), q5⟩
  · have e : i = ds.length := by omega
    subst e
    rw [List.drop_length] at q2
    exact .inl ⟨ok.stop μ2 H2 F2 S2 q2.1, (show OutS X.K μ H D.nx ρ2 μ2 from q2.2) _ _ (F1.trans F2) S2 E2⟩
end
end Sq

/-! Comprehensions, methods, keywords, defs. -/
namespace Sq
open PySem PySem.Spec PyProof.Rows L2

/-! ### tuples are kept -/
def TupK (K : PySem.W.Frag) (H H' : Hp) : Prop := (∀ p vs, SqT K H p vs → SqT K H' p vs) ∧ ∀ p vs, SqR K H p vs → SqR K H' p vs
mutual
theorem Rp.keepT {K : PySem.W.Frag} {H H' : Hp} (T : TupK K H H') : ∀ (d : D) {v : V}, Rp K H d v → Rp K H' d v
  | .non, _, h => h
  | .bl _, _, h => h
  | .int _, _, h => h
  | .str _, _, h => h
  | .tup ds, _, h => by
    unfold Rp at h ⊢
    obtain ⟨p, vs, e, q, r⟩ := h
    exact ⟨p, vs, e, T.1 p vs q, Rps.keepT T ds r⟩
  | .ob _, _, h => h
  | .rls ds, _, h => by
    unfold Rp at h ⊢
    obtain ⟨p, vs, e, q, r⟩ := h
    exact ⟨p, vs, e, T.2 p vs q, Rps.keepT T ds r⟩
theorem Rps.keepT {K : PySem.W.Frag} {H H' : Hp} (T : TupK K H H') : ∀ (ds : List D) {vs : List V}, Rps K H ds vs → Rps K H' ds vs
  | [], _, h => h
  | d :: ds, _, h => by
    unfold Rps at h ⊢
    obtain ⟨w, ws, e, a, b⟩ := h
    exact ⟨w, ws, e, Rp.keepT T d a, Rps.keepT T ds b⟩
end
theorem tupK_lst {K : PySem.W.Frag} {H : Hp} {a : Addr} {vs : List V} {o : HO} (h : H a = some (.lst vs)) : TupK K H (upd H a o) := by
 refine ⟨fun p us q => ?_, fun p us q => ?_⟩
 · rcases q with (q | ⟨u, q⟩) | q
   · exact .inl (.inl (by rw [upd_ne (fun z => by rw [z, h] at q; cases q)]; exact q))
   · exact .inl (.inr ⟨u, by rw [upd_ne (fun z => by rw [z, h] at q; cases q)]; exact q⟩)
   · exact .inr q
 · rcases q with ⟨u, q⟩ | q
   · exact .inl ⟨u, by rw [upd_ne (fun z => by rw [z, h] at q; cases q)]; exact q⟩
   · exact .inr q
theorem TupK.of_fr {K : PySem.W.Frag} {μ μ' : Mu} {H H' : Hp} (S : Sim K μ H) (F : Fr μ H μ' H') : TupK K H H' := ⟨fun _ _ q => sqT_keep S F q, fun _ _ q => sqR_keep S F q⟩
theorem EnvR.keepT {K : PySem.W.Frag} {H H' : Hp} (T : TupK K H H') : ∀ {ρ : Ev} {σ : L2.St}, EnvR K H ρ σ → EnvR K H' ρ σ
  | [], _, h => h
  | e :: ρ, _, h => by
    unfold EnvR at h ⊢
    obtain ⟨s, σ', rfl, a, b⟩ := h
    refine ⟨s, σ', rfl, fun d q => ?_, EnvR.keepT T b⟩
    obtain ⟨v, h1, h2⟩ := a d q
    exact ⟨v, h1, Rp.keepT T d h2⟩
/-- a list that is not in the store is written -/
theorem sim_out {K : PySem.W.Frag} {μ : Mu} {H : Hp} {a : Addr} {vs us : List V} (S : Sim K μ H) (h : H a = some (.lst vs)) (n : μ a = none) : Sim K μ (upd H a (.lst us)) := ⟨fun b o e => by
  have hb : b ≠ a := ne_free e n
  have q := S.at_ b o e
  have ck : ∀ {c : Addr} {q : Str}, CodeK H c q → CodeK (upd H a (.lst us)) c q := fun {c q} ⟨oc, vs, e, k⟩ => ⟨oc, vs, e, by rw [upd_ne (fun z => by rw [z, h] at k; cases k)]; exact k⟩
  cases o with
  | lst ds =>
    obtain ⟨ws, h1, r⟩ := q
    exact ⟨ws, by rw [upd_ne hb]; exact h1, Rps.keepT (tupK_lst h) ds r⟩
  | exc C d =>
    obtain ⟨dx, v, h1, h2, r⟩ := q
    exact ⟨dx, v, by rw [upd_ne hb]; exact h1, by rw [upd_ne (fun z => by rw [z, h] at h2; cases h2)]; exact h2, Rp.keepT (tupK_lst h) d r⟩
  | dct ks ds =>
    obtain ⟨ws, h1, hl, r⟩ := q
    exact ⟨ws, by rw [upd_ne hb]; exact h1, hl, Rps.keepT (tupK_lst h) ds r⟩
  | lam t =>
    obtain ⟨pm, c', ctv, h1, k⟩ := q
    exact ⟨pm, c', ctv, by rw [upd_ne hb]; exact h1, ck k⟩
  | tab q =>
    obtain ⟨ps, h1, h2, k⟩ := q
    exact ⟨ps, by rw [upd_ne hb]; exact h1, h2, fun pos cv z => by
      obtain ⟨c, ec, kc⟩ := k pos cv z
      exact ⟨c, ec, ck kc⟩⟩⟩

/-! ### comprehensions -/
abbrev XF : XQ := fun _ _ _ => False
abbrev W0 : WX := fun _ _ _ _ => False
def wipeE (ρ : Ev) : List Nat → Ev
  | [] => ρ
  | v :: vs => (wipeE ρ vs).set v none
theorem wipe_env {K : PySem.W.Frag} {H : Hp} {ρ : Ev} {σ : L2.St} (E : EnvR K H ρ σ) : ∀ vs, EnvR K H (wipeE ρ vs) (wipe σ vs)
  | [] => E
  | v :: vs => (wipe_env E vs).wipe v none
theorem wipe_get (σ : L2.St) (j : Nat) : ∀ vs : List Nat, (wipe σ vs)[j]? = if j ∈ vs then (if j < σ.length then some none else none) else σ[j]?
  | [] => by simp [wipe]
  | v :: vs => by
    unfold wipe
    rw [List.getElem?_set, wipe_get σ j vs, wipe_length]
    by_cases h : v = j
    · subst h
      simp
    · have h' : ¬ j = v := fun e => h e.symm
      simp [h, h']
theorem wipe_set {σ : L2.St} {i : Nat} {s : Option V} {vs : List Nat} (hi : i ∈ vs) : wipe (σ.set i s) vs = wipe σ vs := by
  apply List.ext_getElem?
  intro j
  rw [wipe_get, wipe_get, List.length_set]
  by_cases h : j ∈ vs
  · simp [h]
  · have : i ≠ j := fun e => h (e ▸ hi)
    simp [h, List.getElem?_set_ne this]
theorem wipe_wipe (σ : L2.St) (vs : List Nat) : wipe (wipe σ vs) vs = wipe σ vs := by
  apply List.ext_getElem?
  intro j
  rw [wipe_get, wipe_get, wipe_length]
  by_cases h : j ∈ vs <;> simp [h]
/-- a comprehension's target: a name, or names that a tuple goes to -/
inductive CT where
  | one (i : Nat) | many (is : List Nat)
def CT.slots : CT → List Nat
  | .one i => [i]
  | .many is => is
def setAll : List Nat → List D → Ev → Option Ev
  | [], [], ρ => some ρ
  | i :: is, d :: ds, ρ => setAll is ds (ρ.set i (some d))
  | _, _, _ => none
def CT.set (t : CT) (d : D) (ρ : Ev) : Option Ev := match t with
  | .one i => some (ρ.set i (some d))
  | .many is => (match d with | .tup ds => setAll is ds ρ | _ => none)
theorem CT.set_one {i : Nat} {d : D} {ρ : Ev} : (CT.one i).set d ρ = some (ρ.set i (some d)) := rfl
theorem CT.set_many {is : List Nat} {ds : List D} {ρ : Ev} : (CT.many is).set (.tup ds) ρ = setAll is ds ρ := rfl
def gNames : List Nat → TGs
  | [] => gNil
  | i :: is => gCons (gName i) (gNames is)
def CT.tg (K : PySem.W.Frag) : CT → TG
  | .one i => gName i
  | .many is => gTup K is.length (gNames is)
theorem gNames_ok {K : PySem.W.Frag} {H : Hp} {Q : L2.St → Hp → Prop} (vs : List Nat) : ∀ {is : List Nat} {ds : List D} {us : List V} {ρ ρ1 : Ev} {σ : L2.St}, (∀ i ∈ is, i ∈ vs) → Rps K H ds us → EnvR K H ρ σ → setAll is ds ρ = some ρ1 →
    (∀ σ1, EnvR K H ρ1 σ1 → wipe σ1 vs = wipe σ vs → Q σ1 H) → gNames is us σ H Q
  | [], [], _, _, _, _, _, R, E, h, k => by
    unfold Rps at R
    cases h
    exact ⟨R, k _ E rfl⟩
  | i :: is, d :: ds, _, _, _, _, hi, R, E, h, k => by
    unfold Rps at R
    obtain ⟨w, ws, rfl, r1, r2⟩ := R
    refine ⟨w, ws, rfl, gNames_ok vs (fun j hj => hi j (List.mem_cons_of_mem _ hj)) r2 (E.set r1 i) h fun σ1 E1 e => k σ1 E1 ?_⟩
    rw [e, wipe_set (hi i List.mem_cons_self)]
  | [], _ :: _, _, _, _, _, _, _, _, h, _ => by cases h
  | _ :: _, [], _, _, _, _, _, _, _, h, _ => by cases h
theorem setAll_len : ∀ {is : List Nat} {ds : List D} {ρ ρ1 : Ev}, setAll is ds ρ = some ρ1 → ds.length = is.length
  | [], [], _, _, _ => rfl
  | _ :: is, _ :: ds, _, _, h => by simp [setAll_len (is := is) (ds := ds) h]
  | [], _ :: _, _, _, h => by cases h
  | _ :: _, [], _, _, h => by cases h
theorem CT.ok {K : PySem.W.Frag} {H : Hp} {Q : L2.St → Hp → Prop} {t : CT} {d : D} {v : V} {ρ ρ1 : Ev} {σ : L2.St} (R : Rp K H d v) (E : EnvR K H ρ σ) (h : t.set d ρ = some ρ1) (k : ∀ σ1, EnvR K H ρ1 σ1 → wipe σ1 t.slots = wipe σ t.slots → Q σ1 H) : t.tg K v σ H Q := by
  cases t with
  | one i =>
    cases h
    exact k _ (E.set R i) (wipe_set (by simp [CT.slots]))
  | many is =>
    cases d <;> first
      | (unfold CT.set at h; cases h; done)
      | (obtain ⟨p, us, rfl, q, r⟩ := rp_tup R
         exact ⟨p, us, rfl, q, by rw [r.length]; exact setAll_len h, gNames_ok is (fun _ h => h) r E h k⟩)
def lcG (t : CT) (tt : WT) (te : WE) (chk : Mu → Prop) : List D → List D → Ev → Mu → (List D → Mu → Prop) → Prop
  | [], acc, _, μ, k => chk μ ∧ k acc μ
  | d :: ds, acc, ρ, μ, k => chk μ ∧ (match t.set d ρ with
    | some ρ1 => tt.run ρ1 μ (fun b μ1 => if b = true then te.run ρ1 μ1 (fun y μ2 => lcG t tt te chk ds (acc ++ [y]) ρ μ2 k) XF else lcG t tt te chk ds acc ρ μ1 k) XF
    | none => False)
theorem lcG_nil {t : CT} {tt : WT} {te : WE} {chk : Mu → Prop} {acc : List D} {ρ : Ev} {μ : Mu} {k : List D → Mu → Prop} : lcG t tt te chk [] acc ρ μ k = (chk μ ∧ k acc μ) := rfl
theorem lcG_cons {t : CT} {tt : WT} {te : WE} {chk : Mu → Prop} {d : D} {ds acc : List D} {ρ : Ev} {μ : Mu} {k : List D → Mu → Prop} : lcG t tt te chk (d :: ds) acc ρ μ k = (chk μ ∧ (match t.set d ρ with
    | some ρ1 => tt.run ρ1 μ (fun b μ1 => if b = true then te.run ρ1 μ1 (fun y μ2 => lcG t tt te chk ds (acc ++ [y]) ρ μ2 k) XF else lcG t tt te chk ds acc ρ μ1 k) XF
    | none => False)) := rfl
theorem lcG_mono {t : CT} {tt : WT} {te : WE} {chk : Mu → Prop} {k k' : List D → Mu → Prop} (hk : ∀ acc μ, k acc μ → k' acc μ) : ∀ {ds acc : List D} {ρ : Ev} {μ : Mu}, lcG t tt te chk ds acc ρ μ k → lcG t tt te chk ds acc ρ μ k'
  | [], _, _, _, h => ⟨h.1, hk _ _ h.2⟩
  | d :: ds, acc, ρ, μ, h => by
    refine ⟨h.1, ?_⟩
    have h2 := h.2
    revert h2
    cases t.set d ρ with
    | none => exact id
    | some ρ1 =>
      exact fun h2 => tt.mono (fun b μ1 q => by
        cases b with
        | true => exact te.mono (fun y μ2 q => lcG_mono hk q) (fun _ _ _ q => q) q
        | false => exact lcG_mono hk q) (fun _ _ _ q => q) h2
def wLc (wi : WI) (t : CT) (tt : WT) (te : WE) : WE := ⟨fun ρ μ Q X => wi.run ρ μ (fun ds chk μ1 => ds.length ≤ sizeLine ∧ lcG t tt te chk ds [] (wipeE ρ t.slots) μ1 fun acc μ2 => ∀ p, μ2 p = none → Q (.ob p) (mset μ2 p (.lst acc))) X,
  fun hQ hX h => wi.mono (fun _ _ _ q => ⟨q.1, lcG_mono (fun _ _ q p hp => hQ _ _ (q p hp)) q.2⟩) hX h⟩
theorem wLc_run {wi : WI} {t : CT} {tt : WT} {te : WE} {ρ : Ev} {μ : Mu} {Q : PQ} {X : XQ} : (wLc wi t tt te).run ρ μ Q X = wi.run ρ μ (fun ds chk μ1 => ds.length ≤ sizeLine ∧ lcG t tt te chk ds [] (wipeE ρ t.slots) μ1 fun acc μ2 => ∀ p, μ2 p = none → Q (.ob p) (mset μ2 p (.lst acc))) X := rfl
/-- no test -/
def wYes : WT := ⟨fun _ μ Q _ => Q true μ, fun hQ _ h => hQ _ _ h⟩
theorem wYes_run {ρ : Ev} {μ : Mu} {Q : Bool → Mu → Prop} {X : XQ} : wYes.run ρ μ Q X = Q true μ := rfl
def LPs (X : Cx) (ifs : List Expr) (w : WT) : Prop := PTs X ifs (lT X.K W0 w)
theorem lps_nil {X : Cx} : LPs X [] wYes := ⟨fun pins s σ H Q I ⟨ρ, μ, E, S, h⟩ => pts_nil.run pins s σ H Q I ((show Out (fun (_ : Hp) (b c : Bool) => b = c) X.K μ H Q true μ from h) _ _ (Fr.refl μ H) S rfl)⟩
theorem lps_one {X : Cx} {c : Expr} {w : WT} (h : LT X W0 c w) : LPs X [c] w := pts_one h
section
variable {X : Cx} {Wx : WX}
theorem wLc_t {wi : WI} {t : CT} {tt : WT} {te : WE} {vs : List Nat} {P : L2.St → L2.St → Prop} (hv : vs = t.slots) (hP : ∀ σ σ2, wipe σ2 vs = wipe σ vs → P σ σ2) : ∀ σ H Q, lE X.K Wx (wLc wi t tt te) σ H Q →
    tLc (fun σ H R => ∃ ρ μ, EnvR X.K H ρ σ ∧ Sim X.K μ H ∧ wi.run ρ μ (fun ds chk μ1 => ∀ J H1, Fr μ H μ1 H1 → Sim X.K μ1 H1 → ItOk X.K μ1 H1 J ds chk → R J H1) (OutX X.K Wx σ μ H)) (t.tg X.K) (lT X.K W0 tt) (fun σ2 H2 Q2 => P σ σ2 ∧ lE X.K W0 te σ2 H2 Q2) vs σ H Q := fun σ H Q ⟨ρ, μ, E, S, h⟩ => by
  subst hv
  refine ⟨ρ, μ, E, S, wi.mono (fun ds chk μ1 q J H1 F1 S1 ok D hD => ?_) (fun _ _ _ q => q) h⟩
  obtain ⟨hlen, q⟩ := q
  have Ew : EnvR X.K H1 (wipeE ρ t.slots) (wipe σ t.slots) := wipe_env (E.keep S F1) _
  have nD : μ1 D = none := S1.free hD
  refine ⟨fun i m H' => ∃ acc vacc μ', i + m = ds.length ∧ acc.length ≤ i ∧ Sim X.K μ' H' ∧ Fr μ1 H1 μ' H' ∧ H' D = some (.lst vacc) ∧ μ' D = none ∧ Rps X.K H' acc vacc ∧ lcG t tt te chk (ds.drop i) acc (wipeE ρ t.slots) μ' fun acc μ2 => ∀ p, μ2 p = none → Out (Rp X.K) X.K μ H Q (.ob p) (mset μ2 p (.lst acc)),
    ⟨ds.length, [], [], μ1, by omega, Nat.le_refl _, sim_tup S1 hD, fr_tup hD, upd_same, nD, rfl, by rw [List.drop_zero]; exact q⟩, ?_⟩
  rintro i m H2 ⟨acc, vacc, μ2, hm, hl, S2, F2, hD2, nD2, R2, q2⟩
  by_cases hlt : i < ds.length
  · rw [List.drop_eq_getElem_cons hlt] at q2
    obtain ⟨hchk, q2⟩ := q2
    have hd : ds[i]? = some ds[i] := by simp [hlt]
    refine .inr ⟨ok.go i _ μ2 H2 hd F2 S2 hchk, fun H' => ∃ m', m' < m ∧ ∃ acc vacc μ', i + 1 + m' = ds.length ∧ acc.length ≤ i + 1 ∧ Sim X.K μ' H' ∧ Fr μ1 H1 μ' H' ∧ H' D = some (.lst vacc) ∧ μ' D = none ∧ Rps X.K H' acc vacc ∧ lcG t tt te chk (ds.drop (i + 1)) acc (wipeE ρ t.slots) μ' fun acc μ2 => ∀ p, μ2 p = none → Out (Rp X.K) X.K μ H Q (.ob p) (mset μ2 p (.lst acc)), fun _ h => h, fun x H3 y => ?_⟩
    obtain ⟨F3, S3, r3⟩ := ok.yld i _ μ2 H2 x H3 hd F2 S2 hchk y
    have Ew3 : EnvR X.K H3 (wipeE ρ t.slots) (wipe σ t.slots) := (Ew.keep S1 F2).keep S2 F3
    cases hset : t.set ds[i] (wipeE ρ t.slots) with
    | none => rw [hset] at q2; exact q2.elim
    | some ρ1 =>
      rw [hset] at q2
      refine CT.ok r3 Ew3 hset fun σ1 E1 ew => ?_
      have ew2 : wipe σ1 t.slots = wipe σ t.slots := by rw [ew, wipe_wipe]
      refine ⟨ew2, ?_⟩
      have hD3 := F3 D _ hD2 (fun _ z => by cases z) nD2
      refine lW.bind E1 S3 q2 (fun b μ4 b' H4 F4 S4 E4 r4 q4 => ?_) fun _ _ _ z => z.elim
      subst r4
      have hD4 := F4 D _ hD3.1 (fun _ z => by cases z) hD3.2
      have R4 : Rps X.K H4 acc vacc := Rps.keep S3 F4 acc (Rps.keep S2 F3 acc R2)
      cases b with
      | false => exact iteF ⟨m - 1, by omega, acc, vacc, μ4, by omega, by omega, S4, F2.trans (F3.trans F4), hD4.1, hD4.2, R4, q4⟩
      | true =>
        refine iteT ⟨hP σ σ1 ew2, lW.bind E4 S4 q4 (fun y μ5 v5 H5 F5 S5 E5 r5 q5 => ?_) fun _ _ _ z => z.elim⟩
        have hD5 := F5 D _ hD4.1 (fun _ z => by cases z) hD4.2
        have R5 : Rps X.K H5 acc vacc := Rps.keep S4 F5 acc R4
        refine ⟨vacc, hD5.1, by rw [R5.length]; omega, m - 1, by omega, acc ++ [y], vacc ++ [v5], μ5, by omega, by rw [List.length_append]; exact Nat.succ_le_succ hl, sim_out S5 hD5.1 hD5.2, ?_, upd_same, hD5.2, ?_, q5⟩
        · have FF := F2.trans (F3.trans (F4.trans F5))
          intro b o e n z
          have := FF b o e n z
          exact ⟨by rw [upd_ne (ne_of_none e hD)]; exact this.1, this.2⟩
        · exact Rps.keepT (tupK_lst hD5.1) _ (R5.append (by unfold Rps; exact ⟨_, _, rfl, r5, rfl⟩))
  · have e : i = ds.length := by omega
    subst e
    rw [List.drop_length] at q2
    obtain ⟨hchk, q2⟩ := q2
    refine .inl ⟨ok.stop μ2 H2 F2 S2 hchk, q2 D nD2 (.ref D) H2 ?_ ⟨fun b o e => ?_⟩ rfl⟩
    · intro b o e n z
      have h1 := F1 b o e n z
      have h2 := F2 b o h1.1 n h1.2
      exact ⟨h2.1, by rw [mset_ne (ne_of_none h1.1 hD)]; exact h2.2⟩
    · by_cases hb : b = D
      · subst hb
        rw [mset_same] at e; cases e
        exact ⟨vacc, hD2, R2⟩
      · rw [mset_ne hb] at e
        exact S2.at_ b o e
theorem le_lc {elt tg iter : Expr} {ifs : List Expr} {scope : Scope} {own : List (Str × Nat)} {pos : Pos} {wi : WI} {t : CT} {tt : WT} {te : WE} (hN : X.N.Nodup) (hi : LI X Wx tg iter wi) (ok : BlkOk X.N X.env.scope scope own) (hv : own.map (·.2) = t.slots)
    (hg : ∀ (s : Shared) (H : Hp) (C : Addr) (cl : List (Str × Addr)) (fp : List Addr), PG (X.blk s H scope (compEnvC scope cl C X.env) fp) tg (t.tg X.K)) (ht : ∀ (s : Shared) (H : Hp) (C : Addr) (cl : List (Str × Addr)) (fp : List Addr), LPs (X.blk s H scope (compEnvC scope cl C X.env) fp) ifs tt)
    (he : ∀ (s : Shared) (H : Hp) (C : Addr) (cl : List (Str × Addr)) (fp : List Addr), LE (X.blk s H scope (compEnvC scope cl C X.env) fp) W0 elt te) (hc : X.calm = true := by rfl) (hs : ∀ x, foldedSetIterable iter X.env x = pure x := by intro _; rfl) :
    LE X Wx (.ListComp elt [⟨tg, iter, ifs, 0⟩] scope pos) (wLc wi t tt te) := PE.weak (pe_lc (tt := lT X.K W0 tt) (te := fun σ2 H2 Q2 => True ∧ lE X.K W0 te σ2 H2 Q2) hc hN hi ok hg ht (fun s H C cl fp => PE.weak (he s H C cl fp) fun _ _ _ q => q.2) hs) (wLc_t (P := fun _ _ => True) hv fun _ _ _ => trivial)
/-- name = [..] of a plain local name -/
theorem ls_setLc (i : Nat) {y : Str} {py : Pos} {elt tg iter : Expr} {ifs : List Expr} {scope : Scope} {own : List (Str × Nat)} {pos spos : Pos} {wi : WI} {t : CT} {tt : WT} {te : WE} (hN : X.N.Nodup) (hi : LI X Wx tg iter wi) (ok : BlkOk X.N X.env.scope scope own) (hv : own.map (·.2) = t.slots)
    (hg : ∀ (s : Shared) (H : Hp) (C : Addr) (cl : List (Str × Addr)) (fp : List Addr), PG (X.blk s H scope (compEnvC scope cl C X.env) fp) tg (t.tg X.K)) (ht : ∀ (s : Shared) (H : Hp) (C : Addr) (cl : List (Str × Addr)) (fp : List Addr), LPs (X.blk s H scope (compEnvC scope cl C X.env) fp) ifs tt)
    (he : ∀ (s : Shared) (H : Hp) (C : Addr) (cl : List (Str × Addr)) (fp : List Addr), LE (X.blk s H scope (compEnvC scope cl C X.env) fp) W0 elt te)
    (hsw : swapsWith (.ListComp elt [⟨tg, iter, ifs, 0⟩] scope pos) (some (.Name y py)) spos.line X.env = pure true := by exact sw_true rfl rfl rfl (by decide +kernel)) (hy : X.N[i]? = some y := by rfl) (hyl : X.env.scope.names.lookup y = some .local := by rfl) (hc : X.calm = true := by rfl) (hs : ∀ x, foldedSetIterable iter X.env x = pure x := by intro _; rfl) :
    LS X Wx (.Assign [.Name y py] (.ListComp elt [⟨tg, iter, ifs, 0⟩] scope pos) spos) (wSet i (wLc wi t tt te)) := PS.weak (ps_setLc (tt := lT X.K W0 tt) (te := fun σ2 H2 Q2 => True ∧ lE X.K W0 te σ2 H2 Q2) hc hN hy hyl hsw hi ok hg ht (fun s H C cl fp => PE.weak (he s H C cl fp) fun _ _ _ q => q.2) hs) fun D σ H h => by
  obtain ⟨ρ, μ, E, S, h⟩ := h
  refine wLc_t (Wx := Wx) (P := fun _ _ => True) hv (fun _ _ _ => trivial) σ H _ ⟨ρ, μ, E, S, ?_⟩
  exact (wLc wi t tt te).mono (Q := fun d μ1 => OutS X.K μ H D.nx (ρ.set i (some d)) μ1) (fun x μ1 q v H1 F1 S1 r1 => q _ _ F1 S1 ((E.keep S F1).set r1 i)) (fun _ _ _ q => OutXE.x S E q) h
/-- the target's places -/
theorem pg_one {X : Cx} (i : Nat) {x : Str} {pos : Pos} {K : PySem.W.Frag} (hN : X.N.Nodup) (hi : X.N[i]? = some x := by rfl) (hx : Loc X.env.scope x := by first | exact Or.inl rfl | exact Or.inr rfl) (hf : X.fn x = true ∨ X.env.scope.names.lookup x = some .local := by first | exact .inl rfl | exact .inr rfl) : PG X (.Name x pos) ((CT.one i).tg K) := pg_name hN hi hx hf
theorem pg_many {X : Cx} {es : List Expr} {k : Nat} {pos : Pos} {is : List Nat} (h : PGs X es (gNames is)) (hc : X.calm = true := by rfl) (hn : (assignEach es X.env).length = is.length := by rfl) (hst : (assignEach es X.env).findIdx? (·.1) = none := by rfl) : PG X (.Tuple es k pos) ((CT.many is).tg X.K) := pg_tup hc h hn hst
theorem pgn_nil {X : Cx} : PGs X [] (gNames []) := pgs_nil
theorem pgn_cons {X : Cx} (i : Nat) {x : Str} {pos : Pos} {es : List Expr} {is : List Nat} (hN : X.N.Nodup) (h : PGs X es (gNames is)) (hi : X.N[i]? = some x := by rfl) (hx : Loc X.env.scope x := by first | exact Or.inl rfl | exact Or.inr rfl) (hf : X.fn x = true ∨ X.env.scope.names.lookup x = some .local := by first | exact .inl rfl | exact .inr rfl)
    (hs : (assignEach (.Name x pos :: es) X.env).map (·.2) = assign (.Name x pos) X.env :: (assignEach es X.env).map (·.2) := by rfl) : PGs X (.Name x pos :: es) (gNames (i :: is)) := pgs_cons (pg_name hN hi hx hf) h hs

/-! ### methods of lists -/
structure GM where
  run : Addr → List D → List D → Mu → PQ → Prop
  mono : ∀ {a xs ds μ Q Q'}, (∀ d μ', Q d μ' → Q' d μ') → run a xs ds μ Q → run a xs ds μ Q'
/-- of the list xs at a with the arguments ds -/
def MtD (X : Cx) (id : String) (g : GM) : Prop := ∃ r : V → List V → Hp → VK → Prop, MtR X id r ∧ ∀ a xs ds μ H vs Q, Sim X.K μ H → μ a = some (.lst xs) → Rps X.K H ds vs → g.run a xs ds μ (Out (Rp X.K) X.K μ H Q) → r (.ref a) vs H Q
def onLst (x : D) (μ : Mu) (f : Addr → List D → Prop) : Prop := match x with
  | .ob a => (match μ a with | some (.lst xs) => f a xs | _ => False)
  | _ => False
theorem onLst_ob {a : Addr} {μ : Mu} {f : Addr → List D → Prop} : onLst (.ob a) μ f = (match μ a with | some (.lst xs) => f a xs | _ => False) := rfl
theorem onLst_inv {x : D} {μ : Mu} {f : Addr → List D → Prop} (h : onLst x μ f) : ∃ a xs, x = .ob a ∧ μ a = some (.lst xs) ∧ f a xs := by
  unfold onLst at h
  split at h
  · split at h
    · exact ⟨_, _, rfl, by assumption, h⟩
    · exact h.elim
  · exact h.elim
theorem onLst_mk {a : Addr} {xs : List D} {μ : Mu} {f : Addr → List D → Prop} (h : μ a = some (.lst xs)) (q : f a xs) : onLst (.ob a) μ f := by
  rw [onLst_ob, h]
  exact q
theorem onLst_mono {x : D} {μ : Mu} {f f' : Addr → List D → Prop} (h : ∀ a xs, f a xs → f' a xs) (q : onLst x μ f) : onLst x μ f' := by
  obtain ⟨a, xs, rfl, e, q⟩ := onLst_inv q
  exact onLst_mk e (h _ _ q)
def wMt (g : GM) (wo : WE) (ws : List WE) : WE := ⟨fun ρ μ Q X => wo.run ρ μ (fun o μ1 => onLst o μ1 fun a _ => runAll ws ρ μ1 (fun ds μ2 => onLst (.ob a) μ2 fun a xs => g.run a xs ds μ2 Q) X) X,
  fun hQ hX h => wo.mono (fun _ _ h => onLst_mono (fun _ _ h => runAll_mono (fun _ _ h => onLst_mono (fun _ _ h => g.mono hQ h) h) hX h) h) hX h⟩
theorem wMt_run {g : GM} {wo : WE} {ws : List WE} {ρ : Ev} {μ : Mu} {Q : PQ} {X : XQ} : (wMt g wo ws).run ρ μ Q X = wo.run ρ μ (fun o μ1 => onLst o μ1 fun a _ => runAll ws ρ μ1 (fun ds μ2 => onLst (.ob a) μ2 fun a xs => g.run a xs ds μ2 Q) X) X := rfl
theorem le_mt {g : GM} {name : Str} {id : String} {o e : Expr} {es : List Expr} {apos cpos : Pos} {wo : WE} {ws : List WE} (slot : Slot "list" name id) (hty : typeOf (.builtin id) = pure (.type "method_descriptor")) (hm : MtD X id g) (ho : LE X Wx o wo) (ha : LAs X Wx (e :: es) ws)
    (hb : ∀ {to : TE} {t : TA} {r : V → List V → Hp → VK → Prop}, MtR X id r → PE X o to → PA X (e :: es) t → PE X (.Call (.Attribute o name apos) (e :: es) [] cpos) (tBM X.K "list" r to t)) : LE X Wx (.Call (.Attribute o name apos) (e :: es) [] cpos) (wMt g wo ws) := by
  obtain ⟨r, h1, h2⟩ := hm
  refine PE.weak (hb h1 ho ha) fun σ H Q ⟨ρ, μ, E, S, h⟩ => ?_
  refine lW.bind E S h (fun x μ1 v H1 F1 S1 E1 r1 q1 => ?_) fun _ _ _ h => h
  obtain ⟨a, xs, rfl, ea, q1⟩ := onLst_inv q1
  rw [rp_ob r1]
  obtain ⟨vs, hv, _⟩ := S1.lst ea
  refine ⟨.inl ⟨rfl, _, SqL.of hv⟩, ?_⟩
  refine lW.bind (w := wArgs ws) E1 S1 q1 (fun ds μ2 us H2 F2 S2 E2 r2 q2 => ?_) fun _ _ _ h => OutX.trans F1 h
  obtain ⟨a', xs', e', ea', q2⟩ := onLst_inv q2
  cases e'
  exact h2 a xs' ds μ2 H2 us Q S2 ea' r2 (g.mono (fun _ _ q => q.trans (F1.trans F2)) q2)
def fAppend (a : Addr) (xs ds : List D) (μ : Mu) (Q : PQ) : Prop := match ds with | [y] => xs.length < sizeLine ∧ Q .non (mset μ a (.lst (xs ++ [y]))) | _ => False
theorem fAppend_run {a : Addr} {xs : List D} {y : D} {μ : Mu} {Q : PQ} : fAppend a xs [y] μ Q = (xs.length < sizeLine ∧ Q .non (mset μ a (.lst (xs ++ [y])))) := rfl
theorem fAppend_inv {a : Addr} {xs ds : List D} {μ : Mu} {Q : PQ} (h : fAppend a xs ds μ Q) : ∃ y, ds = [y] ∧ xs.length < sizeLine ∧ Q .non (mset μ a (.lst (xs ++ [y]))) := by
  unfold fAppend at h
  split at h
  · exact ⟨_, rfl, h⟩
  · exact h.elim
def gAppend : GM := ⟨fAppend, fun {a xs ds μ Q Q'} hQ h => by
  obtain ⟨y, rfl, h1, h2⟩ := fAppend_inv h
  exact ⟨h1, hQ _ _ h2⟩⟩
theorem md_append : MtD X "list.append" gAppend := ⟨rAppend, mt_append, fun a xs ds μ H vs Q S ea R h => by
  obtain ⟨y, rfl, h1, h2⟩ := fAppend_inv h
  obtain ⟨v, rfl, r⟩ := rps1 R
  obtain ⟨us, hv, r2⟩ := S.lst ea
  have F : Fr μ H (mset μ a (.lst (xs ++ [y]))) (upd H a (.lst (us ++ [v]))) := fr_set ea
  exact ⟨a, us, v, rfl, rfl, hv, by rw [r2.length]; exact h1, h2 _ _ F (sim_lst S F (r2.append (by unfold Rps; exact ⟨_, _, rfl, r, rfl⟩))) rfl⟩⟩
def fExtend (a : Addr) (xs ds : List D) (μ : Mu) (Q : PQ) : Prop := match ds with | [y] => onLst y μ (fun _ zs => xs.length + zs.length ≤ sizeLine ∧ Q .non (mset μ a (.lst (xs ++ zs)))) | _ => False
theorem fExtend_run {a : Addr} {xs : List D} {y : D} {μ : Mu} {Q : PQ} : fExtend a xs [y] μ Q = onLst y μ (fun _ zs => xs.length + zs.length ≤ sizeLine ∧ Q .non (mset μ a (.lst (xs ++ zs)))) := rfl
theorem fExtend_inv {a : Addr} {xs ds : List D} {μ : Mu} {Q : PQ} (h : fExtend a xs ds μ Q) : ∃ b zs, ds = [.ob b] ∧ μ b = some (.lst zs) ∧ xs.length + zs.length ≤ sizeLine ∧ Q .non (mset μ a (.lst (xs ++ zs))) := by
  unfold fExtend at h
  split at h
  · obtain ⟨b, zs, rfl, e, q⟩ := onLst_inv h
    exact ⟨b, zs, rfl, e, q⟩
  · exact h.elim
def gExtend : GM := ⟨fExtend, fun {a xs ds μ Q Q'} hQ h => by
  obtain ⟨b, zs, rfl, e, h1, h2⟩ := fExtend_inv h
  exact onLst_mk (f := fun _ zs => xs.length + zs.length ≤ sizeLine ∧ Q' .non (mset μ a (.lst (xs ++ zs)))) e ⟨h1, hQ _ _ h2⟩⟩
theorem md_extend : MtD X "list.extend" gExtend := ⟨rExtend, mt_extend, fun a xs ds μ H vs Q S ea R h => by
  obtain ⟨b, zs, rfl, e, h1, h2⟩ := fExtend_inv h
  obtain ⟨v, rfl, r⟩ := rps1 R
  obtain ⟨us, hv, r2⟩ := S.lst ea
  obtain ⟨us', hv', r2'⟩ := S.lst e
  have F : Fr μ H (mset μ a (.lst (xs ++ zs))) (upd H a (.lst (us ++ us'))) := fr_set ea
  exact ⟨a, b, us, us', rfl, by rw [rp_ob r], hv, hv', by rw [r2.length, r2'.length]; exact h1, h2 _ _ F (sim_lst S F (r2.append r2')) rfl⟩⟩
theorem le_append {o e : Expr} {apos cpos : Pos} {wo we : WE} (ho : LE X Wx o wo) (ha : LAs X Wx [e] [we])
    (hb : ∀ {to : TE} {t : TA} {r : V → List V → Hp → VK → Prop}, MtR X "list.append" r → PE X o to → PA X [e] t → PE X (.Call (.Attribute o "append" apos) [e] [] cpos) (tBM X.K "list" r to t) := by exact fun h1 h2 h3 => pe_bm PySem.F.plainAttrs_list PySem.F.slot_list_append PySem.F.type_list_append h1 h2 h3) : LE X Wx (.Call (.Attribute o "append" apos) [e] [] cpos) (wMt gAppend wo [we]) :=
  le_mt PySem.F.slot_list_append PySem.F.type_list_append md_append ho ha hb
theorem le_extend {o e : Expr} {apos cpos : Pos} {wo we : WE} (ho : LE X Wx o wo) (ha : LAs X Wx [e] [we])
    (hb : ∀ {to : TE} {t : TA} {r : V → List V → Hp → VK → Prop}, MtR X "list.extend" r → PE X o to → PA X [e] t → PE X (.Call (.Attribute o "extend" apos) [e] [] cpos) (tBM X.K "list" r to t) := by exact fun h1 h2 h3 => pe_bm PySem.F.plainAttrs_list PySem.F.slot_list_extend PySem.F.type_list_extend h1 h2 h3) : LE X Wx (.Call (.Attribute o "extend" apos) [e] [] cpos) (wMt gExtend wo [we]) :=
  le_mt PySem.F.slot_list_extend PySem.F.type_list_extend md_extend ho ha hb
end
end Sq

/-! Keywords, defs, further statements. -/
namespace Sq
open PySem PySem.Spec PyProof.Rows L2
section
variable {X : Cx} {Wx : WX}
/-! ### keywords, in the parameters' order -/
def LKs (X : Cx) (Wx : WX) (kws : List Keyword) (ws : List WE) : Prop := PK X kws (lA X.K Wx (wArgs ws))
theorem PK.weak {kws : List Keyword} {t t' : TA} (h : PK X kws t) (hw : ∀ σ H Q, t' σ H Q → t σ H Q) : PK X kws t' := ⟨fun pos pins s σ H Q I q => h.run pos pins s σ H Q I (hw σ H Q q)⟩
theorem lk_nil : LKs X Wx [] [] := PK.weak pk_nil fun σ H Q ⟨ρ, μ, E, S, h⟩ => (show Out (Rps X.K) X.K μ H Q [] μ from h) _ _ (Fr.refl μ H) S rfl
theorem lk_cons {nm : Option Str} {e : Expr} {kpos : Pos} {kws : List Keyword} {w : WE} {ws : List WE} (ha : LE X Wx e w) (hr : LKs X Wx kws ws) : LKs X Wx (⟨nm, e, kpos⟩ :: kws) (w :: ws) :=
  PK.weak (pk_cons ha hr) fun σ H Q ⟨ρ, μ, E, S, h⟩ => by
    refine lW.bind (w := w) E S h (fun x μ1 v H1 F1 S1 E1 r1 h1 => ?_) fun _ _ _ h => h
    refine lW.bind (w := wArgs ws) E1 S1 h1 (fun xs μ2 vs H2 F2 S2 E2 r2 h2 => ?_) fun _ _ _ h => h.trans F1
    exact h2 _ _ (F1.trans F2) S2 (by unfold Rps; exact ⟨_, _, rfl, Rp.keep S1 F2 x r1, r2⟩)
def tCallKS (sp : Sp) (E : L2.St → XK) (n m : Nat) (t tk : TA) : TE := fun σ H Q => t σ H fun vs H1 => tk σ H1 fun zs H2 => vs.length = n ∧ zs.length = m ∧ sp (vs ++ zs) H2 Q (E σ)
/-- f(e, .., k = v, ..): n by position -/
theorem pe_runK {k n : Nat} {f : Addr} {fd : FuncData} {ps : List Str} {sp : Sp} {E : L2.St → XK} {x : Str} {p pos : Pos} {e : Expr} {es : List Expr} {kws : List Keyword} {t tk : TA} (F : RunOk X.prog X.w X.K X.mg X.base k f fd ps sp) (hgd : X.A.guards = some []) (hr : Room k X.A) (hg : Gl X x) (hm : X.mg x = some (.ref f)) (hk : PySem.W.keepIn X.K (.ref f) = true) (hb : KB X.K fd ps n) (hx : ∀ σ, PassesAt (L2.CX X.prog X.w) X σ (E σ))
    (ha : PA X (e :: es) t) (hkw : PK X kws tk) (hall : (backToKw pos (keywordEach kws X.env)).all (·.1.isSome) = true) (hks : (backToKw pos (keywordEach kws X.env)).filterMap (·.1) = ps.drop n)
    (hn : n ≤ ps.length) (hdb : (x == ("__debug__" : Str)) = false) (he : starEach (e :: es) X.env = (false, eval e X.env) :: starEach es X.env)
    (hpl : ((backTo pos (starEach (e :: es) X.env)).any (·.1) || (backToKw pos (keywordEach kws X.env)).any (·.1.isNone)) = false) :
    PE X (.Call (.Name x p) (e :: es) kws pos) (tCallKS sp E n (ps.length - n) t tk) := ⟨fun pins s σ H Q I h =>
  wpAny_Call_Name_kw (ld_glob I hg hm (PySem.W.callWith_KW (h₀ := X.base) I.ok.mod.kin hk hall (thn (ha.run pos pins s σ H _ I h) fun us s1 ⟨vs, H1, I1, r, q⟩ =>
    thn (hkw.run pos pins s1 σ H1 _ I1 q) fun ws s2 ⟨zs, H2, I2, rz, l1, l2, q2⟩ => ⟨I2.kIn, by
      rw [hks]
      exact run_go (args := ⟨us, (ps.drop n).zip ws⟩) F hgd hr (hx σ) I2 (hb s2 us ws I2.kIn (r.length.symm.trans l1) (by rw [← rz.length]; omega)) (r.append rz) q2⟩) hpl he) hdb)⟩
theorem pe_runK0 {k : Nat} {f : Addr} {fd : FuncData} {ps : List Str} {sp : Sp} {E : L2.St → XK} {x : Str} {p pos : Pos} {kws : List Keyword} {tk : TA} (F : RunOk X.prog X.w X.K X.mg X.base k f fd ps sp) (hgd : X.A.guards = some []) (hr : Room k X.A) (hg : Gl X x) (hm : X.mg x = some (.ref f)) (hk : PySem.W.keepIn X.K (.ref f) = true) (hb : KB X.K fd ps 0) (hx : ∀ σ, PassesAt (L2.CX X.prog X.w) X σ (E σ))
    (hkw : PK X kws tk) (hall : (backToKw pos (keywordEach kws X.env)).all (·.1.isSome) = true) (hks : (backToKw pos (keywordEach kws X.env)).filterMap (·.1) = ps)
    (hdb : (x == ("__debug__" : Str)) = false)
    (hpl : ((backTo pos (starEach [] X.env)).any (·.1) || (backToKw pos (keywordEach kws X.env)).any (·.1.isNone)) = false) :
    PE X (.Call (.Name x p) [] kws pos) (tCallKS sp E 0 ps.length tNil tk) := ⟨fun pins s σ H Q I h =>
  wpAny_Call_Name_kw (ld_glob I hg hm (PySem.W.callWith_KW0 (h₀ := X.base) I.ok.mod.kin hk hall (thn (hkw.run pos pins s σ H _ I h) fun ws s2 ⟨zs, H2, I2, rz, l1, l2, q2⟩ => ⟨I2.kIn, by
      rw [hks]
      exact run_go (args := ⟨[], ps.zip ws⟩) F hgd hr (hx σ) I2 (hb s2 [] ws I2.kIn rfl (by rw [← rz.length]; omega)) rz q2⟩) hpl) hdb)⟩
theorem wCall_k {S : SpD} {ws us : List WE} {ps : List Str} {n : Nat} (hl : ws.length = n) (hu : us.length = ps.length - n) (hn : n ≤ ps.length) : ∀ σ H Q, lE X.K Wx (wCall S (ws ++ us)) σ H Q → tCallKS (spOf X.K ps.length S) (fun σ => L2.WE Wx σ) n (ps.length - n) (lA X.K Wx (wArgs ws)) (lA X.K Wx (wArgs us)) σ H Q := fun σ H Q ⟨ρ, μ, E, S0, h⟩ => by
  have app : ∀ (ws us : List WE) (ρ : Ev) (μ : Mu) (Q : List D → Mu → Prop) (X : XQ), runAll (ws ++ us) ρ μ Q X → runAll ws ρ μ (fun ds μ1 => ds.length = ws.length ∧ runAll us ρ μ1 (fun es μ2 => es.length = us.length ∧ Q (ds ++ es) μ2) X) X := by
    intro ws
    induction ws with
    | nil => intro us ρ μ Q X h; exact ⟨rfl, runAll_len h⟩
    | cons w ws ih =>
      intro us ρ μ Q X h
      refine w.mono (fun d μ1 q => ?_) (fun _ _ _ q => q) h
      refine runAll_mono (fun ds μ2 q => ⟨by rw [List.length_cons, q.1]; rfl, q.2⟩) (fun _ _ _ q => q) (ih us ρ μ1 _ X q)
  refine lW.bind (w := wArgs ws) E S0 (app ws us ρ μ _ _ h) (fun xs μ1 vs H1 F1 S1 E1 r1 h1 => ?_) fun _ _ _ h => h
  refine lW.bind (w := wArgs us) E1 S1 h1.2 (fun ys μ2 zs H2 F2 S2 E2 r2 h2 => ?_) fun _ _ _ h => h.trans F1
  have a1 : vs.length = n := by rw [r1.length, h1.1, hl]
  have a2 : zs.length = ps.length - n := by rw [r2.length, h2.1, hu]
  refine ⟨a1, a2, by rw [List.length_append, a1, a2]; omega, xs ++ ys, μ2, (Rps.keep S1 F2 xs r1).append r2, S2, S.mono (fun _ _ q => q.trans (F1.trans F2)) (fun _ _ _ q => ?_) h2.2⟩
  exact fun dx v H' F' S' e r => q dx v H' (F1.trans (F2.trans F')) S' e r
theorem le_callK {k j : Nat} {x : Str} {p pos : Pos} {e : Expr} {es : List Expr} {kws : List Keyword} {ps : List Str} {ms : List Nat} {S : SpD} {ws us : List WE} (n : Nat) (F : FnD X.prog X.w X.K X.mg X.base j x ps ms S) (hgd : X.A.guards = some []) (hr : Room k X.A) (tk : Takes X Wx) (ha : LAs X Wx (e :: es) ws) (hkw : LKs X Wx kws us) (hjk : j ≤ k := by decide) (hn : n ∈ ms := by decide) (hl : ws.length = n := by rfl) (hu : us.length = ps.length - n := by rfl)
    (hg : Gl X x := by rfl) (hall : (backToKw pos (keywordEach kws X.env)).all (·.1.isSome) = true := by rfl) (hks : (backToKw pos (keywordEach kws X.env)).filterMap (·.1) = ps.drop n := by rfl)
    (hnp : n ≤ ps.length := by decide) (hdb : (x == ("__debug__" : Str)) = false := by decide) (he : starEach (e :: es) X.env = (false, eval e X.env) :: starEach es X.env := by rfl)
    (hpl : ((backTo pos (starEach (e :: es) X.env)).any (·.1) || (backToKw pos (keywordEach kws X.env)).any (·.1.isNone)) = false := by rfl) : LE X Wx (.Call (.Name x p) (e :: es) kws pos) (wCall S (ws ++ us)) := by
  obtain ⟨f, fd, G, hm, hk, _, hb⟩ := F.ex
  exact PE.weak (pe_runK G hgd (hr.mono hjk) hg hm hk (hb n hn) (fun σ => passAt tk σ) ha hkw hall hks hnp hdb he hpl) (wCall_k hl hu hnp)
theorem le_callK0 {k j : Nat} {x : Str} {p pos : Pos} {kws : List Keyword} {ps : List Str} {ms : List Nat} {S : SpD} {us : List WE} (F : FnD X.prog X.w X.K X.mg X.base j x ps ms S) (hgd : X.A.guards = some []) (hr : Room k X.A) (tk : Takes X Wx) (hkw : LKs X Wx kws us) (hjk : j ≤ k := by decide) (hn : 0 ∈ ms := by decide) (hu : us.length = ps.length := by rfl)
    (hg : Gl X x := by rfl) (hall : (backToKw pos (keywordEach kws X.env)).all (·.1.isSome) = true := by rfl) (hks : (backToKw pos (keywordEach kws X.env)).filterMap (·.1) = ps := by rfl)
    (hdb : (x == ("__debug__" : Str)) = false := by decide)
    (hpl : ((backTo pos (starEach [] X.env)).any (·.1) || (backToKw pos (keywordEach kws X.env)).any (·.1.isNone)) = false := by rfl) : LE X Wx (.Call (.Name x p) [] kws pos) (wCall S us) := by
  obtain ⟨f, fd, G, hm, hk, _, hb⟩ := F.ex
  refine PE.weak (pe_runK0 G hgd (hr.mono hjk) hg hm hk (hb 0 hn) (fun σ => passAt tk σ) hkw hall hks hdb hpl) fun σ H Q h => ?_
  obtain ⟨ρ, μ, E, S0, q⟩ := wCall_k (ws := []) (us := us) (ps := ps) (n := 0) rfl (by rw [hu]; rfl) (Nat.zero_le _) σ H Q h
  exact (show Out (Rps X.K) X.K μ H _ [] μ from q) [] H (Fr.refl μ H) S0 rfl

/-! ### x += e -/
def wAug (i : Nat) (g : G2) (a : WE) : WS := ⟨fun D ρ μ => (match ρ[i]? with | some (some x) => a.run ρ μ (fun y μ1 => g.run x y μ1 fun z μ2 => D.nx (ρ.set i (some z)) μ2) (D.ex ρ) | _ => False), fun {D D' ρ μ} h q => by
  revert q
  cases ρ[i]? with
  | none => exact id
  | some o =>
    cases o with
    | none => exact id
    | some x => exact fun q => a.mono (fun _ _ q => g.mono (fun _ _ q => h.nx _ _ q) q) (fun _ _ _ q => h.ex _ _ _ _ q) q⟩
theorem wAug_run {i : Nat} {g : G2} {a : WE} {D : PD} {ρ : Ev} {μ : Mu} : (wAug i g a).run D ρ μ = (match ρ[i]? with | some (some x) => a.run ρ μ (fun y μ1 => g.run x y μ1 fun z μ2 => D.nx (ρ.set i (some z)) μ2) (D.ex ρ) | _ => False) := rfl
theorem ls_aug (i : Nat) {x : Str} {e : Expr} {op : Operator} {g : G2} {w : WE} {pos pos' : Pos} (hN : X.N.Nodup) (ho : OpD X (inplaceOp op) g) (he : LE X Wx e w) (hi : X.N[i]? = some x := by rfl) (hx : Loc X.env.scope x := by first | exact Or.inl rfl | exact Or.inr rfl) (hf : X.fn x = true ∨ X.env.scope.names.lookup x = some .local := by first | exact .inl rfl | exact .inr rfl) :
    LS X Wx (.AugAssign (.Name x pos') op e pos) (wAug i g w) := by
  obtain ⟨r, h1, h2⟩ := ho
  have ip : PIp X op r := fun pins s σ H x y v u Q I rx ry q => h1 pins s σ H x y v u Q I rx ry q
  refine PS.weak (ps_aug hN hi hx he ip hf) fun D σ H ⟨ρ, μ, E, S, h⟩ => ?_
  rw [wAug_run] at h
  split at h
  · rename_i x e
    obtain ⟨v, e1, r1⟩ := E.get e
    refine ⟨v, e1, ?_⟩
    refine lW.bind E S h (fun y μ1 u H1 F1 S1 E1 r2 q1 => ?_) fun _ _ _ h => OutXE.x S E h
    refine h2 x y μ1 H1 v u (fun z H2 => D.nx (σ.set i (some z)) H2) S1 (Rp.keep S F1 x r1) r2 (g.mono (fun z μ2 q t H2 F2 S2 r3 => ?_) q1)
    exact q _ _ (F1.trans F2) S2 ((E1.keep S1 F2).set r3 i)
  · exact h.elim
def gAddI : G2 := gI (fun _ _ => True) fun i j => .int (i + j)
theorem od_iadd : OpD X (inplaceOp .Add) gAddI := od_int0 iop_add fun _ _ _ => rfl
theorem od_isub : OpD X (inplaceOp .Sub) gSub := od_int0 iop_sub fun _ _ _ => rfl

/-! ### a, b, c = x, y, z of plain local names -/
def wPar3 (i j l : Nat) (a b c : WE) : WS := ⟨fun D ρ μ => a.run ρ μ (fun x μ1 => b.run ρ μ1 (fun y μ2 => c.run ρ μ2 (fun z μ3 => D.nx (((ρ.set i (some x)).set j (some y)).set l (some z)) μ3) (D.ex ρ)) (D.ex ρ)) (D.ex ρ),
  fun h q => a.mono (fun _ _ q => b.mono (fun _ _ q => c.mono (fun _ _ q => h.nx _ _ q) (fun _ _ _ q => h.ex _ _ _ _ q) q) (fun _ _ _ q => h.ex _ _ _ _ q) q) (fun _ _ _ q => h.ex _ _ _ _ q) q⟩
theorem wPar3_run {i j l : Nat} {a b c : WE} {D : PD} {ρ : Ev} {μ : Mu} : (wPar3 i j l a b c).run D ρ μ = a.run ρ μ (fun x μ1 => b.run ρ μ1 (fun y μ2 => c.run ρ μ2 (fun z μ3 => D.nx (((ρ.set i (some x)).set j (some y)).set l (some z)) μ3) (D.ex ρ)) (D.ex ρ)) (D.ex ρ) := rfl
theorem rps3 {K : PySem.W.Frag} {H : Hp} {a b c : D} {vs : List V} (h : Rps K H [a, b, c] vs) : ∃ v u t, vs = [v, u, t] ∧ Rp K H a v ∧ Rp K H b u ∧ Rp K H c t := by
  unfold Rps at h
  obtain ⟨w, ws, rfl, r, q⟩ := h
  obtain ⟨u, t, rfl, e, f⟩ := rps2 q
  exact ⟨w, u, t, rfl, r, e, f⟩
theorem ls_par3 (i j l : Nat) {x y z : Str} {a b c : Expr} {wa wb wc : WE} {px py pz pt pos : Pos} {kt k2 pt2} (hN : X.N.Nodup) (ha : LAs X Wx [a, b, c] [wa, wb, wc]) (hw : swappedStores [.Tuple [.Name x px, .Name y py, .Name z pz] kt pt] (.Tuple [a, b, c] k2 pt2) X.env = pure (some [x, y, z]) := by rfl)
    (hc : X.calm = true := by rfl) (hi : X.N[i]? = some x := by rfl) (hj : X.N[j]? = some y := by rfl) (hl : X.N[l]? = some z := by rfl) (hij : i ≠ j := by decide) (hil : i ≠ l := by decide) (hjl : j ≠ l := by decide) (hx : X.env.scope.names.lookup x = some .local := by rfl) (hy : X.env.scope.names.lookup y = some .local := by rfl) (hz : X.env.scope.names.lookup z = some .local := by rfl)
    (hs : swapsWithSole [.Tuple [.Name x px, .Name y py, .Name z pz] kt pt] (.Tuple [a, b, c] k2 pt2) pos.line X.env = pure false := by rfl) : LS X Wx (.Assign [.Tuple [.Name x px, .Name y py, .Name z pz] kt pt] (.Tuple [a, b, c] k2 pt2) pos) (wPar3 i j l wa wb wc) :=
  PS.weak (ps_par3 hc hN hi hj hl hij hil hjl hx hy hz ha hw hs) fun D σ H ⟨ρ, μ, E, S, h⟩ => by
    refine lW.bind (w := wArgs [wa, wb, wc]) E S (Q := fun ds μ2 => ∃ x y z, ds = [x, y, z] ∧ (outD X.K Wx μ H D).nx (((ρ.set i (some x)).set j (some y)).set l (some z)) μ2) (X := (outD X.K Wx μ H D).ex ρ) ?_ (fun xs μ1 vs H1 F1 S1 E1 r1 h1 => ?_) fun _ _ _ h => OutXE.x S E h
    · exact wa.mono (fun x μ1 q => wb.mono (fun y μ2 q => wc.mono (fun z μ3 q => ⟨x, y, z, rfl, q⟩) (fun _ _ _ h => h) q) (fun _ _ _ h => h) q) (fun _ _ _ h => h) h
    obtain ⟨x, y, z, rfl, q⟩ := h1
    obtain ⟨v, u, t, rfl, a1, a2, a3⟩ := rps3 r1
    exact ⟨v, u, t, rfl, q _ _ F1 S1 (((E1.set a1 i).set a2 j).set a3 l)⟩
end

/-! ### defs -/
/-- a smaller store will do -/
def SubQ (Q : PQ) : PQ := fun d μ' => ∃ μ'', (∀ a o, μ'' a = some o → μ' a = some o) ∧ Q d μ''
theorem SubQ.of {Q : PQ} {d : D} {μ : Mu} (h : Q d μ) : SubQ Q d μ := ⟨μ, fun _ _ e => e, h⟩
theorem SubQ.mk {Q : PQ} {d : D} {μ μ' : Mu} (h : Q d μ) (s : ∀ a o, μ a = some o → μ' a = some o) : SubQ Q d μ' := ⟨μ, s, h⟩
def SubX (X : XQ) : XQ := fun C d μ' => ∃ μ'', (∀ a o, μ'' a = some o → μ' a = some o) ∧ X C d μ''
theorem sub_new {μ : Mu} {p : Addr} {o : O} (h : μ p = none) : ∀ a u, μ a = some u → mset μ p o a = some u := fun a u e => by rw [mset_ne (ne_free e h)]; exact e
theorem sub_fr {μ μ1 μ2 : Mu} {H H' : Hp} (s : ∀ a o, μ2 a = some o → μ1 a = some o) (F : Fr μ H μ1 H') : Fr μ H μ2 H' := fun b o e n z => ⟨(F b o e n z).1, by
  cases q : μ2 b with
  | none => rfl
  | some u => exact absurd (s b u q) (by rw [(F b o e n z).2]; intro h; cases h)⟩
theorem sub_sim {K : PySem.W.Frag} {μ1 μ2 : Mu} {H : Hp} (s : ∀ a o, μ2 a = some o → μ1 a = some o) (S : Sim K μ1 H) : Sim K μ2 H := ⟨fun a o e => S.at_ a o (s a o e)⟩
theorem SubQ.out {K : PySem.W.Frag} {μ : Mu} {H : Hp} {Q : VK} {d : D} {μ' : Mu} (h : SubQ (Out (Rp K) K μ H Q) d μ') : Out (Rp K) K μ H Q d μ' := fun v H' F S r => by
  obtain ⟨μ'', s, q⟩ := h
  exact q v H' (sub_fr s F) (sub_sim s S) r
/-- what is wanted of a def's body -/
def bodyD (Q : PQ) (X : XQ) : PD := ⟨fun _ μ => SubQ Q .non μ, SubQ Q, fun _ _ => False, fun _ _ => False, fun _ => SubX X⟩
theorem bodyD_nx {Q : PQ} {X : XQ} {ρ : Ev} {μ : Mu} : (bodyD Q X).nx ρ μ = SubQ Q .non μ := rfl
theorem bodyD_rt {Q : PQ} {X : XQ} : (bodyD Q X).rt = SubQ Q := rfl
theorem bodyD_ex {Q : PQ} {X : XQ} {ρ : Ev} : (bodyD Q X).ex ρ = SubX X := rfl
/-- the wish of a def's body -/
abbrev wxE (E : XK) : WX := fun cls d _ H => E cls d H
/-- a def: its body's walk, its body's reading -/
theorem fn_ok {P : Program} {w : World} {K : PySem.W.Frag} {mg : Str → Option Value} {base : Heap} {x : Str} {st : Stmt} {f : Addr} {fd : FuncData} {N ps : List Str} {ms : List Nat} {k : Nat} {Sd : SpD} (F : Fun K x x st f fd) (S : FnScope N ps (defScope st)) (hm : mg x = some (.ref f)) (hb : Binds K fd ps []) (hkb : ∀ n ∈ ms, KB K fd ps n) (wb : WS)
    (hder : ∀ (cdv : Value) (A : Around) (outer : List Env) (s : Shared) (H : Hp) (E : XK), A.guards = some [] → Room k (A.deeper (envOfC x (defScope st) s.heap.objs.size f cdv)) → LSs (cxOf (L2.CX P w) P w K mg base N x (defScope st) f cdv A outer s H E) (wxE E) (defBody st) wb)
    (hread : ∀ (ds : List D) (μ : Mu) (Q : PQ) (X : XQ), ds.length = ps.length → Sd.run ds μ Q X → wb.run (bodyD Q X) (ev0 N.length ds) μ) : FnD P w K mg base (k + 1) x ps ms Sd := by
  obtain ⟨oc, od, kV, doc, pm, an, cdv, ct, osl, efd, lk, hcd⟩ := F.ex
  refine ⟨f, fd, fun A outer s H args us vs Q E hg hr e0 hbd r hsp => ?_, hm, F.kp, hb, hkb⟩
  subst efd
  refine LamX.run_ofS (N := N) lk hcd S hr e0 hbd r hsp.1 fun hr' => ⟨_, hder cdv A outer s H E hg hr', ?_⟩
  obtain ⟨hl, ds, μ, R, Sm, q⟩ := hsp
  have hd : ds.length = ps.length := by rw [← R.length]; exact hl
  refine ⟨ev0 N.length ds, μ, ?_, Sm, wb.mono (D := bodyD (Out (Rp K) K μ H Q) (OutE K μ H E)) ⟨?_, fun d μ' h => SubQ.out h, fun _ _ z => z.elim, fun _ _ z => z.elim, ?_⟩ (hread ds μ _ _ hd q)⟩
  · unfold ev0 L2.start
    rw [R.length]
    exact EnvR.start R
  · exact fun ρ μ' h σ' H' F' S' E' => SubQ.out h .non H' F' S' rfl
  · rintro ρ C d μ' ⟨μ'', s, q⟩ σ' dx v H' F' S' E' e r
    exact q dx v H' (sub_fr s F') (sub_sim s S') e r
theorem fun_kb {K : PySem.W.Frag} {x qual : Str} {st : Stmt} {f : Addr} {fd : FuncData} {ps : List Str} {n : Nat} (F : Fun K x qual st f fd)
    (h : ∀ (kV doc pm : Value) (an : Option Addr) (cdv ct : Value) (us ws : List Value), us.length = n → ws.length + n = ps.length → bindArgs (PySem.W.fnOf x qual (defArgs st) (defBody st) (defScope st) .none kV doc pm an cdv ct) ⟨us, (ps.drop n).zip ws⟩ = pure (ps.zip (us ++ ws))) : KB K fd ps n := by
  obtain ⟨oc, od, kV, doc, pm, an, cdv, ct, osl, rfl, lk, hcd⟩ := F.ex
  exact fun s us ws _ h1 h2 => .of_eq (h kV doc pm an cdv ct us ws h1 h2)
end Sq

/-! Slices, membership, sorting, shown data, ranges as lists, chains of three. -/
namespace Sq
open PySem PySem.Spec PyProof.Rows L2

/-! ### slices -/
def cutD {α : Type} (xs : List α) (lo hi : Option Int) : List α := (xs.drop (HT.sIx xs.length 0 lo)).take (HT.sIx xs.length xs.length hi - HT.sIx xs.length 0 lo)
theorem Rps.cut {K : PySem.W.Frag} {H : Hp} {ds : List D} {vs : List V} (h : Rps K H ds vs) (lo hi : Option Int) : Rps K H (cutD ds lo hi) (L2.cutV vs lo hi) := by
  unfold cutD L2.cutV
  rw [h.length]
  exact (h.drop _).take _
theorem cutD_whole {α : Type} {xs : List α} {lo hi : Option Int} (h : HT.sIx xs.length 0 lo = 0 ∧ HT.sIx xs.length xs.length hi = xs.length) : cutD xs lo hi = xs := by
  unfold cutD
  rw [h.1, h.2, List.drop_zero, Nat.sub_zero, List.take_length]
abbrev lO (K : PySem.W.Frag) (Wx : WX) (w : Wp (Option Int)) : TO := lW (fun (_ : Hp) (b c : Option Int) => b = c) K Wx w
def LO (X : Cx) (Wx : WX) (e : Option Expr) (w : Wp (Option Int)) : Prop := PO X e (lO X.K Wx w)
theorem PO.weak {X : Cx} {e : Option Expr} {t t' : TO} (h : PO X e t) (hw : ∀ σ H Q, t' σ H Q → t σ H Q) : PO X e t' := ⟨fun pins s σ H Q I q => h.run pins s σ H Q I (hw σ H Q q)⟩
def wNoP : Wp (Option Int) := ⟨fun _ μ Q _ => Q none μ, fun hQ _ h => hQ _ _ h⟩
theorem wNoP_run {ρ : Ev} {μ : Mu} {Q : Option Int → Mu → Prop} {X : XQ} : wNoP.run ρ μ Q X = Q none μ := rfl
def onInt (z : D) (f : Int → Prop) : Prop := match z with | .int k => f k | _ => False
theorem onInt_int {k : Int} {f : Int → Prop} : onInt (.int k) f = f k := rfl
theorem onInt_mono {z : D} {f f' : Int → Prop} (h : ∀ k, f k → f' k) (q : onInt z f) : onInt z f' := by
  cases z with
  | int k => exact h k q
  | _ => exact q
theorem onInt_v {K : PySem.W.Frag} {H : Hp} {z : D} {v : V} {f : Int → Prop} (r : Rp K H z v) (q : onInt z f) : ∃ k, v = .int k ∧ f k := by
  cases z with
  | int k => exact ⟨k, r, q⟩
  | _ => exact q.elim
def wPart (a : WE) : Wp (Option Int) := ⟨fun ρ μ Q X => a.run ρ μ (fun x μ1 => onInt x fun i => Q (some i) μ1) X, fun hQ hX h => a.mono (fun _ _ h => onInt_mono (fun _ q => hQ _ _ q) h) hX h⟩
theorem wPart_run {a : WE} {ρ : Ev} {μ : Mu} {Q : Option Int → Mu → Prop} {X : XQ} : (wPart a).run ρ μ Q X = a.run ρ μ (fun x μ1 => onInt x fun i => Q (some i) μ1) X := rfl
section
variable {X : Cx} {Wx : WX}
theorem lo_none : LO X Wx none wNoP := PO.weak po_none fun σ H Q ⟨ρ, μ, E, S, h⟩ => (show Out (fun (_ : Hp) (b c : Option Int) => b = c) X.K μ H Q none μ from h) _ _ (Fr.refl μ H) S rfl
theorem lo_some {e : Expr} {w : WE} (h : LE X Wx e w) : LO X Wx (some e) (wPart w) := PO.weak (po_some h) fun σ H Q ⟨ρ, μ, E, S, h⟩ => by
  refine lW.bind E S h (fun x μ1 v H1 F1 S1 E1 r1 h1 => ?_) fun _ _ _ h => h
  obtain ⟨k, e, q⟩ := onInt_v r1 h1
  exact ⟨k, e, (show Out (fun (_ : Hp) (b c : Option Int) => b = c) X.K μ H Q (some k) μ1 from q) _ _ F1 S1 rfl⟩
def fSl (x : D) (lo hi : Option Int) (μ : Mu) (Q : PQ) : Prop := match x with
  | .tup ds => Q (.tup (cutD ds lo hi)) μ
  | .rls ds => ∀ p, μ p = none → Q (.ob p) (mset μ p (.lst (cutD ds lo hi)))
  | .ob a => (match μ a with | some (.lst ds) => ∀ p, μ p = none → Q (.ob p) (mset μ p (.lst (cutD ds lo hi))) | _ => False)
  | .str s => s.length ≤ sizeLine ∧ Q (.str (L2.cutS s lo hi)) μ
  | _ => False
theorem fSl_tup {ds : List D} {lo hi : Option Int} {μ : Mu} {Q : PQ} : fSl (.tup ds) lo hi μ Q = Q (.tup (cutD ds lo hi)) μ := rfl
theorem fSl_rls {ds : List D} {lo hi : Option Int} {μ : Mu} {Q : PQ} : fSl (.rls ds) lo hi μ Q = ∀ p, μ p = none → Q (.ob p) (mset μ p (.lst (cutD ds lo hi))) := rfl
theorem fSl_ob {a : Addr} {lo hi : Option Int} {μ : Mu} {Q : PQ} : fSl (.ob a) lo hi μ Q = (match μ a with | some (.lst ds) => ∀ p, μ p = none → Q (.ob p) (mset μ p (.lst (cutD ds lo hi))) | _ => False) := rfl
theorem fSl_str {s : Str} {lo hi : Option Int} {μ : Mu} {Q : PQ} : fSl (.str s) lo hi μ Q = (s.length ≤ sizeLine ∧ Q (.str (L2.cutS s lo hi)) μ) := rfl
theorem fSl_mono {x : D} {lo hi : Option Int} {μ : Mu} {Q Q' : PQ} (hQ : ∀ d μ', Q d μ' → Q' d μ') (h : fSl x lo hi μ Q) : fSl x lo hi μ Q' := by
  cases x with
  | tup ds => exact hQ _ _ h
  | rls ds => exact fun p hp => hQ _ _ (h p hp)
  | ob a =>
    rw [fSl_ob] at h ⊢
    split at h
    · exact fun p hp => hQ _ _ (h p hp)
    · exact h.elim
  | str s => exact ⟨h.1, hQ _ _ h.2⟩
  | _ => exact h
def wSl (a : WE) (lo hi : Wp (Option Int)) : WE := ⟨fun ρ μ Q X => a.run ρ μ (fun x μ1 => lo.run ρ μ1 (fun l μ2 => hi.run ρ μ2 (fun u μ3 => fSl x l u μ3 Q) X) X) X,
  fun hQ hX h => a.mono (fun _ _ h => lo.mono (fun _ _ h => hi.mono (fun _ _ h => fSl_mono hQ h) hX h) hX h) hX h⟩
theorem wSl_run {a : WE} {lo hi : Wp (Option Int)} {ρ : Ev} {μ : Mu} {Q : PQ} {X : XQ} : (wSl a lo hi).run ρ μ Q X = a.run ρ μ (fun x μ1 => lo.run ρ μ1 (fun l μ2 => hi.run ρ μ2 (fun u μ3 => fSl x l u μ3 Q) X) X) X := rfl
theorem le_sl {e : Expr} {lo hi : Option Expr} {p2 pos : Pos} {w : WE} {wl wh : Wp (Option Int)} (he : LE X Wx e w) (hl : LO X Wx lo wl) (hh : LO X Wx hi wh) : LE X Wx (.Subscript e (.Slice lo hi none p2) pos) (wSl w wl wh) :=
  PE.weak (pe_slice (sl_tupA.or (sl_list.or sl_str)) he hl hh) fun σ H Q ⟨ρ, μ, E, S, h⟩ => by
    refine lW.bind E S h (fun x μ1 v H1 F1 S1 E1 r1 h1 => ?_) fun _ _ _ h => h
    refine lW.bind E1 S1 h1 (fun l μ2 l' H2 F2 S2 E2 r2 h2 => ?_) fun _ _ _ h => h.trans F1
    subst r2
    refine lW.bind E2 S2 h2 (fun u μ3 u' H3 F3 S3 E3 r3 h3 => ?_) fun _ _ _ h => h.trans (F1.trans F2)
    subst r3
    have rx := Rp.keep S2 F3 x (Rp.keep S1 F2 x r1)
    have h4 := fSl_mono (fun _ _ q => Out.trans (F1.trans (F2.trans F3)) q) h3
    cases x with
    | tup ds =>
      obtain ⟨p, vs, rfl, t, r⟩ := rp_tup rx
      refine .inl ⟨p, vs, rfl, t, fun hw => ?_, fun _ => out_tup S3 (r.cut l u) h4⟩
      have e : cutD ds l u = ds := cutD_whole (by rw [r.length] at hw; exact hw)
      rw [fSl_tup, e] at h4
      exact h4 _ _ (Fr.refl _ _) S3 rx
    | rls ds =>
      obtain ⟨p, vs, rfl, t, r⟩ := rp_rls rx
      exact .inr (.inl ⟨p, vs, rfl, t.l, out_lst S3 (r.cut l u) h4⟩)
    | ob a =>
      rw [rp_ob rx]
      rw [fSl_ob] at h4
      split at h4
      · rename_i ds e
        obtain ⟨vs, h5, r⟩ := S3.lst e
        exact .inr (.inl ⟨a, vs, rfl, SqL.of h5, out_lst S3 (r.cut l u) h4⟩)
      · exact h4.elim
    | str s => rw [rp_str rx]; exact .inr (.inr ⟨s, rfl, h4.1, h4.2 _ _ (Fr.refl _ _) S3 rfl⟩)
    | _ => exact h4.elim

/-! ### data without addresses -/
mutual
def encD : D → PyData
  | .non => .none | .bl b => .bool b | .int i => .int i | .str x => .str x
  | .tup ds => .tuple (encDs ds) | .ob _ => .none | .rls _ => .none
def encDs : List D → List PyData
  | [] => [] | d :: ds => encD d :: encDs ds
end
mutual
def pureD : D → Bool
  | .non => true | .bl _ => true | .int _ => true | .str _ => true
  | .tup ds => pureDs ds | .ob _ => false | .rls _ => false
def pureDs : List D → Bool
  | [] => true | d :: ds => pureD d && pureDs ds
end
mutual
theorem pure_dpy {μ : Mu} : ∀ {d : D}, pureD d = true → DPy μ d (encD d)
  | .non, _ => .non
  | .bl b, _ => .bl b
  | .int i, _ => .int i
  | .str x, _ => .str x
  | .tup ds, h => by unfold encD; unfold pureD at h; exact .tup (pure_dpys h)
  | .ob _, h => by unfold pureD at h; cases h
  | .rls _, h => by unfold pureD at h; cases h
theorem pure_dpys {μ : Mu} : ∀ {ds : List D}, pureDs ds = true → DPys μ ds (encDs ds)
  | [], _ => .nil
  | d :: ds, h => by
    unfold encDs
    unfold pureDs at h
    rw [Bool.and_eq_true] at h
    exact .cons (pure_dpy h.1) (pure_dpys h.2)
end
theorem encDs_map : ∀ ds : List D, encDs ds = ds.map encD
  | [] => rfl
  | d :: ds => by unfold encDs; rw [encDs_map ds]; rfl
theorem pureDs_all : ∀ ds : List D, pureDs ds = ds.all pureD
  | [] => rfl
  | d :: ds => by unfold pureDs; rw [pureDs_all ds]; rfl
theorem encD_ints (ns : List Int) : encDs (ns.map D.int) = ns.map PyData.int := by
  rw [encDs_map, List.map_map]; rfl
theorem pureD_ints (ns : List Int) : pureDs (ns.map D.int) = true := by
  rw [pureDs_all, List.all_map]; simp [pureD]

/-! ### in, not in -/
def InP (x y : D) (μ : Mu) (Q : Bool → Prop) : Prop := ∃ d ds, DPy μ x d ∧ ((DPy μ y (.list ds) ∧ SeqAt.shaped (.list ds) = true) ∨ (DPy μ y (.tuple ds) ∧ SeqAt.shaped (.tuple ds) = true)) ∧ SeqAt.shaped d = true ∧ Q (ds.any fun z => PyData.eqv z d)
theorem InP.mono {x y : D} {μ : Mu} {Q Q' : Bool → Prop} (h : ∀ b, Q b → Q' b) (q : InP x y μ Q) : InP x y μ Q' := by
  obtain ⟨d, ds, h1, h2, h3, q⟩ := q
  exact ⟨d, ds, h1, h2, h3, h _ q⟩
def gIn : G2 := ⟨fun x y μ Q => InP x y μ fun b => Q (.bl b) μ, fun hQ h => h.mono fun _ q => hQ _ _ q⟩
def gNotIn : G2 := ⟨fun x y μ Q => InP x y μ fun b => Q (.bl (!b)) μ, fun hQ h => h.mono fun _ q => hQ _ _ q⟩
theorem gIn_run {x y : D} {μ : Mu} {Q : PQ} : gIn.run x y μ Q = InP x y μ fun b => Q (.bl b) μ := rfl
theorem gNotIn_run {x y : D} {μ : Mu} {Q : PQ} : gNotIn.run x y μ Q = InP x y μ fun b => Q (.bl (!b)) μ := rfl
def rInT (K : PySem.W.Frag) (f : Bool → Bool) : R2 := fun x y H Q => ∃ d ds, Dp K H x d ∧ Dp K H y (.tuple ds) ∧ SeqAt.shaped d = true ∧ SeqAt.shaped (.tuple ds) = true ∧ Q (.bl (f (ds.any fun z => PyData.eqv z d))) H
theorem op_inT (hu : X.A.units + 65 < cLine) : OpR X (compareOp .In) (rInT X.K id) := by
  intro pins s σ H x y v u Q I rx ry h
  obtain ⟨d, ds, hd, he, sd, se, q⟩ := h
  obtain ⟨as, r1⟩ := Dp.reads I d x v hd rx
  obtain ⟨bs, r2⟩ := Dp.reads I (.tuple ds) y u he ry
  exact SeqAt.in_tuple_reads r2 r1 (SeqAt.canLay_of_shaped se) (SeqAt.canLay_of_shaped sd) (room_in_shaped sd hu) ⟨.bl _, H, I, rfl, q⟩
theorem op_notInT (hu : X.A.units + 65 < cLine) : OpR X (compareOp .NotIn) (rInT X.K not) := by
  intro pins s σ H x y v u Q I rx ry h
  obtain ⟨d, ds, hd, he, sd, se, q⟩ := h
  obtain ⟨as, r1⟩ := Dp.reads I d x v hd rx
  obtain ⟨bs, r2⟩ := Dp.reads I (.tuple ds) y u he ry
  exact SeqAt.notIn_tuple_reads r2 r1 (SeqAt.canLay_of_shaped se) (SeqAt.canLay_of_shaped sd) (room_in_shaped sd hu) ⟨.bl _, H, I, rfl, q⟩
theorem od_in (hu : X.A.units + 65 < cLine) : OpD X (compareOp .In) gIn := ⟨_, (op_inD hu).or (op_inT hu), fun x y μ H vx vy Q S rx ry q => by
  obtain ⟨d, ds, h1, h2 | h2, h3, q⟩ := q
  · exact .inl ⟨d, ds, h1.dp S rx, h2.1.dp S ry, h3, h2.2, q _ _ (Fr.refl μ H) S rfl⟩
  · exact .inr ⟨d, ds, h1.dp S rx, h2.1.dp S ry, h3, h2.2, q _ _ (Fr.refl μ H) S rfl⟩⟩
theorem od_notIn (hu : X.A.units + 65 < cLine) : OpD X (compareOp .NotIn) gNotIn := ⟨_, (op_notInD hu).or (op_notInT hu), fun x y μ H vx vy Q S rx ry q => by
  obtain ⟨d, ds, h1, h2 | h2, h3, q⟩ := q
  · exact .inl ⟨d, ds, h1.dp S rx, h2.1.dp S ry, h3, h2.2, q _ _ (Fr.refl μ H) S rfl⟩
  · exact .inr ⟨d, ds, h1.dp S rx, h2.1.dp S ry, h3, h2.2, q _ _ (Fr.refl μ H) S rfl⟩⟩

/-! ### sorted -/
theorem rps_each {K : PySem.W.Frag} {pins : List (Addr × Obj)} {σ : L2.St} {H : Hp} {s : Shared} {μ : Mu} (I : Inv X pins σ H s) (S : Sim X.K μ H) : ∀ {ds : List D} {vs : List V} {us : List Value}, Rps X.K H ds vs → Vals vs us → (∀ d ∈ ds, pureD d = true) →
    PySem.W.EachIs (fun u d => ∃ as, Reads s.heap u (encD d) as) us ds ∧ PySem.W.EachIs (fun u d => ∃ v, RelV v u ∧ Rp X.K H d v) us ds
  | [], _, _, h, r, _ => by
    unfold Rps at h; subst h; cases r
    exact ⟨.nil, .nil⟩
  | d :: ds, _, _, h, r, hp => by
    unfold Rps at h
    obtain ⟨w, ws, rfl, a, b⟩ := h
    cases r with
    | cons r1 r2 =>
      have ih := rps_each (K := K) I S b r2 fun d hd => hp d (List.mem_cons_of_mem _ hd)
      exact ⟨.cons (Dp.reads I _ _ _ ((pure_dpy (hp d List.mem_cons_self)).dp S a) r1) ih.1, .cons ⟨w, r1, a⟩ ih.2⟩
theorem each_rps {K : PySem.W.Frag} {H : Hp} : ∀ {us : List Value} {ds : List D}, PySem.W.EachIs (fun u d => ∃ v, RelV v u ∧ Rp K H d v) us ds → ∃ vs, Vals vs us ∧ Rps K H ds vs
  | _, _, .nil => ⟨[], .nil, rfl⟩
  | _, _, .cons ⟨v, r, a⟩ t => by
    obtain ⟨vs, h1, h2⟩ := each_rps t
    exact ⟨v :: vs, .cons r h1, by unfold Rps; exact ⟨_, _, rfl, a, h2⟩⟩
/-- the order of data -/
abbrev leD : D → D → Bool := PySem.W.dataLe false encD
def SortOk (ds : List D) : Prop := (∀ d ∈ ds, pureD d = true) ∧ PySem.W.AllAlike (ds.map encD) ∧ PySem.W.Sortable (ds.map encD) ∧ ∀ d ∈ ds, (encD d).depth ≤ 60
def fSorted (x : D) (μ : Mu) (Q : PQ) : Prop := match x with
  | .ob a => (match μ a with | some (.lst ds) => SortOk ds ∧ ∀ p, μ p = none → Q (.ob p) (mset μ p (.lst (ds.mergeSort leD))) | _ => False)
  | _ => False
theorem fSorted_ob {a : Addr} {μ : Mu} {Q : PQ} : fSorted (.ob a) μ Q = (match μ a with | some (.lst ds) => SortOk ds ∧ ∀ p, μ p = none → Q (.ob p) (mset μ p (.lst (ds.mergeSort leD))) | _ => False) := rfl
def gSorted : GN := g1 fSorted fun {x μ Q Q'} hQ h => by
  cases x with
  | ob a =>
    rw [fSorted_ob] at h ⊢
    split at h
    · exact ⟨h.1, fun p hp => hQ _ _ (h.2 p hp)⟩
    · exact h.elim
  | _ => exact h
def rSortedD (K : PySem.W.Frag) : List V → Hp → VK → Prop := fun vs H Q => ∃ (a : Addr) (xs : List V) (ds : List D) (μ : Mu), vs = [V.ref a] ∧ H a = some (.lst xs) ∧ Sim K μ H ∧ Rps K H ds xs ∧ SortOk ds ∧
  ∀ us p, Rps K H (ds.mergeSort leD) us → H p = none → Q (.ref p) (upd H p (.lst us))
theorem cr_sortedD (hu : X.A.units + 64 < cLine) : CallR X (.builtin "sorted") (rSortedD X.K) := by
  intro pins s σ H vs us Q I r h
  obtain ⟨a, xs, ds, μ, rfl, ha, S, R, ok, q⟩ := h
  obtain ⟨its, rv, hl, hz⟩ := I.list (SqL.of ha)
  rw [Vals.ref1 r]
  obtain ⟨h1, h2⟩ := rps_each (K := X.K) I S R rv ok.1
  refine PySem.W.sorted_data (enc := encD) (bs := ds) hl.isList h2 h1 ok.2.1 ok.2.2.1 (by rw [← R.length]; exact hz) (fun d hd => by have := ok.2.2.2 d hd; omega) fun out e1 e2 => ?_
  obtain ⟨ws, v1, v2⟩ := each_rps e2
  obtain ⟨ep, he'⟩ := PyProof.Rows.sortedAll_at s.heap its out.toArray
  have hlen : ws.length ≤ sizeLine := by rw [v2.length, List.length_mergeSort, ← R.length]; exact hz
  exact ⟨.ref _, upd H (s.heap.objs.size + 1) (.lst ws), I.laid (t' := s.toks) (fun _ _ => PyProof.Rows.sortedAll_old) (Nat.le_succ _) ⟨hlen, out, ep, v1, he'⟩, rfl, q ws _ v2 (I.hok.fresh (Nat.le_succ _))⟩
theorem cd_sorted (hu : X.A.units + 64 < cLine) : CallD X (.builtin "sorted") gSorted := cd1 (cr_sortedD hu) (fun _ _ _ => rfl) fun x μ H v Q S R q => by
  cases x with
  | ob a =>
    rw [rp_ob R]
    rw [fSorted_ob] at q
    split at q
    · rename_i ds e
      obtain ⟨vs, h1, r⟩ := S.lst e
      exact ⟨a, vs, ds, μ, rfl, h1, S, r, q.1, fun us p ru hp => out_lst S ru q.2 p hp⟩
    · exact q.elim
  | _ => exact q.elim

/-! ### repr -/
def fRepr (x : D) (μ : Mu) (Q : PQ) : Prop := ∃ d, DPy μ x d ∧ SeqAt.shaped d = true ∧ d.showable = true ∧ d.shown.length ≤ sizeLine ∧ Q (.str d.shown) μ
def gRepr : GN := g1 fRepr fun {x μ Q Q'} hQ h => by
  obtain ⟨d, h1, h2, h3, h4, q⟩ := h
  exact ⟨d, h1, h2, h3, h4, hQ _ _ q⟩
def rRepr (K : PySem.W.Frag) : List V → Hp → VK → Prop := fun vs H Q => ∃ (x : V) (d : PyData), vs = [x] ∧ Dp K H x d ∧ SeqAt.shaped d = true ∧ d.showable = true ∧ d.shown.length ≤ sizeLine ∧ Q (.str d.shown) H
theorem cr_repr (hg : X.A.guards = some []) (hu : X.A.units + 65 < cLine) : CallR X (.builtin "repr") (rRepr X.K) := by
  intro pins s σ H vs us Q I r h
  obtain ⟨x, d, rfl, hd, hs, hsh, hln, q⟩ := h
  cases r with
  | cons r1 r2 =>
    cases r2
    rename_i u
    obtain ⟨as, rd⟩ := Dp.reads I d x u hd r1
    have hdep := SeqAt.depth_of_shaped hs
    have nd : d.hasDict = false := PyData.hasDict_of_canLay d (SeqAt.canLay_of_shaped hs)
    cases hd with
    | non => cases rd; exact PySem.P.repr_of_none ⟨.str _, H, I.tok _, ⟨_, rfl⟩, q⟩
    | bl b => cases rd; exact PySem.P.repr_of_bool ⟨.str _, H, I.tok _, ⟨_, rfl⟩, q⟩
    | int i =>
      cases rd
      exact PySem.P.repr_of_int (by simpa [PyData.showable] using hsh) ⟨.str _, H, I.tok _, ⟨_, rfl⟩, q⟩
    | str z =>
      cases rd
      exact PySem.P.repr_of_str ⟨.str _, H, I.tok _, ⟨_, rfl⟩, q⟩ hln
    | lst a1 a2 =>
      cases r1
      exact repr_of_reads' rd hsh (PyData.noDict_hsm nd) hg (by omega) (fun _ _ e => e) (fun h' u tk hk => ⟨.str _, H, I.kept hk, ⟨_, rfl⟩, q⟩) hln
    | tup a1 a2 =>
      cases r1
      exact repr_of_reads' rd hsh (PyData.noDict_hsm nd) hg (by omega) (fun _ _ e => e) (fun h' u tk hk => ⟨.str _, H, I.kept hk, ⟨_, rfl⟩, q⟩) hln
theorem cd_repr (hg : X.A.guards = some []) (hu : X.A.units + 65 < cLine) : CallD X (.builtin "repr") gRepr := cd1 (cr_repr hg hu) (fun _ _ _ => rfl) fun x μ H v Q S R ⟨d, h1, h2, h3, h4, q⟩ =>
  ⟨v, d, rfl, h1.dp S R, h2, h3, h4, q _ _ (Fr.refl μ H) S rfl⟩

/-! ### list(range(..)) -/
theorem rps_rg {K : PySem.W.Frag} {H : Hp} (lo : Int) (hi : Int) : Rps K H (rangeD lo (hi - lo).toNat) (L2.rgV lo hi) := by
  have e1 : rangeD lo (hi - lo).toNat = ((List.range (hi - lo).toNat).map fun i => lo + (i : Nat)).map D.int := by
    unfold rangeD; rw [List.map_map]; rfl
  have e2 : L2.rgV lo hi = ((List.range (hi - lo).toNat).map fun i => lo + (i : Nat)).map V.int := by
    unfold L2.rgV; rw [List.map_map]; rfl
  rw [e1, e2]
  exact Rps.of_ints _
def wLstRg1 (a : WE) : WE := ⟨fun ρ μ Q X => a.run ρ μ (fun x μ1 => onInt x fun j => L2.RgOk 0 j ∧ ∀ p, μ1 p = none → Q (.ob p) (mset μ1 p (.lst (rangeD 0 j.toNat)))) X,
  fun hQ hX h => a.mono (fun _ _ h => onInt_mono (fun _ q => ⟨q.1, fun p hp => hQ _ _ (q.2 p hp)⟩) h) hX h⟩
theorem wLstRg1_run {a : WE} {ρ : Ev} {μ : Mu} {Q : PQ} {X : XQ} : (wLstRg1 a).run ρ μ Q X = a.run ρ μ (fun x μ1 => onInt x fun j => L2.RgOk 0 j ∧ ∀ p, μ1 p = none → Q (.ob p) (mset μ1 p (.lst (rangeD 0 j.toNat)))) X := rfl
theorem le_listRg1 {a : Expr} {wa : WE} {p p2 pos pos2 : Pos} (hm : X.mg "list" = none) (hm2 : X.mg "range" = none) (ha : LE X Wx a wa) (hg : Gl X "list" := by rfl) (hg2 : Gl X "range" := by rfl) (hc : X.calm = true := by rfl)
    (na : starEach [a] X.env = (false, eval a X.env) :: starEach [] X.env := by rfl)
    (nb : starEach [.Call (.Name "range" p2) [a] [] pos2] X.env = (false, eval (.Call (.Name "range" p2) [a] [] pos2) X.env) :: starEach [] X.env := by rfl) : LE X Wx (.Call (.Name "list" p) [.Call (.Name "range" p2) [a] [] pos2] [] pos) (wLstRg1 wa) :=
  PE.weak (pe_listRg hc hg hm (prg_1 hg2 hm2 ha na) nb) fun σ H Q ⟨ρ, μ, E, S, h⟩ => by
    refine lW.bind E S h (fun x μ1 v H1 F1 S1 E1 r1 h1 => ?_) fun _ _ _ h => h
    obtain ⟨j, e, ok, q⟩ := onInt_v r1 h1
    have e2 := rps_rg (K := X.K) (H := H1) 0 j
    rw [Int.sub_zero] at e2
    exact ⟨j, e, ok, out_lst S1 e2 fun p hp => (q p hp).trans F1⟩

/-! ### ** of wider ints -/
def CPowW (i j : Int) : Prop := 0 ≤ j ∧ ∃ b : Nat, i.natAbs < 2 ^ b ∧ (b : Int) * j ≤ 2 ^ 27
theorem op_powW : OpR X (binaryOp .Pow) (rI CPowW fun i j => .int (i ^ j.toNat)) := opI fun i j _ _ _ _ _ hc q => by
  obtain ⟨h0, b, h1, h2⟩ := hc
  refine PyProof.Rows.pow_int h0 (Int.le_trans (Int.mul_le_mul_of_nonneg_right ?_ h0) h2) q
  exact Int.ofNat_le.mpr (PySem.intBits_le_iff.mpr h1)
def gPowW : G2 := gI CPowW fun i j => .int (i ^ j.toNat)
theorem od_powW : OpD X (binaryOp .Pow) gPowW := od_int op_powW fun _ _ _ => rfl

/-! ### chains of any length -/
def chainRun : List (G2 × WE) → D → Ev → Mu → PQ → XQ → Prop
  | [], _, _, _, _, _ => False
  | (g, w) :: cs, x, ρ, μ, Q, X => w.run ρ μ (fun y μ1 => g.run x y μ1 fun z μ2 => if cs.isEmpty then Q z μ2 else onBl z fun k => if k = true then chainRun cs y ρ μ2 Q X else Q (.bl false) μ2) X
theorem chainRun_mono : ∀ {cs : List (G2 × WE)} {x : D} {ρ : Ev} {μ : Mu} {Q Q' : PQ} {X X' : XQ}, (∀ d μ', Q d μ' → Q' d μ') → (∀ C d μ', X C d μ' → X' C d μ') → chainRun cs x ρ μ Q X → chainRun cs x ρ μ Q' X'
  | [], _, _, _, _, _, _, _, _, _, h => h
  | (g, w) :: cs, _, _, _, _, _, _, _, hQ, hX, h => w.mono (fun _ _ h => g.mono (fun z _ h => by
    revert h
    split
    · exact hQ _ _
    · exact onBl_mono fun k h => by
        cases k with
        | true => exact chainRun_mono hQ hX h
        | false => exact hQ _ _ h) h) hX h
end
end Sq

/-! Chains of any length. -/
namespace Sq
open PySem PySem.Spec PyProof.Rows L2
section
variable {X : Cx} {Wx : WX}
structure LCh (X : Cx) (Wx : WX) (ops : List CmpOp) (es : List Expr) (cs : List (G2 × WE)) : Prop where
  v : ∀ (pos : Pos) (pins : List (Addr × Obj)) (s : Shared) (σ : L2.St) (H : Hp) (u : Value) (x : V) (d : D) (ρ : Ev) (μ : Mu) (Q : VK), Inv X pins σ H s → RelV x u → Rp X.K H d x → EnvR X.K H ρ σ → Sim X.K μ H →
    chainRun cs d ρ μ (Out (Rp X.K) X.K μ H Q) (OutX X.K Wx σ μ H) → wpAny (model X.prog X.w) X.A (compareChain pos u ops (evalEach es X.env)) (EP X pins σ Q) X.xe s
  t : ∀ (pos : Pos) (pins : List (Addr × Obj)) (s : Shared) (σ : L2.St) (H : Hp) (u : Value) (x : V) (d : D) (ρ : Ev) (μ : Mu) (Q : Bool → Hp → Prop), Inv X pins σ H s → RelV x u → Rp X.K H d x → EnvR X.K H ρ σ → Sim X.K μ H →
    chainRun cs d ρ μ (fun z μ' => onBl z fun k => Out (fun (_ : Hp) (b c : Bool) => b = c) X.K μ H Q k μ') (OutX X.K Wx σ μ H) → wpAny (model X.prog X.w) X.A (testChain pos u ops (evalEach es X.env)) (TP X pins σ Q) X.xe s
theorem lch_last {op : CmpOp} {b : Expr} {g : G2} {w : WE} (ho : OpD X (compareOp op) g) (hb : LE X Wx b w) : LCh X Wx [op] [b] [(g, w)] := by
  obtain ⟨r, h1, h2⟩ := ho
  refine ⟨fun pos pins s σ H u x d ρ μ Q I ru R E S h => ?_, fun pos pins s σ H u x d ρ μ Q I ru R E S h => ?_⟩
  · refine chain_last (thn (hb.run pins s σ H (fun y H1 => ∃ (d : D) (μ1 : Mu), r x y H1 Q) I (lW.bind (R := Rp X.K) E S h (fun y μ1 v H1 F1 S1 E1 r1 q1 => ?_) fun _ _ _ h => h)) fun u2 s1 ⟨y, H1, I1, r1, _, _, q1⟩ => h1 pins s1 σ H1 x y u u2 _ I1 ru r1 q1)
    exact ⟨y, μ1, h2 d y μ1 H1 x v Q S1 (Rp.keep S F1 d R) r1 (g.mono (fun _ _ q => Out.trans F1 q) q1)⟩
  · refine test_last (thn (hb.run pins s σ H (fun y H1 => r x y H1 fun z H2 => ∃ k, z = .bl k ∧ Q k H2) I (lW.bind (R := Rp X.K) E S h (fun y μ1 v H1 F1 S1 E1 r1 q1 => ?_) fun _ _ _ h => h)) fun u2 s1 ⟨y, H1, I1, r1, q1⟩ => thn (h1 pins s1 σ H1 x y u u2 _ I1 ru r1 q1) fun u3 s2 ⟨z, H2, I2, r2, k, e, q2⟩ => ?_)
    · refine h2 d y μ1 H1 x v _ S1 (Rp.keep S F1 d R) r1 (g.mono (fun z μ2 q z' H2 F2 S2 r2 => ?_) q1)
      obtain ⟨k, e, q⟩ := onBl_v r2 (show onBl z _ from q)
      exact ⟨k, e, q _ _ (F1.trans F2) S2 rfl⟩
    · subst e
      cases r2
      exact wpAny_truthy_bool ⟨H2, I2, q2⟩
theorem lch_cons {op op' : CmpOp} {ops : List CmpOp} {b b' : Expr} {bs : List Expr} {g : G2} {w : WE} {c : G2 × WE} {cs : List (G2 × WE)} (ho : OpD X (compareOp op) g) (hb : LE X Wx b w) (hc : LCh X Wx (op' :: ops) (b' :: bs) (c :: cs)) : LCh X Wx (op :: op' :: ops) (b :: b' :: bs) ((g, w) :: c :: cs) := by
  obtain ⟨r, h1, h2⟩ := ho
  refine ⟨fun pos pins s σ H u x d ρ μ Q I ru R E S h => ?_, fun pos pins s σ H u x d ρ μ Q I ru R E S h => ?_⟩
  · refine chain_link (thn (hb.run pins s σ H (fun y H1 => ∃ (dy : D) (μ1 : Mu), Fr μ H μ1 H1 ∧ Sim X.K μ1 H1 ∧ EnvR X.K H1 ρ σ ∧ Rp X.K H1 dy y ∧ r x y H1 fun z H2 => ∃ k, z = .bl k ∧ ∃ μ2, Fr μ H μ2 H2 ∧ Sim X.K μ2 H2 ∧ EnvR X.K H2 ρ σ ∧ Rp X.K H2 dy y ∧
      (if k = true then chainRun (c :: cs) dy ρ μ2 (Out (Rp X.K) X.K μ H Q) (OutX X.K Wx σ μ H) else Out (Rp X.K) X.K μ H Q (.bl false) μ2)) I (lW.bind (R := Rp X.K) E S h (fun y μ1 v H1 F1 S1 E1 r1 q1 => ?_) fun _ _ _ h => h)) fun u2 s1 ⟨y, H1, I1, r1, dy, μ1, F1, S1, E1, R1, q1⟩ =>
        thn (h1 pins s1 σ H1 x y u u2 _ I1 ru r1 q1) fun u3 s2 ⟨z, H2, I2, r2, k, e, μ2, F2, S2, E2, R2, q2⟩ => ?_)
    · refine ⟨y, μ1, F1, S1, E1, r1, h2 d y μ1 H1 x v _ S1 (Rp.keep S F1 d R) r1 (g.mono (fun z μ2 q z' H2 F2 S2 r2 => ?_) q1)⟩
      obtain ⟨k, e, q⟩ := onBl_v r2 (show onBl z _ from q)
      exact ⟨k, e, μ2, F1.trans F2, S2, E1.keep S1 F2, Rp.keep S1 F2 y r1, q⟩
    · subst e
      cases r2
      refine wpAny_truthy_bool ?_
      cases k with
      | false => exact ite_ff ⟨.bl false, H2, I2, rfl, q2 _ _ F2 S2 rfl⟩
      | true => exact ite_tt (hc.v pos pins s2 σ H2 u2 y dy ρ μ2 Q I2 r1 R2 E2 S2 (chainRun_mono (fun _ _ q => Out.trans F2 q) (fun _ _ _ q => OutX.trans F2 q) q2))
  · refine test_link (thn (hb.run pins s σ H (fun y H1 => ∃ (dy : D) (μ1 : Mu), Fr μ H μ1 H1 ∧ Sim X.K μ1 H1 ∧ EnvR X.K H1 ρ σ ∧ Rp X.K H1 dy y ∧ r x y H1 fun z H2 => ∃ k, z = .bl k ∧ ∃ μ2, Fr μ H μ2 H2 ∧ Sim X.K μ2 H2 ∧ EnvR X.K H2 ρ σ ∧ Rp X.K H2 dy y ∧
      (if k = true then chainRun (c :: cs) dy ρ μ2 (fun z μ' => onBl z fun k => Out (fun (_ : Hp) (b c : Bool) => b = c) X.K μ H Q k μ') (OutX X.K Wx σ μ H) else Out (fun (_ : Hp) (b c : Bool) => b = c) X.K μ H Q false μ2)) I (lW.bind (R := Rp X.K) E S h (fun y μ1 v H1 F1 S1 E1 r1 q1 => ?_) fun _ _ _ h => h)) fun u2 s1 ⟨y, H1, I1, r1, dy, μ1, F1, S1, E1, R1, q1⟩ =>
        thn (h1 pins s1 σ H1 x y u u2 _ I1 ru r1 q1) fun u3 s2 ⟨z, H2, I2, r2, k, e, μ2, F2, S2, E2, R2, q2⟩ => ?_)
    · refine ⟨y, μ1, F1, S1, E1, r1, h2 d y μ1 H1 x v _ S1 (Rp.keep S F1 d R) r1 (g.mono (fun z μ2 q z' H2 F2 S2 r2 => ?_) q1)⟩
      obtain ⟨k, e, q⟩ := onBl_v r2 (show onBl z _ from q)
      refine ⟨k, e, μ2, F1.trans F2, S2, E1.keep S1 F2, Rp.keep S1 F2 y r1, ?_⟩
      cases k with
      | false => exact q
      | true => exact q
    · subst e
      cases r2
      refine wpAny_truthy_bool ?_
      cases k with
      | false => exact ite_ff ⟨H2, I2, q2 _ _ F2 S2 rfl⟩
      | true => exact ite_tt (hc.t pos pins s2 σ H2 u2 y dy ρ μ2 Q I2 r1 R2 E2 S2 (chainRun_mono (fun z _ q => onBl_mono (fun _ q => Out.trans F2 q) q) (fun _ _ _ q => OutX.trans F2 q) q2))
def wChainN (a : WE) (cs : List (G2 × WE)) : WE := ⟨fun ρ μ Q X => a.run ρ μ (fun x μ1 => chainRun cs x ρ μ1 Q X) X, fun hQ hX h => a.mono (fun _ _ h => chainRun_mono hQ hX h) hX h⟩
theorem wChainN_run {a : WE} {cs : List (G2 × WE)} {ρ : Ev} {μ : Mu} {Q : PQ} {X : XQ} : (wChainN a cs).run ρ μ Q X = a.run ρ μ (fun x μ1 => chainRun cs x ρ μ1 Q X) X := rfl
theorem chainRun_last {g : G2} {w : WE} {x : D} {ρ : Ev} {μ : Mu} {Q : PQ} {X : XQ} : chainRun [(g, w)] x ρ μ Q X = w.run ρ μ (fun y μ1 => g.run x y μ1 Q) X := rfl
theorem chainRun_cons {g : G2} {w : WE} {c : G2 × WE} {cs : List (G2 × WE)} {x : D} {ρ : Ev} {μ : Mu} {Q : PQ} {X : XQ} : chainRun ((g, w) :: c :: cs) x ρ μ Q X = w.run ρ μ (fun y μ1 => g.run x y μ1 fun z μ2 => onBl z fun k => if k = true then chainRun (c :: cs) y ρ μ2 Q X else Q (.bl false) μ2) X := rfl
theorem le_chainN {op op' : CmpOp} {ops : List CmpOp} {a b b' : Expr} {bs : List Expr} {pos : Pos} {wa : WE} {cs : List (G2 × WE)} (ha : LE X Wx a wa) (hc : LCh X Wx (op :: op' :: ops) (b :: b' :: bs) cs) (hm : lastMarks (op :: op' :: ops) (b :: b' :: bs) = false := by with_unfolding_all rfl) :
    LE X Wx (.Compare a (op :: op' :: ops) (b :: b' :: bs) pos) (wChainN wa cs) := ⟨fun pins s σ H Q I ⟨ρ, μ, E, S, h⟩ =>
  Compare_chain (thn (ha.run pins s σ H (fun x H1 => ∃ (d : D) (μ1 : Mu), Fr μ H μ1 H1 ∧ Sim X.K μ1 H1 ∧ EnvR X.K H1 ρ σ ∧ Rp X.K H1 d x ∧ chainRun cs d ρ μ1 (Out (Rp X.K) X.K μ H Q) (OutX X.K Wx σ μ H)) I (lW.bind (R := Rp X.K) E S h (fun x μ1 v H1 F1 S1 E1 r1 q1 => ⟨x, μ1, F1, S1, E1, r1, q1⟩) fun _ _ _ h => h))
    fun u s1 ⟨x, H1, I1, ru, d, μ1, F1, S1, E1, R1, q1⟩ => hc.v pos pins s1 σ H1 u x d ρ μ1 Q I1 ru R1 E1 S1 (chainRun_mono (fun _ _ q => Out.trans F1 q) (fun _ _ _ q => OutX.trans F1 q) q1)) hm⟩
theorem lt_chainN {op op' : CmpOp} {ops : List CmpOp} {a b b' : Expr} {bs : List Expr} {pos : Pos} {wa : WE} {cs : List (G2 × WE)} (ha : LE X Wx a wa) (hc : LCh X Wx (op :: op' :: ops) (b :: b' :: bs) cs) (hm : lastMarks (op :: op' :: ops) (b :: b' :: bs) = false := by with_unfolding_all rfl) :
    LT X Wx (.Compare a (op :: op' :: ops) (b :: b' :: bs) pos) (wTB (wChainN wa cs)) := ⟨fun pins s σ H Q I ⟨ρ, μ, E, S, h⟩ =>
  isTrue_chain (thn (ha.run pins s σ H (fun x H1 => ∃ (d : D) (μ1 : Mu), Fr μ H μ1 H1 ∧ Sim X.K μ1 H1 ∧ EnvR X.K H1 ρ σ ∧ Rp X.K H1 d x ∧ chainRun cs d ρ μ1 (fun z μ' => onBl z fun k => Out (fun (_ : Hp) (b c : Bool) => b = c) X.K μ H Q k μ') (OutX X.K Wx σ μ H)) I (lW.bind (R := Rp X.K) E S h (fun x μ1 v H1 F1 S1 E1 r1 q1 => ⟨x, μ1, F1, S1, E1, r1, q1⟩) fun _ _ _ h => h))
    fun u s1 ⟨x, H1, I1, ru, d, μ1, F1, S1, E1, R1, q1⟩ => hc.t pos pins s1 σ H1 u x d ρ μ1 Q I1 ru R1 E1 S1 (chainRun_mono (fun z _ q => onBl_mono (fun _ q => Out.trans F1 q) q) (fun _ _ _ q => OutX.trans F1 q) q1)) hm⟩
end
end Sq

/-! The law's end. -/
namespace Sq
open PySem PySem.Spec PyProof.Rows L2
abbrev mu0 : Mu := fun _ => none
/-- the law's call, its script a list that is read alone -/
theorem law_go {P : Program} {w : World} {K : PySem.W.Frag} {mg mb : Str → Option Value} {k : Nat} {fa a : Addr} {fd : FuncData} {x : Str} {S : SpD} {t : Shared} {vs : List Value} {ns : List Int}
    (hK : K.In t.heap) (hG : t.heap.Ns mainGlobals mg) (hB : t.heap.Ns builtinsNs mb) (hBB : ∀ z : Str, z ≠ "__name__" → mb z = bootBuiltins z) (hL : t.heap.NoLimit) (hgen : t.gens = #[])
    (hobj : t.heap.get? a = some { cls := .type "list", data := .seq vs.toArray }) (hints : IntsAre vs ns) (hz : ns.length ≤ sizeLine) (hroom : Room k callerA)
    (F : ∀ base : Heap, K.In base → base.Ns mainGlobals mg → RunOk P w K mg base k fa fd [x] (spOf K 1 S)) (hbd : ∀ (s : Shared) (u : Value), BindsTo s fd ⟨[u], []⟩ [(x, u)])
    (hS : S.run [.rls (ns.map D.int)] mu0 (fun d _ => d = .bl true) XF) :
    codeAny (model P w) callerA (.call (.ref fa) ⟨[.ref a], []⟩) (fun r s' => r = .ok (.ret (.bool true)) ∧ OldK t.heap s'.heap ∧ s'.os = t.os ∧ AllBare s'.gens) t := by
  have hV := L2.vals_ints hints
  have hlen := hints.length
  suffices go : ∀ H : Hp, (∀ b, H b = none ∨ (b = a ∧ K.lookup a = none ∧ ∃ o xs, H b = some (.frz o (.lst xs)))) → SqR K H a (ns.map V.int) → HOk P w H t.heap →
      codeAny (model P w) callerA (.call (.ref fa) ⟨[.ref a], []⟩) (fun r s' => r = .ok (.ret (.bool true)) ∧ OldK t.heap s'.heap ∧ s'.os = t.os ∧ AllBare s'.gens) t by
    cases e : K.lookup a with
    | some o =>
      have e' := hK a o e
      rw [hobj] at e'; cases e'
      exact go (fun _ => none) (fun _ => .inl rfl) (.inr ⟨_, vs.toArray, _, e, rfl, rfl, rfl, by rw [List.size_toArray, hlen]; exact hz, by simpa using hV⟩) fun b u z => nomatch z
    | none =>
      refine go (fun b => if b = a then some (.frz { cls := .type "list", data := .seq vs.toArray } (.lst (ns.map V.int))) else none) (fun b => ?_) (.inl ⟨_, if_pos rfl⟩) fun b u z => ?_
      · by_cases q : b = a
        · exact .inr ⟨q, e, _, _, if_pos q⟩
        · exact .inl (if_neg q)
      · by_cases q : b = a
        · have z2 := (if_pos q).symm.trans z
          cases z2
          subst q
          exact ⟨hobj, by rw [List.length_map]; exact hz, vs, _, hV, hobj⟩
        · exact nomatch (if_neg q).symm.trans z
  intro H one seq hok
  have free : ∀ {b : Addr} {o : Obj}, t.heap.get? b = some o → (b = a → K.lookup a = none → False) → (hidT t.heap H).get? b = some o := fun {b o} e n => hidT_get e (by
    rcases one b with z | ⟨z1, z2, _⟩
    · exact z
    · exact (n z1 z2).elim)
  have inB : K.In (hidT t.heap H) := fun b o e => free (hK b o e) fun z1 z2 => by
    subst z1
    rw [e] at z2; cases z2
  have nsB : ∀ {b : Addr} {m : Str → Option Value}, t.heap.Ns b m → (hidT t.heap H).Ns b m := fun {b m} ⟨o, es, ep, e, d, r⟩ => ⟨o, es, ep, free e (fun z1 _ => by
    subst z1
    rw [hobj] at e; cases e
    have d2 : Data.seq vs.toArray _ = Data.dict es ep := d
    cases d2), d, r⟩
  have md : Mod K mg (hidT t.heap H) := ⟨inB, nsB hG, ⟨mb, nsB hB, hBB⟩, by
    obtain ⟨mc, c1, c2⟩ := hL
    exact ⟨mc, nsB c1, c2⟩⟩
  have en : Env0 P w K mg (hidT t.heap H) callerA [] t H := ⟨rfl, md, fun b o e => of_hidT e, Nat.le_of_eq (hidT_size _ _), trivial, fun b hb => absurd (show b ∈ ([] : List Addr) from hb) (by simp), hok, .of_eq hgen⟩
  have S0 : Sim K mu0 H := ⟨fun b o e => nomatch e⟩
  have R0 : Rps K H [.rls (ns.map D.int)] [.ref a] := by
    unfold Rps
    refine ⟨_, _, rfl, ?_, rfl⟩
    unfold Rp
    exact ⟨a, _, rfl, seq, Rps.of_ints ns⟩
  have sp0 : spOf K 1 S [.ref a] H (fun v _ => v = .bl true) (fun _ _ _ => False) := ⟨rfl, _, _, R0, S0, S.mono (fun d μ' q v H' _ _ r => by
    subst q
    exact r) (fun _ _ _ q => q.elim) hS⟩
  refine codeAny_mono (F _ inB (nsB hG) callerA [] t H ⟨[.ref a], []⟩ [.ref a] [.ref a] _ _ rfl hroom en (hbd t (.ref a)) (.cons rfl .nil) sp0) fun r s' h => ?_
  match r, h with
  | .error e, ⟨_, _, _, _, _, _, _, _, _, _, _, _, z⟩ => exact z.elim
  | .ok .next, h => exact False.elim h
  | .ok .brk, h => exact False.elim h
  | .ok .cont, h => exact False.elim h
  | .ok (.ret u), ⟨v, H', e1, e2, un, ok2, rv, q⟩ =>
    have q2 : v = .bl true := q
    subst q2
    obtain rfl : u = Value.bool true := rv
    refine ⟨rfl, OldK.of_keep fun b o e => ?_, e1, e2⟩
    rcases one b with z | ⟨_, _, ob, xs, z⟩
    · exact un.keep b o e z (fun y => absurd (show b ∈ ([] : List Addr) from y) (by simp)) (by simp)
    · obtain ⟨a1, _⟩ := hok b _ z
      obtain ⟨a2, _⟩ := ok2 b _ (un.frzs b ob _ z)
      rw [e] at a1; cases a1
      exact a2
/-- the row's walk, from the promise of the law's def -/
theorem law_walk {l : PySem.W.OpenLaw} {q : Program} {loose : List Str} {XP : (Str → Option Value) → Heap → Prop} {YP : World → Heap → Prop} {d : DefRec} {K : Params → PySem.W.Frag} {x : Str} {S : SpD} (k : Nat)
    (hn : l.most = some 63) (hdf : d.params.defaults = []) (hk : k ≤ 90)
    (hY : ∀ (w : World) (h : Heap), YP w h → (K w.params).In h)
    (F : ∀ (w : World) (mg : Str → Option Value) (fa : Addr) (h : Heap), (K w.params).In h → h.Ns mainGlobals mg → mg d.name = some (.ref fa) →
      ∃ fd : FuncData, (∀ (s : Shared) (u : Value), BindsTo s fd ⟨[u], []⟩ [(x, u)]) ∧ ∀ base : Heap, (K w.params).In base → base.Ns mainGlobals mg → RunOk l.prog w (K w.params) mg base k fa fd [x] (spOf (K w.params) 1 S))
    (hS : ∀ ns : List Int, ns.length ≤ 63 → (∀ z ∈ ns, Builtin.Int.intBits z ≤ 1048576) → S.run [.rls (ns.map D.int)] mu0 (fun d _ => d = .bl true) XF) :
    PySem.W.WalkO q loose XP YP l.row.toRowW d [] (fun f vs => PySem.call f vs) := by
  refine Att.attach_callB hn hdf fun w s₀ s₁ mg mb fa o pm cd doc a vs ns G Y ho hd hcd hmg hobj hints hlen hbits hg => ?_
  have KX := hY w _ Y
  obtain ⟨fd, hb, hF⟩ := F w mg fa _ KX G.T.g hmg
  refine law_go KX G.T.g G.T.b G.T.builtins G.T.nolimit hg hobj hints (Nat.le_trans hlen (by rw [sizeLine_eq]; decide)) ?_ hF hb (hS ns hlen hbits)
  exact L2.Room.mono (k := 90) ⟨rfl, by decide, by decide⟩ hk
end Sq
namespace Sq
open PySem PySem.Spec PyProof.Rows L2
/-- a def's promise by its body, for the function object at hand -/
theorem fn_run {P : Program} {w : World} {K : PySem.W.Frag} {mg : Str → Option Value} {base : Heap} {x : Str} {st : Stmt} {f : Addr} {fd : FuncData} {N ps : List Str} {k : Nat} {Sd : SpD} (F : Fun K x x st f fd) (S : FnScope N ps (defScope st)) (wb : WS)
    (hder : ∀ (cdv : Value) (A : Around) (outer : List Env) (s : Shared) (H : Hp) (E : XK), A.guards = some [] → Room k (A.deeper (envOfC x (defScope st) s.heap.objs.size f cdv)) → LSs (cxOf (L2.CX P w) P w K mg base N x (defScope st) f cdv A outer s H E) (wxE E) (defBody st) wb)
    (hread : ∀ (ds : List D) (μ : Mu) (Q : PQ) (X : XQ), ds.length = ps.length → Sd.run ds μ Q X → wb.run (bodyD Q X) (ev0 N.length ds) μ) : RunOk P w K mg base (k + 1) f fd ps (spOf K ps.length Sd) := by
  obtain ⟨oc, od, kV, doc, pm, an, cdv, ct, osl, efd, lk, hcd⟩ := F.ex
  intro A outer s H args us vs Q E hg hr e0 hbd r hsp
  subst efd
  refine LamX.run_ofS (N := N) lk hcd S hr e0 hbd r hsp.1 fun hr' => ⟨_, hder cdv A outer s H E hg hr', ?_⟩
  obtain ⟨hl, ds, μ, R, Sm, q⟩ := hsp
  have hd : ds.length = ps.length := by rw [← R.length]; exact hl
  refine ⟨ev0 N.length ds, μ, ?_, Sm, wb.mono (D := bodyD (Out (Rp K) K μ H Q) (OutE K μ H E)) ⟨?_, fun d μ' h => SubQ.out h, fun _ _ z => z.elim, fun _ _ z => z.elim, ?_⟩ (hread ds μ _ _ hd q)⟩
  · unfold ev0 L2.start
    rw [R.length]
    exact EnvR.start R
  · exact fun ρ μ' h σ' H' F' S' E' => SubQ.out h .non H' F' S' rfl
  · rintro ρ C d μ' ⟨μ'', s, q⟩ σ' dx v H' F' S' E' e r
    exact q dx v H' (sub_fr s F') (sub_sim s S') e r
end Sq

/-! Promises: shapes, the harness's pot. -/
namespace Sq
open PySem PySem.Spec PyProof.Rows L2
theorem u65 {A : Around} {k : Nat} (r : Room k A) : A.units + 65 < cLine := by have := r.un; omega
section
variable {X : Cx} {Wx : WX}
theorem le_globI {x : Str} {n : Int} {pos : Pos} (hm : ∃ t, X.mg x = some (.int n t)) (hg : Gl X x := by rfl) (hd : (x == ("__debug__" : Str)) = false := by decide) : LE X Wx (.Name x pos) (wC (.int n)) := by
  obtain ⟨t, hm⟩ := hm
  exact le_glob (v := .int n) hm ⟨t, rfl⟩ (fun _ => rfl) hg hd
theorem le_globS {x y : Str} {pos : Pos} (hm : ∃ t, X.mg x = some (.str y t)) (hg : Gl X x := by rfl) (hd : (x == ("__debug__" : Str)) = false := by decide) : LE X Wx (.Name x pos) (wC (.str y)) := by
  obtain ⟨t, hm⟩ := hm
  exact le_glob (v := .str y) hm ⟨t, rfl⟩ (fun _ => rfl) hg hd
end
abbrev t2 (x y : Int) : D := .tup [.int x, .int y]
abbrev f3 (a b c : Int) : D := .tup [.int a, .int b, .int c]
abbrev t4 (p q r s : Int) : D := .tup [.int p, .int q, .int r, .int s]
/-- a promise: what is asked of the arguments, then every result that may come -/
def spQ (P : List D → Mu → PQ → Prop) (m : ∀ {ds μ Q Q'}, (∀ d μ', Q d μ' → Q' d μ') → P ds μ Q → P ds μ Q') : SpD := ⟨fun ds μ Q _ => P ds μ Q, fun hQ _ h => m hQ h⟩
/-- one result, nothing kept in the store -/
def spR (R : List D → D → Prop) : SpD := ⟨fun ds μ Q _ => ∃ r, R ds r ∧ Q r μ, fun hQ _ ⟨r, h, q⟩ => ⟨r, h, hQ _ _ q⟩⟩
theorem spR_run {R : List D → D → Prop} {ds : List D} {μ : Mu} {Q : PQ} {X : XQ} : (spR R).run ds μ Q X = ∃ r, R ds r ∧ Q r μ := rfl
def spNo : SpD := ⟨fun _ _ _ _ => False, fun _ _ h => h⟩
def B64 (x : Int) : Prop := -(2 ^ 64) < x ∧ x < 2 ^ 64
theorem B64.l {i j : Int} (h : B64 i) : IntMulOk i j := mulOk_l h.1 h.2
theorem B64.r {i j : Int} (h : B64 j) : IntMulOk i j := mulOk_r h.1 h.2
theorem B64.mk {x : Int} (h1 : -18446744073709551616 < x) (h2 : x < 18446744073709551616) : B64 x := ⟨by omega, by omega⟩

/-! ### the pot: [own, small, lap] -/
def potL (x y z : Int) : List D := [.int x, .int y, .int z]
def PotAt (n : Nat) (μ : Mu) (p : Addr) : Prop := ∃ x y z : Int, μ p = some (.lst (potL x y z)) ∧ 0 ≤ x ∧ 0 ≤ y ∧ y < 2305843009213693952 ∧ 0 ≤ z ∧ z ≤ n
/-- the store with another pot at p -/
def potS (μ : Mu) (p : Addr) (x y z : Int) : Mu := mset μ p (.lst (potL x y z))
theorem PotAt.mk {n : Nat} {μ : Mu} {p : Addr} {x y z : Int} (h0 : 0 ≤ x) (h1 : 0 ≤ y) (h2 : y < 2305843009213693952) (h3 : 0 ≤ z) (h4 : z ≤ n) : PotAt n (potS μ p x y z) p := ⟨x, y, z, mset_same _ _ _, h0, h1, h2, h3, h4⟩
theorem PotAt.mono {n m : Nat} {μ : Mu} {p : Addr} (h : PotAt n μ p) (k : n ≤ m) : PotAt m μ p := by
  obtain ⟨x, y, z, h1, h2, h3, h4, h5, h6⟩ := h
  exact ⟨x, y, z, h1, h2, h3, h4, h5, by omega⟩
theorem PotAt.ne {n : Nat} {μ : Mu} {p q : Addr} (h : PotAt n μ p) (k : μ q = none) : p ≠ q := by
  obtain ⟨x, y, z, h1, _⟩ := h
  exact ne_free h1 k
theorem PotAt.new {n : Nat} {μ : Mu} {p q : Addr} {o : O} (h : PotAt n μ p) (k : μ q = none) : PotAt n (mset μ q o) p := by
  have := h.ne k
  obtain ⟨x, y, z, h1, r⟩ := h
  exact ⟨x, y, z, by rw [mset_ne this]; exact h1, r⟩
/-- the pot alone has changed -/
def PotTo (n : Nat) (μ μ' : Mu) (p : Addr) : Prop := PotAt n μ' p ∧ ∀ b, b ≠ p → μ' b = μ b
theorem PotTo.at_ {n : Nat} {μ μ' : Mu} {p : Addr} (h : PotTo n μ μ' p) : PotAt n μ' p := h.1
theorem PotTo.trans {n m : Nat} {μ μ1 μ2 : Mu} {p : Addr} (h : PotTo n μ μ1 p) (k : PotTo m μ1 μ2 p) : PotTo m μ μ2 p := ⟨k.1, fun b hb => (k.2 b hb).trans (h.2 b hb)⟩
theorem PotTo.mono {n m : Nat} {μ μ1 : Mu} {p : Addr} (h : PotTo n μ μ1 p) (k : n ≤ m) : PotTo m μ μ1 p := ⟨h.1.mono k, h.2⟩
theorem PotTo.refl {n : Nat} {μ : Mu} {p : Addr} (h : PotAt n μ p) : PotTo n μ μ p := ⟨h, fun _ _ => rfl⟩
theorem PotTo.of {n : Nat} {μ : Mu} {p : Addr} {x y z : Int} (h0 : 0 ≤ x) (h1 : 0 ≤ y) (h2 : y < 2305843009213693952) (h3 : 0 ≤ z) (h4 : z ≤ n) : PotTo n μ (potS μ p x y z) p := ⟨PotAt.mk h0 h1 h2 h3 h4, fun b hb => mset_ne hb⟩
/-- _law_take -/
def spTake : SpD := spQ (fun ds μ Q => ∃ p upto n, ds = [.ob p, .int upto] ∧ PotAt n μ p ∧ n ≤ 1000000 ∧ 0 < upto ∧ upto < 1099511627776 ∧ ∀ d μ', 0 ≤ d → d < upto → PotTo (n + 1) μ μ' p → Q (.int d) μ') fun hQ ⟨p, u, n, h1, h2, h3, h4, h5, h6⟩ => ⟨p, u, n, h1, h2, h3, h4, h5, fun d μ' a b c => hQ _ _ (h6 d μ' a b c)⟩
/-- _law_of -/
def spOfL : SpD := spQ (fun ds μ Q => ∃ p l n xs, ds = [.ob p, .ob l] ∧ PotAt n μ p ∧ n ≤ 1000000 ∧ μ l = some (.lst xs) ∧ xs ≠ [] ∧ xs.length < 1000 ∧ l ≠ p ∧ ∀ d μ', d ∈ xs → PotTo (n + 1) μ μ' p → Q d μ') fun hQ ⟨p, l, n, xs, h1, h2, h3, h4, h5, h6, h7, h8⟩ => ⟨p, l, n, xs, h1, h2, h3, h4, h5, h6, h7, fun d μ' a b => hQ _ _ (h8 d μ' a b)⟩
/-- _law_pot -/
def spPot : SpD := spQ (fun ds μ Q => ∃ (ns : List Int) (k : Int), ds = [.rls (ns.map D.int), .int k] ∧ ns.length ≤ 63 ∧ 0 ≤ k ∧ k < 1000 ∧ ∀ p μ', μ p = none → PotTo 0 μ μ' p → Q (.ob p) μ') fun hQ ⟨ns, k, h1, h2, h3, h4, h5⟩ => ⟨ns, k, h1, h2, h3, h4, fun p μ' a b => hQ _ _ (h5 p μ' a b)⟩
/-- _law_cells -/
def spCells : SpD := spQ (fun ds μ Q => ∃ (ns : List Int) (m : Int), ds = [.rls (ns.map D.int), .int m] ∧ ns.length ≤ 63 ∧ 0 < m ∧ m < 1000 ∧ ∀ p (k : Nat), μ p = none → k ≤ m → Q (.ob p) (mset μ p (.lst (rangeD 0 k)))) fun hQ ⟨ns, m, h1, h2, h3, h4, h5⟩ => ⟨ns, m, h1, h2, h3, h4, fun p k a b => hQ _ _ (h5 p k a b)⟩
end Sq

/-! For readings. -/
namespace Sq
open PySem PySem.Spec PyProof.Rows L2
section
variable {α : Type}
theorem ixN_nn {n j : Nat} (h : j < n) : L2.ixN n (j : Int) = some j := by
  unfold L2.ixN
  rw [if_pos (by omega), if_pos (by omega)]
  simp
theorem atI_nat {xs : List α} {n : Nat} {x : α} (h : xs[n]? = some x) : L2.atI xs (n : Int) = some x := by
  unfold L2.atI
  rw [ixN_nn (List.getElem?_eq_some_iff.mp h).1]
  exact h
theorem atI_int {xs : List α} {i : Int} {x : α} (h0 : 0 ≤ i) (h : xs[i.toNat]? = some x) : L2.atI xs i = some x := by
  obtain ⟨n, rfl⟩ := Int.eq_ofNat_of_zero_le h0
  exact atI_nat h
theorem atI_0 {x : α} {xs : List α} : L2.atI (x :: xs) 0 = some x := atI_nat (n := 0) rfl
theorem atI_1 {x y : α} {xs : List α} : L2.atI (x :: y :: xs) 1 = some y := atI_nat (n := 1) rfl
theorem atI_2 {x y z : α} {xs : List α} : L2.atI (x :: y :: z :: xs) 2 = some z := atI_nat (n := 2) rfl
theorem atI_3 {x y z u : α} {xs : List α} : L2.atI (x :: y :: z :: u :: xs) 3 = some u := atI_nat (n := 3) rfl
theorem atI_m4 {x y z u : α} : L2.atI [x, y, z, u] (-1) = some u := rfl
theorem ixN_0 {n : Nat} : L2.ixN (n + 1) 0 = some 0 := ixN_nn (j := 0) (by omega)
theorem ixN_1 {n : Nat} : L2.ixN (n + 2) 1 = some 1 := ixN_nn (j := 1) (by omega)
theorem ixN_30 : L2.ixN 3 0 = some 0 := rfl
theorem ixN_31 : L2.ixN 3 1 = some 1 := rfl
theorem ixN_32 : L2.ixN 3 2 = some 2 := rfl
end
/-- a comprehension by an invariant -/
theorem lcG_by {t : CT} {tt : WT} {te : WE} {chk : Mu → Prop} {ds : List D} {ρ : Ev} {k : List D → Mu → Prop} (P : Nat → List D → Mu → Prop) (hc : ∀ i acc μ, i ≤ ds.length → P i acc μ → chk μ)
    (hs : ∀ i d acc μ, ds[i]? = some d → P i acc μ → ∃ ρ1, t.set d ρ = some ρ1 ∧ tt.run ρ1 μ (fun b μ1 => if b = true then te.run ρ1 μ1 (fun y μ2 => P (i + 1) (acc ++ [y]) μ2) XF else P (i + 1) acc μ1) XF) (hd : ∀ acc μ, P ds.length acc μ → k acc μ) {μ : Mu} (h0 : P 0 [] μ) : lcG t tt te chk ds [] ρ μ k := by
  have key : ∀ (n : Nat) (i : Nat) (acc : List D) (μ : Mu), i + n = ds.length → P i acc μ → lcG t tt te chk (ds.drop i) acc ρ μ k := by
    intro n
    induction n with
    | zero =>
      intro i acc μ hi p
      have e : i = ds.length := by omega
      subst e
      rw [List.drop_length]
      exact ⟨hc _ _ _ (Nat.le_refl _) p, hd _ _ p⟩
    | succ n ih =>
      intro i acc μ hi p
      have hlt : i < ds.length := by omega
      rw [List.drop_eq_getElem_cons hlt]
      obtain ⟨ρ1, e1, q⟩ := hs i ds[i] acc μ (by simp [hlt]) p
      refine ⟨hc _ _ _ (Nat.le_of_lt hlt) p, ?_⟩
      rw [e1]
      refine tt.mono (fun b μ1 q => ?_) (fun _ _ _ q => q) q
      cases b with
      | true => exact te.mono (fun y μ2 q => ih (i + 1) _ μ2 (by omega) q) (fun _ _ _ q => q) q
      | false => exact ih (i + 1) _ μ1 (by omega) q
  have := key ds.length 0 [] μ (by omega) h0
  rwa [List.drop_zero] at this
/-- one that leaves the store alone -/
theorem lcG_pure {t : CT} {tt : WT} {te : WE} {chk : Mu → Prop} {ρ : Ev} {μ : Mu} {k : List D → Mu → Prop} (f : D → Option D) (hc : chk μ) : ∀ {ds acc : List D},
    (∀ d ∈ ds, ∃ ρ1, t.set d ρ = some ρ1 ∧ tt.run ρ1 μ (fun b μ1 => if b = true then te.run ρ1 μ1 (fun y μ2 => μ2 = μ ∧ f d = some y) XF else μ1 = μ ∧ f d = none) XF) → k (acc ++ ds.filterMap f) μ → lcG t tt te chk ds acc ρ μ k
  | [], acc, _, h => ⟨hc, by simpa using h⟩
  | d :: ds, acc, hs, h => by
    obtain ⟨ρ1, e1, q⟩ := hs d List.mem_cons_self
    refine ⟨hc, ?_⟩
    rw [e1]
    refine tt.mono (fun b μ1 q => ?_) (fun _ _ _ q => q) q
    cases b with
    | true => exact te.mono (fun y μ2 ⟨e, e2⟩ => by
        subst e
        exact lcG_pure f hc (fun d' hd => hs d' (List.mem_cons_of_mem _ hd)) (by simpa [List.filterMap_cons, e2] using h)) (fun _ _ _ q => q) q
    | false =>
      obtain ⟨e, e2⟩ := (show μ1 = μ ∧ f d = none from q)
      subst e
      exact lcG_pure f hc (fun d' hd => hs d' (List.mem_cons_of_mem _ hd)) (by simpa [List.filterMap_cons, e2] using h)
/-- one without a test that leaves the store alone -/
theorem lcG_map {t : CT} {te : WE} {chk : Mu → Prop} {ρ : Ev} {μ : Mu} {k : List D → Mu → Prop} (g : D → D) (hc : chk μ) {ds : List D}
    (hs : ∀ d ∈ ds, ∃ ρ1, t.set d ρ = some ρ1 ∧ te.run ρ1 μ (fun y μ2 => μ2 = μ ∧ y = g d) XF) (h : k (ds.map g) μ) : lcG t wYes te chk ds [] ρ μ k :=
  lcG_pure (fun d => some (g d)) hc (fun d hd => by
    obtain ⟨ρ1, e, q⟩ := hs d hd
    exact ⟨ρ1, e, te.mono (fun y μ2 ⟨e1, e2⟩ => ⟨e1, by rw [e2]⟩) (fun _ _ _ q => q) q⟩) (by simpa using h)
theorem sizeBig : 16000000 ≤ sizeLine := by rw [sizeLine_eq]; decide
theorem small_size {n : Nat} (h : n ≤ 16000000) : n ≤ sizeLine := Nat.le_trans h sizeBig
theorem SubQ.skip {Q : PQ} {d : D} {μ : Mu} {p : Addr} {o : O} (hp : μ p = none) (h : Q d μ) : SubQ Q d (mset μ p o) := SubQ.mk h (sub_new hp)
/-- a greater store -/
def Ext (μ μ' : Mu) : Prop := ∀ a o, μ a = some o → μ' a = some o
theorem Ext.refl (μ : Mu) : Ext μ μ := fun _ _ h => h
theorem Ext.trans {μ μ1 μ2 : Mu} (h : Ext μ μ1) (k : Ext μ1 μ2) : Ext μ μ2 := fun a o e => k a o (h a o e)
theorem Ext.free {μ μ' : Mu} {p : Addr} (h : Ext μ μ') (k : μ' p = none) : μ p = none := by
  cases e : μ p with
  | none => rfl
  | some o => rw [h p o e] at k; cases k
theorem Ext.new {μ μ' : Mu} {p : Addr} {o : O} (h : Ext μ μ') (k : μ' p = none) : Ext μ (mset μ' p o) := fun a u e => by rw [mset_ne (ne_free (h a u e) k)]; exact h a u e
/-- an object behind the old store is written -/
theorem Ext.set {μ μ' : Mu} {p : Addr} {o : O} (h : Ext μ μ') (k : μ p = none) : Ext μ (mset μ' p o) := fun a u e => by rw [mset_ne (ne_free e k)]; exact h a u e
theorem Ext.both {μ μ' : Mu} {p : Addr} {o : O} (h : Ext μ μ') : Ext (mset μ p o) (mset μ' p o) := fun a u e => by
  by_cases q : a = p
  · subst q; rw [mset_same] at e ⊢; exact e
  · rw [mset_ne q] at e ⊢; exact h a u e
theorem SubQ.ext {Q : PQ} {d : D} {μ μ' : Mu} (h : Q d μ) (e : Ext μ μ') : SubQ Q d μ' := SubQ.mk h e
theorem SubQ.new {Q : PQ} {p : Addr} {o : O} {μ μ' : Mu} (e : Ext μ μ') (k : μ' p = none) (h : ∀ p, μ p = none → Q (.ob p) (mset μ p o)) : SubQ Q (.ob p) (mset μ' p o) := SubQ.mk (h p (e.free k)) e.both
/-- the pot has changed, things have come -/
def PotX (n : Nat) (μ μ' : Mu) (p : Addr) : Prop := PotAt n μ' p ∧ ∀ b o, b ≠ p → μ b = some o → μ' b = some o
theorem PotTo.x {n : Nat} {μ μ' : Mu} {p : Addr} (h : PotTo n μ μ' p) : PotX n μ μ' p := ⟨h.1, fun b o hb e => by rw [h.2 b hb]; exact e⟩
theorem PotX.refl {n : Nat} {μ : Mu} {p : Addr} (h : PotAt n μ p) : PotX n μ μ p := ⟨h, fun _ _ _ e => e⟩
theorem PotX.trans {n m : Nat} {μ μ1 μ2 : Mu} {p : Addr} (h : PotX n μ μ1 p) (k : PotX m μ1 μ2 p) : PotX m μ μ2 p := ⟨k.1, fun b o hb e => k.2 b o hb (h.2 b o hb e)⟩
theorem PotX.step {n m : Nat} {μ μ1 μ2 : Mu} {p : Addr} (h : PotX n μ μ1 p) (k : PotTo m μ1 μ2 p) : PotX m μ μ2 p := h.trans k.x
theorem PotX.new {n : Nat} {μ μ1 : Mu} {p q : Addr} {o : O} (h : PotX n μ μ1 p) (k : μ1 q = none) : PotX n μ (mset μ1 q o) p := ⟨h.1.new k, fun b u hb e => by rw [mset_ne (ne_free (h.2 b u hb e) k)]; exact h.2 b u hb e⟩
theorem PotX.set {n : Nat} {μ μ1 : Mu} {p q : Addr} {o : O} (h : PotX n μ μ1 p) (k : μ q = none) (hq : q ≠ p) : PotX n μ (mset μ1 q o) p := ⟨by
  obtain ⟨x, y, z, e, r⟩ := h.1
  exact ⟨x, y, z, by rw [mset_ne (fun w => hq w.symm)]; exact e, r⟩, fun b u hb e => by rw [mset_ne (ne_free e k)]; exact h.2 b u hb e⟩
theorem PotX.mono {n m : Nat} {μ μ1 : Mu} {p : Addr} (h : PotX n μ μ1 p) (k : n ≤ m) : PotX m μ μ1 p := ⟨h.1.mono k, h.2⟩
theorem PotX.sub {n : Nat} {μ μ' : Mu} {p : Addr} {Q : PQ} {d : D} (h : PotX n μ μ' p) (q : ∀ μ'', PotTo n μ μ'' p → Q d μ'') : SubQ Q d μ' := by
  obtain ⟨x, y, z, e, h1, h2, h3, h4, h5⟩ := h.1
  refine ⟨potS μ p x y z, fun a o ha => ?_, q _ (PotTo.of h1 h2 h3 h4 h5)⟩
  by_cases k : a = p
  · subst k
    unfold potS at ha
    rw [mset_same] at ha; cases ha; exact e
  · unfold potS at ha
    rw [mset_ne k] at ha
    exact h.2 a o k ha
theorem at_new {μ : Mu} {p q : Addr} {o u : O} (h : μ p = some u) (hq : μ q = none) : mset μ q o p = some u := by rw [mset_ne (ne_free h hq)]; exact h
/-- one statement, then the rest -/
theorem seq_by {a b : WS} {D : PD} {ρ : Ev} {μ : Mu} (P : Ev → Mu → Prop) (h1 : a.run { D with nx := P } ρ μ) (h2 : ∀ ρ μ, P ρ μ → b.run D ρ μ) : (wSeq a b).run D ρ μ := by
  rw [wSeq_run]
  exact a.mono (D := { D with nx := P }) (D' := { D with nx := fun ρ1 μ1 => b.run D ρ1 μ1 }) ⟨h2, fun _ _ q => q, fun _ _ q => q, fun _ _ q => q, fun _ _ _ _ q => q⟩ h1
/-- a test that leaves things alone -/
theorem if_by {c : WT} {a b : WS} {D : PD} {ρ : Ev} {μ : Mu} (k : Bool) (h : c.run ρ μ (fun k' μ1 => k' = k ∧ μ1 = μ) (D.ex ρ)) (h1 : k = true → a.run D ρ μ) (h2 : k = false → b.run D ρ μ) : (wIf c a b).run D ρ μ := by
  rw [wIf_run]
  refine c.mono (fun k' μ1 ⟨e1, e2⟩ => ?_) (fun _ _ _ q => q) h
  subst e1 e2
  cases k' with
  | true => exact h1 rfl
  | false => exact h2 rfl
theorem gLen_run {x : D} {μ : Mu} {Q : PQ} : gLen.run [x] μ Q = fLen x μ Q := rfl
theorem gAbs_run {x : D} {μ : Mu} {Q : PQ} : gAbs.run [x] μ Q = fAbs x μ Q := rfl
theorem gInt_run {x : D} {μ : Mu} {Q : PQ} : gInt.run [x] μ Q = fInt x μ Q := rfl
theorem gAll_run {x : D} {μ : Mu} {Q : PQ} : gAll.run [x] μ Q = fAll x μ Q := rfl
theorem gAny_run {x : D} {μ : Mu} {Q : PQ} : gAny.run [x] μ Q = fAny x μ Q := rfl
theorem gSum_run {x : D} {μ : Mu} {Q : PQ} : gSum.run [x] μ Q = fSum x μ Q := rfl
theorem gTuple_run {x : D} {μ : Mu} {Q : PQ} : gTuple.run [x] μ Q = fTuple x μ Q := rfl
theorem gList_run {x : D} {μ : Mu} {Q : PQ} : gList.run [x] μ Q = fList x μ Q := rfl
theorem gSorted_run {x : D} {μ : Mu} {Q : PQ} : gSorted.run [x] μ Q = fSorted x μ Q := rfl
theorem gRepr_run {x : D} {μ : Mu} {Q : PQ} : gRepr.run [x] μ Q = fRepr x μ Q := rfl
theorem gMax2_run {i j : Int} {μ : Mu} {Q : PQ} : gMax2.run [.int i, .int j] μ Q = Q (.int (if j > i then j else i)) μ := rfl
theorem gMin2_run {i j : Int} {μ : Mu} {Q : PQ} : gMin2.run [.int i, .int j] μ Q = Q (.int (if j < i then j else i)) μ := rfl
theorem gAppend_run {a : Addr} {xs ds : List D} {μ : Mu} {Q : PQ} : gAppend.run a xs ds μ Q = fAppend a xs ds μ Q := rfl
theorem gExtend_run {a : Addr} {xs ds : List D} {μ : Mu} {Q : PQ} : gExtend.run a xs ds μ Q = fExtend a xs ds μ Q := rfl
end Sq

/-! Data without addresses: ==, in, sorted, repr. -/
namespace Sq
open PySem PySem.Spec PyProof.Rows L2
mutual
/-- none, ints, texts, tuples of these -/
def plainD : D → Bool
  | .non => true | .int _ => true | .str x => PyData.strOk x
  | .tup ds => plainDs ds
  | .bl _ => false | .ob _ => false | .rls _ => false
def plainDs : List D → Bool
  | [] => true | d :: ds => plainD d && plainDs ds
end
theorem plainDs_all : ∀ ds : List D, plainDs ds = ds.all plainD
  | [] => rfl
  | d :: ds => by unfold plainDs; rw [plainDs_all ds]; rfl
mutual
theorem plain_pure : ∀ {d : D}, plainD d = true → pureD d = true
  | .non, _ => rfl
  | .int _, _ => rfl
  | .str _, _ => rfl
  | .tup ds, h => by unfold plainD at h; unfold pureD; exact plain_pures h
  | .bl _, _ => rfl
  | .ob _, h => by unfold plainD at h; cases h
  | .rls _, h => by unfold plainD at h; cases h
theorem plain_pures : ∀ {ds : List D}, plainDs ds = true → pureDs ds = true
  | [], _ => rfl
  | d :: ds, h => by
    unfold plainDs at h
    rw [Bool.and_eq_true] at h
    unfold pureDs
    rw [plain_pure h.1, plain_pures h.2]; rfl
end
mutual
theorem plain_lay : ∀ {d : D}, plainD d = true → (encD d).canLay0 = true
  | .non, _ => rfl
  | .int _, _ => rfl
  | .str _, h => by unfold plainD at h; unfold encD PyData.canLay0; exact h
  | .tup ds, h => by unfold plainD at h; unfold encD PyData.canLay0; exact plain_lays h
  | .bl _, _ => rfl
  | .ob _, h => by unfold plainD at h; cases h
  | .rls _, h => by unfold plainD at h; cases h
theorem plain_lays : ∀ {ds : List D}, plainDs ds = true → PyData.canLayAll0 (encDs ds) = true
  | [], _ => rfl
  | d :: ds, h => by
    unfold plainDs at h
    rw [Bool.and_eq_true] at h
    unfold encDs PyData.canLayAll0
    rw [plain_lay h.1, plain_lays h.2]; rfl
end
mutual
theorem plain_eqv : ∀ {d e : D}, plainD d = true → plainD e = true → (PyData.eqv (encD d) (encD e) = true ↔ d = e)
  | .non, .non, _, _ => by simp [encD, PyData.eqv]
  | .non, .int _, _, _ => by simp [encD, PyData.eqv]
  | .non, .str _, _, _ => by simp [encD, PyData.eqv]
  | .non, .tup _, _, _ => by simp [encD, PyData.eqv]
  | .int _, .non, _, _ => by simp [encD, PyData.eqv]
  | .int i, .int j, _, _ => by simp [encD, PyData.eqv]
  | .int _, .str _, _, _ => by simp [encD, PyData.eqv]
  | .int _, .tup _, _, _ => by simp [encD, PyData.eqv]
  | .str _, .non, _, _ => by simp [encD, PyData.eqv]
  | .str _, .int _, _, _ => by simp [encD, PyData.eqv]
  | .str _, .str _, _, _ => by simp [encD, PyData.eqv]
  | .str _, .tup _, _, _ => by simp [encD, PyData.eqv]
  | .tup _, .non, _, _ => by simp [encD, PyData.eqv]
  | .tup _, .int _, _, _ => by simp [encD, PyData.eqv]
  | .tup _, .str _, _, _ => by simp [encD, PyData.eqv]
  | .tup xs, .tup ys, h, k => by
    unfold plainD at h k
    have := plains_eqv h k
    simp only [encD, PyData.eqv, this, D.tup.injEq]
  | .bl _, _, h, _ => by unfold plainD at h; cases h
  | .ob _, _, h, _ => by unfold plainD at h; cases h
  | .rls _, _, h, _ => by unfold plainD at h; cases h
  | _, .bl _, _, k => by unfold plainD at k; cases k
  | _, .ob _, _, k => by unfold plainD at k; cases k
  | _, .rls _, _, k => by unfold plainD at k; cases k
theorem plains_eqv : ∀ {ds es : List D}, plainDs ds = true → plainDs es = true → (PyData.eqvAll (encDs ds) (encDs es) = true ↔ ds = es)
  | [], [], _, _ => by simp [encDs, PyData.eqvAll]
  | [], _ :: _, _, _ => by simp [encDs, PyData.eqvAll]
  | _ :: _, [], _, _ => by simp [encDs, PyData.eqvAll]
  | d :: ds, e :: es, h, k => by
    unfold plainDs at h k
    rw [Bool.and_eq_true] at h k
    simp only [encDs, PyData.eqvAll, Bool.and_eq_true, plain_eqv h.1 k.1, plains_eqv h.2 k.2, List.cons.injEq]
end
theorem plains_mem {ds : List D} (h : plainDs ds = true) : ∀ d ∈ ds, plainD d = true := by
  rw [plainDs_all, List.all_eq_true] at h; exact h
theorem plains_of {ds : List D} (h : ∀ d ∈ ds, plainD d = true) : plainDs ds = true := by
  rw [plainDs_all, List.all_eq_true]; exact h
/-- as a whole: plain, not deep -/
def okD (d : D) : Bool := plainD d && decide ((encD d).depth ≤ 60)
theorem okD.p {d : D} (h : okD d = true) : plainD d = true := by unfold okD at h; rw [Bool.and_eq_true] at h; exact h.1
theorem okD.d {d : D} (h : okD d = true) : (encD d).depth ≤ 60 := by unfold okD at h; rw [Bool.and_eq_true] at h; exact of_decide_eq_true h.2
theorem okD.shaped {d : D} (h : okD d = true) : SeqAt.shaped (encD d) = true := by
  unfold SeqAt.shaped
  rw [plain_lay (okD.p h), decide_eq_true (Nat.le_trans (okD.d h) (by decide))]; rfl
theorem EqB_tup {xs ys : List D} {μ : Mu} {Q : Bool → Prop} (hx : okD (.tup xs) = true) (hy : okD (.tup ys) = true) (h1 : xs = ys → Q true) (h2 : xs ≠ ys → Q false) : EqB (.tup xs) (.tup ys) μ Q := by
  refine (show EqP (.tup xs) (.tup ys) μ Q from ⟨_, _, pure_dpy (plain_pure (okD.p hx)), pure_dpy (plain_pure (okD.p hy)), okD.shaped hx, okD.shaped hy, ?_⟩)
  have e := plain_eqv (okD.p hx) (okD.p hy)
  by_cases h : xs = ys
  · rw [e.mpr (by rw [h])]; exact h1 h
  · have : PyData.eqv (encD (.tup xs)) (encD (.tup ys)) = false := by
      rw [← Bool.not_eq_true, e]
      exact fun z => h (D.tup.inj z)
    rw [this]; exact h2 h
theorem depthAll_le {n : Nat} : ∀ {ds : List D}, (∀ d ∈ ds, (encD d).depth ≤ n) → PyData.depthAll (encDs ds) ≤ n
  | [], _ => Nat.zero_le _
  | d :: ds, h => by
    unfold encDs PyData.depthAll
    exact Nat.max_le.mpr ⟨h d List.mem_cons_self, depthAll_le fun e he => h e (List.mem_cons_of_mem _ he)⟩
/-- a list of plain things in the store -/
theorem dpy_lst {μ : Mu} {a : Addr} {ds : List D} (e : μ a = some (.lst ds)) (h : ∀ d ∈ ds, okD d = true) : DPy μ (.ob a) (.list (encDs ds)) ∧ SeqAt.shaped (.list (encDs ds)) = true := by
  have hp : plainDs ds = true := plains_of fun d hd => okD.p (h d hd)
  refine ⟨.lst e (pure_dpys (plain_pures hp)), ?_⟩
  have h1 : PyData.depthAll (encDs ds) ≤ 60 := depthAll_le fun d hd => okD.d (h d hd)
  unfold SeqAt.shaped PyData.canLay0 PyData.depth
  rw [plain_lays hp, decide_eq_true (by omega)]; rfl
theorem InP_lst {x : D} {a : Addr} {ds : List D} {μ : Mu} {Q : Bool → Prop} (e : μ a = some (.lst ds)) (hx : okD x = true) (hd : ∀ d ∈ ds, okD d = true) (h1 : x ∈ ds → Q true) (h2 : x ∉ ds → Q false) : InP x (.ob a) μ Q := by
  refine ⟨_, _, pure_dpy (plain_pure (okD.p hx)), .inl (dpy_lst e hd), okD.shaped hx, ?_⟩
  have key : ((encDs ds).any fun z => PyData.eqv z (encD x)) = true ↔ x ∈ ds := by
    rw [encDs_map, List.any_map, List.any_eq_true]
    constructor
    · rintro ⟨d, hm, hq⟩
      have := (plain_eqv (okD.p (hd d hm)) (okD.p hx)).mp hq
      rw [← this]; exact hm
    · intro hm
      exact ⟨x, hm, (plain_eqv (okD.p hx) (okD.p hx)).mpr rfl⟩
  by_cases h : x ∈ ds
  · rw [key.mpr h]; exact h1 h
  · rw [Bool.eq_false_iff.mpr (fun z => h (key.mp z))]; exact h2 h
/-- two lists of the store -/
theorem EqB_lst {a b : Addr} {xs ys : List D} {μ : Mu} {Q : Bool → Prop} (ea : μ a = some (.lst xs)) (eb : μ b = some (.lst ys)) (hx : ∀ d ∈ xs, okD d = true) (hy : ∀ d ∈ ys, okD d = true) (h1 : xs = ys → Q true) (h2 : xs ≠ ys → Q false) : EqB (.ob a) (.ob b) μ Q := by
  obtain ⟨p1, s1⟩ := dpy_lst ea hx
  obtain ⟨p2, s2⟩ := dpy_lst eb hy
  refine (show EqP (.ob a) (.ob b) μ Q from ⟨_, _, p1, p2, s1, s2, ?_⟩)
  have e := plains_eqv (plains_of fun d hd => okD.p (hx d hd)) (plains_of fun d hd => okD.p (hy d hd))
  by_cases h : xs = ys
  · rw [show PyData.eqv (.list (encDs xs)) (.list (encDs ys)) = true from e.mpr h]; exact h1 h
  · have : PyData.eqv (.list (encDs xs)) (.list (encDs ys)) = false := Bool.eq_false_iff.mpr fun z => h (e.mp z)
    rw [this]; exact h2 h

/-! ### the order of tuples of ints -/
def tupI (xs : List Int) : D := .tup (xs.map D.int)
theorem encD_tupI (xs : List Int) : encD (tupI xs) = .tuple (xs.map PyData.int) := by unfold tupI encD; rw [encD_ints]
theorem leD_tupI (xs ys : List Int) : leD (tupI xs) (tupI ys) = !decide (ys < xs) := by
  show (!PySem.W.dataLt (encD (tupI ys)) (encD (tupI xs))) = _
  rw [encD_tupI, encD_tupI, PySem.W.dataLt_tuple]
  exact congrArg not (PySem.W.dataLt_ints ys xs)
theorem leD_total : PySem.W.TotalLe leD := PySem.W.sortLe_total _ false _
theorem leD_anti {xs ys : List Int} (h1 : leD (tupI xs) (tupI ys) = true) (h2 : leD (tupI ys) (tupI xs) = true) : xs = ys := by
  rw [leD_tupI, Bool.not_eq_true', decide_eq_false_iff_not] at h1 h2
  exact List.le_antisymm (show xs ≤ ys from h1) (show ys ≤ xs from h2)
theorem alikeAll_ints (xs ys : List Int) : PySem.W.alike (encD (tupI xs)) (encD (tupI ys)) = true := by
  rw [encD_tupI, encD_tupI, PySem.W.alike]
  exact PySem.W.alike_ints xs ys
theorem okD_tupI (xs : List Int) : okD (tupI xs) = true := by
  unfold okD tupI plainD
  have h1 : plainDs (xs.map D.int) = true := plains_of fun d hd => by
    obtain ⟨i, _, rfl⟩ := List.mem_map.mp hd; rfl
  have h2 : (encD (.tup (xs.map D.int))).depth = 1 := by
    unfold encD PyData.depth
    rw [encD_ints, PySem.W.depth_ints]
  rw [h1, h2]; rfl
/-- tuples of ints, none without parts, may be sorted -/
theorem sortOk_ints {ds : List D} (h : ∀ d ∈ ds, ∃ x xs, d = tupI (x :: xs)) : SortOk ds := by
  refine ⟨fun d hd => ?_, ?_, .inl fun e he => ?_, fun d hd => ?_⟩
  · obtain ⟨x, xs, rfl⟩ := h d hd
    exact plain_pure (okD.p (okD_tupI _))
  · intro e he e' he'
    obtain ⟨d, hd, rfl⟩ := List.mem_map.mp he
    obtain ⟨d', hd', rfl⟩ := List.mem_map.mp he'
    obtain ⟨x, xs, rfl⟩ := h d hd
    obtain ⟨y, ys, rfl⟩ := h d' hd'
    exact alikeAll_ints _ _
  · obtain ⟨d, hd, rfl⟩ := List.mem_map.mp he
    obtain ⟨x, xs, rfl⟩ := h d hd
    exact ⟨.int x, xs.map PyData.int, by rw [encD_tupI]; rfl⟩
  · obtain ⟨x, xs, rfl⟩ := h d hd
    exact okD.d (okD_tupI _)
/-- sorted: one list for all sequences of it -/
theorem sort_perm {ds es : List D} (h : ∀ d ∈ ds, ∃ xs, d = tupI xs) (p : ds.Perm es) : ds.mergeSort leD = es.mergeSort leD := by
  have tr : ∀ a b c : D, leD a b = true → leD b c = true → leD a c = true := leD_total.trans
  have to : ∀ a b : D, (leD a b || leD b a) = true := fun a b => by
    have := leD_total.total a b
    simpa [Bool.or_eq_true] using this
  refine List.Perm.eq_of_pairwise (le := fun a b => leD a b = true) (fun a b ha hb h1 h2 => ?_) (List.pairwise_mergeSort tr to ds) (List.pairwise_mergeSort tr to es) ((List.mergeSort_perm ds leD).trans (p.trans (List.mergeSort_perm es leD).symm))
  obtain ⟨xs, rfl⟩ := h a (List.mem_mergeSort.mp ha)
  obtain ⟨ys, rfl⟩ := h b (p.mem_iff.mpr (List.mem_mergeSort.mp hb))
  rw [leD_anti h1 h2]
end Sq

/-! How long shown data are. -/
namespace Sq
open PySem PySem.Spec PyProof.Rows L2
theorem tupleText_len (ts : List Str) : (tupleText ts).length ≤ piled ts + 3 := by
  unfold tupleText
  rw [Str.length_append, Str.length_append]
  have h1 : (("(" : Str)).length = 1 := rfl
  have h2 : (Str.ofString (if (ts.length == 1) = true then ",)" else ")")).length ≤ 2 := by split <;> decide
  have h3 : (Str.join ", " ts).length ≤ piled ts := by
    by_cases h : ts = []
    · subst h; decide
    · have := join_length_add ts h
      omega
  omega
theorem piled_le {n : Nat} : ∀ {ts : List Str}, (∀ t ∈ ts, t.length ≤ n) → piled ts ≤ (n + 2) * ts.length
  | [], _ => by simp [piled]
  | t :: ts, h => by
    have h1 := h t List.mem_cons_self
    have h2 := piled_le (n := n) (ts := ts) fun u hu => h u (List.mem_cons_of_mem _ hu)
    rw [List.length_cons, Nat.mul_succ, piled_cons]
    omega
theorem shownAll_map : ∀ ds : List PyData, PyData.shownAll ds = ds.map PyData.shown
  | [] => rfl
  | d :: ds => by unfold PyData.shownAll; rw [shownAll_map ds]; rfl
theorem shown_tups {n : Nat} {ds : List D} (h : ∀ d ∈ ds, (encD d).shown.length ≤ n) : (encD (.tup ds)).shown.length ≤ (n + 2) * ds.length + 3 := by
  have e : (encD (.tup ds)).shown = tupleText (PyData.shownAll (encDs ds)) := by unfold encD PyData.shown; rfl
  rw [e]
  refine Nat.le_trans (tupleText_len _) (Nat.add_le_add_right ?_ 3)
  have := piled_le (n := n) (ts := PyData.shownAll (encDs ds)) (by
    rw [shownAll_map, encDs_map]
    intro t ht
    obtain ⟨p, hp, rfl⟩ := List.mem_map.mp ht
    obtain ⟨d, hd, rfl⟩ := List.mem_map.mp hp
    exact h d hd)
  rw [shownAll_map, encDs_map, List.length_map, List.length_map] at this
  rw [shownAll_map, encDs_map]
  exact this
theorem shown_int {i : Int} (h : i.natAbs < 10 ^ 30) : (encD (.int i)).shown.length ≤ 31 := by
  have e : (encD (.int i)).shown = Str.ofString (toString i) := by unfold encD PyData.shown; rfl
  rw [e]
  have := int_text_length_le10 (k := 30) (by decide) h
  rw [PySem.ofString_length]
  omega
def smallI (i : Int) : Prop := -10 ^ 30 < i ∧ i < 10 ^ 30
theorem smallI.abs {i : Int} (h : smallI i) : i.natAbs < 10 ^ 30 := by
  obtain ⟨h1, h2⟩ := h
  omega
theorem shown_tupI {xs : List Int} (h : ∀ x ∈ xs, smallI x) : (encD (tupI xs)).shown.length ≤ 33 * xs.length + 3 := by
  have := shown_tups (n := 31) (ds := xs.map D.int) (fun d hd => by
    obtain ⟨i, hi, rfl⟩ := List.mem_map.mp hd
    exact shown_int (h i hi).abs)
  rw [List.length_map] at this
  exact this
mutual
def litI : D → Prop
  | .int i => smallI i
  | .tup ds => litIs ds
  | .non => True | .str _ => True
  | _ => False
def litIs : List D → Prop
  | [] => True | d :: ds => litI d ∧ litIs ds
end
mutual
theorem lit_show : ∀ {d : D}, litI d → (encD d).showable = true
  | .int i, h => by
    unfold litI at h
    unfold encD PyData.showable
    have h1 := h.abs
    have : i.natAbs.log2 < 1920 := by
      by_cases h0 : i.natAbs = 0
      · rw [h0]; decide
      · rw [Nat.log2_lt h0]
        have : (10 ^ 30 : Nat) < 2 ^ 100 := by decide
        have : (2 ^ 100 : Nat) ≤ 2 ^ 1920 := Nat.pow_le_pow_right (by decide) (by decide)
        omega
    exact decide_eq_true this
  | .tup ds, h => by
    unfold litI at h
    unfold encD PyData.showable
    exact lits_show h
  | .non, _ => rfl
  | .str _, _ => rfl
  | .bl _, h => by unfold litI at h; exact h.elim
  | .ob _, h => by unfold litI at h; exact h.elim
  | .rls _, h => by unfold litI at h; exact h.elim
theorem lits_show : ∀ {ds : List D}, litIs ds → PyData.showableAll (encDs ds) = true
  | [], _ => rfl
  | d :: ds, h => by
    unfold litIs at h
    unfold encDs PyData.showableAll
    rw [lit_show h.1, lits_show h.2]; rfl
end
theorem litIs_of : ∀ {ds : List D}, (∀ d ∈ ds, litI d) → litIs ds
  | [], _ => by unfold litIs; trivial
  | d :: ds, h => by unfold litIs; exact ⟨h d List.mem_cons_self, litIs_of fun e he => h e (List.mem_cons_of_mem _ he)⟩
theorem lit_tupI {xs : List Int} (h : ∀ x ∈ xs, smallI x) : litI (tupI xs) := by
  unfold tupI litI
  exact litIs_of fun d hd => by
    obtain ⟨i, hi, rfl⟩ := List.mem_map.mp hd
    unfold litI; exact h i hi
theorem fRepr_ok {x : D} {μ : Mu} {Q : PQ} (h1 : okD x = true) (h2 : litI x) (h3 : (encD x).shown.length ≤ sizeLine) (q : Q (.str (encD x).shown) μ) : fRepr x μ Q :=
  ⟨_, pure_dpy (plain_pure (okD.p h1)), okD.shaped h1, lit_show h2, h3, q⟩
end Sq

/-! An error's own __init__: super().__init__(value); self.value = value. -/
namespace Sq
open PySem PySem.Spec PyProof.Rows L2
/-- what the written part says of an error's class C whose __init__, of the class D, is the function at f -/
structure ErrC (prog : Program) (K : PySem.W.Frag) (mg : Str → Option Value) (C D f : Addr) : Prop where
  ox : OexC K C
  iC : PySem.W.findIn K (.ref C) "__init__" = some (some (.ref f))
  tI : PySem.W.typeIn K (.ref f) = some (.type "function")
  nV : PySem.W.findIn K (.ref C) "value" = some none
  sup : PySem.W.ks_superIn K C D "__init__" = some (some (.builtin "ValueError.__init__"))
  sub : PySem.W.subIn K (.ref C) (.type "ValueError") = some true
  opq : PySem.W.nsIn K cStatics "thirdparty.any" = some none
  mro : PySem.W.mroIn K C (.ref D) = some true
  isD : ∃ cdD, PySem.W.clsIn K D = some cdD
section
variable {prog : Program} {w : World} {A : Around} {E : Value → Shared → Prop} {K : PySem.W.Frag} {mg : Str → Option Value}
/-- the wrapper of ValueError.__init__ called -/
theorem ve_call {C e t1 u : Addr} {nm q : Str} {N : Addr} {bs bm sub : List Value} {sn : List Str} {ab : Bool} {col : Option Bool} {dd : Option Addr} {k0 k1 k2 k3 k5 : Option Value} {rest : List Value} {h : Heap} {g : Array GenState} {d : Drawn} {t : Nat} {os : OsState} {Q : Value → Shared → Prop}
    (hC : h.get? C = some (excClassObj nm q C N bs bm true sn sub ab col dd k0 k1 k2 k3 k5 "ValueError.__new__")) (he : h.get? e = some ({ cls := .ref C, dict := none, data := .fields #[.ref t1, .none, .none, .none, .bool false, .none] } : Obj))
    (hu : h.get? u = some (PySem.W.kxs_mw "ValueError.__init__" e)) (hz : rest.length ≤ sizeLine)
    (hq : ∀ h' t2, (∀ b o, b ≠ e → h.get? b = some o → h'.get? b = some o) → h'.get? e = some ({ cls := .ref C, dict := none, data := .fields #[.ref t2, .none, .none, .none, .bool false, .none] } : Obj) → Q .none ⟨h', g, d, t, os⟩) :
    wpAny (model prog w) A (call (.ref u) rest) Q E ⟨h, g, d, t, os⟩ := by
  refine wpAny_call (codeAny_of_tree ?_)
  show wpAny _ A.in1 (callAny (.ref u) ⟨rest, []⟩) _ _ _
  simp only [callAny]
  refine wpAny_bind (wpAny_load hu ?_)
  have mwk : (Value.type "method-wrapper" == Value.type "method" || Value.type "method-wrapper" == Value.type "builtin_function_or_method" || Value.type "method-wrapper" == Value.type "method-wrapper") = true := by decide
  simp only [PySem.W.kxs_mw, mwk, if_true]
  refine PySem.W.KFB.if_so (by decide) ?_
  refine wpAny_bind (PySem.W.check_bound_init F.excBase_ValueError.toExcCallFacts hC he rfl ?_)
  refine wpAny_bind (wpAny_pure (wpAny_pure ?_))
  refine ⟨plainId_quiet F.excBase_ValueError.init.plain _, codeAny_builtin F.excBase_ValueError.initEntry ?_⟩
  refine PySem.W.exc_init_tree (cls := .ref C) (t0 := t1) (dv := none) (c2 := .none) (c3 := .none) (b4 := .bool false) he hz fun h' k e' _ => ?_
  exact hq h' _ k e'
end
/-- what the written part says of the def __init__ at f: its cell of __class__ at cc, its code at cda -/
structure InitF (prog : Program) (K : PySem.W.Frag) (D f cc cda : Addr) (qual : Str) (scope : Scope) (fd : FuncData) : Prop where
  lk : ∃ oc od osl, K.lookup f = some ⟨oc, od, .func fd, osl⟩
  cell : ∃ cl cld csl, K.lookup cc = some ⟨cl, cld, .cell (some (.ref D)), csl⟩
  code : ∃ ccl cdd vs ccs file tf, K.lookup cda = some ⟨ccl, cdd, .fields vs, ccs⟩ ∧ vs[2]? = some (.str file tf) ∧ ((prog.main.file : Str) == file) = true
  hcd : PySem.W.codeIn K (.ref cda) qual = true
  top : (prog.main.scope.names.lookup ("super" : Str)).isSome = false
/-- the context of the body of __init__ -/
def initCx (P : Program) (w : World) (K : PySem.W.Frag) (mg : Str → Option Value) (base : Heap) (qual : Str) (scope : Scope) (f cda cc : Addr) (A : Around) (outer : List Env) (s : Shared) (H : Hp) : Cx where
  prog := P
  w := w
  K := K
  mg := mg
  base := base
  A := A.deeper (PySem.W.ksEnv qual scope s.heap.objs.size f (.ref cda) cc)
  N := ["self", "value"]
  s_0 := s
  H_0 := H
  env := PySem.W.ksEnv qual scope s.heap.objs.size f (.ref cda) cc
  outer := outer
  stack := PySem.W.ksEnv qual scope s.heap.objs.size f (.ref cda) cc :: outer
  ex := []
  fn := fun _ => false
  calm := true
  pn := []
  xe := fun _ _ => False
/-- self, value, __class__, super -/
structure InitS (scope : Scope) : Prop where
  kind : scope.kind = .function
  co : scope.isCoroutine = false
  gen : scope.isGenerator = false
  self : scope.names.lookup ("self" : Str) = some .local
  value : scope.names.lookup ("value" : Str) = some .local
  cls : scope.names.lookup ("__class__" : Str) = some .free
  sup : scope.names.lookup ("super" : Str) = some .globalImplicit
  nocell : ∀ y ∈ scope.names, y.2 ≠ .cell
  free : ∀ y ∈ scope.names, y.2 = .free → y.1 = "__class__"
section
variable {P : Program} {w : World} {K : PySem.W.Frag} {mg : Str → Option Value} {base : Heap} {qual : Str} {scope : Scope} {D f cc cda : Addr} {fd : FuncData}
theorem cells1 {cc c : Addr} {y : Str} (h : ([("__class__", cc)] : List (Str × Addr)).lookup y = some c) : y = "__class__" ∧ c = cc := by
  by_cases e : y = "__class__"
  · subst e
    have h2 : some cc = some c := h
    cases h2
    exact ⟨rfl, rfl⟩
  · have e2 : (y == ("__class__" : Str)) = false := by simpa using e
    have h2 : (match (y == ("__class__" : Str)) with | true => some cc | false => none) = some c := h
    rw [e2] at h2
    cases h2
theorem init_inv (IF : InitF P K D f cc cda qual scope fd) (S : InitS scope) {A : Around} {outer : List Env} {s : Shared} {H : Hp} {h₀ : Heap} {tk : Nat} {a : Addr} {v : V} {u : Value} (hd : A.handled = none) (e0 : Env0 P w K mg base A outer s H) (r : RelV v u)
    (hns : h₀.Ns s.heap.objs.size (fun y => ([("self", .ref a), ("value", u)] : List (Str × Value)).reverse.lookup y)) (hk : ∀ b o, s.heap.get? b = some o → h₀.get? b = some o) :
    Inv (initCx P w K mg base qual scope f cda cc A outer s H) [] [some (.ref a), some v] H { s with heap := h₀, toks := tk } := by
  have noA : ∀ b : Addr, b ∉ (initCx P w K mg base qual scope f cda cc A outer s H).ex := fun b z => absurd (show b ∈ ([] : List Addr) from z) (by simp)
  have KX : K.In s.heap := e0.mod.kin.keeps fun b o e => (e0.bs b o e).1
  obtain ⟨cl, cld, csl, hcell⟩ := IF.cell
  have nH : H cc = none := (e0.bs cc _ (e0.mod.kin _ _ hcell)).2
  have hcc : h₀.IsCell cc (some (.ref D)) := ⟨_, hk _ _ (KX _ _ hcell), rfl⟩
  refine ⟨⟨e0.mod, S.kind, rfl, rfl, Nat.le_refl _, fun y z c h1 h2 => ?_, fun y hy => ?_, fun y c z _ => ?_, fun _ => hd, Around.frames_deeper e0.frames, .inr ⟨rfl, rfl⟩, fun b z => absurd z (noA b), e0.bs, e0.bsz, fun b _ _ => noA b, fun b z => absurd z (noA b), e0.funs, e0.frf⟩,
    rfl, e0.bare, Un.kept hk, ⟨_, hns, fun i y x h1 h2 h3 => ?_⟩, fun y c h => ?_, e0.hok.fresh (Nat.le_refl _), fun y c h => ?_, fun q hq => absurd (show q ∈ ([] : List (Addr × Obj)) ++ [] from hq) (by simp), e0.hok.kept hk, rfl⟩
  · exact (cells1 h1).1.trans (cells1 h2).1.symm
  · have hy : scope.names.lookup y = some .cell ∨ scope.names.lookup y = some .free := hy
    rcases hy with hy | hy
    · exact absurd rfl (S.nocell _ (PySem.mem_of_lookup hy))
    · have e := S.free _ (PySem.mem_of_lookup hy) rfl
      have e : y = "__class__" := e
      subst e
      exact ⟨cc, rfl⟩
  · have z : false = true := z
    cases z
  · match i, h1, h2 with
    | 0, h1, h2 =>
      cases h1; cases h2
      exact ⟨.ref a, rfl, .inl ⟨S.self, rfl⟩⟩
    | 1, h1, h2 =>
      cases h1; cases h2
      exact ⟨u, r, .inl ⟨S.value, rfl⟩⟩
    | i + 2, h1, _ => cases h1
  · obtain ⟨_, rfl⟩ := cells1 h
    exact ⟨_, hcc⟩
  · obtain ⟨_, rfl⟩ := cells1 h
    exact nH
/-- the text of __init__ -/
def initBody (p1 p2 p3 p4 p5 p6 p7 p8 p9 p10 : Pos) : List Stmt :=
  [.Expr (.Call (.Attribute (.Call (.Name "super" p1) [] [] p2) "__init__" p3) [.Name "value" p4] [] p5) p6, .Assign [.Attribute (.Name "self" p7) "value" p8] (.Name "value" p9) p10]
/-- __init__ keeps: the value stands in the error's own dict -/
def spInit (P : Program) (K : PySem.W.Frag) (mg : Str → Option Value) (D f : Addr) : Sp := fun vs H Q _ => ∃ (a C : Addr) (v : V), vs = [.ref a, v] ∧ ErrC P K mg C D f ∧ H a = some (exo a C none) ∧
  ∀ d, H d = none → d ≠ a → Q .non (upd (upd H d (exd d [("value", v)])) a (exo a C (some d)))
theorem super_call {p1 p2 p3 p4 p5 : Pos} (hl : (p3.endLine == p5.line) = true) (env : Env) : eval (.Call (.Attribute (.Call (.Name "super" p1) [] [] p2) "__init__" p3) [.Name "value" p4] [] p5) env = (do
      let ov ← attributeBase (.Call (.Name "super" p1) [] [] p2) "__init__" env (eval (.Call (.Name "super" p1) [] [] p2) env)
      standAt p3.atName
      let (f, first) ← holding [ov] (getMethod ov "__init__" (pure false))
      callWith p5 f first (backTo p5 (starEach [.Name "value" p4] env)) []) := by
  have e : ∀ o : Expr, methodCallPos true o env p3 p5 = pure p5 := fun o => by
    unfold methodCallPos
    rw [hl]
    rfl
  show (do
      let ov ← attributeBase (.Call (.Name "super" p1) [] [] p2) "__init__" env (eval (.Call (.Name "super" p1) [] [] p2) env)
      standAt p3.atName
      methodCall (.Call (.Name "super" p1) [] [] p2) "__init__" p3 p5 env ov 1 (backTo p5 (starEach [.Name "value" p4] env)) []) = _
  congr 1
  funext ov
  congr 1
  funext _
  show (do
    let (f, first) ← holding [ov] (getMethod ov "__init__" (pure false))
    let callPos ← methodCallPos true (.Call (.Name "super" p1) [] [] p2) env p3 p5
    callWith callPos f first (backTo p5 (starEach [.Name "value" p4] env)) []) = _
  simp only [e, pure_bind]
theorem init_run {params : Arguments} {kV doc pm ct : Value} {an : Option Addr} {p1 p2 p3 p4 p5 p6 p7 p8 p9 p10 : Pos} {ar : Arg} {A : Around} {outer : List Env} {s s1 : Shared} {H : Hp} {a C : Addr} {v : V} {m : Str → Option Value}
    (IF : InitF P K D f cc cda qual scope (PySem.W.ksFn "__init__" qual params (initBody p1 p2 p3 p4 p5 p6 p7 p8 p9 p10) scope .none kV doc pm an (.ref cda) ct cc)) (S : InitS scope) (hp : (params.posonlyargs ++ params.args).head? = some ar) (har : ar.arg = "self")
    (hm : mg "super" = none) (hl : (p3.endLine == p5.line) = true) (T : ErrC P K mg C D f) (ha : H a = some (exo a C none)) (hns : s1.heap.Ns s.heap.objs.size m) (hms : m "self" = some (.ref a))
    (I : Inv (initCx P w K mg base qual scope f cda cc A outer s H) [] [some (.ref a), some v] H s1) :
    PySem.wpAt (model P w) (initCx P w K mg base qual scope f cda cc A outer s H).A (.func (initBody p1 p2 p3 p4 p5 p6 p7 p8 p9 p10) (initCx P w K mg base qual scope f cda cc A outer s H).env)
      (execs (initBody p1 p2 p3 p4 p5 p6 p7 p8 p9 p10) (initCx P w K mg base qual scope f cda cc A outer s H).env)
      (fun fl s' => ∃ d, H d = none ∧ d ≠ a ∧ fl = .next ∧ Inv (initCx P w K mg base qual scope f cda cc A outer s H) [] [some (.ref a), some v] (upd (upd H d (exd d [("value", v)])) a (exo a C (some d))) s')
      (initCx P w K mg base qual scope f cda cc A outer s H).xe s1 := by
  have KX := I.kIn
  obtain ⟨oc, od, osl, lk⟩ := IF.lk
  obtain ⟨cl, cld, csl, hcell⟩ := IF.cell
  obtain ⟨ccl, cdd, vsC, ccs, file, tf, hcode, hvs, hfile⟩ := IF.code
  obtain ⟨cdD, hDc⟩ := T.isD
  obtain ⟨oD, hD1, hD2⟩ : ∃ oD, s1.heap.get? D = some oD ∧ oD.data = .cls cdD := by
    unfold PySem.W.clsIn at hDc
    split at hDc
    · rename_i c d cd' sl ho
      cases hDc
      exact ⟨_, KX _ _ ho, rfl⟩
    · cases hDc
  obtain ⟨t1, hae⟩ := exo_at I.hok ha
  obtain ⟨mb, hb1, hb2⟩ := I.mod.blt
  refine ks_wpAt_execs_cons ?_
  refine ks_wpAt_Expr_any ?_ (hi := I.quiet) (hs := by rfl)
  refine ks_wpAt_MethodCall ?_ (he := super_call hl _)
  refine ks_wpAt_super_base S.sup S.cls (by decide) rfl (KX _ _ lk) rfl hp rfl (KX _ _ hcode) rfl hvs hfile IF.top ?_
  refine PySem.W.ks_loadName_global S.kind S.sup (Calls.loadGlobal_builtin (I.mod.glob.keeps I.bk) hm (hb1.keeps I.bk) ((hb2 "super" (by decide)).trans PyProof.Rows.Boot.«super») ⟨rfl, ?_⟩)
  refine wpAny_loadName_free S.kind S.cls rfl ⟨_, KX _ _ hcell, rfl⟩ ?_
  rw [har]
  refine wpAny_loadName_local S.kind S.self hns hms ?_
  obtain ⟨hh, g, d0, tk, os⟩ := s1
  refine ks_wpAny_isType_cls hD1 hD2 ⟨rfl, ?_⟩
  refine ks_wpAny_call_super hD1 hD2 hae rfl (fun c e => nomatch e) (PySem.W.looks_mroIn KX T.mro) (fun h' e k => ?_)
  have I2 := I.kept (t' := tk) k
  have KX2 := I2.kIn
  have hae2 := k _ _ hae
  cases hc : PySem.W.clsIn K C with
  | none => have z := T.sup; unfold PySem.W.ks_superIn at z; rw [hc] at z; cases z
  | some cd =>
    have hsup := T.sup
    unfold PySem.W.ks_superIn at hsup
    rw [hc] at hsup
    have IA : PySem.W.InstAt h' a _ C none := ⟨hae2, rfl, rfl, trivial⟩
    refine PySem.W.kxs_getMethod PySem.W.kxs_ValueError e (PySem.W.looks_opaque KX2 T.opq) (l₀ := cd.mro) (fun A Q E s k q => wpAny_bind ((PySem.W.looks_clsIn KX2 hc) A _ E s k (wpAny_pure q))) rfl KX2 hsup (IA.type.andThen (PySem.W.looks_subIn KX2 T.sub)) (PySem.W.ks_ne KX2 IA hc) (by decide) ?_
    have kp : ∀ b o, h'.get? b = some o → (h'.push (PySem.W.kxs_mw "ValueError.__init__" a)).get? b = some o := fun b o z => Heap.get?_push_of_some _ z
    have I3 := I2.kept (t' := tk + 1) kp
    have hmw : (h'.push (PySem.W.kxs_mw "ValueError.__init__" a)).get? h'.objs.size = some (PySem.W.kxs_mw "ValueError.__init__" a) := Heap.get?_push_at rfl rfl
    have I4 : Inv (initCx P w K mg base qual scope f cda cc A outer s H) [(h'.objs.size, PySem.W.kxs_mw "ValueError.__init__" a)] [some (.ref a), some v] H ⟨h'.push (PySem.W.kxs_mw "ValueError.__init__" a), g, d0, tk + 1, os⟩ := I3.pins_of fun p hp => by
      obtain rfl : p = _ := by simpa using hp
      exact ⟨hmw, I2.fresh, Nat.ne_of_gt I2.lt, I2.nofs (Nat.le_refl _), fun v z => nomatch z⟩
    have vS : Vis (initCx P w K mg base qual scope f cda cc A outer s H).env.scope "self" := .inl S.self
    have vV : Vis (initCx P w K mg base qual scope f cda cc A outer s H).env.scope "value" := .inl S.value
    refine PySem.W.kxs_callWith (i := "ValueError.__init__") (x := a) (by rfl) (Calls.evalArgs_plain ?_)
    refine thn ((pa_cons (pe_var (i := 1) (x := "value") (pos := p4) rfl vV) pa_nil).run p5 _ _ _ H (fun vs H' => vs = [v] ∧ H' = H) I4 ⟨v, rfl, rfl, rfl⟩) fun us s4 hs4 => ?_
    obtain ⟨vs, H4, I5, r4, rfl, rfl⟩ := hs4
    have hu := (I5.pin (h'.objs.size, PySem.W.kxs_mw "ValueError.__init__" a) (by simp)).1
    refine ⟨hu, ?_⟩
    obtain ⟨nm, qn, N, bs, bm, sn, sub, ab, col, dd, k0, k1, k2, k3, k5, hC, hbm⟩ := T.ox.cls
    obtain ⟨t3, hae3⟩ := exo_at I5.hok ha
    obtain ⟨h5, g5, d5, tk5, os5⟩ := s4
    have hlen : us.length ≤ sizeLine := by
      rw [← Paired.length r4, sizeLine_eq]
      show 1 ≤ 16777216
      decide
    refine ve_call (I5.kIn _ _ hC) hae3 hu hlen fun h6 t6 k6 hx6 => ?_
    have J := I5.write (t' := tk5) (x := a) (e := a) (o := exo a C none) (by rw [ha]; exact True.intro) (.inl rfl) k6 ⟨_, hx6⟩ (exo_ok hx6)
    have eu : upd H4 a (exo a C none) = H4 := by
      funext b
      by_cases hb : b = a
      · rw [hb, upd_same, ha]
      · rw [upd_ne hb]
    rw [eu] at J
    have J2 := Inv.unpinned (pins := []) J
    refine PySem.wpAt_of_wpAny (thn ((pss_one (ps_ost (f := "value") (p' := p8) (pos := p10) (pe_var (i := 0) (x := "self") (pos := p7) rfl vS) (pe_var (i := 1) (x := "value") (pos := p9) rfl vV))).run [] _ _ H4
      { nx := fun σ' H' => ∃ d, H4 d = none ∧ d ≠ a ∧ σ' = [some (.ref a), some v] ∧ H' = upd (upd H4 d (exd d [("value", v)])) a (exo a C (some d)), rt := fun _ _ => False } J2
      ⟨v, rfl, .ref a, rfl, a, C, rfl, T.ox, T.nV, .inl ⟨ha, fun dx hdx ne => ⟨dx, hdx, ne, rfl, rfl⟩⟩⟩) fun fl s7 hs7 => ?_)
    cases fl with
    | next =>
      obtain ⟨σ', H', J3, d, hd1, hd2, rfl, rfl⟩ := hs7
      exact ⟨d, hd1, hd2, rfl, J3⟩
    | ret u =>
      obtain ⟨_, _, _, _, _, z⟩ := hs7
      exact False.elim z
    | brk =>
      obtain ⟨_, _, _, z⟩ := hs7
      exact False.elim z
    | cont =>
      obtain ⟨_, _, _, z⟩ := hs7
      exact False.elim z
theorem init_ok {params : Arguments} {kV doc pm ct : Value} {an : Option Addr} {p1 p2 p3 p4 p5 p6 p7 p8 p9 p10 : Pos} {ar : Arg} {CXx : CXT}
    (IF : InitF P K D f cc cda qual scope (PySem.W.ksFn "__init__" qual params (initBody p1 p2 p3 p4 p5 p6 p7 p8 p9 p10) scope .none kV doc pm an (.ref cda) ct cc)) (S : InitS scope) (hp : (params.posonlyargs ++ params.args).head? = some ar) (har : ar.arg = "self")
    (hm : mg "super" = none) (hl : (p3.endLine == p5.line) = true) : FnOk P w K mg base CXx 1 f (PySem.W.ksFn "__init__" qual params (initBody p1 p2 p3 p4 p5 p6 p7 p8 p9 p10) scope .none kV doc pm an (.ref cda) ct cc) ["self", "value"] (spInit P K mg D f) := by
  refine ⟨fun vs H Q E h => ?_, fun A outer s H args us vs Q E hr e0 hbd r hsp => ?_⟩
  · obtain ⟨a, C, v, rfl, _⟩ := h
    rfl
  obtain ⟨a, C, v, rfl, T, ha, q⟩ := hsp
  obtain ⟨u, rfl, rv⟩ : ∃ u, us = [.ref a, u] ∧ RelV v u := by
    cases r with
    | cons r1 r2 =>
      cases r2 with
      | cons r3 r4 =>
        cases r4
        cases r1
        exact ⟨_, rfl, r3⟩
  have KX : K.In s.heap := e0.mod.kin.keeps fun b o e => (e0.bs b o e).1
  obtain ⟨oc, od, osl, lk⟩ := IF.lk
  obtain ⟨cl, cld, csl, hcell⟩ := IF.cell
  obtain ⟨ccl, cdd, vsC, ccs, file, tf, hcode, hvs, hfile⟩ := IF.code
  obtain ⟨cdD, hD⟩ := T.isD
  refine ks_codeAny_call_defAt (binds := [("self", .ref a), ("value", u)]) hr.depth (KX _ _ lk) rfl (e0.mod.nolimit.keeps fun b o e => (e0.bs b o e).1) (PySem.W.codeRec_of KX IF.hcd) rfl hbd S.nocell (fun y hy => ?_) (fun h₀ hns hk => ?_) S.co S.gen S.kind
  · simp only [List.mem_cons, List.not_mem_nil, or_false] at hy
    rcases hy with rfl | rfl
    · exact S.self
    · exact S.value
  have I := init_inv (w := w) (tk := s.toks + 2) IF S hr.hd e0 rv hns hk
  have R := init_run IF S hp har hm hl T ha hns (by rfl) I
  refine ks_wpAt_mono R (fun fl s' h => ?_) fun _ _ z => False.elim z
  obtain ⟨d, hd1, hd2, rfl, J⟩ := h
  exact ⟨.non, _, J.os, J.bare, J.base, J.hok, rfl, q d hd1 hd2⟩
end
end Sq

/-! Lambdas without parameters: made, kept in the store. -/
namespace Sq
open PySem PySem.Spec PyProof.Rows L2
/-- the table at P: each code object that it tells bears the name q -/
def TabK (H : Hp) (P : Addr) (q : Str) : Prop := ∃ ps : Array Value, H P = some (.tbl ps) ∧ TriplesOk ps.toList ∧ ∀ (pos : Pos) (cv : Value), codeAmong pos ps.toList = some cv → ∃ c, cv = .ref c ∧ CodeK H c q
theorem CodeK.keep2 {H H' : Hp} {c : Addr} {q : Str} (h : CodeK H c q) (k : ∀ b o, H b = some o → (∀ ps, o ≠ .tbl ps) → H' b = some o) : CodeK H' c q := by
  obtain ⟨oc, vs, e, h⟩ := h
  exact ⟨oc, vs, e, k _ _ h fun _ z => by cases z⟩
theorem any_ok {P : Program} {w : World} {H : Hp} {h : Heap} {a : Addr} {o : Obj} (e : h.get? a = some o) : ObjOk P w H h a (.frz o (anyH a)) :=
  ⟨e, ⟨⟨o, e⟩, ⟨o, e⟩, fun h1 h2 ⟨o, e⟩ st => ⟨o, st _ e⟩⟩⟩
section
variable {X : Cx} {pins : List (Addr × Obj)} {σ : L2.St} {H : Hp} {s : Shared}
theorem lam_make3 {c P : Addr} {params : Arguments} {body : Expr} {scope : Scope} {pos : Pos} {E : Value → Shared → Prop} {Q : Value → Shared → Prop} (I : Inv X pins σ H s) (TB : LamX.TabB X.base X.mg c P) (hcode : X.env.code = .ref c)
    (hT : TabK H P (X.env.qual ++ "<lambda>")) (hdef : defaultsOf params X.env = ([], [])) (hfree : ∀ y ∈ scope.names, y.2 = .free → ∃ c, X.env.cells.lookup y.1 = some c)
    (h : ∀ (f c' : Addr) (pm ctv : Value) (H1 : Hp) (s' : Shared), Inv X pins σ (upd H1 f (.frz (PySem.W.kla_obj "<lambda>" (X.env.qual ++ "<lambda>") params body scope (cloFrom X.env.cells scope.names []) pm c' ctv) (anyH f))) s' → H f = none → H1 f = none →
      (∀ b o, H b = some o → b ≠ P → H1 b = some o) → TabK H1 P (X.env.qual ++ "<lambda>") → CodeK H1 c' (X.env.qual ++ "<lambda>") → Q (.ref f) s') :
    wpAny (model X.prog X.w) X.A (eval (.Lambda params body scope pos) X.env) Q E s := by
  obtain ⟨ps, hP, ht, ha⟩ := id hT
  refine PySem.W.kla_eval hdef ?_
  have bP : s.heap.BuiltinsAt X.mg P := TB.bm.keeps I.bk
  have hP' : s.heap.get? P = some { cls := .none, data := .fields ps } := I.hok P _ hP
  cases hc : codeAmong pos ps.toList with
  | none =>
    refine PySem.W.kla_makeFunction (mg := X.mg) (c := c) (P := P) (ps := ps) (closure_ok hfree) I.ok.glob (I.mod.glob.keeps I.bk) hcode (TB.code.keeps I.bk) hP' ht hc TB.gP bP fun c' ctv h' tk hx hge hlt hrec htb => ?_
    obtain ⟨c2, oc, vs, t, e2, hoc, hd, hv⟩ := hrec
    cases e2
    have hsz : s.heap.objs.size ≤ h'.objs.size := Nat.le_trans hge (Nat.le_of_lt hlt)
    have nC : H c' = none := I.hok.fresh hge
    have nPc : P ≠ c' := ne_of_none hP nC
    have I1 := LamX.inv_table (t' := tk) (q := X.env.qual ++ "<lambda>") (more := #[rawInt pos.line, rawInt pos.col, .ref c']) (h' := h') I hP hx htb hge ⟨oc, vs, t, hoc, hd, hv⟩
    obtain ⟨od, I2⟩ := I1.lock (d := c') upd_same True.intro
    rw [upd_upd] at I2
    have ed : od.data = .fields vs := by
      obtain ⟨e, _⟩ := I2.hok c' _ upd_same
      rw [hoc] at e
      cases e
      exact hd
    have hsz2 : (upd (upd H P (.tbl (ps ++ #[rawInt pos.line, rawInt pos.col, .ref c']))) c' (.frz od (LamX.CodeO c' (X.env.qual ++ "<lambda>")))) h'.objs.size = none := I2.hok.fresh (Nat.le_refl _)
    have I3 := I2.laid (t' := tk) (a := h'.objs.size) (h' := h'.push (PySem.W.kla_obj "<lambda>" (X.env.qual ++ "<lambda>") params body scope (cloFrom X.env.cells scope.names []) ((X.mg "__name__").getD .none) c' ctv)) (fun b o e => Heap.get?_push_of_some _ e) (Nat.le_refl _) (any_ok (Heap.get?_push_size _ rfl))
    have cK : CodeK (upd (upd H P (.tbl (ps ++ #[rawInt pos.line, rawInt pos.col, .ref c']))) c' (.frz od (LamX.CodeO c' (X.env.qual ++ "<lambda>")))) c' (X.env.qual ++ "<lambda>") := ⟨od, vs, ed, upd_same⟩
    have eL : (ps ++ #[rawInt pos.line, rawInt pos.col, .ref c']).toList = ps.toList ++ [rawInt pos.line, rawInt pos.col, .ref c'] := by simp
    have up : ∀ b o, H b = some o → b ≠ P → (upd (upd H P (.tbl (ps ++ #[rawInt pos.line, rawInt pos.col, .ref c']))) c' (.frz od (LamX.CodeO c' (X.env.qual ++ "<lambda>")))) b = some o := fun b o e hb => by
      rw [upd_ne (ne_of_none e nC), upd_ne hb]
      exact e
    refine h h'.objs.size c' ((X.mg "__name__").getD .none) ctv _ _ I3 (I.hok.fresh hsz) hsz2 up ⟨_, by rw [upd_ne nPc, upd_same], by rw [eL]; exact PySem.TriplesOk_snoc _ _ _ _ ht, fun p' cv hcv => ?_⟩ cK
    rw [eL] at hcv
    rcases LamX.among_app _ ht hcv with z | z
    · obtain ⟨c0, e1, oc0, vs0, e2, e3⟩ := ha p' cv z
      exact ⟨c0, e1, oc0, vs0, e2, up _ _ e3 fun z => by rw [z, hP] at e3; cases e3⟩
    · exact ⟨c', z, cK⟩
  | some cv =>
    obtain ⟨c', e, hco⟩ := ha pos cv hc
    subst e
    refine PySem.W.kla_makeFunctionHit (mg := X.mg) (c := c) (P := P) (ps := ps) (closure_ok hfree) I.ok.glob (I.mod.glob.keeps I.bk) hcode (TB.code.keeps I.bk) hP' ht hc bP fun ctv h' tk hx hsz => ?_
    have I1 : Inv X pins σ H { s with heap := h', toks := tk } := I.kept hx
    have I3 := I1.laid (t' := tk) (a := h'.objs.size) (h' := h'.push (PySem.W.kla_obj "<lambda>" (X.env.qual ++ "<lambda>") params body scope (cloFrom X.env.cells scope.names []) ((X.mg "__name__").getD .none) c' ctv)) (fun b o e => Heap.get?_push_of_some _ e) (Nat.le_refl _) (any_ok (Heap.get?_push_size _ rfl))
    exact h h'.objs.size c' ((X.mg "__name__").getD .none) ctv H _ I3 (I.hok.fresh hsz) (I.hok.fresh hsz) (fun b o e _ => e) hT hco
end
/-- the lambda's making -/
def wLam (P : Addr) (t : LamT) : WE := ⟨fun _ μ Q _ => μ P = some (.tab t.q) ∧ ∀ a, μ a = none → Q (.ob a) (mset μ a (.lam t)), fun hQ _ h => ⟨h.1, fun a ha => hQ _ _ (h.2 a ha)⟩⟩
theorem wLam_run {P : Addr} {t : LamT} {ρ : Ev} {μ : Mu} {Q : PQ} {X : XQ} : (wLam P t).run ρ μ Q X = (μ P = some (.tab t.q) ∧ ∀ a, μ a = none → Q (.ob a) (mset μ a (.lam t))) := rfl
/-- a def's lambda, by its text -/
def lamOf (cl : List (Str × Addr)) (q : Str) (params : Arguments) (body : Expr) (scope : Scope) : LamT := ⟨q ++ "<lambda>", params, body, scope, cloFrom cl scope.names []⟩
theorem le_lam {X : Cx} {Wx : WX} {c P : Addr} {params : Arguments} {body : Expr} {scope : Scope} {pos : Pos} (TB : LamX.TabB X.base X.mg c P) (hcode : X.env.code = .ref c) (hdef : defaultsOf params X.env = ([], [])) (L : LamX.LamS X.env.scope scope) :
    LE X Wx (.Lambda params body scope pos) (wLam P (lamOf X.env.cells X.env.qual params body scope)) := ⟨fun pins s σ H Q I hq => by
  obtain ⟨ρ, μ, E, S, hP, h⟩ := hq
  refine lam_make3 I TB hcode (S.at_ P _ hP) hdef (L.has I.ok) fun f c' pm ctv H1 s' I1 hf hf1 up hT hC => ?_
  have F : Fr μ H (mset μ f (.lam (lamOf X.env.cells X.env.qual params body scope))) (upd H1 f (.frz (PySem.W.kla_obj "<lambda>" (X.env.qual ++ "<lambda>") params body scope (cloFrom X.env.cells scope.names []) pm c' ctv) (anyH f))) := fun b o e nt nm => by
    have hb : b ≠ f := ne_of_none e hf
    refine ⟨?_, by rw [mset_ne hb]; exact nm⟩
    rw [upd_ne hb]
    exact up b o e fun z => by
      rw [z, hP] at nm
      cases nm
  have cf : ∀ {c : Addr} {q : Str}, CodeK H1 c q → CodeK (upd H1 f (.frz (PySem.W.kla_obj "<lambda>" (X.env.qual ++ "<lambda>") params body scope (cloFrom X.env.cells scope.names []) pm c' ctv) (anyH f))) c q := fun {c q} ⟨oc, vs, e, k⟩ => ⟨oc, vs, e, by rw [upd_ne (ne_of_none k hf1)]; exact k⟩
  have S' : Sim X.K (mset μ f (.lam (lamOf X.env.cells X.env.qual params body scope))) (upd H1 f (.frz (PySem.W.kla_obj "<lambda>" (X.env.qual ++ "<lambda>") params body scope (cloFrom X.env.cells scope.names []) pm c' ctv) (anyH f))) := ⟨fun a o e => by
    by_cases ha : a = f
    · subst ha
      rw [mset_same] at e
      cases e
      exact ⟨pm, c', ctv, upd_same, cf hC⟩
    · rw [mset_ne ha] at e
      by_cases hp : a = P
      · subst hp
        rw [hP] at e
        cases e
        obtain ⟨ps, e1, e2, e3⟩ := hT
        refine ⟨ps, by rw [upd_ne ha]; exact e1, e2, fun pos cv z => ?_⟩
        obtain ⟨c0, ec, kc⟩ := e3 pos cv z
        exact ⟨c0, ec, cf kc⟩
      · exact (S.at_ a o e).keep S F fun x q => by rw [upd_ne ha]; exact up a x q hp⟩
  exact ⟨.ref f, _, I1, rfl, h f (S.free hf) _ _ F S' rfl⟩⟩
end Sq

/-! try .. except x as n, the error kept behind the suite. -/
namespace Sq
open PySem PySem.Spec PyProof.Rows L2
/-- an object that is not of the entry's heap is tracked from now on -/
theorem inv_track {X : Cx} {pins : List (Addr × Obj)} {σ : L2.St} {H : Hp} {s : Shared} {a : Addr} {o : HO} (I : Inv X pins σ H s) (h0 : X.s_0.heap.get? a = none) (hn : H a = none) (hL : a ≠ X.env.locals) (hc : ∀ x c, X.env.cells.lookup x = some c → c ≠ a)
    (hp : ∀ p ∈ X.pn ++ pins, p.1 ≠ a) (new : ObjOk X.prog X.w (upd H a o) s.heap a o) : Inv X pins σ (upd H a o) s := by
  have ne : ∀ b u, H b = some u → b ≠ a := fun b u e => ne_of_none e hn
  have up : ∀ b u, H b = some u → upd H a o b = some u := fun b u e => by rw [upd_ne (ne b u e)]; exact e
  refine ⟨I.ok, I.os, I.bare, ⟨I.base.keep, I.base.slot, fun b u e n hx => ?_, I.base.there, fun b xs e => up _ _ (I.base.tups b xs e), fun b u v e => up _ _ (I.base.frzs b u v e), fun b ps e => ?_⟩, I.loc, I.cell, ?_, fun x c e => ?_, fun p hp' => ?_, fun b u e => ?_, I.len⟩
  · rw [upd_ne (fun z => by rw [z, h0] at e; cases e)]
    exact I.base.free b u e n hx
  · obtain ⟨m, q⟩ := I.base.tbls b ps e
    exact ⟨m, up _ _ q⟩
  · rw [upd_ne (Ne.symm hL)]
    exact I.free
  · rw [upd_ne (hc x c e)]
    exact I.freeC x c e
  · obtain ⟨e, n, r⟩ := I.pin p hp'
    exact ⟨e, by rw [upd_ne (hp p hp')]; exact n, r⟩
  · by_cases hb : b = a
    · subst hb
      rw [upd_same] at e
      cases e
      exact new
    · rw [upd_ne hb] at e
      exact (I.hok b u e).stay (fun _ _ _ q => q) (fun c q => up _ _ q) fun c _ q => up _ _ q
/-- what the clause wishes: the error is kept at a -/
def wAsT (K : PySem.W.Frag) (c : Value) (i : Nat) (ts : Addr → Value → Option Addr → TS) (Wout : WX) (D : Ends) : WX := fun cls d σ H =>
  ∃ b, PySem.W.exmOne K cls c = some b ∧ (b = true → ∃ (C dx : Addr), cls = .ref C ∧ d = some dx ∧ ∀ a, H a = none → ts a cls d ({ nx := fun σ' H' => H' a = none → D.nx (σ'.set i none) (upd H' a (ExcO a C dx)), rt := fun v H' => H' a = none → D.rt v (upd H' a (ExcO a C dx)), bk := fun σ' H' => H' a = none → D.bk (σ'.set i none) (upd H' a (ExcO a C dx)), ct := fun σ' H' => H' a = none → D.ct (σ'.set i none) (upd H' a (ExcO a C dx)) } : Ends) (σ.set i (some (.ref a))) H) ∧
    (b = false → Wout cls d σ H)
section
variable {X : Cx} {x n : Str} {c : Value} {i : Nat} {body suite : List Stmt} {b₀ : Stmt} {np pos pos' : Pos} {tb : WX → TS} {ts : Addr → Value → Option Addr → TS} {Wout : WX}
theorem ps_try_asT (hs : X.stack = X.env :: X.outer) (hf : X.env.frame = some X.env.locals) (hN : X.N.Nodup) (hi : X.N[i]? = some n) (hln : X.env.kindOf n = some .local) (hc : Names X x c) (tk : Takes X Wout) (hex : X.ex = [])
    (hb : ∀ (W : WX) (pn : List (Addr × Obj)) (xe : Value → Shared → Prop), Takes (X.tr pn xe) W → PassesOwn (model X.prog X.w) X.A X.env xe → PSs (X.tr pn xe) body (tb W))
    (hsu : ∀ (a : Addr) (oe : Obj) (cls : Value) (d : Option Addr) (pn : List (Addr × Obj)), PSs (X.suite a ((a, oe) :: pn)) (b₀ :: suite) (ts a cls d)) :
    PS X (.Try body [.ExceptHandler (some (.Name x np)) (some n) (b₀ :: suite) pos'] [] [] pos) (fun D σ H => tb (wAsT X.K c i ts Wout D) D σ H) := by
  refine ⟨fun pins s σ H D I h => ?_⟩
  have ok := I.ok
  have hfr : X.A.frames = some (X.env :: X.outer) := by rw [ok.frames, hs]
  have hloc : Loc X.env.scope n := .inl hln
  refine wpAny_Try_except ?_
  refine wpAny_mono ((hb (wAsT X.K c i ts Wout D) (X.pn ++ pins) (fun e s₁ => wpAny (model X.prog X.w) X.A (noteFrame e X.env) (fun _ s₂ => wpAny (model X.prog X.w) X.A (setFlight e none) (fun _ s₃ =>
    wpAny (model X.prog X.w) X.A (handleBy e X.env [.ExceptHandler (some (.Name x np)) (some n) (b₀ :: suite) pos']) (SP X pins D) X.xe s₃) X.xe s₂) X.xe s₁) (fun u s' xx => ?_) PassesOwn.looking).run [] s σ H D (I.toTry _) h) (fun f s1 hsp => ?_) (fun e s1 he => he)
  · obtain ⟨a, B, sI, pins', σ', H', cls, d, rfl, J', nb, up, sky, na, os, ag, b, hb1, hyes, hno⟩ := xx
    have J : Inv X pins σ' H' sI := J'.ofTry ok
    have sky' : Sky B (X.env :: X.outer) a (Zc cls d) X.env.locals s'.heap := by rw [← hs]; exact sky
    show wpAny (model X.prog X.w) X.A (noteFrame (.ref a) X.env) _ _ _
    refine Sky.land Zc.steady hfr hf sky' fun h3 fl3 up3 => ?_
    have J3 : Inv X pins σ' H' { s' with heap := h3 } := J.landed nb fl3.1 (up.trans up3) os ag
    obtain ⟨oe3, vs3, he3, hz3, hd3⟩ := fl3.there
    have notFr : ∀ {h : Heap} {o : Obj} {vs : Array Value}, h.FunFrames B (X.env :: X.outer) → h.get? a = some o → o.data = .fields vs → a ∉ frs (X.env :: X.outer) := fun {h o vs} ff e dd hm => by
      obtain ⟨_, o', e', hnf⟩ := ff.mem hm
      rw [e] at e'; cases e'
      exact hnf _ dd
    have nfr := notFr fl3.2.2.1 he3 hd3
    have nL : a ≠ X.env.locals := fun z => nfr (List.mem_filterMap.mpr ⟨X.env, List.mem_cons_self, by rw [hf, z]⟩)
    have nF : a ∉ X.fs := fun hm => by
      obtain ⟨e, he, q⟩ := List.mem_filterMap.mp hm
      exact nfr (List.mem_filterMap.mpr ⟨e, List.mem_cons_of_mem _ he, q⟩)
    have S3 := J3.suite he3 hd3 na nL nF
    -- a is new
    have aB : B.get? a = none := fl3.2.1
    have nst : ∀ b, b ≠ X.env.locals → b ∉ X.fs → b ∉ frs X.stack := fun b h1 h2 hm => (List.mem_cons.mp (J.stkSub b hm)).elim h1 h2
    have a0 : X.s_0.heap.get? a = none := by
      cases z : X.s_0.heap.get? a with
      | none => rfl
      | some o =>
        obtain ⟨o', e'⟩ := J.base.there a o z (fun hx => by rw [hex] at hx; cases hx)
        have q := nb a o' e' (nst a nL nF)
        rw [aB] at q
        cases q
    have apin : ∀ p ∈ X.pn ++ pins, p.1 ≠ a := fun p hp z => by
      obtain ⟨e, _, n1, n2, _⟩ := J.pin p hp
      have q := nb p.1 p.2 e (nst _ n1 n2)
      rw [z, aB] at q
      cases q
    refine wpAny_handleBy_cons (codeAny_handlers_test ?_) (by intro q; cases q)
    have LT : PySem.W.Looks (model X.prog X.w) h3 (typeOf (.ref a)) cls := fun A Q E s k q => wpAny_typeOf_ref (k _ _ he3) (by rw [hz3.1]; exact q)
    have LM := PySem.W.exm_one (M := model X.prog X.w) (J3.kIn) LT hb1
    have test : ∀ {Q : Value → Shared → Prop} {E : Value → Shared → Prop}, Q c { s' with heap := h3 } → wpAny (model X.prog X.w) (X.A.mark (some (.ref a))) (eval (.Name x np) X.env) Q E { s' with heap := h3 } := fun {Q E} q => by
      obtain ⟨hg, hdbg, hm | ⟨hm, hv, hnn⟩⟩ := hc
      · exact ld_glob (X := X.suite a ((a, oe3) :: (X.pn ++ pins))) S3 hg hm q hdbg
      · exact ld_blt (X := X.suite a ((a, oe3) :: (X.pn ++ pins))) S3 hg hm hv q hnn hdbg
    refine test (LM.here ?_)
    cases b with
    | true =>
      obtain ⟨C, dx, ec, ed, hyes⟩ := hyes rfl
      subst ec ed
      refine codeAny_handlers_suite_as ?_
      refine HandSPX.lands_againZ fl3 fun h4 fl4 up4 => ?_
      have J4 : Inv X pins σ' H' { s' with heap := h4 } := J.landed nb fl4.1 ((up.trans up3).trans up4) os ag
      obtain ⟨oe4, vs4, he4, hz4, hd4⟩ := fl4.there
      have S4 := J4.suite he4 hd4 na nL nF
      refine store_ok (X := X.suite a ((a, oe4) :: (X.pn ++ pins))) (v := .ref a) S4 hN hi hloc rfl (fun s5 S5 => ?_) (.inr hln)
      refine wpAny_mono ((hsu a oe4 (.ref C) (some dx) (X.pn ++ pins)).run [] s5 _ H' _ S5 (hyes a na)) (fun f s6 hsp => ?_) (fun _ _ z => False.elim z)
      have end_ : ∀ {σ6 : L2.St} {H6 : Hp} {Q : Shared → Prop}, Inv (X.suite a ((a, oe4) :: (X.pn ++ pins))) [] σ6 H6 s6 → (∀ s7, H6 a = none → Inv X pins (σ6.set i none) (upd H6 a (ExcO a C dx)) s7 → Q s7) →
          wpAny (model X.prog X.w) X.A (do bindName X.env n .none; unbindBehindTheSuite X.env n pos') (fun _ s7 => Q s7) X.xe s6 := fun {σ6 H6 Q} S6 hq => by
        have J6 : Inv X ((a, oe4) :: pins) σ6 H6 s6 := ⟨ok, S6.os, S6.bare, S6.base, S6.loc, S6.cell, S6.free, S6.freeC, fun p hp => S6.pin p (by
          show p ∈ (a, oe4) :: (X.pn ++ pins) ++ []
          simp only [List.mem_append, List.mem_cons, List.append_nil] at hp ⊢
          grind), S6.hok, S6.len⟩
        refine gone_ok J6 hN hi hln fun s7 J7 => ?_
        obtain ⟨e7, n7, _⟩ := J7.pin (a, oe4) (by simp)
        have J8 : Inv X pins (σ6.set i none) H6 s7 := J7.pins_of fun p hp => J7.pin p (by simp [hp])
        refine hq s7 n7 (inv_track J8 a0 n7 nL (fun y c0 e0 z => ?_) apin ⟨⟨oe4, vs4, e7, hz4.1, hz4.2, hd4⟩, ⟨_, e7⟩, fun h1 h2 ⟨oe, vs, k1, k2⟩ st => ⟨oe, vs, st _ k1, k2⟩⟩)
        obtain ⟨v0, o0, k1, k2⟩ := J8.cell y c0 e0
        rw [z] at k1
        have e7 : s7.heap.get? a = some oe4 := e7
        rw [e7] at k1
        cases k1
        rw [hd4] at k2
        cases k2
      cases f with
      | next =>
        obtain ⟨σ6, H6, S6, q6⟩ := hsp
        exact end_ S6 fun s7 n7 J7 => ⟨_, _, J7, q6 n7⟩
      | brk =>
        obtain ⟨σ6, H6, S6, q6⟩ := hsp
        exact end_ S6 fun s7 n7 J7 => ⟨_, _, J7, q6 n7⟩
      | cont =>
        obtain ⟨σ6, H6, S6, q6⟩ := hsp
        exact end_ S6 fun s7 n7 J7 => ⟨_, _, J7, q6 n7⟩
      | ret u =>
        obtain ⟨v6, σ6, H6, S6, r6, q6⟩ := hsp
        exact end_ S6 fun s7 n7 J7 => ⟨_, _, _, J7, r6, q6 n7⟩
    | false =>
      show wpAny _ X.A (handleBy (.ref a) X.env []) _ _ _
      refine wpAny_handleBy_nil ?_
      obtain ⟨k1, k2, k3, oe, vs, T, oT, ts', he, hz, hd, h1, hr⟩ := id fl3
      unfold PySem.passOn
      refine wpAny_bind (wpAny_field he hd h1 ?_)
      rw [if_neg (show ¬ ((Value.ref T == Value.none) = true) from by simp)]
      have fin : wpAny (model X.prog X.w) X.A (setFlight (.ref a) X.env.frame) (fun _ s4 => wpAny (model X.prog X.w) X.A (throw (.ref a) : Sem Flow) (SP X pins D) X.xe s4) X.xe { s' with heap := h3 } := by
        rw [hf]
        refine HandSPX.setFlight_upZ fl3 fun h4 hh4 up4 => wpAny_throw (tk _ _ ?_)
        exact ⟨a, B, sI, pins, σ', H', cls, d, rfl, J, nb, (up.trans up3).trans up4, .inr (.inr (by rw [hs]; exact hh4)), na, os, ag, hno rfl⟩
      first
        | exact wpAny_bind (wpAny_pure (wpAny_bind fin))
        | exact wpAny_bind fin
  · cases f with
    | next =>
      obtain ⟨σ', H', J', q⟩ := hsp
      exact wpAny_execs_nil ⟨σ', H', J'.ofTry ok, q⟩
    | brk =>
      obtain ⟨σ', H', J', q⟩ := hsp
      exact ⟨σ', H', J'.ofTry ok, q⟩
    | cont =>
      obtain ⟨σ', H', J', q⟩ := hsp
      exact ⟨σ', H', J'.ofTry ok, q⟩
    | ret u =>
      obtain ⟨v, σ', H', J', r, q⟩ := hsp
      exact ⟨v, σ', H', J'.ofTry ok, r, q⟩
end

theorem sim_exc {K : PySem.W.Frag} {μ : Mu} {H : Hp} {a C dx : Addr} {d : D} {v : V} (S : Sim K μ H) (ha : H a = none) (hd : H dx = some (.xd [("value", v)])) (r : Rp K H d v) : Fr μ H (mset μ a (.exc C d)) (upd H a (ExcO a C dx)) ∧ Sim K (mset μ a (.exc C d)) (upd H a (ExcO a C dx)) := by
  have F : Fr μ H (mset μ a (.exc C d)) (upd H a (ExcO a C dx)) := fr_new ha
  refine ⟨F, ⟨fun b o e => ?_⟩⟩
  by_cases hb : b = a
  · subst hb
    rw [mset_same] at e
    cases e
    exact ⟨dx, v, upd_same, by rw [upd_ne (ne_of_none hd ha)]; exact hd, Rp.keep S F d r⟩
  · rw [mset_ne hb] at e
    exact (S.at_ b o e).keep S F fun x q => by rw [upd_ne hb]; exact q
/-- what is wanted behind the suite, the error (of the class C, of the value d) kept at a -/
def suiteD (i : Nat) (a C : Addr) (d : Sq.D) (D : PD) : PD := ⟨fun ρ2 μ2 => D.nx (ρ2.set i none) (mset μ2 a (.exc C d)), fun v μ2 => D.rt v (mset μ2 a (.exc C d)), fun ρ2 μ2 => D.bk (ρ2.set i none) (mset μ2 a (.exc C d)), fun ρ2 μ2 => D.ct (ρ2.set i none) (mset μ2 a (.exc C d)), fun _ _ _ _ => False⟩
theorem suiteD_le {i : Nat} {a C : Addr} {d : Sq.D} {D D' : PD} (h : D.le D') : (suiteD i a C d D).le (suiteD i a C d D') := ⟨fun _ _ q => h.nx _ _ q, fun _ _ q => h.rt _ _ q, fun _ _ q => h.bk _ _ q, fun _ _ q => h.ct _ _ q, fun _ _ _ _ q => q⟩
/-- what is wanted behind the try's body -/
def tryD (isSq : Addr → Option Bool) (i : Nat) (ws : WS) (D : PD) : PD := ⟨D.nx, D.rt, D.bk, D.ct, fun ρ' C d μ' => ∃ r, isSq C = some r ∧ (r = true → ∀ a, μ' a = none → ws.run (suiteD i a C d D) (ρ'.set i (some (.ob a))) μ') ∧ (r = false → D.ex ρ' C d μ')⟩
theorem tryD_le {isSq : Addr → Option Bool} {i : Nat} {ws : WS} {D D' : PD} (h : D.le D') : (tryD isSq i ws D).le (tryD isSq i ws D') :=
  ⟨h.nx, h.rt, h.bk, h.ct, fun ρ' C d μ' ⟨r, e, k1, k2⟩ => ⟨r, e, fun hr a ha => ws.mono (suiteD_le h) (k1 hr a ha), fun hr => h.ex _ _ _ _ (k2 hr)⟩⟩
/-- try: b / except CS as n: s -/
def wTry (isSq : Addr → Option Bool) (i : Nat) (wb ws : WS) : WS := ⟨fun D ρ μ => wb.run (tryD isSq i ws D) ρ μ, fun h q => wb.mono (tryD_le h) q⟩
theorem wTry_run {isSq : Addr → Option Bool} {i : Nat} {wb ws : WS} {D : PD} {ρ : Ev} {μ : Mu} : (wTry isSq i wb ws).run D ρ μ = wb.run (tryD isSq i ws D) ρ μ := rfl
section
variable {X : Cx} {Wx : WX} {x n : Str} {CS : Addr} {i : Nat} {body suite : List Stmt} {b₀ : Stmt} {np pos pos' : Pos} {isSq : Addr → Option Bool} {wb ws : WS}
theorem ls_try (hs : X.stack = X.env :: X.outer) (hf : X.env.frame = some X.env.locals) (hN : X.N.Nodup) (hi : X.N[i]? = some n) (hln : X.env.kindOf n = some .local) (hc : Names X x (.ref CS)) (tk : Takes X Wx) (hex : X.ex = [])
    (hsq : ∀ C b, isSq C = some b → PySem.W.exmOne X.K (.ref C) (.ref CS) = some b)
    (hb : ∀ (W : WX) (pn : List (Addr × Obj)) (xe : Value → Shared → Prop), Takes (X.tr pn xe) W → PassesOwn (model X.prog X.w) X.A X.env xe → LSs (X.tr pn xe) W body wb)
    (hsu : ∀ (a : Addr) (oe : Obj) (pn : List (Addr × Obj)), LSs (X.suite a ((a, oe) :: pn)) (fun _ _ _ _ => False) (b₀ :: suite) ws) :
    LS X Wx (.Try body [.ExceptHandler (some (.Name x np)) (some n) (b₀ :: suite) pos'] [] [] pos) (wTry isSq i wb ws) := by
  refine PS.weak (ps_try_asT (c := .ref CS) (i := i) (tb := fun W => lS X.K W wb) (ts := fun _ _ _ => lS X.K (fun _ _ _ _ => False) ws) (Wout := Wx) hs hf hN hi hln hc tk hex hb (fun a oe cls d pn => hsu a oe pn)) fun D σ H ⟨ρ, μ, E, S, h⟩ => ?_
  refine ⟨ρ, μ, E, S, wb.mono (D := tryD isSq i ws (outD X.K Wx μ H D)) ⟨fun _ _ q => q, fun _ _ q => q, fun _ _ q => q, fun _ _ q => q, fun ρ' C d μ' q => ?_⟩ h⟩
  obtain ⟨r, e, k1, k2⟩ := q
  intro σ' dx v H' F' S' E' hdx rv
  refine ⟨r, hsq C r e, fun hr => ⟨C, dx, rfl, rfl, fun a ha => ?_⟩, fun hr => k2 hr σ' dx v H' F' S' E' hdx rv⟩
  refine ⟨ρ'.set i (some (.ob a)), μ', E'.set (show Rp X.K H' (.ob a) (.ref a) from rfl) i, S', ws.mono ?_ (k1 hr a (S'.free ha))⟩
  have nx : ∀ {μ2 : Mu} {H2 : Hp}, Fr μ' H' μ2 H2 → Sim X.K μ2 H2 → H2 a = none → Fr μ H (mset μ2 a (.exc C d)) (upd H2 a (ExcO a C dx)) ∧ Sim X.K (mset μ2 a (.exc C d)) (upd H2 a (ExcO a C dx)) := fun {μ2 H2} F2 S2 n2 => by
    have q := sim_exc (C := C) S2 n2 (F2 dx _ hdx (fun _ z => by cases z) (S'.notTup hdx rfl)).1 (Rp.keep S' F2 d rv)
    exact ⟨(F'.trans F2).trans q.1, q.2⟩
  have ev : ∀ {ρ2 : Ev} {σ2 : L2.St} {μ2 : Mu} {H2 : Hp}, Sim X.K μ2 H2 → H2 a = none → EnvR X.K H2 ρ2 σ2 → EnvR X.K (upd H2 a (ExcO a C dx)) (ρ2.set i none) (σ2.set i none) := fun {ρ2 σ2 μ2 H2} S2 n2 E2 => (E2.keep S2 (fr_tup n2)).wipe i none
  refine ⟨fun ρ2 μ2 q σ2 H2 F2 S2 E2 n2 => ?_, fun u μ2 q v2 H2 F2 S2 r2 n2 => ?_, fun ρ2 μ2 q σ2 H2 F2 S2 E2 n2 => ?_, fun ρ2 μ2 q σ2 H2 F2 S2 E2 n2 => ?_, fun _ _ _ _ z => z.elim⟩
  · exact q _ _ (nx F2 S2 n2).1 (nx F2 S2 n2).2 (ev S2 n2 E2)
  · exact q _ _ (nx F2 S2 n2).1 (nx F2 S2 n2).2 (Rp.keep S2 (fr_tup n2) u r2)
  · exact q _ _ (nx F2 S2 n2).1 (nx F2 S2 n2).2 (ev S2 n2 E2)
  · exact q _ _ (nx F2 S2 n2).1 (nx F2 S2 n2).2 (ev S2 n2 E2)
end
end Sq

/-! raise X(v). -/
namespace Sq
open PySem PySem.Spec PyProof.Rows L2
/-- the class at C, of the name x, may be raised with a value -/
structure ErrD (P : Program) (w : World) (K : PySem.W.Frag) (mg : Str → Option Value) (base : Heap) (x : Str) (C : Addr) : Prop where
  at_ : mg x = some (.ref C)
  ok : ∃ (D f : Addr) (fd : FuncData), ErrC P K mg C D f ∧ FnOk P w K mg base C8.CX0 1 f fd ["self", "value"] (spInit P K mg D f) ∧ Binds K fd ["self", "value"] []
def wRaise (C : Addr) (a : WE) : WS := ⟨fun D ρ μ => a.run ρ μ (fun d μ1 => D.ex ρ C d μ1) (D.ex ρ), fun h q => a.mono (fun _ _ q => h.ex _ _ _ _ q) (fun _ _ _ q => h.ex _ _ _ _ q) q⟩
theorem wRaise_run {C : Addr} {a : WE} {D : PD} {ρ : Ev} {μ : Mu} : (wRaise C a).run D ρ μ = a.run ρ μ (fun d μ1 => D.ex ρ C d μ1) (D.ex ρ) := rfl
section
variable {X : Cx} {Wx : WX}
theorem ls_raise {x : Str} {C : Addr} {e : Expr} {wa : WE} {p pos pos' : Pos} {k : Nat} (T : ErrD X.prog X.w X.K X.mg X.base x C) (hc : X.calm = true) (tk : Takes X Wx) (ha : LAs X Wx [e] [wa]) (hr : Room k X.A) (hk : 2 ≤ k := by decide) (hg : Gl X x := by rfl)
    (hdb : (x == ("__debug__" : Str)) = false := by decide) (he : starEach (e :: []) X.env = (false, eval e X.env) :: starEach [] X.env := by rfl) (hpl : (backTo pos (starEach [] X.env)).any (·.1) = false := by rfl) :
    LS X Wx (.Raise (some (.Call (.Name x p) [e] [] pos)) none pos') (wRaise C wa) := by
  obtain ⟨D0, f, fd, EC, FO, hb⟩ := T.ok
  refine PS.weak (ps_raise hc tk (pmk_oex (k := 1) (dvs := []) EC.ox EC.iC EC.tI FO (hr.mono hk) hb .nil C8.pass0 hg T.at_ ha hdb he hpl)) fun D σ H ⟨ρ, μ, E, S, h⟩ => ?_
  refine lW.bind (w := wArgs [wa]) (Q := fun ds μ1 => ∃ d, ds = [d] ∧ OutXE X.K Wx μ H ρ C d μ1) (X := OutXE X.K Wx μ H ρ) E S (wa.mono (fun d μ1 q => ⟨d, rfl, q⟩) (fun _ _ _ q => q) h) (fun ds μ1 vs H1 F1 S1 E1 r1 q => ?_) fun C' d' μ' q => OutXE.x S E q
  obtain ⟨d, rfl, q⟩ := q
  obtain ⟨v, rfl, rv⟩ := rps1 r1
  refine ⟨(show 1 ≤ 1000 by decide), fun a ha => ⟨a, C, v, rfl, EC, upd_same, fun dd hd hne => ⟨rfl, dd, [("value", v)], upd_same, ?_, ?_, ?_⟩⟩⟩
  · rw [upd_ne hne, upd_same]
  · rw [upd_ne hne] at hd
    exact hd
  · rw [upd_ne hne] at hd
    have eq : upd (del (upd (upd (upd H1 a (exo a C none)) dd (exd dd [("value", v)])) a (exo a C (some dd))) a) dd (.xd [("value", v)]) = upd H1 dd (.xd [("value", v)]) := by
      funext b
      by_cases hbd : b = dd
      · rw [hbd, upd_same, upd_same]
      · rw [upd_ne hbd, upd_ne hbd]
        by_cases hba : b = a
        · rw [hba, del_same, ha]
        · rw [del_ne hba, upd_ne hba, upd_ne hbd, upd_ne hba]
    rw [eq]
    exact q σ dd v _ (F1.trans (fr_tup hd)) (sim_tup S1 hd) (E1.keep S1 (fr_tup hd)) upd_same (Rp.keep S1 (fr_tup hd) d rv)
end
end Sq

/-! _law_heard(call): the lambda's body runs, an error is kept. -/
namespace Sq
open PySem PySem.Spec PyProof.Rows L2
/-- the cells that the lambda t holds tell the maker's names as σ has them -/
structure CloOk (t : LamT) (N : List Str) (σ : L2.St) (H : Hp) (h : Heap) : Prop where
  inj : ∀ x y c, t.clo.lookup x = some c → t.clo.lookup y = some c → x = y
  has : ∀ y ∈ t.scope.names, y.2 = .free → ∃ c, t.clo.lookup y.1 = some c
  kind : t.scope.kind = .function
  co : t.scope.isCoroutine = false
  gen : t.scope.isGenerator = false
  own : ∀ y ∈ t.scope.names, y.2 ≠ .local ∧ y.2 ≠ .cell
  free : ∀ y c, t.clo.lookup y = some c → H c = none
  cell : ∀ y c, t.clo.lookup y = some c → ∃ v, h.IsCell c v
  val : ∀ y c, t.clo.lookup y = some c → ∀ (i : Nat) v, N[i]? = some y → σ[i]? = some (some v) → ∃ u, RelV v u ∧ h.IsCell c (some u)
/-- from the maker's own context -/
theorem clo_of {X : Cx} {pins : List (Addr × Obj)} {σ : L2.St} {H : Hp} {s : Shared} {params : Arguments} {body : Expr} {scope : Scope} (I : Inv X pins σ H s) (L : LamX.LamS X.env.scope scope) : CloOk (lamOf X.env.cells X.env.qual params body scope) X.N σ H s.heap := by
  have hfree := L.has I.ok
  have cm : ∀ {y c}, (cloFrom X.env.cells scope.names []).lookup y = some c → (y, NameKind.free) ∈ scope.names ∧ X.env.cells.lookup y = some c := fun {y c} e => by
    rcases cloFrom_mem (PySem.mem_of_lookup e) with hm | ⟨h1, h2⟩
    · cases hm
    · obtain ⟨c1, hc⟩ := hfree _ h1 rfl
      have hc : X.env.cells.lookup y = some c1 := hc
      have e2 : c = c1 := by rw [h2, hc] <;> rfl
      rw [e2]
      exact ⟨h1, hc⟩
  refine ⟨fun x y c e1 e2 => I.ok.inj x y c (cm e1).2 (cm e2).2, fun y hy e => ?_, L.kind, L.co, L.gen, L.own, fun y c e => I.freeC y c (cm e).2, fun y c e => I.cell y c (cm e).2, fun y c e i v e1 e2 => ?_⟩
  · obtain ⟨y1, y2⟩ := y
    have e : y2 = .free := e
    subst e
    exact mem_lookup (cloFrom_has (cells := X.env.cells) (acc := []) hy)
  · obtain ⟨hy, ec⟩ := cm e
    obtain ⟨m, hn, hl⟩ := I.loc
    have hk := L.free _ hy rfl
    have hvis : Vis X.env.scope y := hk.elim (fun k => .inr (.inl k)) (fun k => .inr (.inr k))
    obtain ⟨u, r, q⟩ := hl i y v e1 e2 hvis
    rcases q with ⟨k', _⟩ | ⟨_, c3, e', z⟩
    · have k' : X.env.scope.names.lookup y = some .local := k'
      rcases hk with k2 | k2 <;> rw [show X.env.scope.names.lookup y = _ from k2] at k' <;> cases k'
    · rw [ec] at e'
      cases e'
      exact ⟨u, r, z⟩
theorem CloOk.un {t : LamT} {N : List Str} {σ : L2.St} {fs ex : List Addr} {H H' : Hp} {h h' : Heap} (k : CloOk t N σ H h) (u : Un fs ex H H' h h') (hx : ∀ y c, t.clo.lookup y = some c → c ∉ ex) : CloOk t N σ H' h' := by
  have cellK : ∀ {c : Addr} {v : Option Value}, H c = none → c ∉ ex → h.IsCell c v → h'.IsCell c v := fun {c v} n nx ⟨o, ho, hd⟩ => by
    obtain ⟨sl, q⟩ := u.any ho n nx
    exact ⟨_, q, hd⟩
  refine ⟨k.inj, k.has, k.kind, k.co, k.gen, k.own, fun y c e => ?_, fun y c e => ?_, fun y c e i v e1 e2 => ?_⟩
  · obtain ⟨v, o, ho, hd⟩ := k.cell y c e
    exact u.free c o ho (k.free y c e) (hx y c e)
  · obtain ⟨v, z⟩ := k.cell y c e
    exact ⟨v, cellK (k.free y c e) (hx y c e) z⟩
  · obtain ⟨v', r, z⟩ := k.val y c e i v e1 e2
    exact ⟨v', r, cellK (k.free y c e) (hx y c e) z⟩
theorem CloOk.kept {t : LamT} {N : List Str} {σ : L2.St} {H : Hp} {h h' : Heap} (k : CloOk t N σ H h) (kp : ∀ b o, h.get? b = some o → h'.get? b = some o) : CloOk t N σ H h' := k.un (fs := []) (ex := []) (Un.kept kp) fun _ _ _ z => nomatch z
/-- another state that tells no more -/
theorem CloOk.weak {t : LamT} {N : List Str} {σ σ' : L2.St} {H : Hp} {h : Heap} (k : CloOk t N σ H h) (w : ∀ (i : Nat) (v : V), σ'[i]? = some (some v) → σ[i]? = some (some v)) : CloOk t N σ' H h :=
  ⟨k.inj, k.has, k.kind, k.co, k.gen, k.own, k.free, k.cell, fun y c e i v e1 e2 => k.val y c e i v e1 (w i v e2)⟩
abbrev lamE (t : LamT) (L f c' : Addr) : Env := PySem.W.envX t.q t.scope L f (.ref c') t.clo
/-- the context of the lambda's body, entered at s from the frames outer; N: the maker's names -/
def lamC (X : Cx) (N : List Str) (A : Around) (outer : List Env) (s : Shared) (H : Hp) (E : XK) (t : LamT) (f c' : Addr) : Cx where
  prog := X.prog
  w := X.w
  K := X.K
  mg := X.mg
  base := X.base
  A := A.deeper (lamE t s.heap.objs.size f c')
  N := N
  s_0 := s
  H_0 := H
  env := lamE t s.heap.objs.size f c'
  outer := outer
  stack := lamE t s.heap.objs.size f c' :: outer
  ex := []
  fn := fun _ => false
  calm := true
  pn := []
  xe := fun e s' => wpAny (model X.prog X.w) (A.deeper (lamE t s.heap.objs.size f c')) (leaving (lamE t s.heap.objs.size f c') e) (fun _ s'' => L2.CX X.prog X.w outer H s E e s'') (fun e' s'' => L2.CX X.prog X.w outer H s E e' s'') s'
section
variable {X : Cx} {N : List Str} {σ : L2.St} {t : LamT}
theorem lamC_start {A : Around} {outer : List Env} {E : XK} {f c' : Addr} {H : Hp} {s : Shared} {h₁ : Heap} {tk : Nat} (k : CloOk t N σ H s.heap) (hl : σ.length = N.length) (e0 : Env0 X.prog X.w X.K X.mg X.base A outer s H) (hd : A.handled = none)
    (hns : h₁.Ns s.heap.objs.size fun y => ([] : List (Str × Value)).reverse.lookup y) (kp : ∀ b o, s.heap.get? b = some o → h₁.get? b = some o) : Inv (lamC X N A outer s H E t f c') [] σ H { s with heap := h₁, toks := tk } := by
  have k1 := k.kept kp
  have noA : ∀ b : Addr, b ∉ (lamC X N A outer s H E t f c').ex := fun b z => absurd (show b ∈ ([] : List Addr) from z) (by simp)
  refine ⟨⟨e0.mod, k.kind, rfl, rfl, Nat.le_refl _, k.inj, fun y hy => ?_, fun y c z _ => ?_, fun _ => hd, Around.frames_deeper e0.frames, .inr ⟨rfl, rfl⟩, fun b z => absurd z (noA b), e0.bs, e0.bsz, fun b _ _ => noA b, fun b z => absurd z (noA b), e0.funs, e0.frf⟩,
    rfl, e0.bare, Un.kept kp, ⟨_, hns, fun i y v e1 e2 e3 => ?_⟩, fun y c e => k1.cell y c e, e0.hok.fresh (Nat.le_refl _), fun y c e => k1.free y c e, fun q hq => absurd (show q ∈ ([] : List (Addr × Obj)) ++ [] from hq) (by simp), e0.hok.kept kp, hl⟩
  · have hy : t.scope.names.lookup y = some .cell ∨ t.scope.names.lookup y = some .free := hy
    rcases hy with hy | hy
    · exact absurd rfl (k.own _ (PySem.mem_of_lookup hy)).2
    · exact k.has _ (PySem.mem_of_lookup hy) rfl
  · have z : false = true := z
    cases z
  · have e3 : Vis t.scope y := e3
    rcases e3 with q | q | q
    · exact absurd rfl (k.own _ (PySem.mem_of_lookup q)).1
    · exact absurd rfl (k.own _ (PySem.mem_of_lookup q)).2
    · obtain ⟨c, ec⟩ := k.has _ (PySem.mem_of_lookup q) rfl
      obtain ⟨u, r, z⟩ := k1.val y c ec i v e1 e2
      exact ⟨u, r, .inr ⟨.inr q, c, ec, z⟩⟩
/-- the lambda f = t, called with nothing -/
theorem lam_codes {A : Around} {outer : List Env} {E : XK} {f c' : Addr} {H : Hp} {s : Shared} {pm ctv : Value} {Q : VK} {tb : TE} (k : CloOk t N σ H s.heap) (hl : σ.length = N.length) (e0 : Env0 X.prog X.w X.K X.mg X.base A outer s H) (hd : A.handled = none) (hdep : A.depth < recursionLimit)
    (hf : s.heap.get? f = some (PySem.W.kla_obj "<lambda>" t.q t.params t.body t.scope t.clo pm c' ctv)) (hc : ∃ (oc : Obj) (vs : Array Value) (tk : Tok), s.heap.get? c' = some oc ∧ oc.data = .fields vs ∧ vs[1]? = some (.str t.q tk))
    (hbind : bindArgs (PySem.W.kla_fn "<lambda>" t.q t.params t.body t.scope t.clo pm (.ref c') ctv) ⟨[], []⟩ = pure []) (hnl : s.heap.NoLimit)
    (hbody : PE (lamC X N A outer s H E t f c') t.body tb) (ht : tb σ H Q) : codeAny (model X.prog X.w) A (.call (.ref f) ⟨[], []⟩) (CR (L2.CX X.prog X.w) outer X.prog X.w H s Q E) s := by
  obtain ⟨oc, vs, tk, hoc, hdc, hvc⟩ := hc
  refine PySem.W.kla_callFunE hdep hf rfl k.co k.gen rfl ⟨c', oc, vs, tk, rfl, hoc, hdc, hvc⟩ ?_
  rw [hbind]
  refine wpAny_pure (wpAny_newFunctionEnv (fun y hy => (k.own y hy).2) (fun y hy => absurd hy (by simp)) (fun h₁ hns hsb => ⟨hnl.fresh _ hsb, ?_⟩) k.kind)
  show codeAny _ _ (.expr t.body (lamE t s.heap.objs.size f c')) _ _
  have kp : ∀ b o, s.heap.get? b = some o → h₁.get? b = some o := fun b o e => hsb.extBut b o (Nat.ne_of_lt (Heap.lt_size e)) (Heap.get?_push_of_some _ e)
  have J := lamC_start (X := X) (E := E) (f := f) (c' := c') (tk := s.toks + ([] : List (Str × Value)).length) k hl e0 hd hns kp
  refine PySem.W.kla_codeExpr (wpAny_mono (hbody.run [] _ _ H Q J ht) (fun v s' hq => ?_) fun e s' hq => hq)
  obtain ⟨w', H', J', rv, q⟩ := hq
  exact ⟨w', H', J'.os, J'.bare, J'.base, J'.hok, rv, q⟩
end

theorem tupK_un {K : PySem.W.Frag} {fs ex : List Addr} {H H' : Hp} {h h' : Heap} (u : Un fs ex H H' h h') : TupK K H H' := ⟨fun p vs q => by
  rcases q with (q | ⟨o, q⟩) | q
  · exact .inl (.inl (u.tups _ _ q))
  · exact .inl (.inr ⟨o, u.frzs _ _ _ q⟩)
  · exact .inr q, fun p vs q => by
  rcases q with ⟨o, q⟩ | q
  · exact .inl ⟨o, u.frzs _ _ _ q⟩
  · exact .inr q⟩
/-- call(), the lambda f being the value of the name i; ρ0: what the maker's names are -/
def wAct (i : Nat) (f : Addr) (ρ0 : Ev) (w : WE) : WE := ⟨fun ρ μ Q X => ρ[i]? = some (some (.ob f)) ∧ w.run ρ0 μ Q X, fun hQ hX h => ⟨h.1, w.mono hQ hX h.2⟩⟩
theorem wAct_run {i : Nat} {f : Addr} {ρ0 : Ev} {w : WE} {ρ : Ev} {μ : Mu} {Q : PQ} {X : XQ} : (wAct i f ρ0 w).run ρ μ Q X = (ρ[i]? = some (some (.ob f)) ∧ w.run ρ0 μ Q X) := rfl
/-- the lambda t's body means w, wherever it is called -/
def LamB (X : Cx) (N : List Str) (t : LamT) (k : Nat) (w : WE) : Prop := ∀ (A : Around) (outer : List Env) (s : Shared) (H : Hp) (E : XK) (f c' : Addr), A.guards = some [] → Room k (A.deeper (lamE t s.heap.objs.size f c')) → LE (lamC X N A outer s H E t f c') (fun cls d _ H' => E cls d H') t.body w
section
variable {X : Cx} {N : List Str} {σ : L2.St} {t : LamT} {H : Hp} {s : Shared}
theorem le_act {Ng : List Str} {qg : Str} {sg : Scope} {g f c' : Addr} {cdg pm ctv : Value} {k i : Nat} {a : Str} {pn : List (Addr × Obj)} {xe : Value → Shared → Prop} {W : WX} {ρ0 : Ev} {w : WE} {p1 p2 : Pos}
    (hk : CloOk t N σ H s.heap) (hl : σ.length = N.length) (hf : H f = some (.frz (PySem.W.kla_obj "<lambda>" t.q t.params t.body t.scope t.clo pm c' ctv) (anyH f))) (hC : CodeK H c' t.q) (E0 : EnvR X.K H ρ0 σ)
    (hbind : bindArgs (PySem.W.kla_fn "<lambda>" t.q t.params t.body t.scope t.clo pm (.ref c') ctv) ⟨[], []⟩ = pure [])
    (tk : Takes ((cxOf C8.CX0 X.prog X.w X.K X.mg X.base Ng qg sg g cdg X.A X.stack s H C8.E0).tr pn xe) W) (hgd : X.A.guards = some []) (hr : Room (k + 1) (X.A.deeper (envOfC qg sg s.heap.objs.size g cdg)))
    (hbody : LamB X N t k w) (hN : Ng[i]? = some a) (hv : Vis sg a) (hd : (a == ("__debug__" : Str)) = false := by decide) (hcd : (a == ("__classdict__" : Str)) = false := by decide) :
    LE ((cxOf C8.CX0 X.prog X.w X.K X.mg X.base Ng qg sg g cdg X.A X.stack s H C8.E0).tr pn xe) W (.Call (.Name a p1) [] [] p2) (wAct i f ρ0 w) := by
  refine ⟨fun pinsZ sZ σZ HZ Q IZ h => ?_⟩
  obtain ⟨ρg, μ, Eg, S, hi, h⟩ := h
  obtain ⟨v, hσ, rv⟩ := Eg.get hi
  obtain rfl : v = .ref f := rv
  refine wpAny_Call_Name_kw (thn ((pe_var (pos := p1) (i := i) hN hv hd hcd).run pinsZ sZ σZ HZ (fun v H1 => v = .ref f ∧ H1 = HZ) IZ ⟨.ref f, hσ, rfl, rfl⟩) fun u s1 ⟨v, H1, I1, r1, q1⟩ => ?_)
  obtain ⟨ev, eH⟩ := q1
  subst ev
  rw [eH] at I1
  obtain rfl : u = Value.ref f := r1
  have un : Un (frs X.stack) [] H HZ s.heap s1.heap := I1.base
  obtain ⟨of1, _⟩ := I1.hok f _ (un.frzs _ _ _ hf)
  refine PySem.W.callWith_F0 ⟨_, _, _, _, of1⟩ ?_
  obtain ⟨oc, vs, _, hC⟩ := hC
  have hc1 := (I1.hok c' _ (un.frzs _ _ _ hC)).2.1
  have k1 := hk.un un fun _ _ _ z => nomatch z
  have rc := lam_codes (X := X) (E := fun cls d H' => W cls d σZ H') (Q := Q) (tb := lE X.K (fun cls d _ H' => W cls d σZ H') w) k1 hl I1.env0 hr.hd hr.depth of1 hc1 hbind I1.nolimit (hbody _ _ s1 HZ _ f c' hgd (hr.deeper _)) ⟨ρ0, μ, E0.keepT (tupK_un un), S, h⟩
  refine wpAny_call (codeAny_mono rc fun r s' hq => ?_)
  cases r with
  | error e => exact tk e s' (XE.of_call I1 (fun _ _ _ h => h) hq)
  | ok fl =>
    cases fl with
    | ret u => exact I1.after hq
    | next => exact False.elim hq
    | brk => exact False.elim hq
    | cont => exact False.elim hq
end
end Sq

/-! The harness's _law_heard. -/
namespace Sq
open PySem PySem.Spec PyProof.Rows L2
/-- its text, whatever the positions -/
def heardBody (p1 p2 p3 p4 p5 p6 p7 p8 p9 p10 p11 p12 p13 p14 p15 p16 p17 p18 p19 p20 p21 : Pos) : List Stmt :=
  [.Assign [.Tuple [.Name "caught" p1, .Name "gave" p2] 0 p3] (.Tuple [.Constant .none 0 p4, .Constant .none 0 p5] 0 p6) p7,
   .Try [.Assign [.Name "gave" p8] (.Call (.Name "call" p9) [] [] p10) p11] [.ExceptHandler (some (.Name "SquareError" p12)) (some "error") [.Assign [.Name "caught" p13] (.Name "error" p14) p15] p16] [] [] p17,
   .Return (some (.Tuple [.Name "caught" p18, .Name "gave" p19] 0 p20)) p21]
abbrev heardN : List Str := ["call", "caught", "gave", "error"]
/-- its names -/
structure HeardS (sg : Scope) : Prop where
  call : sg.names.lookup ("call" : Str) = some .local
  caught : sg.names.lookup ("caught" : Str) = some .local
  gave : sg.names.lookup ("gave" : Str) = some .local
  error : sg.names.lookup ("error" : Str) = some .local
  sq : sg.names.lookup ("SquareError" : Str) = some .globalImplicit
/-- what its body does -/
def heardW (isSq : Addr → Option Bool) (wa : WE) : WS := wSeq (wAsg (wTup [wC .non, wC .non]) (gT [gN 1, gN 2])) (wSeq (wTry isSq 3 (wSet 2 wa) (wSet 1 (wVar 3))) (wRet (wTup [wVar 1, wVar 2])))
theorem heard_body {p1 p2 p3 p4 p5 p6 p7 p8 p9 p10 p11 p12 p13 p14 p15 p16 p17 p18 p19 p20 p21 : Pos} {X : Cx} {Wx : WX} {sg : Scope} {CS : Addr} {isSq : Addr → Option Bool} {wa : WE} (hsc : X.env.scope = sg) (S : HeardS sg) (hN : X.N = heardN) (hs : X.stack = X.env :: X.outer) (hf : X.env.frame = some X.env.locals)
    (hc : X.calm = true) (hfn : X.fn = fun _ => true) (hm : X.mg "SquareError" = some (.ref CS)) (tk : Takes X Wx) (hex : X.ex = []) (hsq : ∀ C b, isSq C = some b → PySem.W.exmOne X.K (.ref C) (.ref CS) = some b)
    (hw : swappedStores [.Tuple [.Name "caught" p1, .Name "gave" p2] 0 p3] (.Tuple [.Constant .none 0 p4, .Constant .none 0 p5] 0 p6) X.env = pure none)
    (act : ∀ (W : WX) (pn : List (Addr × Obj)) (xe : Value → Shared → Prop), Takes (X.tr pn xe) W → LE (X.tr pn xe) W (.Call (.Name "call" p9) [] [] p10) wa) :
    LSs X Wx (heardBody p1 p2 p3 p4 p5 p6 p7 p8 p9 p10 p11 p12 p13 p14 p15 p16 p17 p18 p19 p20 p21) (heardW isSq wa) := by
  obtain ⟨prog, w, K, mg, base, A, N, s_0, H_0, env, outer, stack, ex, fn, calm, pn, xe⟩ := X
  dsimp only at hN hs hf hc hfn hex hsc hm
  subst hN hc hfn hex hsc
  have nd : heardN.Nodup := by decide
  have v1 : env.scope.names.lookup ("caught" : Str) = some .local := S.caught
  have v2 : env.scope.names.lookup ("gave" : Str) = some .local := S.gave
  have v3 : env.scope.names.lookup ("error" : Str) = some .local := S.error
  refine lss_cons (ls_asg (le_tup (la_cons le_non (la_cons le_non la_nil))) (lg_tup (lgs_cons (lg_name 1 nd (hx := .inl v1)) (lgs_cons (lg_name 2 nd (hx := .inl v2)) lgs_nil))) (hw := hw)) (lss_cons (ls_try (CS := CS) (n := "error") hs hf nd rfl S.error ⟨S.sq, by decide, .inl hm⟩ tk rfl hsq (fun W pn xe tk _ => ?_) (fun a oe pn => ?_)) (lss_one (ls_ret (le_tup (la_cons (le_var 1 (hv := .inl v1)) (la_cons (le_var 2 (hv := .inl v2)) la_nil))))))
  · exact lss_one (ls_set 2 nd (act W pn xe tk) (hx := .inl v2))
  · exact lss_one (ls_set 1 nd (le_var 3 (hv := .inl v3)) (hx := .inl v1))

/-- what _law_heard makes of a lambda that means w -/
def heardQ (isSq : Addr → Option Bool) (w : WE) (ρ : Ev) (μ : Mu) (Q : PQ) : Prop := w.run ρ μ (fun d μ1 => Q (.tup [.non, d]) μ1) (fun C d μ1 => isSq C = some true ∧ ∀ a, μ1 a = none → Q (.tup [.ob a, .non]) (mset μ1 a (.exc C d)))
theorem heardQ_mono {isSq : Addr → Option Bool} {w : WE} {ρ : Ev} {μ : Mu} {Q Q' : PQ} (hQ : ∀ d μ', Q d μ' → Q' d μ') (h : heardQ isSq w ρ μ Q) : heardQ isSq w ρ μ Q' := w.mono (fun _ _ q => hQ _ _ q) (fun _ _ _ q => ⟨q.1, fun a ha => hQ _ _ (q.2 a ha)⟩) h
/-- what the text says of _law_heard -/
structure HeardD (P : Program) (w : World) (K : PySem.W.Frag) (mg : Str → Option Value) (base : Heap) (isSq : Addr → Option Bool) : Prop where
  ex : ∃ (g CS : Addr) (fd : FuncData) (st : Stmt) (p1 p2 p3 p4 p5 p6 p7 p8 p9 p10 p11 p12 p13 p14 p15 p16 p17 p18 p19 p20 p21 : Pos), Fun K "_law_heard" "_law_heard" st g fd ∧ FnScope heardN ["call"] (defScope st) ∧ HeardS (defScope st) ∧
    defBody st = heardBody p1 p2 p3 p4 p5 p6 p7 p8 p9 p10 p11 p12 p13 p14 p15 p16 p17 p18 p19 p20 p21 ∧
    (∀ env : Env, env.scope = defScope st → swappedStores [.Tuple [.Name "caught" p1, .Name "gave" p2] 0 p3] (.Tuple [.Constant .none 0 p4, .Constant .none 0 p5] 0 p6) env = pure none) ∧
    mg "_law_heard" = some (.ref g) ∧ PySem.W.keepIn K (.ref g) = true ∧ Binds K fd ["call"] [] ∧ mg "SquareError" = some (.ref CS) ∧ (∀ C b, isSq C = some b → PySem.W.exmOne K (.ref C) (.ref CS) = some b)
section
variable {X : Cx} {Wx : WX} {isSq : Addr → Option Bool}
theorem heard_run {pins : List (Addr × Obj)} {σ' σ : L2.St} {H : Hp} {s : Shared} {N : List Str} {t : LamT} {f : Addr} {ρ : Ev} {μ : Mu} {Q : VK} {w : WE} {k : Nat} (T : HeardD X.prog X.w X.K X.mg X.base isSq) (I : Inv X pins σ' H s) (hk : CloOk t N σ H s.heap) (hl : σ.length = N.length) (S : Sim X.K μ H) (hf : μ f = some (.lam t)) (E0 : EnvR X.K H ρ σ)
    (hbind : ∀ (pm cv ctv : Value), bindArgs (PySem.W.kla_fn "<lambda>" t.q t.params t.body t.scope t.clo pm cv ctv) ⟨[], []⟩ = pure []) (hgd : X.A.guards = some []) (hr : Room (k + 2) X.A) (hbody : LamB X N t k w) (hq : heardQ isSq w ρ μ (Out (Rp X.K) X.K μ H Q)) :
    ∃ g : Addr, X.mg "_law_heard" = some (.ref g) ∧ PySem.W.keepIn X.K (.ref g) = true ∧ codeAny (model X.prog X.w) X.A (.call (.ref g) ⟨[.ref f], []⟩) (CR C8.CX0 X.stack X.prog X.w H s Q C8.E0) s := by
  obtain ⟨g, CS, fd, st, p1, p2, p3, p4, p5, p6, p7, p8, p9, p10, p11, p12, p13, p14, p15, p16, p17, p18, p19, p20, p21, FU, Sg, HS, hbd, hw, hmg, hkeep, hb, hmS, hsq⟩ := T.ex
  refine ⟨g, hmg, hkeep, ?_⟩
  obtain ⟨oc, od, kV, doc, pm, an, cdv, ct, osl, efd, lk, hcd⟩ := FU.ex
  subst efd
  obtain ⟨pm', c', ctv, e1, e2⟩ := S.at_ f _ hf
  refine LamX.run_ofS (N := heardN) (ps := ["call"]) (us := [.ref f]) (vs := [.ref f]) (CX := C8.CX0) (E := C8.E0) lk hcd Sg hr I.env0 (hb s [.ref f] I.kIn rfl) (.cons rfl .nil) rfl fun hr' => ⟨lS X.K (fun _ _ _ _ => False) (heardW isSq (wAct 0 f ρ w)), ?_, ?_⟩
  · rw [hbd]
    exact heard_body (X := cxOf C8.CX0 X.prog X.w X.K X.mg X.base heardN "_law_heard" (defScope st) g cdv X.A X.stack s H C8.E0) (CS := CS) rfl HS rfl rfl rfl rfl rfl hmS LamX.takes0 rfl hsq (hw _ rfl)
      fun W pn xe tk => le_act hk hl e1 e2 E0 (hbind _ _ _) tk hgd hr' hbody rfl (.inl HS.call)
  · refine ⟨[some (.ob f), none, none, none], μ, ?_, S, ?_⟩
    · exact ⟨some (.ref f), _, rfl, fun d q => by cases q; exact ⟨.ref f, rfl, rfl⟩, EnvR.nones 3⟩
    · refine ⟨rfl, ?_⟩
      rw [runGs_cons, gN_run, runGs_cons, gN_run, runGs_nil]
      refine ⟨rfl, w.mono (fun d μ1 q => ?_) (fun C d μ1 q => ?_) hq⟩
      · exact q
      · exact ⟨true, q.1, fun _ a ha => q.2 a ha, fun z => nomatch z⟩
/-- _law_heard(a), a being one of the lambdas of L; own: names that the lambdas do not see -/
def wHeard (isSq : Addr → Option Bool) (own : List Nat) (L : List (LamT × WE)) (a : WE) : WE := ⟨fun ρ μ Q X => a.run ρ μ (fun d μ1 => ∃ f t w, d = .ob f ∧ μ1 f = some (.lam t) ∧ (t, w) ∈ L ∧ heardQ isSq w (wipeE ρ own) μ1 Q) X,
  fun hQ hX h => a.mono (fun _ _ ⟨f, t, w, e1, e2, e3, q⟩ => ⟨f, t, w, e1, e2, e3, heardQ_mono hQ q⟩) hX h⟩
theorem wHeard_run {own : List Nat} {L : List (LamT × WE)} {a : WE} {ρ : Ev} {μ : Mu} {Q : PQ} {X : XQ} : (wHeard isSq own L a).run ρ μ Q X = a.run ρ μ (fun d μ1 => ∃ f t w, d = .ob f ∧ μ1 f = some (.lam t) ∧ (t, w) ∈ L ∧ heardQ isSq w (wipeE ρ own) μ1 Q) X := rfl
/-- the lambda t, of the meaning w, may be called from the context X -/
structure LamIn (X : Cx) (N : List Str) (k : Nat) (own : List Nat) (G : L2.St → Prop) (t : LamT) (w : WE) : Prop where
  body : LamB X N t k w
  bind : ∀ (pm cv ctv : Value), bindArgs (PySem.W.kla_fn "<lambda>" t.q t.params t.body t.scope t.clo pm cv ctv) ⟨[], []⟩ = pure []
  clo : ∀ (pins : List (Addr × Obj)) (σ : L2.St) (H : Hp) (s : Shared), G σ → Inv X pins σ H s → ∃ σm : L2.St, CloOk t N σm H s.heap ∧ σm.length = N.length ∧ ∀ ρ, EnvR X.K H ρ σ → EnvR X.K H (wipeE ρ own) σm
/-- an expression, where the state is as G says -/
def LEg (G : L2.St → Prop) (X : Cx) (Wx : WX) (e : Expr) (w : WE) : Prop := PE X e (fun σ H Q => G σ ∧ lE X.K Wx w σ H Q)
theorem LEg.le {G : L2.St → Prop} {e : Expr} {w : WE} (h : LEg G X Wx e w) (hG : ∀ σ, G σ) : LE X Wx e w := PE.weak h fun σ H Q q => ⟨hG σ, q⟩
theorem LE.g {G : L2.St → Prop} {e : Expr} {w : WE} (h : LE X Wx e w) : LEg G X Wx e w := PE.weak h fun σ H Q q => q.2
theorem leg_heard {G : L2.St → Prop} {N : List Str} {own : List Nat} {L : List (LamT × WE)} {k : Nat} {e : Expr} {wa : WE} {p pos : Pos} (T : HeardD X.prog X.w X.K X.mg X.base isSq) (hL : ∀ q ∈ L, LamIn X N k own G q.1 q.2) (ha : LAs X Wx [e] [wa]) (hgd : X.A.guards = some []) (hr : Room (k + 2) X.A) (hg : Gl X "_law_heard" := by rfl)
    (he : starEach (e :: []) X.env = (false, eval e X.env) :: starEach [] X.env := by rfl) (hpl : (backTo pos (starEach [] X.env)).any (·.1) = false := by rfl) : LEg G X Wx (.Call (.Name "_law_heard" p) [e] [] pos) (wHeard isSq own L wa) := by
  have T' := T
  obtain ⟨g, CS, fd, st, p1, p2, p3, p4, p5, p6, p7, p8, p9, p10, p11, p12, p13, p14, p15, p16, p17, p18, p19, p20, p21, FU, Sg, HS, hbd, hw, hmg, hkeep, hb, hmS, hsq⟩ := T.ex
  refine ⟨fun pins s σ H Q I ⟨hG, ρ, μ, E, S, h⟩ => wpAny_Call_Name_kw (ld_glob I hg hmg (PySem.W.callWith_K (h₀ := X.base) I.ok.mod.kin hkeep (thn (ha.run pos pins s σ H
    (fun vs H1 => ∃ f t w μ1, vs = [.ref f] ∧ Fr μ H μ1 H1 ∧ Sim X.K μ1 H1 ∧ EnvR X.K H1 ρ σ ∧ μ1 f = some (.lam t) ∧ (t, w) ∈ L ∧ heardQ isSq w (wipeE ρ own) μ1 (Out (Rp X.K) X.K μ H Q)) I ?_) fun us s1 ⟨vs, H1, I1, r, f, t, w, μ1, ev, F1, S1, E1, e2, e3, q⟩ => ⟨I1.kIn, ?_⟩) he hpl) (by decide))⟩
  · refine lW.bind (w := wArgs [wa]) (Q := fun ds μ1 => ∃ d, ds = [d] ∧ ∃ f t w, d = .ob f ∧ μ1 f = some (.lam t) ∧ (t, w) ∈ L ∧ heardQ isSq w (wipeE ρ own) μ1 (Out (Rp X.K) X.K μ H Q)) (X := OutX X.K Wx σ μ H) E S (wa.mono (fun d μ1 q => ⟨d, rfl, q⟩) (fun _ _ _ q => q) h) (fun ds μ1 vs H1 F1 S1 E1 r1 q => ?_) fun _ _ _ q => q
    obtain ⟨d, rfl, f, t, w, rfl, e2, e3, q⟩ := q
    obtain ⟨v, rfl, rv⟩ := rps1 r1
    obtain rfl : v = .ref f := rv
    exact ⟨f, t, w, μ1, rfl, F1, S1, E1, e2, e3, q⟩
  · subst ev
    have LI := hL _ e3
    obtain ⟨σm, k1, k2, k3⟩ := LI.clo pins σ H1 s1 hG I1
    obtain ⟨g', hg', _, rc⟩ := heard_run (Q := Q) T' I1 k1 k2 S1 e2 (k3 ρ E1) LI.bind hgd hr LI.body (heardQ_mono (fun _ _ q => q.trans F1) q)
    rw [hmg] at hg'
    cases hg'
    obtain ⟨u, rfl, ru⟩ : ∃ u, us = [u] ∧ RelV (.ref f) u := by
      cases r with
      | cons r1 r2 =>
        cases r2
        exact ⟨_, rfl, r1⟩
    obtain rfl : u = Value.ref f := ru
    refine wpAny_call (codeAny_mono rc fun r s2 hq => ?_)
    cases r with
    | error e => exact (show False from hq).elim
    | ok fl =>
      cases fl with
      | ret u => exact I1.after hq
      | next => exact False.elim hq
      | brk => exact False.elim hq
      | cont => exact False.elim hq
theorem le_heard {N : List Str} {own : List Nat} {L : List (LamT × WE)} {k : Nat} {e : Expr} {wa : WE} {p pos : Pos} (T : HeardD X.prog X.w X.K X.mg X.base isSq) (hL : ∀ q ∈ L, LamIn X N k own (fun _ => True) q.1 q.2) (ha : LAs X Wx [e] [wa]) (hgd : X.A.guards = some []) (hr : Room (k + 2) X.A) (hg : Gl X "_law_heard" := by rfl)
    (he : starEach (e :: []) X.env = (false, eval e X.env) :: starEach [] X.env := by rfl) (hpl : (backTo pos (starEach [] X.env)).any (·.1) = false := by rfl) : LE X Wx (.Call (.Name "_law_heard" p) [e] [] pos) (wHeard isSq own L wa) :=
  (leg_heard T hL ha hgd hr hg he hpl).le fun _ => trivial
/-- the maker's own context -/
theorem lamIn_own {params : Arguments} {body : Expr} {scope : Scope} {k : Nat} {w : WE} (L : LamX.LamS X.env.scope scope) (hb : LamB X X.N (lamOf X.env.cells X.env.qual params body scope) k w)
    (hbind : ∀ (q : Str) (cl : List (Str × Addr)) (pm cv ctv : Value), bindArgs (PySem.W.kla_fn "<lambda>" q params body scope cl pm cv ctv) ⟨[], []⟩ = pure []) : LamIn X X.N k [] (fun _ => True) (lamOf X.env.cells X.env.qual params body scope) w :=
  ⟨hb, fun pm cv ctv => hbind _ _ _ _ _, fun pins σ H s _ I => ⟨σ, clo_of I L, I.len, fun ρ E => E⟩⟩
end
end Sq

/-! [_law_heard(call)[0] for call in calls]. -/
namespace Sq
open PySem PySem.Spec PyProof.Rows L2
section
variable {X : Cx}
/-- a list comprehension's block, its element told where the block starts -/
theorem lc_coreI {pins : List (Addr × Obj)} {s : Shared} {σ : L2.St} {H : Hp} {Q : VK} {elt tg iter : Expr} {ifs : List Expr} {scope : Scope} {own : List (Str × Nat)} {pos pos' : Pos} {wi : TI} {g : TG} {tt : TT} {te : TE} {use : Option (Value → Sem Unit)} {Qf : Value → Shared → Prop}
    (hc : X.calm = true) (hN : X.N.Nodup) (I : Inv X pins σ H s) (hi : PI X tg iter wi) (ok : BlkOk X.N X.env.scope scope own)
    (hg : ∀ (s : Shared) (H : Hp) (C : Addr) (cl : List (Str × Addr)) (fp : List Addr), PG (X.blk s H scope (compEnvC scope cl C X.env) fp) tg g) (ht : ∀ (s : Shared) (H : Hp) (C : Addr) (cl : List (Str × Addr)) (fp : List Addr), PTs (X.blk s H scope (compEnvC scope cl C X.env) fp) ifs tt)
    (he : ∀ (s : Shared) (H : Hp) (C : Addr) (cl : List (Str × Addr)) (fp : List Addr), Inv X pins σ H s → (∀ b ∈ fp, FpOk X pins H b) → PE (X.blk s H scope (compEnvC scope cl C X.env) fp) elt te) (hs : ∀ x, foldedSetIterable iter X.env x = pure x)
    (h : tLc wi g tt te (own.map (·.2)) σ H Q)
    (hRR : ∀ D C s' m H', Inv X pins σ H' s' → Q (.ref D) H' → s'.heap.Ns C m → FpOk X pins H' C → compPost (model X.prog X.w) X.A X.xe use Qf (.ref D) C (.ok .next) s') :
    wpAny (model X.prog X.w) X.A (comprehension (.ListComp elt [⟨tg, iter, ifs, 0⟩] scope pos) scope X.env pos' (newList []) false (eval iter X.env) use) Qf X.xe s := by
  have hfree : ∀ y ∈ scope.names, y.2 = .free → ∃ c, X.env.cells.lookup y.1 = some c := fun y hy e => by
    rcases ok.free y hy e with k | k
    · exact I.ok.has _ (.inl k)
    · exact I.ok.has _ (.inr k)
  refine wpAny_comprehension_free (use := use) rfl hs (closure_ok hfree) ok.kind (fun y hy e => by rw [ok.uniq y hy, e])
    (thn (hi.run pins s σ H _ I h) fun xv s1 hx => thn hx fun itv s2 h2 => ?_)
  obtain ⟨it, fp, tn, J, H2, e, I2, T, st2, f2, q⟩ := h2
  subst e
  refine wpAny_newObj_type (newEnv_comp ?_) (by show 0 ≤ sizeLine; decide)
  generalize hD : s2.heap.objs.size = D
  have hDn : H2 D = none := I2.hok.fresh (Nat.le_of_eq hD)
  obtain ⟨W, ⟨m0, w0⟩, turn⟩ := q D hDn
  -- the new list
  generalize hs3 : ({ s2 with heap := s2.heap.push { cls := .type "list", data := .seq ([] : List Value).toArray } } : Shared) = s3
  have I3 : Inv X pins σ (upd H2 D (.lst [])) s3 := by
    rw [← hs3]
    refine I2.laid (t' := s2.toks) (fun b o e => Heap.get?_push_of_some _ e) (Nat.le_of_eq hD) ⟨Nat.zero_le _, [], 0, .nil, ?_⟩
    rw [← hD]
    exact Heap.get?_push_size _ rfl
  have h3 : s3.heap = s2.heap.push { cls := .type "list", data := .seq ([] : List Value).toArray } := by rw [← hs3]
  have sz : ∀ b ∈ fp, b < s2.heap.objs.size := fun b hb => by
    obtain ⟨o, e, _⟩ := T.obj _ _ st2 b hb
    exact Heap.lt_size e
  have f3 : ∀ b ∈ fp, FpOk X pins (upd H2 D (.lst [])) b ∧ b < s3.heap.objs.size := fun b hb => by
    have hlt := sz b hb
    refine ⟨⟨?_, (f2 b hb).2⟩, by rw [h3, Heap.size_push]; exact Nat.lt_succ_of_lt hlt⟩
    rw [upd_ne (by rw [← hD]; exact Nat.ne_of_lt hlt)]
    exact (f2 b hb).1
  have st3 : tn 0 s3.heap := T.keep _ _ _ st2 fun b _ o e => by rw [h3]; exact Heap.get?_push_of_some _ e
  have I4 := block_start I3 ok hN f3
  have pg := hg s3 (upd H2 D (.lst [])) s3.heap.objs.size (cellsFrom (s3.heap.objs.size + 1) scope.names (cloFrom X.env.cells scope.names [])) fp
  have pt := ht s3 (upd H2 D (.lst [])) s3.heap.objs.size (cellsFrom (s3.heap.objs.size + 1) scope.names (cloFrom X.env.cells scope.names [])) fp
  have pe := he s3 (upd H2 D (.lst [])) s3.heap.objs.size (cellsFrom (s3.heap.objs.size + 1) scope.names (cloFrom X.env.cells scope.names [])) fp I3 fun b hb => (f3 b hb).1
  show codeAny _ _ (.compStart (.ListComp elt [⟨tg, iter, ifs, 0⟩] scope pos) 0 (.ref it) (.ref D) (compEnvC scope (cellsFrom (s3.heap.objs.size + 1) scope.names (cloFrom X.env.cells scope.names [])) s3.heap.objs.size X.env)) (compPost (model X.prog X.w) X.A X.xe use Qf (.ref D) s3.heap.objs.size) { s3 with heap := pushCells (s3.heap.push { cls := .type "dict", data := .dict #[] }) scope.names }
  have nfp : ∀ b ∈ fp, (upd H2 D (.lst [])) b = none := fun b hb => (f3 b hb).1.1
  generalize hce : compEnvC scope (cellsFrom (s3.heap.objs.size + 1) scope.names (cloFrom X.env.cells scope.names [])) s3.heap.objs.size X.env = ce at I4 pg pt pe ⊢
  have cL : ce.locals = s3.heap.objs.size := by subst hce; rfl
  generalize hH3 : upd H2 D (.lst []) = H3 at I3 I4 pg pt pe w0 nfp f3
  generalize hs4 : ({ s3 with heap := pushCells (s3.heap.push { cls := .type "dict", data := .dict #[] }) scope.names } : Shared) = s4 at I4 ⊢
  have st4 : tn 0 s4.heap := T.keep _ _ _ st3 fun b _ o e => by rw [← hs4]; exact pushCells_keeps _ _ _ _ (Heap.get?_push_of_some _ e)
  have stat : ∀ {σ' : L2.St} {H' : Hp} {s' : Shared}, Inv (X.blk s3 H3 scope ce fp) [] σ' H' s' → (∀ b ∈ fp, H' b = none) → ∀ b ∈ fp, FpOk (X.blk s3 H3 scope ce fp) [] H' b := fun {σ' H' s'} I' hn b hb =>
    ⟨hn b hb, (I'.ok.exf b hb).1, I'.ok.exfs b hb, .inl hb, fun x c e => (I'.ok.exf b hb).2 x c e, fun p hp => absurd (show p ∈ ([] : List (Addr × Obj)) ++ [] from hp) (by simp)⟩
  have loop : codeAny (model X.prog X.w) X.A (.compLoop (.ListComp elt [⟨tg, iter, ifs, 0⟩] scope pos) 0 (.ref it) (.ref D) ce) (compPost (model X.prog X.w) X.A X.xe use Qf (.ref D) s3.heap.objs.size) s4 := by
    refine compLoop_any (fun n s' => ∃ i H', Inv (X.blk s3 H3 scope ce fp) [] (wipe σ (own.map (·.2))) H' s' ∧ tn i s'.heap ∧ (∀ b ∈ fp, H' b = none) ∧ W i n H') ?_ m0 ⟨0, H3, I4, st4, nfp, w0⟩
    rintro n s5 ⟨i, H5, I5, st5, n5, w5⟩
    rcases turn i n H5 w5 with ⟨stop, qq⟩ | ⟨go, Nx, hNx, step⟩
    · have td := T.done (X.blk s3 H3 scope ce fp) rfl rfl rfl hc i [] s5 _ H5 (fun _ _ => False) I5 (stat I5 n5) st5 stop
      refine thnF td fun r s6 ⟨hr, I6⟩ => ?_
      subst hr
      -- back in the def's context
      have I7 : Inv X pins σ H5 s6 := I3.call' (ch := fp) I6.os I6.base I6.hok I6.bare fun b hb => ⟨(f3 b hb).1.2.2.2.1, (f3 b hb).1.2.1, (f3 b hb).1.2.2.2.2.1, (f3 b hb).1.2.2.2.2.2⟩
      have nC : H5 s3.heap.objs.size = none := by
        have z : H5 ce.locals = none := I6.free
        rw [cL] at z
        exact z
      obtain ⟨m, hn, _⟩ := I6.loc
      have hn : s6.heap.Ns ce.locals m := hn
      rw [cL] at hn
      exact hRR D s3.heap.objs.size s6 m H5 I7 qq hn (I3.fpOk (Nat.le_refl _) nC)
    · have ti := T.item (X.blk s3 H3 scope ce fp) rfl rfl rfl hc i [] s5 _ H5 (fun _ _ => False) I5 (stat I5 n5) st5 go
      refine thnF ti fun r s6 ⟨u, hr, h6⟩ => ?_
      subst hr
      refine thnF h6 fun _ s7 ⟨x, H7, I7, r7, y7, st7, n7⟩ => ?_
      have I7' := I7.pinned (stat I7 n7) (T.obj _ _ st7)
      refine thnF (pg.run _ s7 _ H7 x u _ I7' r7 (step x H7 y7)) fun _ s8 ⟨σ8, H8, I8, hw8, q8⟩ => ?_
      refine thnF (pt.run _ s8 σ8 H8 _ I8 q8) fun b s9 ⟨H9, I9, q9⟩ => ?_
      -- the turn's end
      have fin : ∀ {s' : Shared} {H' : Hp}, Inv (X.blk s3 H3 scope ce fp) ([] ++ pinsAt fp s7.heap) σ8 H' s' → Nx H' → ∃ m, m < n ∧ ∃ i H', Inv (X.blk s3 H3 scope ce fp) [] (wipe σ (own.map (·.2))) H' s' ∧ tn i s'.heap ∧ (∀ b ∈ fp, H' b = none) ∧ W i m H' := fun {s' H'} I' nx => by
        obtain ⟨m', hm, w'⟩ := hNx H' nx
        have pin' : ∀ b ∈ fp, ∀ o, s7.heap.get? b = some o → s'.heap.get? b = some o ∧ H' b = none := fun b hb o e =>
          let z := I'.pin (b, o) (List.mem_append_right _ (List.mem_append_right _ (mem_pinsAt hb e)))
          ⟨z.1, z.2.1⟩
        have hl : (wipe σ (own.map (·.2))).length = σ8.length := by rw [← hw8, wipe_length]
        refine ⟨m', hm, i + 1, H', (I'.unpinned (pins := [])).weak hl (fun j v e => ?_), T.keep _ _ _ st7 fun b hb o e => (pin' b hb o e).1, fun b hb => ?_, w'⟩
        · rw [← hw8] at e
          exact (wipe_some e).1
        · obtain ⟨o, e, _⟩ := T.obj _ _ st7 b hb
          exact (pin' b hb o e).2
      cases b with
      | false =>
        simp only [Bool.false_eq_true, if_false] at q9 ⊢
        exact fin I9 q9
      | true =>
        simp only [if_true] at q9 ⊢
        refine thnF (pe.run _ s9 σ8 H9 _ I9 q9) fun z s10 ⟨yv, H10, I10, r10, acc, hD10, hz10, nx⟩ => ?_
        exact app_ok (X := X.blk s3 H3 scope ce fp) I10 hD10 hz10 r10 fun s11 I11 => fin I11 nx
  exact codeAny_compStart_list loop (T.self X.A 0 _ _ _ st4 loop)
theorem pe_lcI {elt tg iter : Expr} {ifs : List Expr} {scope : Scope} {own : List (Str × Nat)} {pos : Pos} {wi : TI} {g : TG} {tt : TT} {te : L2.St → TE} (hc : X.calm = true) (hN : X.N.Nodup) (hi : PI X tg iter wi) (ok : BlkOk X.N X.env.scope scope own)
    (hg : ∀ (s : Shared) (H : Hp) (C : Addr) (cl : List (Str × Addr)) (fp : List Addr), PG (X.blk s H scope (compEnvC scope cl C X.env) fp) tg g) (ht : ∀ (s : Shared) (H : Hp) (C : Addr) (cl : List (Str × Addr)) (fp : List Addr), PTs (X.blk s H scope (compEnvC scope cl C X.env) fp) ifs tt)
    (he : ∀ (pins : List (Addr × Obj)) (σ : L2.St) (s : Shared) (H : Hp) (C : Addr) (cl : List (Str × Addr)) (fp : List Addr), Inv X pins σ H s → (∀ b ∈ fp, FpOk X pins H b) → PE (X.blk s H scope (compEnvC scope cl C X.env) fp) elt (te σ)) (hs : ∀ x, foldedSetIterable iter X.env x = pure x) :
    PE X (.ListComp elt [⟨tg, iter, ifs, 0⟩] scope pos) (fun σ H Q => tLc wi g tt (te σ) (own.map (·.2)) σ H Q) := by
  refine ⟨fun pins s σ H Q I h => ?_⟩
  rw [eval_ListComp]
  refine lc_coreI hc hN I hi ok hg ht (fun s H C cl fp I f => he pins σ s H C cl fp I f) hs h fun D C s' m H' I' q hn f => ⟨m, hn, fun h'' sb => ?_⟩
  obtain ⟨f0, f1, f2, f3, f4, f5⟩ := f
  exact ⟨.ref D, H', I'.turned (t' := s'.toks) (fun b o hb e => (sb.2 b hb).trans e) f0 f1 f3 f4 f5, rfl, q⟩
theorem ps_setLcI {i : Nat} {y : Str} {py : Pos} {elt tg iter : Expr} {ifs : List Expr} {scope : Scope} {own : List (Str × Nat)} {pos spos : Pos} {wi : TI} {g : TG} {tt : TT} {te : L2.St → TE} (hc : X.calm = true) (hN : X.N.Nodup) (hy : X.N[i]? = some y) (hyl : X.env.scope.names.lookup y = some .local)
    (hsw : swapsWith (.ListComp elt [⟨tg, iter, ifs, 0⟩] scope pos) (some (.Name y py)) spos.line X.env = pure true) (hi : PI X tg iter wi) (ok : BlkOk X.N X.env.scope scope own)
    (hg : ∀ (s : Shared) (H : Hp) (C : Addr) (cl : List (Str × Addr)) (fp : List Addr), PG (X.blk s H scope (compEnvC scope cl C X.env) fp) tg g) (ht : ∀ (s : Shared) (H : Hp) (C : Addr) (cl : List (Str × Addr)) (fp : List Addr), PTs (X.blk s H scope (compEnvC scope cl C X.env) fp) ifs tt)
    (he : ∀ (pins : List (Addr × Obj)) (σ : L2.St) (s : Shared) (H : Hp) (C : Addr) (cl : List (Str × Addr)) (fp : List Addr), Inv X pins σ H s → (∀ b ∈ fp, FpOk X pins H b) → PE (X.blk s H scope (compEnvC scope cl C X.env) fp) elt (te σ)) (hs : ∀ x, foldedSetIterable iter X.env x = pure x) :
    PS X (.Assign [.Name y py] (.ListComp elt [⟨tg, iter, ifs, 0⟩] scope pos) spos) (fun D σ H => tLc wi g tt (te σ) (own.map (·.2)) σ H fun x H1 => gName i x σ H1 D.nx) := by
  refine ⟨fun pins s σ H D I h => ?_⟩
  rw [exec_Assign_Name_used _ _ _ _ hsw]
  refine wpAny_bind (wpAny_standAt (wpAny_bind ?_))
  show wpAny _ X.A (do let _ ← comprehension (.ListComp elt [⟨tg, iter, ifs, 0⟩] scope pos) scope X.env (firstIterPos [⟨tg, iter, ifs, 0⟩] pos) (newList []) false (eval iter X.env) (some (assign (.Name y py) X.env))) _ _ s
  refine wpAny_bind (thn (lc_coreI (Qf := fun _ s' => SP X pins D .next s') hc hN I hi ok hg ht (fun s H C cl fp I f => he pins σ s H C cl fp I f) hs h fun L C s' m H' I' q hn f => ?_) fun _ s' hq => wpAny_pure (wpAny_pure hq))
  show wpAny _ _ (assign (.Name y py) X.env (.ref L)) _ _ _
  refine wpAny_assign_Name (store_ok2 (v := V.ref L) I' hN hy (.inl hyl) rfl (fun s2 I2 ⟨a, sb, ha⟩ => ?_) (.inr hyl))
  obtain ⟨f0, f1, f2, f3, f4, f5⟩ := f
  have haC : C ≠ a := by
    rcases ha with z | z
    · rw [z]; exact f1
    · exact fun e => f4 y a z e.symm
  refine ⟨m, hn.sameBut sb haC, fun h3 sb3 => ?_⟩
  exact ⟨_, H', I2.turned (t' := s2.toks) (fun b o hb e => (sb3.2 b hb).trans e) f0 f1 f3 f4 f5, q⟩
end
section
variable {X : Cx} {Wx : WX}
theorem le_lcI {elt tg iter : Expr} {ifs : List Expr} {scope : Scope} {own : List (Str × Nat)} {pos : Pos} {wi : WI} {t : CT} {tt : WT} {te : WE} (hN : X.N.Nodup) (hi : LI X Wx tg iter wi) (ok : BlkOk X.N X.env.scope scope own) (hv : own.map (·.2) = t.slots)
    (hg : ∀ (s : Shared) (H : Hp) (C : Addr) (cl : List (Str × Addr)) (fp : List Addr), PG (X.blk s H scope (compEnvC scope cl C X.env) fp) tg (t.tg X.K)) (ht : ∀ (s : Shared) (H : Hp) (C : Addr) (cl : List (Str × Addr)) (fp : List Addr), LPs (X.blk s H scope (compEnvC scope cl C X.env) fp) ifs tt)
    (he : ∀ (pins : List (Addr × Obj)) (σ : L2.St) (s : Shared) (H : Hp) (C : Addr) (cl : List (Str × Addr)) (fp : List Addr), Inv X pins σ H s → (∀ b ∈ fp, FpOk X pins H b) → LEg (fun σ2 => wipe σ2 (own.map (·.2)) = wipe σ (own.map (·.2))) (X.blk s H scope (compEnvC scope cl C X.env) fp) W0 elt te)
    (hc : X.calm = true := by rfl) (hs : ∀ x, foldedSetIterable iter X.env x = pure x := by intro _; rfl) :
    LE X Wx (.ListComp elt [⟨tg, iter, ifs, 0⟩] scope pos) (wLc wi t tt te) := PE.weak (pe_lcI (tt := lT X.K W0 tt) (te := fun σ σ2 H2 Q2 => wipe σ2 (own.map (·.2)) = wipe σ (own.map (·.2)) ∧ lE X.K W0 te σ2 H2 Q2) hc hN hi ok hg ht he hs) (wLc_t (P := fun σ σ2 => wipe σ2 (own.map (·.2)) = wipe σ (own.map (·.2))) hv fun _ _ e => e)
theorem ls_setLcI (i : Nat) {y : Str} {py : Pos} {elt tg iter : Expr} {ifs : List Expr} {scope : Scope} {own : List (Str × Nat)} {pos spos : Pos} {wi : WI} {t : CT} {tt : WT} {te : WE} (hN : X.N.Nodup) (hi : LI X Wx tg iter wi) (ok : BlkOk X.N X.env.scope scope own) (hv : own.map (·.2) = t.slots)
    (hg : ∀ (s : Shared) (H : Hp) (C : Addr) (cl : List (Str × Addr)) (fp : List Addr), PG (X.blk s H scope (compEnvC scope cl C X.env) fp) tg (t.tg X.K)) (ht : ∀ (s : Shared) (H : Hp) (C : Addr) (cl : List (Str × Addr)) (fp : List Addr), LPs (X.blk s H scope (compEnvC scope cl C X.env) fp) ifs tt)
    (he : ∀ (pins : List (Addr × Obj)) (σ : L2.St) (s : Shared) (H : Hp) (C : Addr) (cl : List (Str × Addr)) (fp : List Addr), Inv X pins σ H s → (∀ b ∈ fp, FpOk X pins H b) → LEg (fun σ2 => wipe σ2 (own.map (·.2)) = wipe σ (own.map (·.2))) (X.blk s H scope (compEnvC scope cl C X.env) fp) W0 elt te)
    (hsw : swapsWith (.ListComp elt [⟨tg, iter, ifs, 0⟩] scope pos) (some (.Name y py)) spos.line X.env = pure true := by exact sw_true rfl rfl rfl (by decide +kernel)) (hy : X.N[i]? = some y := by rfl) (hyl : X.env.scope.names.lookup y = some .local := by rfl) (hc : X.calm = true := by rfl) (hs : ∀ x, foldedSetIterable iter X.env x = pure x := by intro _; rfl) :
    LS X Wx (.Assign [.Name y py] (.ListComp elt [⟨tg, iter, ifs, 0⟩] scope pos) spos) (wSet i (wLc wi t tt te)) := PS.weak (ps_setLcI (tt := lT X.K W0 tt) (te := fun σ σ2 H2 Q2 => wipe σ2 (own.map (·.2)) = wipe σ (own.map (·.2)) ∧ lE X.K W0 te σ2 H2 Q2) hc hN hy hyl hsw hi ok hg ht he hs) fun D σ H h => by
  obtain ⟨ρ, μ, E, S, h⟩ := h
  refine wLc_t (Wx := Wx) (P := fun σ σ2 => wipe σ2 (own.map (·.2)) = wipe σ (own.map (·.2))) hv (fun _ _ e => e) σ H _ ⟨ρ, μ, E, S, ?_⟩
  exact (wLc wi t tt te).mono (Q := fun d μ1 => OutS X.K μ H D.nx (ρ.set i (some d)) μ1) (fun x μ1 q v H1 F1 S1 r1 => q _ _ F1 S1 ((E.keep S F1).set r1 i)) (fun _ _ _ q => OutXE.x S E q) h
/-- what is told of some names alone -/
theorem EnvR.unwipe {K : PySem.W.Frag} {H : Hp} : ∀ {ρ : Ev} {σ τ : L2.St} (vs : List Nat), EnvR K H (wipeE ρ vs) σ → L2.wipe σ vs = L2.wipe τ vs → EnvR K H (wipeE ρ vs) τ := by
  have get : ∀ (vs : List Nat) (ρ : Ev) (j : Nat), j ∈ vs → ∀ d, (wipeE ρ vs)[j]? ≠ some (some d) := by
    intro vs
    induction vs with
    | nil => intro ρ j h; cases h
    | cons v vs ih =>
      intro ρ j h d e
      unfold wipeE at e
      by_cases hj : v = j
      · subst hj
        by_cases hl : v < (wipeE ρ vs).length
        · rw [List.getElem?_set_self hl] at e; cases e
        · rw [List.getElem?_eq_none (by rw [List.length_set]; omega)] at e; cases e
      · rw [List.getElem?_set_ne hj] at e
        exact ih ρ j ((List.mem_cons.mp h).resolve_left fun z => hj z.symm) d e
  have mk : ∀ {ρ : Ev} {τ : L2.St}, ρ.length = τ.length → (∀ (j : Nat) d, ρ[j]? = some (some d) → ∃ v, τ[j]? = some (some v) ∧ Rp K H d v) → EnvR K H ρ τ := by
    intro ρ
    induction ρ with
    | nil =>
      intro τ hl _
      exact List.eq_nil_of_length_eq_zero hl.symm
    | cons e ρ ih =>
      intro τ hl h
      cases τ with
      | nil => cases hl
      | cons s τ =>
        unfold EnvR
        refine ⟨s, τ, rfl, fun d q => ?_, ih (by simpa using hl) fun j d q => ?_⟩
        · obtain ⟨v, h1, h2⟩ := h 0 d (by rw [q]; rfl)
          exact ⟨v, by simpa using h1, h2⟩
        · obtain ⟨v, h1, h2⟩ := h (j + 1) d (by simpa using q)
          exact ⟨v, by simpa using h1, h2⟩
  have len : ∀ {ρ : Ev} {σ : L2.St}, EnvR K H ρ σ → ρ.length = σ.length := by
    intro ρ
    induction ρ with
    | nil => intro σ h; unfold EnvR at h; subst h; rfl
    | cons e ρ ih =>
      intro σ h
      unfold EnvR at h
      obtain ⟨s, σ', rfl, _, b⟩ := h
      simp [ih b]
  intro ρ σ τ vs E w
  refine mk ?_ fun j d q => ?_
  · rw [len E, ← wipe_length σ vs, w, wipe_length]
  · have hj : j ∉ vs := fun hj => get vs ρ j hj d q
    obtain ⟨v, h1, h2⟩ := E.get q
    refine ⟨v, ?_, h2⟩
    have e1 : (L2.wipe σ vs)[j]? = (L2.wipe τ vs)[j]? := by rw [w]
    rw [wipe_get, wipe_get, if_neg hj, if_neg hj] at e1
    rw [← e1]; exact h1
/-- the lambda's cells are the maker's -/
theorem clo_maker {cl : List (Str × Addr)} {scope : Scope} {y : Str} {c : Addr} (hfree : ∀ y ∈ scope.names, y.2 = .free → ∃ c, cl.lookup y.1 = some c) (e : (cloFrom cl scope.names []).lookup y = some c) : cl.lookup y = some c := by
  rcases cloFrom_mem (PySem.mem_of_lookup e) with hm | ⟨h1, h2⟩
  · cases hm
  · obtain ⟨c1, hc⟩ := hfree _ h1 rfl
    have hc : cl.lookup y = some c1 := hc
    have e2 : c = c1 := by rw [h2, hc] <;> rfl
    rw [e2]
    exact hc
/-- from the block of a comprehension -/
theorem lamIn_blk {pins : List (Addr × Obj)} {σ : L2.St} {s : Shared} {H : Hp} {fp : List Addr} {bs : Scope} {ce : Env} {params : Arguments} {body : Expr} {scope : Scope} {k : Nat} {w : WE} {own : List Nat} (I : Inv X pins σ H s) (f : ∀ b ∈ fp, FpOk X pins H b) (L : LamX.LamS X.env.scope scope)
    (hb : LamB X X.N (lamOf X.env.cells X.env.qual params body scope) k w)
    (hbind : ∀ (q : Str) (cl : List (Str × Addr)) (pm cv ctv : Value), bindArgs (PySem.W.kla_fn "<lambda>" q params body scope cl pm cv ctv) ⟨[], []⟩ = pure []) : LamIn (X.blk s H bs ce fp) X.N k own (fun σ2 => wipe σ2 own = wipe σ own) (lamOf X.env.cells X.env.qual params body scope) w := by
  refine ⟨hb, fun pm cv ctv => hbind _ _ _ _ _, fun pins' σ2 H' s' hG I' => ⟨σ, ?_, I.len, fun ρ E => ?_⟩⟩
  · have c0 := clo_of (params := params) (body := body) I L
    refine c0.un I'.base fun y c e hc => ?_
    exact (f c hc).2.2.2.2.1 y c (clo_maker (L.has I.ok) e) rfl
  · exact EnvR.unwipe own (wipe_env E own) (by rw [wipe_wipe]; exact hG)
/-- _law_heard(e)[0] where the state is as G says -/
theorem leg_heard0 {G : L2.St → Prop} {e b : Expr} {w wb : WE} {pos : Pos} (h : LEg G X Wx e w) (hb : LE X Wx b wb) (hs : PlainIx b := by exact fun _ _ => rfl) : LEg G X Wx (.Subscript e b pos) (wOp gIx w wb) := by
  obtain ⟨r, h1, h2⟩ := ix_d (X := X)
  exact PE.weak (pe_ix h1 h hb hs) fun σ H Q ⟨g, q⟩ => ⟨g, wOp_t (f := fun _ _ => pure .none) h2 σ H Q q⟩
end
end Sq

/-! Errors looked at, dict displays, repr of odd values, t[::-1], texts. -/
namespace Sq
open PySem PySem.Spec PyProof.Rows L2

/-! ### isinstance of an error -/
def rIsX (K : PySem.W.Frag) : List V → Hp → VK → Prop := fun xs H Q => ∃ (a C dx : Addr) (c v : V) (u : Value) (b : Bool), xs = [.ref a, c] ∧ ClsV c u ∧ H a = some (ExcO a C dx) ∧ H dx = some (.xd [("value", v)]) ∧ L2.ExcC K C ∧ PySem.W.kitOne K (.ref C) u = some b ∧ Q (.bl b) H
theorem call_isX {X : Cx} : CallR X (.builtin "isinstance") (rIsX X.K) := by
  intro pins s σ H xs us Q I r h
  obtain ⟨a, C, dx, c, v, u, b, rfl, k, ha, ea, T, e, q⟩ := h
  obtain ⟨u1, u2, rfl, r1, r2⟩ := vals2 r
  have e2 := k.eq r2
  subst e2
  obtain rfl : u1 = Value.ref a := r1
  obtain ⟨⟨oe, vs, h1, h2, h3, h4⟩, _⟩ := I.hok a _ ha
  have hx : ObjOk X.prog X.w H s.heap dx (.xd [("value", v)]) := I.hok dx _ ea
  obtain ⟨mA, hns, hr⟩ := hx
  obtain ⟨od, ho, hl⟩ := lookIn_ns hns
  have J : PySem.W.InstAt s.heap a oe C (some od) := ⟨h1, h2, by unfold PySem.W.notCls; rw [h4] <;> rfl, by rw [h3]; exact ho⟩
  have hcl : (PySem.W.clsIn X.K C).isSome = true := by
    obtain ⟨cd, hc, _⟩ := PySem.W.any_some T.hd
    rw [hc]; rfl
  exact PySem.W.kia_one (PySem.W.kitx_exc hcl T.hg T.hk T.hs T.ha T.hn T.ht T.hm) I.kIn J e (fun z => nomatch z) fun tk => ⟨.bl b, H, I.kept (t' := tk) fun _ _ z => z, rfl, q⟩
def wIsX (isX : Addr → Option Bool) (a : WE) : WE := ⟨fun ρ μ Q X => a.run ρ μ (fun d μ1 => ∃ p C v b, d = .ob p ∧ μ1 p = some (.exc C v) ∧ isX C = some b ∧ Q (.bl b) μ1) X,
  fun hQ hX h => a.mono (fun d μ1 ⟨p, C, v, b, e1, e2, e3, q⟩ => ⟨p, C, v, b, e1, e2, e3, hQ _ _ q⟩) hX h⟩
theorem wIsX_run {isX : Addr → Option Bool} {a : WE} {ρ : Ev} {μ : Mu} {Q : PQ} {X : XQ} : (wIsX isX a).run ρ μ Q X = a.run ρ μ (fun d μ1 => ∃ p C v b, d = .ob p ∧ μ1 p = some (.exc C v) ∧ isX C = some b ∧ Q (.bl b) μ1) X := rfl
/-- the class of the name x, asked of errors -/
structure IsXD (K : PySem.W.Frag) (mg : Str → Option Value) (x : Str) (isX : Addr → Option Bool) : Prop where
  ex : ∃ CX, mg x = some (.ref CX) ∧ ∀ C b, isX C = some b → L2.ExcC K C ∧ PySem.W.kitOne K (.ref C) (.ref CX) = some b
section
variable {X : Cx} {Wx : WX}
theorem le_isx {isX : Addr → Option Bool} {a : Expr} {wa : WE} {x : Str} {p p2 pos : Pos} (T : IsXD X.K X.mg x isX) (hm : X.mg "isinstance" = none) (ha : LE X Wx a wa)
    (hg : Gl X "isinstance" := by rfl) (hgT : Gl X x := by rfl) (hdb : (x == ("__debug__" : Str)) = false := by decide)
    (hs : starEach (a :: [.Name x p2]) X.env = (false, eval a X.env) :: starEach [.Name x p2] X.env := by rfl) (hs2 : starEach (.Name x p2 :: []) X.env = (false, eval (.Name x p2) X.env) :: starEach [] X.env := by rfl)
    (hpl : (backTo pos (starEach [.Name x p2] X.env)).any (·.1) = false := by rfl) : LE X Wx (.Call (.Name "isinstance" p) [a, .Name x p2] [] pos) (wIsX isX wa) := by
  obtain ⟨CX, hx, hT⟩ := T.ex
  refine PE.weak (pe_callB call_isX hg hm (by decide +kernel) (pa_cons ha (pa_cons (pe_glob hgT hx (show RelV (.ref CX) (.ref CX) from rfl) hdb) pa_nil hs2) hs) (by decide) (by decide) hs hpl) fun σ H Q ⟨ρ, μ, E, S, h⟩ => ?_
  refine lW.bind E S h (fun d μ1 v H1 F1 S1 E1 r1 h1 => ?_) fun _ _ _ h => h
  obtain ⟨p, C, v', b, rfl, e2, e3, q⟩ := h1
  obtain ⟨dx, v0, k1, k2, k3⟩ := S1.at_ p _ e2
  obtain rfl : v = .ref p := r1
  exact ⟨p, C, dx, .ref CX, v0, .ref CX, b, rfl, .own CX, k1, k2, (hT C b e3).1, (hT C b e3).2, q _ _ F1 S1 rfl⟩

/-! ### e.value -/
theorem pe_value {e : Expr} {te : TE} {pos : Pos} (he : PE X e te) (hb : attributeBase e "value" X.env (eval e X.env) = eval e X.env := by rfl) :
    PE X (.Attribute e "value" pos) (fun σ H Q => te σ H fun x H1 => ∃ (a C dx : Addr) (v : V), x = .ref a ∧ H1 a = some (ExcO a C dx) ∧ H1 dx = some (.xd [("value", v)]) ∧ L2.ExcC X.K C ∧ PySem.W.findIn X.K (.ref C) "value" = some none ∧ Q v H1) := by
  refine ⟨fun pins s σ H Q I h => ?_⟩
  refine attr_of hb (thn (he.run pins s σ H _ I h) fun u s1 hh => ?_)
  obtain ⟨x, H1, I1, rx, a, C, dx, v, ex, ha, ea, T, hno, q⟩ := hh
  subst ex
  obtain rfl : u = Value.ref a := rx
  obtain ⟨⟨oe, vs, h1, h2, h3, h4⟩, _⟩ := I1.hok a _ ha
  have hx : ObjOk X.prog X.w H1 s1.heap dx (.xd [("value", v)]) := I1.hok dx _ ea
  obtain ⟨mA, hns, hr⟩ := hx
  obtain ⟨od, ho, hl⟩ := lookIn_ns hns
  obtain ⟨u, hu, ru⟩ := RelO.some_of (v := v) (o := mA "value") (hr "value")
  have J : PySem.W.InstAt s1.heap a oe C (some od) := ⟨h1, h2, by unfold PySem.W.notCls; rw [h4] <;> rfl, by rw [h3]; exact ho⟩
  exact HandSPX.exc_get I1.kIn J T.hg T.hk T.hs (PySem.W.findObj_own T.hd hno rfl (by rw [hl, hu])) (handed_of ru) ⟨v, H1, I1.tok _, ru, q⟩
/-- the errors of the classes that isE tells have a value -/
def ErrsD (K : PySem.W.Frag) (isE : Addr → Option Bool) : Prop := ∀ C b, isE C = some b → L2.ExcC K C ∧ PySem.W.findIn K (.ref C) "value" = some none
def wVal (isE : Addr → Option Bool) (a : WE) : WE := ⟨fun ρ μ Q X => a.run ρ μ (fun d μ1 => ∃ p C v b, d = .ob p ∧ μ1 p = some (.exc C v) ∧ isE C = some b ∧ Q v μ1) X,
  fun hQ hX h => a.mono (fun d μ1 ⟨p, C, v, b, e1, e2, e3, q⟩ => ⟨p, C, v, b, e1, e2, e3, hQ _ _ q⟩) hX h⟩
theorem wVal_run {isE : Addr → Option Bool} {a : WE} {ρ : Ev} {μ : Mu} {Q : PQ} {X : XQ} : (wVal isE a).run ρ μ Q X = a.run ρ μ (fun d μ1 => ∃ p C v b, d = .ob p ∧ μ1 p = some (.exc C v) ∧ isE C = some b ∧ Q v μ1) X := rfl
theorem le_value {isE : Addr → Option Bool} {e : Expr} {w : WE} {pos : Pos} (T : ErrsD X.K isE) (he : LE X Wx e w) (hb : attributeBase e "value" X.env (eval e X.env) = eval e X.env := by rfl) : LE X Wx (.Attribute e "value" pos) (wVal isE w) :=
  PE.weak (pe_value he hb) fun σ H Q ⟨ρ, μ, E, S, h⟩ => by
    refine lW.bind E S h (fun d μ1 v H1 F1 S1 E1 r1 h1 => ?_) fun _ _ _ h => h
    obtain ⟨p, C, v', b, rfl, e2, e3, q⟩ := h1
    obtain ⟨dx, v0, k1, k2, k3⟩ := S1.at_ p _ e2
    obtain rfl : v = .ref p := r1
    exact ⟨p, C, dx, v0, rfl, k1, k2, (T C b e3).1, (T C b e3).2, q _ _ F1 S1 k3⟩

/-! ### dicts -/
theorem sim_dct {K : PySem.W.Frag} {μ : Mu} {H : Hp} {p : Addr} {ks : List Key} {ds : List D} {vs : List V} (S : Sim K μ H) (hp : H p = none) (hl : ks.length = ds.length) (r : Rps K H ds vs) : Sim K (mset μ p (.dct ks ds)) (upd H p (.dK (ks.zip vs))) := ⟨fun a u e => by
  have F : Fr μ H (mset μ p (.dct ks ds)) (upd H p (.dK (ks.zip vs))) := fr_new hp
  by_cases ha : a = p
  · subst ha
    rw [mset_same] at e; cases e
    exact ⟨vs, upd_same, hl, Rps.keep S F ds r⟩
  · rw [mset_ne ha] at e
    exact (S.at_ a u e).keep S F fun x q => by rw [upd_ne ha]; exact q⟩
def wDct (ks : List Key) (ds : List D) : WE := ⟨fun _ μ Q _ => ∀ p, μ p = none → Q (.ob p) (mset μ p (.dct ks ds)), fun hQ _ h p hp => hQ _ _ (h p hp)⟩
theorem wDct_run {ks : List Key} {ds : List D} {ρ : Ev} {μ : Mu} {Q : PQ} {X : XQ} : (wDct ks ds).run ρ μ Q X = ∀ p, μ p = none → Q (.ob p) (mset μ p (.dct ks ds)) := rfl
theorem le_dct0 {pos : Pos} : LE X Wx (.Dict [] [] pos) (wDct [] []) := PE.weak pe_dnewK fun σ H Q ⟨ρ, μ, E, S, h⟩ p hp => h p (S.free hp) _ _ (fr_new hp) (sim_dct (ks := []) (vs := []) S hp rfl rfl) rfl
theorem le_dct1 {k : Str} {i : Int} {j1 j2} {p1 p2 pos : Pos} : LE X Wx (.Dict [some (.Constant (.str k) j1 p1)] [.Constant (.int i) j2 p2] pos) (wDct [.inr k] [.int i]) :=
  PE.weak (pe_disp (pps_cons pe_str pe_int pps_nil) rfl rfl (fun z => nomatch z) (show 1 ≤ 15 by decide)) fun σ H Q ⟨ρ, μ, E, S, h⟩ p hp => by
    refine ⟨upd_same, [(.inr k, .int i)], rfl, (show 1 ≤ 15 by decide), ?_⟩
    rw [upd_upd]
    exact h p (S.free hp) _ _ (fr_new hp) (sim_dct (ks := [.inr k]) (ds := [.int i]) (vs := [.int i]) S hp rfl ⟨_, _, rfl, rfl, rfl⟩) rfl
end

/-! ### repr of data with a dict -/
def keyPy : Key → PyData
  | .inl i => .int i
  | .inr x => .str x
def dctPy (ks : List Key) (ns : List Int) : PyData := .dict ((ks.map keyPy).zip (ns.map PyData.int))
mutual
inductive Dv (K : PySem.W.Frag) (H : Hp) : V → PyData → Prop
  | non : Dv K H .non .none
  | bl (b : Bool) : Dv K H (.bl b) (.bool b)
  | int (i : Int) : Dv K H (.int i) (.int i)
  | str (x : Str) : Dv K H (.str x) (.str x)
  | dct {a : Addr} {ks : List Key} {ns : List Int} : H a = some (.dK (ks.zip (ns.map V.int))) → Dv K H (.ref a) (dctPy ks ns)
  | tup {a : Addr} {xs : List V} {ds : List PyData} : SqT K H a xs → DvAll K H xs ds → Dv K H (.ref a) (.tuple ds)
inductive DvAll (K : PySem.W.Frag) (H : Hp) : List V → List PyData → Prop
  | nil : DvAll K H [] []
  | cons {v : V} {vs : List V} {d : PyData} {ds : List PyData} : Dv K H v d → DvAll K H vs ds → DvAll K H (v :: vs) (d :: ds)
end
theorem pairs_ints {h : Heap} : ∀ {ks : List Key} {ns : List Int} {vs : List (Key × Value)}, KV (ks.zip (ns.map V.int)) vs → PyProof.V.PairsRead h keyPy vs ((ks.map keyPy).zip (ns.map PyData.int)) []
  | [], _, _, r => by simp at r; cases r; exact .nil
  | _ :: _, [], _, r => by simp at r; cases r; exact .nil
  | k :: ks, n :: ns, _, r => by
    simp only [List.map_cons, List.zip_cons_cons] at r ⊢
    cases r with
    | @cons p q ps qs h1 h2 =>
      obtain ⟨q1, q2⟩ := q
      obtain ⟨e, t, e2⟩ := h1
      dsimp only at e e2
      subst e e2
      exact .cons (as := []) (bs := []) (Reads.int n t) (pairs_ints h2)
section
variable {X : Cx} {pins : List (Addr × Obj)} {σ : L2.St} {H : Hp} {s : Shared}
mutual
theorem Dv.reads (I : Inv X pins σ H s) : ∀ {d : PyData} {v : V} {u : Value}, Dv X.K H v d → RelV v u → ∃ as, Reads s.heap u d as ∧ sysModules ∉ as
  | _, _, _, .non, r => by cases r; exact ⟨_, Reads.none, by simp⟩
  | _, _, _, .bl b, r => by cases r; exact ⟨_, Reads.bool b, by simp⟩
  | _, _, _, .int i, r => by obtain ⟨t, rfl⟩ := r; exact ⟨_, Reads.int i t, by simp⟩
  | _, _, _, .str x, r => by obtain ⟨t, rfl⟩ := r; exact ⟨_, Reads.str x t, by simp⟩
  | _, _, _, .dct (a := a) e, r => by
    cases r
    obtain ⟨_, hd, vs, rv, dd⟩ := dk_of I.hok e
    refine ⟨_, PyProof.V.reads_dictOf (knd := mixKind X.prog X.w) (fun k key hk => ?_) dd (pairs_ints rv), ?_⟩
    · rcases keyIs_shape hk with ⟨i, t, rfl, rfl⟩ | ⟨x, t, rfl, rfl⟩
      · exact Reads.int i t
      · exact Reads.str x t
    · have := beq_eq_false_iff_ne.mp hd
      simp only [List.mem_cons, List.not_mem_nil, or_false]
      exact fun z => this z.symm
  | _, _, _, .tup hs ha, r => by
    cases r
    obtain ⟨its, rv, ⟨o, ho, hc, n, hd⟩, _⟩ := I.tuple hs
    obtain ⟨as, hr, hn⟩ := DvAll.reads I ha rv
    exact ⟨_, Reads.tuple ho hc hd hr, hn⟩
theorem DvAll.reads (I : Inv X pins σ H s) : ∀ {ds : List PyData} {vs : List V} {us : List Value}, DvAll X.K H vs ds → Vals vs us → ∃ as, ReadsAll s.heap us ds as ∧ sysModules ∉ as
  | _, _, _, .nil, r => by cases r; exact ⟨_, ReadsAll.nil, by simp⟩
  | _, _, _, .cons h1 h2, r => by
    cases r with
    | cons r1 r2 =>
      obtain ⟨as, q1, n1⟩ := Dv.reads I h1 r1
      obtain ⟨bs, q2, n2⟩ := DvAll.reads I h2 r2
      exact ⟨_, ReadsAll.cons q1 q2, by rw [List.mem_append]; exact fun z => z.elim n1 n2⟩
end
end
mutual
inductive DDp (μ : Mu) : D → PyData → Prop
  | non : DDp μ .non .none
  | bl (b : Bool) : DDp μ (.bl b) (.bool b)
  | int (i : Int) : DDp μ (.int i) (.int i)
  | str (x : Str) : DDp μ (.str x) (.str x)
  | dct {a : Addr} {ks : List Key} {ns : List Int} : μ a = some (.dct ks (ns.map D.int)) → DDp μ (.ob a) (dctPy ks ns)
  | tup {ds : List D} {ps : List PyData} : DDps μ ds ps → DDp μ (.tup ds) (.tuple ps)
inductive DDps (μ : Mu) : List D → List PyData → Prop
  | nil : DDps μ [] []
  | cons {d : D} {ds : List D} {p : PyData} {ps : List PyData} : DDp μ d p → DDps μ ds ps → DDps μ (d :: ds) (p :: ps)
end
mutual
theorem DDp.dv {K : PySem.W.Frag} {μ : Mu} {H : Hp} (S : Sim K μ H) : ∀ {p : PyData} {d : D} {v : V}, DDp μ d p → Rp K H d v → Dv K H v p
  | _, _, _, .non, r => by rw [rp_non r]; exact .non
  | _, _, _, .bl b, r => by rw [rp_bl r]; exact .bl b
  | _, _, _, .int i, r => by rw [rp_int r]; exact .int i
  | _, _, _, .str x, r => by rw [rp_str r]; exact .str x
  | _, _, _, .dct e, r => by
    rw [rp_ob r]
    obtain ⟨vs, h1, hl, q⟩ := S.at_ _ _ e
    rw [Rps.ints q] at h1
    exact .dct h1
  | _, _, _, .tup h, r => by
    obtain ⟨p, vs, rfl, t, q⟩ := rp_tup r
    exact .tup t (DDps.dv S h q)
theorem DDps.dv {K : PySem.W.Frag} {μ : Mu} {H : Hp} (S : Sim K μ H) : ∀ {ps : List PyData} {ds : List D} {vs : List V}, DDps μ ds ps → Rps K H ds vs → DvAll K H vs ps
  | _, _, _, .nil, r => by unfold Rps at r; subst r; exact .nil
  | _, _, _, .cons a b, r => by
    unfold Rps at r
    obtain ⟨w, ws, rfl, r1, r2⟩ := r
    exact .cons (DDp.dv S a r1) (DDps.dv S b r2)
end
/-- repr -/
def fReprX (x : D) (μ : Mu) (Q : PQ) : Prop := fRepr x μ Q ∨ ∃ d, DDp μ x d ∧ d.depth ≤ 60 ∧ d.showable = true ∧ d.shown.length ≤ sizeLine ∧ Q (.str d.shown) μ
def gReprX : GN := g1 fReprX fun {x μ Q Q'} hQ h => by
  rcases h with ⟨d, h1, h2, h3, h4, q⟩ | ⟨d, h1, h2, h3, h4, q⟩
  · exact .inl ⟨d, h1, h2, h3, h4, hQ _ _ q⟩
  · exact .inr ⟨d, h1, h2, h3, h4, hQ _ _ q⟩
theorem gReprX_run {x : D} {μ : Mu} {Q : PQ} : gReprX.run [x] μ Q = fReprX x μ Q := rfl
section
variable {X : Cx}
def rReprX (K : PySem.W.Frag) : List V → Hp → VK → Prop := fun vs H Q => ∃ (x : V) (d : PyData), vs = [x] ∧ Dv K H x d ∧ d.depth ≤ 60 ∧ d.showable = true ∧ d.shown.length ≤ sizeLine ∧ Q (.str d.shown) H
theorem cr_reprX (hg : X.A.guards = some []) (hu : X.A.units + 65 < cLine) : CallR X (.builtin "repr") (rReprX X.K) := by
  intro pins s σ H vs us Q I r h
  obtain ⟨x, d, rfl, hd, hdep, hsh, hln, q⟩ := h
  cases r with
  | cons r1 r2 =>
    cases r2
    rename_i u
    obtain ⟨as, rd, hn⟩ := Dv.reads I hd r1
    cases hd with
    | non => cases rd; exact PySem.P.repr_of_none ⟨.str _, H, I.tok _, ⟨_, rfl⟩, q⟩
    | bl b => cases rd; exact PySem.P.repr_of_bool ⟨.str _, H, I.tok _, ⟨_, rfl⟩, q⟩
    | int i =>
      cases rd
      exact PySem.P.repr_of_int (by simpa [PyData.showable] using hsh) ⟨.str _, H, I.tok _, ⟨_, rfl⟩, q⟩
    | str z =>
      cases rd
      exact PySem.P.repr_of_str ⟨.str _, H, I.tok _, ⟨_, rfl⟩, q⟩ hln
    | dct a1 =>
      cases r1
      exact repr_of_reads' rd hsh (fun _ => hn) hg (by omega) (fun _ _ e => e) (fun h' u tk hk => ⟨.str _, H, I.kept hk, ⟨_, rfl⟩, q⟩) hln
    | tup a1 a2 =>
      cases r1
      exact repr_of_reads' rd hsh (fun _ => hn) hg (by omega) (fun _ _ e => e) (fun h' u tk hk => ⟨.str _, H, I.kept hk, ⟨_, rfl⟩, q⟩) hln
theorem cd_reprX (hg : X.A.guards = some []) (hu : X.A.units + 65 < cLine) : CallD X (.builtin "repr") gReprX := cd1 ((cr_repr hg hu).or (cr_reprX hg hu)) (fun _ _ _ => rfl) fun x μ H v Q S R q => by
  rcases q with ⟨d, h1, h2, h3, h4, q⟩ | ⟨d, h1, h2, h3, h4, q⟩
  · exact .inl ⟨v, d, rfl, h1.dp S R, h2, h3, h4, q _ _ (Fr.refl μ H) S rfl⟩
  · exact .inr ⟨v, d, rfl, h1.dv S R, h2, h3, h4, q _ _ (Fr.refl μ H) S rfl⟩
end
end Sq

/-! t[::-1], str, upper. -/
namespace Sq
open PySem PySem.Spec PyProof.Rows L2
section
variable {prog : Program} {w : World} {A : Around} {E : Value → Shared → Prop} {s : Shared}
theorem back_adjust (n : Nat) : Builtin.Slice.sliceAdjust none none (-1) (n : Int) = ((n : Int) - 1, -1) := by
  unfold Builtin.Slice.sliceAdjust
  have h : ((-1 : Int) < 0) := by decide
  simp only [h, if_true]
theorem back_places (n : Nat) : Builtin.Slice.slicePlaces ((n : Int) - 1) (-1) (-1) = n := by
  unfold Builtin.Slice.slicePlaces
  have h : ¬ ((-1 : Int) > 0) := by decide
  have e : (-(-1 : Int)) = 1 := by decide
  simp only [h, if_false, e, Int.ediv_one]
  split <;> omega
theorem back_applied {sl : Addr} {t : Tok} {n : Nat} {Q : Int × Int × Nat → Shared → Prop} (hs : s.heap.IsSliceOf sl .none .none (.int (-1) t)) (h : Q ((n : Int) - 1, -1, n) s) :
    wpAny (model prog w) A (Builtin.Slice.sliceApplied (.ref sl) (pure (n : Int))) Q E s := by
  obtain ⟨os, hos, hcs, hds⟩ := id hs
  unfold Builtin.Slice.sliceApplied Builtin.Slice.sliceFields
  refine wpAny_bind (wpAny_bind (wpAny_field hos hds (x := .none) rfl (wpAny_bind (wpAny_field hos hds (x := .none) rfl (wpAny_bind (wpAny_field hos hds (x := .int (-1) t) rfl (wpAny_pure ?_)))))))
  refine wpAny_bind (HT.slicePart_ (.int (-1) t) ?_)
  show wpAny _ _ (if ((-1 : Int) == 0) = true then _ else _) _ _ s
  rw [if_neg (by decide)]
  refine wpAny_bind (HT.slicePart_ .none (wpAny_bind (HT.slicePart_ .none (wpAny_bind (wpAny_pure ?_)))))
  show wpAny _ _ (match Builtin.Slice.sliceAdjust none none (-1) (n : Int) with | (lo, hi) => pure (lo, (-1 : Int), Builtin.Slice.slicePlaces lo hi (-1))) _ _ s
  rw [back_adjust n]
  show wpAny _ _ (pure ((n : Int) - 1, (-1 : Int), Builtin.Slice.slicePlaces ((n : Int) - 1) (-1) (-1))) _ _ s
  rw [back_places]
  exact wpAny_pure h
theorem filterMap_same {α β : Type} {f g : α → Option β} : ∀ {l : List α}, (∀ x ∈ l, f x = g x) → l.filterMap f = l.filterMap g
  | [], _ => rfl
  | x :: l, h => by
    rw [List.filterMap_cons, List.filterMap_cons, h x List.mem_cons_self, filterMap_same fun y hy => h y (List.mem_cons_of_mem _ hy)]
theorem back_pick (xs : Array Value) : ((List.range xs.size).filterMap fun (m : Nat) => xs[((xs.size : Int) - 1 + (m : Int) * (-1)).toNat]?).toArray = xs.toList.reverse.toArray := by
  congr 1
  apply List.ext_getElem?
  intro i
  have e : (List.range xs.size).filterMap (fun (m : Nat) => xs[((xs.size : Int) - 1 + (m : Int) * (-1)).toNat]?) = (List.range xs.size).map (fun m => xs.toList.getD (xs.size - 1 - m) .none) := by
    rw [← List.filterMap_eq_map]
    refine filterMap_same fun m hm => ?_
    have hm := List.mem_range.mp hm
    have e1 : ((xs.size : Int) - 1 + (m : Int) * (-1)).toNat = xs.size - 1 - m := by omega
    rw [e1]
    have h2 : xs.size - 1 - m < xs.size := by omega
    simp [List.getD, h2]
  rw [e]
  by_cases hi : i < xs.size
  · rw [List.getElem?_reverse (by simpa using hi)]
    simp only [List.getElem?_map, List.getElem?_range hi, Option.map_some, Array.length_toList]
    have h2 : xs.size - 1 - i < xs.size := by omega
    simp [List.getD, h2]
  · rw [List.getElem?_eq_none (by simpa using hi), List.getElem?_eq_none (by simpa using hi)]
theorem getItem_back {t sl : Addr} {items : Array Value} {tk : Tok} {Q : Value → Shared → Prop} (ht : IsTup s.heap t items) (hs : s.heap.IsSliceOf sl .none .none (.int (-1) tk))
    (h : Q (.ref s.heap.objs.size) { s with heap := s.heap.push { cls := .type "tuple", data := .seq items.toList.reverse.toArray } }) (hsz : items.size ≤ sizeLine) : wpAny (model prog w) A (getItem (.ref t) (.ref sl)) Q E s := by
  have htake : sizeOk (.seq items.toList.reverse.toArray) := by
    show items.toList.reverse.toArray.size ≤ sizeLine
    rw [List.size_toArray, List.length_reverse, Array.length_toList]
    exact hsz
  obtain ⟨os, hos, hcs, hds⟩ := id hs
  have hTs : s.TypeIs (.ref sl) "slice" := ⟨os, hos, hcs⟩
  unfold getItem
  try with_reducible refine wpAny_holding ?_
  first | refine wpAny_bind (wpAny_pure ?_) | skip
  refine wpAny_bind (wpAny_sequenceKey ht.typeIs (by decide) ?_)
  refine wpAny_bind (wpAny_callSpecial?_slot (name := Str.ofString "__getitem__") ht.typeIs PyProof.Rows.slot_tuple_getitem
    (wpAny_call_entry PyProof.Rows.slot_tuple_getitem ht.typeIs entry_tuple_getitem ?_ (args_tuple_getitem _ _)))
  show wpAny _ _ (Builtin.Tuple.tupleItemsOf (.ref t) >>= _) _ _ s
  refine wpAny_bind (tupleItemsOf_ ht ?_)
  refine wpAny_bind (wpAny_typeOf hTs ?_)
  rw [if_pos (by decide)]
  refine wpAny_bind (back_applied (n := items.size) hs ?_)
  have hno : ¬ ((((items.size : Int) - 1) == 0 && (-1 : Int) == 1 && items.size == items.size) = true) := by
    intro q
    rw [Bool.and_eq_true, Bool.and_eq_true] at q
    exact absurd (eq_of_beq q.1.2) (by decide)
  show wpAny _ _ (if ((((items.size : Int) - 1) == 0 && (-1 : Int) == 1 && items.size == items.size) = true) then _ else _) _ _ s
  rw [if_neg hno, back_pick]
  first
    | exact wpAny_bind (m := Builtin.Tuple.tupleExact _) (wpAny_newObj_type (wpAny_pure ⟨_, rfl, wpAny_pure h⟩) htake)
    | exact wpAny_bind (m := Builtin.Tuple.tupleExact _) (wpAny_newObj_type (wpAny_bind (wpAny_pure (wpAny_pure ⟨_, rfl, wpAny_pure h⟩))) htake)
    | exact wpAny_bind (wpAny_bind (m := Builtin.Tuple.tupleExact _) (wpAny_newObj_type (wpAny_pure (wpAny_pure ⟨_, rfl, wpAny_pure h⟩)) htake))
    | exact wpAny_bind (wpAny_bind (m := Builtin.Tuple.tupleExact _) (wpAny_newObj_type (wpAny_pure ⟨_, rfl, wpAny_pure h⟩) htake))
end
section
variable {X : Cx} {Wx : WX}
theorem pe_back {e : Expr} {te : TE} {k : Nat} {p1 p2 p3 pos : Pos} (he : PE X e te) : PE X (.Subscript e (.Slice none none (some (.UnaryOp .USub (.Constant (.int 1) k p1) p2)) p3) pos)
    (fun σ H Q => te σ H fun x H1 => ∃ a xs, x = .ref a ∧ SqT X.K H1 a xs ∧ ∀ p, H1 p = none → Q (.ref p) (upd H1 p (.tup xs.reverse))) := by
  refine ⟨fun pins s σ H Q I h => ?_⟩
  refine Subscript_ (thn (he.run pins s σ H _ I h) fun v s1 ⟨x, H1, I1, r1, q1⟩ => ?_)
  obtain ⟨a, xs, ex, hx, q⟩ := q1
  subst ex
  cases r1
  have hst : PO X (some (.UnaryOp .USub (.Constant (.int 1) k p1) p2)) (tPart (tUn (rU fun i => .int (-i)) (tC (.int 1)))) := po_some (pe_un un_neg pe_int)
  refine wpAny_Slice (thn (po_none.run pins s1 σ H1 (fun o H2 => o = none ∧ H2 = H1) I1 ⟨rfl, rfl⟩) fun vl s2 ⟨l, H2, I2, pl, el, e2⟩ => ?_)
  subst el e2
  refine thn (po_none.run pins s2 σ H2 (fun o H3 => o = none ∧ H3 = H2) I2 ⟨rfl, rfl⟩) fun vu s3 ⟨u, H3, I3, pu, eu, e3⟩ => ?_
  subst eu e3
  refine thn (hst.run pins s3 σ H3 (fun o H4 => o = some (-1) ∧ H4 = H3) I3 ⟨1, rfl, -1, rfl, rfl, rfl⟩) fun vs s4 ⟨o, H4, I4, ps, eo, e4⟩ => ?_
  subst eo e4
  cases pl
  cases pu
  cases ps with
  | int i tk =>
    have I5 : Inv X pins σ H4 { s4 with heap := s4.heap.push { cls := .type "slice", data := .fields #[.none, .none, .int (-1) tk] } } := I4.kept (t' := s4.toks) fun b ob q => Heap.get?_push_of_some _ q
    obtain ⟨its, r, ht, hz⟩ := I5.tuple hx
    have hlen := r.length
    show wpAny (model X.prog X.w) X.A (subscriptTail e (.Slice none none (some (.UnaryOp .USub (.Constant (.int 1) k p1) p2)) p3) (.ref a) (.ref s4.heap.objs.size)) (EP X pins σ Q) X.xe { s4 with heap := s4.heap.push { cls := .type "slice", data := .fields #[.none, .none, .int (-1) tk] } }
    refine tail_any (ops := [.ref a, .ref s4.heap.objs.size]) ht.typeIs PyProof.Rows.slot_tuple_getitem.lookup ?_ (by with_unfolding_all rfl)
    refine getItem_back ht (Heap.IsSliceOf.new _ .none .none (.int (-1) tk)) ?_ (by rw [List.size_toArray]; omega)
    refine ⟨.ref _, _, I5.laid (t' := s4.toks) (o := .tup xs.reverse) (fun b ob q => Heap.get?_push_of_some _ q) (Nat.le_refl _) ?_, rfl, q _ (I5.hok.fresh (Nat.le_refl _))⟩
    exact ⟨by rw [List.length_reverse]; exact hz, _, r.reverse, IsTup.new _ _⟩
theorem Rps.rev {K : PySem.W.Frag} {H : Hp} : ∀ {ds : List D} {vs : List V}, Rps K H ds vs → Rps K H ds.reverse vs.reverse
  | [], _, h => by unfold Rps at h; subst h; exact rfl
  | d :: ds, _, h => by
    unfold Rps at h
    obtain ⟨w, ws, rfl, a, b⟩ := h
    rw [List.reverse_cons, List.reverse_cons]
    exact (Rps.rev b).append (by unfold Rps; exact ⟨_, _, rfl, a, rfl⟩)
/-- t[::-1] -/
def wBack (a : WE) : WE := ⟨fun ρ μ Q X => a.run ρ μ (fun d μ1 => ∃ ds, d = .tup ds ∧ Q (.tup ds.reverse) μ1) X, fun hQ hX h => a.mono (fun _ _ ⟨ds, e, q⟩ => ⟨ds, e, hQ _ _ q⟩) hX h⟩
theorem wBack_run {a : WE} {ρ : Ev} {μ : Mu} {Q : PQ} {X : XQ} : (wBack a).run ρ μ Q X = a.run ρ μ (fun d μ1 => ∃ ds, d = .tup ds ∧ Q (.tup ds.reverse) μ1) X := rfl
theorem le_back {e : Expr} {w : WE} {k : Nat} {p1 p2 p3 pos : Pos} (he : LE X Wx e w) : LE X Wx (.Subscript e (.Slice none none (some (.UnaryOp .USub (.Constant (.int 1) k p1) p2)) p3) pos) (wBack w) :=
  PE.weak (pe_back he) fun σ H Q ⟨ρ, μ, E, S, h⟩ => by
    refine lW.bind E S h (fun d μ1 v H1 F1 S1 E1 r1 h1 => ?_) fun _ _ _ h => h
    obtain ⟨ds, rfl, q⟩ := h1
    obtain ⟨p, vs, rfl, t, r⟩ := rp_tup r1
    exact ⟨p, vs, rfl, t, out_tup S1 r.rev (q.trans F1)⟩
/-- str -/
def fStr (x : D) (μ : Mu) (Q : PQ) : Prop := match x with
  | .int i => i.natAbs.log2 < 1920 ∧ Q (.str (Str.ofString (toString i))) μ
  | .str s => Q (.str s) μ
  | _ => False
theorem fStr_int {i : Int} {μ : Mu} {Q : PQ} : fStr (.int i) μ Q = (i.natAbs.log2 < 1920 ∧ Q (.str (Str.ofString (toString i))) μ) := rfl
theorem fStr_str {s : Str} {μ : Mu} {Q : PQ} : fStr (.str s) μ Q = Q (.str s) μ := rfl
def gStr : GN := g1 fStr fun {x μ Q Q'} hQ h => by
  cases x <;> first | exact ⟨h.1, hQ _ _ h.2⟩ | exact hQ _ _ h | exact h
theorem gStr_run {x : D} {μ : Mu} {Q : PQ} : gStr.run [x] μ Q = fStr x μ Q := rfl
theorem cd_str : CallD X (.type "str") gStr := cd1 (call_str_int.or SkE.call_str_str) (fun _ _ _ => rfl) fun x μ H v Q S R q => by
  cases x <;> first
    | exact q.elim
    | (rw [rp_int R]; exact .inl ⟨_, rfl, q.1, q.2 _ _ (Fr.refl μ H) S rfl⟩)
    | (rw [rp_str R]; exact .inr ⟨_, rfl, (show Out (Rp X.K) X.K μ H Q _ μ from q) _ _ (Fr.refl μ H) S rfl⟩)
/-- .upper() -/
def wUpper (a : WE) : WE := ⟨fun ρ μ Q X => a.run ρ μ (fun d μ1 => ∃ s, d = .str s ∧ s.length ≤ 5592405 ∧ Q (.str (Txt.upper s)) μ1) X, fun hQ hX h => a.mono (fun _ _ ⟨s, e, h, q⟩ => ⟨s, e, h, hQ _ _ q⟩) hX h⟩
theorem wUpper_run {a : WE} {ρ : Ev} {μ : Mu} {Q : PQ} {X : XQ} : (wUpper a).run ρ μ Q X = a.run ρ μ (fun d μ1 => ∃ s, d = .str s ∧ s.length ≤ 5592405 ∧ Q (.str (Txt.upper s)) μ1) X := rfl
theorem le_upper {o : Expr} {w : WE} {apos pos : Pos} (ho : LE X Wx o w) (hbase : attributeBase o "upper" X.env (eval o X.env) = eval o X.env := by rfl) (hline : (apos.endLine == pos.line) = true := by rfl) :
    LE X Wx (.Call (.Attribute o "upper" apos) [] [] pos) (wUpper w) := PE.weak (pe_upper ho hbase hline) fun σ H Q ⟨ρ, μ, E, S, h⟩ => by
  refine lW.bind E S h (fun d μ1 v H1 F1 S1 E1 r1 h1 => ?_) fun _ _ _ h => h
  obtain ⟨s, rfl, hl, q⟩ := h1
  rw [rp_str r1]
  exact ⟨⟨s, rfl⟩, s, rfl, rfl, hl, q _ _ F1 S1 rfl⟩
end
end Sq

/-! The law's end with tables of code objects; defs that make lambdas. -/
namespace Sq
open PySem PySem.Spec PyProof.Rows L2
/-- the tables alone -/
def muT (cs : List (Addr × Addr)) (qs : Addr → Str) : Mu := fun b => if b ∈ cs.map (·.2) then some (.tab (qs b)) else none
theorem muT_at {cs : List (Addr × Addr)} {qs : Addr → Str} {p : Addr × Addr} (h : p ∈ cs) : muT cs qs p.2 = some (.tab (qs p.2)) := if_pos (List.mem_map.mpr ⟨p, h, rfl⟩)
theorem law_goT {P : Program} {w : World} {K : PySem.W.Frag} {mg mb : Str → Option Value} {k : Nat} {fa a : Addr} {cs : List (Addr × Addr)} {qs : Addr → Str} {fd : FuncData} {x : Str} {S : SpD} {t : Shared} {vs : List Value} {ns : List Int}
    (hK : K.In t.heap) (hG : t.heap.Ns mainGlobals mg) (hB : t.heap.Ns builtinsNs mb) (hBB : ∀ z : Str, z ≠ "__name__" → mb z = bootBuiltins z) (hL : t.heap.NoLimit) (hgen : t.gens = #[])
    (hT : ∀ p ∈ cs, t.heap.get? p.2 = some { cls := .none, data := .fields #[] }) (nT : ∀ p ∈ cs, K.lookup p.2 = none) (C : ∀ p ∈ cs, PySem.W.CodeHd t.heap p.1 p.2)
    (hbm : ∃ (bm : Addr) (ob : Obj), mg "__builtins__" = some (.ref bm) ∧ bm ≠ builtinsNs ∧ t.heap.get? bm = some ob ∧ ob.cls = .type "module" ∧ ob.dict = some builtinsNs ∧ ob.data = .plain)
    (hobj : t.heap.get? a = some { cls := .type "list", data := .seq vs.toArray }) (hints : IntsAre vs ns) (hz : ns.length ≤ sizeLine) (hroom : Room k callerA)
    (F : ∀ base : Heap, K.In base → base.Ns mainGlobals mg → (∀ p ∈ cs, LamX.TabB base mg p.1 p.2) → RunOk P w K mg base k fa fd [x] (spOf K 1 S)) (hbd : ∀ (s : Shared) (u : Value), BindsTo s fd ⟨[u], []⟩ [(x, u)])
    (hS : S.run [.rls (ns.map D.int)] (muT cs qs) (fun d _ => d = .bl true) XF) :
    codeAny (model P w) callerA (.call (.ref fa) ⟨[.ref a], []⟩) (fun r s' => r = .ok (.ret (.bool true)) ∧ OldK t.heap s'.heap ∧ s'.os = t.os ∧ AllBare s'.gens) t := by
  have hV := L2.vals_ints hints
  have hlen := hints.length
  have isT : ∀ b : Addr, b ∈ cs.map (·.2) → t.heap.get? b = some { cls := .none, data := .fields #[] } := fun b hb => by
    obtain ⟨p, hp, e⟩ := List.mem_map.mp hb
    rw [← e]
    exact hT p hp
  have aT : a ∉ cs.map (·.2) := fun z => by
    have q := isT a z
    rw [hobj] at q
    have z' : Data.seq vs.toArray _ = Data.fields #[] := congrArg Obj.data (Option.some.inj q)
    cases z'
  have memT : ∀ p ∈ cs, p.2 ∈ cs.map (·.2) := fun p hp => List.mem_map.mpr ⟨p, hp, rfl⟩
  suffices go : ∀ H : Hp, (∀ b, b ∈ cs.map (·.2) → H b = some (.tbl #[])) → (∀ b, H b = none ∨ b ∈ cs.map (·.2) ∨ (b = a ∧ K.lookup a = none ∧ ∃ o xs, H b = some (.frz o (.lst xs)))) → SqR K H a (ns.map V.int) → HOk P w H t.heap →
      codeAny (model P w) callerA (.call (.ref fa) ⟨[.ref a], []⟩) (fun r s' => r = .ok (.ret (.bool true)) ∧ OldK t.heap s'.heap ∧ s'.os = t.os ∧ AllBare s'.gens) t by
    cases e : K.lookup a with
    | some o =>
      have e' := hK a o e
      rw [hobj] at e'; cases e'
      refine go (fun b => if b ∈ cs.map (·.2) then some (.tbl #[]) else none) (fun b hb => if_pos hb) (fun b => ?_) (.inr ⟨_, vs.toArray, _, e, rfl, rfl, rfl, by rw [List.size_toArray, hlen]; exact hz, by simpa using hV⟩) fun b u z => ?_
      · by_cases hb : b ∈ cs.map (·.2)
        · exact .inr (.inl hb)
        · exact .inl (if_neg hb)
      · by_cases hb : b ∈ cs.map (·.2)
        · have z' := (if_pos hb).symm.trans z
          cases z'
          exact isT b hb
        · exact nomatch (if_neg hb).symm.trans z
    | none =>
      refine go (fun b => if b = a then some (.frz { cls := .type "list", data := .seq vs.toArray } (.lst (ns.map V.int))) else if b ∈ cs.map (·.2) then some (.tbl #[]) else none)
        (fun b hb => (if_neg (show ¬ b = a from fun z => aT (by rw [← z]; exact hb))).trans (if_pos hb)) (fun b => ?_) (.inl ⟨_, if_pos rfl⟩) fun b u z => ?_
      · by_cases q : b = a
        · exact .inr (.inr ⟨q, e, _, _, if_pos q⟩)
        · by_cases hb : b ∈ cs.map (·.2)
          · exact .inr (.inl hb)
          · exact .inl ((if_neg q).trans (if_neg hb))
      · by_cases q : b = a
        · have z2 := (if_pos q).symm.trans z
          cases z2
          subst q
          exact ⟨hobj, by rw [List.length_map]; exact hz, vs, _, hV, hobj⟩
        · have z1 := (if_neg q).symm.trans z
          by_cases hb : b ∈ cs.map (·.2)
          · have z' := (if_pos hb).symm.trans z1
            cases z'
            exact isT b hb
          · exact nomatch (if_neg hb).symm.trans z1
  intro H tab one seq hok
  have free : ∀ {b : Addr} {o : Obj}, t.heap.get? b = some o → (b = a → K.lookup a = none → False) → b ∉ cs.map (·.2) → (hidT t.heap H).get? b = some o := fun {b o} e n nt => hidT_get e (by
    rcases one b with z | z | ⟨z1, z2, _⟩
    · exact z
    · exact absurd z nt
    · exact (n z1 z2).elim)
  have notT : ∀ {b : Addr} {o : Obj}, t.heap.get? b = some o → o ≠ { cls := .none, data := .fields #[] } → b ∉ cs.map (·.2) := fun {b o} e h hb => by
    rw [isT b hb] at e
    exact h (Option.some.inj e).symm
  have inB : K.In (hidT t.heap H) := fun b o e => free (hK b o e) (fun z1 z2 => by
    subst z1
    rw [e] at z2; cases z2) fun hb => by
      obtain ⟨p, hp, ep⟩ := List.mem_map.mp hb
      rw [← ep, nT p hp] at e
      cases e
  have nsB : ∀ {b : Addr} {m : Str → Option Value}, t.heap.Ns b m → (hidT t.heap H).Ns b m := fun {b m} ⟨o, es, ep, e, d, r⟩ => ⟨o, es, ep, free e (fun z1 _ => by
    subst z1
    rw [hobj] at e; cases e
    have d2 : Data.seq vs.toArray _ = Data.dict es ep := d
    cases d2) (notT e fun z => by rw [z] at d; cases d), d, r⟩
  have md : Mod K mg (hidT t.heap H) := ⟨inB, nsB hG, ⟨mb, nsB hB, hBB⟩, by
    obtain ⟨mc, c1, c2⟩ := hL
    exact ⟨mc, nsB c1, c2⟩⟩
  have TB : ∀ p ∈ cs, LamX.TabB (hidT t.heap H) mg p.1 p.2 := fun p hp => by
    have hTp := hT p hp
    refine ⟨?_, ?_, fun z => ?_⟩
    · obtain ⟨o, us, file, tf, flags, tg, inF, text, tt, e1, r1, r2, r3, r4, r5, r6, r7, r8, hne⟩ := C p hp
      refine ⟨o, us, file, tf, flags, tg, inF, text, tt, free e1 (fun z1 _ => ?_) (notT e1 fun z => ?_), r1, r2, r3, r4, r5, r6, r7, r8, hne⟩
      · rw [z1, hobj] at e1
        cases e1
        cases r2
      · rw [z] at r1
        cases r1
    · obtain ⟨bm, ob, b1, b2, b3, b4, b5, b6⟩ := hbm
      have nG : bm ≠ mainGlobals := fun q => by
        obtain ⟨o, es, ep, e, hd, _⟩ := hG
        rw [q, e] at b3
        cases b3
        rw [hd] at b6
        cases b6
      have nP : bm ≠ p.2 := fun q => by
        rw [q, hTp] at b3
        cases b3
        cases b6
      refine ⟨bm, ob, b1, b2, nG, nP, free b3 (fun z1 _ => ?_) (notT b3 fun z => ?_), b4, b5, b6⟩
      · rw [z1, hobj] at b3
        cases b3
        cases b6
      · rw [z] at b6
        cases b6
    · obtain ⟨o, es, ep, e, hd, _⟩ := hG
      rw [z, hTp] at e
      cases e
      cases hd
  have en : Env0 P w K mg (hidT t.heap H) callerA [] t H := ⟨rfl, md, fun b o e => of_hidT e, Nat.le_of_eq (hidT_size _ _), trivial, fun b hb => absurd (show b ∈ ([] : List Addr) from hb) (by simp), hok, .of_eq hgen⟩
  have S0 : Sim K (muT cs qs) H := ⟨fun b o e => by
    unfold muT at e
    split at e
    · rename_i hb
      cases e
      exact ⟨#[], tab b hb, trivial, fun pos cv z => by simp [codeAmong] at z⟩
    · cases e⟩
  have R0 : Rps K H [.rls (ns.map D.int)] [.ref a] := by
    unfold Rps
    refine ⟨_, _, rfl, ?_, rfl⟩
    unfold Rp
    exact ⟨a, _, rfl, seq, Rps.of_ints ns⟩
  have sp0 : spOf K 1 S [.ref a] H (fun v _ => v = .bl true) (fun _ _ _ => False) := ⟨rfl, _, _, R0, S0, S.mono (fun d μ' q v H' _ _ r => by
    subst q
    exact r) (fun _ _ _ q => q.elim) hS⟩
  refine codeAny_mono (F _ inB (nsB hG) TB callerA [] t H ⟨[.ref a], []⟩ [.ref a] [.ref a] _ _ rfl hroom en (hbd t (.ref a)) (.cons rfl .nil) sp0) fun r s' h => ?_
  match r, h with
  | .error e, ⟨_, _, _, _, _, _, _, _, _, _, _, _, z⟩ => exact z.elim
  | .ok .next, h => exact False.elim h
  | .ok .brk, h => exact False.elim h
  | .ok .cont, h => exact False.elim h
  | .ok (.ret u), ⟨v, H', e1, e2, un, ok2, rv, q⟩ =>
    have q2 : v = .bl true := q
    subst q2
    obtain rfl : u = Value.bool true := rv
    have key : ∀ b o, b ∉ cs.map (·.2) → t.heap.get? b = some o → s'.heap.get? b = some o := fun b o nb e => by
      rcases one b with z | z | ⟨_, _, ob, xs, z⟩
      · exact un.keep b o e z (fun y => absurd (show b ∈ ([] : List Addr) from y) (by simp)) (by simp)
      · exact absurd z nb
      · obtain ⟨a1, _⟩ := hok b _ z
        obtain ⟨a2, _⟩ := ok2 b _ (un.frzs b ob _ z)
        rw [e] at a1; cases a1
        exact a2
    have grown : ∀ p ∈ cs, ∃ more : Array Value, s'.heap.get? p.2 = some { cls := .none, data := .fields more } := fun p hp => by
      obtain ⟨more, z⟩ := un.tbls p.2 #[] (tab p.2 (memT p hp))
      exact ⟨_, ok2 p.2 _ z⟩
    refine ⟨rfl, ⟨fun b o e => ?_, fun b o e => ?_⟩, e1, e2⟩
    · by_cases hb : b ∈ cs.map (·.2)
      · obtain ⟨p, hp, ep⟩ := List.mem_map.mp hb
        obtain ⟨more, hm⟩ := grown p hp
        rw [← ep] at e ⊢
        rw [hT p hp] at e
        cases e
        exact .inr (.inl ⟨((C p hp).tab (hT p hp)).isCodeTable, rfl, #[], more, rfl, by rw [Array.empty_append]; exact hm⟩)
      · exact .inl (key b o hb e)
    · by_cases hb : b ∈ cs.map (·.2)
      · obtain ⟨p, hp, ep⟩ := List.mem_map.mp hb
        obtain ⟨more, hm⟩ := grown p hp
        rw [← ep]
        exact ⟨_, hm⟩
      · exact ⟨o, key b o hb e⟩
/-- the row's walk, from the promise of the law's def; ts: the tables of the defs that make lambdas -/
theorem law_walkT {l : PySem.W.OpenLaw} {q : Program} {loose : List Str} {XP : (Str → Option Value) → Heap → Prop} {YP : World → Heap → Prop} {d : DefRec} {K : Params → PySem.W.Frag} {x : Str} {ts : List Addr} (k : Nat)
    (hn : l.most = some 63) (hdf : d.params.defaults = []) (hk : k ≤ 90)
    (hY : ∀ (w : World) (h : Heap), YP w h → (K w.params).In h) (hT : ∀ (w : World) (h : Heap), YP w h → ∀ P ∈ ts, h.get? P = some (PySem.W.tabObj #[]))
    (F : ∀ (w : World) (mg : Str → Option Value) (fa : Addr) (h : Heap), (K w.params).In h → h.Ns mainGlobals mg → mg d.name = some (.ref fa) →
      ∃ (fd : FuncData) (cs : List (Addr × Addr)) (qs : Addr → Str) (S : SpD), (∀ p ∈ cs, p.2 ∈ ts ∧ (K w.params).lookup p.2 = none ∧ PySem.W.codeHdIn (K w.params) p.1 p.2 = true) ∧ (∀ (s : Shared) (u : Value), BindsTo s fd ⟨[u], []⟩ [(x, u)]) ∧
        (∀ ns : List Int, ns.length ≤ 63 → (∀ z ∈ ns, Builtin.Int.intBits z ≤ 1048576) → S.run [.rls (ns.map D.int)] (muT cs qs) (fun d _ => d = .bl true) XF) ∧
        ∀ base : Heap, (K w.params).In base → base.Ns mainGlobals mg → (∀ p ∈ cs, LamX.TabB base mg p.1 p.2) → RunOk l.prog w (K w.params) mg base k fa fd [x] (spOf (K w.params) 1 S)) :
    PySem.W.WalkO q loose XP YP l.row.toRowW d [] (fun f vs => PySem.call f vs) := by
  refine Att.attach_callB hn hdf fun w s₀ s₁ mg mb fa o pm cd doc a vs ns G Y ho hd hcd hmg hobj hints hlen hbits hg => ?_
  have KX := hY w _ Y
  obtain ⟨fd, cs, qs, S, hcs, hb, hS, hF⟩ := F w mg fa _ KX G.T.g hmg
  refine law_goT KX G.T.g G.T.b G.T.builtins G.T.nolimit hg (fun p hp => hT w _ Y p.2 (hcs p hp).1) (fun p hp => (hcs p hp).2.1) (fun p hp => PySem.W.codeHd_of_K KX (hcs p hp).2.2) G.T.bmain hobj hints (Nat.le_trans hlen (by rw [sizeLine_eq]; decide)) ?_ hF hb (hS ns hlen hbits)
  exact L2.Room.mono (k := 90) ⟨rfl, by decide, by decide⟩ hk
/-- a def that makes lambdas: its body's walk and reading, cl being its frame's cells -/
theorem fn_okL {P : Program} {w : World} {K : PySem.W.Frag} {mg : Str → Option Value} {base : Heap} {x : Str} {st : Stmt} {f c : Addr} {fd : FuncData} {N ps : List Str} {ms : List Nat} {k : Nat} {Sd : SpD} (F : Fun K x x st f fd) (hcode : fd.code = .ref c) (S : FnScope N ps (defScope st)) (hm : mg x = some (.ref f)) (hb : Binds K fd ps []) (hkb : ∀ n ∈ ms, KB K fd ps n) (wb : List (Str × Addr) → WS)
    (hder : ∀ (A : Around) (outer : List Env) (s : Shared) (H : Hp) (E : XK), A.guards = some [] → Room k (A.deeper (envOfC x (defScope st) s.heap.objs.size f (.ref c))) → LSs (cxOf (L2.CX P w) P w K mg base N x (defScope st) f (.ref c) A outer s H E) (wxE E) (defBody st) (wb (envOfC x (defScope st) s.heap.objs.size f (.ref c)).cells))
    (hread : ∀ (cl : List (Str × Addr)) (ds : List D) (μ : Mu) (Q : PQ) (X : XQ), ds.length = ps.length → Sd.run ds μ Q X → (wb cl).run (bodyD Q X) (ev0 N.length ds) μ) : FnD P w K mg base (k + 1) x ps ms Sd := by
  obtain ⟨oc, od, kV, doc, pm, an, cdv, ct, osl, efd, lk, hcd⟩ := F.ex
  refine ⟨f, fd, fun A outer s H args us vs Q E hg hr e0 hbd r hsp => ?_, hm, F.kp, hb, hkb⟩
  subst efd
  obtain rfl : cdv = .ref c := hcode
  refine LamX.run_ofS (N := N) lk hcd S hr e0 hbd r hsp.1 fun hr' => ⟨_, hder A outer s H E hg hr', ?_⟩
  obtain ⟨hl, ds, μ, R, Sm, q⟩ := hsp
  have hd : ds.length = ps.length := by rw [← R.length]; exact hl
  refine ⟨ev0 N.length ds, μ, ?_, Sm, (wb _).mono (D := bodyD (Out (Rp K) K μ H Q) (OutE K μ H E)) ⟨?_, fun d μ' h => SubQ.out h, fun _ _ z => z.elim, fun _ _ z => z.elim, ?_⟩ (hread _ ds μ _ _ hd q)⟩
  · unfold ev0 L2.start
    rw [R.length]
    exact EnvR.start R
  · exact fun ρ μ' h σ' H' F' S' E' => SubQ.out h .non H' F' S' rfl
  · rintro ρ C d μ' ⟨μ'', s, q⟩ σ' dx v H' F' S' E' e r
    exact q dx v H' (sub_fr s F') (sub_sim s S') e r

/-! ### parts of a text -/
def noE : Expr := .Constant .none 0 ⟨0, 0, 0, 0⟩
def noS : Stmt := .Pass ⟨0, 0, 0, 0⟩
def stB : Stmt → List Stmt
  | .For _ _ b _ _ => b
  | .While _ b _ _ => b
  | .If _ b _ _ => b
  | _ => []
def stO : Stmt → List Stmt
  | .If _ _ b _ => b
  | _ => []
def stV : Stmt → Expr
  | .Assign _ v _ => v
  | .Expr v _ => v
  | .Return (some v) _ => v
  | .If t _ _ _ => t
  | _ => noE
def exA : Expr → List Expr
  | .Call _ as _ _ => as
  | .List es _ => es
  | .Tuple es _ _ => es
  | .BoolOp _ es _ => es
  | .Compare _ _ es _ => es
  | _ => []
def ex1 : Expr → Expr
  | .Subscript e _ _ => e
  | .Attribute e _ _ => e
  | .UnaryOp _ e _ => e
  | .BinOp e _ _ _ => e
  | .Compare e _ _ _ => e
  | .IfExp _ e _ _ => e
  | _ => noE
def ex2 : Expr → Expr
  | .BinOp _ _ e _ => e
  | .IfExp _ _ e _ => e
  | _ => noE
def nthS (l : List Stmt) (n : Nat) : Stmt := l.getD n noS
def nthE (l : List Expr) (n : Nat) : Expr := l.getD n noE
def lamP : Expr → Arguments
  | .Lambda a _ _ _ => a
  | _ => default
def lamB : Expr → Expr
  | .Lambda _ b _ _ => b
  | _ => noE
def lamSc : Expr → Scope
  | .Lambda _ _ s _ => s
  | _ => default
end Sq

/-! The facts of the errors' classes, from the written part. -/
namespace Sq
open PySem PySem.Spec PyProof.Rows L2
def clB : Stmt → List Stmt
  | .ClassDef _ _ _ b _ _ _ _ _ _ _ => b
  | _ => []
/-- the class x, an error of the program's own: C its class, D the first of them, f the __init__ -/
structure ClsK (K : PySem.W.Frag) (x : Str) (C D f : Addr) (nm q : Str) (N : Addr) (bs bm : List Value) (sn : List Str) (sub : List Value) (ab : Bool) (col : Option Bool) (dd : Option Addr) (k0 k1 k2 k3 k5 : Option Value) : Prop where
  a : PySem.W.nsIn K mainGlobals x = some (some (.ref C))
  l : K.lookup C = some (excClassObj nm q C N bs bm true sn sub ab col dd k0 k1 k2 k3 k5 "ValueError.__new__")
  vb : PySem.HandSPX.refsVE bm = true
  sa : PySem.W.findIn K (.ref C) "__setattr__" = some (some (.builtin "object.__setattr__"))
  exC : PySem.W.subIn K (.ref C) (.type "BaseException") = some true
  tyC : PySem.W.typeIn K (.ref C) = some (.type "type")
  kC : PySem.W.keepIn K (.ref C) = true
  iC : PySem.W.findIn K (.ref C) "__init__" = some (some (.ref f))
  nV : PySem.W.findIn K (.ref C) "value" = some none
  sup : PySem.W.ks_superIn K C D "__init__" = some (some (.builtin "ValueError.__init__"))
  ve : PySem.W.subIn K (.ref C) (.type "ValueError") = some true
  mro : PySem.W.mroIn K C (.ref D) = some true
  hg : PySem.W.findIn K (.ref C) "__getattribute__" = some (some (.builtin "BaseException.__getattribute__"))
  hk : PySem.W.findIn K (.ref C) "__getattr__" = some none
  hd : PySem.W.hasDictIn K C = true
  ha : PySem.W.findIn K (.ref C) "__class__" = some (some (.builtin "object.__class__"))
  hm : PySem.W.mroIn K C (.type "object") = some true
  sD : PySem.W.subIn K (.ref C) (.ref D) = some true
  me : PySem.W.kitOne K (.ref C) (.ref C) = some true
/-- what holds of all of them -/
structure AllK (K : PySem.W.Frag) (D f : Addr) (cdD : ClassData) : Prop where
  tI : PySem.W.typeIn K (.ref f) = some (.type "function")
  opq : PySem.W.nsIn K cStatics "thirdparty.any" = some none
  isD : PySem.W.clsIn K D = some cdD
  hn : PySem.W.specialIn K (.builtin "object.__class__") "__get__" = some (some (.builtin "getset_descriptor.__get__"))
  ht : PySem.W.takesIn K (.builtin "object.__class__") = some true
/-- the def __init__ -/
structure InitK (K : PySem.W.Frag) (st : Stmt) (qual : Str) (D f cc cda : Addr) (oc kV doc pm ct : Value) (od an : Option Addr) (osl : Array (Option Value)) (cl : Value) (cld : Option Addr) (csl : Array (Option Value)) (ccl : Value) (cdd : Option Addr) (vs : Array Value) (ccs : Array (Option Value)) (file : Str) (tf : Tok) : Prop where
  l : K.lookup f = some ⟨oc, od, .func (PySem.W.ksFn "__init__" qual (defArgs st) (defBody st) (defScope st) .none kV doc pm an (.ref cda) ct cc), osl⟩
  cell : K.lookup cc = some ⟨cl, cld, .cell (some (.ref D)), csl⟩
  code : K.lookup cda = some ⟨ccl, cdd, .fields vs, ccs⟩
  fl : vs[2]? = some (.str file tf)
  hcd : PySem.W.codeIn K (.ref cda) qual = true
section
variable {P : Program} {w : World} {K : PySem.W.Frag} {mg : Str → Option Value} {base h : Heap} {x : Str} {C D f : Addr} {nm q : Str} {N : Addr} {bs bm : List Value} {sn : List Str} {sub : List Value} {ab : Bool} {col : Option Bool} {dd : Option Addr} {k0 k1 k2 k3 k5 : Option Value} {cdD : ClassData}
  {st : Stmt} {qual : Str} {cc cda : Addr} {oc kV doc pm ct : Value} {od an : Option Addr} {osl : Array (Option Value)} {cl : Value} {cld : Option Addr} {csl : Array (Option Value)} {ccl : Value} {cdd : Option Addr} {vs : Array Value} {ccs : Array (Option Value)} {file : Str} {tf : Tok}
theorem ClsK.exc (k : ClsK K x C D f nm q N bs bm sn sub ab col dd k0 k1 k2 k3 k5) (A : AllK K D f cdD) : L2.ExcC K C := ⟨k.hg, k.hk, k.exC, k.hd, k.ha, A.hn, A.ht, k.hm⟩
theorem ClsK.err (k : ClsK K x C D f nm q N bs bm sn sub ab col dd k0 k1 k2 k3 k5) (A : AllK K D f cdD) : ErrC P K mg C D f :=
  ⟨⟨⟨nm, q, N, bs, bm, sn, sub, ab, col, dd, k0, k1, k2, k3, k5, k.l, k.vb⟩, k.sa, k.exC, k.tyC, k.kC⟩, k.iC, A.tI, k.nV, k.sup, k.ve, A.opq, k.mro, ⟨cdD, A.isD⟩⟩
theorem ClsK.exm (k : ClsK K x C D f nm q N bs bm sn sub ab col dd k0 k1 k2 k3 k5) {S : Addr} {y : Str} {nm' q' : Str} {N' : Addr} {bs' bm' : List Value} {sn' : List Str} {sub' : List Value} {ab' : Bool} {col' : Option Bool} {dd' : Option Addr} {j0 j1 j2 j3 j5 : Option Value} (r : ClsK K y D D f nm' q' N' bs' bm' sn' sub' ab' col' dd' j0 j1 j2 j3 j5) :
    PySem.W.exmOne K (.ref C) (.ref D) = some true := PySem.W.exm_ref r.exC r.hd r.tyC k.sD
/-- the class may be raised -/
theorem errD_mk {p1 p2 p3 p4 p5 p6 p7 p8 p9 p10 : Pos} {ar : Arg} (X : K.In h) (G : h.Ns mainGlobals mg) (k : ClsK K x C D f nm q N bs bm sn sub ab col dd k0 k1 k2 k3 k5) (A : AllK K D f cdD) (I : InitK K st qual D f cc cda oc kV doc pm ct od an osl cl cld csl ccl cdd vs ccs file tf)
    (hs : PySem.W.nsIn K mainGlobals "super" = some none) (hb : defBody st = initBody p1 p2 p3 p4 p5 p6 p7 p8 p9 p10) (hfile : ((P.main.file : Str) == file) = true) (htop : (P.main.scope.names.lookup ("super" : Str)).isSome = false) (S : InitS (defScope st)) (hp : ((defArgs st).posonlyargs ++ (defArgs st).args).head? = some ar) (har : ar.arg = "self") (hl : (p3.endLine == p5.line) = true)
    (hbd : ∀ (dV kV doc pm cdv ct : Value) (an : Option Addr) (cc : Addr) (a b : Value), bindArgs (PySem.W.ksFn "__init__" qual (defArgs st) (initBody p1 p2 p3 p4 p5 p6 p7 p8 p9 p10) (defScope st) .none kV doc pm an cdv ct cc) ⟨[a, b], []⟩ = pure [(("self" : Str), a), (("value" : Str), b)]) : ErrD P w K mg base x C := by
  obtain ⟨l, cell, code, fl, hcd⟩ := I
  rw [hb] at l
  refine ⟨PySem.W.mg_of X G k.a, D, f, _, k.err A, init_ok (p1 := p1) (p2 := p2) (p3 := p3) (p4 := p4) (p5 := p5) (p6 := p6) (p7 := p7) (p8 := p8) (p9 := p9) (p10 := p10) ⟨⟨_, _, _, l⟩, ⟨_, _, _, cell⟩, ⟨_, _, _, _, _, _, code, fl, hfile⟩, hcd, htop⟩ S hp har (PySem.W.mg_none_of X G hs) hl, ?_⟩
  intro s us _ hu
  match us, hu with
  | [a, b], _ => exact .of_eq (hbd .none kV doc pm (.ref cda) ct an cc a b)
end
end Sq

/-! Values of any kind. -/
namespace Sq
open PySem PySem.Spec PyProof.Rows L2
def oneC (C : Addr) : Addr → Option Bool := fun x => if x = C then some true else none
theorem oneC_same (C : Addr) : oneC C C = some true := if_pos rfl
theorem oneC_inv {C x : Addr} {b : Bool} (h : oneC C x = some b) : x = C ∧ b = true := by
  unfold oneC at h
  split at h
  · cases h; exact ⟨by assumption, rfl⟩
  · cases h
/-- small data without addresses: k bounds the depth, n how long it is shown -/
structure SmD (k n : Nat) (d : D) : Prop where
  pure : pureD d = true
  lay : (encD d).canLay0 = true
  dep : (encD d).depth ≤ k
  shw : (encD d).showable = true
  len : (encD d).shown.length ≤ n
theorem SmD.mono {k n k' n' : Nat} {d : D} (h : SmD k n d) (hk : k ≤ k') (hn : n ≤ n') : SmD k' n' d := ⟨h.pure, h.lay, Nat.le_trans h.dep hk, h.shw, Nat.le_trans h.len hn⟩
theorem SmD.non : SmD 0 4 .non := ⟨rfl, rfl, by decide, rfl, by decide⟩
theorem SmD.bl (b : Bool) : SmD 0 5 (.bl b) := by cases b <;> exact ⟨rfl, rfl, by decide, rfl, by decide⟩
theorem SmD.int {i : Int} (h : smallI i) : SmD 0 31 (.int i) := ⟨rfl, rfl, by unfold encD PyData.depth; exact Nat.le_refl _, lit_show (d := .int i) (by unfold litI; exact h), shown_int h.abs⟩
theorem SmD.str {x : Str} {m : Nat} (h : PyData.strOk x = true) (hl : x.length ≤ m) : SmD 0 (10 * m + 2) (.str x) := by
  refine ⟨rfl, by unfold encD PyData.canLay0; exact h, by unfold encD PyData.depth; exact Nat.le_refl _, rfl, ?_⟩
  have e : (encD (.str x)).shown = reprText x := by unfold encD PyData.shown; rfl
  rw [e]
  have h2 : ∀ c ∈ x.cps.toList, c < 16 ^ 8 := fun c hc => by
    unfold PyData.strOk at h
    rw [← Array.all_toList] at h
    have q : c < 0x110000 := of_decide_eq_true (List.all_eq_true.mp h c hc)
    exact Nat.lt_of_lt_of_le q (by decide)
  have := StrLaws.reprText_len x h2
  omega
theorem smd_tup {k n : Nat} {ds : List D} (h : ∀ d ∈ ds, SmD k n d) : SmD (k + 1) ((n + 2) * ds.length + 3) (.tup ds) := by
  refine ⟨?_, ?_, ?_, ?_, shown_tups fun d hd => (h d hd).len⟩
  · unfold pureD
    rw [pureDs_all, List.all_eq_true]
    exact fun d hd => (h d hd).pure
  · unfold encD PyData.canLay0
    rw [encDs_map]
    have : ∀ es : List D, (∀ d ∈ es, SmD k n d) → PyData.canLayAll0 (es.map encD) = true := by
      intro es
      induction es with
      | nil => intro _; rfl
      | cons e es ih =>
        intro q
        rw [List.map_cons]
        unfold PyData.canLayAll0
        rw [(q e List.mem_cons_self).lay, ih fun d hd => q d (List.mem_cons_of_mem _ hd)]; rfl
    exact this ds h
  · have q := depthAll_le (n := k) fun d hd => (h d hd).dep
    unfold encD PyData.depth
    omega
  · unfold encD PyData.showable
    rw [encDs_map]
    have : ∀ es : List D, (∀ d ∈ es, SmD k n d) → PyData.showableAll (es.map encD) = true := by
      intro es
      induction es with
      | nil => intro _; rfl
      | cons e es ih =>
        intro q
        rw [List.map_cons]
        unfold PyData.showableAll
        rw [(q e List.mem_cons_self).shw, ih fun d hd => q d (List.mem_cons_of_mem _ hd)]; rfl
    exact this ds h
theorem SmD.shaped {k n : Nat} {d : D} (h : SmD k n d) (hk : k ≤ 60) : SeqAt.shaped (encD d) = true := by
  unfold SeqAt.shaped
  rw [h.lay, decide_eq_true (Nat.le_trans h.dep (by omega))]; rfl
theorem SmD.repr {k n : Nat} {d : D} {μ : Mu} {Q : PQ} (h : SmD k n d) (hk : k ≤ 60) (hn : n ≤ 16000000) (q : Q (.str (encD d).shown) μ) : fReprX d μ Q :=
  .inl ⟨_, pure_dpy h.pure, h.shaped hk, h.shw, Nat.le_trans h.len (small_size hn), q⟩
/-- each isinstance of it has an answer -/
def Seen (μ : Mu) (d : D) : Prop := ∀ t, ∃ b, isA t d μ = some b
theorem seen_pure {μ : Mu} {d : D} (h : pureD d = true) : Seen μ d := fun t => by
  cases d <;> first
    | exact ⟨_, rfl⟩
    | (unfold pureD at h; cases h)
/-- an int that is no bool -/
def isI : D → Bool
  | .int _ => true
  | _ => false
def isBl : D → Bool
  | .bl _ => true
  | _ => false
def isTup : D → Bool
  | .tup _ => true
  | _ => false
theorem Seen.cases {μ : Mu} {d : D} (h : Seen μ d) : (∃ i, d = .int i) ∨ (∃ b, d = .bl b) ∨ (isI d = false ∧ isBl d = false ∧ isA .int d μ = some false ∧ isA .bool d μ = some false) := by
  cases d with
  | int i => exact .inl ⟨i, rfl⟩
  | bl b => exact .inr (.inl ⟨b, rfl⟩)
  | non => exact .inr (.inr ⟨rfl, rfl, rfl, rfl⟩)
  | str x => exact .inr (.inr ⟨rfl, rfl, rfl, rfl⟩)
  | tup ds => exact .inr (.inr ⟨rfl, rfl, rfl, rfl⟩)
  | rls ds => obtain ⟨b, e⟩ := h .int; cases e
  | ob a =>
    refine .inr (.inr ⟨rfl, rfl, ?_, ?_⟩)
    · obtain ⟨b, e⟩ := h .int
      unfold isA at e ⊢
      dsimp only at e ⊢
      split at e <;> first | rfl | cases e
    · obtain ⟨b, e⟩ := h .bool
      unfold isA at e ⊢
      dsimp only at e ⊢
      split at e <;> first | rfl | cases e
theorem Seen.tup {μ : Mu} {d : D} (h : Seen μ d) : (∃ ds, d = .tup ds) ∨ (isTup d = false ∧ isA .tuple d μ = some false) := by
  cases d with
  | tup ds => exact .inl ⟨ds, rfl⟩
  | int i => exact .inr ⟨rfl, rfl⟩
  | bl b => exact .inr ⟨rfl, rfl⟩
  | non => exact .inr ⟨rfl, rfl⟩
  | str x => exact .inr ⟨rfl, rfl⟩
  | rls ds => obtain ⟨b, e⟩ := h .int; cases e
  | ob a =>
    refine .inr ⟨rfl, ?_⟩
    obtain ⟨b, e⟩ := h .tuple
    unfold isA at e ⊢
    dsimp only at e ⊢
    split at e <;> first | rfl | cases e
/-- it and its parts -/
structure Seen2 (μ : Mu) (d : D) : Prop where
  self : Seen μ d
  parts : ∀ ds, d = .tup ds → ds.length ≤ 100000 ∧ ∀ x ∈ ds, Seen μ x
theorem pure_part {ds : List D} (h : pureD (.tup ds) = true) : ∀ x ∈ ds, pureD x = true := by
  unfold pureD at h
  rw [pureDs_all, List.all_eq_true] at h
  exact h
/-- a value that is tried: small data, a list of such, a small dict -/
inductive Val (μ : Mu) (p : Addr) : D → Prop
  | sm {d : D} : SmD 20 10000 d → (∀ ds, d = .tup ds → ds.length ≤ 1000) → Val μ p d
  | lst {a : Addr} {ds : List D} : μ a = some (.lst ds) → a ≠ p → (∀ d ∈ ds, SmD 20 10000 d) → ds.length ≤ 1000 → Val μ p (.ob a)
  | dct {a : Addr} {ks : List Key} {ns : List Int} : μ a = some (.dct ks (ns.map D.int)) → a ≠ p → (dctPy ks ns).depth ≤ 60 → (dctPy ks ns).showable = true → (dctPy ks ns).shown.length ≤ sizeLine → Val μ p (.ob a)
theorem Val.keep {μ μ' : Mu} {p : Addr} {d : D} (h : Val μ p d) (k : ∀ b o, b ≠ p → μ b = some o → μ' b = some o) : Val μ' p d := by
  cases h with
  | sm h h2 => exact .sm h h2
  | lst e n h h2 => exact .lst (k _ _ n e) n h h2
  | dct e n h1 h2 h3 => exact .dct (k _ _ n e) n h1 h2 h3
theorem Val.seen {μ : Mu} {p : Addr} {d : D} (h : Val μ p d) : Seen2 μ d := by
  cases h with
  | sm h h2 => exact ⟨seen_pure h.pure, fun ds e => ⟨Nat.le_trans (h2 ds e) (by decide), fun x hx => seen_pure (pure_part (e ▸ h.pure) x hx)⟩⟩
  | lst e n h h2 => exact ⟨fun t => ⟨_, by unfold isA; dsimp only; rw [e]⟩, fun ds z => nomatch z⟩
  | dct e n h1 h2 h3 => exact ⟨fun t => ⟨_, by unfold isA; dsimp only; rw [e]⟩, fun ds z => nomatch z⟩
/-- what it is shown as, now and later -/
theorem Val.repr {μ : Mu} {p : Addr} {d : D} (h : Val μ p d) : ∃ t : Str, ∀ μ', (∀ b o, b ≠ p → μ b = some o → μ' b = some o) → ∀ Q : PQ, Q (.str t) μ' → fReprX d μ' Q := by
  cases h with
  | sm h h2 => exact ⟨_, fun μ' k Q q => h.repr (by decide) (by decide) q⟩
  | @lst a ds e n h h2 =>
    refine ⟨(PyData.list (encDs ds)).shown, fun μ' k Q q => .inl ⟨_, .lst (k _ _ n e) ?_, ?_, ?_, ?_, q⟩⟩
    · refine pure_dpys ?_
      rw [pureDs_all, List.all_eq_true]
      exact fun x hx => (h x hx).pure
    · have t := smd_tup h
      have t1 := t.lay
      have t2 := t.dep
      unfold encD PyData.canLay0 at t1
      unfold encD PyData.depth at t2
      unfold SeqAt.shaped PyData.canLay0 PyData.depth
      rw [t1, decide_eq_true (by omega)]; rfl
    · have t1 := (smd_tup h).shw
      unfold encD PyData.showable at t1
      unfold PyData.showable
      exact t1
    · have e : (PyData.list (encDs ds)).shown = listText (PyData.shownAll (encDs ds)) := by unfold PyData.shown; rfl
      rw [e]
      refine small_size ?_
      rw [listText_eq_join, Str.length_append, Str.length_append]
      have h1 : (("[" : Str)).length = 1 := rfl
      have h3 : (("]" : Str)).length = 1 := rfl
      have h4 : (Str.join ", " (PyData.shownAll (encDs ds))).length ≤ piled (PyData.shownAll (encDs ds)) := by
        by_cases z : PyData.shownAll (encDs ds) = []
        · rw [z]; decide
        · have := join_length_add _ z
          omega
      have h5 := piled_le (n := 10000) (ts := PyData.shownAll (encDs ds)) (by
        rw [shownAll_map, encDs_map]
        intro t ht
        obtain ⟨p, hp, rfl⟩ := List.mem_map.mp ht
        obtain ⟨d, hd, rfl⟩ := List.mem_map.mp hp
        exact (h d hd).len)
      have h6 : (PyData.shownAll (encDs ds)).length = ds.length := by rw [shownAll_map, encDs_map, List.length_map, List.length_map]
      rw [h6] at h5
      have h7 : (10000 + 2) * ds.length ≤ (10000 + 2) * 1000 := Nat.mul_le_mul_left _ h2
      omega
  | dct e n h1 h2 h3 => exact ⟨_, fun μ' k Q q => .inr ⟨_, .dct (k _ _ n e), h1, h2, h3, q⟩⟩
def wholesB : D → Bool
  | .tup ds => ds.all isI
  | _ => false
theorem isI_inv {d : D} (h : isI d = true) : ∃ i, d = .int i := by
  cases d <;> first | exact ⟨_, rfl⟩ | cases h
theorem wholes_ints : ∀ {ds : List D}, ds.all isI = true → ∃ ns : List Int, ds = ns.map D.int
  | [], _ => ⟨[], rfl⟩
  | d :: ds, h => by
    rw [List.all_cons, Bool.and_eq_true] at h
    obtain ⟨i, rfl⟩ := isI_inv h.1
    obtain ⟨ns, rfl⟩ := wholes_ints h.2
    exact ⟨i :: ns, rfl⟩
def leB (m : Int) : D → Bool
  | .int i => decide ((if i < 0 then -i else i) ≤ m)
  | _ => false
def intsB (k m : Int) : D → Bool
  | .tup ds => ds.all isI && (decide ((ds.length : Int) = k) && ds.all (leB m))
  | _ => false
theorem notTup_whole {d : D} (h : isTup d = false) : wholesB d = false := by
  cases d <;> first | rfl | cases h
theorem notTup_ints {k m : Int} {d : D} (h : isTup d = false) : intsB k m d = false := by
  cases d <;> first | rfl | cases h
def inB (lo hi : Int) : D → Bool
  | .int i => decide (lo ≤ i ∧ i ≤ hi)
  | _ => false
theorem notI_in {lo hi : Int} {d : D} (h : isI d = false) : inB lo hi d = false := by
  cases d <;> first | rfl | cases h
end Sq

/-! For readings of _law_heard and what is told of errors. -/
namespace Sq
open PySem PySem.Spec PyProof.Rows L2
theorem PotX.free {n : Nat} {μ0 μ : Mu} {p l : Addr} (h : PotX n μ0 μ p) (k : μ l = none) : μ0 l = none ∧ l ≠ p := by
  have hp : l ≠ p := fun z => h.1.ne k z.symm
  refine ⟨?_, hp⟩
  cases e : μ0 l with
  | none => rfl
  | some o => rw [h.2 l o hp e] at k; cases k
theorem PotX.keep {n : Nat} {μ0 μ : Mu} {p b : Addr} {o : O} (h : PotX n μ0 μ p) (hb : b ≠ p) (e : μ0 b = some o) : μ b = some o := h.2 b o hb e
theorem PotAt.neTab {n : Nat} {μ : Mu} {p P : Addr} {q : Str} (h : PotAt n μ p) (e : μ P = some (.tab q)) : P ≠ p := fun z => by
  obtain ⟨x, y, w, e2, _⟩ := h
  rw [z, e2] at e
  cases e
theorem PotAt.neExc {n : Nat} {μ : Mu} {p P C : Addr} {d : D} (h : PotAt n μ p) (e : μ P = some (.exc C d)) : P ≠ p := fun z => by
  obtain ⟨x, y, w, e2, _⟩ := h
  rw [z, e2] at e
  cases e
theorem PotAt.neLam {n : Nat} {μ : Mu} {p P : Addr} {t : LamT} (h : PotAt n μ p) (e : μ P = some (.lam t)) : P ≠ p := fun z => by
  obtain ⟨x, y, w, e2, _⟩ := h
  rw [z, e2] at e
  cases e
/-- an error is caught -/
theorem heard_bad {isSq : Addr → Option Bool} {w : WE} {ρ : Ev} {μ : Mu} {C : Addr} {d : D} {Q : PQ} (h : ∀ (Q : PQ) (X : XQ), X C d μ → w.run ρ μ Q X) (hC : isSq C = some true) (q : ∀ a, μ a = none → Q (.tup [.ob a, .non]) (mset μ a (.exc C d))) : heardQ isSq w ρ μ Q :=
  h _ _ ⟨hC, q⟩
theorem ix0 {x y : D} {μ : Mu} {Q : PQ} (h : Q x μ) : gIx.run (.tup [x, y]) (.int 0) μ Q := by
  rw [gIx_tup, atI_0]
  exact h
/-- _law_heard(lambda: ..)[0] where an error comes -/
theorem heard1_bad {isSq : Addr → Option Bool} {L : List (LamT × WE)} {P : Addr} {t : LamT} {w : WE} {ρ : Ev} {μ0 μ : Mu} {n : Nat} {p C : Addr} {d : D} {Q : PQ} {X : XQ} (hx : PotX n μ0 μ p) (hP : μ P = some (.tab t.q)) (hw : (t, w) ∈ L) (hC : isSq C = some true)
    (h : ∀ μ' (Q : PQ) (X : XQ), PotX n μ μ' p → X C d μ' → w.run ρ μ' Q X) (q : ∀ a μ', PotX n μ0 μ' p → PotX n μ μ' p → μ' a = some (.exc C d) → Q (.ob a) μ') : (wOp gIx (wHeard isSq [] L (wLam P t)) (wC (.int 0))).run ρ μ Q X := by
  rw [wOp_run, wHeard_run, wLam_run]
  refine ⟨hP, fun f hf => ⟨f, t, w, rfl, mset_same _ _ _, hw, ?_⟩⟩
  have x1 : PotX n μ (mset μ f (.lam t)) p := (PotX.refl hx.1).new hf
  refine heard_bad (fun Q X k => h _ Q X x1 k) hC fun a ha => ?_
  rw [wC_run]
  exact ix0 (q a _ ((hx.new hf).new ha) (x1.new ha) (mset_same _ _ _))
/-- _law_heard(lambda: ..)[0] where none comes -/
theorem heard1_good {isSq : Addr → Option Bool} {L : List (LamT × WE)} {P : Addr} {t : LamT} {w : WE} {ρ : Ev} {μ0 μ : Mu} {n : Nat} {p : Addr} {r : D} {Q : PQ} {X : XQ} (hx : PotX n μ0 μ p) (hP : μ P = some (.tab t.q)) (hw : (t, w) ∈ L)
    (h : ∀ μ' (Q : PQ) (X : XQ), PotX n μ μ' p → Q r μ' → w.run ρ μ' Q X) (q : ∀ μ', PotX n μ0 μ' p → PotX n μ μ' p → Q .non μ') : (wOp gIx (wHeard isSq [] L (wLam P t)) (wC (.int 0))).run ρ μ Q X := by
  rw [wOp_run, wHeard_run, wLam_run]
  refine ⟨hP, fun f hf => ⟨f, t, w, rfl, mset_same _ _ _, hw, ?_⟩⟩
  have x1 : PotX n μ (mset μ f (.lam t)) p := (PotX.refl hx.1).new hf
  refine h _ _ _ x1 ?_
  dsimp only
  rw [wC_run]
  exact ix0 (q _ (hx.new hf) x1)
/-- the lambdas at fs are ts -/
def LamsAt (μ : Mu) : List Addr → List LamT → Prop
  | [], [] => True
  | f :: fs, t :: ts => μ f = some (.lam t) ∧ LamsAt μ fs ts
  | _, _ => False
theorem LamsAt.keep {n : Nat} {μ μ' : Mu} {p : Addr} (k : ∀ b t, μ b = some (.lam t) → μ' b = some (.lam t)) : ∀ {fs : List Addr} {ts : List LamT}, LamsAt μ fs ts → LamsAt μ' fs ts
  | [], [], _ => trivial
  | _ :: _, _ :: _, ⟨a, b⟩ => ⟨k _ _ a, LamsAt.keep (n := n) (p := p) k b⟩
  | [], _ :: _, h => h.elim
  | _ :: _, [], h => h.elim
theorem LamsAt.snoc {μ : Mu} {f : Addr} {t : LamT} (e : μ f = some (.lam t)) : ∀ {fs : List Addr} {ts : List LamT}, LamsAt μ fs ts → LamsAt μ (fs ++ [f]) (ts ++ [t])
  | [], [], _ => ⟨e, trivial⟩
  | _ :: _, _ :: _, ⟨a, b⟩ => ⟨a, LamsAt.snoc e b⟩
  | [], _ :: _, h => h.elim
  | _ :: _, [], h => h.elim
theorem LamsAt.len {μ : Mu} : ∀ {fs : List Addr} {ts : List LamT}, LamsAt μ fs ts → fs.length = ts.length
  | [], [], _ => rfl
  | _ :: _, _ :: _, ⟨_, b⟩ => by rw [List.length_cons, List.length_cons, LamsAt.len b]
  | [], _ :: _, h => h.elim
  | _ :: _, [], h => h.elim
theorem LamsAt.get {μ : Mu} : ∀ {fs : List Addr} {ts : List LamT} {i : Nat} {f : Addr}, LamsAt μ fs ts → fs[i]? = some f → ∃ t, ts[i]? = some t ∧ μ f = some (.lam t)
  | _ :: _, _ :: _, 0, f, ⟨a, _⟩, e => by cases e; exact ⟨_, rfl, a⟩
  | _ :: _, _ :: _, i + 1, f, ⟨_, b⟩, e => by
    obtain ⟨t, h1, h2⟩ := LamsAt.get (i := i) b (by simpa using e)
    exact ⟨t, by simpa using h1, h2⟩
  | [], [], _, _, _, e => by simp at e
  | [], _ :: _, _, _, h, _ => h.elim
  | _ :: _, [], _, _, h, _ => h.elim
/-- the list at l holds lambdas ts -/
def Calls (μ : Mu) (l : Addr) (ts : List LamT) : Prop := ∃ fs, μ l = some (.lst (fs.map D.ob)) ∧ LamsAt μ fs ts
/-- calls = [lambda: ..] -/
theorem calls_new {P : Addr} {t : LamT} {n : Nat} {μ0 μ : Mu} {p : Addr} {ρ : Ev} {E : PD} {i : Nat} (hx : PotX n μ0 μ p) (hP : μ P = some (.tab t.q)) (h : ∀ l μ', μ0 l = none → l ≠ p → PotX n μ0 μ' p → PotX n μ μ' p → Calls μ' l [t] → E.nx (ρ.set i (some (.ob l))) μ') :
    (wSet i (wLst [wLam P t])).run E ρ μ := by
  rw [wSet_run, wLst_run, runAll_cons, wLam_run]
  refine ⟨hP, fun f hf => ?_⟩
  rw [runAll_nil]
  intro l hl
  have x1 := hx.new (o := .lam t) hf
  obtain ⟨f1, f2⟩ := x1.free hl
  exact h l _ f1 f2 (x1.new hl) (((PotX.refl hx.1).new hf).new hl) ⟨[f], mset_same _ _ _, at_new (mset_same _ _ _) hl, trivial⟩
/-- calls.append(lambda: ..) -/
theorem calls_add {P l : Addr} {t : LamT} {ts : List LamT} {n : Nat} {μ0 μ : Mu} {p : Addr} {ρ : Ev} {E : PD} {i : Nat} (hx : PotX n μ0 μ p) (hl0 : μ0 l = none) (hlp : l ≠ p) (hc : Calls μ l ts) (hP : μ P = some (.tab t.q)) (hi : ρ[i]? = some (some (.ob l))) (hlen : ts.length < 1000)
    (h : ∀ μ', PotX n μ0 μ' p → Calls μ' l (ts ++ [t]) → E.nx ρ μ') : (wExpr (wMt gAppend (wVar i) [wLam P t])).run E ρ μ := by
  obtain ⟨fs, e, k⟩ := hc
  rw [wExpr_run, wMt_run, wVar_run, hi]
  refine onLst_mk e ?_
  rw [runAll_cons, wLam_run]
  refine ⟨hP, fun f hf => ?_⟩
  rw [runAll_nil]
  have e1 := at_new (o := .lam t) e hf
  refine onLst_mk e1 ?_
  rw [gAppend_run, fAppend_run]
  have hfl : f ≠ l := fun z => by rw [z, e] at hf; cases hf
  refine ⟨Nat.lt_of_lt_of_le (by rw [List.length_map, k.len]; exact hlen) (small_size (by decide)), h _ ((hx.new hf).set hl0 hlp) ⟨fs ++ [f], ?_, ?_⟩⟩
  · rw [mset_same, List.map_append]; rfl
  · refine LamsAt.snoc (by rw [mset_ne hfl]; exact mset_same _ _ _) (k.keep (n := n) (p := p) fun b u hb => ?_)
    have hbl : b ≠ l := fun z => by rw [z, e] at hb; cases hb
    rw [mset_ne hbl]
    exact at_new hb hf
/-- told = [_law_heard(call)[0] for call in calls], an error each time -/
theorem heard_all {isSq : Addr → Option Bool} {L : List (LamT × WE)} {l : Addr} {ts : List LamT} {n : Nat} {μ0 μ : Mu} {p C : Addr} {d : D} {ρ : Ev} {E : PD} {i c k : Nat} (hx : PotX n μ0 μ p) (hlp : l ≠ p) (hc : Calls μ l ts) (hi : ρ[c]? = some (some (.ob l))) (hk : k < ρ.length) (hck : c ≠ k) (hlen : ts.length < 1000) (hC : isSq C = some true)
    (hw : ∀ t ∈ ts, ∃ w, (t, w) ∈ L ∧ ∀ μ' (Q : PQ) (X : XQ), PotX n μ μ' p → X C d μ' → w.run (ρ.set k none) μ' Q X)
    (h : ∀ l5 acc μ', PotX n μ0 μ' p → PotX n μ μ' p → μ' l5 = some (.lst acc) → acc.length = ts.length → (∀ x ∈ acc, ∃ a, x = .ob a ∧ μ' a = some (.exc C d)) → E.nx (ρ.set i (some (.ob l5))) μ') :
    (wSet i (wLc (wSeqI (wVar c)) (CT.one k) wYes (wOp gIx (wHeard isSq [k] L (wVar k)) (wC (.int 0))))).run E ρ μ := by
  obtain ⟨fs, e, la⟩ := hc
  rw [wSet_run, wLc_run, wSeqI_run, wVar_run, hi]
  dsimp only
  rw [fSeq_ob, e]
  dsimp only
  have hl2 : (fs.map D.ob).length = ts.length := by rw [List.length_map, la.len]
  refine ⟨small_size (by rw [hl2]; omega), ?_⟩
  have wk : wipeE ρ (CT.one k).slots = ρ.set k none := rfl
  rw [wk]
  refine lcG_by (fun j acc μ' => PotX n μ0 μ' p ∧ PotX n μ μ' p ∧ μ' l = some (.lst (fs.map D.ob)) ∧ acc.length = j ∧ ∀ x ∈ acc, ∃ a, x = .ob a ∧ μ' a = some (.exc C d)) (fun _ _ _ _ z => z.2.2.1) ?_ ?_ ⟨hx, .refl hx.1, e, rfl, fun _ z => nomatch z⟩
  · rintro j x acc μ1 hj ⟨x1, x2, e1, hacc, hex⟩
    obtain ⟨f, hf, rfl⟩ : ∃ f, fs[j]? = some f ∧ x = .ob f := by
      rw [List.getElem?_map] at hj
      cases q : fs[j]? with
      | none => rw [q] at hj; cases hj
      | some f => rw [q] at hj; cases hj; exact ⟨f, rfl, rfl⟩
    obtain ⟨t, ht, hft⟩ := la.get hf
    obtain ⟨w, hwL, hrun⟩ := hw t (List.mem_of_getElem? ht)
    refine ⟨_, rfl, ?_⟩
    rw [wYes_run, if_pos rfl, wOp_run, wHeard_run, wVar_run]
    have g1 : ((ρ.set k none).set k (some (D.ob f)))[k]? = some (some (D.ob f)) := by rw [List.getElem?_set_self (by rw [List.length_set]; exact hk)]
    rw [g1]
    have g2 : wipeE ((ρ.set k none).set k (some (D.ob f))) [k] = ρ.set k none := by
      show ((ρ.set k none).set k (some (D.ob f))).set k none = _
      rw [List.set_set, List.set_set]
    have f1 : μ1 f = some (.lam t) := x2.keep (hx.1.neLam hft) hft
    refine ⟨f, t, w, rfl, f1, hwL, ?_⟩
    rw [g2]
    refine heard_bad (fun Q X z => hrun _ Q X x2 z) hC fun a ha => ?_
    rw [wC_run]
    refine ix0 ⟨x1.new ha, x2.new ha, at_new e1 ha, by rw [List.length_append, hacc]; rfl, fun y hy => ?_⟩
    rcases List.mem_append.mp hy with hy | hy
    · obtain ⟨b, rfl, hb⟩ := hex y hy
      exact ⟨b, rfl, at_new hb ha⟩
    · simp only [List.mem_cons, List.not_mem_nil, or_false] at hy
      subst hy
      exact ⟨a, rfl, mset_same _ _ _⟩
  · rintro acc μ1 ⟨x1, x2, e1, hacc, hex⟩ q hq
    refine h q acc _ (x1.new hq) (x2.new hq) (mset_same _ _ _) (by rw [hacc, hl2]) fun y hy => ?_
    obtain ⟨b, rfl, hb⟩ := hex y hy
    exact ⟨b, rfl, at_new hb hq⟩
/-- [isinstance(caught, C) and repr(caught.value) == repr(value) for caught in told] -/
theorem told_all {isE : Addr → Option Bool} {C : Addr} {b : Bool} {d : D} {i v : Nat} {chk : Mu → Prop} {k : List D → Mu → Prop} {acc : List D} {ρ : Ev} {μ : Mu} {p : Addr} (hE : isE C = some b) (ht : ∀ x ∈ acc, ∃ a, x = .ob a ∧ μ a = some (.exc C d)) (hd : Val μ p d) (hi : i < ρ.length) (hv : ρ[v]? = some (some d)) (hne : v ≠ i)
    (hc : chk μ) (h : k (acc.map fun _ => .bl true) μ) : lcG (CT.one i) wYes (wAndV (wIsX (oneC C) (wVar i)) (wOp gEq (wB gReprX [wVal isE (wVar i)]) (wB gReprX [wVar v]))) chk acc [] ρ μ k := by
  refine lcG_map (fun _ => .bl true) hc (fun x hx => ⟨_, rfl, ?_⟩) h
  obtain ⟨a, rfl, ha⟩ := ht x hx
  have g1 : (ρ.set i (some (D.ob a)))[i]? = some (some (D.ob a)) := by rw [List.getElem?_set_self hi]
  have g2 : (ρ.set i (some (D.ob a)))[v]? = some (some d) := by rw [List.getElem?_set_ne (Ne.symm hne)]; exact hv
  rw [wAndV_run, wIsX_run, wVar_run, g1]
  refine ⟨a, C, d, true, rfl, ha, oneC_same C, ?_⟩
  rw [onBl_bl, if_pos rfl, wOp_run, wB_run, runAll_cons, wVal_run, wVar_run, g1]
  refine ⟨a, C, d, b, rfl, ha, hE, ?_⟩
  rw [runAll_nil, gReprX_run]
  obtain ⟨t, T⟩ := hd.repr
  refine T μ (fun _ _ _ e => e) _ ?_
  rw [wB_run, runAll_cons, wVar_run, g2]
  dsimp only
  rw [runAll_nil, gReprX_run]
  refine T μ (fun _ _ _ e => e) _ ?_
  rw [gEq_run, EqB_str, decide_eq_true rfl]
  exact ⟨rfl, rfl⟩
/-- if not all([isinstance(caught, C) and repr(caught.value) == repr(value) for caught in told]): .. -/
theorem told_check {isE : Addr → Option Bool} {C : Addr} {b : Bool} {d : D} {i v c n : Nat} {A : WS} {E : PD} {acc : List D} {ρ : Ev} {μ0 μ : Mu} {p l : Addr} (hx : PotX n μ0 μ p) (hE : isE C = some b) (hc : ρ[c]? = some (some (.ob l))) (hl : μ l = some (.lst acc)) (hlen : acc.length ≤ 1000) (ht : ∀ x ∈ acc, ∃ a, x = .ob a ∧ μ a = some (.exc C d)) (hd : Val μ p d) (hi : i < ρ.length) (hv : ρ[v]? = some (some d)) (hne : v ≠ i) (hci : c ≠ i)
    (h : ∀ μ', PotX n μ0 μ' p → PotX n μ μ' p → E.nx ρ μ') : (wIf (wNotT (wTB (wB gAll [wLc (wSeqI (wVar c)) (CT.one i) wYes (wAndV (wIsX (oneC C) (wVar i)) (wOp gEq (wB gReprX [wVal isE (wVar i)]) (wB gReprX [wVar v])))]))) A wNext).run E ρ μ := by
  rw [wIf_run, wNotT_run, wTB_run, wB_run, runAll_cons, wLc_run, wSeqI_run, wVar_run, hc]
  dsimp only
  rw [fSeq_ob, hl]
  dsimp only
  have wk : wipeE ρ (CT.one i).slots = ρ.set i none := rfl
  rw [wk]
  refine ⟨small_size (by omega), told_all (d := d) (ρ := ρ.set i none) hE ht hd (by rw [List.length_set]; exact hi) (by rw [List.getElem?_set_ne (Ne.symm hne)]; exact hv) hne hl fun q hq => ?_⟩
  rw [runAll_nil, gAll_run]
  refine ⟨q, acc.map fun _ => true, rfl, by rw [mset_same, List.map_map]; rfl, ?_⟩
  dsimp only
  rw [onBl_bl, show (acc.map fun _ => true).all id = true by simp]
  rw [if_neg (by decide), wNext_run]
  exact h _ (hx.new hq) ((PotX.refl hx.1).new hq)
/-- all([..]) as a value -/
theorem told_value {isE : Addr → Option Bool} {C : Addr} {b : Bool} {d : D} {i v c n : Nat} {Q : PQ} {X : XQ} {acc : List D} {ρ : Ev} {μ0 μ : Mu} {p l : Addr} (hx : PotX n μ0 μ p) (hE : isE C = some b) (hc : ρ[c]? = some (some (.ob l))) (hl : μ l = some (.lst acc)) (hlen : acc.length ≤ 1000) (ht : ∀ x ∈ acc, ∃ a, x = .ob a ∧ μ a = some (.exc C d)) (hd : Val μ p d) (hi : i < ρ.length) (hv : ρ[v]? = some (some d)) (hne : v ≠ i) (hci : c ≠ i)
    (h : ∀ μ', PotX n μ0 μ' p → PotX n μ μ' p → Q (.bl true) μ') : (wB gAll [wLc (wSeqI (wVar c)) (CT.one i) wYes (wAndV (wIsX (oneC C) (wVar i)) (wOp gEq (wB gReprX [wVal isE (wVar i)]) (wB gReprX [wVar v])))]).run ρ μ Q X := by
  rw [wB_run, runAll_cons, wLc_run, wSeqI_run, wVar_run, hc]
  dsimp only
  rw [fSeq_ob, hl]
  dsimp only
  have wk : wipeE ρ (CT.one i).slots = ρ.set i none := rfl
  rw [wk]
  refine ⟨small_size (by omega), told_all (d := d) (ρ := ρ.set i none) hE ht hd (by rw [List.length_set]; exact hi) (by rw [List.getElem?_set_ne (Ne.symm hne)]; exact hv) hne hl fun q hq => ?_⟩
  rw [runAll_nil, gAll_run]
  refine ⟨q, acc.map fun _ => true, rfl, by rw [mset_same, List.map_map]; rfl, ?_⟩
  rw [show (acc.map fun _ => true).all id = true by simp]
  exact h _ (hx.new hq) ((PotX.refl hx.1).new hq)
/-- the list at l holds m errors, of the class C, of the value d -/
def Told (μ : Mu) (C : Addr) (d : D) (l : Addr) (m : Nat) : Prop := ∃ acc, μ l = some (.lst acc) ∧ acc.length = m ∧ ∀ x ∈ acc, ∃ a, x = .ob a ∧ μ a = some (.exc C d)
/-- the list at l holds m things -/
def Some1 (μ : Mu) (l : Addr) (m : Nat) : Prop := ∃ acc, μ l = some (.lst acc) ∧ acc.length = m
section
variable {isSq : Addr → Option Bool} {L : List (LamT × WE)} {P : Addr} {t : LamT} {w : WE} {ρ : Ev} {μ0 μ : Mu} {n m i : Nat} {p C l : Addr} {d r : D} {E : PD}
/-- told = [_law_heard(lambda: ..)[0]] -/
theorem told_new_bad (hx : PotX n μ0 μ p) (hP : μ P = some (.tab t.q)) (hw : (t, w) ∈ L) (hC : isSq C = some true) (h : ∀ μ' (Q : PQ) (X : XQ), PotX n μ μ' p → X C d μ' → w.run ρ μ' Q X)
    (q : ∀ l μ', μ0 l = none → l ≠ p → PotX n μ0 μ' p → PotX n μ μ' p → Told μ' C d l 1 → E.nx (ρ.set i (some (.ob l))) μ') : (wSet i (wLst [wOp gIx (wHeard isSq [] L (wLam P t)) (wC (.int 0))])).run E ρ μ := by
  rw [wSet_run, wLst_run, runAll_cons]
  refine heard1_bad hx hP hw hC h fun a μ1 x1 x2 e => ?_
  rw [runAll_nil]
  intro l hl
  obtain ⟨f1, f2⟩ := x1.free hl
  refine q l _ f1 f2 (x1.new hl) (x2.new hl) ⟨[.ob a], mset_same _ _ _, rfl, fun x hx => ?_⟩
  simp only [List.mem_cons, List.not_mem_nil, or_false] at hx
  subst hx
  exact ⟨a, rfl, at_new e hl⟩
theorem told_new_good (hx : PotX n μ0 μ p) (hP : μ P = some (.tab t.q)) (hw : (t, w) ∈ L) (h : ∀ μ' (Q : PQ) (X : XQ), PotX n μ μ' p → Q r μ' → w.run ρ μ' Q X)
    (q : ∀ l μ', μ0 l = none → l ≠ p → PotX n μ0 μ' p → PotX n μ μ' p → Some1 μ' l 1 → E.nx (ρ.set i (some (.ob l))) μ') : (wSet i (wLst [wOp gIx (wHeard isSq [] L (wLam P t)) (wC (.int 0))])).run E ρ μ := by
  rw [wSet_run, wLst_run, runAll_cons]
  refine heard1_good hx hP hw h fun μ1 x1 x2 => ?_
  rw [runAll_nil]
  intro l hl
  obtain ⟨f1, f2⟩ := x1.free hl
  exact q l _ f1 f2 (x1.new hl) (x2.new hl) ⟨[.non], mset_same _ _ _, rfl⟩
/-- told.append(_law_heard(lambda: ..)[0]) -/
theorem told_add_bad (hx : PotX n μ0 μ p) (hl0 : μ0 l = none) (hlp : l ≠ p) (ht : Told μ C d l m) (hi : ρ[i]? = some (some (.ob l))) (hm : m < 1000) (hP : μ P = some (.tab t.q)) (hw : (t, w) ∈ L) (hC : isSq C = some true) (h : ∀ μ' (Q : PQ) (X : XQ), PotX n μ μ' p → X C d μ' → w.run ρ μ' Q X)
    (q : ∀ μ', PotX n μ0 μ' p → Told μ' C d l (m + 1) → E.nx ρ μ') : (wExpr (wMt gAppend (wVar i) [wOp gIx (wHeard isSq [] L (wLam P t)) (wC (.int 0))])).run E ρ μ := by
  obtain ⟨acc, e, hlen, hex⟩ := ht
  rw [wExpr_run, wMt_run, wVar_run, hi]
  refine onLst_mk e ?_
  rw [runAll_cons]
  refine heard1_bad hx hP hw hC h fun a μ1 x1 x2 ea => ?_
  rw [runAll_nil]
  have e1 : μ1 l = some (.lst acc) := x2.keep hlp e
  refine onLst_mk e1 ?_
  rw [gAppend_run, fAppend_run]
  refine ⟨Nat.lt_of_lt_of_le (by rw [hlen]; exact hm) (small_size (by decide)), q _ (x1.set hl0 hlp) ⟨acc ++ [.ob a], mset_same _ _ _, by rw [List.length_append, hlen]; rfl, fun x hm' => ?_⟩⟩
  rcases List.mem_append.mp hm' with hm' | hm'
  · obtain ⟨b, rfl, hb⟩ := hex x hm'
    have hb1 := x2.keep (hx.1.neExc hb) hb
    exact ⟨b, rfl, by rw [mset_ne (fun z => by rw [z, e1] at hb1; cases hb1)]; exact hb1⟩
  · simp only [List.mem_cons, List.not_mem_nil, or_false] at hm'
    subst hm'
    exact ⟨a, rfl, by rw [mset_ne (fun z => by rw [z, e1] at ea; cases ea)]; exact ea⟩
theorem told_add_good (hx : PotX n μ0 μ p) (hl0 : μ0 l = none) (hlp : l ≠ p) (ht : Some1 μ l m) (hi : ρ[i]? = some (some (.ob l))) (hm : m < 1000) (hP : μ P = some (.tab t.q)) (hw : (t, w) ∈ L) (h : ∀ μ' (Q : PQ) (X : XQ), PotX n μ μ' p → Q r μ' → w.run ρ μ' Q X)
    (q : ∀ μ', PotX n μ0 μ' p → Some1 μ' l (m + 1) → E.nx ρ μ') : (wExpr (wMt gAppend (wVar i) [wOp gIx (wHeard isSq [] L (wLam P t)) (wC (.int 0))])).run E ρ μ := by
  obtain ⟨acc, e, hlen⟩ := ht
  rw [wExpr_run, wMt_run, wVar_run, hi]
  refine onLst_mk e ?_
  rw [runAll_cons]
  refine heard1_good hx hP hw h fun μ1 x1 x2 => ?_
  rw [runAll_nil]
  have e1 : μ1 l = some (.lst acc) := x2.keep hlp e
  refine onLst_mk e1 ?_
  rw [gAppend_run, fAppend_run]
  exact ⟨Nat.lt_of_lt_of_le (by rw [hlen]; exact hm) (small_size (by decide)), q _ (x1.set hl0 hlp) ⟨acc ++ [.non], mset_same _ _ _, by rw [List.length_append, hlen]; rfl⟩⟩
end
end Sq

/-! Values that are tried, at any depth; values that are bent. -/
namespace Sq
open PySem PySem.Spec PyProof.Rows L2
/-- none, a bool, a small int, a short text -/
inductive Lf : D → Prop
  | non : Lf .non
  | bl (b : Bool) : Lf (.bl b)
  | int {i : Int} : smallI i → Lf (.int i)
  | str {x : Str} : PyData.strOk x = true → x.length ≤ 60 → Lf (.str x)
/-- such, in tuples up to a depth -/
def Pu : Nat → D → Prop
  | 0, d => Lf d
  | k + 1, d => Lf d ∨ ∃ ds, d = .tup ds ∧ ds.length ≤ 25 ∧ ∀ x ∈ ds, Pu k x
theorem Lf.sm {d : D} (h : Lf d) : SmD 0 602 d := by
  cases h with
  | non => exact SmD.non.mono (by decide) (by decide)
  | bl b => exact (SmD.bl b).mono (by decide) (by decide)
  | int h => exact (SmD.int h).mono (by decide) (by decide)
  | str h h2 => exact SmD.str h h2
theorem Lf.pu {d : D} (h : Lf d) : ∀ k, Pu k d
  | 0 => h
  | _ + 1 => .inl h
theorem Lf.notTup {d : D} (h : Lf d) : isTup d = false := by cases h <;> rfl
theorem Pu.tup {k : Nat} {ds : List D} (h : ∀ x ∈ ds, Pu k x) (hl : ds.length ≤ 25) : Pu (k + 1) (.tup ds) := .inr ⟨ds, rfl, hl, h⟩
theorem Pu.up : ∀ {k : Nat} {d : D}, Pu k d → Pu (k + 1) d
  | 0, _, h => .inl h
  | _ + 1, _, .inl h => .inl h
  | _ + 1, _, .inr ⟨ds, e, hl, h⟩ => .inr ⟨ds, e, hl, fun x hx => (h x hx).up⟩
def puN : Nat → Nat
  | 0 => 602
  | k + 1 => (puN k + 2) * 25 + 3
theorem Pu.sm : ∀ {k : Nat} {d : D}, Pu k d → SmD k (puN k) d
  | 0, _, h => Lf.sm h
  | k + 1, _, .inl h => (Lf.sm h).mono (Nat.zero_le _) (by
      have : ∀ n, 602 ≤ puN n := fun n => by
        induction n with
        | zero => exact Nat.le_refl _
        | succ n ih => unfold puN; omega
      exact this _)
  | k + 1, _, .inr ⟨ds, e, hl, h⟩ => by
    subst e
    refine (smd_tup fun x hx => (h x hx).sm).mono (Nat.le_refl _) ?_
    show _ ≤ (puN k + 2) * 25 + 3
    have := Nat.mul_le_mul_left (puN k + 2) hl
    omega
theorem Pu.pure {k : Nat} {d : D} (h : Pu k d) : pureD d = true := h.sm.pure
/-- a list or a dict of the store, not the pot -/
inductive Ob1 (μ : Mu) (p : Addr) : D → Prop
  | lst {a : Addr} {ds : List D} : μ a = some (.lst ds) → a ≠ p → Ob1 μ p (.ob a)
  | dct {a : Addr} {ks : List Key} {ds : List D} : μ a = some (.dct ks ds) → a ≠ p → Ob1 μ p (.ob a)
theorem Ob1.keep {μ μ' : Mu} {p : Addr} {d : D} (h : Ob1 μ p d) (k : ∀ b o, b ≠ p → μ b = some o → μ' b = some o) : Ob1 μ' p d := by
  cases h with
  | lst e n => exact .lst (k _ _ n e) n
  | dct e n => exact .dct (k _ _ n e) n
theorem Ob1.seen {μ : Mu} {p : Addr} {d : D} (h : Ob1 μ p d) : Seen μ d := by
  cases h with
  | lst e n => exact fun t => ⟨_, by unfold isA; dsimp only; rw [e]⟩
  | dct e n => exact fun t => ⟨_, by unfold isA; dsimp only; rw [e]⟩
/-- a value that is tried: at the top and n deep there may be lists and dicts -/
def VP (μ : Mu) (p : Addr) : Nat → D → Prop
  | 0, d => Pu 2 d
  | n + 1, d => Lf d ∨ Ob1 μ p d ∨ ∃ ds, d = .tup ds ∧ ds.length ≤ 25 ∧ ∀ x ∈ ds, VP μ p n x
section
variable {μ μ' : Mu} {p : Addr}
theorem Lf.vp {d : D} (h : Lf d) : ∀ n, VP μ p n d
  | 0 => .inl h
  | _ + 1 => .inl h
theorem VP.tup {n : Nat} {ds : List D} (h : ∀ x ∈ ds, VP μ p n x) (hl : ds.length ≤ 25) : VP μ p (n + 1) (.tup ds) := .inr (.inr ⟨ds, rfl, hl, h⟩)
theorem VP.up : ∀ {n : Nat} {d : D}, VP μ p n d → VP μ p (n + 1) d
  | 0, _, .inl h => .inl h
  | 0, _, .inr ⟨ds, e, hl, h⟩ => .inr (.inr ⟨ds, e, hl, fun x hx => (h x hx).up⟩)
  | _ + 1, _, .inl h => .inl h
  | _ + 1, _, .inr (.inl h) => .inr (.inl h)
  | _ + 1, _, .inr (.inr ⟨ds, e, hl, h⟩) => .inr (.inr ⟨ds, e, hl, fun x hx => (h x hx).up⟩)
theorem VP.mono {n m : Nat} {d : D} (h : VP μ p n d) (hn : n ≤ m) : VP μ p m d := by
  induction m with
  | zero => obtain rfl : n = 0 := by omega
            exact h
  | succ m ih =>
    rcases Nat.lt_or_ge n (m + 1) with g | g
    · exact (ih (by omega)).up
    · obtain rfl : n = m + 1 := by omega
      exact h
theorem VP.keep (k : ∀ b o, b ≠ p → μ b = some o → μ' b = some o) : ∀ {n : Nat} {d : D}, VP μ p n d → VP μ' p n d
  | 0, _, h => h
  | _ + 1, _, .inl h => .inl h
  | _ + 1, _, .inr (.inl h) => .inr (.inl (h.keep k))
  | _ + 1, _, .inr (.inr ⟨ds, e, hl, h⟩) => .inr (.inr ⟨ds, e, hl, fun x hx => VP.keep k (h x hx)⟩)
theorem VP.seen : ∀ {n : Nat} {d : D}, VP μ p n d → Seen μ d
  | 0, _, h => seen_pure h.pure
  | _ + 1, _, .inl h => seen_pure h.sm.pure
  | _ + 1, _, .inr (.inl h) => h.seen
  | _ + 1, _, .inr (.inr ⟨_, e, _, _⟩) => fun t => by subst e; exact ⟨_, rfl⟩
theorem VP.parts {n : Nat} {ds : List D} (h : VP μ p (n + 1) (.tup ds)) : ds.length ≤ 25 ∧ ∀ x ∈ ds, VP μ p n x := by
  rcases h with h | h | ⟨es, e, hl, h⟩
  · exact absurd h.notTup (fun z => nomatch z)
  · cases h
  · cases e; exact ⟨hl, h⟩
theorem VP.parts0 {ds : List D} (h : VP μ p 0 (.tup ds)) : ds.length ≤ 25 ∧ ∀ x ∈ ds, Pu 1 x := by
  rcases h with h | ⟨es, e, hl, h⟩
  · exact absurd h.notTup (fun z => nomatch z)
  · cases e; exact ⟨hl, h⟩
theorem VP.seen2 {n : Nat} {d : D} (h : VP μ p n d) : Seen2 μ d := by
  refine ⟨h.seen, fun ds e => ?_⟩
  subst e
  have := h.up.parts
  exact ⟨by omega, fun x hx => (this.2 x hx).seen⟩
end
/-- a text that may be bent -/
def StrG (x : Str) : Bool := PyData.strOk x && decide (x.length ≤ 30) && PyData.strOk (Txt.upper x) && decide ((Txt.upper x).length ≤ 60) && PyData.strOk (L2.cutS x (some 1) none) && decide ((L2.cutS x (some 1) none).length ≤ 30) && PyData.strOk (x ++ "a") && decide ((x ++ "a").length ≤ 31)
/-- data that may be bent, less than n deep -/
def Bn : Nat → D → Prop
  | 0, _ => False
  | n + 1, d => (∃ i, d = .int i ∧ -10 ^ 20 ≤ i ∧ i ≤ 10 ^ 20) ∨ (∃ x, d = .str x ∧ StrG x = true) ∨ (∃ b, d = .bl b) ∨ ∃ ds, d = .tup ds ∧ ds ≠ [] ∧ ds.length ≤ 10 ∧ ∀ x ∈ ds, Bn n x
theorem StrG.lf {x : Str} (h : StrG x = true) : Lf (.str x) ∧ Lf (.str (Txt.upper x)) ∧ Lf (.str (L2.cutS x (some 1) none)) ∧ Lf (.str (x ++ "a")) := by
  unfold StrG at h
  simp only [Bool.and_eq_true, decide_eq_true_eq] at h
  obtain ⟨⟨⟨⟨⟨⟨⟨h1, h2⟩, h3⟩, h4⟩, h5⟩, h6⟩, h7⟩, h8⟩ := h
  exact ⟨.str h1 (by omega), .str h3 h4, .str h5 (by omega), .str h7 (by omega)⟩
theorem StrG.len {x : Str} (h : StrG x = true) : x.length ≤ 30 := by
  unfold StrG at h
  simp only [Bool.and_eq_true, decide_eq_true_eq] at h
  exact h.1.1.1.1.1.1.2
theorem lf_int {i : Int} (h1 : -10 ^ 30 < i) (h2 : i < 10 ^ 30) : Lf (.int i) := .int ⟨h1, h2⟩
theorem Bn.vp {μ : Mu} {p : Addr} : ∀ {n : Nat} {d : D}, Bn (n + 1) d → VP μ p n d
  | n, _, .inl ⟨i, e, h1, h2⟩ => e ▸ (lf_int (by omega) (by omega)).vp n
  | n, _, .inr (.inl ⟨x, e, h⟩) => e ▸ (StrG.lf h).1.vp n
  | n, _, .inr (.inr (.inl ⟨b, e⟩)) => e ▸ (Lf.bl b).vp n
  | 0, _, .inr (.inr (.inr ⟨ds, e, h1, h2, h3⟩)) => by
    cases ds with
    | nil => exact absurd rfl h1
    | cons d ds => exact (h3 d List.mem_cons_self).elim
  | n + 1, _, .inr (.inr (.inr ⟨ds, e, h1, h2, h3⟩)) => by
    subst e
    exact .tup (fun x hx => (h3 x hx).vp) (by omega)
/-- the rest of such a tuple -/
theorem bn_part {μ : Mu} {p : Addr} {n : Nat} {ds : List D} (h : ∀ x ∈ ds, Bn (n + 1) x) (hl : ds.length ≤ 10) (lo hi : Option Int) : (cutD ds lo hi).length ≤ 10 ∧ ∀ x ∈ cutD ds lo hi, VP μ p n x := by
  refine ⟨?_, fun x hx => (h x (List.mem_of_mem_drop (List.mem_of_mem_take hx))).vp⟩
  unfold cutD
  rw [List.length_take, List.length_drop]
  omega
theorem bn_none {ds : List D} (h : ∀ x ∈ ds, Bn 0 x) : ds = [] := by
  cases ds with
  | nil => rfl
  | cons d ds => exact (h d List.mem_cons_self).elim
/-- turn and least are such texts -/
theorem strG_turn : StrG "turn" = true := by decide +kernel
theorem strG_least : StrG "least" = true := by decide +kernel
theorem bn_int {i : Int} (n : Nat) (h1 : -10 ^ 20 ≤ i) (h2 : i ≤ 10 ^ 20) : Bn (n + 1) (.int i) := .inl ⟨i, rfl, h1, h2⟩
theorem bn_str {x : Str} (n : Nat) (h : StrG x = true) : Bn (n + 1) (.str x) := .inr (.inl ⟨x, rfl, h⟩)
theorem bn_tup {n : Nat} {ds : List D} (h : ∀ x ∈ ds, Bn n x) (h1 : ds ≠ []) (h2 : ds.length ≤ 10) : Bn (n + 1) (.tup ds) := .inr (.inr (.inr ⟨ds, rfl, h1, h2, h⟩))
end Sq

/-! k09: the promises. -/
namespace K9
open PySem PySem.Spec PyProof.Rows L2 Sq
/-- the addresses of the errors' classes, of the table of the def that makes lambdas -/
structure Ad where
  cBadForm : Addr
  cUnlike : Addr
  cBadSize : Addr
  P_law_right : Addr
def Ad.isE (Z : Ad) : Addr → Option Bool := fun x => if x = Z.cBadForm ∨ x = Z.cUnlike ∨ x = Z.cBadSize then some true else none
def Ad.isSq (Z : Ad) : Addr → Option Bool := Z.isE
theorem Ad.eForm (Z : Ad) : Z.isE Z.cBadForm = some true := if_pos (.inl rfl)
theorem Ad.eUnlike (Z : Ad) : Z.isE Z.cUnlike = some true := if_pos (.inr (.inl rfl))
theorem Ad.eSize (Z : Ad) : Z.isE Z.cBadSize = some true := if_pos (.inr (.inr rfl))
theorem Ad.isE_inv {Z : Ad} {C : Addr} {b : Bool} (h : Z.isE C = some b) : b = true ∧ (C = Z.cBadForm ∨ C = Z.cUnlike ∨ C = Z.cBadSize) := by
  unfold Ad.isE at h
  split at h
  · cases h; exact ⟨rfl, by assumption⟩
  · cases h
def val (a b c x y : Int) : Int := a * x * x + b * x * y + c * y * y
def mid (a b c p q r s : Int) : Int := 2 * a * p * q + b * (p * s + q * r) + 2 * c * r * s
def Bd (a b c : Int) : Prop := -1000000 ≤ a ∧ a ≤ 1000000 ∧ -1000000 ≤ b ∧ b ≤ 1000000 ∧ -1000000 ≤ c ∧ c ≤ 1000000
instance (a b c : Int) : Decidable (Bd a b c) := by unfold Bd; infer_instance
def Pos (a b c : Int) : Prop := 0 < a ∧ b * b < 4 * a * c
def Red (a b c : Int) : Prop := -a < b ∧ b ≤ a ∧ a ≤ c ∧ (0 ≤ b ∨ a ≠ c)
instance (a b c : Int) : Decidable (Red a b c) := by unfold Red; infer_instance
/-- the turn p q r s leads from a b c to A B C -/
structure To (a b c A B C p q r s : Int) : Prop where
  det : p * s - q * r = 1
  eA : val a b c p r = A
  eB : mid a b c p q r s = B
  eC : val a b c q s = C
structure Lst (a b c A B C p q r s : Int) : Prop where
  to : To a b c A B C p q r s
  red : Red A B C
abbrev fmB : D → Bool := intsB 3 1000000
def Lt (x : Int) : Prop := -1000000000000 ≤ x ∧ x ≤ 1000000000000
def detB : D → Bool
  | .tup [.int p, .int q, .int r, .int s] => decide (p * s - q * r = 1)
  | _ => false
def tnB (d : D) : Bool := intsB 4 1000000000000 d && detB d
def Tnb (p q r s : Int) : Prop := Lt p ∧ Lt q ∧ Lt r ∧ Lt s ∧ p * s - q * r = 1
def Root (n r : Int) : Prop := 0 ≤ r ∧ r * r ≤ n ∧ n < (r + 1) * (r + 1)
def IsSq (n : Int) : Prop := ∃ r : Int, 0 ≤ r ∧ r * r = n
def SqB (n : Int) (b : Bool) : Prop := b = true ↔ IsSq n
def Kind (a b c : Int) (k : Str) : Prop := (b * b - 4 * a * c < 0 ∧ k = if 0 < a then "above" else "below") ∨ (0 ≤ b * b - 4 * a * c ∧ ((IsSq (b * b - 4 * a * c) ∧ k = "split") ∨ (¬ IsSq (b * b - 4 * a * c) ∧ k = "mixed")))
def gcd3 (a b c : Int) : Int := Int.gcd (Int.gcd a b : Int) c
/-- an int of any size that is shown -/
def Wd (x : Int) : Prop := x.natAbs < 2 ^ 1920
theorem Wd.mul {x y : Int} (h : Wd x) (k : Wd y) : IntMulOk x y := mulOk_w (a := 1920) (b := 1920) h k (by decide) (by decide) (by decide)
def Small (x : Int) : Prop := -1125899906842624 < x ∧ x < 1125899906842624
def Tinyb (x : Int) : Prop := -5000 ≤ x ∧ x ≤ 5000
/-- the ints of values are less than this -/
def Big (x : Int) : Prop := -10 ^ 31 < x ∧ x < 10 ^ 31
def spX (P : List D → Mu → PQ → XQ → Prop) (m : ∀ {ds μ Q Q' X X'}, (∀ d μ', Q d μ' → Q' d μ') → (∀ C d μ', X C d μ' → X' C d μ') → P ds μ Q X → P ds μ Q' X') : SpD := ⟨P, m⟩
abbrev Tn := Int × Int × Int × Int
def tnD (t : Tn) : D := t4 t.1 t.2.1 t.2.2.1 t.2.2.2
/-- the own turns of a least one, as they are found -/
def ownL (a b c : Int) : List Tn := [(1, 0, 0, 1), (-1, 0, 0, -1)] ++ (if b = 0 ∧ a = c then [(0, -1, 1, 0), (0, 1, -1, 0)] else []) ++ (if a = b ∧ b = c then [(0, -1, 1, 1), (0, 1, -1, -1), (1, 1, -1, 0), (-1, -1, 1, 0)] else [])
def thenT (t u : Tn) : Tn := (t.1 * u.1 + t.2.1 * u.2.2.1, t.1 * u.2.1 + t.2.1 * u.2.2.2, t.2.2.1 * u.1 + t.2.2.2 * u.2.2.1, t.2.2.1 * u.2.1 + t.2.2.2 * u.2.2.2)
def backT (t : Tn) : Tn := (t.2.2.2, -t.2.1, -t.2.2.1, t.1)
def sortT (ts : List Tn) : List D := (ts.map tnD).mergeSort leD
def viaT (t : Tn) (us : List Tn) : List Tn := us.map fun u => thenT (thenT t u) (backT t)
/-- what same_above tells of the least ones -/
def sameD (A B C p q r s A' B' C' p' q' r' s' : Int) : D :=
  if A = A' ∧ B = B' ∧ C = C' then .tup [.str "turn", t4 (p * s' + q * -r') (p * -q' + q * p') (r * s' + s * -r') (r * -q' + s * p')] else .tup [.str "least", f3 A B C, f3 A' B' C']
def Good (d : D) : Prop := ∃ a b c, d = f3 a b c ∧ Bd a b c ∧ Pos a b c
/-- which error of a form that is none above nought -/
def Bad (Z : Ad) (X : XQ) (d : D) (μ : Mu) : Prop := (fmB d = false → X Z.cBadForm d μ) ∧ ∀ a b c, d = f3 a b c → Bd a b c → ¬ Pos a b c → X Z.cUnlike d μ
theorem Bad.mono {Z : Ad} {X X' : XQ} {d : D} {μ : Mu} (h : ∀ C d μ', X C d μ' → X' C d μ') (b : Bad Z X d μ) : Bad Z X' d μ := ⟨fun z => h _ _ _ (b.1 z), fun a b' c e1 e2 e3 => h _ _ _ (b.2 a b' c e1 e2 e3)⟩
/-- what is right as least form and turn -/
def LeastDue (a b c : Int) (v : D) : Prop := ∃ A B C p q r s, v = .tup [f3 A B C, t4 p q r s] ∧ Lst a b c A B C p q r s
def LstOf (a b c A B C : Int) : Prop := ∃ p q r s, Lst a b c A B C p q r s
def SameDue (a b c d e f : Int) (v : D) : Prop := (∃ p q r s, v = .tup [.str "turn", t4 p q r s] ∧ To a b c d e f p q r s) ∨
  ∃ A B C A' B' C', v = .tup [.str "least", f3 A B C, f3 A' B' C'] ∧ LstOf a b c A B C ∧ LstOf d e f A' B' C' ∧ ¬(A = A' ∧ B = B' ∧ C = C')
/-- a tried value -/
def Tr (n : Nat) (μ : Mu) (v : D) : Prop := ∃ p, VP μ p n v
/-- the least ones by a up to n -/
def rowAt (w a : Int) (i : Nat) : List (Int × Int × Int) := if ((-a + 1 + (i : Nat)) * (-a + 1 + (i : Nat)) - w).fmod (4 * a) = 0 ∧ Red a (-a + 1 + (i : Nat)) (((-a + 1 + (i : Nat)) * (-a + 1 + (i : Nat)) - w).fdiv (4 * a)) then [(a, -a + 1 + (i : Nat), ((-a + 1 + (i : Nat)) * (-a + 1 + (i : Nat)) - w).fdiv (4 * a))] else []
def lstRow (w a : Int) (n : Nat) : List (Int × Int × Int) := (List.range n).flatMap (rowAt w a)
def lstL (w : Int) (n : Nat) : List (Int × Int × Int) := (List.range n).flatMap fun i => lstRow w ((i : Nat) + 1) (2 * (i + 1))
def fD (f : Int × Int × Int) : D := f3 f.1 f.2.1 f.2.2
def sortF (L : List (Int × Int × Int)) : List D := (L.map fD).mergeSort leD
def fOne (d : D) : Bool := match d with | .tup [.int a, .int b, .int c] => decide (gcd3 a b c = 1) | _ => false
/-- n is as far as there are such forms -/
def Far (w : Int) (n : Nat) : Prop := ∀ m : Nat, n ≤ m → lstL w m = lstL w n
def Sz (w : Int) : Prop := -100000 ≤ w ∧ w ≤ -3
section
variable (Z : Ad)
def Sis_int : SpD := spQ (fun ds μ Q => ∃ d lo hi, ds = [d, .int lo, .int hi] ∧ Seen μ d ∧ Q (.bl (inB lo hi d)) μ) fun hQ ⟨d, lo, hi, h1, h2, h3⟩ => ⟨d, lo, hi, h1, h2, hQ _ _ h3⟩
def Sis_whole : SpD := spQ (fun ds μ Q => ∃ d, ds = [d] ∧ Seen μ d ∧ Q (.bl (isI d)) μ) fun hQ ⟨d, h1, h2, h3⟩ => ⟨d, h1, h2, hQ _ _ h3⟩
def Sare_wholes : SpD := spQ (fun ds μ Q => ∃ d, ds = [d] ∧ Seen2 μ d ∧ Q (.bl (wholesB d)) μ) fun hQ ⟨d, h1, h2, h3⟩ => ⟨d, h1, h2, hQ _ _ h3⟩
def Sare_ints : SpD := spQ (fun ds μ Q => ∃ d k m, ds = [d, .int k, .int m] ∧ Seen2 μ d ∧ Q (.bl (intsB k m d)) μ) fun hQ ⟨d, k, m, h1, h2, h3⟩ => ⟨d, k, m, h1, h2, hQ _ _ h3⟩
/-- a tuple of so many that begins with a text -/
def toldB : D → Bool
  | .tup (.str _ :: ds) => decide (ds.length = 1 ∨ ds.length = 2)
  | _ => false
def Sis_told : SpD := spQ (fun ds μ Q => ∃ d, ds = [d, t2 2 3] ∧ Seen2 μ d ∧ Q (.bl (toldB d)) μ) fun hQ ⟨d, h1, h2, h3⟩ => ⟨d, h1, h2, hQ _ _ h3⟩
def Scommon_int : SpD := spR fun ds r => ∃ i j : Int, ds = [.int i, .int j] ∧ r = .int (Int.gcd i j)
def Stold_root : SpD := spQ (fun ds μ Q => ∃ n, ds = [.int n] ∧ 0 ≤ n ∧ n < 1152921504606846976 ∧ ∀ r, Root n r → Q (.int r) μ) fun hQ ⟨n, h1, h2, h3, h4⟩ => ⟨n, h1, h2, h3, fun r a => hQ _ _ (h4 r a)⟩
def Sis_square : SpD := spQ (fun ds μ Q => ∃ n, ds = [.int n] ∧ n < 1152921504606846976 ∧ ∀ b, SqB n b → Q (.bl b) μ) fun hQ ⟨n, h1, h3, h4⟩ => ⟨n, h1, h3, fun r a => hQ _ _ (h4 r a)⟩
def Sis_form : SpD := spQ (fun ds μ Q => ∃ d, ds = [d] ∧ Seen2 μ d ∧ Q (.bl (fmB d)) μ) fun hQ ⟨d, h1, h2, h3⟩ => ⟨d, h1, h2, hQ _ _ h3⟩
def Slook_at_form : SpD := spX (fun ds μ Q X => ∃ d, ds = [d] ∧ Seen2 μ d ∧ (fmB d = true → Q .non μ) ∧ (fmB d = false → X Z.cBadForm d μ)) fun hQ hX ⟨d, h1, h2, h3, h4⟩ => ⟨d, h1, h2, fun z => hQ _ _ (h3 z), fun z => hX _ _ _ (h4 z)⟩
def Stold_size : SpD := spR fun ds r => ∃ a b c, ds = [f3 a b c] ∧ B64 b ∧ B64 c ∧ r = .int (b * b - 4 * a * c)
def Stold_value : SpD := spR fun ds r => ∃ a b c x y, ds = [f3 a b c, .int x, .int y] ∧ B64 x ∧ B64 y ∧ r = .int (val a b c x y)
def Stold_kind : SpD := spQ (fun ds μ Q => ∃ a b c, ds = [f3 a b c] ∧ Bd a b c ∧ ∀ k, Kind a b c k → Q (.str k) μ) fun hQ ⟨a, b, c, h1, h2, h3⟩ => ⟨a, b, c, h1, h2, fun k q => hQ _ _ (h3 k q)⟩
def Sis_turn : SpD := spQ (fun ds μ Q => ∃ d, ds = [d] ∧ Seen2 μ d ∧ Q (.bl (tnB d)) μ) fun hQ ⟨d, h1, h2, h3⟩ => ⟨d, h1, h2, hQ _ _ h3⟩
def Stold_turned : SpD := spR fun ds r => ∃ a b c p q u v, ds = [f3 a b c, t4 p q u v] ∧ B64 b ∧ B64 p ∧ B64 q ∧ B64 u ∧ B64 v ∧ r = f3 (val a b c p u) (mid a b c p q u v) (val a b c q v)
def Stold_then : SpD := spR fun ds r => ∃ p q u v e f g h, ds = [t4 p q u v, t4 e f g h] ∧ ((B64 p ∧ B64 q ∧ B64 u ∧ B64 v) ∨ (B64 e ∧ B64 f ∧ B64 g ∧ B64 h)) ∧ r = t4 (p * e + q * g) (p * f + q * h) (u * e + v * g) (u * f + v * h)
def Stold_back : SpD := spR fun ds r => ∃ p q u v, ds = [t4 p q u v] ∧ r = t4 v (-q) (-u) p
/-- of a form above nought: what R says, else the errors -/
def spA (R : Int → Int → Int → PQ → Mu → Prop) (m : ∀ {a b c Q Q' μ}, (∀ d μ', Q d μ' → Q' d μ') → R a b c Q μ → R a b c Q' μ) : SpD :=
  spX (fun ds μ Q X => ∃ d, ds = [d] ∧ Seen2 μ d ∧ Bad Z X d μ ∧ ∀ a b c, d = f3 a b c → Bd a b c → Pos a b c → R a b c Q μ)
  fun hQ hX ⟨d, h1, h2, h3, h4⟩ => ⟨d, h1, h2, h3.mono hX, fun a b c e1 e2 e3 => m hQ (h4 a b c e1 e2 e3)⟩
def Slook_at_above : SpD := spA Z (fun a b c Q μ => Q .non μ) fun hQ h => hQ _ _ h
def Sis_least : SpD := spR fun ds r => ∃ a b c, ds = [f3 a b c] ∧ r = .bl (decide (Red a b c))
def Stold_least : SpD := spQ (fun ds μ Q => ∃ a b c, ds = [f3 a b c] ∧ Bd a b c ∧ Pos a b c ∧ ∀ A B C p q r s, Lst a b c A B C p q r s → Q (.tup [f3 A B C, t4 p q r s]) μ) fun hQ ⟨a, b, c, h1, h2, h3, h4⟩ => ⟨a, b, c, h1, h2, h3, fun A B C p q r s h => hQ _ _ (h4 A B C p q r s h)⟩
def Sleast_form : SpD := spA Z (fun a b c Q μ => ∀ A B C p q r s, Lst a b c A B C p q r s → Q (.tup [f3 A B C, t4 p q r s]) μ) fun hQ h A B C p q r s k => hQ _ _ (h A B C p q r s k)
def Sshows_least : SpD := spX (fun ds μ Q X => ∃ d v, ds = [d, v] ∧ Seen2 μ d ∧ Bad Z X d μ ∧ ∀ a b c, d = f3 a b c → Bd a b c → Pos a b c → Tr 2 μ v ∧ ∀ k : Bool, (k = true ↔ LeastDue a b c v) → Q (.bl k) μ)
  fun hQ hX ⟨d, v, h1, h2, h3, h4⟩ => ⟨d, v, h1, h2, h3.mono hX, fun a b c e1 e2 e3 => ⟨(h4 a b c e1 e2 e3).1, fun k z => hQ _ _ ((h4 a b c e1 e2 e3).2 k z)⟩⟩
def Sis_same_tuple : SpD := spQ (fun ds μ Q => ∃ v a b c, ds = [v, f3 a b c] ∧ Tr 1 μ v ∧ ∀ k : Bool, (k = true ↔ v = f3 a b c) → Q (.bl k) μ) fun hQ ⟨v, a, b, c, h1, h2, h3⟩ => ⟨v, a, b, c, h1, h2, fun k z => hQ _ _ (h3 k z)⟩
def Slook_at_two : SpD := spX (fun ds μ Q X => ∃ d e, ds = [d, e] ∧ Seen2 μ d ∧ Seen2 μ e ∧ Bad Z X d μ ∧ (Good d → Bad Z X e μ) ∧ (Good d → Good e → Q .non μ))
  fun hQ hX ⟨d, e, h1, h2, h3, h4, h5, h6⟩ => ⟨d, e, h1, h2, h3, h4.mono hX, fun z => (h5 z).mono hX, fun z1 z2 => hQ _ _ (h6 z1 z2)⟩
def Ssame_above : SpD := spX (fun ds μ Q X => ∃ d' e', ds = [d', e'] ∧ Seen2 μ d' ∧ Seen2 μ e' ∧ Bad Z X d' μ ∧ (Good d' → Bad Z X e' μ) ∧ ∀ a b c d e f, d' = f3 a b c → e' = f3 d e f → Bd a b c → Pos a b c → Bd d e f → Pos d e f →
    ∀ A B C p q r s A' B' C' p' q' r' s', Lst a b c A B C p q r s → Lst d e f A' B' C' p' q' r' s' → Q (sameD A B C p q r s A' B' C' p' q' r' s') μ)
  fun hQ hX ⟨d, e, h1, h2, h3, h4, h5, h6⟩ => ⟨d, e, h1, h2, h3, h4.mono hX, fun z => (h5 z).mono hX, fun a b c d e f e1 e2 e3 e4 e5 e6 A B C p q r s A' B' C' p' q' r' s' k l => hQ _ _ (h6 a b c d e f e1 e2 e3 e4 e5 e6 A B C p q r s A' B' C' p' q' r' s' k l)⟩
def Sshows_same_above : SpD := spQ (fun ds μ Q => ∃ a b c d e f v, ds = [f3 a b c, f3 d e f, v] ∧ Bd a b c ∧ Pos a b c ∧ Bd d e f ∧ Pos d e f ∧ Tr 2 μ v ∧ ∀ k : Bool, (k = true ↔ SameDue a b c d e f v) → Q (.bl k) μ)
  fun hQ ⟨a, b, c, d, e, f, v, h1, h2, h3, h4, h5, h6, h7⟩ => ⟨a, b, c, d, e, f, v, h1, h2, h3, h4, h5, h6, fun k z => hQ _ _ (h7 k z)⟩
def Stold_own : SpD := spQ (fun ds μ Q => ∃ a b c, ds = [f3 a b c] ∧ ∀ p, μ p = none → Q (.ob p) (mset μ p (.lst (sortT (ownL a b c))))) fun hQ ⟨a, b, c, h1, h2⟩ => ⟨a, b, c, h1, fun p hp => hQ _ _ (h2 p hp)⟩
def Sown_turns : SpD := spA Z (fun a b c Q μ => ∀ A B C p q r s us, Lst a b c A B C p q r s → us.Perm (ownL A B C) → Q (.tup (sortT (viaT (p, q, r, s) us))) μ) fun hQ h A B C p q r s us k l => hQ _ _ (h A B C p q r s us k l)
def Slook_at_size_below : SpD := spX (fun ds μ Q X => ∃ d, ds = [d] ∧ Seen μ d ∧ (∀ w, d = .int w → Sz w → w.fmod 4 ≤ 1 → Q .non μ) ∧ ((∀ w, d = .int w → Sz w → 1 < w.fmod 4) → X Z.cBadSize d μ)) fun hQ hX ⟨d, h1, h2, h3, h4⟩ => ⟨d, h1, h2, fun w e1 e2 e3 => hQ _ _ (h3 w e1 e2 e3), fun z => hX _ _ _ (h4 z)⟩
def Stold_all_least : SpD := spQ (fun ds μ Q => ∃ w, ds = [.int w] ∧ Sz w ∧ ∀ n p, Far w n → μ p = none → Q (.ob p) (mset μ p (.lst (sortF (lstL w n))))) fun hQ ⟨w, h1, h2, h3⟩ => ⟨w, h1, h2, fun n p a b => hQ _ _ (h3 n p a b)⟩
def Stold_plain_least : SpD := spQ (fun ds μ Q => ∃ w, ds = [.int w] ∧ Sz w ∧ ∀ n p, Far w n → μ p = none → Q (.ob p) (mset μ p (.lst ((sortF (lstL w n)).filter fOne)))) fun hQ ⟨w, h1, h2, h3⟩ => ⟨w, h1, h2, fun n p a b => hQ _ _ (h3 n p a b)⟩
/-- of a size: what R says, else the error -/
def spZ (R : Int → PQ → Mu → Prop) (m : ∀ {w Q Q' μ}, (∀ d μ', Q d μ' → Q' d μ') → R w Q μ → R w Q' μ) : SpD :=
  spX (fun ds μ Q X => ∃ d, ds = [d] ∧ Seen μ d ∧ (∀ w, d = .int w → Sz w → w.fmod 4 ≤ 1 → R w Q μ) ∧ ((∀ w, d = .int w → Sz w → 1 < w.fmod 4) → X Z.cBadSize d μ)) fun hQ hX ⟨d, h1, h2, h3, h4⟩ => ⟨d, h1, h2, fun w e1 e2 e3 => m hQ (h3 w e1 e2 e3), fun z => hX _ _ _ (h4 z)⟩
def Sall_least : SpD := spZ Z (fun w Q μ => ∀ n, Far w n → Q (.tup (sortF (lstL w n))) μ) fun hQ h n k => hQ _ _ (h n k)
def Splain_least : SpD := spZ Z (fun w Q μ => ∀ n, Far w n → Q (.tup ((sortF (lstL w n)).filter fOne)) μ) fun hQ h n k => hQ _ _ (h n k)
def S_law_pot : SpD := spPot
def S_law_take : SpD := spTake
def S_law_of : SpD := spOfL
def S_law_cells : SpD := spCells
def S_law_odd : SpD := spQ (fun ds μ Q => ∃ p n, ds = [.ob p] ∧ PotAt n μ p ∧ n + 1 ≤ 1000000 ∧ ∀ d μ', VP μ' p 1 d → PotX (n + 1) μ μ' p → Q d μ') fun hQ ⟨p, n, h1, h2, h3, h4⟩ => ⟨p, n, h1, h2, h3, fun d μ' a b => hQ _ _ (h4 d μ' a b)⟩
def S_law_is_int : SpD := Sis_int
def S_law_bent (n : Nat) : SpD := spQ (fun ds μ Q => ∃ p m v, ds = [.ob p, v] ∧ PotAt m μ p ∧ m + 4 * n ≤ 1000000 ∧ Bn n v ∧ ∀ d μ', VP μ' p (n - 1) d → PotX (m + 4 * n) μ μ' p → Q d μ')
  fun hQ ⟨p, m, v, h1, h2, h3, h4, h5⟩ => ⟨p, m, v, h1, h2, h3, h4, fun d μ' k1 k2 => hQ _ _ (h5 d μ' k1 k2)⟩
def S_law_is_bool : SpD := spR fun ds r => ∃ a b : Bool, ds = [.bl a, .bl b] ∧ r = .bl (decide (a = b))
def S_law_common : SpD := Scommon_int
def S_law_root : SpD := Stold_root
def S_law_value : SpD := spR fun ds r => ∃ a b c x y, ds = [f3 a b c, .int x, .int y] ∧ Small a ∧ Small b ∧ Small c ∧ Big x ∧ Big y ∧ r = .int (val a b c x y)
def S_law_turned : SpD := spR fun ds r => ∃ a b c p q u v, ds = [f3 a b c, t4 p q u v] ∧ Small a ∧ Small b ∧ Small c ∧ Big (p + q) ∧ Big (u + v) ∧ Big p ∧ Big q ∧ Big u ∧ Big v ∧ r = f3 (val a b c p u) (mid a b c p q u v) (val a b c q v)
def S_law_is_turn : SpD := spQ (fun ds μ Q => ∃ d, ds = [d] ∧ Seen2 μ d ∧ (∀ ns : List Int, d = .tup (ns.map D.int) → ∀ x ∈ ns, Wd x) ∧ Q (.bl (detB d)) μ) fun hQ ⟨d, h1, h2, h3, h4⟩ => ⟨d, h1, h2, h3, hQ _ _ h4⟩
def S_law_then : SpD := Stold_then
def S_law_turn_drawn : SpD := spQ (fun ds μ Q => ∃ p n, ds = [.ob p] ∧ PotAt n μ p ∧ n + 20 ≤ 1000000 ∧ ∀ a b c d μ', a * d - b * c = 1 → Tinyb a → Tinyb b → Tinyb c → Tinyb d → PotTo (n + 20) μ μ' p → Q (t4 a b c d) μ')
  fun hQ ⟨p, n, h1, h2, h3, h4⟩ => ⟨p, n, h1, h2, h3, fun a b c d μ' k1 k2 k3 k4 k5 k6 => hQ _ _ (h4 a b c d μ' k1 k2 k3 k4 k5 k6)⟩
def S_law_is_form : SpD := Sis_form
def S_law_above_drawn : SpD := spQ (fun ds μ Q => ∃ p m n, ds = [.ob p, .int m] ∧ PotAt n μ p ∧ n + 3 ≤ 1000000 ∧ 0 < m ∧ m ≤ 100000 ∧ ∀ a b c μ', 1 ≤ a → a ≤ m → 1 ≤ c → c ≤ m → b * b < 4 * a * c → PotTo (n + 3) μ μ' p → Q (f3 a b c) μ')
  fun hQ ⟨p, m, n, h1, h2, h3, h4, h5, h6⟩ => ⟨p, m, n, h1, h2, h3, h4, h5, fun a b c μ' k1 k2 k3 k4 k5 k6 => hQ _ _ (h6 a b c μ' k1 k2 k3 k4 k5 k6)⟩
def S_law_content : SpD := spR fun ds r => ∃ a b c, ds = [f3 a b c] ∧ r = .int (gcd3 a b c)
def S_law_is_least : SpD := Sis_least
def S_law_least : SpD := spQ (fun ds μ Q => ∃ a b c, ds = [f3 a b c] ∧ Bd a b c ∧ Pos a b c ∧ ∀ A B C, LstOf a b c A B C → Q (f3 A B C) μ) fun hQ ⟨a, b, c, h1, h2, h3, h4⟩ => ⟨a, b, c, h1, h2, h3, fun A B C h => hQ _ _ (h4 A B C h)⟩
def S_law_is_plain : SpD := Sis_same_tuple
def S_law_is_least_due : SpD := spQ (fun ds μ Q => ∃ a b c v, ds = [f3 a b c, v] ∧ Bd a b c ∧ Pos a b c ∧ Tr 2 μ v ∧ ∀ k : Bool, (k = true ↔ LeastDue a b c v) → Q (.bl k) μ)
  fun hQ ⟨a, b, c, v, h1, h2, h3, h4, h5⟩ => ⟨a, b, c, v, h1, h2, h3, h4, fun k z => hQ _ _ (h5 k z)⟩
def S_law_is_same_due : SpD := Sshows_same_above
def S_law_all_least : SpD := Stold_all_least
def S_law_are_papers_right : SpD := spQ (fun ds μ Q => ∃ p n a b c d e f, ds = [.ob p, f3 a b c, f3 d e f] ∧ Bd a b c ∧ Pos a b c ∧ Bd d e f ∧ Pos d e f ∧ PotAt n μ p ∧ n + 200 ≤ 1000000 ∧ ∀ μ', PotX (n + 200) μ μ' p → Q (.bl true) μ')
  fun hQ ⟨p, n, a, b, c, d, e, f, h1, h2, h3, h4, h5, h6, h7, h8⟩ => ⟨p, n, a, b, c, d, e, f, h1, h2, h3, h4, h5, h6, h7, fun μ' k => hQ _ _ (h8 μ' k)⟩
abbrev qL : Str := ("_law_right.<locals>." : Str) ++ "<lambda>"
def S_law_right : SpD := spQ (fun ds μ Q => ∃ p, ds = [.ob p] ∧ PotAt 0 μ p ∧ μ Z.P_law_right = some (.tab qL) ∧ ∀ μ', PotTo 100000 μ μ' p → Q (.bl true) μ') fun hQ ⟨p, h1, h2, h3, h4⟩ => ⟨p, h1, h2, h3, fun μ' a => hQ _ _ (h4 μ' a)⟩
def Slaw : SpD := spQ (fun ds μ Q => ∃ ns : List Int, ds = [.rls (ns.map D.int)] ∧ ns.length ≤ 63 ∧ μ Z.P_law_right = some (.tab qL) ∧ Q (.bl true) μ) fun hQ ⟨ns, h1, h2, h3, h4⟩ => ⟨ns, h1, h2, h3, hQ _ _ h4⟩
end
end K9

set_option maxHeartbeats 8000000
/-! The walks, printed by gen2.py. -/
namespace K9
open PySem PySem.Spec PyProof.Rows L2 Sq
def top (i : Nat) : Stmt := PySem.Challenge.pw_squaresowed_k09_papers_of_forms_above_ju.main.body.getD i (.Pass ⟨0, 0, 0, 0⟩)
/-- what the module says of the names -/
structure Txt (mg : Str → Option Value) : Prop where
  z_abs : mg "abs" = none
  z_all : mg "all" = none
  z_any : mg "any" = none
  z_bool : mg "bool" = none
  z_int : mg "int" = none
  z_isinstance : mg "isinstance" = none
  z_len : mg "len" = none
  z_list : mg "list" = none
  z_max : mg "max" = none
  z_min : mg "min" = none
  z_range : mg "range" = none
  z_repr : mg "repr" = none
  z_sorted : mg "sorted" = none
  z_str : mg "str" = none
  z_sum : mg "sum" = none
  z_super : mg "super" = none
  z_tuple : mg "tuple" = none
  c_ABOVE : ∃ t, mg "ABOVE" = some (.str "above" t)
  c_BELOW : ∃ t, mg "BELOW" = some (.str "below" t)
  c_LEAST : ∃ t, mg "LEAST" = some (.str "least" t)
  c_MIXED : ∃ t, mg "MIXED" = some (.str "mixed" t)
  c_MOST_LETTER : ∃ t, mg "MOST_LETTER" = some (.int 1000000000000 t)
  c_MOST_PART : ∃ t, mg "MOST_PART" = some (.int 1000000 t)
  c_MOST_SIZE : ∃ t, mg "MOST_SIZE" = some (.int 100000 t)
  c_SPLIT : ∃ t, mg "SPLIT" = some (.str "split" t)
  c_TURN : ∃ t, mg "TURN" = some (.str "turn" t)
/-! ### is_int -/
abbrev sis_int : Stmt := top 6
abbrev Nis_int : List Str := ["value", "low", "high"]
theorem sc_is_int : FnScope Nis_int ["value", "low", "high"] (defScope sis_int) := ⟨rfl, rfl, rfl, by decide +kernel, rfl, by decide +kernel, by decide +kernel⟩
def wis_int (Z : Ad) : WS := wRet (wAndV (wIsi .int (wVar 0)) (wAndV (wNotV (wIsi .bool (wVar 0))) (wChainN (wVar 1) [(gLe, wVar 0), (gLe, wVar 2)])))
theorem der_is_int (Z : Ad) {P : Program} {w : World} {K : PySem.W.Frag} {mg : Str → Option Value} {base : Heap} {f : Addr} (T : Txt mg)  (cdv : Value) (A : Around) (outer : List Env) (s : Shared) (H : Hp) (E : XK) (hg : A.guards = some []) (hr : Room 0 (A.deeper (envOfC "is_int" (defScope sis_int) s.heap.objs.size f cdv))) :
    LSs (cxOf (L2.CX P w) P w K mg base Nis_int "is_int" (defScope sis_int) f cdv A outer s H E) (wxE E) (defBody sis_int) (wis_int Z) :=
  lss_one (ls_ret (le_and (le_isi (t := .int) T.z_isinstance T.z_int (by decide +kernel) (le_var 0)) (le_and (le_not (le_isi (t := .bool) T.z_isinstance T.z_bool (by decide +kernel) (le_var 0))) (le_one (le_chainN (le_var 1) (lch_cons od_le (le_var 0) (lch_last od_le (le_var 2))))))))
/-! ### is_whole -/
abbrev sis_whole : Stmt := top 7
abbrev Nis_whole : List Str := ["value"]
theorem sc_is_whole : FnScope Nis_whole ["value"] (defScope sis_whole) := ⟨rfl, rfl, rfl, by decide +kernel, rfl, by decide +kernel, by decide +kernel⟩
def wis_whole (Z : Ad) : WS := wRet (wAndV (wIsi .int (wVar 0)) (wNotV (wIsi .bool (wVar 0))))
theorem der_is_whole (Z : Ad) {P : Program} {w : World} {K : PySem.W.Frag} {mg : Str → Option Value} {base : Heap} {f : Addr} (T : Txt mg)  (cdv : Value) (A : Around) (outer : List Env) (s : Shared) (H : Hp) (E : XK) (hg : A.guards = some []) (hr : Room 0 (A.deeper (envOfC "is_whole" (defScope sis_whole) s.heap.objs.size f cdv))) :
    LSs (cxOf (L2.CX P w) P w K mg base Nis_whole "is_whole" (defScope sis_whole) f cdv A outer s H E) (wxE E) (defBody sis_whole) (wis_whole Z) :=
  lss_one (ls_ret (le_and (le_isi (t := .int) T.z_isinstance T.z_int (by decide +kernel) (le_var 0)) (le_one (le_not (le_isi (t := .bool) T.z_isinstance T.z_bool (by decide +kernel) (le_var 0))))))
/-! ### are_wholes -/
abbrev sare_wholes : Stmt := top 8
abbrev Nare_wholes : List Str := ["value", "one"]
theorem sc_are_wholes : FnScope Nare_wholes ["value"] (defScope sare_wholes) := ⟨rfl, rfl, rfl, by decide +kernel, rfl, by decide +kernel, by decide +kernel⟩
def ware_wholes (Z : Ad) : WS := wRet (wAndV (wIsi .tuple (wVar 0)) (wB gAll [wLc (wSeqI (wVar 0)) (CT.one 1) (wYes) (wCall Sis_whole [wVar 1])]))
theorem der_are_wholes (Z : Ad) {P : Program} {w : World} {K : PySem.W.Frag} {mg : Str → Option Value} {base : Heap} {f : Addr} (T : Txt mg) (F_is_whole : FnD P w K mg base 1 "is_whole" ["value"] [] Sis_whole) (cdv : Value) (A : Around) (outer : List Env) (s : Shared) (H : Hp) (E : XK) (hg : A.guards = some []) (hr : Room 1 (A.deeper (envOfC "are_wholes" (defScope sare_wholes) s.heap.objs.size f cdv))) :
    LSs (cxOf (L2.CX P w) P w K mg base Nare_wholes "are_wholes" (defScope sare_wholes) f cdv A outer s H E) (wxE E) (defBody sare_wholes) (ware_wholes Z) :=
  lss_one (ls_ret (le_and (le_isi (t := .tuple) T.z_isinstance T.z_tuple (by decide +kernel) (le_var 0)) (le_one (le_callB (cd_all rfl) T.z_all (by decide +kernel) (la_cons (le_lc sc_are_wholes.nd (li_seq (le_var 0)) (ok := by show BlkOk Nare_wholes (defScope sare_wholes) _ _; exact ⟨rfl, by decide +kernel, by decide +kernel, by decide +kernel, by decide +kernel⟩) (own := [("one", 1)]) (hv := rfl) (hg := (fun _ _ _ _ _ => pg_one 1 sc_are_wholes.nd)) (ht := (fun _ _ _ _ _ => lps_nil)) (he := (fun _ _ _ _ _ => le_call F_is_whole hg hr LamX.takes0 (la_cons (le_var 1) (la_nil))))) (la_nil))))))
/-! ### are_ints -/
abbrev sare_ints : Stmt := top 9
abbrev Nare_ints : List Str := ["value", "many", "most", "one"]
theorem sc_are_ints : FnScope Nare_ints ["value", "many", "most"] (defScope sare_ints) := ⟨rfl, rfl, rfl, by decide +kernel, rfl, by decide +kernel, by decide +kernel⟩
def ware_ints (Z : Ad) : WS := wRet (wAndV (wCall Sare_wholes [wVar 0]) (wAndV (wOp gEq (wB gLen [wVar 0]) (wVar 1)) (wB gAll [wLc (wSeqI (wVar 0)) (CT.one 3) (wYes) (wOp gLe (wB gAbs [wVar 3]) (wVar 2))])))
theorem der_are_ints (Z : Ad) {P : Program} {w : World} {K : PySem.W.Frag} {mg : Str → Option Value} {base : Heap} {f : Addr} (T : Txt mg) (F_are_wholes : FnD P w K mg base 2 "are_wholes" ["value"] [] Sare_wholes) (cdv : Value) (A : Around) (outer : List Env) (s : Shared) (H : Hp) (E : XK) (hg : A.guards = some []) (hr : Room 2 (A.deeper (envOfC "are_ints" (defScope sare_ints) s.heap.objs.size f cdv))) :
    LSs (cxOf (L2.CX P w) P w K mg base Nare_ints "are_ints" (defScope sare_ints) f cdv A outer s H E) (wxE E) (defBody sare_ints) (ware_ints Z) :=
  lss_one (ls_ret (le_and (le_call F_are_wholes hg hr (takes_of rfl rfl rfl rfl) (la_cons (le_var 0) (la_nil))) (le_and (le_cmp (od_eq hr.units) (le_callB cd_len T.z_len (by decide +kernel) (la_cons (le_var 0) (la_nil))) (le_var 1)) (le_one (le_callB (cd_all rfl) T.z_all (by decide +kernel) (la_cons (le_lc sc_are_ints.nd (li_seq (le_var 0)) (ok := by show BlkOk Nare_ints (defScope sare_ints) _ _; exact ⟨rfl, by decide +kernel, by decide +kernel, by decide +kernel, by decide +kernel⟩) (own := [("one", 3)]) (hv := rfl) (hg := (fun _ _ _ _ _ => pg_one 3 sc_are_ints.nd)) (ht := (fun _ _ _ _ _ => lps_nil)) (he := (fun _ _ _ _ _ => le_cmp od_le (le_callB cd_abs T.z_abs (by decide +kernel) (la_cons (le_var 3) (la_nil))) (le_var 2)))) (la_nil)))))))
/-! ### is_told -/
abbrev sis_told : Stmt := top 10
abbrev Nis_told : List Str := ["value", "sizes"]
theorem sc_is_told : FnScope Nis_told ["value", "sizes"] (defScope sis_told) := ⟨rfl, rfl, rfl, by decide +kernel, rfl, by decide +kernel, by decide +kernel⟩
def wis_told (Z : Ad) : WS := wRet (wAndV (wIsi .tuple (wVar 0)) (wAndV (wOp gIn (wB gLen [wVar 0]) (wVar 1)) (wIsi .str (wOp gIx (wVar 0) (wC (.int 0))))))
theorem der_is_told (Z : Ad) {P : Program} {w : World} {K : PySem.W.Frag} {mg : Str → Option Value} {base : Heap} {f : Addr} (T : Txt mg)  (cdv : Value) (A : Around) (outer : List Env) (s : Shared) (H : Hp) (E : XK) (hg : A.guards = some []) (hr : Room 0 (A.deeper (envOfC "is_told" (defScope sis_told) s.heap.objs.size f cdv))) :
    LSs (cxOf (L2.CX P w) P w K mg base Nis_told "is_told" (defScope sis_told) f cdv A outer s H E) (wxE E) (defBody sis_told) (wis_told Z) :=
  lss_one (ls_ret (le_and (le_isi (t := .tuple) T.z_isinstance T.z_tuple (by decide +kernel) (le_var 0)) (le_and (le_cmp (od_in (u65 hr)) (le_callB cd_len T.z_len (by decide +kernel) (la_cons (le_var 0) (la_nil))) (le_var 1)) (le_one (le_isi (t := .str) T.z_isinstance T.z_str (by decide +kernel) (le_ix (le_var 0) (le_int)))))))
/-! ### common_int -/
abbrev scommon_int : Stmt := top 11
abbrev Ncommon_int : List Str := ["one", "other"]
theorem sc_common_int : FnScope Ncommon_int ["one", "other"] (defScope scommon_int) := ⟨rfl, rfl, rfl, by decide +kernel, rfl, by decide +kernel, by decide +kernel⟩
def wcommon_int (Z : Ad) : WS := wSeq (wPar 0 1 (wB gAbs [wVar 0]) (wB gAbs [wVar 1])) (wSeq (wWhile (wTB (wOp gNe (wVar 1) (wC (.int 0)))) (wPar 0 1 (wVar 1) (wOp gMod (wVar 0) (wVar 1)))) (wRet (wVar 0)))
theorem der_common_int (Z : Ad) {P : Program} {w : World} {K : PySem.W.Frag} {mg : Str → Option Value} {base : Heap} {f : Addr} (T : Txt mg)  (cdv : Value) (A : Around) (outer : List Env) (s : Shared) (H : Hp) (E : XK) (hg : A.guards = some []) (hr : Room 0 (A.deeper (envOfC "common_int" (defScope scommon_int) s.heap.objs.size f cdv))) :
    LSs (cxOf (L2.CX P w) P w K mg base Ncommon_int "common_int" (defScope scommon_int) f cdv A outer s H E) (wxE E) (defBody scommon_int) (wcommon_int Z) :=
  lss_cons (ls_par 0 1 sc_common_int.nd (la_cons (le_callB cd_abs T.z_abs (by decide +kernel) (la_cons (le_var 0) (la_nil))) (la_cons (le_callB cd_abs T.z_abs (by decide +kernel) (la_cons (le_var 1) (la_nil))) (la_nil)))) (lss_cons (ls_while (passes_of rfl) (lt_cmp (od_ne hr.units) (le_var 1) (le_int)) (lss_one (ls_par 0 1 sc_common_int.nd (la_cons (le_var 1) (la_cons (le_op od_mod (le_var 0) (le_var 1)) (la_nil)))))) (lss_one (ls_ret (le_var 0))))
/-! ### told_root -/
abbrev stold_root : Stmt := top 13
abbrev Ntold_root : List Str := ["number", "here", "later"]
theorem sc_told_root : FnScope Ntold_root ["number"] (defScope stold_root) := ⟨rfl, rfl, rfl, by decide +kernel, rfl, by decide +kernel, by decide +kernel⟩
def wtold_root (Z : Ad) : WS := wSeq (wIf (wTB (wOp gLt (wVar 0) (wC (.int 2)))) (wRet (wVar 0)) (wNext)) (wSeq (wSet 1 (wC (.int 1))) (wSeq (wWhile (wTB (wOp gLe (wOp gMul (wVar 1) (wVar 1)) (wVar 0))) (wSet 1 (wOp gMul (wVar 1) (wC (.int 2))))) (wWhile (wTB (wC (.bl true))) (wSeq (wSet 2 (wOp gFdiv (wOp gAdd (wVar 1) (wOp gFdiv (wVar 0) (wVar 1))) (wC (.int 2)))) (wSeq (wIf (wTB (wOp gGe (wVar 2) (wVar 1))) (wRet (wVar 1)) (wNext)) (wSet 1 (wVar 2)))))))
theorem der_told_root (Z : Ad) {P : Program} {w : World} {K : PySem.W.Frag} {mg : Str → Option Value} {base : Heap} {f : Addr} (T : Txt mg)  (cdv : Value) (A : Around) (outer : List Env) (s : Shared) (H : Hp) (E : XK) (hg : A.guards = some []) (hr : Room 0 (A.deeper (envOfC "told_root" (defScope stold_root) s.heap.objs.size f cdv))) :
    LSs (cxOf (L2.CX P w) P w K mg base Ntold_root "told_root" (defScope stold_root) f cdv A outer s H E) (wxE E) (defBody stold_root) (wtold_root Z) :=
  lss_cons (ls_if (lt_cmp od_lt (le_var 0) (le_int)) (lss_one (ls_ret (le_var 0))) (lss_nil)) (lss_cons (ls_set 1 sc_told_root.nd (le_int)) (lss_cons (ls_while (passes_of rfl) (lt_cmp od_le (le_op od_mul (le_var 1) (le_var 1)) (le_var 0)) (lss_one (ls_set 1 sc_told_root.nd (le_op od_mul (le_var 1) (le_int))))) (lss_one (ls_while (passes_of rfl) (lt_val (le_bl)) (lss_cons (ls_set 2 sc_told_root.nd (le_op od_fdiv (le_op od_add (le_var 1) (le_op od_fdiv (le_var 0) (le_var 1))) (le_int))) (lss_cons (ls_if (lt_cmp od_ge (le_var 2) (le_var 1)) (lss_one (ls_ret (le_var 1))) (lss_nil)) (lss_one (ls_set 1 sc_told_root.nd (le_var 2)))))))))
/-! ### is_square -/
abbrev sis_square : Stmt := top 14
abbrev Nis_square : List Str := ["number"]
theorem sc_is_square : FnScope Nis_square ["number"] (defScope sis_square) := ⟨rfl, rfl, rfl, by decide +kernel, rfl, by decide +kernel, by decide +kernel⟩
def wis_square (Z : Ad) : WS := wRet (wAndV (wOp gGe (wVar 0) (wC (.int 0))) (wOp gEq (wOp gMul (wCall Stold_root [wVar 0]) (wCall Stold_root [wVar 0])) (wVar 0)))
theorem der_is_square (Z : Ad) {P : Program} {w : World} {K : PySem.W.Frag} {mg : Str → Option Value} {base : Heap} {f : Addr} (T : Txt mg) (F_told_root : FnD P w K mg base 1 "told_root" ["number"] [] Stold_root) (cdv : Value) (A : Around) (outer : List Env) (s : Shared) (H : Hp) (E : XK) (hg : A.guards = some []) (hr : Room 1 (A.deeper (envOfC "is_square" (defScope sis_square) s.heap.objs.size f cdv))) :
    LSs (cxOf (L2.CX P w) P w K mg base Nis_square "is_square" (defScope sis_square) f cdv A outer s H E) (wxE E) (defBody sis_square) (wis_square Z) :=
  lss_one (ls_ret (le_and (le_cmp od_ge (le_var 0) (le_int)) (le_one (le_cmp (od_eq hr.units) (le_op od_mul (le_call F_told_root hg hr (takes_of rfl rfl rfl rfl) (la_cons (le_var 0) (la_nil))) (le_call F_told_root hg hr (takes_of rfl rfl rfl rfl) (la_cons (le_var 0) (la_nil)))) (le_var 0)))))
/-! ### is_form -/
abbrev sis_form : Stmt := top 22
abbrev Nis_form : List Str := ["value"]
theorem sc_is_form : FnScope Nis_form ["value"] (defScope sis_form) := ⟨rfl, rfl, rfl, by decide +kernel, rfl, by decide +kernel, by decide +kernel⟩
def wis_form (Z : Ad) : WS := wRet (wCall Sare_ints [wVar 0, wOp gAdd (wC (.int 1)) (wC (.int 2)), wC (.int 1000000)])
theorem der_is_form (Z : Ad) {P : Program} {w : World} {K : PySem.W.Frag} {mg : Str → Option Value} {base : Heap} {f : Addr} (T : Txt mg) (F_are_ints : FnD P w K mg base 3 "are_ints" ["value", "many", "most"] [] Sare_ints) (cdv : Value) (A : Around) (outer : List Env) (s : Shared) (H : Hp) (E : XK) (hg : A.guards = some []) (hr : Room 3 (A.deeper (envOfC "is_form" (defScope sis_form) s.heap.objs.size f cdv))) :
    LSs (cxOf (L2.CX P w) P w K mg base Nis_form "is_form" (defScope sis_form) f cdv A outer s H E) (wxE E) (defBody sis_form) (wis_form Z) :=
  lss_one (ls_ret (le_call F_are_ints hg hr (takes_of rfl rfl rfl rfl) (la_cons (le_var 0) (la_cons (le_op od_add (le_int) (le_int)) (la_cons (le_globI T.c_MOST_PART) (la_nil))))))
/-! ### look_at_form -/
abbrev slook_at_form : Stmt := top 23
abbrev Nlook_at_form : List Str := ["form"]
theorem sc_look_at_form : FnScope Nlook_at_form ["form"] (defScope slook_at_form) := ⟨rfl, rfl, rfl, by decide +kernel, rfl, by decide +kernel, by decide +kernel⟩
def wlook_at_form (Z : Ad) : WS := wIf (wNotT (wTB (wCall Sis_form [wVar 0]))) (wRaise Z.cBadForm (wVar 0)) (wNext)
theorem der_look_at_form (Z : Ad) {P : Program} {w : World} {K : PySem.W.Frag} {mg : Str → Option Value} {base : Heap} {f : Addr} (T : Txt mg) (F_is_form : FnD P w K mg base 4 "is_form" ["value"] [] Sis_form) (E_BadForm : ErrD P w K mg base "BadForm" Z.cBadForm) (cdv : Value) (A : Around) (outer : List Env) (s : Shared) (H : Hp) (E : XK) (hg : A.guards = some []) (hr : Room 4 (A.deeper (envOfC "look_at_form" (defScope slook_at_form) s.heap.objs.size f cdv))) :
    LSs (cxOf (L2.CX P w) P w K mg base Nlook_at_form "look_at_form" (defScope slook_at_form) f cdv A outer s H E) (wxE E) (defBody slook_at_form) (wlook_at_form Z) :=
  lss_one (ls_if (lt_not (lt_val (le_call F_is_form hg hr (takes_of rfl rfl rfl rfl) (la_cons (le_var 0) (la_nil))))) (lss_one (ls_raise E_BadForm rfl (takes_of rfl rfl rfl rfl) (la_cons (le_var 0) (la_nil)) hr)) (lss_nil))
/-! ### told_size -/
abbrev stold_size : Stmt := top 24
abbrev Ntold_size : List Str := ["form"]
theorem sc_told_size : FnScope Ntold_size ["form"] (defScope stold_size) := ⟨rfl, rfl, rfl, by decide +kernel, rfl, by decide +kernel, by decide +kernel⟩
def wtold_size (Z : Ad) : WS := wRet (wOp gSub (wOp gMul (wOp gIx (wVar 0) (wC (.int 1))) (wOp gIx (wVar 0) (wC (.int 1)))) (wOp gMul (wOp gMul (wC (.int 4)) (wOp gIx (wVar 0) (wC (.int 0)))) (wOp gIx (wVar 0) (wC (.int 2)))))
theorem der_told_size (Z : Ad) {P : Program} {w : World} {K : PySem.W.Frag} {mg : Str → Option Value} {base : Heap} {f : Addr} (T : Txt mg)  (cdv : Value) (A : Around) (outer : List Env) (s : Shared) (H : Hp) (E : XK) (hg : A.guards = some []) (hr : Room 0 (A.deeper (envOfC "told_size" (defScope stold_size) s.heap.objs.size f cdv))) :
    LSs (cxOf (L2.CX P w) P w K mg base Ntold_size "told_size" (defScope stold_size) f cdv A outer s H E) (wxE E) (defBody stold_size) (wtold_size Z) :=
  lss_one (ls_ret (le_op od_sub (le_op od_mul (le_ix (le_var 0) (le_int)) (le_ix (le_var 0) (le_int))) (le_op od_mul (le_op od_mul (le_int) (le_ix (le_var 0) (le_int))) (le_ix (le_var 0) (le_int)))))
/-! ### told_value -/
abbrev stold_value : Stmt := top 25
abbrev Ntold_value : List Str := ["form", "x", "y"]
theorem sc_told_value : FnScope Ntold_value ["form", "x", "y"] (defScope stold_value) := ⟨rfl, rfl, rfl, by decide +kernel, rfl, by decide +kernel, by decide +kernel⟩
def wtold_value (Z : Ad) : WS := wRet (wOp gAdd (wOp gAdd (wOp gMul (wOp gMul (wOp gIx (wVar 0) (wC (.int 0))) (wVar 1)) (wVar 1)) (wOp gMul (wOp gMul (wOp gIx (wVar 0) (wC (.int 1))) (wVar 1)) (wVar 2))) (wOp gMul (wOp gMul (wOp gIx (wVar 0) (wC (.int 2))) (wVar 2)) (wVar 2)))
theorem der_told_value (Z : Ad) {P : Program} {w : World} {K : PySem.W.Frag} {mg : Str → Option Value} {base : Heap} {f : Addr} (T : Txt mg)  (cdv : Value) (A : Around) (outer : List Env) (s : Shared) (H : Hp) (E : XK) (hg : A.guards = some []) (hr : Room 0 (A.deeper (envOfC "told_value" (defScope stold_value) s.heap.objs.size f cdv))) :
    LSs (cxOf (L2.CX P w) P w K mg base Ntold_value "told_value" (defScope stold_value) f cdv A outer s H E) (wxE E) (defBody stold_value) (wtold_value Z) :=
  lss_one (ls_ret (le_op od_add (le_op od_add (le_op od_mul (le_op od_mul (le_ix (le_var 0) (le_int)) (le_var 1)) (le_var 1)) (le_op od_mul (le_op od_mul (le_ix (le_var 0) (le_int)) (le_var 1)) (le_var 2))) (le_op od_mul (le_op od_mul (le_ix (le_var 0) (le_int)) (le_var 2)) (le_var 2))))
/-! ### told_kind -/
abbrev stold_kind : Stmt := top 26
abbrev Ntold_kind : List Str := ["form", "whole"]
theorem sc_told_kind : FnScope Ntold_kind ["form"] (defScope stold_kind) := ⟨rfl, rfl, rfl, by decide +kernel, rfl, by decide +kernel, by decide +kernel⟩
def wtold_kind (Z : Ad) : WS := wSeq (wSet 1 (wCall Stold_size [wVar 0])) (wSeq (wIf (wTB (wOp gLt (wVar 1) (wC (.int 0)))) (wRet (wIfE (wTB (wOp gGt (wOp gIx (wVar 0) (wC (.int 0))) (wC (.int 0)))) (wC (.str "above")) (wC (.str "below")))) (wNext)) (wRet (wIfE (wTB (wCall Sis_square [wVar 1])) (wC (.str "split")) (wC (.str "mixed")))))
theorem der_told_kind (Z : Ad) {P : Program} {w : World} {K : PySem.W.Frag} {mg : Str → Option Value} {base : Heap} {f : Addr} (T : Txt mg) (F_is_square : FnD P w K mg base 2 "is_square" ["number"] [] Sis_square) (F_told_size : FnD P w K mg base 1 "told_size" ["form"] [] Stold_size) (cdv : Value) (A : Around) (outer : List Env) (s : Shared) (H : Hp) (E : XK) (hg : A.guards = some []) (hr : Room 2 (A.deeper (envOfC "told_kind" (defScope stold_kind) s.heap.objs.size f cdv))) :
    LSs (cxOf (L2.CX P w) P w K mg base Ntold_kind "told_kind" (defScope stold_kind) f cdv A outer s H E) (wxE E) (defBody stold_kind) (wtold_kind Z) :=
  lss_cons (ls_set 1 sc_told_kind.nd (le_call F_told_size hg hr (takes_of rfl rfl rfl rfl) (la_cons (le_var 0) (la_nil)))) (lss_cons (ls_if (lt_cmp od_lt (le_var 1) (le_int)) (lss_one (ls_ret (le_ifE (lt_cmp od_gt (le_ix (le_var 0) (le_int)) (le_int)) (le_globS T.c_ABOVE) (le_globS T.c_BELOW)))) (lss_nil)) (lss_one (ls_ret (le_ifE (lt_val (le_call F_is_square hg hr (takes_of rfl rfl rfl rfl) (la_cons (le_var 1) (la_nil)))) (le_globS T.c_SPLIT) (le_globS T.c_MIXED)))))
/-! ### is_turn -/
abbrev sis_turn : Stmt := top 27
abbrev Nis_turn : List Str := ["value"]
theorem sc_is_turn : FnScope Nis_turn ["value"] (defScope sis_turn) := ⟨rfl, rfl, rfl, by decide +kernel, rfl, by decide +kernel, by decide +kernel⟩
def wis_turn (Z : Ad) : WS := wRet (wAndV (wCall Sare_ints [wVar 0, wC (.int 4), wC (.int 1000000000000)]) (wOp gEq (wOp gSub (wOp gMul (wOp gIx (wVar 0) (wC (.int 0))) (wOp gIx (wVar 0) (wNeg (wC (.int 1))))) (wOp gMul (wOp gIx (wVar 0) (wC (.int 1))) (wOp gIx (wVar 0) (wC (.int 2))))) (wC (.int 1))))
theorem der_is_turn (Z : Ad) {P : Program} {w : World} {K : PySem.W.Frag} {mg : Str → Option Value} {base : Heap} {f : Addr} (T : Txt mg) (F_are_ints : FnD P w K mg base 3 "are_ints" ["value", "many", "most"] [] Sare_ints) (cdv : Value) (A : Around) (outer : List Env) (s : Shared) (H : Hp) (E : XK) (hg : A.guards = some []) (hr : Room 3 (A.deeper (envOfC "is_turn" (defScope sis_turn) s.heap.objs.size f cdv))) :
    LSs (cxOf (L2.CX P w) P w K mg base Nis_turn "is_turn" (defScope sis_turn) f cdv A outer s H E) (wxE E) (defBody sis_turn) (wis_turn Z) :=
  lss_one (ls_ret (le_and (le_call F_are_ints hg hr (takes_of rfl rfl rfl rfl) (la_cons (le_var 0) (la_cons (le_int) (la_cons (le_globI T.c_MOST_LETTER) (la_nil))))) (le_one (le_cmp (od_eq hr.units) (le_op od_sub (le_op od_mul (le_ix (le_var 0) (le_int)) (le_ix (le_var 0) (le_neg (le_int)))) (le_op od_mul (le_ix (le_var 0) (le_int)) (le_ix (le_var 0) (le_int)))) (le_int)))))
/-! ### told_turned -/
abbrev stold_turned : Stmt := top 28
abbrev Ntold_turned : List Str := ["form", "turn", "p", "q", "r", "s", "middle"]
theorem sc_told_turned : FnScope Ntold_turned ["form", "turn"] (defScope stold_turned) := ⟨rfl, rfl, rfl, by decide +kernel, rfl, by decide +kernel, by decide +kernel⟩
def wtold_turned (Z : Ad) : WS := wSeq (wAsg (wVar 1) (gT [gN 2, gN 3, gN 4, gN 5])) (wSeq (wSet 6 (wOp gAdd (wOp gAdd (wOp gMul (wOp gMul (wOp gMul (wC (.int 2)) (wOp gIx (wVar 0) (wC (.int 0)))) (wVar 2)) (wVar 3)) (wOp gMul (wOp gIx (wVar 0) (wC (.int 1))) (wOp gAdd (wOp gMul (wVar 2) (wVar 5)) (wOp gMul (wVar 3) (wVar 4))))) (wOp gMul (wOp gMul (wOp gMul (wC (.int 2)) (wOp gIx (wVar 0) (wC (.int 2)))) (wVar 4)) (wVar 5)))) (wRet (wTup [wCall Stold_value [wVar 0, wVar 2, wVar 4], wVar 6, wCall Stold_value [wVar 0, wVar 3, wVar 5]])))
theorem der_told_turned (Z : Ad) {P : Program} {w : World} {K : PySem.W.Frag} {mg : Str → Option Value} {base : Heap} {f : Addr} (T : Txt mg) (F_told_value : FnD P w K mg base 1 "told_value" ["form", "x", "y"] [] Stold_value) (cdv : Value) (A : Around) (outer : List Env) (s : Shared) (H : Hp) (E : XK) (hg : A.guards = some []) (hr : Room 1 (A.deeper (envOfC "told_turned" (defScope stold_turned) s.heap.objs.size f cdv))) :
    LSs (cxOf (L2.CX P w) P w K mg base Ntold_turned "told_turned" (defScope stold_turned) f cdv A outer s H E) (wxE E) (defBody stold_turned) (wtold_turned Z) :=
  lss_cons (ls_asg (le_var 1) (lg_tup (lgs_cons (lg_name 2 sc_told_turned.nd) (lgs_cons (lg_name 3 sc_told_turned.nd) (lgs_cons (lg_name 4 sc_told_turned.nd) (lgs_cons (lg_name 5 sc_told_turned.nd) (lgs_nil))))))) (lss_cons (ls_set 6 sc_told_turned.nd (le_op od_add (le_op od_add (le_op od_mul (le_op od_mul (le_op od_mul (le_int) (le_ix (le_var 0) (le_int))) (le_var 2)) (le_var 3)) (le_op od_mul (le_ix (le_var 0) (le_int)) (le_op od_add (le_op od_mul (le_var 2) (le_var 5)) (le_op od_mul (le_var 3) (le_var 4))))) (le_op od_mul (le_op od_mul (le_op od_mul (le_int) (le_ix (le_var 0) (le_int))) (le_var 4)) (le_var 5)))) (lss_one (ls_ret (le_tup (la_cons (le_call F_told_value hg hr (takes_of rfl rfl rfl rfl) (la_cons (le_var 0) (la_cons (le_var 2) (la_cons (le_var 4) (la_nil))))) (la_cons (le_var 6) (la_cons (le_call F_told_value hg hr (takes_of rfl rfl rfl rfl) (la_cons (le_var 0) (la_cons (le_var 3) (la_cons (le_var 5) (la_nil))))) (la_nil)))) (show 3 ≤ 1000 by decide)))))
/-! ### told_then -/
abbrev stold_then : Stmt := top 29
abbrev Ntold_then : List Str := ["one", "other", "p", "q", "r", "s", "e", "f", "g", "h"]
theorem sc_told_then : FnScope Ntold_then ["one", "other"] (defScope stold_then) := ⟨rfl, rfl, rfl, by decide +kernel, rfl, by decide +kernel, by decide +kernel⟩
def wtold_then (Z : Ad) : WS := wSeq (wAsg (wVar 0) (gT [gN 2, gN 3, gN 4, gN 5])) (wSeq (wAsg (wVar 1) (gT [gN 6, gN 7, gN 8, gN 9])) (wRet (wTup [wOp gAdd (wOp gMul (wVar 2) (wVar 6)) (wOp gMul (wVar 3) (wVar 8)), wOp gAdd (wOp gMul (wVar 2) (wVar 7)) (wOp gMul (wVar 3) (wVar 9)), wOp gAdd (wOp gMul (wVar 4) (wVar 6)) (wOp gMul (wVar 5) (wVar 8)), wOp gAdd (wOp gMul (wVar 4) (wVar 7)) (wOp gMul (wVar 5) (wVar 9))])))
theorem der_told_then (Z : Ad) {P : Program} {w : World} {K : PySem.W.Frag} {mg : Str → Option Value} {base : Heap} {f : Addr} (T : Txt mg)  (cdv : Value) (A : Around) (outer : List Env) (s : Shared) (H : Hp) (E : XK) (hg : A.guards = some []) (hr : Room 0 (A.deeper (envOfC "told_then" (defScope stold_then) s.heap.objs.size f cdv))) :
    LSs (cxOf (L2.CX P w) P w K mg base Ntold_then "told_then" (defScope stold_then) f cdv A outer s H E) (wxE E) (defBody stold_then) (wtold_then Z) :=
  lss_cons (ls_asg (le_var 0) (lg_tup (lgs_cons (lg_name 2 sc_told_then.nd) (lgs_cons (lg_name 3 sc_told_then.nd) (lgs_cons (lg_name 4 sc_told_then.nd) (lgs_cons (lg_name 5 sc_told_then.nd) (lgs_nil))))))) (lss_cons (ls_asg (le_var 1) (lg_tup (lgs_cons (lg_name 6 sc_told_then.nd) (lgs_cons (lg_name 7 sc_told_then.nd) (lgs_cons (lg_name 8 sc_told_then.nd) (lgs_cons (lg_name 9 sc_told_then.nd) (lgs_nil))))))) (lss_one (ls_ret (le_tup (la_cons (le_op od_add (le_op od_mul (le_var 2) (le_var 6)) (le_op od_mul (le_var 3) (le_var 8))) (la_cons (le_op od_add (le_op od_mul (le_var 2) (le_var 7)) (le_op od_mul (le_var 3) (le_var 9))) (la_cons (le_op od_add (le_op od_mul (le_var 4) (le_var 6)) (le_op od_mul (le_var 5) (le_var 8))) (la_cons (le_op od_add (le_op od_mul (le_var 4) (le_var 7)) (le_op od_mul (le_var 5) (le_var 9))) (la_nil))))) (show 4 ≤ 1000 by decide)))))
/-! ### told_back -/
abbrev stold_back : Stmt := top 30
abbrev Ntold_back : List Str := ["turn"]
theorem sc_told_back : FnScope Ntold_back ["turn"] (defScope stold_back) := ⟨rfl, rfl, rfl, by decide +kernel, rfl, by decide +kernel, by decide +kernel⟩
def wtold_back (Z : Ad) : WS := wRet (wTup [wOp gIx (wVar 0) (wNeg (wC (.int 1))), wNeg (wOp gIx (wVar 0) (wC (.int 1))), wNeg (wOp gIx (wVar 0) (wC (.int 2))), wOp gIx (wVar 0) (wC (.int 0))])
theorem der_told_back (Z : Ad) {P : Program} {w : World} {K : PySem.W.Frag} {mg : Str → Option Value} {base : Heap} {f : Addr} (T : Txt mg)  (cdv : Value) (A : Around) (outer : List Env) (s : Shared) (H : Hp) (E : XK) (hg : A.guards = some []) (hr : Room 0 (A.deeper (envOfC "told_back" (defScope stold_back) s.heap.objs.size f cdv))) :
    LSs (cxOf (L2.CX P w) P w K mg base Ntold_back "told_back" (defScope stold_back) f cdv A outer s H E) (wxE E) (defBody stold_back) (wtold_back Z) :=
  lss_one (ls_ret (le_tup (la_cons (le_ix (le_var 0) (le_neg (le_int))) (la_cons (le_neg (le_ix (le_var 0) (le_int))) (la_cons (le_neg (le_ix (le_var 0) (le_int))) (la_cons (le_ix (le_var 0) (le_int)) (la_nil))))) (show 4 ≤ 1000 by decide)))
/-! ### look_at_above -/
abbrev slook_at_above : Stmt := top 35
abbrev Nlook_at_above : List Str := ["form"]
theorem sc_look_at_above : FnScope Nlook_at_above ["form"] (defScope slook_at_above) := ⟨rfl, rfl, rfl, by decide +kernel, rfl, by decide +kernel, by decide +kernel⟩
def wlook_at_above (Z : Ad) : WS := wSeq (wExpr (wCall (Slook_at_form Z) [wVar 0])) (wIf (wTB (wOp gNe (wCall Stold_kind [wVar 0]) (wC (.str "above")))) (wRaise Z.cUnlike (wVar 0)) (wNext))
theorem der_look_at_above (Z : Ad) {P : Program} {w : World} {K : PySem.W.Frag} {mg : Str → Option Value} {base : Heap} {f : Addr} (T : Txt mg) (F_look_at_form : FnD P w K mg base 5 "look_at_form" ["form"] [] (Slook_at_form Z)) (F_told_kind : FnD P w K mg base 3 "told_kind" ["form"] [] Stold_kind) (E_Unlike : ErrD P w K mg base "Unlike" Z.cUnlike) (cdv : Value) (A : Around) (outer : List Env) (s : Shared) (H : Hp) (E : XK) (hg : A.guards = some []) (hr : Room 5 (A.deeper (envOfC "look_at_above" (defScope slook_at_above) s.heap.objs.size f cdv))) :
    LSs (cxOf (L2.CX P w) P w K mg base Nlook_at_above "look_at_above" (defScope slook_at_above) f cdv A outer s H E) (wxE E) (defBody slook_at_above) (wlook_at_above Z) :=
  lss_cons (ls_expr (le_call F_look_at_form hg hr (takes_of rfl rfl rfl rfl) (la_cons (le_var 0) (la_nil)))) (lss_one (ls_if (lt_cmp (od_ne hr.units) (le_call F_told_kind hg hr (takes_of rfl rfl rfl rfl) (la_cons (le_var 0) (la_nil))) (le_globS T.c_ABOVE)) (lss_one (ls_raise E_Unlike rfl (takes_of rfl rfl rfl rfl) (la_cons (le_var 0) (la_nil)) hr)) (lss_nil)))
/-! ### is_least -/
abbrev sis_least : Stmt := top 36
abbrev Nis_least : List Str := ["form", "a", "b", "c"]
theorem sc_is_least : FnScope Nis_least ["form"] (defScope sis_least) := ⟨rfl, rfl, rfl, by decide +kernel, rfl, by decide +kernel, by decide +kernel⟩
def wis_least (Z : Ad) : WS := wSeq (wAsg (wVar 0) (gT [gN 1, gN 2, gN 3])) (wRet (wAndV (wChainN (wNeg (wVar 1)) [(gLt, wVar 2), (gLe, wVar 1), (gLe, wVar 3)]) (wOrV (wOp gGe (wVar 2) (wC (.int 0))) (wOp gNe (wVar 1) (wVar 3)))))
theorem der_is_least (Z : Ad) {P : Program} {w : World} {K : PySem.W.Frag} {mg : Str → Option Value} {base : Heap} {f : Addr} (T : Txt mg)  (cdv : Value) (A : Around) (outer : List Env) (s : Shared) (H : Hp) (E : XK) (hg : A.guards = some []) (hr : Room 0 (A.deeper (envOfC "is_least" (defScope sis_least) s.heap.objs.size f cdv))) :
    LSs (cxOf (L2.CX P w) P w K mg base Nis_least "is_least" (defScope sis_least) f cdv A outer s H E) (wxE E) (defBody sis_least) (wis_least Z) :=
  lss_cons (ls_asg (le_var 0) (lg_tup (lgs_cons (lg_name 1 sc_is_least.nd) (lgs_cons (lg_name 2 sc_is_least.nd) (lgs_cons (lg_name 3 sc_is_least.nd) (lgs_nil)))))) (lss_one (ls_ret (le_and (le_chainN (le_neg (le_var 1)) (lch_cons od_lt (le_var 2) (lch_cons od_le (le_var 1) (lch_last od_le (le_var 3))))) (le_one (le_or (le_cmp od_ge (le_var 2) (le_int)) (le_one (le_cmp (od_ne hr.units) (le_var 1) (le_var 3))))))))
/-! ### told_least -/
abbrev stold_least : Stmt := top 37
abbrev Ntold_least : List Str := ["form", "here", "turn", "a", "b", "c", "step"]
theorem sc_told_least : FnScope Ntold_least ["form"] (defScope stold_least) := ⟨rfl, rfl, rfl, by decide +kernel, rfl, by decide +kernel, by decide +kernel⟩
def wtold_least (Z : Ad) : WS := wSeq (wPar 1 2 (wVar 0) (wTup [wC (.int 1), wC (.int 0), wC (.int 0), wC (.int 1)])) (wSeq (wWhile (wNotT (wTB (wCall Sis_least [wVar 1]))) (wSeq (wAsg (wVar 1) (gT [gN 3, gN 4, gN 5])) (wSeq (wIf (wOrT (wTB (wOp gGt (wVar 3) (wVar 5))) (wAndT (wTB (wOp gEq (wVar 3) (wVar 5))) (wTB (wOp gLt (wVar 4) (wC (.int 0)))))) (wSet 6 (wTup [wC (.int 0), wNeg (wC (.int 1)), wC (.int 1), wC (.int 0)])) (wSet 6 (wTup [wC (.int 1), wOp gFdiv (wOp gSub (wVar 3) (wVar 4)) (wOp gMul (wC (.int 2)) (wVar 3)), wC (.int 0), wC (.int 1)]))) (wPar 1 2 (wCall Stold_turned [wVar 1, wVar 6]) (wCall Stold_then [wVar 2, wVar 6]))))) (wRet (wTup [wVar 1, wVar 2])))
theorem der_told_least (Z : Ad) {P : Program} {w : World} {K : PySem.W.Frag} {mg : Str → Option Value} {base : Heap} {f : Addr} (T : Txt mg) (F_is_least : FnD P w K mg base 1 "is_least" ["form"] [] Sis_least) (F_told_then : FnD P w K mg base 1 "told_then" ["one", "other"] [] Stold_then) (F_told_turned : FnD P w K mg base 2 "told_turned" ["form", "turn"] [] Stold_turned) (cdv : Value) (A : Around) (outer : List Env) (s : Shared) (H : Hp) (E : XK) (hg : A.guards = some []) (hr : Room 2 (A.deeper (envOfC "told_least" (defScope stold_least) s.heap.objs.size f cdv))) :
    LSs (cxOf (L2.CX P w) P w K mg base Ntold_least "told_least" (defScope stold_least) f cdv A outer s H E) (wxE E) (defBody stold_least) (wtold_least Z) :=
  lss_cons (ls_par 1 2 sc_told_least.nd (la_cons (le_var 0) (la_cons (le_tup (la_cons (le_int) (la_cons (le_int) (la_cons (le_int) (la_cons (le_int) (la_nil))))) (show 4 ≤ 1000 by decide)) (la_nil)))) (lss_cons (ls_while (passes_of rfl) (lt_not (lt_val (le_call F_is_least hg hr (takes_of rfl rfl rfl rfl) (la_cons (le_var 1) (la_nil))))) (lss_cons (ls_asg (le_var 1) (lg_tup (lgs_cons (lg_name 3 sc_told_least.nd) (lgs_cons (lg_name 4 sc_told_least.nd) (lgs_cons (lg_name 5 sc_told_least.nd) (lgs_nil)))))) (lss_cons (ls_if ((lw_or (lt_cmp od_gt (le_var 3) (le_var 5)) (lw_or1 ((lw_and (lt_cmp (od_eq hr.units) (le_var 3) (le_var 5)) (lw_and1 (lt_cmp od_lt (le_var 4) (le_int)))).lt))).lt) (lss_one (ls_set 6 sc_told_least.nd (le_tup (la_cons (le_int) (la_cons (le_neg (le_int)) (la_cons (le_int) (la_cons (le_int) (la_nil))))) (show 4 ≤ 1000 by decide)))) (lss_one (ls_set 6 sc_told_least.nd (le_tup (la_cons (le_int) (la_cons (le_op od_fdiv (le_op od_sub (le_var 3) (le_var 4)) (le_op od_mul (le_int) (le_var 3))) (la_cons (le_int) (la_cons (le_int) (la_nil))))) (show 4 ≤ 1000 by decide))))) (lss_one (ls_par 1 2 sc_told_least.nd (la_cons (le_call F_told_turned hg hr (takes_of rfl rfl rfl rfl) (la_cons (le_var 1) (la_cons (le_var 6) (la_nil)))) (la_cons (le_call F_told_then hg hr (takes_of rfl rfl rfl rfl) (la_cons (le_var 2) (la_cons (le_var 6) (la_nil)))) (la_nil)))))))) (lss_one (ls_ret (le_tup (la_cons (le_var 1) (la_cons (le_var 2) (la_nil))) (show 2 ≤ 1000 by decide)))))
/-! ### least_form -/
abbrev sleast_form : Stmt := top 38
abbrev Nleast_form : List Str := ["form"]
theorem sc_least_form : FnScope Nleast_form ["form"] (defScope sleast_form) := ⟨rfl, rfl, rfl, by decide +kernel, rfl, by decide +kernel, by decide +kernel⟩
def wleast_form (Z : Ad) : WS := wSeq (wExpr (wCall (Slook_at_above Z) [wVar 0])) (wRet (wCall Stold_least [wVar 0]))
theorem der_least_form (Z : Ad) {P : Program} {w : World} {K : PySem.W.Frag} {mg : Str → Option Value} {base : Heap} {f : Addr} (T : Txt mg) (F_look_at_above : FnD P w K mg base 6 "look_at_above" ["form"] [] (Slook_at_above Z)) (F_told_least : FnD P w K mg base 3 "told_least" ["form"] [] Stold_least) (cdv : Value) (A : Around) (outer : List Env) (s : Shared) (H : Hp) (E : XK) (hg : A.guards = some []) (hr : Room 6 (A.deeper (envOfC "least_form" (defScope sleast_form) s.heap.objs.size f cdv))) :
    LSs (cxOf (L2.CX P w) P w K mg base Nleast_form "least_form" (defScope sleast_form) f cdv A outer s H E) (wxE E) (defBody sleast_form) (wleast_form Z) :=
  lss_cons (ls_expr (le_call F_look_at_above hg hr (takes_of rfl rfl rfl rfl) (la_cons (le_var 0) (la_nil)))) (lss_one (ls_ret (le_call F_told_least hg hr (takes_of rfl rfl rfl rfl) (la_cons (le_var 0) (la_nil)))))
/-! ### shows_least -/
abbrev sshows_least : Stmt := top 39
abbrev Nshows_least : List Str := ["form", "value", "found"]
theorem sc_shows_least : FnScope Nshows_least ["form", "value"] (defScope sshows_least) := ⟨rfl, rfl, rfl, by decide +kernel, rfl, by decide +kernel, by decide +kernel⟩
def wshows_least (Z : Ad) : WS := wSeq (wExpr (wCall (Slook_at_above Z) [wVar 0])) (wSeq (wIf (wOrT (wNotT (wTB (wIsi .tuple (wVar 1)))) (wOrT (wTB (wOp gNe (wB gLen [wVar 1]) (wC (.int 2)))) (wNotT (wTB (wCall Sis_turn [wOp gIx (wVar 1) (wC (.int 1))]))))) (wRet (wC (.bl false))) (wNext)) (wSeq (wSet 2 (wCall Stold_turned [wVar 0, wOp gIx (wVar 1) (wC (.int 1))])) (wRet (wAndV (wCall Sis_same_tuple [wOp gIx (wVar 1) (wC (.int 0)), wVar 2]) (wCall Sis_least [wVar 2])))))
theorem der_shows_least (Z : Ad) {P : Program} {w : World} {K : PySem.W.Frag} {mg : Str → Option Value} {base : Heap} {f : Addr} (T : Txt mg) (F_is_least : FnD P w K mg base 1 "is_least" ["form"] [] Sis_least) (F_is_same_tuple : FnD P w K mg base 1 "is_same_tuple" ["value", "form"] [] Sis_same_tuple) (F_is_turn : FnD P w K mg base 4 "is_turn" ["value"] [] Sis_turn) (F_look_at_above : FnD P w K mg base 6 "look_at_above" ["form"] [] (Slook_at_above Z)) (F_told_turned : FnD P w K mg base 2 "told_turned" ["form", "turn"] [] Stold_turned) (cdv : Value) (A : Around) (outer : List Env) (s : Shared) (H : Hp) (E : XK) (hg : A.guards = some []) (hr : Room 6 (A.deeper (envOfC "shows_least" (defScope sshows_least) s.heap.objs.size f cdv))) :
    LSs (cxOf (L2.CX P w) P w K mg base Nshows_least "shows_least" (defScope sshows_least) f cdv A outer s H E) (wxE E) (defBody sshows_least) (wshows_least Z) :=
  lss_cons (ls_expr (le_call F_look_at_above hg hr (takes_of rfl rfl rfl rfl) (la_cons (le_var 0) (la_nil)))) (lss_cons (ls_if ((lw_or (lt_not (lt_val (le_isi (t := .tuple) T.z_isinstance T.z_tuple (by decide +kernel) (le_var 1)))) (lw_or (lt_cmp (od_ne hr.units) (le_callB cd_len T.z_len (by decide +kernel) (la_cons (le_var 1) (la_nil))) (le_int)) (lw_or1 (lt_not (lt_val (le_call F_is_turn hg hr (takes_of rfl rfl rfl rfl) (la_cons (le_ix (le_var 1) (le_int)) (la_nil)))))))).lt) (lss_one (ls_ret (le_bl))) (lss_nil)) (lss_cons (ls_set 2 sc_shows_least.nd (le_call F_told_turned hg hr (takes_of rfl rfl rfl rfl) (la_cons (le_var 0) (la_cons (le_ix (le_var 1) (le_int)) (la_nil))))) (lss_one (ls_ret (le_and (le_call F_is_same_tuple hg hr (takes_of rfl rfl rfl rfl) (la_cons (le_ix (le_var 1) (le_int)) (la_cons (le_var 2) (la_nil)))) (le_one (le_call F_is_least hg hr (takes_of rfl rfl rfl rfl) (la_cons (le_var 2) (la_nil)))))))))
/-! ### is_same_tuple -/
abbrev sis_same_tuple : Stmt := top 40
abbrev Nis_same_tuple : List Str := ["value", "form", "part"]
theorem sc_is_same_tuple : FnScope Nis_same_tuple ["value", "form"] (defScope sis_same_tuple) := ⟨rfl, rfl, rfl, by decide +kernel, rfl, by decide +kernel, by decide +kernel⟩
def wis_same_tuple (Z : Ad) : WS := wRet (wAndV (wIsi .tuple (wVar 0)) (wAndV (wOp gEq (wVar 0) (wVar 1)) (wNotV (wB gAny [wLc (wSeqI (wVar 0)) (CT.one 2) (wYes) (wIsi .bool (wVar 2))]))))
theorem der_is_same_tuple (Z : Ad) {P : Program} {w : World} {K : PySem.W.Frag} {mg : Str → Option Value} {base : Heap} {f : Addr} (T : Txt mg)  (cdv : Value) (A : Around) (outer : List Env) (s : Shared) (H : Hp) (E : XK) (hg : A.guards = some []) (hr : Room 0 (A.deeper (envOfC "is_same_tuple" (defScope sis_same_tuple) s.heap.objs.size f cdv))) :
    LSs (cxOf (L2.CX P w) P w K mg base Nis_same_tuple "is_same_tuple" (defScope sis_same_tuple) f cdv A outer s H E) (wxE E) (defBody sis_same_tuple) (wis_same_tuple Z) :=
  lss_one (ls_ret (le_and (le_isi (t := .tuple) T.z_isinstance T.z_tuple (by decide +kernel) (le_var 0)) (le_and (le_cmp (od_eq hr.units) (le_var 0) (le_var 1)) (le_one (le_not (le_callB (cd_any rfl) T.z_any (by decide +kernel) (la_cons (le_lc sc_is_same_tuple.nd (li_seq (le_var 0)) (ok := by show BlkOk Nis_same_tuple (defScope sis_same_tuple) _ _; exact ⟨rfl, by decide +kernel, by decide +kernel, by decide +kernel, by decide +kernel⟩) (own := [("part", 2)]) (hv := rfl) (hg := (fun _ _ _ _ _ => pg_one 2 sc_is_same_tuple.nd)) (ht := (fun _ _ _ _ _ => lps_nil)) (he := (fun _ _ _ _ _ => le_isi (t := .bool) T.z_isinstance T.z_bool (by decide +kernel) (le_var 2)))) (la_nil))))))))
/-! ### look_at_two -/
abbrev slook_at_two : Stmt := top 41
abbrev Nlook_at_two : List Str := ["one", "other"]
theorem sc_look_at_two : FnScope Nlook_at_two ["one", "other"] (defScope slook_at_two) := ⟨rfl, rfl, rfl, by decide +kernel, rfl, by decide +kernel, by decide +kernel⟩
def wlook_at_two (Z : Ad) : WS := wSeq (wExpr (wCall (Slook_at_above Z) [wVar 0])) (wExpr (wCall (Slook_at_above Z) [wVar 1]))
theorem der_look_at_two (Z : Ad) {P : Program} {w : World} {K : PySem.W.Frag} {mg : Str → Option Value} {base : Heap} {f : Addr} (T : Txt mg) (F_look_at_above : FnD P w K mg base 6 "look_at_above" ["form"] [] (Slook_at_above Z)) (cdv : Value) (A : Around) (outer : List Env) (s : Shared) (H : Hp) (E : XK) (hg : A.guards = some []) (hr : Room 6 (A.deeper (envOfC "look_at_two" (defScope slook_at_two) s.heap.objs.size f cdv))) :
    LSs (cxOf (L2.CX P w) P w K mg base Nlook_at_two "look_at_two" (defScope slook_at_two) f cdv A outer s H E) (wxE E) (defBody slook_at_two) (wlook_at_two Z) :=
  lss_cons (ls_expr (le_call F_look_at_above hg hr (takes_of rfl rfl rfl rfl) (la_cons (le_var 0) (la_nil)))) (lss_one (ls_expr (le_call F_look_at_above hg hr (takes_of rfl rfl rfl rfl) (la_cons (le_var 1) (la_nil)))))
/-! ### same_above -/
abbrev ssame_above : Stmt := top 42
abbrev Nsame_above : List Str := ["one", "other", "first", "second"]
theorem sc_same_above : FnScope Nsame_above ["one", "other"] (defScope ssame_above) := ⟨rfl, rfl, rfl, by decide +kernel, rfl, by decide +kernel, by decide +kernel⟩
def wsame_above (Z : Ad) : WS := wSeq (wExpr (wCall (Slook_at_two Z) [wVar 0, wVar 1])) (wSeq (wPar 2 3 (wCall Stold_least [wVar 0]) (wCall Stold_least [wVar 1])) (wSeq (wIf (wTB (wOp gNe (wOp gIx (wVar 2) (wC (.int 0))) (wOp gIx (wVar 3) (wC (.int 0))))) (wRet (wTup [wC (.str "least"), wOp gIx (wVar 2) (wC (.int 0)), wOp gIx (wVar 3) (wC (.int 0))])) (wNext)) (wRet (wTup [wC (.str "turn"), wCall Stold_then [wOp gIx (wVar 2) (wC (.int 1)), wCall Stold_back [wOp gIx (wVar 3) (wC (.int 1))]]]))))
theorem der_same_above (Z : Ad) {P : Program} {w : World} {K : PySem.W.Frag} {mg : Str → Option Value} {base : Heap} {f : Addr} (T : Txt mg) (F_look_at_two : FnD P w K mg base 7 "look_at_two" ["one", "other"] [] (Slook_at_two Z)) (F_told_back : FnD P w K mg base 1 "told_back" ["turn"] [] Stold_back) (F_told_least : FnD P w K mg base 3 "told_least" ["form"] [] Stold_least) (F_told_then : FnD P w K mg base 1 "told_then" ["one", "other"] [] Stold_then) (cdv : Value) (A : Around) (outer : List Env) (s : Shared) (H : Hp) (E : XK) (hg : A.guards = some []) (hr : Room 7 (A.deeper (envOfC "same_above" (defScope ssame_above) s.heap.objs.size f cdv))) :
    LSs (cxOf (L2.CX P w) P w K mg base Nsame_above "same_above" (defScope ssame_above) f cdv A outer s H E) (wxE E) (defBody ssame_above) (wsame_above Z) :=
  lss_cons (ls_expr (le_call F_look_at_two hg hr (takes_of rfl rfl rfl rfl) (la_cons (le_var 0) (la_cons (le_var 1) (la_nil))))) (lss_cons (ls_par 2 3 sc_same_above.nd (la_cons (le_call F_told_least hg hr (takes_of rfl rfl rfl rfl) (la_cons (le_var 0) (la_nil))) (la_cons (le_call F_told_least hg hr (takes_of rfl rfl rfl rfl) (la_cons (le_var 1) (la_nil))) (la_nil)))) (lss_cons (ls_if (lt_cmp (od_ne hr.units) (le_ix (le_var 2) (le_int)) (le_ix (le_var 3) (le_int))) (lss_one (ls_ret (le_tup (la_cons (le_globS T.c_LEAST) (la_cons (le_ix (le_var 2) (le_int)) (la_cons (le_ix (le_var 3) (le_int)) (la_nil)))) (show 3 ≤ 1000 by decide)))) (lss_nil)) (lss_one (ls_ret (le_tup (la_cons (le_globS T.c_TURN) (la_cons (le_call F_told_then hg hr (takes_of rfl rfl rfl rfl) (la_cons (le_ix (le_var 2) (le_int)) (la_cons (le_call F_told_back hg hr (takes_of rfl rfl rfl rfl) (la_cons (le_ix (le_var 3) (le_int)) (la_nil))) (la_nil)))) (la_nil))) (show 2 ≤ 1000 by decide))))))
/-! ### shows_same_above -/
abbrev sshows_same_above : Stmt := top 43
abbrev Nshows_same_above : List Str := ["one", "other", "value", "first", "second"]
theorem sc_shows_same_above : FnScope Nshows_same_above ["one", "other", "value"] (defScope sshows_same_above) := ⟨rfl, rfl, rfl, by decide +kernel, rfl, by decide +kernel, by decide +kernel⟩
def wshows_same_above (Z : Ad) : WS := wSeq (wExpr (wCall (Slook_at_two Z) [wVar 0, wVar 1])) (wSeq (wIf (wNotT (wTB (wCall Sis_told [wVar 2, wTup [wC (.int 2), wOp gAdd (wC (.int 1)) (wC (.int 2))]]))) (wRet (wC (.bl false))) (wNext)) (wSeq (wIf (wAndT (wTB (wOp gEq (wOp gIx (wVar 2) (wC (.int 0))) (wC (.str "turn")))) (wTB (wOp gEq (wB gLen [wVar 2]) (wC (.int 2))))) (wRet (wAndV (wCall Sis_turn [wOp gIx (wVar 2) (wC (.int 1))]) (wOp gEq (wCall Stold_turned [wVar 0, wOp gIx (wVar 2) (wC (.int 1))]) (wVar 1)))) (wNext)) (wSeq (wIf (wOrT (wTB (wOp gNe (wOp gIx (wVar 2) (wC (.int 0))) (wC (.str "least")))) (wTB (wOp gNe (wB gLen [wVar 2]) (wOp gAdd (wC (.int 1)) (wC (.int 2)))))) (wRet (wC (.bl false))) (wNext)) (wSeq (wPar 3 4 (wOp gIx (wCall Stold_least [wVar 0]) (wC (.int 0))) (wOp gIx (wCall Stold_least [wVar 1]) (wC (.int 0)))) (wRet (wAndV (wCall Sis_same_tuple [wOp gIx (wVar 2) (wC (.int 1)), wVar 3]) (wAndV (wCall Sis_same_tuple [wOp gIx (wVar 2) (wC (.int 2)), wVar 4]) (wOp gNe (wVar 3) (wVar 4)))))))))
theorem der_shows_same_above (Z : Ad) {P : Program} {w : World} {K : PySem.W.Frag} {mg : Str → Option Value} {base : Heap} {f : Addr} (T : Txt mg) (F_is_same_tuple : FnD P w K mg base 1 "is_same_tuple" ["value", "form"] [] Sis_same_tuple) (F_is_told : FnD P w K mg base 1 "is_told" ["value", "sizes"] [] Sis_told) (F_is_turn : FnD P w K mg base 4 "is_turn" ["value"] [] Sis_turn) (F_look_at_two : FnD P w K mg base 7 "look_at_two" ["one", "other"] [] (Slook_at_two Z)) (F_told_least : FnD P w K mg base 3 "told_least" ["form"] [] Stold_least) (F_told_turned : FnD P w K mg base 2 "told_turned" ["form", "turn"] [] Stold_turned) (cdv : Value) (A : Around) (outer : List Env) (s : Shared) (H : Hp) (E : XK) (hg : A.guards = some []) (hr : Room 7 (A.deeper (envOfC "shows_same_above" (defScope sshows_same_above) s.heap.objs.size f cdv))) :
    LSs (cxOf (L2.CX P w) P w K mg base Nshows_same_above "shows_same_above" (defScope sshows_same_above) f cdv A outer s H E) (wxE E) (defBody sshows_same_above) (wshows_same_above Z) :=
  lss_cons (ls_expr (le_call F_look_at_two hg hr (takes_of rfl rfl rfl rfl) (la_cons (le_var 0) (la_cons (le_var 1) (la_nil))))) (lss_cons (ls_if (lt_not (lt_val (le_call F_is_told hg hr (takes_of rfl rfl rfl rfl) (la_cons (le_var 2) (la_cons (le_tup (la_cons (le_int) (la_cons (le_op od_add (le_int) (le_int)) (la_nil))) (show 2 ≤ 1000 by decide)) (la_nil)))))) (lss_one (ls_ret (le_bl))) (lss_nil)) (lss_cons (ls_if ((lw_and (lt_cmp (od_eq hr.units) (le_ix (le_var 2) (le_int)) (le_globS T.c_TURN)) (lw_and1 (lt_cmp (od_eq hr.units) (le_callB cd_len T.z_len (by decide +kernel) (la_cons (le_var 2) (la_nil))) (le_int)))).lt) (lss_one (ls_ret (le_and (le_call F_is_turn hg hr (takes_of rfl rfl rfl rfl) (la_cons (le_ix (le_var 2) (le_int)) (la_nil))) (le_one (le_cmp (od_eq hr.units) (le_call F_told_turned hg hr (takes_of rfl rfl rfl rfl) (la_cons (le_var 0) (la_cons (le_ix (le_var 2) (le_int)) (la_nil)))) (le_var 1)))))) (lss_nil)) (lss_cons (ls_if ((lw_or (lt_cmp (od_ne hr.units) (le_ix (le_var 2) (le_int)) (le_globS T.c_LEAST)) (lw_or1 (lt_cmp (od_ne hr.units) (le_callB cd_len T.z_len (by decide +kernel) (la_cons (le_var 2) (la_nil))) (le_op od_add (le_int) (le_int))))).lt) (lss_one (ls_ret (le_bl))) (lss_nil)) (lss_cons (ls_par 3 4 sc_shows_same_above.nd (la_cons (le_ix (le_call F_told_least hg hr (takes_of rfl rfl rfl rfl) (la_cons (le_var 0) (la_nil))) (le_int)) (la_cons (le_ix (le_call F_told_least hg hr (takes_of rfl rfl rfl rfl) (la_cons (le_var 1) (la_nil))) (le_int)) (la_nil)))) (lss_one (ls_ret (le_and (le_call F_is_same_tuple hg hr (takes_of rfl rfl rfl rfl) (la_cons (le_ix (le_var 2) (le_int)) (la_cons (le_var 3) (la_nil)))) (le_and (le_call F_is_same_tuple hg hr (takes_of rfl rfl rfl rfl) (la_cons (le_ix (le_var 2) (le_int)) (la_cons (le_var 4) (la_nil)))) (le_one (le_cmp (od_ne hr.units) (le_var 3) (le_var 4)))))))))))
/-! ### told_own -/
abbrev stold_own : Stmt := top 44
abbrev Ntold_own : List Str := ["form", "a", "b", "c", "found", "turn", "part"]
theorem sc_told_own : FnScope Ntold_own ["form"] (defScope stold_own) := ⟨rfl, rfl, rfl, by decide +kernel, rfl, by decide +kernel, by decide +kernel⟩
def wtold_own (Z : Ad) : WS := wSeq (wAsg (wVar 0) (gT [gN 1, gN 2, gN 3])) (wSeq (wSet 4 (wLst [wTup [wC (.int 1), wC (.int 0), wC (.int 0), wC (.int 1)], wTup [wNeg (wC (.int 1)), wC (.int 0), wC (.int 0), wNeg (wC (.int 1))]])) (wSeq (wIf (wAndT (wTB (wOp gEq (wVar 2) (wC (.int 0)))) (wTB (wOp gEq (wVar 1) (wVar 3)))) (wExpr (wMt gExtend (wVar 4) [wLst [wTup [wC (.int 0), wNeg (wC (.int 1)), wC (.int 1), wC (.int 0)], wTup [wC (.int 0), wC (.int 1), wNeg (wC (.int 1)), wC (.int 0)]]])) (wNext)) (wSeq (wIf (wTB (wChainN (wVar 1) [(gEq, wVar 2), (gEq, wVar 3)])) (wFor (wSeqI (wTup [wTup [wC (.int 0), wNeg (wC (.int 1)), wC (.int 1), wC (.int 1)], wTup [wC (.int 1), wC (.int 1), wNeg (wC (.int 1)), wC (.int 0)]])) (gN 5) (wExpr (wMt gExtend (wVar 4) [wLst [wVar 5, wB gTuple [wLc (wSeqI (wVar 5)) (CT.one 6) (wYes) (wNeg (wVar 6))]]]))) (wNext)) (wRet (wB gSorted [wVar 4])))))
theorem der_told_own (Z : Ad) {P : Program} {w : World} {K : PySem.W.Frag} {mg : Str → Option Value} {base : Heap} {f : Addr} (T : Txt mg)  (cdv : Value) (A : Around) (outer : List Env) (s : Shared) (H : Hp) (E : XK) (hg : A.guards = some []) (hr : Room 0 (A.deeper (envOfC "told_own" (defScope stold_own) s.heap.objs.size f cdv))) :
    LSs (cxOf (L2.CX P w) P w K mg base Ntold_own "told_own" (defScope stold_own) f cdv A outer s H E) (wxE E) (defBody stold_own) (wtold_own Z) :=
  lss_cons (ls_asg (le_var 0) (lg_tup (lgs_cons (lg_name 1 sc_told_own.nd) (lgs_cons (lg_name 2 sc_told_own.nd) (lgs_cons (lg_name 3 sc_told_own.nd) (lgs_nil)))))) (lss_cons (ls_set 4 sc_told_own.nd (le_lst (la_cons (le_tup (la_cons (le_int) (la_cons (le_int) (la_cons (le_int) (la_cons (le_int) (la_nil))))) (show 4 ≤ 1000 by decide)) (la_cons (le_tup (la_cons (le_neg (le_int)) (la_cons (le_int) (la_cons (le_int) (la_cons (le_neg (le_int)) (la_nil))))) (show 4 ≤ 1000 by decide)) (la_nil))) (show 2 ≤ 1000 by decide))) (lss_cons (ls_if ((lw_and (lt_cmp (od_eq hr.units) (le_var 2) (le_int)) (lw_and1 (lt_cmp (od_eq hr.units) (le_var 1) (le_var 3)))).lt) (lss_one (ls_expr (le_extend (le_var 4) (la_cons (le_lst (la_cons (le_tup (la_cons (le_int) (la_cons (le_neg (le_int)) (la_cons (le_int) (la_cons (le_int) (la_nil))))) (show 4 ≤ 1000 by decide)) (la_cons (le_tup (la_cons (le_int) (la_cons (le_int) (la_cons (le_neg (le_int)) (la_cons (le_int) (la_nil))))) (show 4 ≤ 1000 by decide)) (la_nil))) (show 2 ≤ 1000 by decide)) (la_nil))))) (lss_nil)) (lss_cons (ls_if (lt_chainN (le_var 1) (lch_cons (od_eq hr.units) (le_var 2) (lch_last (od_eq hr.units) (le_var 3)))) (lss_one (ls_for (passes_of rfl) (li_seq (le_tup (la_cons (le_tup (la_cons (le_int) (la_cons (le_neg (le_int)) (la_cons (le_int) (la_cons (le_int) (la_nil))))) (show 4 ≤ 1000 by decide)) (la_cons (le_tup (la_cons (le_int) (la_cons (le_int) (la_cons (le_neg (le_int)) (la_cons (le_int) (la_nil))))) (show 4 ≤ 1000 by decide)) (la_nil))) (show 2 ≤ 1000 by decide))) (lg_name 5 sc_told_own.nd) (lss_one (ls_expr (le_extend (le_var 4) (la_cons (le_lst (la_cons (le_var 5) (la_cons (le_callTy cd_tuple T.z_tuple (by decide +kernel) (la_cons (le_lc sc_told_own.nd (li_seq (le_var 5)) (ok := by show BlkOk Ntold_own (defScope stold_own) _ _; exact ⟨rfl, by decide +kernel, by decide +kernel, by decide +kernel, by decide +kernel⟩) (own := [("part", 6)]) (hv := rfl) (hg := (fun _ _ _ _ _ => pg_one 6 sc_told_own.nd)) (ht := (fun _ _ _ _ _ => lps_nil)) (he := (fun _ _ _ _ _ => le_neg (le_var 6)))) (la_nil))) (la_nil))) (show 2 ≤ 1000 by decide)) (la_nil))))))) (lss_nil)) (lss_one (ls_ret (le_callB (cd_sorted hr.units) T.z_sorted (by decide +kernel) (la_cons (le_var 4) (la_nil))))))))
/-! ### own_turns -/
abbrev sown_turns : Stmt := top 45
abbrev Nown_turns : List Str := ["form", "least", "turn", "back", "own"]
theorem sc_own_turns : FnScope Nown_turns ["form"] (defScope sown_turns) := ⟨rfl, rfl, rfl, by decide +kernel, rfl, by decide +kernel, by decide +kernel⟩
def wown_turns (Z : Ad) : WS := wSeq (wExpr (wCall (Slook_at_above Z) [wVar 0])) (wSeq (wAsg (wCall Stold_least [wVar 0]) (gT [gN 1, gN 2])) (wSeq (wSet 3 (wCall Stold_back [wVar 2])) (wRet (wB gTuple [wB gSorted [wLc (wSeqI (wCall Stold_own [wVar 1])) (CT.one 4) (wYes) (wCall Stold_then [wCall Stold_then [wVar 2, wVar 4], wVar 3])]]))))
theorem der_own_turns (Z : Ad) {P : Program} {w : World} {K : PySem.W.Frag} {mg : Str → Option Value} {base : Heap} {f : Addr} (T : Txt mg) (F_look_at_above : FnD P w K mg base 6 "look_at_above" ["form"] [] (Slook_at_above Z)) (F_told_back : FnD P w K mg base 1 "told_back" ["turn"] [] Stold_back) (F_told_least : FnD P w K mg base 3 "told_least" ["form"] [] Stold_least) (F_told_own : FnD P w K mg base 1 "told_own" ["form"] [] Stold_own) (F_told_then : FnD P w K mg base 1 "told_then" ["one", "other"] [] Stold_then) (cdv : Value) (A : Around) (outer : List Env) (s : Shared) (H : Hp) (E : XK) (hg : A.guards = some []) (hr : Room 6 (A.deeper (envOfC "own_turns" (defScope sown_turns) s.heap.objs.size f cdv))) :
    LSs (cxOf (L2.CX P w) P w K mg base Nown_turns "own_turns" (defScope sown_turns) f cdv A outer s H E) (wxE E) (defBody sown_turns) (wown_turns Z) :=
  lss_cons (ls_expr (le_call F_look_at_above hg hr (takes_of rfl rfl rfl rfl) (la_cons (le_var 0) (la_nil)))) (lss_cons (ls_asg (le_call F_told_least hg hr (takes_of rfl rfl rfl rfl) (la_cons (le_var 0) (la_nil))) (lg_tup (lgs_cons (lg_name 1 sc_own_turns.nd) (lgs_cons (lg_name 2 sc_own_turns.nd) (lgs_nil))))) (lss_cons (ls_set 3 sc_own_turns.nd (le_call F_told_back hg hr (takes_of rfl rfl rfl rfl) (la_cons (le_var 2) (la_nil)))) (lss_one (ls_ret (le_callTy cd_tuple T.z_tuple (by decide +kernel) (la_cons (le_callB (cd_sorted hr.units) T.z_sorted (by decide +kernel) (la_cons (le_lc sc_own_turns.nd (li_seq (le_call F_told_own hg hr (takes_of rfl rfl rfl rfl) (la_cons (le_var 1) (la_nil)))) (ok := by show BlkOk Nown_turns (defScope sown_turns) _ _; exact ⟨rfl, by decide +kernel, by decide +kernel, by decide +kernel, by decide +kernel⟩) (own := [("own", 4)]) (hv := rfl) (hg := (fun _ _ _ _ _ => pg_one 4 sc_own_turns.nd)) (ht := (fun _ _ _ _ _ => lps_nil)) (he := (fun _ _ _ _ _ => le_call F_told_then hg hr LamX.takes0 (la_cons (le_call F_told_then hg hr LamX.takes0 (la_cons (le_var 2) (la_cons (le_var 4) (la_nil)))) (la_cons (le_var 3) (la_nil)))))) (la_nil))) (la_nil)))))))
/-! ### look_at_size_below -/
abbrev slook_at_size_below : Stmt := top 46
abbrev Nlook_at_size_below : List Str := ["whole"]
theorem sc_look_at_size_below : FnScope Nlook_at_size_below ["whole"] (defScope slook_at_size_below) := ⟨rfl, rfl, rfl, by decide +kernel, rfl, by decide +kernel, by decide +kernel⟩
def wlook_at_size_below (Z : Ad) : WS := wIf (wOrT (wNotT (wTB (wCall Sis_int [wVar 0, wNeg (wC (.int 100000)), wOp gSub (wNeg (wC (.int 2))) (wC (.int 1))]))) (wTB (wOp gGt (wOp gMod (wVar 0) (wC (.int 4))) (wC (.int 1))))) (wRaise Z.cBadSize (wVar 0)) (wNext)
theorem der_look_at_size_below (Z : Ad) {P : Program} {w : World} {K : PySem.W.Frag} {mg : Str → Option Value} {base : Heap} {f : Addr} (T : Txt mg) (F_is_int : FnD P w K mg base 1 "is_int" ["value", "low", "high"] [] Sis_int) (E_BadSize : ErrD P w K mg base "BadSize" Z.cBadSize) (cdv : Value) (A : Around) (outer : List Env) (s : Shared) (H : Hp) (E : XK) (hg : A.guards = some []) (hr : Room 2 (A.deeper (envOfC "look_at_size_below" (defScope slook_at_size_below) s.heap.objs.size f cdv))) :
    LSs (cxOf (L2.CX P w) P w K mg base Nlook_at_size_below "look_at_size_below" (defScope slook_at_size_below) f cdv A outer s H E) (wxE E) (defBody slook_at_size_below) (wlook_at_size_below Z) :=
  lss_one (ls_if ((lw_or (lt_not (lt_val (le_call F_is_int hg hr (takes_of rfl rfl rfl rfl) (la_cons (le_var 0) (la_cons (le_neg (le_globI T.c_MOST_SIZE)) (la_cons (le_op od_sub (le_neg (le_int)) (le_int)) (la_nil))))))) (lw_or1 (lt_cmp od_gt (le_op od_mod (le_var 0) (le_int)) (le_int)))).lt) (lss_one (ls_raise E_BadSize rfl (takes_of rfl rfl rfl rfl) (la_cons (le_var 0) (la_nil)) hr)) (lss_nil))
/-! ### told_all_least -/
abbrev stold_all_least : Stmt := top 47
abbrev Ntold_all_least : List Str := ["whole", "found", "a", "b", "part"]
theorem sc_told_all_least : FnScope Ntold_all_least ["whole"] (defScope stold_all_least) := ⟨rfl, rfl, rfl, by decide +kernel, rfl, by decide +kernel, by decide +kernel⟩
def wtold_all_least (Z : Ad) : WS := wSeq (wPar 1 2 (wLst []) (wC (.int 1))) (wSeq (wWhile (wTB (wOp gLe (wOp gAdd (wOp gMul (wOp gMul (wC (.int 2)) (wVar 2)) (wVar 2)) (wOp gMul (wVar 2) (wVar 2))) (wNeg (wVar 0)))) (wSeq (wFor (wRng2 (wOp gAdd (wNeg (wVar 2)) (wC (.int 1))) (wOp gAdd (wVar 2) (wC (.int 1)))) (gN 3) (wSeq (wSet 4 (wOp gSub (wOp gMul (wVar 3) (wVar 3)) (wVar 0))) (wIf (wAndT (wTB (wOp gEq (wOp gMod (wVar 4) (wOp gMul (wC (.int 4)) (wVar 2))) (wC (.int 0)))) (wTB (wCall Sis_least [wTup [wVar 2, wVar 3, wOp gFdiv (wVar 4) (wOp gMul (wC (.int 4)) (wVar 2))]]))) (wExpr (wMt gAppend (wVar 1) [wTup [wVar 2, wVar 3, wOp gFdiv (wVar 4) (wOp gMul (wC (.int 4)) (wVar 2))]])) (wNext)))) (wAug 2 gAddI (wC (.int 1))))) (wRet (wB gSorted [wVar 1])))
theorem der_told_all_least (Z : Ad) {P : Program} {w : World} {K : PySem.W.Frag} {mg : Str → Option Value} {base : Heap} {f : Addr} (T : Txt mg) (F_is_least : FnD P w K mg base 1 "is_least" ["form"] [] Sis_least) (cdv : Value) (A : Around) (outer : List Env) (s : Shared) (H : Hp) (E : XK) (hg : A.guards = some []) (hr : Room 1 (A.deeper (envOfC "told_all_least" (defScope stold_all_least) s.heap.objs.size f cdv))) :
    LSs (cxOf (L2.CX P w) P w K mg base Ntold_all_least "told_all_least" (defScope stold_all_least) f cdv A outer s H E) (wxE E) (defBody stold_all_least) (wtold_all_least Z) :=
  lss_cons (ls_par 1 2 sc_told_all_least.nd (la_cons (le_lst (la_nil) (show 0 ≤ 1000 by decide)) (la_cons (le_int) (la_nil)))) (lss_cons (ls_while (passes_of rfl) (lt_cmp od_le (le_op od_add (le_op od_mul (le_op od_mul (le_int) (le_var 2)) (le_var 2)) (le_op od_mul (le_var 2) (le_var 2))) (le_neg (le_var 0))) (lss_cons (ls_for (passes_of rfl) (li_rng2 T.z_range (la_cons (le_op od_add (le_neg (le_var 2)) (le_int)) (la_cons (le_op od_add (le_var 2) (le_int)) (la_nil)))) (lg_name 3 sc_told_all_least.nd) (lss_cons (ls_set 4 sc_told_all_least.nd (le_op od_sub (le_op od_mul (le_var 3) (le_var 3)) (le_var 0))) (lss_one (ls_if ((lw_and (lt_cmp (od_eq hr.units) (le_op od_mod (le_var 4) (le_op od_mul (le_int) (le_var 2))) (le_int)) (lw_and1 (lt_val (le_call F_is_least hg hr (takes_of rfl rfl rfl rfl) (la_cons (le_tup (la_cons (le_var 2) (la_cons (le_var 3) (la_cons (le_op od_fdiv (le_var 4) (le_op od_mul (le_int) (le_var 2))) (la_nil)))) (show 3 ≤ 1000 by decide)) (la_nil)))))).lt) (lss_one (ls_expr (le_append (le_var 1) (la_cons (le_tup (la_cons (le_var 2) (la_cons (le_var 3) (la_cons (le_op od_fdiv (le_var 4) (le_op od_mul (le_int) (le_var 2))) (la_nil)))) (show 3 ≤ 1000 by decide)) (la_nil))))) (lss_nil))))) (lss_one (ls_aug 2 sc_told_all_least.nd od_iadd (le_int))))) (lss_one (ls_ret (le_callB (cd_sorted hr.units) T.z_sorted (by decide +kernel) (la_cons (le_var 1) (la_nil))))))
/-! ### all_least -/
abbrev sall_least : Stmt := top 48
abbrev Nall_least : List Str := ["whole"]
theorem sc_all_least : FnScope Nall_least ["whole"] (defScope sall_least) := ⟨rfl, rfl, rfl, by decide +kernel, rfl, by decide +kernel, by decide +kernel⟩
def wall_least (Z : Ad) : WS := wSeq (wExpr (wCall (Slook_at_size_below Z) [wVar 0])) (wRet (wB gTuple [wCall Stold_all_least [wVar 0]]))
theorem der_all_least (Z : Ad) {P : Program} {w : World} {K : PySem.W.Frag} {mg : Str → Option Value} {base : Heap} {f : Addr} (T : Txt mg) (F_look_at_size_below : FnD P w K mg base 3 "look_at_size_below" ["whole"] [] (Slook_at_size_below Z)) (F_told_all_least : FnD P w K mg base 2 "told_all_least" ["whole"] [] Stold_all_least) (cdv : Value) (A : Around) (outer : List Env) (s : Shared) (H : Hp) (E : XK) (hg : A.guards = some []) (hr : Room 3 (A.deeper (envOfC "all_least" (defScope sall_least) s.heap.objs.size f cdv))) :
    LSs (cxOf (L2.CX P w) P w K mg base Nall_least "all_least" (defScope sall_least) f cdv A outer s H E) (wxE E) (defBody sall_least) (wall_least Z) :=
  lss_cons (ls_expr (le_call F_look_at_size_below hg hr (takes_of rfl rfl rfl rfl) (la_cons (le_var 0) (la_nil)))) (lss_one (ls_ret (le_callTy cd_tuple T.z_tuple (by decide +kernel) (la_cons (le_call F_told_all_least hg hr (takes_of rfl rfl rfl rfl) (la_cons (le_var 0) (la_nil))) (la_nil)))))
/-! ### plain_least -/
abbrev splain_least : Stmt := top 49
abbrev Nplain_least : List Str := ["whole"]
theorem sc_plain_least : FnScope Nplain_least ["whole"] (defScope splain_least) := ⟨rfl, rfl, rfl, by decide +kernel, rfl, by decide +kernel, by decide +kernel⟩
def wplain_least (Z : Ad) : WS := wSeq (wExpr (wCall (Slook_at_size_below Z) [wVar 0])) (wRet (wB gTuple [wCall Stold_plain_least [wVar 0]]))
theorem der_plain_least (Z : Ad) {P : Program} {w : World} {K : PySem.W.Frag} {mg : Str → Option Value} {base : Heap} {f : Addr} (T : Txt mg) (F_look_at_size_below : FnD P w K mg base 3 "look_at_size_below" ["whole"] [] (Slook_at_size_below Z)) (F_told_plain_least : FnD P w K mg base 3 "told_plain_least" ["whole"] [] Stold_plain_least) (cdv : Value) (A : Around) (outer : List Env) (s : Shared) (H : Hp) (E : XK) (hg : A.guards = some []) (hr : Room 3 (A.deeper (envOfC "plain_least" (defScope splain_least) s.heap.objs.size f cdv))) :
    LSs (cxOf (L2.CX P w) P w K mg base Nplain_least "plain_least" (defScope splain_least) f cdv A outer s H E) (wxE E) (defBody splain_least) (wplain_least Z) :=
  lss_cons (ls_expr (le_call F_look_at_size_below hg hr (takes_of rfl rfl rfl rfl) (la_cons (le_var 0) (la_nil)))) (lss_one (ls_ret (le_callTy cd_tuple T.z_tuple (by decide +kernel) (la_cons (le_call F_told_plain_least hg hr (takes_of rfl rfl rfl rfl) (la_cons (le_var 0) (la_nil))) (la_nil)))))
/-! ### told_plain_least -/
abbrev stold_plain_least : Stmt := top 50
abbrev Ntold_plain_least : List Str := ["whole", "form"]
theorem sc_told_plain_least : FnScope Ntold_plain_least ["whole"] (defScope stold_plain_least) := ⟨rfl, rfl, rfl, by decide +kernel, rfl, by decide +kernel, by decide +kernel⟩
def wtold_plain_least (Z : Ad) : WS := wRet (wLc (wSeqI (wCall Stold_all_least [wVar 0])) (CT.one 1) (wTB (wOp gEq (wCall Scommon_int [wCall Scommon_int [wOp gIx (wVar 1) (wC (.int 0)), wOp gIx (wVar 1) (wC (.int 1))], wOp gIx (wVar 1) (wC (.int 2))]) (wC (.int 1)))) (wVar 1))
theorem der_told_plain_least (Z : Ad) {P : Program} {w : World} {K : PySem.W.Frag} {mg : Str → Option Value} {base : Heap} {f : Addr} (T : Txt mg) (F_common_int : FnD P w K mg base 1 "common_int" ["one", "other"] [] Scommon_int) (F_told_all_least : FnD P w K mg base 2 "told_all_least" ["whole"] [] Stold_all_least) (cdv : Value) (A : Around) (outer : List Env) (s : Shared) (H : Hp) (E : XK) (hg : A.guards = some []) (hr : Room 2 (A.deeper (envOfC "told_plain_least" (defScope stold_plain_least) s.heap.objs.size f cdv))) :
    LSs (cxOf (L2.CX P w) P w K mg base Ntold_plain_least "told_plain_least" (defScope stold_plain_least) f cdv A outer s H E) (wxE E) (defBody stold_plain_least) (wtold_plain_least Z) :=
  lss_one (ls_ret (le_lc sc_told_plain_least.nd (li_seq (le_call F_told_all_least hg hr (takes_of rfl rfl rfl rfl) (la_cons (le_var 0) (la_nil)))) (ok := by show BlkOk Ntold_plain_least (defScope stold_plain_least) _ _; exact ⟨rfl, by decide +kernel, by decide +kernel, by decide +kernel, by decide +kernel⟩) (own := [("form", 1)]) (hv := rfl) (hg := (fun _ _ _ _ _ => pg_one 1 sc_told_plain_least.nd)) (ht := (fun _ _ _ _ _ => lps_one (lt_cmp (od_eq hr.units) (le_call F_common_int hg hr LamX.takes0 (la_cons (le_call F_common_int hg hr LamX.takes0 (la_cons (le_ix (le_var 1) (le_int)) (la_cons (le_ix (le_var 1) (le_int)) (la_nil)))) (la_cons (le_ix (le_var 1) (le_int)) (la_nil)))) (le_int)))) (he := (fun _ _ _ _ _ => le_var 1))))
/-! ### _law_pot -/
abbrev s_law_pot : Stmt := top 52
abbrev N_law_pot : List Str := ["script", "place", "cell", "own", "small"]
theorem sc__law_pot : FnScope N_law_pot ["script", "place"] (defScope s_law_pot) := ⟨rfl, rfl, rfl, by decide +kernel, rfl, by decide +kernel, by decide +kernel⟩
def w_law_pot (Z : Ad) : WS := wSeq (wSet 2 (wIfE (wTB (wOp gLt (wVar 1) (wB gLen [wVar 0]))) (wOp gIx (wVar 0) (wVar 1)) (wOp gAdd (wOp gAdd (wOp gMod (wB gInt [wB gSum [wSl (wVar 0) (wNoP) (wPart (wC (.int 1)))]]) (wC (.int 1000303))) (wOp gMul (wC (.int 5231)) (wVar 1))) (wC (.int 3671))))) (wSeq (wSet 3 (wOp gMul (wOp gMod (wB gInt [wB gAbs [wVar 2]]) (wOp gPowW (wOp gPowW (wC (.int 10)) (wC (.int 60))) (wC (.int 5)))) (wB gInt [wOp gGe (wB gAbs [wVar 2]) (wOp gPowW (wC (.int 10)) (wC (.int 18)))]))) (wSeq (wSet 4 (wOp gMod (wB gInt [wVar 2]) (wC (.int 2305843009213693951)))) (wRet (wLst [wVar 3, wOp gMod (wB gInt [wOp gAdd (wOp gAdd (wOp gMul (wVar 4) (wC (.int 68213))) (wOp gMul (wOp gMul (wC (.int 11057)) (wVar 1)) (wVar 1))) (wC (.int 3019))]) (wC (.int 2305843009213693921)), wC (.int 0)]))))
theorem der__law_pot (Z : Ad) {P : Program} {w : World} {K : PySem.W.Frag} {mg : Str → Option Value} {base : Heap} {f : Addr} (T : Txt mg)  (cdv : Value) (A : Around) (outer : List Env) (s : Shared) (H : Hp) (E : XK) (hg : A.guards = some []) (hr : Room 0 (A.deeper (envOfC "_law_pot" (defScope s_law_pot) s.heap.objs.size f cdv))) :
    LSs (cxOf (L2.CX P w) P w K mg base N_law_pot "_law_pot" (defScope s_law_pot) f cdv A outer s H E) (wxE E) (defBody s_law_pot) (w_law_pot Z) :=
  lss_cons (ls_set 2 sc__law_pot.nd (le_ifE (lt_cmp od_lt (le_var 1) (le_callB cd_len T.z_len (by decide +kernel) (la_cons (le_var 0) (la_nil)))) (le_ix (le_var 0) (le_var 1)) (le_op od_add (le_op od_add (le_op od_mod (le_callTy cd_int T.z_int (by decide +kernel) (la_cons (le_callB (cd_sum rfl) T.z_sum (by decide +kernel) (la_cons (le_sl (le_var 0) (lo_none) (lo_some (le_int))) (la_nil))) (la_nil))) (le_int)) (le_op od_mul (le_int) (le_var 1))) (le_int)))) (lss_cons (ls_set 3 sc__law_pot.nd (le_op od_mul (le_op od_mod (le_callTy cd_int T.z_int (by decide +kernel) (la_cons (le_callB cd_abs T.z_abs (by decide +kernel) (la_cons (le_var 2) (la_nil))) (la_nil))) (le_op od_powW (le_op od_powW (le_int) (le_int)) (le_int))) (le_callTy cd_int T.z_int (by decide +kernel) (la_cons (le_cmp od_ge (le_callB cd_abs T.z_abs (by decide +kernel) (la_cons (le_var 2) (la_nil))) (le_op od_powW (le_int) (le_int))) (la_nil))))) (lss_cons (ls_set 4 sc__law_pot.nd (le_op od_mod (le_callTy cd_int T.z_int (by decide +kernel) (la_cons (le_var 2) (la_nil))) (le_int))) (lss_one (ls_ret (le_lst (la_cons (le_var 3) (la_cons (le_op od_mod (le_callTy cd_int T.z_int (by decide +kernel) (la_cons (le_op od_add (le_op od_add (le_op od_mul (le_var 4) (le_int)) (le_op od_mul (le_op od_mul (le_int) (le_var 1)) (le_var 1))) (le_int)) (la_nil))) (le_int)) (la_cons (le_int) (la_nil)))) (show 3 ≤ 1000 by decide))))))
/-! ### _law_take -/
abbrev s_law_take : Stmt := top 53
abbrev N_law_take : List Str := ["pot", "upto", "digit", "prime", "blend"]
theorem sc__law_take : FnScope N_law_take ["pot", "upto"] (defScope s_law_take) := ⟨rfl, rfl, rfl, by decide +kernel, rfl, by decide +kernel, by decide +kernel⟩
def w_law_take (Z : Ad) : WS := wSeq (wIf (wTB (wOp gGt (wOp gIx (wVar 0) (wC (.int 0))) (wC (.int 0)))) (wSeq (wSet 2 (wOp gMod (wB gInt [wOp gIx (wVar 0) (wC (.int 0))]) (wVar 1))) (wSeq (wAsg (wOp gFdiv (wOp gIx (wVar 0) (wC (.int 0))) (wVar 1)) (gS (wVar 0) (wC (.int 0)))) (wRet (wVar 2)))) (wNext)) (wSeq (wAsg (wOp gAdd (wOp gIx (wVar 0) (wC (.int 2))) (wC (.int 1))) (gS (wVar 0) (wC (.int 2)))) (wSeq (wSet 3 (wOp gIx (wLst [wC (.int 2147483647), wC (.int 2147483629), wC (.int 2147483587), wC (.int 2147483579), wC (.int 2147483563)]) (wOp gMod (wB gInt [wOp gIx (wVar 0) (wC (.int 2))]) (wC (.int 5))))) (wSeq (wSet 4 (wOp gMod (wB gInt [wOp gPowW (wB gInt [wOp gAdd (wOp gAdd (wOp gIx (wVar 0) (wC (.int 1))) (wOp gMul (wOp gMul (wC (.int 97213)) (wOp gIx (wVar 0) (wC (.int 2)))) (wOp gIx (wVar 0) (wC (.int 2))))) (wC (.int 3671))]) (wC (.int 3))]) (wVar 3))) (wSeq (wSet 4 (wOp gMod (wB gInt [wOp gMul (wVar 4) (wOp gAdd (wOp gMod (wB gInt [wVar 4]) (wC (.int 13711))) (wOp gMul (wC (.int 431)) (wOp gIx (wVar 0) (wC (.int 2)))))]) (wC (.int 2305843009213693907)))) (wRet (wOp gMod (wB gInt [wOp gFdiv (wVar 4) (wC (.int 233))]) (wVar 1)))))))
theorem der__law_take (Z : Ad) {P : Program} {w : World} {K : PySem.W.Frag} {mg : Str → Option Value} {base : Heap} {f : Addr} (T : Txt mg)  (cdv : Value) (A : Around) (outer : List Env) (s : Shared) (H : Hp) (E : XK) (hg : A.guards = some []) (hr : Room 0 (A.deeper (envOfC "_law_take" (defScope s_law_take) s.heap.objs.size f cdv))) :
    LSs (cxOf (L2.CX P w) P w K mg base N_law_take "_law_take" (defScope s_law_take) f cdv A outer s H E) (wxE E) (defBody s_law_take) (w_law_take Z) :=
  lss_cons (ls_if (lt_cmp od_gt (le_ix (le_var 0) (le_int)) (le_int)) (lss_cons (ls_set 2 sc__law_take.nd (le_op od_mod (le_callTy cd_int T.z_int (by decide +kernel) (la_cons (le_ix (le_var 0) (le_int)) (la_nil))) (le_var 1))) (lss_cons (ls_asg (le_op od_fdiv (le_ix (le_var 0) (le_int)) (le_var 1)) (lg_sub (le_var 0) (le_int))) (lss_one (ls_ret (le_var 2))))) (lss_nil)) (lss_cons (ls_asg (le_op od_add (le_ix (le_var 0) (le_int)) (le_int)) (lg_sub (le_var 0) (le_int))) (lss_cons (ls_set 3 sc__law_take.nd (le_ix (le_lst (la_cons (le_int) (la_cons (le_int) (la_cons (le_int) (la_cons (le_int) (la_cons (le_int) (la_nil)))))) (show 5 ≤ 1000 by decide)) (le_op od_mod (le_callTy cd_int T.z_int (by decide +kernel) (la_cons (le_ix (le_var 0) (le_int)) (la_nil))) (le_int)))) (lss_cons (ls_set 4 sc__law_take.nd (le_op od_mod (le_callTy cd_int T.z_int (by decide +kernel) (la_cons (le_op od_powW (le_callTy cd_int T.z_int (by decide +kernel) (la_cons (le_op od_add (le_op od_add (le_ix (le_var 0) (le_int)) (le_op od_mul (le_op od_mul (le_int) (le_ix (le_var 0) (le_int))) (le_ix (le_var 0) (le_int)))) (le_int)) (la_nil))) (le_int)) (la_nil))) (le_var 3))) (lss_cons (ls_set 4 sc__law_take.nd (le_op od_mod (le_callTy cd_int T.z_int (by decide +kernel) (la_cons (le_op od_mul (le_var 4) (le_op od_add (le_op od_mod (le_callTy cd_int T.z_int (by decide +kernel) (la_cons (le_var 4) (la_nil))) (le_int)) (le_op od_mul (le_int) (le_ix (le_var 0) (le_int))))) (la_nil))) (le_int))) (lss_one (ls_ret (le_op od_mod (le_callTy cd_int T.z_int (by decide +kernel) (la_cons (le_op od_fdiv (le_var 4) (le_int)) (la_nil))) (le_var 1))))))))
/-! ### _law_of -/
abbrev s_law_of : Stmt := top 54
abbrev N_law_of : List Str := ["pot", "some"]
theorem sc__law_of : FnScope N_law_of ["pot", "some"] (defScope s_law_of) := ⟨rfl, rfl, rfl, by decide +kernel, rfl, by decide +kernel, by decide +kernel⟩
def w_law_of (Z : Ad) : WS := wRet (wOp gIx (wVar 1) (wCall S_law_take [wVar 0, wB gLen [wVar 1]]))
theorem der__law_of (Z : Ad) {P : Program} {w : World} {K : PySem.W.Frag} {mg : Str → Option Value} {base : Heap} {f : Addr} (T : Txt mg) (F__law_take : FnD P w K mg base 1 "_law_take" ["pot", "upto"] [] S_law_take) (cdv : Value) (A : Around) (outer : List Env) (s : Shared) (H : Hp) (E : XK) (hg : A.guards = some []) (hr : Room 1 (A.deeper (envOfC "_law_of" (defScope s_law_of) s.heap.objs.size f cdv))) :
    LSs (cxOf (L2.CX P w) P w K mg base N_law_of "_law_of" (defScope s_law_of) f cdv A outer s H E) (wxE E) (defBody s_law_of) (w_law_of Z) :=
  lss_one (ls_ret (le_ix (le_var 1) (le_call F__law_take hg hr (takes_of rfl rfl rfl rfl) (la_cons (le_var 0) (la_cons (le_callB cd_len T.z_len (by decide +kernel) (la_cons (le_var 1) (la_nil))) (la_nil))))))
/-! ### _law_cells -/
abbrev s_law_cells : Stmt := top 55
abbrev N_law_cells : List Str := ["script", "most"]
theorem sc__law_cells : FnScope N_law_cells ["script", "most"] (defScope s_law_cells) := ⟨rfl, rfl, rfl, by decide +kernel, rfl, by decide +kernel, by decide +kernel⟩
def w_law_cells (Z : Ad) : WS := wRet (wLstRg1 (wB gMax2 [wC (.int 1), wB gMin2 [wVar 1, wB gLen [wVar 0]]]))
theorem der__law_cells (Z : Ad) {P : Program} {w : World} {K : PySem.W.Frag} {mg : Str → Option Value} {base : Heap} {f : Addr} (T : Txt mg)  (cdv : Value) (A : Around) (outer : List Env) (s : Shared) (H : Hp) (E : XK) (hg : A.guards = some []) (hr : Room 0 (A.deeper (envOfC "_law_cells" (defScope s_law_cells) s.heap.objs.size f cdv))) :
    LSs (cxOf (L2.CX P w) P w K mg base N_law_cells "_law_cells" (defScope s_law_cells) f cdv A outer s H E) (wxE E) (defBody s_law_cells) (w_law_cells Z) :=
  lss_one (ls_ret (le_listRg1 T.z_list T.z_range (le_callB (cd_max2 rfl) T.z_max (by decide +kernel) (la_cons (le_int) (la_cons (le_callB (cd_min2 rfl) T.z_min (by decide +kernel) (la_cons (le_var 1) (la_cons (le_callB cd_len T.z_len (by decide +kernel) (la_cons (le_var 0) (la_nil))) (la_nil)))) (la_nil))))))
/-! ### _law_odd -/
abbrev s_law_odd : Stmt := top 57
abbrev N_law_odd : List Str := ["pot", "some"]
theorem sc__law_odd : FnScope N_law_odd ["pot"] (defScope s_law_odd) := ⟨rfl, rfl, rfl, by decide +kernel, rfl, by decide +kernel, by decide +kernel⟩
def w_law_odd (Z : Ad) : WS := wSeq (wSet 1 (wLst [wC .non, wC (.bl true), wC (.bl false), wC (.int 0), wC (.int 1), wNeg (wC (.int 1)), wC (.int 33), wOp gPowW (wC (.int 10)) (wC (.int 20)), wC (.str ""), wC (.str "r"), wC (.str "turn"), wC (.str "prime"), wTup [], wLst [], wDct [] [], wTup [wC (.int 0)], wTup [wTup []], wLst [wC (.int 1)], wTup [wC (.int 1), wC (.int 0)]])) (wSeq (wSet 1 (wOp gAdd (wVar 1) (wLst [wTup [wC (.int 0), wC (.int 1)], wTup [wC .non], wDct [.inr "a"] [.int 1], wTup [wC (.int 2), wC (.int 1), wC (.int 3)], wTup [wC (.int 1), wC (.int 0), wC (.int 0), wC (.int 1)], wTup [wTup [wC (.bl true)]], wTup [wC (.str "none"), wTup []]]))) (wRet (wCall S_law_of [wVar 0, wVar 1])))
theorem der__law_odd (Z : Ad) {P : Program} {w : World} {K : PySem.W.Frag} {mg : Str → Option Value} {base : Heap} {f : Addr} (T : Txt mg) (F__law_of : FnD P w K mg base 2 "_law_of" ["pot", "some"] [] S_law_of) (cdv : Value) (A : Around) (outer : List Env) (s : Shared) (H : Hp) (E : XK) (hg : A.guards = some []) (hr : Room 2 (A.deeper (envOfC "_law_odd" (defScope s_law_odd) s.heap.objs.size f cdv))) :
    LSs (cxOf (L2.CX P w) P w K mg base N_law_odd "_law_odd" (defScope s_law_odd) f cdv A outer s H E) (wxE E) (defBody s_law_odd) (w_law_odd Z) :=
  lss_cons (ls_set 1 sc__law_odd.nd (le_lst (la_cons (le_non) (la_cons (le_bl) (la_cons (le_bl) (la_cons (le_int) (la_cons (le_int) (la_cons (le_neg (le_int)) (la_cons (le_int) (la_cons (le_op od_powW (le_int) (le_int)) (la_cons (le_str) (la_cons (le_str) (la_cons (le_str) (la_cons (le_str) (la_cons (le_tup (la_nil) (show 0 ≤ 1000 by decide)) (la_cons (le_lst (la_nil) (show 0 ≤ 1000 by decide)) (la_cons (le_dct0) (la_cons (le_tup (la_cons (le_int) (la_nil)) (show 1 ≤ 1000 by decide)) (la_cons (le_tup (la_cons (le_tup (la_nil) (show 0 ≤ 1000 by decide)) (la_nil)) (show 1 ≤ 1000 by decide)) (la_cons (le_lst (la_cons (le_int) (la_nil)) (show 1 ≤ 1000 by decide)) (la_cons (le_tup (la_cons (le_int) (la_cons (le_int) (la_nil))) (show 2 ≤ 1000 by decide)) (la_nil)))))))))))))))))))) (show 19 ≤ 1000 by decide))) (lss_cons (ls_set 1 sc__law_odd.nd (le_op od_add (le_var 1) (le_lst (la_cons (le_tup (la_cons (le_int) (la_cons (le_int) (la_nil))) (show 2 ≤ 1000 by decide)) (la_cons (le_tup (la_cons (le_non) (la_nil)) (show 1 ≤ 1000 by decide)) (la_cons (le_dct1) (la_cons (le_tup (la_cons (le_int) (la_cons (le_int) (la_cons (le_int) (la_nil)))) (show 3 ≤ 1000 by decide)) (la_cons (le_tup (la_cons (le_int) (la_cons (le_int) (la_cons (le_int) (la_cons (le_int) (la_nil))))) (show 4 ≤ 1000 by decide)) (la_cons (le_tup (la_cons (le_tup (la_cons (le_bl) (la_nil)) (show 1 ≤ 1000 by decide)) (la_nil)) (show 1 ≤ 1000 by decide)) (la_cons (le_tup (la_cons (le_str) (la_cons (le_tup (la_nil) (show 0 ≤ 1000 by decide)) (la_nil))) (show 2 ≤ 1000 by decide)) (la_nil)))))))) (show 7 ≤ 1000 by decide)))) (lss_one (ls_ret (le_call F__law_of hg hr (takes_of rfl rfl rfl rfl) (la_cons (le_var 0) (la_cons (le_var 1) (la_nil)))))))
/-! ### _law_is_int -/
abbrev s_law_is_int : Stmt := top 58
abbrev N_law_is_int : List Str := ["value", "low", "high"]
theorem sc__law_is_int : FnScope N_law_is_int ["value", "low", "high"] (defScope s_law_is_int) := ⟨rfl, rfl, rfl, by decide +kernel, rfl, by decide +kernel, by decide +kernel⟩
def w_law_is_int (Z : Ad) : WS := wRet (wAndV (wIsi .int (wVar 0)) (wAndV (wNotV (wIsi .bool (wVar 0))) (wChainN (wVar 1) [(gLe, wVar 0), (gLe, wVar 2)])))
theorem der__law_is_int (Z : Ad) {P : Program} {w : World} {K : PySem.W.Frag} {mg : Str → Option Value} {base : Heap} {f : Addr} (T : Txt mg)  (cdv : Value) (A : Around) (outer : List Env) (s : Shared) (H : Hp) (E : XK) (hg : A.guards = some []) (hr : Room 0 (A.deeper (envOfC "_law_is_int" (defScope s_law_is_int) s.heap.objs.size f cdv))) :
    LSs (cxOf (L2.CX P w) P w K mg base N_law_is_int "_law_is_int" (defScope s_law_is_int) f cdv A outer s H E) (wxE E) (defBody s_law_is_int) (w_law_is_int Z) :=
  lss_one (ls_ret (le_and (le_isi (t := .int) T.z_isinstance T.z_int (by decide +kernel) (le_var 0)) (le_and (le_not (le_isi (t := .bool) T.z_isinstance T.z_bool (by decide +kernel) (le_var 0))) (le_one (le_chainN (le_var 1) (lch_cons od_le (le_var 0) (lch_last od_le (le_var 2))))))))
/-! ### _law_bent#0 -/
abbrev s_law_bent : Stmt := top 59
abbrev N_law_bent : List Str := ["pot", "value", "at"]
theorem sc__law_bent : FnScope N_law_bent ["pot", "value"] (defScope s_law_bent) := ⟨rfl, rfl, rfl, by decide +kernel, rfl, by decide +kernel, by decide +kernel⟩
def w_law_bent_0 (Z : Ad) : WS := wNever
theorem der__law_bent_0 (Z : Ad) {P : Program} {w : World} {K : PySem.W.Frag} {mg : Str → Option Value} {base : Heap} {f : Addr} (T : Txt mg)  (cdv : Value) (A : Around) (outer : List Env) (s : Shared) (H : Hp) (E : XK) (hg : A.guards = some []) (hr : Room 0 (A.deeper (envOfC "_law_bent" (defScope s_law_bent) s.heap.objs.size f cdv))) :
    LSs (cxOf (L2.CX P w) P w K mg base N_law_bent "_law_bent" (defScope s_law_bent) f cdv A outer s H E) (wxE E) (defBody s_law_bent) (w_law_bent_0 Z) :=
  lss_never
/-! ### _law_bent#1 -/
def w_law_bent_1 (Z : Ad) : WS := wSeq (wIf (wAndT (wTB (wIsi .tuple (wVar 1))) (wAndT (wTB (wOp gNe (wVar 1) (wTup []))) (wTB (wOp gGt (wCall S_law_take [wVar 0, wC (.int 5)]) (wC (.int 0)))))) (wSeq (wSet 2 (wCall S_law_take [wVar 0, wB gLen [wVar 1]])) (wRet (wOp gAdd (wOp gAdd (wSl (wVar 1) (wNoP) (wPart (wVar 2))) (wTup [wCall (S_law_bent 0) [wVar 0, wOp gIx (wVar 1) (wVar 2)]])) (wSl (wVar 1) (wPart (wOp gAdd (wVar 2) (wC (.int 1)))) (wNoP))))) (wNext)) (wSeq (wIf (wTB (wIsi .tuple (wVar 1))) (wRet (wCall S_law_of [wVar 0, wLst [wB gList [wVar 1], wSl (wVar 1) (wPart (wC (.int 1))) (wNoP), wSl (wVar 1) (wNoP) (wPart (wNeg (wC (.int 1)))), wOp gAdd (wVar 1) (wSl (wVar 1) (wPart (wNeg (wC (.int 1)))) (wNoP)), wBack (wVar 1), wTup [], wC .non]])) (wNext)) (wSeq (wIf (wTB (wIsi .bool (wVar 1))) (wRet (wCall S_law_of [wVar 0, wLst [wNotV (wVar 1), wB gInt [wVar 1], wC .non]])) (wNext)) (wSeq (wIf (wTB (wIsi .int (wVar 1))) (wRet (wCall S_law_of [wVar 0, wLst [wOp gAdd (wVar 1) (wC (.int 1)), wOp gSub (wVar 1) (wC (.int 1)), wOp gSub (wNeg (wVar 1)) (wC (.int 1)), wB gStr [wVar 1], wOp gEq (wVar 1) (wC (.int 1)), wC .non, wTup [wVar 1], wOp gPowW (wC (.int 10)) (wC (.int 9))]])) (wNext)) (wSeq (wIf (wTB (wIsi .str (wVar 1))) (wRet (wCall S_law_of [wVar 0, wLst [wOp gAdd (wVar 1) (wC (.str "a")), wSl (wVar 1) (wPart (wC (.int 1))) (wNoP), wUpper (wVar 1), wC (.str ""), wC .non, wC (.int 0)]])) (wNext)) (wRet (wCall S_law_odd [wVar 0]))))))
theorem der__law_bent_1 (Z : Ad) {P : Program} {w : World} {K : PySem.W.Frag} {mg : Str → Option Value} {base : Heap} {f : Addr} (T : Txt mg) (F__law_bent_0 : FnD P w K mg base 1 "_law_bent" ["pot", "value"] [] (S_law_bent 0)) (F__law_odd : FnD P w K mg base 3 "_law_odd" ["pot"] [] S_law_odd) (F__law_of : FnD P w K mg base 2 "_law_of" ["pot", "some"] [] S_law_of) (F__law_take : FnD P w K mg base 1 "_law_take" ["pot", "upto"] [] S_law_take) (cdv : Value) (A : Around) (outer : List Env) (s : Shared) (H : Hp) (E : XK) (hg : A.guards = some []) (hr : Room 3 (A.deeper (envOfC "_law_bent" (defScope s_law_bent) s.heap.objs.size f cdv))) :
    LSs (cxOf (L2.CX P w) P w K mg base N_law_bent "_law_bent" (defScope s_law_bent) f cdv A outer s H E) (wxE E) (defBody s_law_bent) (w_law_bent_1 Z) :=
  lss_cons (ls_if ((lw_and (lt_val (le_isi (t := .tuple) T.z_isinstance T.z_tuple (by decide +kernel) (le_var 1))) (lw_and (lt_cmp (od_ne hr.units) (le_var 1) (le_tup (la_nil) (show 0 ≤ 1000 by decide))) (lw_and1 (lt_cmp od_gt (le_call F__law_take hg hr (takes_of rfl rfl rfl rfl) (la_cons (le_var 0) (la_cons (le_int) (la_nil)))) (le_int))))).lt) (lss_cons (ls_set 2 sc__law_bent.nd (le_call F__law_take hg hr (takes_of rfl rfl rfl rfl) (la_cons (le_var 0) (la_cons (le_callB cd_len T.z_len (by decide +kernel) (la_cons (le_var 1) (la_nil))) (la_nil))))) (lss_one (ls_ret (le_op od_add (le_op od_add (le_sl (le_var 1) (lo_none) (lo_some (le_var 2))) (le_tup (la_cons (le_call F__law_bent_0 hg hr (takes_of rfl rfl rfl rfl) (la_cons (le_var 0) (la_cons (le_ix (le_var 1) (le_var 2)) (la_nil)))) (la_nil)) (show 1 ≤ 1000 by decide))) (le_sl (le_var 1) (lo_some (le_op od_add (le_var 2) (le_int))) (lo_none)))))) (lss_nil)) (lss_cons (ls_if (lt_val (le_isi (t := .tuple) T.z_isinstance T.z_tuple (by decide +kernel) (le_var 1))) (lss_one (ls_ret (le_call F__law_of hg hr (takes_of rfl rfl rfl rfl) (la_cons (le_var 0) (la_cons (le_lst (la_cons (le_callTy cd_list T.z_list (by decide +kernel) (la_cons (le_var 1) (la_nil))) (la_cons (le_sl (le_var 1) (lo_some (le_int)) (lo_none)) (la_cons (le_sl (le_var 1) (lo_none) (lo_some (le_neg (le_int)))) (la_cons (le_op od_add (le_var 1) (le_sl (le_var 1) (lo_some (le_neg (le_int))) (lo_none))) (la_cons (le_back (le_var 1)) (la_cons (le_tup (la_nil) (show 0 ≤ 1000 by decide)) (la_cons (le_non) (la_nil)))))))) (show 7 ≤ 1000 by decide)) (la_nil)))))) (lss_nil)) (lss_cons (ls_if (lt_val (le_isi (t := .bool) T.z_isinstance T.z_bool (by decide +kernel) (le_var 1))) (lss_one (ls_ret (le_call F__law_of hg hr (takes_of rfl rfl rfl rfl) (la_cons (le_var 0) (la_cons (le_lst (la_cons (le_not (le_var 1)) (la_cons (le_callTy cd_int T.z_int (by decide +kernel) (la_cons (le_var 1) (la_nil))) (la_cons (le_non) (la_nil)))) (show 3 ≤ 1000 by decide)) (la_nil)))))) (lss_nil)) (lss_cons (ls_if (lt_val (le_isi (t := .int) T.z_isinstance T.z_int (by decide +kernel) (le_var 1))) (lss_one (ls_ret (le_call F__law_of hg hr (takes_of rfl rfl rfl rfl) (la_cons (le_var 0) (la_cons (le_lst (la_cons (le_op od_add (le_var 1) (le_int)) (la_cons (le_op od_sub (le_var 1) (le_int)) (la_cons (le_op od_sub (le_neg (le_var 1)) (le_int)) (la_cons (le_callTy cd_str T.z_str (by decide +kernel) (la_cons (le_var 1) (la_nil))) (la_cons (le_cmp (od_eq hr.units) (le_var 1) (le_int)) (la_cons (le_non) (la_cons (le_tup (la_cons (le_var 1) (la_nil)) (show 1 ≤ 1000 by decide)) (la_cons (le_op od_powW (le_int) (le_int)) (la_nil))))))))) (show 8 ≤ 1000 by decide)) (la_nil)))))) (lss_nil)) (lss_cons (ls_if (lt_val (le_isi (t := .str) T.z_isinstance T.z_str (by decide +kernel) (le_var 1))) (lss_one (ls_ret (le_call F__law_of hg hr (takes_of rfl rfl rfl rfl) (la_cons (le_var 0) (la_cons (le_lst (la_cons (le_op od_add (le_var 1) (le_str)) (la_cons (le_sl (le_var 1) (lo_some (le_int)) (lo_none)) (la_cons (le_upper (le_var 1)) (la_cons (le_str) (la_cons (le_non) (la_cons (le_int) (la_nil))))))) (show 6 ≤ 1000 by decide)) (la_nil)))))) (lss_nil)) (lss_one (ls_ret (le_call F__law_odd hg hr (takes_of rfl rfl rfl rfl) (la_cons (le_var 0) (la_nil)))))))))
/-! ### _law_bent#2 -/
def w_law_bent_2 (Z : Ad) : WS := wSeq (wIf (wAndT (wTB (wIsi .tuple (wVar 1))) (wAndT (wTB (wOp gNe (wVar 1) (wTup []))) (wTB (wOp gGt (wCall S_law_take [wVar 0, wC (.int 5)]) (wC (.int 0)))))) (wSeq (wSet 2 (wCall S_law_take [wVar 0, wB gLen [wVar 1]])) (wRet (wOp gAdd (wOp gAdd (wSl (wVar 1) (wNoP) (wPart (wVar 2))) (wTup [wCall (S_law_bent 1) [wVar 0, wOp gIx (wVar 1) (wVar 2)]])) (wSl (wVar 1) (wPart (wOp gAdd (wVar 2) (wC (.int 1)))) (wNoP))))) (wNext)) (wSeq (wIf (wTB (wIsi .tuple (wVar 1))) (wRet (wCall S_law_of [wVar 0, wLst [wB gList [wVar 1], wSl (wVar 1) (wPart (wC (.int 1))) (wNoP), wSl (wVar 1) (wNoP) (wPart (wNeg (wC (.int 1)))), wOp gAdd (wVar 1) (wSl (wVar 1) (wPart (wNeg (wC (.int 1)))) (wNoP)), wBack (wVar 1), wTup [], wC .non]])) (wNext)) (wSeq (wIf (wTB (wIsi .bool (wVar 1))) (wRet (wCall S_law_of [wVar 0, wLst [wNotV (wVar 1), wB gInt [wVar 1], wC .non]])) (wNext)) (wSeq (wIf (wTB (wIsi .int (wVar 1))) (wRet (wCall S_law_of [wVar 0, wLst [wOp gAdd (wVar 1) (wC (.int 1)), wOp gSub (wVar 1) (wC (.int 1)), wOp gSub (wNeg (wVar 1)) (wC (.int 1)), wB gStr [wVar 1], wOp gEq (wVar 1) (wC (.int 1)), wC .non, wTup [wVar 1], wOp gPowW (wC (.int 10)) (wC (.int 9))]])) (wNext)) (wSeq (wIf (wTB (wIsi .str (wVar 1))) (wRet (wCall S_law_of [wVar 0, wLst [wOp gAdd (wVar 1) (wC (.str "a")), wSl (wVar 1) (wPart (wC (.int 1))) (wNoP), wUpper (wVar 1), wC (.str ""), wC .non, wC (.int 0)]])) (wNext)) (wRet (wCall S_law_odd [wVar 0]))))))
theorem der__law_bent_2 (Z : Ad) {P : Program} {w : World} {K : PySem.W.Frag} {mg : Str → Option Value} {base : Heap} {f : Addr} (T : Txt mg) (F__law_bent_1 : FnD P w K mg base 4 "_law_bent" ["pot", "value"] [] (S_law_bent 1)) (F__law_odd : FnD P w K mg base 3 "_law_odd" ["pot"] [] S_law_odd) (F__law_of : FnD P w K mg base 2 "_law_of" ["pot", "some"] [] S_law_of) (F__law_take : FnD P w K mg base 1 "_law_take" ["pot", "upto"] [] S_law_take) (cdv : Value) (A : Around) (outer : List Env) (s : Shared) (H : Hp) (E : XK) (hg : A.guards = some []) (hr : Room 4 (A.deeper (envOfC "_law_bent" (defScope s_law_bent) s.heap.objs.size f cdv))) :
    LSs (cxOf (L2.CX P w) P w K mg base N_law_bent "_law_bent" (defScope s_law_bent) f cdv A outer s H E) (wxE E) (defBody s_law_bent) (w_law_bent_2 Z) :=
  lss_cons (ls_if ((lw_and (lt_val (le_isi (t := .tuple) T.z_isinstance T.z_tuple (by decide +kernel) (le_var 1))) (lw_and (lt_cmp (od_ne hr.units) (le_var 1) (le_tup (la_nil) (show 0 ≤ 1000 by decide))) (lw_and1 (lt_cmp od_gt (le_call F__law_take hg hr (takes_of rfl rfl rfl rfl) (la_cons (le_var 0) (la_cons (le_int) (la_nil)))) (le_int))))).lt) (lss_cons (ls_set 2 sc__law_bent.nd (le_call F__law_take hg hr (takes_of rfl rfl rfl rfl) (la_cons (le_var 0) (la_cons (le_callB cd_len T.z_len (by decide +kernel) (la_cons (le_var 1) (la_nil))) (la_nil))))) (lss_one (ls_ret (le_op od_add (le_op od_add (le_sl (le_var 1) (lo_none) (lo_some (le_var 2))) (le_tup (la_cons (le_call F__law_bent_1 hg hr (takes_of rfl rfl rfl rfl) (la_cons (le_var 0) (la_cons (le_ix (le_var 1) (le_var 2)) (la_nil)))) (la_nil)) (show 1 ≤ 1000 by decide))) (le_sl (le_var 1) (lo_some (le_op od_add (le_var 2) (le_int))) (lo_none)))))) (lss_nil)) (lss_cons (ls_if (lt_val (le_isi (t := .tuple) T.z_isinstance T.z_tuple (by decide +kernel) (le_var 1))) (lss_one (ls_ret (le_call F__law_of hg hr (takes_of rfl rfl rfl rfl) (la_cons (le_var 0) (la_cons (le_lst (la_cons (le_callTy cd_list T.z_list (by decide +kernel) (la_cons (le_var 1) (la_nil))) (la_cons (le_sl (le_var 1) (lo_some (le_int)) (lo_none)) (la_cons (le_sl (le_var 1) (lo_none) (lo_some (le_neg (le_int)))) (la_cons (le_op od_add (le_var 1) (le_sl (le_var 1) (lo_some (le_neg (le_int))) (lo_none))) (la_cons (le_back (le_var 1)) (la_cons (le_tup (la_nil) (show 0 ≤ 1000 by decide)) (la_cons (le_non) (la_nil)))))))) (show 7 ≤ 1000 by decide)) (la_nil)))))) (lss_nil)) (lss_cons (ls_if (lt_val (le_isi (t := .bool) T.z_isinstance T.z_bool (by decide +kernel) (le_var 1))) (lss_one (ls_ret (le_call F__law_of hg hr (takes_of rfl rfl rfl rfl) (la_cons (le_var 0) (la_cons (le_lst (la_cons (le_not (le_var 1)) (la_cons (le_callTy cd_int T.z_int (by decide +kernel) (la_cons (le_var 1) (la_nil))) (la_cons (le_non) (la_nil)))) (show 3 ≤ 1000 by decide)) (la_nil)))))) (lss_nil)) (lss_cons (ls_if (lt_val (le_isi (t := .int) T.z_isinstance T.z_int (by decide +kernel) (le_var 1))) (lss_one (ls_ret (le_call F__law_of hg hr (takes_of rfl rfl rfl rfl) (la_cons (le_var 0) (la_cons (le_lst (la_cons (le_op od_add (le_var 1) (le_int)) (la_cons (le_op od_sub (le_var 1) (le_int)) (la_cons (le_op od_sub (le_neg (le_var 1)) (le_int)) (la_cons (le_callTy cd_str T.z_str (by decide +kernel) (la_cons (le_var 1) (la_nil))) (la_cons (le_cmp (od_eq hr.units) (le_var 1) (le_int)) (la_cons (le_non) (la_cons (le_tup (la_cons (le_var 1) (la_nil)) (show 1 ≤ 1000 by decide)) (la_cons (le_op od_powW (le_int) (le_int)) (la_nil))))))))) (show 8 ≤ 1000 by decide)) (la_nil)))))) (lss_nil)) (lss_cons (ls_if (lt_val (le_isi (t := .str) T.z_isinstance T.z_str (by decide +kernel) (le_var 1))) (lss_one (ls_ret (le_call F__law_of hg hr (takes_of rfl rfl rfl rfl) (la_cons (le_var 0) (la_cons (le_lst (la_cons (le_op od_add (le_var 1) (le_str)) (la_cons (le_sl (le_var 1) (lo_some (le_int)) (lo_none)) (la_cons (le_upper (le_var 1)) (la_cons (le_str) (la_cons (le_non) (la_cons (le_int) (la_nil))))))) (show 6 ≤ 1000 by decide)) (la_nil)))))) (lss_nil)) (lss_one (ls_ret (le_call F__law_odd hg hr (takes_of rfl rfl rfl rfl) (la_cons (le_var 0) (la_nil)))))))))
/-! ### _law_bent#3 -/
def w_law_bent_3 (Z : Ad) : WS := wSeq (wIf (wAndT (wTB (wIsi .tuple (wVar 1))) (wAndT (wTB (wOp gNe (wVar 1) (wTup []))) (wTB (wOp gGt (wCall S_law_take [wVar 0, wC (.int 5)]) (wC (.int 0)))))) (wSeq (wSet 2 (wCall S_law_take [wVar 0, wB gLen [wVar 1]])) (wRet (wOp gAdd (wOp gAdd (wSl (wVar 1) (wNoP) (wPart (wVar 2))) (wTup [wCall (S_law_bent 2) [wVar 0, wOp gIx (wVar 1) (wVar 2)]])) (wSl (wVar 1) (wPart (wOp gAdd (wVar 2) (wC (.int 1)))) (wNoP))))) (wNext)) (wSeq (wIf (wTB (wIsi .tuple (wVar 1))) (wRet (wCall S_law_of [wVar 0, wLst [wB gList [wVar 1], wSl (wVar 1) (wPart (wC (.int 1))) (wNoP), wSl (wVar 1) (wNoP) (wPart (wNeg (wC (.int 1)))), wOp gAdd (wVar 1) (wSl (wVar 1) (wPart (wNeg (wC (.int 1)))) (wNoP)), wBack (wVar 1), wTup [], wC .non]])) (wNext)) (wSeq (wIf (wTB (wIsi .bool (wVar 1))) (wRet (wCall S_law_of [wVar 0, wLst [wNotV (wVar 1), wB gInt [wVar 1], wC .non]])) (wNext)) (wSeq (wIf (wTB (wIsi .int (wVar 1))) (wRet (wCall S_law_of [wVar 0, wLst [wOp gAdd (wVar 1) (wC (.int 1)), wOp gSub (wVar 1) (wC (.int 1)), wOp gSub (wNeg (wVar 1)) (wC (.int 1)), wB gStr [wVar 1], wOp gEq (wVar 1) (wC (.int 1)), wC .non, wTup [wVar 1], wOp gPowW (wC (.int 10)) (wC (.int 9))]])) (wNext)) (wSeq (wIf (wTB (wIsi .str (wVar 1))) (wRet (wCall S_law_of [wVar 0, wLst [wOp gAdd (wVar 1) (wC (.str "a")), wSl (wVar 1) (wPart (wC (.int 1))) (wNoP), wUpper (wVar 1), wC (.str ""), wC .non, wC (.int 0)]])) (wNext)) (wRet (wCall S_law_odd [wVar 0]))))))
theorem der__law_bent_3 (Z : Ad) {P : Program} {w : World} {K : PySem.W.Frag} {mg : Str → Option Value} {base : Heap} {f : Addr} (T : Txt mg) (F__law_bent_2 : FnD P w K mg base 5 "_law_bent" ["pot", "value"] [] (S_law_bent 2)) (F__law_odd : FnD P w K mg base 3 "_law_odd" ["pot"] [] S_law_odd) (F__law_of : FnD P w K mg base 2 "_law_of" ["pot", "some"] [] S_law_of) (F__law_take : FnD P w K mg base 1 "_law_take" ["pot", "upto"] [] S_law_take) (cdv : Value) (A : Around) (outer : List Env) (s : Shared) (H : Hp) (E : XK) (hg : A.guards = some []) (hr : Room 5 (A.deeper (envOfC "_law_bent" (defScope s_law_bent) s.heap.objs.size f cdv))) :
    LSs (cxOf (L2.CX P w) P w K mg base N_law_bent "_law_bent" (defScope s_law_bent) f cdv A outer s H E) (wxE E) (defBody s_law_bent) (w_law_bent_3 Z) :=
  lss_cons (ls_if ((lw_and (lt_val (le_isi (t := .tuple) T.z_isinstance T.z_tuple (by decide +kernel) (le_var 1))) (lw_and (lt_cmp (od_ne hr.units) (le_var 1) (le_tup (la_nil) (show 0 ≤ 1000 by decide))) (lw_and1 (lt_cmp od_gt (le_call F__law_take hg hr (takes_of rfl rfl rfl rfl) (la_cons (le_var 0) (la_cons (le_int) (la_nil)))) (le_int))))).lt) (lss_cons (ls_set 2 sc__law_bent.nd (le_call F__law_take hg hr (takes_of rfl rfl rfl rfl) (la_cons (le_var 0) (la_cons (le_callB cd_len T.z_len (by decide +kernel) (la_cons (le_var 1) (la_nil))) (la_nil))))) (lss_one (ls_ret (le_op od_add (le_op od_add (le_sl (le_var 1) (lo_none) (lo_some (le_var 2))) (le_tup (la_cons (le_call F__law_bent_2 hg hr (takes_of rfl rfl rfl rfl) (la_cons (le_var 0) (la_cons (le_ix (le_var 1) (le_var 2)) (la_nil)))) (la_nil)) (show 1 ≤ 1000 by decide))) (le_sl (le_var 1) (lo_some (le_op od_add (le_var 2) (le_int))) (lo_none)))))) (lss_nil)) (lss_cons (ls_if (lt_val (le_isi (t := .tuple) T.z_isinstance T.z_tuple (by decide +kernel) (le_var 1))) (lss_one (ls_ret (le_call F__law_of hg hr (takes_of rfl rfl rfl rfl) (la_cons (le_var 0) (la_cons (le_lst (la_cons (le_callTy cd_list T.z_list (by decide +kernel) (la_cons (le_var 1) (la_nil))) (la_cons (le_sl (le_var 1) (lo_some (le_int)) (lo_none)) (la_cons (le_sl (le_var 1) (lo_none) (lo_some (le_neg (le_int)))) (la_cons (le_op od_add (le_var 1) (le_sl (le_var 1) (lo_some (le_neg (le_int))) (lo_none))) (la_cons (le_back (le_var 1)) (la_cons (le_tup (la_nil) (show 0 ≤ 1000 by decide)) (la_cons (le_non) (la_nil)))))))) (show 7 ≤ 1000 by decide)) (la_nil)))))) (lss_nil)) (lss_cons (ls_if (lt_val (le_isi (t := .bool) T.z_isinstance T.z_bool (by decide +kernel) (le_var 1))) (lss_one (ls_ret (le_call F__law_of hg hr (takes_of rfl rfl rfl rfl) (la_cons (le_var 0) (la_cons (le_lst (la_cons (le_not (le_var 1)) (la_cons (le_callTy cd_int T.z_int (by decide +kernel) (la_cons (le_var 1) (la_nil))) (la_cons (le_non) (la_nil)))) (show 3 ≤ 1000 by decide)) (la_nil)))))) (lss_nil)) (lss_cons (ls_if (lt_val (le_isi (t := .int) T.z_isinstance T.z_int (by decide +kernel) (le_var 1))) (lss_one (ls_ret (le_call F__law_of hg hr (takes_of rfl rfl rfl rfl) (la_cons (le_var 0) (la_cons (le_lst (la_cons (le_op od_add (le_var 1) (le_int)) (la_cons (le_op od_sub (le_var 1) (le_int)) (la_cons (le_op od_sub (le_neg (le_var 1)) (le_int)) (la_cons (le_callTy cd_str T.z_str (by decide +kernel) (la_cons (le_var 1) (la_nil))) (la_cons (le_cmp (od_eq hr.units) (le_var 1) (le_int)) (la_cons (le_non) (la_cons (le_tup (la_cons (le_var 1) (la_nil)) (show 1 ≤ 1000 by decide)) (la_cons (le_op od_powW (le_int) (le_int)) (la_nil))))))))) (show 8 ≤ 1000 by decide)) (la_nil)))))) (lss_nil)) (lss_cons (ls_if (lt_val (le_isi (t := .str) T.z_isinstance T.z_str (by decide +kernel) (le_var 1))) (lss_one (ls_ret (le_call F__law_of hg hr (takes_of rfl rfl rfl rfl) (la_cons (le_var 0) (la_cons (le_lst (la_cons (le_op od_add (le_var 1) (le_str)) (la_cons (le_sl (le_var 1) (lo_some (le_int)) (lo_none)) (la_cons (le_upper (le_var 1)) (la_cons (le_str) (la_cons (le_non) (la_cons (le_int) (la_nil))))))) (show 6 ≤ 1000 by decide)) (la_nil)))))) (lss_nil)) (lss_one (ls_ret (le_call F__law_odd hg hr (takes_of rfl rfl rfl rfl) (la_cons (le_var 0) (la_nil)))))))))
/-! ### _law_is_bool -/
abbrev s_law_is_bool : Stmt := top 60
abbrev N_law_is_bool : List Str := ["told", "due"]
theorem sc__law_is_bool : FnScope N_law_is_bool ["told", "due"] (defScope s_law_is_bool) := ⟨rfl, rfl, rfl, by decide +kernel, rfl, by decide +kernel, by decide +kernel⟩
def w_law_is_bool (Z : Ad) : WS := wRet (wAndV (wIsi .bool (wVar 0)) (wOp gEq (wVar 0) (wVar 1)))
theorem der__law_is_bool (Z : Ad) {P : Program} {w : World} {K : PySem.W.Frag} {mg : Str → Option Value} {base : Heap} {f : Addr} (T : Txt mg)  (cdv : Value) (A : Around) (outer : List Env) (s : Shared) (H : Hp) (E : XK) (hg : A.guards = some []) (hr : Room 0 (A.deeper (envOfC "_law_is_bool" (defScope s_law_is_bool) s.heap.objs.size f cdv))) :
    LSs (cxOf (L2.CX P w) P w K mg base N_law_is_bool "_law_is_bool" (defScope s_law_is_bool) f cdv A outer s H E) (wxE E) (defBody s_law_is_bool) (w_law_is_bool Z) :=
  lss_one (ls_ret (le_and (le_isi (t := .bool) T.z_isinstance T.z_bool (by decide +kernel) (le_var 0)) (le_one (le_cmp (od_eq hr.units) (le_var 0) (le_var 1)))))
/-! ### _law_common -/
abbrev s_law_common : Stmt := top 61
abbrev N_law_common : List Str := ["one", "other"]
theorem sc__law_common : FnScope N_law_common ["one", "other"] (defScope s_law_common) := ⟨rfl, rfl, rfl, by decide +kernel, rfl, by decide +kernel, by decide +kernel⟩
def w_law_common (Z : Ad) : WS := wSeq (wPar 0 1 (wB gAbs [wVar 0]) (wB gAbs [wVar 1])) (wSeq (wWhile (wTB (wOp gNe (wVar 1) (wC (.int 0)))) (wPar 0 1 (wVar 1) (wOp gMod (wVar 0) (wVar 1)))) (wRet (wVar 0)))
theorem der__law_common (Z : Ad) {P : Program} {w : World} {K : PySem.W.Frag} {mg : Str → Option Value} {base : Heap} {f : Addr} (T : Txt mg)  (cdv : Value) (A : Around) (outer : List Env) (s : Shared) (H : Hp) (E : XK) (hg : A.guards = some []) (hr : Room 0 (A.deeper (envOfC "_law_common" (defScope s_law_common) s.heap.objs.size f cdv))) :
    LSs (cxOf (L2.CX P w) P w K mg base N_law_common "_law_common" (defScope s_law_common) f cdv A outer s H E) (wxE E) (defBody s_law_common) (w_law_common Z) :=
  lss_cons (ls_par 0 1 sc__law_common.nd (la_cons (le_callB cd_abs T.z_abs (by decide +kernel) (la_cons (le_var 0) (la_nil))) (la_cons (le_callB cd_abs T.z_abs (by decide +kernel) (la_cons (le_var 1) (la_nil))) (la_nil)))) (lss_cons (ls_while (passes_of rfl) (lt_cmp (od_ne hr.units) (le_var 1) (le_int)) (lss_one (ls_par 0 1 sc__law_common.nd (la_cons (le_var 1) (la_cons (le_op od_mod (le_var 0) (le_var 1)) (la_nil)))))) (lss_one (ls_ret (le_var 0))))
/-! ### _law_root -/
abbrev s_law_root : Stmt := top 62
abbrev N_law_root : List Str := ["number", "low", "high", "half"]
theorem sc__law_root : FnScope N_law_root ["number"] (defScope s_law_root) := ⟨rfl, rfl, rfl, by decide +kernel, rfl, by decide +kernel, by decide +kernel⟩
def w_law_root (Z : Ad) : WS := wSeq (wAsg (wTup [wC (.int 0), wC (.int 1)]) (gT [gN 1, gN 2])) (wSeq (wWhile (wTB (wOp gLe (wOp gMul (wVar 2) (wVar 2)) (wVar 0))) (wSet 2 (wOp gMul (wVar 2) (wC (.int 2))))) (wSeq (wWhile (wTB (wOp gGt (wOp gSub (wVar 2) (wVar 1)) (wC (.int 1)))) (wSeq (wSet 3 (wOp gFdiv (wOp gAdd (wVar 1) (wVar 2)) (wC (.int 2)))) (wAsg (wIfE (wTB (wOp gLe (wOp gMul (wVar 3) (wVar 3)) (wVar 0))) (wTup [wVar 3, wVar 2]) (wTup [wVar 1, wVar 3])) (gT [gN 1, gN 2])))) (wRet (wVar 1))))
theorem der__law_root (Z : Ad) {P : Program} {w : World} {K : PySem.W.Frag} {mg : Str → Option Value} {base : Heap} {f : Addr} (T : Txt mg)  (cdv : Value) (A : Around) (outer : List Env) (s : Shared) (H : Hp) (E : XK) (hg : A.guards = some []) (hr : Room 0 (A.deeper (envOfC "_law_root" (defScope s_law_root) s.heap.objs.size f cdv))) :
    LSs (cxOf (L2.CX P w) P w K mg base N_law_root "_law_root" (defScope s_law_root) f cdv A outer s H E) (wxE E) (defBody s_law_root) (w_law_root Z) :=
  lss_cons (ls_asg (le_tup (la_cons (le_int) (la_cons (le_int) (la_nil))) (show 2 ≤ 1000 by decide)) (lg_tup (lgs_cons (lg_name 1 sc__law_root.nd) (lgs_cons (lg_name 2 sc__law_root.nd) (lgs_nil))))) (lss_cons (ls_while (passes_of rfl) (lt_cmp od_le (le_op od_mul (le_var 2) (le_var 2)) (le_var 0)) (lss_one (ls_set 2 sc__law_root.nd (le_op od_mul (le_var 2) (le_int))))) (lss_cons (ls_while (passes_of rfl) (lt_cmp od_gt (le_op od_sub (le_var 2) (le_var 1)) (le_int)) (lss_cons (ls_set 3 sc__law_root.nd (le_op od_fdiv (le_op od_add (le_var 1) (le_var 2)) (le_int))) (lss_one (ls_asg (le_ifE (lt_cmp od_le (le_op od_mul (le_var 3) (le_var 3)) (le_var 0)) (le_tup (la_cons (le_var 3) (la_cons (le_var 2) (la_nil))) (show 2 ≤ 1000 by decide)) (le_tup (la_cons (le_var 1) (la_cons (le_var 3) (la_nil))) (show 2 ≤ 1000 by decide))) (lg_tup (lgs_cons (lg_name 1 sc__law_root.nd) (lgs_cons (lg_name 2 sc__law_root.nd) (lgs_nil)))))))) (lss_one (ls_ret (le_var 1)))))
/-! ### _law_value -/
abbrev s_law_value : Stmt := top 63
abbrev N_law_value : List Str := ["form", "x", "y"]
theorem sc__law_value : FnScope N_law_value ["form", "x", "y"] (defScope s_law_value) := ⟨rfl, rfl, rfl, by decide +kernel, rfl, by decide +kernel, by decide +kernel⟩
def w_law_value (Z : Ad) : WS := wRet (wOp gAdd (wOp gAdd (wOp gMul (wOp gMul (wOp gIx (wVar 0) (wC (.int 0))) (wVar 1)) (wVar 1)) (wOp gMul (wOp gMul (wOp gIx (wVar 0) (wC (.int 1))) (wVar 1)) (wVar 2))) (wOp gMul (wOp gMul (wOp gIx (wVar 0) (wC (.int 2))) (wVar 2)) (wVar 2)))
theorem der__law_value (Z : Ad) {P : Program} {w : World} {K : PySem.W.Frag} {mg : Str → Option Value} {base : Heap} {f : Addr} (T : Txt mg)  (cdv : Value) (A : Around) (outer : List Env) (s : Shared) (H : Hp) (E : XK) (hg : A.guards = some []) (hr : Room 0 (A.deeper (envOfC "_law_value" (defScope s_law_value) s.heap.objs.size f cdv))) :
    LSs (cxOf (L2.CX P w) P w K mg base N_law_value "_law_value" (defScope s_law_value) f cdv A outer s H E) (wxE E) (defBody s_law_value) (w_law_value Z) :=
  lss_one (ls_ret (le_op od_add (le_op od_add (le_op od_mul (le_op od_mul (le_ix (le_var 0) (le_int)) (le_var 1)) (le_var 1)) (le_op od_mul (le_op od_mul (le_ix (le_var 0) (le_int)) (le_var 1)) (le_var 2))) (le_op od_mul (le_op od_mul (le_ix (le_var 0) (le_int)) (le_var 2)) (le_var 2))))
/-! ### _law_turned -/
abbrev s_law_turned : Stmt := top 64
abbrev N_law_turned : List Str := ["form", "turn", "p", "q", "r", "s", "middle"]
theorem sc__law_turned : FnScope N_law_turned ["form", "turn"] (defScope s_law_turned) := ⟨rfl, rfl, rfl, by decide +kernel, rfl, by decide +kernel, by decide +kernel⟩
def w_law_turned (Z : Ad) : WS := wSeq (wAsg (wVar 1) (gT [gN 2, gN 3, gN 4, gN 5])) (wSeq (wSet 6 (wOp gSub (wOp gSub (wCall S_law_value [wVar 0, wOp gAdd (wVar 2) (wVar 3), wOp gAdd (wVar 4) (wVar 5)]) (wCall S_law_value [wVar 0, wVar 2, wVar 4])) (wCall S_law_value [wVar 0, wVar 3, wVar 5]))) (wRet (wTup [wCall S_law_value [wVar 0, wVar 2, wVar 4], wVar 6, wCall S_law_value [wVar 0, wVar 3, wVar 5]])))
theorem der__law_turned (Z : Ad) {P : Program} {w : World} {K : PySem.W.Frag} {mg : Str → Option Value} {base : Heap} {f : Addr} (T : Txt mg) (F__law_value : FnD P w K mg base 1 "_law_value" ["form", "x", "y"] [] S_law_value) (cdv : Value) (A : Around) (outer : List Env) (s : Shared) (H : Hp) (E : XK) (hg : A.guards = some []) (hr : Room 1 (A.deeper (envOfC "_law_turned" (defScope s_law_turned) s.heap.objs.size f cdv))) :
    LSs (cxOf (L2.CX P w) P w K mg base N_law_turned "_law_turned" (defScope s_law_turned) f cdv A outer s H E) (wxE E) (defBody s_law_turned) (w_law_turned Z) :=
  lss_cons (ls_asg (le_var 1) (lg_tup (lgs_cons (lg_name 2 sc__law_turned.nd) (lgs_cons (lg_name 3 sc__law_turned.nd) (lgs_cons (lg_name 4 sc__law_turned.nd) (lgs_cons (lg_name 5 sc__law_turned.nd) (lgs_nil))))))) (lss_cons (ls_set 6 sc__law_turned.nd (le_op od_sub (le_op od_sub (le_call F__law_value hg hr (takes_of rfl rfl rfl rfl) (la_cons (le_var 0) (la_cons (le_op od_add (le_var 2) (le_var 3)) (la_cons (le_op od_add (le_var 4) (le_var 5)) (la_nil))))) (le_call F__law_value hg hr (takes_of rfl rfl rfl rfl) (la_cons (le_var 0) (la_cons (le_var 2) (la_cons (le_var 4) (la_nil)))))) (le_call F__law_value hg hr (takes_of rfl rfl rfl rfl) (la_cons (le_var 0) (la_cons (le_var 3) (la_cons (le_var 5) (la_nil))))))) (lss_one (ls_ret (le_tup (la_cons (le_call F__law_value hg hr (takes_of rfl rfl rfl rfl) (la_cons (le_var 0) (la_cons (le_var 2) (la_cons (le_var 4) (la_nil))))) (la_cons (le_var 6) (la_cons (le_call F__law_value hg hr (takes_of rfl rfl rfl rfl) (la_cons (le_var 0) (la_cons (le_var 3) (la_cons (le_var 5) (la_nil))))) (la_nil)))) (show 3 ≤ 1000 by decide)))))
/-! ### _law_is_turn -/
abbrev s_law_is_turn : Stmt := top 65
abbrev N_law_is_turn : List Str := ["value", "one"]
theorem sc__law_is_turn : FnScope N_law_is_turn ["value"] (defScope s_law_is_turn) := ⟨rfl, rfl, rfl, by decide +kernel, rfl, by decide +kernel, by decide +kernel⟩
def w_law_is_turn (Z : Ad) : WS := wSeq (wIf (wOrT (wNotT (wTB (wIsi .tuple (wVar 0)))) (wTB (wOp gNe (wB gLen [wVar 0]) (wC (.int 4))))) (wRet (wC (.bl false))) (wNext)) (wSeq (wIf (wNotT (wTB (wB gAll [wLc (wSeqI (wVar 0)) (CT.one 1) (wYes) (wAndV (wIsi .int (wVar 1)) (wNotV (wIsi .bool (wVar 1))))]))) (wRet (wC (.bl false))) (wNext)) (wRet (wOp gEq (wOp gSub (wOp gMul (wOp gIx (wVar 0) (wC (.int 0))) (wOp gIx (wVar 0) (wC (.int 3)))) (wOp gMul (wOp gIx (wVar 0) (wC (.int 1))) (wOp gIx (wVar 0) (wC (.int 2))))) (wC (.int 1)))))
theorem der__law_is_turn (Z : Ad) {P : Program} {w : World} {K : PySem.W.Frag} {mg : Str → Option Value} {base : Heap} {f : Addr} (T : Txt mg)  (cdv : Value) (A : Around) (outer : List Env) (s : Shared) (H : Hp) (E : XK) (hg : A.guards = some []) (hr : Room 0 (A.deeper (envOfC "_law_is_turn" (defScope s_law_is_turn) s.heap.objs.size f cdv))) :
    LSs (cxOf (L2.CX P w) P w K mg base N_law_is_turn "_law_is_turn" (defScope s_law_is_turn) f cdv A outer s H E) (wxE E) (defBody s_law_is_turn) (w_law_is_turn Z) :=
  lss_cons (ls_if ((lw_or (lt_not (lt_val (le_isi (t := .tuple) T.z_isinstance T.z_tuple (by decide +kernel) (le_var 0)))) (lw_or1 (lt_cmp (od_ne hr.units) (le_callB cd_len T.z_len (by decide +kernel) (la_cons (le_var 0) (la_nil))) (le_int)))).lt) (lss_one (ls_ret (le_bl))) (lss_nil)) (lss_cons (ls_if (lt_not (lt_val (le_callB (cd_all rfl) T.z_all (by decide +kernel) (la_cons (le_lc sc__law_is_turn.nd (li_seq (le_var 0)) (ok := by show BlkOk N_law_is_turn (defScope s_law_is_turn) _ _; exact ⟨rfl, by decide +kernel, by decide +kernel, by decide +kernel, by decide +kernel⟩) (own := [("one", 1)]) (hv := rfl) (hg := (fun _ _ _ _ _ => pg_one 1 sc__law_is_turn.nd)) (ht := (fun _ _ _ _ _ => lps_nil)) (he := (fun _ _ _ _ _ => le_and (le_isi (t := .int) T.z_isinstance T.z_int (by decide +kernel) (le_var 1)) (le_one (le_not (le_isi (t := .bool) T.z_isinstance T.z_bool (by decide +kernel) (le_var 1))))))) (la_nil))))) (lss_one (ls_ret (le_bl))) (lss_nil)) (lss_one (ls_ret (le_cmp (od_eq hr.units) (le_op od_sub (le_op od_mul (le_ix (le_var 0) (le_int)) (le_ix (le_var 0) (le_int))) (le_op od_mul (le_ix (le_var 0) (le_int)) (le_ix (le_var 0) (le_int)))) (le_int)))))
/-! ### _law_then -/
abbrev s_law_then : Stmt := top 66
abbrev N_law_then : List Str := ["one", "other", "p", "q", "r", "s", "e", "f", "g", "h"]
theorem sc__law_then : FnScope N_law_then ["one", "other"] (defScope s_law_then) := ⟨rfl, rfl, rfl, by decide +kernel, rfl, by decide +kernel, by decide +kernel⟩
def w_law_then (Z : Ad) : WS := wSeq (wAsg (wVar 0) (gT [gN 2, gN 3, gN 4, gN 5])) (wSeq (wAsg (wVar 1) (gT [gN 6, gN 7, gN 8, gN 9])) (wRet (wTup [wOp gAdd (wOp gMul (wVar 2) (wVar 6)) (wOp gMul (wVar 3) (wVar 8)), wOp gAdd (wOp gMul (wVar 2) (wVar 7)) (wOp gMul (wVar 3) (wVar 9)), wOp gAdd (wOp gMul (wVar 4) (wVar 6)) (wOp gMul (wVar 5) (wVar 8)), wOp gAdd (wOp gMul (wVar 4) (wVar 7)) (wOp gMul (wVar 5) (wVar 9))])))
theorem der__law_then (Z : Ad) {P : Program} {w : World} {K : PySem.W.Frag} {mg : Str → Option Value} {base : Heap} {f : Addr} (T : Txt mg)  (cdv : Value) (A : Around) (outer : List Env) (s : Shared) (H : Hp) (E : XK) (hg : A.guards = some []) (hr : Room 0 (A.deeper (envOfC "_law_then" (defScope s_law_then) s.heap.objs.size f cdv))) :
    LSs (cxOf (L2.CX P w) P w K mg base N_law_then "_law_then" (defScope s_law_then) f cdv A outer s H E) (wxE E) (defBody s_law_then) (w_law_then Z) :=
  lss_cons (ls_asg (le_var 0) (lg_tup (lgs_cons (lg_name 2 sc__law_then.nd) (lgs_cons (lg_name 3 sc__law_then.nd) (lgs_cons (lg_name 4 sc__law_then.nd) (lgs_cons (lg_name 5 sc__law_then.nd) (lgs_nil))))))) (lss_cons (ls_asg (le_var 1) (lg_tup (lgs_cons (lg_name 6 sc__law_then.nd) (lgs_cons (lg_name 7 sc__law_then.nd) (lgs_cons (lg_name 8 sc__law_then.nd) (lgs_cons (lg_name 9 sc__law_then.nd) (lgs_nil))))))) (lss_one (ls_ret (le_tup (la_cons (le_op od_add (le_op od_mul (le_var 2) (le_var 6)) (le_op od_mul (le_var 3) (le_var 8))) (la_cons (le_op od_add (le_op od_mul (le_var 2) (le_var 7)) (le_op od_mul (le_var 3) (le_var 9))) (la_cons (le_op od_add (le_op od_mul (le_var 4) (le_var 6)) (le_op od_mul (le_var 5) (le_var 8))) (la_cons (le_op od_add (le_op od_mul (le_var 4) (le_var 7)) (le_op od_mul (le_var 5) (le_var 9))) (la_nil))))) (show 4 ≤ 1000 by decide)))))
/-! ### _law_turn_drawn -/
abbrev s_law_turn_drawn : Stmt := top 67
abbrev N_law_turn_drawn : List Str := ["pot", "found", "lap", "step"]
theorem sc__law_turn_drawn : FnScope N_law_turn_drawn ["pot"] (defScope s_law_turn_drawn) := ⟨rfl, rfl, rfl, by decide +kernel, rfl, by decide +kernel, by decide +kernel⟩
def w_law_turn_drawn (Z : Ad) : WS := wSeq (wSet 1 (wTup [wC (.int 1), wC (.int 0), wC (.int 0), wC (.int 1)])) (wSeq (wFor (wRng1 (wCall S_law_take [wVar 0, wC (.int 6)])) (gN 2) (wSeq (wSet 3 (wOp gSub (wB gInt [wCall S_law_take [wVar 0, wC (.int 7)]]) (wC (.int 3)))) (wSet 1 (wCall S_law_then [wVar 1, wCall S_law_of [wVar 0, wLst [wTup [wC (.int 1), wVar 3, wC (.int 0), wC (.int 1)], wTup [wC (.int 1), wC (.int 0), wVar 3, wC (.int 1)], wTup [wC (.int 0), wNeg (wC (.int 1)), wC (.int 1), wC (.int 0)]]]])))) (wRet (wVar 1)))
theorem der__law_turn_drawn (Z : Ad) {P : Program} {w : World} {K : PySem.W.Frag} {mg : Str → Option Value} {base : Heap} {f : Addr} (T : Txt mg) (F__law_of : FnD P w K mg base 2 "_law_of" ["pot", "some"] [] S_law_of) (F__law_take : FnD P w K mg base 1 "_law_take" ["pot", "upto"] [] S_law_take) (F__law_then : FnD P w K mg base 1 "_law_then" ["one", "other"] [] S_law_then) (cdv : Value) (A : Around) (outer : List Env) (s : Shared) (H : Hp) (E : XK) (hg : A.guards = some []) (hr : Room 2 (A.deeper (envOfC "_law_turn_drawn" (defScope s_law_turn_drawn) s.heap.objs.size f cdv))) :
    LSs (cxOf (L2.CX P w) P w K mg base N_law_turn_drawn "_law_turn_drawn" (defScope s_law_turn_drawn) f cdv A outer s H E) (wxE E) (defBody s_law_turn_drawn) (w_law_turn_drawn Z) :=
  lss_cons (ls_set 1 sc__law_turn_drawn.nd (le_tup (la_cons (le_int) (la_cons (le_int) (la_cons (le_int) (la_cons (le_int) (la_nil))))) (show 4 ≤ 1000 by decide))) (lss_cons (ls_for (passes_of rfl) (li_rng1 T.z_range (la_cons (le_call F__law_take hg hr (takes_of rfl rfl rfl rfl) (la_cons (le_var 0) (la_cons (le_int) (la_nil)))) (la_nil))) (lg_name 2 sc__law_turn_drawn.nd) (lss_cons (ls_set 3 sc__law_turn_drawn.nd (le_op od_sub (le_callTy cd_int T.z_int (by decide +kernel) (la_cons (le_call F__law_take hg hr (takes_of rfl rfl rfl rfl) (la_cons (le_var 0) (la_cons (le_int) (la_nil)))) (la_nil))) (le_int))) (lss_one (ls_set 1 sc__law_turn_drawn.nd (le_call F__law_then hg hr (takes_of rfl rfl rfl rfl) (la_cons (le_var 1) (la_cons (le_call F__law_of hg hr (takes_of rfl rfl rfl rfl) (la_cons (le_var 0) (la_cons (le_lst (la_cons (le_tup (la_cons (le_int) (la_cons (le_var 3) (la_cons (le_int) (la_cons (le_int) (la_nil))))) (show 4 ≤ 1000 by decide)) (la_cons (le_tup (la_cons (le_int) (la_cons (le_int) (la_cons (le_var 3) (la_cons (le_int) (la_nil))))) (show 4 ≤ 1000 by decide)) (la_cons (le_tup (la_cons (le_int) (la_cons (le_neg (le_int)) (la_cons (le_int) (la_cons (le_int) (la_nil))))) (show 4 ≤ 1000 by decide)) (la_nil)))) (show 3 ≤ 1000 by decide)) (la_nil)))) (la_nil)))))))) (lss_one (ls_ret (le_var 1))))
/-! ### _law_is_form -/
abbrev s_law_is_form : Stmt := top 68
abbrev N_law_is_form : List Str := ["value", "one"]
theorem sc__law_is_form : FnScope N_law_is_form ["value"] (defScope s_law_is_form) := ⟨rfl, rfl, rfl, by decide +kernel, rfl, by decide +kernel, by decide +kernel⟩
def w_law_is_form (Z : Ad) : WS := wSeq (wIf (wOrT (wNotT (wTB (wIsi .tuple (wVar 0)))) (wTB (wOp gNe (wB gLen [wVar 0]) (wC (.int 3))))) (wRet (wC (.bl false))) (wNext)) (wRet (wB gAll [wLc (wSeqI (wVar 0)) (CT.one 1) (wYes) (wCall S_law_is_int [wVar 1, wNeg (wOp gPowW (wC (.int 10)) (wC (.int 6))), wOp gPowW (wC (.int 10)) (wC (.int 6))])]))
theorem der__law_is_form (Z : Ad) {P : Program} {w : World} {K : PySem.W.Frag} {mg : Str → Option Value} {base : Heap} {f : Addr} (T : Txt mg) (F__law_is_int : FnD P w K mg base 1 "_law_is_int" ["value", "low", "high"] [] S_law_is_int) (cdv : Value) (A : Around) (outer : List Env) (s : Shared) (H : Hp) (E : XK) (hg : A.guards = some []) (hr : Room 1 (A.deeper (envOfC "_law_is_form" (defScope s_law_is_form) s.heap.objs.size f cdv))) :
    LSs (cxOf (L2.CX P w) P w K mg base N_law_is_form "_law_is_form" (defScope s_law_is_form) f cdv A outer s H E) (wxE E) (defBody s_law_is_form) (w_law_is_form Z) :=
  lss_cons (ls_if ((lw_or (lt_not (lt_val (le_isi (t := .tuple) T.z_isinstance T.z_tuple (by decide +kernel) (le_var 0)))) (lw_or1 (lt_cmp (od_ne hr.units) (le_callB cd_len T.z_len (by decide +kernel) (la_cons (le_var 0) (la_nil))) (le_int)))).lt) (lss_one (ls_ret (le_bl))) (lss_nil)) (lss_one (ls_ret (le_callB (cd_all rfl) T.z_all (by decide +kernel) (la_cons (le_lc sc__law_is_form.nd (li_seq (le_var 0)) (ok := by show BlkOk N_law_is_form (defScope s_law_is_form) _ _; exact ⟨rfl, by decide +kernel, by decide +kernel, by decide +kernel, by decide +kernel⟩) (own := [("one", 1)]) (hv := rfl) (hg := (fun _ _ _ _ _ => pg_one 1 sc__law_is_form.nd)) (ht := (fun _ _ _ _ _ => lps_nil)) (he := (fun _ _ _ _ _ => le_call F__law_is_int hg hr LamX.takes0 (la_cons (le_var 1) (la_cons (le_neg (le_op od_powW (le_int) (le_int))) (la_cons (le_op od_powW (le_int) (le_int)) (la_nil))))))) (la_nil)))))
/-! ### _law_above_drawn -/
abbrev s_law_above_drawn : Stmt := top 69
abbrev N_law_above_drawn : List Str := ["pot", "most", "a", "c", "wide"]
theorem sc__law_above_drawn : FnScope N_law_above_drawn ["pot", "most"] (defScope s_law_above_drawn) := ⟨rfl, rfl, rfl, by decide +kernel, rfl, by decide +kernel, by decide +kernel⟩
def w_law_above_drawn (Z : Ad) : WS := wSeq (wPar 2 3 (wB gInt [wOp gAdd (wC (.int 1)) (wCall S_law_take [wVar 0, wVar 1])]) (wB gInt [wOp gAdd (wC (.int 1)) (wCall S_law_take [wVar 0, wVar 1])])) (wSeq (wSet 4 (wCall S_law_root [wOp gSub (wOp gMul (wOp gMul (wC (.int 4)) (wVar 2)) (wVar 3)) (wC (.int 1))])) (wRet (wTup [wVar 2, wOp gSub (wB gInt [wCall S_law_take [wVar 0, wOp gAdd (wOp gMul (wC (.int 2)) (wVar 4)) (wC (.int 1))]]) (wVar 4), wVar 3])))
theorem der__law_above_drawn (Z : Ad) {P : Program} {w : World} {K : PySem.W.Frag} {mg : Str → Option Value} {base : Heap} {f : Addr} (T : Txt mg) (F__law_root : FnD P w K mg base 1 "_law_root" ["number"] [] S_law_root) (F__law_take : FnD P w K mg base 1 "_law_take" ["pot", "upto"] [] S_law_take) (cdv : Value) (A : Around) (outer : List Env) (s : Shared) (H : Hp) (E : XK) (hg : A.guards = some []) (hr : Room 1 (A.deeper (envOfC "_law_above_drawn" (defScope s_law_above_drawn) s.heap.objs.size f cdv))) :
    LSs (cxOf (L2.CX P w) P w K mg base N_law_above_drawn "_law_above_drawn" (defScope s_law_above_drawn) f cdv A outer s H E) (wxE E) (defBody s_law_above_drawn) (w_law_above_drawn Z) :=
  lss_cons (ls_par 2 3 sc__law_above_drawn.nd (la_cons (le_callTy cd_int T.z_int (by decide +kernel) (la_cons (le_op od_add (le_int) (le_call F__law_take hg hr (takes_of rfl rfl rfl rfl) (la_cons (le_var 0) (la_cons (le_var 1) (la_nil))))) (la_nil))) (la_cons (le_callTy cd_int T.z_int (by decide +kernel) (la_cons (le_op od_add (le_int) (le_call F__law_take hg hr (takes_of rfl rfl rfl rfl) (la_cons (le_var 0) (la_cons (le_var 1) (la_nil))))) (la_nil))) (la_nil)))) (lss_cons (ls_set 4 sc__law_above_drawn.nd (le_call F__law_root hg hr (takes_of rfl rfl rfl rfl) (la_cons (le_op od_sub (le_op od_mul (le_op od_mul (le_int) (le_var 2)) (le_var 3)) (le_int)) (la_nil)))) (lss_one (ls_ret (le_tup (la_cons (le_var 2) (la_cons (le_op od_sub (le_callTy cd_int T.z_int (by decide +kernel) (la_cons (le_call F__law_take hg hr (takes_of rfl rfl rfl rfl) (la_cons (le_var 0) (la_cons (le_op od_add (le_op od_mul (le_int) (le_var 4)) (le_int)) (la_nil)))) (la_nil))) (le_var 4)) (la_cons (le_var 3) (la_nil)))) (show 3 ≤ 1000 by decide)))))
/-! ### _law_content -/
abbrev s_law_content : Stmt := top 70
abbrev N_law_content : List Str := ["form"]
theorem sc__law_content : FnScope N_law_content ["form"] (defScope s_law_content) := ⟨rfl, rfl, rfl, by decide +kernel, rfl, by decide +kernel, by decide +kernel⟩
def w_law_content (Z : Ad) : WS := wRet (wCall S_law_common [wCall S_law_common [wOp gIx (wVar 0) (wC (.int 0)), wOp gIx (wVar 0) (wC (.int 1))], wOp gIx (wVar 0) (wC (.int 2))])
theorem der__law_content (Z : Ad) {P : Program} {w : World} {K : PySem.W.Frag} {mg : Str → Option Value} {base : Heap} {f : Addr} (T : Txt mg) (F__law_common : FnD P w K mg base 1 "_law_common" ["one", "other"] [] S_law_common) (cdv : Value) (A : Around) (outer : List Env) (s : Shared) (H : Hp) (E : XK) (hg : A.guards = some []) (hr : Room 1 (A.deeper (envOfC "_law_content" (defScope s_law_content) s.heap.objs.size f cdv))) :
    LSs (cxOf (L2.CX P w) P w K mg base N_law_content "_law_content" (defScope s_law_content) f cdv A outer s H E) (wxE E) (defBody s_law_content) (w_law_content Z) :=
  lss_one (ls_ret (le_call F__law_common hg hr (takes_of rfl rfl rfl rfl) (la_cons (le_call F__law_common hg hr (takes_of rfl rfl rfl rfl) (la_cons (le_ix (le_var 0) (le_int)) (la_cons (le_ix (le_var 0) (le_int)) (la_nil)))) (la_cons (le_ix (le_var 0) (le_int)) (la_nil)))))
/-! ### _law_is_least -/
abbrev s_law_is_least : Stmt := top 71
abbrev N_law_is_least : List Str := ["form", "a", "b", "c"]
theorem sc__law_is_least : FnScope N_law_is_least ["form"] (defScope s_law_is_least) := ⟨rfl, rfl, rfl, by decide +kernel, rfl, by decide +kernel, by decide +kernel⟩
def w_law_is_least (Z : Ad) : WS := wSeq (wAsg (wVar 0) (gT [gN 1, gN 2, gN 3])) (wRet (wAndV (wChainN (wNeg (wVar 1)) [(gLt, wVar 2), (gLe, wVar 1), (gLe, wVar 3)]) (wOrV (wOp gGe (wVar 2) (wC (.int 0))) (wOp gNe (wVar 1) (wVar 3)))))
theorem der__law_is_least (Z : Ad) {P : Program} {w : World} {K : PySem.W.Frag} {mg : Str → Option Value} {base : Heap} {f : Addr} (T : Txt mg)  (cdv : Value) (A : Around) (outer : List Env) (s : Shared) (H : Hp) (E : XK) (hg : A.guards = some []) (hr : Room 0 (A.deeper (envOfC "_law_is_least" (defScope s_law_is_least) s.heap.objs.size f cdv))) :
    LSs (cxOf (L2.CX P w) P w K mg base N_law_is_least "_law_is_least" (defScope s_law_is_least) f cdv A outer s H E) (wxE E) (defBody s_law_is_least) (w_law_is_least Z) :=
  lss_cons (ls_asg (le_var 0) (lg_tup (lgs_cons (lg_name 1 sc__law_is_least.nd) (lgs_cons (lg_name 2 sc__law_is_least.nd) (lgs_cons (lg_name 3 sc__law_is_least.nd) (lgs_nil)))))) (lss_one (ls_ret (le_and (le_chainN (le_neg (le_var 1)) (lch_cons od_lt (le_var 2) (lch_cons od_le (le_var 1) (lch_last od_le (le_var 3))))) (le_one (le_or (le_cmp od_ge (le_var 2) (le_int)) (le_one (le_cmp (od_ne hr.units) (le_var 1) (le_var 3))))))))
/-! ### _law_least -/
abbrev s_law_least : Stmt := top 72
abbrev N_law_least : List Str := ["form", "here", "a", "b", "c", "step"]
theorem sc__law_least : FnScope N_law_least ["form"] (defScope s_law_least) := ⟨rfl, rfl, rfl, by decide +kernel, rfl, by decide +kernel, by decide +kernel⟩
def w_law_least (Z : Ad) : WS := wSeq (wSet 1 (wVar 0)) (wSeq (wWhile (wNotT (wTB (wCall S_law_is_least [wVar 1]))) (wSeq (wAsg (wVar 1) (gT [gN 2, gN 3, gN 4])) (wSeq (wSet 1 (wIfE (wOrT (wTB (wOp gGt (wVar 2) (wVar 4))) (wAndT (wTB (wOp gEq (wVar 2) (wVar 4))) (wTB (wOp gLt (wVar 3) (wC (.int 0)))))) (wTup [wVar 4, wNeg (wVar 3), wVar 2]) (wVar 1))) (wSeq (wAsg (wVar 1) (gT [gN 2, gN 3, gN 4])) (wSeq (wSet 5 (wC (.int 0))) (wSeq (wWhile (wNotT (wTB (wChainN (wNeg (wVar 2)) [(gLt, wOp gAdd (wVar 3) (wOp gMul (wOp gMul (wC (.int 2)) (wVar 2)) (wVar 5))), (gLe, wVar 2)]))) (wSet 5 (wOp gAdd (wVar 5) (wIfE (wTB (wOp gLe (wVar 3) (wNeg (wVar 2)))) (wC (.int 1)) (wNeg (wC (.int 1))))))) (wSet 1 (wCall S_law_turned [wVar 1, wTup [wC (.int 1), wVar 5, wC (.int 0), wC (.int 1)]])))))))) (wRet (wVar 1)))
theorem der__law_least (Z : Ad) {P : Program} {w : World} {K : PySem.W.Frag} {mg : Str → Option Value} {base : Heap} {f : Addr} (T : Txt mg) (F__law_is_least : FnD P w K mg base 1 "_law_is_least" ["form"] [] S_law_is_least) (F__law_turned : FnD P w K mg base 2 "_law_turned" ["form", "turn"] [] S_law_turned) (cdv : Value) (A : Around) (outer : List Env) (s : Shared) (H : Hp) (E : XK) (hg : A.guards = some []) (hr : Room 2 (A.deeper (envOfC "_law_least" (defScope s_law_least) s.heap.objs.size f cdv))) :
    LSs (cxOf (L2.CX P w) P w K mg base N_law_least "_law_least" (defScope s_law_least) f cdv A outer s H E) (wxE E) (defBody s_law_least) (w_law_least Z) :=
  lss_cons (ls_set 1 sc__law_least.nd (le_var 0)) (lss_cons (ls_while (passes_of rfl) (lt_not (lt_val (le_call F__law_is_least hg hr (takes_of rfl rfl rfl rfl) (la_cons (le_var 1) (la_nil))))) (lss_cons (ls_asg (le_var 1) (lg_tup (lgs_cons (lg_name 2 sc__law_least.nd) (lgs_cons (lg_name 3 sc__law_least.nd) (lgs_cons (lg_name 4 sc__law_least.nd) (lgs_nil)))))) (lss_cons (ls_set 1 sc__law_least.nd (le_ifE ((lw_or (lt_cmp od_gt (le_var 2) (le_var 4)) (lw_or1 ((lw_and (lt_cmp (od_eq hr.units) (le_var 2) (le_var 4)) (lw_and1 (lt_cmp od_lt (le_var 3) (le_int)))).lt))).lt) (le_tup (la_cons (le_var 4) (la_cons (le_neg (le_var 3)) (la_cons (le_var 2) (la_nil)))) (show 3 ≤ 1000 by decide)) (le_var 1))) (lss_cons (ls_asg (le_var 1) (lg_tup (lgs_cons (lg_name 2 sc__law_least.nd) (lgs_cons (lg_name 3 sc__law_least.nd) (lgs_cons (lg_name 4 sc__law_least.nd) (lgs_nil)))))) (lss_cons (ls_set 5 sc__law_least.nd (le_int)) (lss_cons (ls_while (passes_of rfl) (lt_not (lt_chainN (le_neg (le_var 2)) (lch_cons od_lt (le_op od_add (le_var 3) (le_op od_mul (le_op od_mul (le_int) (le_var 2)) (le_var 5))) (lch_last od_le (le_var 2))))) (lss_one (ls_set 5 sc__law_least.nd (le_op od_add (le_var 5) (le_ifE (lt_cmp od_le (le_var 3) (le_neg (le_var 2))) (le_int) (le_neg (le_int))))))) (lss_one (ls_set 1 sc__law_least.nd (le_call F__law_turned hg hr (takes_of rfl rfl rfl rfl) (la_cons (le_var 1) (la_cons (le_tup (la_cons (le_int) (la_cons (le_var 5) (la_cons (le_int) (la_cons (le_int) (la_nil))))) (show 4 ≤ 1000 by decide)) (la_nil)))))))))))) (lss_one (ls_ret (le_var 1))))
/-! ### _law_is_plain -/
abbrev s_law_is_plain : Stmt := top 73
abbrev N_law_is_plain : List Str := ["value", "form"]
theorem sc__law_is_plain : FnScope N_law_is_plain ["value", "form"] (defScope s_law_is_plain) := ⟨rfl, rfl, rfl, by decide +kernel, rfl, by decide +kernel, by decide +kernel⟩
def w_law_is_plain (Z : Ad) : WS := wRet (wAndV (wIsi .tuple (wVar 0)) (wAndV (wOp gEq (wVar 0) (wVar 1)) (wOp gEq (wB gReprX [wVar 0]) (wB gReprX [wVar 1]))))
theorem der__law_is_plain (Z : Ad) {P : Program} {w : World} {K : PySem.W.Frag} {mg : Str → Option Value} {base : Heap} {f : Addr} (T : Txt mg)  (cdv : Value) (A : Around) (outer : List Env) (s : Shared) (H : Hp) (E : XK) (hg : A.guards = some []) (hr : Room 0 (A.deeper (envOfC "_law_is_plain" (defScope s_law_is_plain) s.heap.objs.size f cdv))) :
    LSs (cxOf (L2.CX P w) P w K mg base N_law_is_plain "_law_is_plain" (defScope s_law_is_plain) f cdv A outer s H E) (wxE E) (defBody s_law_is_plain) (w_law_is_plain Z) :=
  lss_one (ls_ret (le_and (le_isi (t := .tuple) T.z_isinstance T.z_tuple (by decide +kernel) (le_var 0)) (le_and (le_cmp (od_eq hr.units) (le_var 0) (le_var 1)) (le_one (le_cmp (od_eq hr.units) (le_callB (cd_reprX hg (u65 hr)) T.z_repr (by decide +kernel) (la_cons (le_var 0) (la_nil))) (le_callB (cd_reprX hg (u65 hr)) T.z_repr (by decide +kernel) (la_cons (le_var 1) (la_nil))))))))
/-! ### _law_is_least_due -/
abbrev s_law_is_least_due : Stmt := top 74
abbrev N_law_is_least_due : List Str := ["form", "value"]
theorem sc__law_is_least_due : FnScope N_law_is_least_due ["form", "value"] (defScope s_law_is_least_due) := ⟨rfl, rfl, rfl, by decide +kernel, rfl, by decide +kernel, by decide +kernel⟩
def w_law_is_least_due (Z : Ad) : WS := wSeq (wIf (wOrT (wNotT (wTB (wIsi .tuple (wVar 1)))) (wOrT (wTB (wOp gNe (wB gLen [wVar 1]) (wC (.int 2)))) (wNotT (wTB (wCall S_law_is_turn [wOp gIx (wVar 1) (wC (.int 1))]))))) (wRet (wC (.bl false))) (wNext)) (wRet (wAndV (wCall S_law_is_plain [wOp gIx (wVar 1) (wC (.int 0)), wCall S_law_turned [wVar 0, wOp gIx (wVar 1) (wC (.int 1))]]) (wCall S_law_is_least [wOp gIx (wVar 1) (wC (.int 0))])))
theorem der__law_is_least_due (Z : Ad) {P : Program} {w : World} {K : PySem.W.Frag} {mg : Str → Option Value} {base : Heap} {f : Addr} (T : Txt mg) (F__law_is_least : FnD P w K mg base 1 "_law_is_least" ["form"] [] S_law_is_least) (F__law_is_plain : FnD P w K mg base 1 "_law_is_plain" ["value", "form"] [] S_law_is_plain) (F__law_is_turn : FnD P w K mg base 1 "_law_is_turn" ["value"] [] S_law_is_turn) (F__law_turned : FnD P w K mg base 2 "_law_turned" ["form", "turn"] [] S_law_turned) (cdv : Value) (A : Around) (outer : List Env) (s : Shared) (H : Hp) (E : XK) (hg : A.guards = some []) (hr : Room 2 (A.deeper (envOfC "_law_is_least_due" (defScope s_law_is_least_due) s.heap.objs.size f cdv))) :
    LSs (cxOf (L2.CX P w) P w K mg base N_law_is_least_due "_law_is_least_due" (defScope s_law_is_least_due) f cdv A outer s H E) (wxE E) (defBody s_law_is_least_due) (w_law_is_least_due Z) :=
  lss_cons (ls_if ((lw_or (lt_not (lt_val (le_isi (t := .tuple) T.z_isinstance T.z_tuple (by decide +kernel) (le_var 1)))) (lw_or (lt_cmp (od_ne hr.units) (le_callB cd_len T.z_len (by decide +kernel) (la_cons (le_var 1) (la_nil))) (le_int)) (lw_or1 (lt_not (lt_val (le_call F__law_is_turn hg hr (takes_of rfl rfl rfl rfl) (la_cons (le_ix (le_var 1) (le_int)) (la_nil)))))))).lt) (lss_one (ls_ret (le_bl))) (lss_nil)) (lss_one (ls_ret (le_and (le_call F__law_is_plain hg hr (takes_of rfl rfl rfl rfl) (la_cons (le_ix (le_var 1) (le_int)) (la_cons (le_call F__law_turned hg hr (takes_of rfl rfl rfl rfl) (la_cons (le_var 0) (la_cons (le_ix (le_var 1) (le_int)) (la_nil)))) (la_nil)))) (le_one (le_call F__law_is_least hg hr (takes_of rfl rfl rfl rfl) (la_cons (le_ix (le_var 1) (le_int)) (la_nil)))))))
/-! ### _law_is_same_due -/
abbrev s_law_is_same_due : Stmt := top 75
abbrev N_law_is_same_due : List Str := ["one", "other", "value"]
theorem sc__law_is_same_due : FnScope N_law_is_same_due ["one", "other", "value"] (defScope s_law_is_same_due) := ⟨rfl, rfl, rfl, by decide +kernel, rfl, by decide +kernel, by decide +kernel⟩
def w_law_is_same_due (Z : Ad) : WS := wSeq (wIf (wOrT (wNotT (wTB (wIsi .tuple (wVar 2)))) (wOrT (wTB (wOp gNotIn (wB gLen [wVar 2]) (wTup [wC (.int 2), wC (.int 3)]))) (wNotT (wTB (wIsi .str (wOp gIx (wVar 2) (wC (.int 0)))))))) (wRet (wC (.bl false))) (wNext)) (wSeq (wIf (wAndT (wTB (wOp gEq (wOp gIx (wVar 2) (wC (.int 0))) (wC (.str "turn")))) (wTB (wOp gEq (wB gLen [wVar 2]) (wC (.int 2))))) (wRet (wAndV (wCall S_law_is_turn [wOp gIx (wVar 2) (wC (.int 1))]) (wOp gEq (wCall S_law_turned [wVar 0, wOp gIx (wVar 2) (wC (.int 1))]) (wVar 1)))) (wNext)) (wSeq (wIf (wOrT (wTB (wOp gNe (wOp gIx (wVar 2) (wC (.int 0))) (wC (.str "least")))) (wOrT (wTB (wOp gNe (wB gLen [wVar 2]) (wC (.int 3)))) (wTB (wOp gEq (wCall S_law_least [wVar 0]) (wCall S_law_least [wVar 1]))))) (wRet (wC (.bl false))) (wNext)) (wRet (wAndV (wCall S_law_is_plain [wOp gIx (wVar 2) (wC (.int 1)), wCall S_law_least [wVar 0]]) (wCall S_law_is_plain [wOp gIx (wVar 2) (wC (.int 2)), wCall S_law_least [wVar 1]])))))
theorem der__law_is_same_due (Z : Ad) {P : Program} {w : World} {K : PySem.W.Frag} {mg : Str → Option Value} {base : Heap} {f : Addr} (T : Txt mg) (F__law_is_plain : FnD P w K mg base 1 "_law_is_plain" ["value", "form"] [] S_law_is_plain) (F__law_is_turn : FnD P w K mg base 1 "_law_is_turn" ["value"] [] S_law_is_turn) (F__law_least : FnD P w K mg base 3 "_law_least" ["form"] [] S_law_least) (F__law_turned : FnD P w K mg base 2 "_law_turned" ["form", "turn"] [] S_law_turned) (cdv : Value) (A : Around) (outer : List Env) (s : Shared) (H : Hp) (E : XK) (hg : A.guards = some []) (hr : Room 3 (A.deeper (envOfC "_law_is_same_due" (defScope s_law_is_same_due) s.heap.objs.size f cdv))) :
    LSs (cxOf (L2.CX P w) P w K mg base N_law_is_same_due "_law_is_same_due" (defScope s_law_is_same_due) f cdv A outer s H E) (wxE E) (defBody s_law_is_same_due) (w_law_is_same_due Z) :=
  lss_cons (ls_if ((lw_or (lt_not (lt_val (le_isi (t := .tuple) T.z_isinstance T.z_tuple (by decide +kernel) (le_var 2)))) (lw_or (lt_cmp (od_notIn (u65 hr)) (le_callB cd_len T.z_len (by decide +kernel) (la_cons (le_var 2) (la_nil))) (le_tup (la_cons (le_int) (la_cons (le_int) (la_nil))) (show 2 ≤ 1000 by decide))) (lw_or1 (lt_not (lt_val (le_isi (t := .str) T.z_isinstance T.z_str (by decide +kernel) (le_ix (le_var 2) (le_int)))))))).lt) (lss_one (ls_ret (le_bl))) (lss_nil)) (lss_cons (ls_if ((lw_and (lt_cmp (od_eq hr.units) (le_ix (le_var 2) (le_int)) (le_str)) (lw_and1 (lt_cmp (od_eq hr.units) (le_callB cd_len T.z_len (by decide +kernel) (la_cons (le_var 2) (la_nil))) (le_int)))).lt) (lss_one (ls_ret (le_and (le_call F__law_is_turn hg hr (takes_of rfl rfl rfl rfl) (la_cons (le_ix (le_var 2) (le_int)) (la_nil))) (le_one (le_cmp (od_eq hr.units) (le_call F__law_turned hg hr (takes_of rfl rfl rfl rfl) (la_cons (le_var 0) (la_cons (le_ix (le_var 2) (le_int)) (la_nil)))) (le_var 1)))))) (lss_nil)) (lss_cons (ls_if ((lw_or (lt_cmp (od_ne hr.units) (le_ix (le_var 2) (le_int)) (le_str)) (lw_or (lt_cmp (od_ne hr.units) (le_callB cd_len T.z_len (by decide +kernel) (la_cons (le_var 2) (la_nil))) (le_int)) (lw_or1 (lt_cmp (od_eq hr.units) (le_call F__law_least hg hr (takes_of rfl rfl rfl rfl) (la_cons (le_var 0) (la_nil))) (le_call F__law_least hg hr (takes_of rfl rfl rfl rfl) (la_cons (le_var 1) (la_nil))))))).lt) (lss_one (ls_ret (le_bl))) (lss_nil)) (lss_one (ls_ret (le_and (le_call F__law_is_plain hg hr (takes_of rfl rfl rfl rfl) (la_cons (le_ix (le_var 2) (le_int)) (la_cons (le_call F__law_least hg hr (takes_of rfl rfl rfl rfl) (la_cons (le_var 0) (la_nil))) (la_nil)))) (le_one (le_call F__law_is_plain hg hr (takes_of rfl rfl rfl rfl) (la_cons (le_ix (le_var 2) (le_int)) (la_cons (le_call F__law_least hg hr (takes_of rfl rfl rfl rfl) (la_cons (le_var 1) (la_nil))) (la_nil))))))))))
/-! ### _law_all_least -/
abbrev s_law_all_least : Stmt := top 76
abbrev N_law_all_least : List Str := ["whole", "found", "a", "b"]
theorem sc__law_all_least : FnScope N_law_all_least ["whole"] (defScope s_law_all_least) := ⟨rfl, rfl, rfl, by decide +kernel, rfl, by decide +kernel, by decide +kernel⟩
def w_law_all_least (Z : Ad) : WS := wSeq (wSet 1 (wLst [])) (wSeq (wFor (wRng2 (wC (.int 1)) (wOp gAdd (wCall S_law_root [wNeg (wVar 0)]) (wC (.int 1)))) (gN 2) (wFor (wRng2 (wOp gAdd (wNeg (wVar 2)) (wC (.int 1))) (wOp gAdd (wVar 2) (wC (.int 1)))) (gN 3) (wIf (wAndT (wTB (wOp gEq (wOp gMod (wOp gSub (wOp gMul (wVar 3) (wVar 3)) (wVar 0)) (wOp gMul (wC (.int 4)) (wVar 2))) (wC (.int 0)))) (wTB (wCall S_law_is_least [wTup [wVar 2, wVar 3, wOp gFdiv (wOp gSub (wOp gMul (wVar 3) (wVar 3)) (wVar 0)) (wOp gMul (wC (.int 4)) (wVar 2))]]))) (wExpr (wMt gAppend (wVar 1) [wTup [wVar 2, wVar 3, wOp gFdiv (wOp gSub (wOp gMul (wVar 3) (wVar 3)) (wVar 0)) (wOp gMul (wC (.int 4)) (wVar 2))]])) (wNext)))) (wRet (wB gSorted [wVar 1])))
theorem der__law_all_least (Z : Ad) {P : Program} {w : World} {K : PySem.W.Frag} {mg : Str → Option Value} {base : Heap} {f : Addr} (T : Txt mg) (F__law_is_least : FnD P w K mg base 1 "_law_is_least" ["form"] [] S_law_is_least) (F__law_root : FnD P w K mg base 1 "_law_root" ["number"] [] S_law_root) (cdv : Value) (A : Around) (outer : List Env) (s : Shared) (H : Hp) (E : XK) (hg : A.guards = some []) (hr : Room 1 (A.deeper (envOfC "_law_all_least" (defScope s_law_all_least) s.heap.objs.size f cdv))) :
    LSs (cxOf (L2.CX P w) P w K mg base N_law_all_least "_law_all_least" (defScope s_law_all_least) f cdv A outer s H E) (wxE E) (defBody s_law_all_least) (w_law_all_least Z) :=
  lss_cons (ls_set 1 sc__law_all_least.nd (le_lst (la_nil) (show 0 ≤ 1000 by decide))) (lss_cons (ls_for (passes_of rfl) (li_rng2 T.z_range (la_cons (le_int) (la_cons (le_op od_add (le_call F__law_root hg hr (takes_of rfl rfl rfl rfl) (la_cons (le_neg (le_var 0)) (la_nil))) (le_int)) (la_nil)))) (lg_name 2 sc__law_all_least.nd) (lss_one (ls_for (passes_of rfl) (li_rng2 T.z_range (la_cons (le_op od_add (le_neg (le_var 2)) (le_int)) (la_cons (le_op od_add (le_var 2) (le_int)) (la_nil)))) (lg_name 3 sc__law_all_least.nd) (lss_one (ls_if ((lw_and (lt_cmp (od_eq hr.units) (le_op od_mod (le_op od_sub (le_op od_mul (le_var 3) (le_var 3)) (le_var 0)) (le_op od_mul (le_int) (le_var 2))) (le_int)) (lw_and1 (lt_val (le_call F__law_is_least hg hr (takes_of rfl rfl rfl rfl) (la_cons (le_tup (la_cons (le_var 2) (la_cons (le_var 3) (la_cons (le_op od_fdiv (le_op od_sub (le_op od_mul (le_var 3) (le_var 3)) (le_var 0)) (le_op od_mul (le_int) (le_var 2))) (la_nil)))) (show 3 ≤ 1000 by decide)) (la_nil)))))).lt) (lss_one (ls_expr (le_append (le_var 1) (la_cons (le_tup (la_cons (le_var 2) (la_cons (le_var 3) (la_cons (le_op od_fdiv (le_op od_sub (le_op od_mul (le_var 3) (le_var 3)) (le_var 0)) (le_op od_mul (le_int) (le_var 2))) (la_nil)))) (show 3 ≤ 1000 by decide)) (la_nil))))) (lss_nil)))))) (lss_one (ls_ret (le_callB (cd_sorted hr.units) T.z_sorted (by decide +kernel) (la_cons (le_var 1) (la_nil))))))
/-! ### _law_are_papers_right -/
abbrev s_law_are_papers_right : Stmt := top 77
abbrev N_law_are_papers_right : List Str := ["pot", "one", "other", "told", "least", "values", "value", "own", "turn"]
theorem sc__law_are_papers_right : FnScope N_law_are_papers_right ["pot", "one", "other"] (defScope s_law_are_papers_right) := ⟨rfl, rfl, rfl, by decide +kernel, rfl, by decide +kernel, by decide +kernel⟩
def w_law_are_papers_right (Z : Ad) : WS := wSeq (wAsg (wTup [wCall (Ssame_above Z) [wVar 1, wVar 2], wCall (Sleast_form Z) [wVar 1]]) (gT [gN 3, gN 4])) (wSeq (wSet 5 (wLst [wVar 3, wVar 4, wB gList [wVar 3], wSl (wVar 3) (wNoP) (wPart (wC (.int 1))), wTup [wC (.str "turn"), wTup [wC (.int 1), wC (.int 0), wC (.int 0), wC (.int 1)]], wTup [wC (.str "least"), wVar 1, wVar 2], wC .non])) (wSeq (wExpr (wMt gAppend (wVar 5) [wTup [wC (.str "turn"), wOp gIx (wVar 4) (wC (.int 1))]])) (wSeq (wSet 5 (wOp gAdd (wOp gAdd (wVar 5) (wLc (wSeqI (wSl (wCall (Sown_turns Z) [wVar 1]) (wNoP) (wPart (wC (.int 2))))) (CT.one 7) (wYes) (wTup [wOp gIx (wVar 4) (wC (.int 0)), wCall S_law_then [wVar 7, wOp gIx (wVar 4) (wC (.int 1))]]))) (wLst [wBack (wVar 4)]))) (wSeq (wIf (wTB (wOp gEq (wOp gIx (wVar 3) (wC (.int 0))) (wC (.str "turn")))) (wSeq (wSet 5 (wOp gAdd (wVar 5) (wLc (wSeqI (wSl (wCall (Sown_turns Z) [wVar 1]) (wNoP) (wPart (wC (.int 2))))) (CT.one 7) (wYes) (wTup [wC (.str "turn"), wCall S_law_then [wVar 7, wOp gIx (wVar 3) (wC (.int 1))]])))) (wSet 5 (wOp gAdd (wVar 5) (wLst [wTup [wC (.str "least"), wCall S_law_least [wVar 1], wCall S_law_least [wVar 2]]])))) (wNext)) (wSeq (wFor (wSeqI (wOp gAdd (wOp gAdd (wVar 5) (wLc (wRng1 (wC (.int 8))) (CT.one 8) (wYes) (wCall (S_law_bent 3) [wVar 0, wCall S_law_of [wVar 0, wLst [wVar 3, wVar 4]]]))) (wLst [wCall S_law_odd [wVar 0]]))) (gN 6) (wSeq (wIf (wNotT (wTB (wCall S_law_is_bool [wCall Sshows_same_above ([wVar 1, wVar 2] ++ [wVar 6]), wCall S_law_is_same_due [wVar 1, wVar 2, wVar 6]]))) (wRet (wC (.bl false))) (wNext)) (wIf (wNotT (wTB (wCall S_law_is_bool [wCall (Sshows_least Z) ([wVar 1] ++ [wVar 6]), wCall S_law_is_least_due [wVar 1, wVar 6]]))) (wRet (wC (.bl false))) (wNext)))) (wRet (wC (.bl true))))))))
theorem der__law_are_papers_right (Z : Ad) {P : Program} {w : World} {K : PySem.W.Frag} {mg : Str → Option Value} {base : Heap} {f : Addr} (T : Txt mg) (F__law_bent_3 : FnD P w K mg base 6 "_law_bent" ["pot", "value"] [] (S_law_bent 3)) (F__law_is_bool : FnD P w K mg base 1 "_law_is_bool" ["told", "due"] [] S_law_is_bool) (F__law_is_least_due : FnD P w K mg base 3 "_law_is_least_due" ["form", "value"] [] S_law_is_least_due) (F__law_is_same_due : FnD P w K mg base 4 "_law_is_same_due" ["one", "other", "value"] [] S_law_is_same_due) (F__law_least : FnD P w K mg base 3 "_law_least" ["form"] [] S_law_least) (F__law_odd : FnD P w K mg base 3 "_law_odd" ["pot"] [] S_law_odd) (F__law_of : FnD P w K mg base 2 "_law_of" ["pot", "some"] [] S_law_of) (F__law_then : FnD P w K mg base 1 "_law_then" ["one", "other"] [] S_law_then) (F_least_form : FnD P w K mg base 7 "least_form" ["form"] [] (Sleast_form Z)) (F_own_turns : FnD P w K mg base 7 "own_turns" ["form"] [] (Sown_turns Z)) (F_same_above : FnD P w K mg base 8 "same_above" ["one", "other"] [] (Ssame_above Z)) (F_shows_least : FnD P w K mg base 7 "shows_least" ["form", "value"] [1] (Sshows_least Z)) (F_shows_same_above : FnD P w K mg base 8 "shows_same_above" ["one", "other", "value"] [2] Sshows_same_above) (cdv : Value) (A : Around) (outer : List Env) (s : Shared) (H : Hp) (E : XK) (hg : A.guards = some []) (hr : Room 8 (A.deeper (envOfC "_law_are_papers_right" (defScope s_law_are_papers_right) s.heap.objs.size f cdv))) :
    LSs (cxOf (L2.CX P w) P w K mg base N_law_are_papers_right "_law_are_papers_right" (defScope s_law_are_papers_right) f cdv A outer s H E) (wxE E) (defBody s_law_are_papers_right) (w_law_are_papers_right Z) :=
  lss_cons (ls_asg (le_tup (la_cons (le_call F_same_above hg hr (takes_of rfl rfl rfl rfl) (la_cons (le_var 1) (la_cons (le_var 2) (la_nil)))) (la_cons (le_call F_least_form hg hr (takes_of rfl rfl rfl rfl) (la_cons (le_var 1) (la_nil))) (la_nil))) (show 2 ≤ 1000 by decide)) (lg_tup (lgs_cons (lg_name 3 sc__law_are_papers_right.nd) (lgs_cons (lg_name 4 sc__law_are_papers_right.nd) (lgs_nil))))) (lss_cons (ls_set 5 sc__law_are_papers_right.nd (le_lst (la_cons (le_var 3) (la_cons (le_var 4) (la_cons (le_callTy cd_list T.z_list (by decide +kernel) (la_cons (le_var 3) (la_nil))) (la_cons (le_sl (le_var 3) (lo_none) (lo_some (le_int))) (la_cons (le_tup (la_cons (le_str) (la_cons (le_tup (la_cons (le_int) (la_cons (le_int) (la_cons (le_int) (la_cons (le_int) (la_nil))))) (show 4 ≤ 1000 by decide)) (la_nil))) (show 2 ≤ 1000 by decide)) (la_cons (le_tup (la_cons (le_str) (la_cons (le_var 1) (la_cons (le_var 2) (la_nil)))) (show 3 ≤ 1000 by decide)) (la_cons (le_non) (la_nil)))))))) (show 7 ≤ 1000 by decide))) (lss_cons (ls_expr (le_append (le_var 5) (la_cons (le_tup (la_cons (le_str) (la_cons (le_ix (le_var 4) (le_int)) (la_nil))) (show 2 ≤ 1000 by decide)) (la_nil)))) (lss_cons (ls_set 5 sc__law_are_papers_right.nd (le_op od_add (le_op od_add (le_var 5) (le_lc sc__law_are_papers_right.nd (li_seq (le_sl (le_call F_own_turns hg hr (takes_of rfl rfl rfl rfl) (la_cons (le_var 1) (la_nil))) (lo_none) (lo_some (le_int)))) (ok := by show BlkOk N_law_are_papers_right (defScope s_law_are_papers_right) _ _; exact ⟨rfl, by decide +kernel, by decide +kernel, by decide +kernel, by decide +kernel⟩) (own := [("own", 7)]) (hv := rfl) (hg := (fun _ _ _ _ _ => pg_one 7 sc__law_are_papers_right.nd)) (ht := (fun _ _ _ _ _ => lps_nil)) (he := (fun _ _ _ _ _ => le_tup (la_cons (le_ix (le_var 4) (le_int)) (la_cons (le_call F__law_then hg hr LamX.takes0 (la_cons (le_var 7) (la_cons (le_ix (le_var 4) (le_int)) (la_nil)))) (la_nil))) (show 2 ≤ 1000 by decide))))) (le_lst (la_cons (le_back (le_var 4)) (la_nil)) (show 1 ≤ 1000 by decide)))) (lss_cons (ls_if (lt_cmp (od_eq hr.units) (le_ix (le_var 3) (le_int)) (le_str)) (lss_cons (ls_set 5 sc__law_are_papers_right.nd (le_op od_add (le_var 5) (le_lc sc__law_are_papers_right.nd (li_seq (le_sl (le_call F_own_turns hg hr (takes_of rfl rfl rfl rfl) (la_cons (le_var 1) (la_nil))) (lo_none) (lo_some (le_int)))) (ok := by show BlkOk N_law_are_papers_right (defScope s_law_are_papers_right) _ _; exact ⟨rfl, by decide +kernel, by decide +kernel, by decide +kernel, by decide +kernel⟩) (own := [("own", 7)]) (hv := rfl) (hg := (fun _ _ _ _ _ => pg_one 7 sc__law_are_papers_right.nd)) (ht := (fun _ _ _ _ _ => lps_nil)) (he := (fun _ _ _ _ _ => le_tup (la_cons (le_str) (la_cons (le_call F__law_then hg hr LamX.takes0 (la_cons (le_var 7) (la_cons (le_ix (le_var 3) (le_int)) (la_nil)))) (la_nil))) (show 2 ≤ 1000 by decide)))))) (lss_one (ls_set 5 sc__law_are_papers_right.nd (le_op od_add (le_var 5) (le_lst (la_cons (le_tup (la_cons (le_str) (la_cons (le_call F__law_least hg hr (takes_of rfl rfl rfl rfl) (la_cons (le_var 1) (la_nil))) (la_cons (le_call F__law_least hg hr (takes_of rfl rfl rfl rfl) (la_cons (le_var 2) (la_nil))) (la_nil)))) (show 3 ≤ 1000 by decide)) (la_nil)) (show 1 ≤ 1000 by decide)))))) (lss_nil)) (lss_cons (ls_for (passes_of rfl) (li_seq (le_op od_add (le_op od_add (le_var 5) (le_lc sc__law_are_papers_right.nd (li_rng1 T.z_range (la_cons (le_int) (la_nil))) (ok := by show BlkOk N_law_are_papers_right (defScope s_law_are_papers_right) _ _; exact ⟨rfl, by decide +kernel, by decide +kernel, by decide +kernel, by decide +kernel⟩) (own := [("turn", 8)]) (hv := rfl) (hg := (fun _ _ _ _ _ => pg_one 8 sc__law_are_papers_right.nd)) (ht := (fun _ _ _ _ _ => lps_nil)) (he := (fun _ _ _ _ _ => le_call F__law_bent_3 hg hr LamX.takes0 (la_cons (le_var 0) (la_cons (le_call F__law_of hg hr LamX.takes0 (la_cons (le_var 0) (la_cons (le_lst (la_cons (le_var 3) (la_cons (le_var 4) (la_nil))) (show 2 ≤ 1000 by decide)) (la_nil)))) (la_nil))))))) (le_lst (la_cons (le_call F__law_odd hg hr (takes_of rfl rfl rfl rfl) (la_cons (le_var 0) (la_nil))) (la_nil)) (show 1 ≤ 1000 by decide)))) (lg_name 6 sc__law_are_papers_right.nd) (lss_cons (ls_if (lt_not (lt_val (le_call F__law_is_bool hg hr (takes_of rfl rfl rfl rfl) (la_cons (le_callK 2 F_shows_same_above hg hr (takes_of rfl rfl rfl rfl) (la_cons (le_var 1) (la_cons (le_var 2) (la_nil))) (lk_cons (le_var 6) (lk_nil))) (la_cons (le_call F__law_is_same_due hg hr (takes_of rfl rfl rfl rfl) (la_cons (le_var 1) (la_cons (le_var 2) (la_cons (le_var 6) (la_nil))))) (la_nil)))))) (lss_one (ls_ret (le_bl))) (lss_nil)) (lss_one (ls_if (lt_not (lt_val (le_call F__law_is_bool hg hr (takes_of rfl rfl rfl rfl) (la_cons (le_callK 1 F_shows_least hg hr (takes_of rfl rfl rfl rfl) (la_cons (le_var 1) (la_nil)) (lk_cons (le_var 6) (lk_nil))) (la_cons (le_call F__law_is_least_due hg hr (takes_of rfl rfl rfl rfl) (la_cons (le_var 1) (la_cons (le_var 6) (la_nil)))) (la_nil)))))) (lss_one (ls_ret (le_bl))) (lss_nil))))) (lss_one (ls_ret (le_bl))))))))
/-! ### _law_right -/
abbrev s_law_right : Stmt := top 78
abbrev N_law_right : List Str := ["pot", "lap", "one", "other", "whole", "due", "plain", "told", "flat", "error", "calls", "kinds", "odd", "value", "form", "caught", "call"]
theorem sc__law_right : FnScope N_law_right ["pot"] (defScope s_law_right) := ⟨rfl, rfl, rfl, by decide +kernel, rfl, by decide +kernel, by decide +kernel⟩
def lx_law_right_0 : Expr := (nthE (exA (ex1 (nthE (exA (stV (nthS (defBody s_law_right) 3))) 0))) 0)
def lam_law_right_0 (cl : List (Str × Addr)) : LamT := lamOf cl "_law_right.<locals>." (lamP lx_law_right_0) (lamB lx_law_right_0) (lamSc lx_law_right_0)
theorem lS_law_right_0 : LamX.LamS (defScope s_law_right) (lamSc lx_law_right_0) := LamX.lamS_by (by decide +kernel)
def wl_law_right_0 (Z : Ad) : WE := wCall (Sall_least Z) [wVar 12]
theorem lb_law_right_0 (Z : Ad) {X : Cx} (T : Txt X.mg) (F_all_least : FnD X.prog X.w X.K X.mg X.base 4 "all_least" ["whole"] [0] (Sall_least Z)) (cl : List (Str × Addr)) : LamB X N_law_right (lam_law_right_0 cl) 8 (wl_law_right_0 Z) := fun A outer s H E fa c hg hr =>
  show LE (lamC X N_law_right A outer s H E (lam_law_right_0 cl) fa c) (fun cls d _ H => E cls d H) (lamB lx_law_right_0) _ from le_call F_all_least hg hr (takes_of rfl rfl rfl rfl) (la_cons (le_var 12) (la_nil))
def lx_law_right_1 : Expr := (nthE (exA (ex1 (nthE (exA (stV (nthS (defBody s_law_right) 4))) 0))) 0)
def lam_law_right_1 (cl : List (Str × Addr)) : LamT := lamOf cl "_law_right.<locals>." (lamP lx_law_right_1) (lamB lx_law_right_1) (lamSc lx_law_right_1)
theorem lS_law_right_1 : LamX.LamS (defScope s_law_right) (lamSc lx_law_right_1) := LamX.lamS_by (by decide +kernel)
def wl_law_right_1 (Z : Ad) : WE := wCall (Splain_least Z) [wVar 12]
theorem lb_law_right_1 (Z : Ad) {X : Cx} (T : Txt X.mg) (F_plain_least : FnD X.prog X.w X.K X.mg X.base 4 "plain_least" ["whole"] [0] (Splain_least Z)) (cl : List (Str × Addr)) : LamB X N_law_right (lam_law_right_1 cl) 8 (wl_law_right_1 Z) := fun A outer s H E fa c hg hr =>
  show LE (lamC X N_law_right A outer s H E (lam_law_right_1 cl) fa c) (fun cls d _ H => E cls d H) (lamB lx_law_right_1) _ from le_call F_plain_least hg hr (takes_of rfl rfl rfl rfl) (la_cons (le_var 12) (la_nil))
def lx_law_right_2 : Expr := (nthE (exA (stV (nthS (stB (nthS (defBody s_law_right) 8)) 0))) 0)
def lam_law_right_2 (cl : List (Str × Addr)) : LamT := lamOf cl "_law_right.<locals>." (lamP lx_law_right_2) (lamB lx_law_right_2) (lamSc lx_law_right_2)
theorem lS_law_right_2 : LamX.LamS (defScope s_law_right) (lamSc lx_law_right_2) := LamX.lamS_by (by decide +kernel)
def wl_law_right_2 (Z : Ad) : WE := wCall (Sleast_form Z) [wVar 13]
theorem lb_law_right_2 (Z : Ad) {X : Cx} (T : Txt X.mg) (F_least_form : FnD X.prog X.w X.K X.mg X.base 7 "least_form" ["form"] [] (Sleast_form Z)) (cl : List (Str × Addr)) : LamB X N_law_right (lam_law_right_2 cl) 8 (wl_law_right_2 Z) := fun A outer s H E fa c hg hr =>
  show LE (lamC X N_law_right A outer s H E (lam_law_right_2 cl) fa c) (fun cls d _ H => E cls d H) (lamB lx_law_right_2) _ from le_call F_least_form hg hr (takes_of rfl rfl rfl rfl) (la_cons (le_var 13) (la_nil))
def lx_law_right_3 : Expr := (nthE (exA (stV (nthS (stB (nthS (defBody s_law_right) 8)) 1))) 0)
def lam_law_right_3 (cl : List (Str × Addr)) : LamT := lamOf cl "_law_right.<locals>." (lamP lx_law_right_3) (lamB lx_law_right_3) (lamSc lx_law_right_3)
theorem lS_law_right_3 : LamX.LamS (defScope s_law_right) (lamSc lx_law_right_3) := LamX.lamS_by (by decide +kernel)
def wl_law_right_3 (Z : Ad) : WE := wCall (Sown_turns Z) [wVar 13]
theorem lb_law_right_3 (Z : Ad) {X : Cx} (T : Txt X.mg) (F_own_turns : FnD X.prog X.w X.K X.mg X.base 7 "own_turns" ["form"] [] (Sown_turns Z)) (cl : List (Str × Addr)) : LamB X N_law_right (lam_law_right_3 cl) 8 (wl_law_right_3 Z) := fun A outer s H E fa c hg hr =>
  show LE (lamC X N_law_right A outer s H E (lam_law_right_3 cl) fa c) (fun cls d _ H => E cls d H) (lamB lx_law_right_3) _ from le_call F_own_turns hg hr (takes_of rfl rfl rfl rfl) (la_cons (le_var 13) (la_nil))
def lx_law_right_4 : Expr := (nthE (exA (stV (nthS (stB (nthS (defBody s_law_right) 8)) 2))) 0)
def lam_law_right_4 (cl : List (Str × Addr)) : LamT := lamOf cl "_law_right.<locals>." (lamP lx_law_right_4) (lamB lx_law_right_4) (lamSc lx_law_right_4)
theorem lS_law_right_4 : LamX.LamS (defScope s_law_right) (lamSc lx_law_right_4) := LamX.lamS_by (by decide +kernel)
def wl_law_right_4 (Z : Ad) : WE := wCall (Ssame_above Z) [wVar 13, wC .non]
theorem lb_law_right_4 (Z : Ad) {X : Cx} (T : Txt X.mg) (F_same_above : FnD X.prog X.w X.K X.mg X.base 8 "same_above" ["one", "other"] [] (Ssame_above Z)) (cl : List (Str × Addr)) : LamB X N_law_right (lam_law_right_4 cl) 8 (wl_law_right_4 Z) := fun A outer s H E fa c hg hr =>
  show LE (lamC X N_law_right A outer s H E (lam_law_right_4 cl) fa c) (fun cls d _ H => E cls d H) (lamB lx_law_right_4) _ from le_call F_same_above hg hr (takes_of rfl rfl rfl rfl) (la_cons (le_var 13) (la_cons (le_non) (la_nil)))
def lx_law_right_5 : Expr := (nthE (exA (stV (nthS (stB (nthS (defBody s_law_right) 8)) 3))) 0)
def lam_law_right_5 (cl : List (Str × Addr)) : LamT := lamOf cl "_law_right.<locals>." (lamP lx_law_right_5) (lamB lx_law_right_5) (lamSc lx_law_right_5)
theorem lS_law_right_5 : LamX.LamS (defScope s_law_right) (lamSc lx_law_right_5) := LamX.lamS_by (by decide +kernel)
def wl_law_right_5 (Z : Ad) : WE := wCall (Ssame_above Z) [wTup [wC (.int 1), wC (.int 0), wC (.int 1)], wVar 13]
theorem lb_law_right_5 (Z : Ad) {X : Cx} (T : Txt X.mg) (F_same_above : FnD X.prog X.w X.K X.mg X.base 8 "same_above" ["one", "other"] [] (Ssame_above Z)) (cl : List (Str × Addr)) : LamB X N_law_right (lam_law_right_5 cl) 8 (wl_law_right_5 Z) := fun A outer s H E fa c hg hr =>
  show LE (lamC X N_law_right A outer s H E (lam_law_right_5 cl) fa c) (fun cls d _ H => E cls d H) (lamB lx_law_right_5) _ from le_call F_same_above hg hr (takes_of rfl rfl rfl rfl) (la_cons (le_tup (la_cons (le_int) (la_cons (le_int) (la_cons (le_int) (la_nil)))) (show 3 ≤ 1000 by decide)) (la_cons (le_var 13) (la_nil)))
def lx_law_right_6 : Expr := (nthE (exA (stV (nthS (stB (nthS (defBody s_law_right) 8)) 4))) 0)
def lam_law_right_6 (cl : List (Str × Addr)) : LamT := lamOf cl "_law_right.<locals>." (lamP lx_law_right_6) (lamB lx_law_right_6) (lamSc lx_law_right_6)
theorem lS_law_right_6 : LamX.LamS (defScope s_law_right) (lamSc lx_law_right_6) := LamX.lamS_by (by decide +kernel)
def wl_law_right_6 (Z : Ad) : WE := wCall (Sshows_least Z) [wVar 13, wC .non]
theorem lb_law_right_6 (Z : Ad) {X : Cx} (T : Txt X.mg) (F_shows_least : FnD X.prog X.w X.K X.mg X.base 7 "shows_least" ["form", "value"] [1] (Sshows_least Z)) (cl : List (Str × Addr)) : LamB X N_law_right (lam_law_right_6 cl) 8 (wl_law_right_6 Z) := fun A outer s H E fa c hg hr =>
  show LE (lamC X N_law_right A outer s H E (lam_law_right_6 cl) fa c) (fun cls d _ H => E cls d H) (lamB lx_law_right_6) _ from le_call F_shows_least hg hr (takes_of rfl rfl rfl rfl) (la_cons (le_var 13) (la_cons (le_non) (la_nil)))
def LL_law_right (Z : Ad) (cl : List (Str × Addr)) : List (LamT × WE) := [(lam_law_right_0 cl, wl_law_right_0 Z), (lam_law_right_1 cl, wl_law_right_1 Z), (lam_law_right_2 cl, wl_law_right_2 Z), (lam_law_right_3 cl, wl_law_right_3 Z), (lam_law_right_4 cl, wl_law_right_4 Z), (lam_law_right_5 cl, wl_law_right_5 Z), (lam_law_right_6 cl, wl_law_right_6 Z)]
theorem hO_law_right (Z : Ad) {X : Cx} (hN : X.N = N_law_right) (hsc : X.env.scope = defScope s_law_right) (hq : X.env.qual = "_law_right.<locals>.") (T : Txt X.mg) (F_all_least : FnD X.prog X.w X.K X.mg X.base 4 "all_least" ["whole"] [0] (Sall_least Z)) (F_least_form : FnD X.prog X.w X.K X.mg X.base 7 "least_form" ["form"] [] (Sleast_form Z)) (F_own_turns : FnD X.prog X.w X.K X.mg X.base 7 "own_turns" ["form"] [] (Sown_turns Z)) (F_plain_least : FnD X.prog X.w X.K X.mg X.base 4 "plain_least" ["whole"] [0] (Splain_least Z)) (F_same_above : FnD X.prog X.w X.K X.mg X.base 8 "same_above" ["one", "other"] [] (Ssame_above Z)) (F_shows_least : FnD X.prog X.w X.K X.mg X.base 7 "shows_least" ["form", "value"] [1] (Sshows_least Z)) : ∀ q ∈ LL_law_right Z X.env.cells, LamIn X X.N 8 [] (fun _ => True) q.1 q.2 := by
  unfold LL_law_right lam_law_right_0 lam_law_right_1 lam_law_right_2 lam_law_right_3 lam_law_right_4 lam_law_right_5 lam_law_right_6
  rw [← hq]
  exact (List.forall_mem_cons.mpr ⟨lamIn_own (hsc ▸ lS_law_right_0) (by rw [hq, hN]; exact (lb_law_right_0 Z T F_all_least _)) (fun _ _ _ _ _ => rfl), (List.forall_mem_cons.mpr ⟨lamIn_own (hsc ▸ lS_law_right_1) (by rw [hq, hN]; exact (lb_law_right_1 Z T F_plain_least _)) (fun _ _ _ _ _ => rfl), (List.forall_mem_cons.mpr ⟨lamIn_own (hsc ▸ lS_law_right_2) (by rw [hq, hN]; exact (lb_law_right_2 Z T F_least_form _)) (fun _ _ _ _ _ => rfl), (List.forall_mem_cons.mpr ⟨lamIn_own (hsc ▸ lS_law_right_3) (by rw [hq, hN]; exact (lb_law_right_3 Z T F_own_turns _)) (fun _ _ _ _ _ => rfl), (List.forall_mem_cons.mpr ⟨lamIn_own (hsc ▸ lS_law_right_4) (by rw [hq, hN]; exact (lb_law_right_4 Z T F_same_above _)) (fun _ _ _ _ _ => rfl), (List.forall_mem_cons.mpr ⟨lamIn_own (hsc ▸ lS_law_right_5) (by rw [hq, hN]; exact (lb_law_right_5 Z T F_same_above _)) (fun _ _ _ _ _ => rfl), (List.forall_mem_cons.mpr ⟨lamIn_own (hsc ▸ lS_law_right_6) (by rw [hq, hN]; exact (lb_law_right_6 Z T F_shows_least _)) (fun _ _ _ _ _ => rfl), (fun _ h => nomatch h)⟩)⟩)⟩)⟩)⟩)⟩)⟩)
theorem hB_law_right (Z : Ad) {X : Cx} (hN : X.N = N_law_right) (hsc : X.env.scope = defScope s_law_right) (hq : X.env.qual = "_law_right.<locals>.") (T : Txt X.mg) (F_all_least : FnD X.prog X.w X.K X.mg X.base 4 "all_least" ["whole"] [0] (Sall_least Z)) (F_least_form : FnD X.prog X.w X.K X.mg X.base 7 "least_form" ["form"] [] (Sleast_form Z)) (F_own_turns : FnD X.prog X.w X.K X.mg X.base 7 "own_turns" ["form"] [] (Sown_turns Z)) (F_plain_least : FnD X.prog X.w X.K X.mg X.base 4 "plain_least" ["whole"] [0] (Splain_least Z)) (F_same_above : FnD X.prog X.w X.K X.mg X.base 8 "same_above" ["one", "other"] [] (Ssame_above Z)) (F_shows_least : FnD X.prog X.w X.K X.mg X.base 7 "shows_least" ["form", "value"] [1] (Sshows_least Z)) {own : List Nat} {pins : List (Addr × Obj)} {σ : L2.St} {s : Shared} {H : Hp} {bs : Scope} {ce : Env} {fp : List Addr} (I : Inv X pins σ H s) (f : ∀ b ∈ fp, FpOk X pins H b) : ∀ q ∈ LL_law_right Z X.env.cells, LamIn (X.blk s H bs ce fp) X.N 8 own (fun σ2 => wipe σ2 own = wipe σ own) q.1 q.2 := by
  unfold LL_law_right lam_law_right_0 lam_law_right_1 lam_law_right_2 lam_law_right_3 lam_law_right_4 lam_law_right_5 lam_law_right_6
  rw [← hq]
  exact (List.forall_mem_cons.mpr ⟨lamIn_blk I f (hsc ▸ lS_law_right_0) (by rw [hq, hN]; exact (lb_law_right_0 Z T F_all_least _)) (fun _ _ _ _ _ => rfl), (List.forall_mem_cons.mpr ⟨lamIn_blk I f (hsc ▸ lS_law_right_1) (by rw [hq, hN]; exact (lb_law_right_1 Z T F_plain_least _)) (fun _ _ _ _ _ => rfl), (List.forall_mem_cons.mpr ⟨lamIn_blk I f (hsc ▸ lS_law_right_2) (by rw [hq, hN]; exact (lb_law_right_2 Z T F_least_form _)) (fun _ _ _ _ _ => rfl), (List.forall_mem_cons.mpr ⟨lamIn_blk I f (hsc ▸ lS_law_right_3) (by rw [hq, hN]; exact (lb_law_right_3 Z T F_own_turns _)) (fun _ _ _ _ _ => rfl), (List.forall_mem_cons.mpr ⟨lamIn_blk I f (hsc ▸ lS_law_right_4) (by rw [hq, hN]; exact (lb_law_right_4 Z T F_same_above _)) (fun _ _ _ _ _ => rfl), (List.forall_mem_cons.mpr ⟨lamIn_blk I f (hsc ▸ lS_law_right_5) (by rw [hq, hN]; exact (lb_law_right_5 Z T F_same_above _)) (fun _ _ _ _ _ => rfl), (List.forall_mem_cons.mpr ⟨lamIn_blk I f (hsc ▸ lS_law_right_6) (by rw [hq, hN]; exact (lb_law_right_6 Z T F_shows_least _)) (fun _ _ _ _ _ => rfl), (fun _ h => nomatch h)⟩)⟩)⟩)⟩)⟩)⟩)⟩)
def w_law_right (Z : Ad) (cl : List (Str × Addr)) : WS := wSeq (wFor (wRng1 (wC (.int 2))) (gN 1) (wSeq (wPar 2 3 (wCall S_law_above_drawn [wVar 0, wC (.int 9)]) (wCall S_law_above_drawn [wVar 0, wC (.int 9)])) (wSeq (wIf (wTB (wOp gEq (wCall S_law_take [wVar 0, wC (.int 2)]) (wC (.int 0)))) (wSet 3 (wCall S_law_turned [wVar 2, wCall S_law_turn_drawn [wVar 0]])) (wNext)) (wSeq (wSet 3 (wIfE (wTB (wCall S_law_is_form [wVar 3])) (wVar 3) (wVar 2))) (wSeq (wIf (wNotT (wTB (wCall S_law_are_papers_right [wVar 0, wVar 2, wVar 3]))) (wRet (wC (.bl false))) (wNext)) (wSeq (wSet 4 (wOp gSub (wNeg (wC (.int 3))) (wB gInt [wCall S_law_take [wVar 0, wC (.int 400)]]))) (wIf (wTB (wOp gLt (wOp gMod (wVar 4) (wC (.int 4))) (wC (.int 2)))) (wSeq (wSet 5 (wCall S_law_all_least [wVar 4])) (wSeq (wIf (wTB (wOp gNe (wB gReprX [wCall (Sall_least Z) [wVar 4]]) (wB gReprX [wB gTuple [wVar 5]]))) (wRet (wC (.bl false))) (wNext)) (wSeq (wSet 6 (wLc (wSeqI (wVar 5)) (CT.one 14) (wTB (wOp gEq (wCall S_law_content [wVar 14]) (wC (.int 1)))) (wVar 14))) (wIf (wTB (wOp gNe (wB gReprX [wCall (Splain_least Z) [wVar 4]]) (wB gReprX [wB gTuple [wVar 6]]))) (wRet (wC (.bl false))) (wNext))))) (wNext)))))))) (wSeq (wIf (wTB (wOp gNe (wLc (wSeqI (wTup [wNeg (wC (.int 23)), wNeg (wC (.int 47)), wNeg (wC (.int 71)), wNeg (wC (.int 163)), wNeg (wC (.int 84)), wNeg (wC (.int 3299))])) (CT.one 4) (wYes) (wB gLen [wCall (Splain_least Z) [wVar 4]])) (wLst [wC (.int 3), wC (.int 5), wC (.int 7), wC (.int 1), wC (.int 4), wC (.int 27)]))) (wRet (wC (.bl false))) (wNext)) (wSeq (wSet 12 (wCall S_law_of [wVar 0, wLst [wC .non, wC (.int 0), wNeg (wC (.int 1)), wNeg (wC (.int 2)), wC (.int 5), wNeg (wC (.int 5)), wC (.bl true), wC (.str "3"), wOp gSub (wNeg (wOp gPowW (wC (.int 10)) (wC (.int 5)))) (wC (.int 3))]])) (wSeq (wSet 7 (wLst [wOp gIx (wHeard Z.isSq [] (LL_law_right Z cl) (wLam Z.P_law_right (lam_law_right_0 cl))) (wC (.int 0))])) (wSeq (wExpr (wMt gAppend (wVar 7) [wOp gIx (wHeard Z.isSq [] (LL_law_right Z cl) (wLam Z.P_law_right (lam_law_right_1 cl))) (wC (.int 0))])) (wSeq (wIf (wNotT (wTB (wB gAll [wLc (wSeqI (wVar 7)) (CT.one 15) (wYes) (wAndV (wIsX (oneC Z.cBadSize) (wVar 15)) (wOp gEq (wB gReprX [wVal Z.isE (wVar 15)]) (wB gReprX [wVar 12])))]))) (wRet (wC (.bl false))) (wNext)) (wSeq (wSet 12 (wCall S_law_of [wVar 0, wLst [wC .non, wLst [wC (.int 1), wC (.int 0), wC (.int 1)], wTup [wC (.int 1), wC (.int 0)], wTup [wC (.bl true), wC (.int 0), wC (.int 1)]]])) (wSeq (wSet 8 (wCall S_law_of [wVar 0, wLst [wTup [wC (.int 1), wC (.int 2), wC (.int 1)], wTup [wNeg (wC (.int 1)), wC (.int 0), wNeg (wC (.int 1))], wTup [wC (.int 1), wC (.int 1), wNeg (wC (.int 1))], wTup [wC (.int 0), wC (.int 0), wC (.int 0)]]])) (wSeq (wFor (wSeqI (wTup [wTup [wVar 12, wC (.str "form")], wTup [wVar 8, wC (.str "kind")]])) (gT [gN 13, gN 9]) (wSeq (wSet 10 (wLst [wLam Z.P_law_right (lam_law_right_2 cl)])) (wSeq (wExpr (wMt gAppend (wVar 10) [wLam Z.P_law_right (lam_law_right_3 cl)])) (wSeq (wExpr (wMt gAppend (wVar 10) [wLam Z.P_law_right (lam_law_right_4 cl)])) (wSeq (wExpr (wMt gAppend (wVar 10) [wLam Z.P_law_right (lam_law_right_5 cl)])) (wSeq (wExpr (wMt gAppend (wVar 10) [wLam Z.P_law_right (lam_law_right_6 cl)])) (wSeq (wSet 7 (wLc (wSeqI (wVar 10)) (CT.one 16) (wYes) (wOp gIx (wHeard Z.isSq [16] (LL_law_right Z cl) (wVar 16)) (wC (.int 0))))) (wSeq (wSet 11 (wLc (wSeqI (wVar 7)) (CT.one 15) (wYes) (wIfE (wTB (wOp gEq (wVar 9) (wC (.str "form")))) (wIsX (oneC Z.cBadForm) (wVar 15)) (wIsX (oneC Z.cUnlike) (wVar 15))))) (wIf (wOrT (wNotT (wTB (wB gAll [wVar 11]))) (wNotT (wTB (wB gAll [wLc (wSeqI (wVar 7)) (CT.one 15) (wYes) (wOp gEq (wB gReprX [wVal Z.isE (wVar 15)]) (wB gReprX [wVar 13]))])))) (wRet (wC (.bl false))) (wNext)))))))))) (wRet (wC (.bl true)))))))))))
/-! ### law -/
abbrev slaw : Stmt := top 79
abbrev Nlaw : List Str := ["script", "at"]
theorem sc_law : FnScope Nlaw ["script"] (defScope slaw) := ⟨rfl, rfl, rfl, by decide +kernel, rfl, by decide +kernel, by decide +kernel⟩
def wlaw (Z : Ad) : WS := wRet (wB gAll [wLc (wSeqI (wCall S_law_cells [wVar 0, wC (.int 3)])) (CT.one 1) (wYes) (wCall (S_law_right Z) [wCall S_law_pot [wVar 0, wVar 1]])])
theorem der_law (Z : Ad) {P : Program} {w : World} {K : PySem.W.Frag} {mg : Str → Option Value} {base : Heap} {f : Addr} (T : Txt mg) (F__law_cells : FnD P w K mg base 1 "_law_cells" ["script", "most"] [] S_law_cells) (F__law_pot : FnD P w K mg base 1 "_law_pot" ["script", "place"] [] S_law_pot) (F__law_right : FnD P w K mg base 11 "_law_right" ["pot"] [] (S_law_right Z)) (cdv : Value) (A : Around) (outer : List Env) (s : Shared) (H : Hp) (E : XK) (hg : A.guards = some []) (hr : Room 11 (A.deeper (envOfC "law" (defScope slaw) s.heap.objs.size f cdv))) :
    LSs (cxOf (L2.CX P w) P w K mg base Nlaw "law" (defScope slaw) f cdv A outer s H E) (wxE E) (defBody slaw) (wlaw Z) :=
  lss_one (ls_ret (le_callB (cd_all rfl) T.z_all (by decide +kernel) (la_cons (le_lc sc_law.nd (li_seq (le_call F__law_cells hg hr (takes_of rfl rfl rfl rfl) (la_cons (le_var 0) (la_cons (le_int) (la_nil))))) (ok := by show BlkOk Nlaw (defScope slaw) _ _; exact ⟨rfl, by decide +kernel, by decide +kernel, by decide +kernel, by decide +kernel⟩) (own := [("at", 1)]) (hv := rfl) (hg := (fun _ _ _ _ _ => pg_one 1 sc_law.nd)) (ht := (fun _ _ _ _ _ => lps_nil)) (he := (fun _ _ _ _ _ => le_call F__law_right hg hr LamX.takes0 (la_cons (le_call F__law_pot hg hr LamX.takes0 (la_cons (le_var 0) (la_cons (le_var 1) (la_nil)))) (la_nil))))) (la_nil))))
end K9

/-! The walks of the defs that make lambdas, printed by gen2.py. -/
namespace K9
open PySem PySem.Spec PyProof.Rows L2 Sq
theorem der__law_right (Z : Ad) {P : Program} {w : World} {K : PySem.W.Frag} {mg : Str → Option Value} {base : Heap} {f : Addr} (T : Txt mg) (F__law_above_drawn : FnD P w K mg base 2 "_law_above_drawn" ["pot", "most"] [] S_law_above_drawn) (F__law_all_least : FnD P w K mg base 2 "_law_all_least" ["whole"] [] S_law_all_least) (F__law_are_papers_right : FnD P w K mg base 9 "_law_are_papers_right" ["pot", "one", "other"] [] S_law_are_papers_right) (F__law_content : FnD P w K mg base 2 "_law_content" ["form"] [] S_law_content) (F__law_is_form : FnD P w K mg base 2 "_law_is_form" ["value"] [] S_law_is_form) (F__law_of : FnD P w K mg base 2 "_law_of" ["pot", "some"] [] S_law_of) (F__law_take : FnD P w K mg base 1 "_law_take" ["pot", "upto"] [] S_law_take) (F__law_turn_drawn : FnD P w K mg base 3 "_law_turn_drawn" ["pot"] [] S_law_turn_drawn) (F__law_turned : FnD P w K mg base 2 "_law_turned" ["form", "turn"] [] S_law_turned) (F_all_least : FnD P w K mg base 4 "all_least" ["whole"] [0] (Sall_least Z)) (F_least_form : FnD P w K mg base 7 "least_form" ["form"] [] (Sleast_form Z)) (F_own_turns : FnD P w K mg base 7 "own_turns" ["form"] [] (Sown_turns Z)) (F_plain_least : FnD P w K mg base 4 "plain_least" ["whole"] [0] (Splain_least Z)) (F_same_above : FnD P w K mg base 8 "same_above" ["one", "other"] [] (Ssame_above Z)) (F_shows_least : FnD P w K mg base 7 "shows_least" ["form", "value"] [1] (Sshows_least Z)) (I_BadForm : IsXD K mg "BadForm" (oneC Z.cBadForm)) (I_BadSize : IsXD K mg "BadSize" (oneC Z.cBadSize)) (I_Unlike : IsXD K mg "Unlike" (oneC Z.cUnlike)) (V_errs : ErrsD K Z.isE) (T_heard : HeardD P w K mg base Z.isSq) {c : Addr} (TB : LamX.TabB base mg c Z.P_law_right) (A : Around) (outer : List Env) (s : Shared) (H : Hp) (E : XK) (hg : A.guards = some []) (hr : Room 10 (A.deeper (envOfC "_law_right" (defScope s_law_right) s.heap.objs.size f (.ref c)))) :
    LSs (cxOf (L2.CX P w) P w K mg base N_law_right "_law_right" (defScope s_law_right) f (.ref c) A outer s H E) (wxE E) (defBody s_law_right) (w_law_right Z (envOfC "_law_right" (defScope s_law_right) s.heap.objs.size f (.ref c)).cells) :=
  lss_cons (ls_for (passes_of rfl) (li_rng1 T.z_range (la_cons (le_int) (la_nil))) (lg_name 1 sc__law_right.nd) (lss_cons (ls_par 2 3 sc__law_right.nd (la_cons (le_call F__law_above_drawn hg hr (takes_of rfl rfl rfl rfl) (la_cons (le_var 0) (la_cons (le_int) (la_nil)))) (la_cons (le_call F__law_above_drawn hg hr (takes_of rfl rfl rfl rfl) (la_cons (le_var 0) (la_cons (le_int) (la_nil)))) (la_nil)))) (lss_cons (ls_if (lt_cmp (od_eq hr.units) (le_call F__law_take hg hr (takes_of rfl rfl rfl rfl) (la_cons (le_var 0) (la_cons (le_int) (la_nil)))) (le_int)) (lss_one (ls_set 3 sc__law_right.nd (le_call F__law_turned hg hr (takes_of rfl rfl rfl rfl) (la_cons (le_var 2) (la_cons (le_call F__law_turn_drawn hg hr (takes_of rfl rfl rfl rfl) (la_cons (le_var 0) (la_nil))) (la_nil)))))) (lss_nil)) (lss_cons (ls_set 3 sc__law_right.nd (le_ifE (lt_val (le_call F__law_is_form hg hr (takes_of rfl rfl rfl rfl) (la_cons (le_var 3) (la_nil)))) (le_var 3) (le_var 2))) (lss_cons (ls_if (lt_not (lt_val (le_call F__law_are_papers_right hg hr (takes_of rfl rfl rfl rfl) (la_cons (le_var 0) (la_cons (le_var 2) (la_cons (le_var 3) (la_nil))))))) (lss_one (ls_ret (le_bl))) (lss_nil)) (lss_cons (ls_set 4 sc__law_right.nd (le_op od_sub (le_neg (le_int)) (le_callTy cd_int T.z_int (by decide +kernel) (la_cons (le_call F__law_take hg hr (takes_of rfl rfl rfl rfl) (la_cons (le_var 0) (la_cons (le_int) (la_nil)))) (la_nil))))) (lss_one (ls_if (lt_cmp od_lt (le_op od_mod (le_var 4) (le_int)) (le_int)) (lss_cons (ls_set 5 sc__law_right.nd (le_call F__law_all_least hg hr (takes_of rfl rfl rfl rfl) (la_cons (le_var 4) (la_nil)))) (lss_cons (ls_if (lt_cmp (od_ne hr.units) (le_callB (cd_reprX hg (u65 hr)) T.z_repr (by decide +kernel) (la_cons (le_callK0 F_all_least hg hr (takes_of rfl rfl rfl rfl) (lk_cons (le_var 4) (lk_nil))) (la_nil))) (le_callB (cd_reprX hg (u65 hr)) T.z_repr (by decide +kernel) (la_cons (le_callTy cd_tuple T.z_tuple (by decide +kernel) (la_cons (le_var 5) (la_nil))) (la_nil)))) (lss_one (ls_ret (le_bl))) (lss_nil)) (lss_cons (ls_setLc 6 sc__law_right.nd (li_seq (le_var 5)) (ok := by show BlkOk N_law_right (defScope s_law_right) _ _; exact ⟨rfl, by decide +kernel, by decide +kernel, by decide +kernel, by decide +kernel⟩) (own := [("form", 14)]) (hv := rfl) (hg := (fun _ _ _ _ _ => pg_one 14 sc__law_right.nd)) (ht := (fun _ _ _ _ _ => lps_one (lt_cmp (od_eq hr.units) (le_call F__law_content hg hr LamX.takes0 (la_cons (le_var 14) (la_nil))) (le_int)))) (he := (fun _ _ _ _ _ => le_var 14))) (lss_one (ls_if (lt_cmp (od_ne hr.units) (le_callB (cd_reprX hg (u65 hr)) T.z_repr (by decide +kernel) (la_cons (le_callK0 F_plain_least hg hr (takes_of rfl rfl rfl rfl) (lk_cons (le_var 4) (lk_nil))) (la_nil))) (le_callB (cd_reprX hg (u65 hr)) T.z_repr (by decide +kernel) (la_cons (le_callTy cd_tuple T.z_tuple (by decide +kernel) (la_cons (le_var 6) (la_nil))) (la_nil)))) (lss_one (ls_ret (le_bl))) (lss_nil)))))) (lss_nil))))))))) (lss_cons (ls_if (lt_cmp (od_ne hr.units) (le_lc sc__law_right.nd (li_seq (le_tup (la_cons (le_neg (le_int)) (la_cons (le_neg (le_int)) (la_cons (le_neg (le_int)) (la_cons (le_neg (le_int)) (la_cons (le_neg (le_int)) (la_cons (le_neg (le_int)) (la_nil))))))) (show 6 ≤ 1000 by decide))) (ok := by show BlkOk N_law_right (defScope s_law_right) _ _; exact ⟨rfl, by decide +kernel, by decide +kernel, by decide +kernel, by decide +kernel⟩) (own := [("whole", 4)]) (hv := rfl) (hg := (fun _ _ _ _ _ => pg_one 4 sc__law_right.nd)) (ht := (fun _ _ _ _ _ => lps_nil)) (he := (fun _ _ _ _ _ => le_callB cd_len T.z_len (by decide +kernel) (la_cons (le_call F_plain_least hg hr LamX.takes0 (la_cons (le_var 4) (la_nil))) (la_nil))))) (le_lst (la_cons (le_int) (la_cons (le_int) (la_cons (le_int) (la_cons (le_int) (la_cons (le_int) (la_cons (le_int) (la_nil))))))) (show 6 ≤ 1000 by decide))) (lss_one (ls_ret (le_bl))) (lss_nil)) (lss_cons (ls_set 12 sc__law_right.nd (le_call F__law_of hg hr (takes_of rfl rfl rfl rfl) (la_cons (le_var 0) (la_cons (le_lst (la_cons (le_non) (la_cons (le_int) (la_cons (le_neg (le_int)) (la_cons (le_neg (le_int)) (la_cons (le_int) (la_cons (le_neg (le_int)) (la_cons (le_bl) (la_cons (le_str) (la_cons (le_op od_sub (le_neg (le_op od_powW (le_int) (le_int))) (le_int)) (la_nil)))))))))) (show 9 ≤ 1000 by decide)) (la_nil))))) (lss_cons (ls_set 7 sc__law_right.nd (le_lst (la_cons (le_ix (le_heard T_heard (hO_law_right Z (X := cxOf (L2.CX P w) P w K mg base N_law_right "_law_right" (defScope s_law_right) f (.ref c) A outer s H E) rfl rfl rfl T F_all_least F_least_form F_own_turns F_plain_least F_same_above F_shows_least) (la_cons (le_lam TB rfl rfl lS_law_right_0) la_nil) hg hr) (le_int)) (la_nil)) (show 1 ≤ 1000 by decide))) (lss_cons (ls_expr (le_append (le_var 7) (la_cons (le_ix (le_heard T_heard (hO_law_right Z (X := cxOf (L2.CX P w) P w K mg base N_law_right "_law_right" (defScope s_law_right) f (.ref c) A outer s H E) rfl rfl rfl T F_all_least F_least_form F_own_turns F_plain_least F_same_above F_shows_least) (la_cons (le_lam TB rfl rfl lS_law_right_1) la_nil) hg hr) (le_int)) (la_nil)))) (lss_cons (ls_if (lt_not (lt_val (le_callB (cd_all rfl) T.z_all (by decide +kernel) (la_cons (le_lc sc__law_right.nd (li_seq (le_var 7)) (ok := by show BlkOk N_law_right (defScope s_law_right) _ _; exact ⟨rfl, by decide +kernel, by decide +kernel, by decide +kernel, by decide +kernel⟩) (own := [("caught", 15)]) (hv := rfl) (hg := (fun _ _ _ _ _ => pg_one 15 sc__law_right.nd)) (ht := (fun _ _ _ _ _ => lps_nil)) (he := (fun _ _ _ _ _ => le_and (le_isx I_BadSize T.z_isinstance (le_var 15)) (le_one (le_cmp (od_eq hr.units) (le_callB (cd_reprX hg (u65 hr)) T.z_repr (by decide +kernel) (la_cons (le_value V_errs (le_var 15)) (la_nil))) (le_callB (cd_reprX hg (u65 hr)) T.z_repr (by decide +kernel) (la_cons (le_var 12) (la_nil)))))))) (la_nil))))) (lss_one (ls_ret (le_bl))) (lss_nil)) (lss_cons (ls_set 12 sc__law_right.nd (le_call F__law_of hg hr (takes_of rfl rfl rfl rfl) (la_cons (le_var 0) (la_cons (le_lst (la_cons (le_non) (la_cons (le_lst (la_cons (le_int) (la_cons (le_int) (la_cons (le_int) (la_nil)))) (show 3 ≤ 1000 by decide)) (la_cons (le_tup (la_cons (le_int) (la_cons (le_int) (la_nil))) (show 2 ≤ 1000 by decide)) (la_cons (le_tup (la_cons (le_bl) (la_cons (le_int) (la_cons (le_int) (la_nil)))) (show 3 ≤ 1000 by decide)) (la_nil))))) (show 4 ≤ 1000 by decide)) (la_nil))))) (lss_cons (ls_set 8 sc__law_right.nd (le_call F__law_of hg hr (takes_of rfl rfl rfl rfl) (la_cons (le_var 0) (la_cons (le_lst (la_cons (le_tup (la_cons (le_int) (la_cons (le_int) (la_cons (le_int) (la_nil)))) (show 3 ≤ 1000 by decide)) (la_cons (le_tup (la_cons (le_neg (le_int)) (la_cons (le_int) (la_cons (le_neg (le_int)) (la_nil)))) (show 3 ≤ 1000 by decide)) (la_cons (le_tup (la_cons (le_int) (la_cons (le_int) (la_cons (le_neg (le_int)) (la_nil)))) (show 3 ≤ 1000 by decide)) (la_cons (le_tup (la_cons (le_int) (la_cons (le_int) (la_cons (le_int) (la_nil)))) (show 3 ≤ 1000 by decide)) (la_nil))))) (show 4 ≤ 1000 by decide)) (la_nil))))) (lss_cons (ls_for (passes_of rfl) (li_seq (le_tup (la_cons (le_tup (la_cons (le_var 12) (la_cons (le_str) (la_nil))) (show 2 ≤ 1000 by decide)) (la_cons (le_tup (la_cons (le_var 8) (la_cons (le_str) (la_nil))) (show 2 ≤ 1000 by decide)) (la_nil))) (show 2 ≤ 1000 by decide))) (lg_tup (lgs_cons (lg_name 13 sc__law_right.nd) (lgs_cons (lg_name 9 sc__law_right.nd) (lgs_nil)))) (lss_cons (ls_set 10 sc__law_right.nd (le_lst (la_cons (le_lam TB rfl rfl lS_law_right_2) (la_nil)) (show 1 ≤ 1000 by decide))) (lss_cons (ls_expr (le_append (le_var 10) (la_cons (le_lam TB rfl rfl lS_law_right_3) (la_nil)))) (lss_cons (ls_expr (le_append (le_var 10) (la_cons (le_lam TB rfl rfl lS_law_right_4) (la_nil)))) (lss_cons (ls_expr (le_append (le_var 10) (la_cons (le_lam TB rfl rfl lS_law_right_5) (la_nil)))) (lss_cons (ls_expr (le_append (le_var 10) (la_cons (le_lam TB rfl rfl lS_law_right_6) (la_nil)))) (lss_cons (ls_setLcI 7 sc__law_right.nd (li_seq (le_var 10)) (ok := by show BlkOk N_law_right (defScope s_law_right) _ _; exact ⟨rfl, by decide +kernel, by decide +kernel, by decide +kernel, by decide +kernel⟩) (own := [("call", 16)]) (hv := rfl) (hg := (fun _ _ _ _ _ => pg_one 16 sc__law_right.nd)) (ht := (fun _ _ _ _ _ => lps_nil)) (he := (fun _ _ _ _ _ _ _ I9 f9 => leg_heard0 (leg_heard T_heard (hB_law_right Z (X := cxOf (L2.CX P w) P w K mg base N_law_right "_law_right" (defScope s_law_right) f (.ref c) A outer s H E) rfl rfl rfl T F_all_least F_least_form F_own_turns F_plain_least F_same_above F_shows_least I9 f9) (la_cons (le_var 16) la_nil) hg hr) (le_int)))) (lss_cons (ls_setLc 11 sc__law_right.nd (li_seq (le_var 7)) (ok := by show BlkOk N_law_right (defScope s_law_right) _ _; exact ⟨rfl, by decide +kernel, by decide +kernel, by decide +kernel, by decide +kernel⟩) (own := [("caught", 15)]) (hv := rfl) (hg := (fun _ _ _ _ _ => pg_one 15 sc__law_right.nd)) (ht := (fun _ _ _ _ _ => lps_nil)) (he := (fun _ _ _ _ _ => le_ifE (lt_cmp (od_eq hr.units) (le_var 9) (le_str)) (le_isx I_BadForm T.z_isinstance (le_var 15)) (le_isx I_Unlike T.z_isinstance (le_var 15))))) (lss_one (ls_if ((lw_or (lt_not (lt_val (le_callB (cd_all rfl) T.z_all (by decide +kernel) (la_cons (le_var 11) (la_nil))))) (lw_or1 (lt_not (lt_val (le_callB (cd_all rfl) T.z_all (by decide +kernel) (la_cons (le_lc sc__law_right.nd (li_seq (le_var 7)) (ok := by show BlkOk N_law_right (defScope s_law_right) _ _; exact ⟨rfl, by decide +kernel, by decide +kernel, by decide +kernel, by decide +kernel⟩) (own := [("caught", 15)]) (hv := rfl) (hg := (fun _ _ _ _ _ => pg_one 15 sc__law_right.nd)) (ht := (fun _ _ _ _ _ => lps_nil)) (he := (fun _ _ _ _ _ => le_cmp (od_eq hr.units) (le_callB (cd_reprX hg (u65 hr)) T.z_repr (by decide +kernel) (la_cons (le_value V_errs (le_var 15)) (la_nil))) (le_callB (cd_reprX hg (u65 hr)) T.z_repr (by decide +kernel) (la_cons (le_var 13) (la_nil)))))) (la_nil))))))).lt) (lss_one (ls_ret (le_bl))) (lss_nil))))))))))) (lss_one (ls_ret (le_bl)))))))))))
end K9

/-! k09: forms above nought. -/
namespace K9
open PySem PySem.Spec PyProof.Rows L2 Sq
theorem To.comp {a b c A B C p q r s A' B' C' e f g h : Int} (k : To a b c A B C p q r s) (l : To A B C A' B' C' e f g h) : To a b c A' B' C' (p * e + q * g) (p * f + q * h) (r * e + s * g) (r * f + s * h) := by
  obtain ⟨d, rfl, rfl, rfl⟩ := k
  obtain ⟨d', rfl, rfl, rfl⟩ := l
  constructor
  · grind
  · unfold val mid; grind
  · unfold val mid; grind
  · unfold val mid; grind
theorem To.id {a b c : Int} : To a b c a b c 1 0 0 1 := by
  constructor <;> (try unfold val) <;> (try unfold mid) <;> grind
theorem To.disc {a b c A B C p q r s : Int} (k : To a b c A B C p q r s) : 4 * A * C - B * B = 4 * a * c - b * b := by
  obtain ⟨d, rfl, rfl, rfl⟩ := k
  unfold val mid
  have : (p * s - q * r) * (p * s - q * r) = 1 := by rw [d]; rfl
  grind
theorem To.back {a b c A B C p q r s : Int} (k : To a b c A B C p q r s) : To A B C a b c s (-q) (-r) p := by
  obtain ⟨d, rfl, rfl, rfl⟩ := k
  have h2 : (p * s - q * r) * (p * s - q * r) = 1 := by rw [d]; rfl
  constructor
  · grind
  · unfold val mid; grind
  · unfold val mid; grind
  · unfold val mid; grind
theorem mul_pos_of {a c x : Int} (ha : 0 < a) (h : x * x < 4 * a * c) : 0 < c := by
  rcases Int.lt_or_le 0 c with h1 | h1
  · exact h1
  · have h2 : 0 ≤ x * x := by rcases Int.le_total 0 x with h | h; exact Int.mul_nonneg h h; exact Int.mul_nonneg_of_nonpos_of_nonpos h h
    have h3 : a * c ≤ 0 := Int.mul_nonpos_of_nonneg_of_nonpos (Int.le_of_lt ha) h1
    have h4 : 4 * a * c = 4 * (a * c) := by rw [Int.mul_assoc]
    omega
theorem Pos.c {a b c : Int} (h : Pos a b c) : 0 < c := mul_pos_of h.1 h.2
theorem sq_nn (x : Int) : 0 ≤ x * x := by
  rcases Int.le_total 0 x with h | h
  · exact Int.mul_nonneg h h
  · exact Int.mul_nonneg_of_nonpos_of_nonpos h h
theorem sq_le {x y : Int} (h0 : -y ≤ x) (h1 : x ≤ y) : x * x ≤ y * y := by
  have e : y * y - x * x = (y - x) * (y + x) := by grind
  have := Int.mul_nonneg (a := y - x) (b := y + x) (by omega) (by omega)
  omega
theorem abs_lt_of_sq {x y : Int} (hy : 0 ≤ y) (h : x * x < y * y) : -y < x ∧ x < y := by
  constructor
  · rcases Int.lt_or_le (-y) x with h1 | h1
    · exact h1
    · have := sq_le (x := y) (y := -x) (by omega) (by omega)
      have e : -x * -x = x * x := by grind
      omega
  · rcases Int.lt_or_le x y with h1 | h1
    · exact h1
    · have := sq_le (x := y) (y := x) (by omega) h1
      omega
theorem abs_le_of_sq {x y : Int} (hy : 0 ≤ y) (h : x * x ≤ y * y) : -y ≤ x ∧ x ≤ y := by
  have := abs_lt_of_sq (x := x) (y := y + 1) (by omega) (by
    have e : (y + 1) * (y + 1) = y * y + 2 * y + 1 := by grind
    omega)
  omega
theorem To.pos {a b c A B C p q r s : Int} (k : To a b c A B C p q r s) (h : Pos a b c) (hA : 0 < A) : Pos A B C := ⟨hA, by
  have := k.disc
  have := h.2
  omega⟩
/-- four times a value, by squares -/
theorem val4a (a b c x y : Int) : 4 * a * val a b c x y = (2 * a * x + b * y) * (2 * a * x + b * y) + (4 * a * c - b * b) * (y * y) := by unfold val; grind
theorem val4c (a b c x y : Int) : 4 * c * val a b c x y = (2 * c * y + b * x) * (2 * c * y + b * x) + (4 * a * c - b * b) * (x * x) := by unfold val; grind
theorem val_y {a b c x y : Int} : (4 * a * c - b * b) * (y * y) ≤ 4 * a * val a b c x y := by
  have := val4a a b c x y
  have := sq_nn (2 * a * x + b * y)
  omega
theorem val_x {a b c x y : Int} : (4 * a * c - b * b) * (x * x) ≤ 4 * c * val a b c x y := by
  have := val4c a b c x y
  have := sq_nn (2 * c * y + b * x)
  omega
theorem val_pos {a b c x y : Int} (h : Pos a b c) (hn : ¬(x = 0 ∧ y = 0)) : 0 < val a b c x y := by
  have hD : 0 < 4 * a * c - b * b := by have := h.2; omega
  by_cases hy : y = 0
  · subst hy
    have hx : x ≠ 0 := fun e => hn ⟨e, rfl⟩
    have e : val a b c x 0 = a * (x * x) := by unfold val; grind
    rw [e]
    have : 0 < x * x := by
      rcases Int.lt_or_lt_of_ne hx with g | g
      · exact Int.mul_pos_of_neg_of_neg g g
      · exact Int.mul_pos g g
    exact Int.mul_pos h.1 this
  · have : 0 < y * y := by
      rcases Int.lt_or_lt_of_ne hy with g | g
      · exact Int.mul_pos_of_neg_of_neg g g
      · exact Int.mul_pos g g
    have h1 := Int.mul_pos hD this
    have h2 := val_y (a := a) (b := b) (c := c) (x := x) (y := y)
    rcases Int.lt_or_le 0 (val a b c x y) with g | g
    · exact g
    · have h3 : a * val a b c x y ≤ 0 := Int.mul_nonpos_of_nonneg_of_nonpos (Int.le_of_lt h.1) g
      have e : 4 * a * val a b c x y = 4 * (a * val a b c x y) := by rw [Int.mul_assoc]
      omega
theorem red_b2 {a b c : Int} (h : Red a b c) : b * b ≤ a * a := sq_le (by have := h.1; omega) h.2.1
theorem red_D {a b c : Int} (h : Red a b c) (ha : 0 < a) : 3 * (a * a) ≤ 4 * a * c - b * b := by
  have h1 := red_b2 h
  have h2 := Int.mul_le_mul_of_nonneg_left h.2.2.1 (Int.le_of_lt ha)
  have e : 4 * a * c = 4 * (a * c) := by rw [Int.mul_assoc]
  omega
theorem Red.pos {a b c : Int} (h : Red a b c) : 0 < a := by have := h.1; have := h.2.1; omega
theorem Red.ps {a b c : Int} (h : Red a b c) : Pos a b c := ⟨h.pos, by
  have := red_D h h.pos
  have := Int.mul_pos h.pos h.pos
  omega⟩
/-- a z z + b z -/
theorem az_nn {a b c z : Int} (h : Red a b c) : 0 ≤ (a * z + b) * z := by
  have ha := h.pos
  obtain ⟨h1, h2, _⟩ := h
  rcases Int.lt_trichotomy z 0 with g | g | g
  · have : a * z ≤ a * -1 := Int.mul_le_mul_of_nonneg_left (by omega) (Int.le_of_lt ha)
    exact Int.mul_nonneg_of_nonpos_of_nonpos (by omega) (by omega)
  · subst g; rw [Int.mul_zero]; exact Int.le_refl 0
  · have : a * 1 ≤ a * z := Int.mul_le_mul_of_nonneg_left (by omega) (Int.le_of_lt ha)
    exact Int.mul_nonneg (by omega) (by omega)
theorem val_unit {a b c x y : Int} (hy : y * y = 1) : val a b c x y = (a * (x * y) + b) * (x * y) + c := by
  unfold val
  have e : a * x * x = a * x * x * (y * y) := by rw [hy, Int.mul_one]
  have e2 : c * y * y = c * (y * y) := by rw [Int.mul_assoc]
  rw [e2, hy, e]; grind
theorem sq_cases (y : Int) : y = 0 ∨ y * y = 1 ∨ 4 ≤ y * y := by
  rcases Int.lt_trichotomy y 0 with g | g | g
  · by_cases h : y = -1
    · subst h; simp
    · have := sq_le (x := 2) (y := -y) (by omega) (by omega)
      have e : -y * -y = y * y := by grind
      omega
  · exact .inl g
  · by_cases h : y = 1
    · subst h; simp
    · have := sq_le (x := 2) (y := y) (by omega) (by omega)
      omega
theorem val_far {a b c x y : Int} (h : Red a b c) (hy : 4 ≤ y * y) : 3 * a ≤ val a b c x y := by
  have ha := h.pos
  have h1 := val_y (a := a) (b := b) (c := c) (x := x) (y := y)
  have h2 := red_D h ha
  have h3 : 3 * (a * a) * 4 ≤ (4 * a * c - b * b) * (y * y) := Int.mul_le_mul h2 hy (by decide) (by have := Int.mul_pos ha ha; omega)
  have h4 : a * (3 * a) ≤ a * val a b c x y := by
    have e : 4 * a * val a b c x y = 4 * (a * val a b c x y) := by rw [Int.mul_assoc]
    have e2 : a * (3 * a) = 3 * (a * a) := by grind
    omega
  exact Int.le_of_mul_le_mul_left h4 ha
theorem red_val_ge {a b c x y : Int} (h : Red a b c) (hn : ¬(x = 0 ∧ y = 0)) : a ≤ val a b c x y := by
  have ha := h.pos
  rcases sq_cases y with g | g | g
  · subst g
    have e : val a b c x 0 = a * (x * x) := by unfold val; grind
    have : 1 ≤ x * x := by
      rcases sq_cases x with k | k | k
      · exact absurd ⟨k, rfl⟩ hn
      · omega
      · omega
    have := Int.mul_le_mul_of_nonneg_left this (Int.le_of_lt ha)
    omega
  · rw [val_unit g]
    have := az_nn (z := x * y) h
    have := h.2.2.1
    omega
  · have := val_far (x := x) h g
    omega
theorem unit_cases {x : Int} (h : x * x = 1) : x = 1 ∨ x = -1 := by
  have := abs_le_of_sq (x := x) (y := 1) (by decide) (by omega)
  have h0 : x ≠ 0 := fun e => by subst e; simp at h
  omega
/-- where the least value is paid -/
theorem red_val_eq {a b c x y : Int} (h : Red a b c) (e : val a b c x y = a) : (y = 0 ∧ (x = 1 ∨ x = -1)) ∨ (x = 0 ∧ (y = 1 ∨ y = -1) ∧ c = a) ∨ (((x = 1 ∧ y = -1) ∨ (x = -1 ∧ y = 1)) ∧ b = a ∧ c = a) := by
  have ha := h.pos
  rcases sq_cases y with g | g | g
  · subst g
    have e2 : val a b c x 0 = a * (x * x) := by unfold val; grind
    have h1 : x * x = 1 := Int.eq_of_mul_eq_mul_left (Int.ne_of_gt ha) (by omega)
    exact .inl ⟨rfl, unit_cases h1⟩
  · rw [val_unit g] at e
    have h1 := az_nn (z := x * y) h
    have hc : c = a := by have := h.2.2.1; omega
    have h2 : (a * (x * y) + b) * (x * y) = 0 := by omega
    rcases Int.mul_eq_zero.mp h2 with k | k
    · have hz : x * y = 0 ∨ x * y = -1 := by
        obtain ⟨g1, g2, _⟩ := h
        rcases Int.lt_trichotomy (x * y) 0 with q | q | q
        · by_cases q2 : x * y = -1
          · exact .inr q2
          · have : a * (x * y) ≤ a * -2 := Int.mul_le_mul_of_nonneg_left (by omega) (Int.le_of_lt ha)
            omega
        · exact .inl q
        · have : a * 1 ≤ a * (x * y) := Int.mul_le_mul_of_nonneg_left (by omega) (Int.le_of_lt ha)
          omega
      rcases hz with z | z
      · rcases unit_cases g with rfl | rfl <;> exact .inr (.inl ⟨by omega, by simp, hc⟩)
      · rw [z] at k
        rcases unit_cases g with rfl | rfl
        · exact .inr (.inr ⟨.inr ⟨by omega, rfl⟩, by omega, hc⟩)
        · exact .inr (.inr ⟨.inl ⟨by omega, rfl⟩, by omega, hc⟩)
    · rcases unit_cases g with rfl | rfl <;> exact .inr (.inl ⟨by omega, by simp, hc⟩)
  · have := val_far (x := x) h g
    omega
theorem two_mul_zero {a k : Int} (ha : 0 < a) (h1 : -(2 * a) < 2 * a * k) (h2 : 2 * a * k < 2 * a) : k = 0 := by
  rcases Int.lt_trichotomy k 0 with g | g | g
  · have : 2 * a * k ≤ 2 * a * -1 := Int.mul_le_mul_of_nonneg_left (by omega) (by omega)
    omega
  · exact g
  · have : 2 * a * 1 ≤ 2 * a * k := Int.mul_le_mul_of_nonneg_left (by omega) (by omega)
    omega
theorem two_mul_one {a k : Int} (ha : 0 < a) (h1 : -(2 * a) < 2 * a * k) (h2 : 2 * a * k ≤ 2 * a) : k = 0 ∨ k = 1 := by
  rcases Int.lt_trichotomy k 0 with g | g | g
  · have : 2 * a * k ≤ 2 * a * -1 := Int.mul_le_mul_of_nonneg_left (by omega) (by omega)
    omega
  · exact .inl g
  · by_cases q : k = 1
    · exact .inr q
    · have : 2 * a * 2 ≤ 2 * a * k := Int.mul_le_mul_of_nonneg_left (by omega) (by omega)
      omega
theorem disc_c {a b c C : Int} (ha : 0 < a) (h : 4 * a * C - b * b = 4 * a * c - b * b) : c = C := by
  have : 4 * a * C = 4 * a * c := by omega
  exact (Int.eq_of_mul_eq_mul_left (by omega) this).symm
/-- there is one least form alone -/
theorem red_uniq {a b c A B C p q r s : Int} (k : To a b c A B C p q r s) (h : Red a b c) (h' : Red A B C) : a = A ∧ b = B ∧ c = C := by
  have ha := h.pos
  have hA := h'.pos
  have n1 : ¬(p = 0 ∧ r = 0) := fun ⟨e1, e2⟩ => by have := k.det; subst e1 e2; simp at this
  have kb := k.back
  have n2 : ¬(s = 0 ∧ -r = 0) := fun ⟨e1, e2⟩ => by have := k.det; have e3 : r = 0 := by omega
                                                    subst e1 e3; simp at this
  have g1 := red_val_ge h n1
  rw [k.eA] at g1
  have g2 := red_val_ge h' n2
  rw [kb.eA] at g2
  obtain rfl : a = A := by omega
  have hd := k.disc
  have hB := k.eB
  unfold mid at hB
  have hdet := k.det
  refine ⟨rfl, ?_⟩
  rcases red_val_eq h k.eA with ⟨rfl, hp⟩ | ⟨rfl, hr, rfl⟩ | ⟨hp, rfl, rfl⟩
  · have hs : p * s = 1 := by omega
    have e : B = b + 2 * a * (p * q) := by rw [← hB, show p * s + q * 0 = 1 by omega]; grind
    have hk := two_mul_zero (k := p * q) ha (by have := h.1; have := h.2.1; have := h'.1; have := h'.2.1; omega) (by have := h.1; have := h.2.1; have := h'.1; have := h'.2.1; omega)
    rw [hk, Int.mul_zero, Int.add_zero] at e
    subst e
    exact ⟨rfl, disc_c ha hd⟩
  · have hq : q * r = -1 := by omega
    have e : B = -b + 2 * c * (r * s) := by
      rw [← hB]
      rw [show 0 * s + q * r = -1 by omega]; grind
    have hk := two_mul_one (k := r * s) ha (by have := h.1; have := h.2.1; have := h'.1; have := h'.2.1; omega) (by have := h.1; have := h.2.1; have := h'.1; have := h'.2.1; omega)
    rcases hk with hk | hk
    · rw [hk, Int.mul_zero, Int.add_zero] at e
      subst e
      have e2 : -b * -b = b * b := by grind
      rw [e2] at hd
      have := disc_c ha hd
      subst this
      have h1 := h.2.2.2
      have h2 := h'.2.2.2
      exact ⟨by omega, rfl⟩
    · rw [hk] at e
      have hb : b = B := by have := h.2.1; have := h'.2.1; omega
      subst hb
      exact ⟨rfl, disc_c ha hd⟩
  · have h3 := h'.2.2.1
    have h4 : c * c ≤ c * C := Int.mul_le_mul_of_nonneg_left h3 (Int.le_of_lt ha)
    have e4 : 4 * c * C = 4 * (c * C) := by rw [Int.mul_assoc]
    have e5 : 4 * c * c = 4 * (c * c) := by rw [Int.mul_assoc]
    have h5 : c * c ≤ B * B := by omega
    have hb : c = B := by
      rcases Int.lt_or_le B c with g | g
      · have := sq_le (x := B) (y := c - 1) (by have := h'.1; omega) (by omega)
        have e : (c - 1) * (c - 1) = c * c - 2 * c + 1 := by grind
        omega
      · have := h'.2.1; omega
    subst hb
    exact ⟨rfl, disc_c ha hd⟩
theorem mem_own {a b c : Int} {t : Tn} : t ∈ ownL a b c ↔ t = (1, 0, 0, 1) ∨ t = (-1, 0, 0, -1) ∨ ((b = 0 ∧ a = c) ∧ (t = (0, -1, 1, 0) ∨ t = (0, 1, -1, 0))) ∨ ((a = b ∧ b = c) ∧ (t = (0, -1, 1, 1) ∨ t = (0, 1, -1, -1) ∨ t = (1, 1, -1, 0) ∨ t = (-1, -1, 1, 0))) := by
  unfold ownL
  by_cases h1 : b = 0 ∧ a = c
  · by_cases h2 : a = b ∧ b = c
    · rw [if_pos h1, if_pos h2, eq_true h1, eq_true h2]
      simp only [List.mem_append, List.mem_cons, List.not_mem_nil, or_false, true_and, or_assoc]
    · rw [if_pos h1, if_neg h2, eq_true h1, eq_false h2]
      simp only [List.mem_append, List.mem_cons, List.not_mem_nil, or_false, true_and, or_assoc, false_and]
  · by_cases h2 : a = b ∧ b = c
    · rw [if_neg h1, if_pos h2, eq_false h1, eq_true h2]
      simp only [List.mem_append, List.mem_cons, List.not_mem_nil, or_false, true_and, or_assoc, false_and, false_or]
    · rw [if_neg h1, if_neg h2, eq_false h1, eq_false h2]
      simp only [List.mem_append, List.mem_cons, List.not_mem_nil, or_false, true_and, or_assoc, false_and, false_or]
/-- the own turns of a least form -/
theorem own_iff {a b c p q r s : Int} (h : Red a b c) : To a b c a b c p q r s ↔ (p, q, r, s) ∈ ownL a b c := by
  have ha := h.pos
  constructor
  · intro k
    have hB := k.eB
    unfold mid at hB
    have hdet := k.det
    rw [mem_own]
    rcases red_val_eq h k.eA with ⟨rfl, hp⟩ | ⟨rfl, hr, rfl⟩ | ⟨hp, rfl, rfl⟩
    · have hs : p * s = 1 := by omega
      have e : 2 * a * (p * q) = 0 := by
        rw [show p * s + q * 0 = 1 by omega] at hB
        have : 2 * a * p * q = 2 * a * (p * q) := by grind
        omega
      have hpq : p * q = 0 := by
        rcases Int.mul_eq_zero.mp e with z | z
        · omega
        · exact z
      rcases hp with rfl | rfl
      · have e1 : q = 0 := by omega
        have e2 : s = 1 := by omega
        subst e1 e2; simp
      · have e1 : q = 0 := by omega
        have e2 : s = -1 := by omega
        subst e1 e2; simp
    · have hq : q * r = -1 := by omega
      have e : c * (r * s) = b := by
        rw [show 0 * s + q * r = -1 by omega] at hB
        have e2 : 2 * c * r * s = 2 * (c * (r * s)) := by grind
        have e3 : 2 * c * 0 * q = 0 := by simp
        omega
      have hk := two_mul_one (k := r * s) ha (by rw [Int.mul_assoc, e]; have := h.1; omega) (by rw [Int.mul_assoc, e]; have := h.2.1; omega)
      rcases hk with hk | hk
      · rw [hk, Int.mul_zero] at e
        subst e
        rcases hr with rfl | rfl
        · have e1 : q = -1 := by omega
          have e2 : s = 0 := by omega
          subst e1 e2; simp
        · have e1 : q = 1 := by omega
          have e2 : s = 0 := by omega
          subst e1 e2; simp
      · rw [hk, Int.mul_one] at e
        subst e
        rcases hr with rfl | rfl
        · have e1 : q = -1 := by omega
          have e2 : s = 1 := by omega
          subst e1 e2; simp
        · have e1 : q = 1 := by omega
          have e2 : s = -1 := by omega
          subst e1 e2; simp
    · rcases hp with ⟨rfl, rfl⟩ | ⟨rfl, rfl⟩
      · have e1 : s + q = 1 := by omega
        obtain rfl : s = 1 - q := by omega
        have e : c * (q - 1) = 0 := by grind
        rcases Int.mul_eq_zero.mp e with z | z
        · omega
        · obtain rfl : q = 1 := by omega
          simp
      · have e1 : s + q = -1 := by omega
        obtain rfl : s = -1 - q := by omega
        have e : c * (q + 1) = 0 := by grind
        rcases Int.mul_eq_zero.mp e with z | z
        · omega
        · obtain rfl : q = -1 := by omega
          simp
  · intro k
    rw [mem_own] at k
    simp only [Prod.mk.injEq] at k
    rcases k with ⟨rfl, rfl, rfl, rfl⟩ | ⟨rfl, rfl, rfl, rfl⟩ | ⟨⟨rfl, rfl⟩, ⟨rfl, rfl, rfl, rfl⟩ | ⟨rfl, rfl, rfl, rfl⟩⟩ | ⟨⟨rfl, rfl⟩, ⟨rfl, rfl, rfl, rfl⟩ | ⟨rfl, rfl, rfl, rfl⟩ | ⟨rfl, rfl, rfl, rfl⟩ | ⟨rfl, rfl, rfl, rfl⟩⟩
    all_goals (constructor <;> (try unfold val) <;> (try unfold mid) <;> grind)
end K9

/-! k09: the program's readings. -/
namespace K9
open PySem PySem.Spec PyProof.Rows L2 Sq
local macro_rules | `(tactic| walk_at "sq") => `(tactic| simp only [fList_tup, fList_ob, wBack_run, gStr_run, fStr_int, fStr_str, wUpper_run, wDct_run, gReprX_run, wIsX_run, wVal_run, wLam_run, wHeard_run, wRaise_run, wVar_run, wC_run, wOp_run, onBl_bl, gI_run, gAdd_int, gAdd_str, gAdd_tup, gMul_int, EqB_int, EqB_str, EqB_bl, gEq_run, gNe_run, wNeg_run, wNotV_run, wAndV_run, wOrV_run, wTB_run, wNotT_run, wAndT_run, wOrT_run, wIfE_run, runAll_nil, runAll_cons, wTup_run, wLst_run, gIx_tup, gIx_rls, gIx_str, gIx_ob, wB_run, fLen_tup, fLen_rls, fLen_str, fLen_ob, fAbs_int, fInt_int, fInt_bl, fTuple_tup, fTuple_ob, wIsi_run, wCall_run, wNext_run, wSeq_run, wBreak_run, wCont_run, wNever_run, wExpr_run, wRet_run, wRetN_run, wIf_run, gN_run, runGs_nil, runGs_cons, gT_run, gS_run, sIx_ob, wAsg_run, wSet_run, wPar_run, wPar3_run, wSeqI_run, fSeq_tup, fSeq_rls, fSeq_ob, wRng1_run, fRng1_int, wRng2_run, fRng2_int, wFor_run, wLc_run, wYes_run, onLst_ob, wMt_run, fAppend_run, fExtend_run, wAug_run, bodyD_nx, bodyD_rt, bodyD_ex, wNoP_run, onInt_int, wPart_run, fSl_tup, fSl_rls, fSl_str, fSl_ob, wSl_run, gIn_run, gNotIn_run, fSorted_ob, wLstRg1_run, wChainN_run, chainRun_last, chainRun_cons, spR_run,
  Sq.gSub, gFdiv, gMod, gLt, gLe, gGt, gGe, gAddI, gPowW, gLen_run, gAbs_run, gInt_run, gAll_run, gAny_run, gSum_run, gTuple_run, gList_run, gSorted_run, gRepr_run, gMax2_run, gMin2_run, gAppend_run, gExtend_run, CT.set_one, CT.set_many, CT.slots, setAll, wipeE, lcG_nil,
  List.getElem?_cons_zero, List.getElem?_cons_succ, List.getElem?_nil, Int.cast_ofNat_Int, List.set_cons_zero, List.set_cons_succ, List.length_cons, List.length_nil, ev0, List.map_cons, List.map_nil, List.cons_append, List.nil_append, List.replicate_succ, List.replicate_zero, Nat.reduceSub, Nat.reduceAdd, mset_same, decide_true, decide_false, if_true, if_false, ite_true, ite_false, Bool.false_eq_true, Bool.true_eq_false, reduceCtorEq, Bool.not_true, Bool.not_false, true_and, and_true, decide_eq_true_eq, Bool.not_eq_true', decide_eq_false_iff_not, ite_not, isA, atI_0, atI_1, atI_2, atI_3, atI_m4, ixN_0, ixN_1, ixN_30, ixN_31, ixN_32])
theorem rd_is_int (Z : Ad) (ds : List D) (μ : Mu) (Q : PQ) (X : XQ) (hl : ds.length = 3) (h : Sis_int.run ds μ Q X) : (wis_int Z).run (bodyD Q X) (ev0 3 ds) μ := by
  obtain ⟨d, lo, hi, rfl, hs, q⟩ := h
  unfold wis_int
  rcases hs.cases with ⟨i, rfl⟩ | ⟨b, rfl⟩ | ⟨e1, e2, e3, e4⟩
  · walk_at "sq"
    have q : Q (.bl (decide (lo ≤ i ∧ i ≤ hi))) μ := q
    by_cases h1 : lo ≤ i
    · rw [if_pos h1]
      by_cases h2 : i ≤ hi
      · rw [decide_eq_true ⟨h1, h2⟩] at q; rw [decide_eq_true h2]; exact .of q
      · rw [decide_eq_false (fun z => h2 z.2)] at q; rw [decide_eq_false h2]; exact .of q
    · rw [if_neg h1]
      rw [decide_eq_false (fun z => h1 z.1)] at q; exact .of q
  · walk_at "sq"
    exact .of q
  · rw [notI_in e1] at q
    simp only [wRet_run, wAndV_run, wIsi_run, wVar_run, ev0, List.map_cons, List.cons_append, List.getElem?_cons_zero, e3]
    walk_at "sq"
    exact .of q
theorem rd_is_whole (Z : Ad) (ds : List D) (μ : Mu) (Q : PQ) (X : XQ) (hl : ds.length = 1) (h : Sis_whole.run ds μ Q X) : (wis_whole Z).run (bodyD Q X) (ev0 1 ds) μ := by
  obtain ⟨d, rfl, hs, q⟩ := h
  unfold wis_whole
  rcases hs.cases with ⟨i, rfl⟩ | ⟨b, rfl⟩ | ⟨e1, e2, e3, e4⟩
  · walk_at "sq"
    exact .of q
  · walk_at "sq"
    exact .of q
  · rw [e1] at q
    simp only [wRet_run, wAndV_run, wIsi_run, wVar_run, ev0, List.map_cons, List.cons_append, List.getElem?_cons_zero, e3]
    walk_at "sq"
    exact .of q
theorem all_dec {α : Type} (xs : List α) (f : α → Bool) : (xs.map f).all id = xs.all f := by rw [List.all_map]; rfl
theorem rd_are_wholes (Z : Ad) (ds : List D) (μ : Mu) (Q : PQ) (X : XQ) (hl : ds.length = 1) (h : Sare_wholes.run ds μ Q X) : (ware_wholes Z).run (bodyD Q X) (ev0 2 ds) μ := by
  obtain ⟨d, rfl, hs, q⟩ := h
  unfold ware_wholes
  rcases hs.self.tup with ⟨xs, rfl⟩ | ⟨e1, e2⟩
  · obtain ⟨hn, hp⟩ := hs.parts xs rfl
    walk_at "sq"
    refine ⟨small_size (by omega), lcG_map (fun d => .bl (isI d)) trivial (fun d hd => ?_) fun p hp => ?_⟩
    · exact ⟨_, rfl, by
        walk_at "sq"
        exact ⟨d, rfl, hp d hd, rfl, rfl⟩⟩
    · refine ⟨p, xs.map isI, rfl, by rw [mset_same, List.map_map]; rfl, ?_⟩
      rw [all_dec]
      exact .skip hp q
  · rw [notTup_whole e1] at q
    simp only [wRet_run, wAndV_run, wIsi_run, wVar_run, ev0, List.map_cons, List.cons_append, List.getElem?_cons_zero, e2]
    walk_at "sq"
    exact .of q
theorem rd_are_ints (Z : Ad) (ds : List D) (μ : Mu) (Q : PQ) (X : XQ) (hl : ds.length = 3) (h : Sare_ints.run ds μ Q X) : (ware_ints Z).run (bodyD Q X) (ev0 4 ds) μ := by
  obtain ⟨d, k, m, rfl, hs, q⟩ := h
  unfold ware_ints
  walk_at "sq"
  refine ⟨d, rfl, hs, ?_⟩
  rcases hs.self.tup with ⟨xs, rfl⟩ | ⟨e1, e2⟩
  · obtain ⟨hn, hp⟩ := hs.parts xs rfl
    cases ha : xs.all isI with
    | false =>
      have e1 : wholesB (.tup xs) = false := ha
      have e2 : intsB k m (.tup xs) = false := by show (xs.all isI && _) = false; rw [ha]; rfl
      rw [e2] at q
      rw [e1]
      walk_at "sq"
      exact .of q
    | true =>
      have e1 : wholesB (.tup xs) = true := ha
      have e2 : intsB k m (.tup xs) = (decide ((xs.length : Int) = k) && xs.all (leB m)) := by show (xs.all isI && _) = _; rw [ha, Bool.true_and]
      rw [e2] at q
      rw [e1]
      obtain ⟨ns, rfl⟩ := wholes_ints ha
      walk_at "sq"
      rw [List.length_map] at q ⊢
      by_cases hk : (ns.length : Int) = k
      · rw [if_pos hk]
        rw [decide_eq_true hk, Bool.true_and] at q
        rw [List.length_map] at hn
        refine ⟨small_size (by omega), lcG_map (fun d => .bl (leB m d)) trivial (fun d hd => ?_) fun p hp => ?_⟩
        · obtain ⟨i, _, rfl⟩ := List.mem_map.mp hd
          exact ⟨_, rfl, by
            walk_at "sq"
            rfl⟩
        · refine ⟨p, (ns.map D.int).map (leB m), rfl, by rw [mset_same, List.map_map (f := leB m)]; rfl, ?_⟩
          rw [all_dec]
          exact .skip hp q
      · rw [if_neg hk]
        rw [decide_eq_false hk, Bool.false_and] at q
        exact .of q
  · rw [notTup_whole e1]
    rw [notTup_ints e1] at q
    walk_at "sq"
    exact .of q
theorem rd_is_form (Z : Ad) (ds : List D) (μ : Mu) (Q : PQ) (X : XQ) (hl : ds.length = 1) (h : Sis_form.run ds μ Q X) : (wis_form Z).run (bodyD Q X) (ev0 1 ds) μ := by
  obtain ⟨d, rfl, hs, q⟩ := h
  unfold wis_form
  walk_at "sq"
  exact ⟨d, 3, 1000000, rfl, hs, .of q⟩
theorem rd_look_at_form (Z : Ad) (ds : List D) (μ : Mu) (Q : PQ) (X : XQ) (hl : ds.length = 1) (h : (Slook_at_form Z).run ds μ Q X) : (wlook_at_form Z).run (bodyD Q X) (ev0 1 ds) μ := by
  obtain ⟨d, rfl, hs, q1, q2⟩ := h
  unfold wlook_at_form
  walk_at "sq"
  refine ⟨d, rfl, hs, ?_⟩
  cases e : fmB d with
  | true =>
    walk_at "sq"
    exact .of (q1 e)
  | false =>
    walk_at "sq"
    exact ⟨μ, fun _ _ z => z, q2 e⟩
theorem abs_le {i m : Int} (h : (if i < 0 then -i else i) ≤ m) : -m ≤ i ∧ i ≤ m := by split at h <;> omega
theorem abs_of {i m : Int} (h1 : -m ≤ i) (h2 : i ≤ m) : (if i < 0 then -i else i) ≤ m := by split <;> omega
theorem leB_int {m i : Int} : leB m (.int i) = true ↔ -m ≤ i ∧ i ≤ m := by
  show decide _ = true ↔ _
  rw [decide_eq_true_eq]
  exact ⟨abs_le, fun h => abs_of h.1 h.2⟩
theorem fmB_inv {d : D} (h : fmB d = true) : ∃ a b c, d = f3 a b c ∧ Bd a b c := by
  cases d with
  | tup xs =>
    have h : (xs.all isI && (decide ((xs.length : Int) = 3) && xs.all (leB 1000000))) = true := h
    rw [Bool.and_eq_true, Bool.and_eq_true, decide_eq_true_eq] at h
    obtain ⟨h1, h2, h3⟩ := h
    obtain ⟨ns, rfl⟩ := wholes_ints h1
    rw [List.length_map] at h2
    match ns, h2, h3 with
    | [a, b, c], _, h3 =>
      simp only [List.map_cons, List.map_nil, List.all_cons, List.all_nil, Bool.and_true, Bool.and_eq_true, leB_int] at h3
      exact ⟨a, b, c, rfl, h3.1.1, h3.1.2, h3.2.1.1, h3.2.1.2, h3.2.2.1, h3.2.2.2⟩
    | [], h2, _ => cases h2
    | [_], h2, _ => cases h2
    | [_, _], h2, _ => cases h2
    | _ :: _ :: _ :: _ :: r, h2, _ => simp at h2; omega
  | _ => cases h
theorem fmB_f3 {a b c : Int} : fmB (f3 a b c) = decide (Bd a b c) := by
  rw [Bool.eq_iff_iff, decide_eq_true_eq]
  constructor
  · intro h
    obtain ⟨a', b', c', e, hb⟩ := fmB_inv h
    cases e
    exact hb
  · rintro ⟨h1, h2, h3, h4, h5, h6⟩
    show ([D.int a, D.int b, D.int c].all isI && (decide ((([D.int a, D.int b, D.int c] : List D).length : Int) = 3) && [D.int a, D.int b, D.int c].all (leB 1000000))) = true
    have k : ∀ {i : Int}, -1000000 ≤ i → i ≤ 1000000 → leB 1000000 (.int i) = true := fun a b => leB_int.mpr ⟨a, b⟩
    rw [show [D.int a, D.int b, D.int c].all (leB 1000000) = true by simp only [List.all_cons, List.all_nil, k h1 h2, k h3 h4, k h5 h6]; rfl]
    rfl
theorem rd_told_size (Z : Ad) (ds : List D) (μ : Mu) (Q : PQ) (X : XQ) (hl : ds.length = 1) (h : Stold_size.run ds μ Q X) : (wtold_size Z).run (bodyD Q X) (ev0 1 ds) μ := by
  obtain ⟨r, ⟨a, b, c, rfl, hb, hc, rfl⟩, q⟩ := h
  unfold wtold_size
  walk_at "sq"
  exact ⟨hb.r, mulOk_l (by omega) (by omega), hc.r, .of q⟩
/-- a form is looked at, then the rest -/
theorem look_form {Z : Ad} {d : D} {μ : Mu} {Q : PQ} {X : XQ} (hs : Seen2 μ d) (h1 : ∀ a b c, d = f3 a b c → Bd a b c → Q .non μ) (h2 : fmB d = false → X Z.cBadForm d μ) : (Slook_at_form Z).run [d] μ Q X :=
  ⟨d, rfl, hs, fun e => by
    obtain ⟨a, b, c, e, hb⟩ := fmB_inv e
    exact h1 a b c e hb, h2⟩
theorem rd_told_value (Z : Ad) (ds : List D) (μ : Mu) (Q : PQ) (X : XQ) (hl : ds.length = 3) (h : Stold_value.run ds μ Q X) : (wtold_value Z).run (bodyD Q X) (ev0 3 ds) μ := by
  obtain ⟨r, ⟨a, b, c, x, y, rfl, hx, hy, rfl⟩, q⟩ := h
  unfold wtold_value
  walk_at "sq"
  exact ⟨hx.r, hx.r, hx.r, hy.r, hy.r, hy.r, .of q⟩
theorem disc_bd {a b c : Int} (hb : Bd a b c) : b * b - 4 * a * c ≤ 5000000000000 := by
  obtain ⟨h1, h2, h3, h4, h5, h6⟩ := hb
  have e1 : b * b ≤ 1000000000000 := by
    have := Int.mul_nonneg (show 0 ≤ 1000000 - b by omega) (show 0 ≤ 1000000 + b by omega)
    have e : (1000000 - b) * (1000000 + b) = 1000000000000 - b * b := by grind
    omega
  have e2 : -(a * c) ≤ 1000000000000 := by
    have g1 := Int.mul_nonneg (show 0 ≤ 1000000 + a by omega) (show 0 ≤ 1000000 + c by omega)
    have g2 := Int.mul_nonneg (show 0 ≤ 1000000 - a by omega) (show 0 ≤ 1000000 - c by omega)
    have e1 : (1000000 + a) * (1000000 + c) = 1000000000000 + 1000000 * c + 1000000 * a + a * c := by grind
    have e2 : (1000000 - a) * (1000000 - c) = 1000000000000 - 1000000 * c - 1000000 * a + a * c := by grind
    omega
  have e3 : 4 * a * c = 4 * (a * c) := by rw [Int.mul_assoc]
  omega
theorem rd_told_kind (Z : Ad) (ds : List D) (μ : Mu) (Q : PQ) (X : XQ) (hl : ds.length = 1) (h : Stold_kind.run ds μ Q X) : (wtold_kind Z).run (bodyD Q X) (ev0 2 ds) μ := by
  obtain ⟨a, b, c, rfl, hb, q⟩ := h
  unfold wtold_kind
  walk_at "sq"
  have hd := disc_bd hb
  obtain ⟨h1, h2, h3, h4, h5, h6⟩ := hb
  refine ⟨_, ⟨a, b, c, rfl, .mk (by omega) (by omega), .mk (by omega) (by omega), rfl⟩, ?_⟩
  walk_at "sq"
  by_cases hn : b * b - 4 * a * c < 0
  · rw [if_pos hn]
    by_cases ha : 0 < a
    · rw [if_pos ha]; exact .of (q _ (.inl ⟨hn, by rw [if_pos ha]⟩))
    · rw [if_neg ha]; exact .of (q _ (.inl ⟨hn, by rw [if_neg ha]⟩))
  · rw [if_neg hn]
    refine ⟨_, rfl, by omega, fun k hk => ?_⟩
    cases k with
    | true =>
      walk_at "sq"
      exact .of (q _ (.inr ⟨by omega, .inl ⟨hk.mp rfl, rfl⟩⟩))
    | false =>
      walk_at "sq"
      exact .of (q _ (.inr ⟨by omega, .inr ⟨fun z => (by cases hk.mpr z), rfl⟩⟩))
theorem fdiv_bd {x y : Int} (hy : 0 < y) : y * x.fdiv y ≤ x ∧ x < y * x.fdiv y + y := by
  rw [Int.fdiv_eq_ediv_of_nonneg _ (Int.le_of_lt hy)]
  have h1 := Int.mul_ediv_add_emod x y
  have h2 := Int.emod_nonneg x (Int.ne_of_gt hy)
  have h3 := Int.emod_lt_of_pos x hy
  omega
theorem divOk_small {j : Int} (h0 : 0 < j) (h1 : j < 18446744073709551616) : DivOk j := ⟨by omega, by
  have : (18446744073709551616 : Nat) ≤ 2 ^ 9000 := Nat.le_trans (by decide : 18446744073709551616 ≤ 2 ^ 64) (Nat.pow_le_pow_right (by decide) (by decide))
  omega⟩
theorem iabs_nn (i : Int) : (if i < 0 then -i else i) = (i.natAbs : Int) := by split <;> omega
theorem gcd_step (a b : Nat) (hb : b ≠ 0) : Int.gcd (b : Int) ((a : Int).fmod b) = Int.gcd a b := by
  rw [Int.fmod_eq_emod_of_nonneg _ (by omega)]
  show Nat.gcd _ _ = Nat.gcd _ _
  rw [show ((a : Int) % (b : Int)) = ((a % b : Nat) : Int) from rfl, Int.natAbs_natCast, Int.natAbs_natCast, Int.natAbs_natCast, Nat.gcd_comm b, Nat.gcd_comm a, ← Nat.gcd_rec]
theorem gcd_read {w : WS} (hw : w = wSeq (wPar 0 1 (wB gAbs [wVar 0]) (wB gAbs [wVar 1])) (wSeq (wWhile (wTB (wOp gNe (wVar 1) (wC (.int 0)))) (wPar 0 1 (wVar 1) (wOp gMod (wVar 0) (wVar 1)))) (wRet (wVar 0)))) (ds : List D) (μ : Mu) (Q : PQ) (X : XQ) (h : Scommon_int.run ds μ Q X) : w.run (bodyD Q X) (ev0 2 ds) μ := by
  obtain ⟨r, ⟨i, j, rfl, rfl⟩, q⟩ := h
  subst hw
  refine seq_by (fun ρ μ1 => ρ = [some (.int (i.natAbs : Int)), some (.int (j.natAbs : Int))] ∧ μ1 = μ) ?_ ?_
  · walk_at "sq"
    rw [iabs_nn, iabs_nn]
  rintro ρ μ1 ⟨rfl, rfl⟩
  refine seq_by (fun ρ μ2 => ∃ e, ρ = [some (.int (Int.gcd i j : Int)), e] ∧ μ2 = μ1) ?_ ?_
  · refine wWhile_by (fun m ρ μ2 => ∃ a b : Nat, ρ = [some (.int a), some (.int b)] ∧ Int.gcd a b = Int.gcd i j ∧ m = b ∧ μ2 = μ1) _ ⟨i.natAbs, j.natAbs, rfl, by show Nat.gcd _ _ = Nat.gcd _ _; rw [Int.natAbs_natCast, Int.natAbs_natCast], rfl, rfl⟩ ?_
    rintro m ρ μ2 ⟨a, b, rfl, hg, rfl, rfl⟩
    walk_at "sq"
    by_cases hb : (m : Int) = 0
    · have hb' : m = 0 := by omega
      subst hb'
      rw [if_pos hb]
      refine ⟨some (.int ((0 : Nat) : Int)), ?_⟩
      rw [← hg]
      show [some (D.int (a : Int)), some (D.int ((0 : Nat) : Int))] = [some (D.int ((Nat.gcd a 0 : Nat) : Int)), some (D.int ((0 : Nat) : Int))]
      rw [Nat.gcd_zero_right]
    · rw [if_neg hb]
      have hb' : m ≠ 0 := by omega
      refine ⟨hb, a % m, Nat.mod_lt _ (by omega), m, a % m, ?_, ?_, rfl⟩
      · rw [Int.fmod_eq_emod_of_nonneg _ (by omega)]
        rfl
      · rw [← hg, ← gcd_step a m hb', Int.fmod_eq_emod_of_nonneg _ (by omega)]
        rfl
  rintro ρ μ2 ⟨e, rfl, rfl⟩
  walk_at "sq"
  exact .of q
theorem rd_common_int (Z : Ad) (ds : List D) (μ : Mu) (Q : PQ) (X : XQ) (hl : ds.length = 2) (h : Scommon_int.run ds μ Q X) : (wcommon_int Z).run (bodyD Q X) (ev0 2 ds) μ := gcd_read rfl ds μ Q X h
theorem rd_law_common (Z : Ad) (ds : List D) (μ : Mu) (Q : PQ) (X : XQ) (hl : ds.length = 2) (h : S_law_common.run ds μ Q X) : (w_law_common Z).run (bodyD Q X) (ev0 2 ds) μ := gcd_read rfl ds μ Q X h
theorem le_sq {x : Int} (h : 0 ≤ x) : x ≤ x * x := by
  rcases Int.lt_or_le x 1 with g | g
  · have : x = 0 := by omega
    subst this; decide
  · have : x * 1 ≤ x * x := Int.mul_le_mul_of_nonneg_left g h
    omega
theorem sq_leN {x y : Int} (hx : 0 ≤ x) (h : x ≤ y) : x * x ≤ y * y := Int.mul_le_mul h h hx (by omega)
theorem Root.uniq {n r s : Int} (h : Root n r) (k : Root n s) : r = s := by
  obtain ⟨h1, h2, h3⟩ := h
  obtain ⟨k1, k2, k3⟩ := k
  rcases Int.lt_trichotomy r s with g | g | g
  · have := sq_leN (show 0 ≤ r + 1 by omega) (show r + 1 ≤ s by omega)
    omega
  · exact g
  · have := sq_leN (show 0 ≤ s + 1 by omega) (show s + 1 ≤ r by omega)
    omega
/-- Newton's step from above -/
theorem newton {n h l : Int} (hn : 0 ≤ n) (h0 : 0 < h) (hl : 2 * l ≤ h + n.fdiv h ∧ h + n.fdiv h < 2 * l + 2) : n < (l + 1) * (l + 1) := by
  obtain ⟨g1, g2⟩ := fdiv_bd (x := n) h0
  generalize n.fdiv h = q at *
  -- n < h (q + 1), h + q + 1 ≤ 2 l + 2
  have e : 4 * (h * (q + 1)) = (h + (q + 1)) * (h + (q + 1)) - (h - (q + 1)) * (h - (q + 1)) := by grind
  have s : 0 ≤ (h - (q + 1)) * (h - (q + 1)) := by
    rcases Int.le_total 0 (h - (q + 1)) with z | z
    · exact Int.mul_nonneg z z
    · have := Int.mul_nonneg (show 0 ≤ -(h - (q + 1)) by omega) (show 0 ≤ -(h - (q + 1)) by omega)
      have e2 : -(h - (q + 1)) * -(h - (q + 1)) = (h - (q + 1)) * (h - (q + 1)) := by grind
      omega
  have hq : 0 ≤ q + 1 := by
    rcases Int.lt_or_le q (-1) with z | z
    · have : h * (q + 1) ≤ h * (-1) := Int.mul_le_mul_of_nonneg_left (by omega) (Int.le_of_lt h0)
      have e3 : h * (q + 1) = h * q + h := by grind
      have e4 : h * (-1) = -h := by grind
      omega
    · omega
  have t := sq_leN (show 0 ≤ h + (q + 1) by omega) (show h + (q + 1) ≤ 2 * (l + 1) by omega)
  have e5 : 2 * (l + 1) * (2 * (l + 1)) = 4 * ((l + 1) * (l + 1)) := by grind
  have e6 : h * (q + 1) = h * q + h := by grind
  omega
theorem rd_told_root (Z : Ad) (ds : List D) (μ : Mu) (Q : PQ) (X : XQ) (hl : ds.length = 1) (h : Stold_root.run ds μ Q X) : (wtold_root Z).run (bodyD Q X) (ev0 3 ds) μ := by
  obtain ⟨n, rfl, h0, h1, q⟩ := h
  unfold wtold_root
  refine seq_by (fun ρ μ1 => ρ = [some (.int n), none, none] ∧ 2 ≤ n ∧ μ1 = μ) ?_ ?_
  · walk_at "sq"
    by_cases hn : n < 2
    · rw [if_pos hn]
      refine .of (q n ⟨h0, ?_, ?_⟩)
      · rcases (by omega : n = 0 ∨ n = 1) with rfl | rfl <;> decide
      · rcases (by omega : n = 0 ∨ n = 1) with rfl | rfl <;> decide
    · rw [if_neg hn]
      omega
  rintro ρ μ1 ⟨rfl, hn, rfl⟩
  refine seq_by (fun ρ μ2 => ρ = [some (.int n), some (.int 1), none] ∧ μ2 = μ1) (by walk_at "sq") ?_
  rintro ρ μ2 ⟨rfl, rfl⟩
  refine seq_by (fun ρ μ3 => ∃ hi : Int, ρ = [some (.int n), some (.int hi), none] ∧ 1 ≤ hi ∧ n < hi * hi ∧ hi ≤ 4 * n + 4 ∧ μ3 = μ2) ?_ ?_
  · refine wWhile_by (fun m ρ μ2' => ∃ hi : Int, ρ = [some (.int n), some (.int hi), none] ∧ 1 ≤ hi ∧ hi * hi ≤ 4 * n + 4 ∧ m = (4 * n + 5 - hi).toNat ∧ μ2' = μ2) _ ⟨1, rfl, by decide, by omega, rfl, rfl⟩ ?_
    rintro m ρ μ2 ⟨hi, rfl, g1, g2, rfl, rfl⟩
    have g3 := le_sq (x := hi) (by omega)
    walk_at "sq"
    refine ⟨mulOk_l (by omega) (by omega), ?_⟩
    by_cases g4 : hi * hi ≤ n
    · rw [if_pos g4]
      have e : hi * 2 * (hi * 2) = 4 * (hi * hi) := by grind
      exact ⟨mulOk_r (by decide) (by decide), _, by omega, _, rfl, by omega, by omega, rfl⟩
    · rw [if_neg g4]
      exact ⟨hi, rfl, g1, by omega, by omega⟩
  rintro ρ μ3 ⟨hi, rfl, g1, g2, g3, rfl⟩
  refine wWhile_by (fun m ρ μ3' => ∃ hi : Int, ∃ e, ρ = [some (.int n), some (.int hi), e] ∧ 1 ≤ hi ∧ n < (hi + 1) * (hi + 1) ∧ hi ≤ 4 * n + 4 ∧ m = hi.toNat ∧ μ3' = μ3) _ ⟨hi, none, rfl, g1, ?_, g3, rfl, rfl⟩ ?_
  · have := sq_leN (show 0 ≤ hi by omega) (show hi ≤ hi + 1 by omega)
    omega
  rintro m ρ μ4 ⟨hi, e, rfl, k1, k2, k3, rfl, rfl⟩
  walk_at "sq"
  obtain ⟨f1, f2⟩ := fdiv_bd (x := n) (y := hi) (by omega)
  obtain ⟨f3, f4⟩ := fdiv_bd (x := hi + n.fdiv hi) (y := 2) (by decide)
  refine ⟨divOk_small (by omega) (by omega), divOk_small (by decide) (by decide), ?_⟩
  by_cases k4 : hi ≤ (hi + n.fdiv hi).fdiv 2
  · rw [if_pos k4]
    refine .of (q hi ⟨by omega, ?_, k2⟩)
    have : hi * hi ≤ hi * n.fdiv hi := Int.mul_le_mul_of_nonneg_left (by omega) (by omega)
    omega
  · rw [if_neg k4]
    have k5 := newton (l := (hi + n.fdiv hi).fdiv 2) (n := n) h0 (show 0 < hi by omega) ⟨by omega, by omega⟩
    have k6 : 0 ≤ n.fdiv hi := by
      rcases Int.lt_or_le (n.fdiv hi) 0 with z | z
      · have : hi * n.fdiv hi ≤ hi * (-1) := Int.mul_le_mul_of_nonneg_left (by omega) (by omega)
        have e4 : hi * (-1) = -hi := by grind
        omega
      · exact z
    have k7 : 1 ≤ (hi + n.fdiv hi).fdiv 2 := by
      rcases Int.lt_or_le ((hi + n.fdiv hi).fdiv 2) 1 with z | z
      · have z2 : (hi + n.fdiv hi).fdiv 2 = 0 := by omega
        rw [z2] at k5
        omega
      · exact z
    exact ⟨((hi + n.fdiv hi).fdiv 2).toNat, by omega, _, _, rfl, k7, k5, by omega, rfl⟩
theorem sq_read {Z : Ad} {S : SpD} (hS : S = Stold_root) {w : WS} (hw : w = wRet (wAndV (wOp gGe (wVar 0) (wC (.int 0))) (wOp gEq (wOp gMul (wCall S [wVar 0]) (wCall S [wVar 0])) (wVar 0)))) (ds : List D) (μ : Mu) (Q : PQ) (X : XQ) (h : Sis_square.run ds μ Q X) : w.run (bodyD Q X) (ev0 1 ds) μ := by
  obtain ⟨n, rfl, h1, q⟩ := h
  subst hw hS
  walk_at "sq"
  by_cases hn : 0 ≤ n
  · rw [if_pos hn]
    refine ⟨n, rfl, hn, h1, fun r hr => ⟨n, rfl, hn, h1, fun s hs => ?_⟩⟩
    obtain rfl := hr.uniq hs
    obtain ⟨r1, r2, r3⟩ := hr
    walk_at "sq"
    have := le_sq r1
    refine ⟨mulOk_l (by omega) (by omega), .of (q _ ?_)⟩
    unfold SqB
    rw [decide_eq_true_eq]
    constructor
    · exact fun e => ⟨r, r1, e⟩
    · rintro ⟨s, s1, s2⟩
      have hs : Root n s := ⟨s1, by omega, by
        have := sq_leN s1 (show s ≤ s + 1 by omega)
        have e : (s + 1) * (s + 1) = s * s + 2 * s + 1 := by grind
        omega⟩
      rw [Root.uniq ⟨r1, r2, r3⟩ hs]
      exact s2
  · rw [if_neg hn]
    refine .of (q _ ⟨fun z => (by cases z), fun ⟨r, r1, r2⟩ => ?_⟩)
    have := Int.mul_nonneg r1 r1
    omega
theorem rd_is_square (Z : Ad) (ds : List D) (μ : Mu) (Q : PQ) (X : XQ) (hl : ds.length = 1) (h : Sis_square.run ds μ Q X) : (wis_square Z).run (bodyD Q X) (ev0 1 ds) μ := sq_read (Z := Z) rfl rfl ds μ Q X h
theorem atm1 {p q u v : D} : L2.atI [p, q, u, v] (-1) = some v := rfl
theorem intsB4 {d : D} {m : Int} (h : intsB 4 m d = true) : ∃ p q u v, d = t4 p q u v ∧ (-m ≤ p ∧ p ≤ m) ∧ (-m ≤ q ∧ q ≤ m) ∧ (-m ≤ u ∧ u ≤ m) ∧ (-m ≤ v ∧ v ≤ m) := by
  cases d with
  | tup xs =>
    have h : (xs.all isI && (decide ((xs.length : Int) = 4) && xs.all (leB m))) = true := h
    rw [Bool.and_eq_true, Bool.and_eq_true, decide_eq_true_eq] at h
    obtain ⟨h1, h2, h3⟩ := h
    obtain ⟨ns, rfl⟩ := wholes_ints h1
    rw [List.length_map] at h2
    match ns, h2, h3 with
    | [a, b, c, d], _, h3 =>
      simp only [List.map_cons, List.map_nil, List.all_cons, List.all_nil, Bool.and_true, Bool.and_eq_true, leB_int] at h3
      exact ⟨a, b, c, d, rfl, h3.1, h3.2.1, h3.2.2.1, h3.2.2.2⟩
    | [], h2, _ => cases h2
    | [_], h2, _ => cases h2
    | [_, _], h2, _ => cases h2
    | [_, _, _], h2, _ => cases h2
    | _ :: _ :: _ :: _ :: _ :: r, h2, _ => simp at h2; omega
  | _ => cases h
theorem intsB4_mk {m p q u v : Int} (h1 : -m ≤ p ∧ p ≤ m) (h2 : -m ≤ q ∧ q ≤ m) (h3 : -m ≤ u ∧ u ≤ m) (h4 : -m ≤ v ∧ v ≤ m) : intsB 4 m (t4 p q u v) = true := by
  show ([D.int p, D.int q, D.int u, D.int v].all isI && (decide ((([D.int p, D.int q, D.int u, D.int v] : List D).length : Int) = 4) && [D.int p, D.int q, D.int u, D.int v].all (leB m))) = true
  rw [show [D.int p, D.int q, D.int u, D.int v].all (leB m) = true by simp only [List.all_cons, List.all_nil, leB_int.mpr h1, leB_int.mpr h2, leB_int.mpr h3, leB_int.mpr h4]; rfl]
  rfl
theorem detB_t4 {p q u v : Int} : detB (t4 p q u v) = decide (p * v - q * u = 1) := rfl
theorem tnB_inv {d : D} (h : tnB d = true) : ∃ p q u v, d = t4 p q u v ∧ Tnb p q u v := by
  unfold tnB at h
  rw [Bool.and_eq_true] at h
  obtain ⟨p, q, u, v, rfl, k1, k2, k3, k4⟩ := intsB4 h.1
  have k5 := h.2
  rw [detB_t4, decide_eq_true_eq] at k5
  exact ⟨p, q, u, v, rfl, k1, k2, k3, k4, k5⟩
theorem tnB_t4 {p q u v : Int} (h : Tnb p q u v) : tnB (t4 p q u v) = true := by
  unfold tnB
  rw [intsB4_mk h.1 h.2.1 h.2.2.1 h.2.2.2.1, detB_t4, decide_eq_true h.2.2.2.2]; rfl
theorem rd_is_turn (Z : Ad) (ds : List D) (μ : Mu) (Q : PQ) (X : XQ) (hl : ds.length = 1) (h : Sis_turn.run ds μ Q X) : (wis_turn Z).run (bodyD Q X) (ev0 1 ds) μ := by
  obtain ⟨d, rfl, hs, q⟩ := h
  unfold wis_turn
  walk_at "sq"
  refine ⟨d, _, _, rfl, hs, ?_⟩
  unfold tnB at q
  rcases Bool.eq_false_or_eq_true (intsB 4 1000000000000 d) with e | e
  · rw [e] at q ⊢
    obtain ⟨a, b, c, f, rfl, k1, k2, k3, k4⟩ := intsB4 e
    walk_at "sq"
    rw [detB_t4, Bool.true_and] at q
    exact ⟨mulOk_l (by omega) (by omega), mulOk_l (by omega) (by omega), .of q⟩
  · rw [e] at q ⊢
    walk_at "sq"
    exact .of q
theorem rd_told_turned (Z : Ad) (ds : List D) (μ : Mu) (Q : PQ) (X : XQ) (hl : ds.length = 2) (h : Stold_turned.run ds μ Q X) : (wtold_turned Z).run (bodyD Q X) (ev0 7 ds) μ := by
  obtain ⟨r, ⟨a, b, c, p, q', u, v, rfl, hb, hp, hq, hu, hv, rfl⟩, q⟩ := h
  unfold wtold_turned
  walk_at "sq"
  refine ⟨mulOk_l (by omega) (by omega), hp.r, hq.r, hv.r, hu.r, hb.l, mulOk_l (by omega) (by omega), hu.r, hv.r, ?_⟩
  refine ⟨_, ⟨a, b, c, p, u, rfl, hp, hu, rfl⟩, ?_⟩
  refine ⟨_, ⟨a, b, c, q', v, rfl, hq, hv, rfl⟩, ?_⟩
  exact .of q
theorem rd_told_then (Z : Ad) (ds : List D) (μ : Mu) (Q : PQ) (X : XQ) (hl : ds.length = 2) (h : Stold_then.run ds μ Q X) : (wtold_then Z).run (bodyD Q X) (ev0 10 ds) μ := by
  obtain ⟨r, ⟨p, q', u, v, e, f, g, k, rfl, hb, rfl⟩, q⟩ := h
  unfold wtold_then
  walk_at "sq"
  rcases hb with ⟨h1, h2, h3, h4⟩ | ⟨h1, h2, h3, h4⟩
  · exact ⟨h1.l, h2.l, h1.l, h2.l, h3.l, h4.l, h3.l, h4.l, .of q⟩
  · exact ⟨h1.r, h3.r, h2.r, h4.r, h1.r, h3.r, h2.r, h4.r, .of q⟩
theorem rd_told_back (Z : Ad) (ds : List D) (μ : Mu) (Q : PQ) (X : XQ) (hl : ds.length = 1) (h : Stold_back.run ds μ Q X) : (wtold_back Z).run (bodyD Q X) (ev0 1 ds) μ := by
  obtain ⟨r, ⟨p, q', u, v, rfl, rfl⟩, q⟩ := h
  unfold wtold_back
  walk_at "sq"
  exact .of q
theorem Lt.b {x : Int} (h : Lt x) : B64 x := .mk (by have := h.1; omega) (by have := h.2; omega)
end K9

/-! k09: the program's readings, on. -/
namespace K9
open PySem PySem.Spec PyProof.Rows L2 Sq
local macro_rules | `(tactic| walk_at "sq") => `(tactic| simp only [fList_tup, fList_ob, wBack_run, gStr_run, fStr_int, fStr_str, wUpper_run, wDct_run, gReprX_run, wIsX_run, wVal_run, wLam_run, wHeard_run, wRaise_run, wVar_run, wC_run, wOp_run, onBl_bl, gI_run, gAdd_int, gAdd_str, gAdd_tup, gMul_int, EqB_int, EqB_str, EqB_bl, gEq_run, gNe_run, wNeg_run, wNotV_run, wAndV_run, wOrV_run, wTB_run, wNotT_run, wAndT_run, wOrT_run, wIfE_run, runAll_nil, runAll_cons, wTup_run, wLst_run, gIx_tup, gIx_rls, gIx_str, gIx_ob, wB_run, fLen_tup, fLen_rls, fLen_str, fLen_ob, fAbs_int, fInt_int, fInt_bl, fTuple_tup, fTuple_ob, wIsi_run, wCall_run, wNext_run, wSeq_run, wBreak_run, wCont_run, wNever_run, wExpr_run, wRet_run, wRetN_run, wIf_run, gN_run, runGs_nil, runGs_cons, gT_run, gS_run, sIx_ob, wAsg_run, wSet_run, wPar_run, wPar3_run, wSeqI_run, fSeq_tup, fSeq_rls, fSeq_ob, wRng1_run, fRng1_int, wRng2_run, fRng2_int, wFor_run, wLc_run, wYes_run, onLst_ob, wMt_run, fAppend_run, fExtend_run, wAug_run, bodyD_nx, bodyD_rt, bodyD_ex, wNoP_run, onInt_int, wPart_run, fSl_tup, fSl_rls, fSl_str, fSl_ob, wSl_run, gIn_run, gNotIn_run, fSorted_ob, wLstRg1_run, wChainN_run, chainRun_last, chainRun_cons, spR_run,
  Sq.gSub, gFdiv, gMod, gLt, gLe, gGt, gGe, gAddI, gPowW, gLen_run, gAbs_run, gInt_run, gAll_run, gAny_run, gSum_run, gTuple_run, gList_run, gSorted_run, gRepr_run, gMax2_run, gMin2_run, gAppend_run, gExtend_run, CT.set_one, CT.set_many, CT.slots, setAll, wipeE, lcG_nil,
  List.getElem?_cons_zero, List.getElem?_cons_succ, List.getElem?_nil, Int.cast_ofNat_Int, List.set_cons_zero, List.set_cons_succ, List.length_cons, List.length_nil, ev0, List.map_cons, List.map_nil, List.cons_append, List.nil_append, List.replicate_succ, List.replicate_zero, Nat.reduceSub, Nat.reduceAdd, mset_same, decide_true, decide_false, if_true, if_false, ite_true, ite_false, Bool.false_eq_true, Bool.true_eq_false, reduceCtorEq, Bool.not_true, Bool.not_false, true_and, and_true, decide_eq_true_eq, Bool.not_eq_true', decide_eq_false_iff_not, ite_not, isA, atI_0, atI_1, atI_2, atI_3, atI_m4, ixN_0, ixN_1, ixN_30, ixN_31, ixN_32])
theorem Bad.sub {Z : Ad} {X : XQ} {d : D} {μ : Mu} (b : Bad Z X d μ) : Bad Z (SubX X) d μ := b.mono fun C d μ' x => ⟨μ', fun _ _ z => z, x⟩
theorem kind_above {a b c : Int} {k : Str} (h : Kind a b c k) : k = "above" ↔ Pos a b c := by
  have n1 : ("below" : Str) ≠ "above" := by decide
  have n2 : ("split" : Str) ≠ "above" := by decide
  have n3 : ("mixed" : Str) ≠ "above" := by decide
  unfold Pos
  rcases h with ⟨h1, rfl⟩ | ⟨h1, ⟨h2, rfl⟩ | ⟨h2, rfl⟩⟩
  · by_cases ha : 0 < a
    · rw [if_pos ha]; exact ⟨fun _ => ⟨ha, by omega⟩, fun _ => rfl⟩
    · rw [if_neg ha]; exact ⟨fun z => absurd z n1, fun z => absurd z.1 ha⟩
  · exact ⟨fun z => absurd z n2, fun z => by omega⟩
  · exact ⟨fun z => absurd z n3, fun z => by omega⟩
theorem rd_look_at_above (Z : Ad) (ds : List D) (μ : Mu) (Q : PQ) (X : XQ) (hl : ds.length = 1) (h : (Slook_at_above Z).run ds μ Q X) : (wlook_at_above Z).run (bodyD Q X) (ev0 1 ds) μ := by
  obtain ⟨d, rfl, hs, hb, q⟩ := h
  unfold wlook_at_above
  walk_at "sq"
  refine look_form hs (fun a b c e hbd => ?_) fun e => ⟨μ, fun _ _ z => z, hb.1 e⟩
  refine ⟨a, b, c, e ▸ rfl, hbd, fun k hk => ?_⟩
  by_cases hp : Pos a b c
  · obtain rfl := (kind_above hk).mpr hp
    walk_at "sq"
    exact .of (q a b c e hbd hp)
  · have hk2 : ¬ (k = "above") := fun z => hp ((kind_above hk).mp z)
    walk_at "sq"
    rw [if_neg hk2]
    exact ⟨μ, fun _ _ z => z, hb.2 a b c e hbd hp⟩
theorem look_above {Z : Ad} {d : D} {μ : Mu} {Q : PQ} {X : XQ} (hs : Seen2 μ d) (hb : Bad Z X d μ) (h1 : ∀ a b c, d = f3 a b c → Bd a b c → Pos a b c → Q .non μ) : (Slook_at_above Z).run [d] μ Q (SubX X) :=
  ⟨d, rfl, hs, hb.sub, h1⟩
theorem dec_red {a b c : Int} {P : Bool → Prop} (q : P (decide (Red a b c))) : (if -a < b then (if b ≤ a then (if a ≤ c then (if 0 ≤ b then P true else P !decide (a = c)) else P false) else P false) else P false) := by
  by_cases h1 : -a < b
  · by_cases h2 : b ≤ a
    · by_cases h3 : a ≤ c
      · by_cases h4 : 0 ≤ b
        · rw [if_pos h1, if_pos h2, if_pos h3, if_pos h4]
          rw [decide_eq_true (p := Red a b c) ⟨h1, h2, h3, .inl h4⟩] at q; exact q
        · rw [if_pos h1, if_pos h2, if_pos h3, if_neg h4]
          by_cases h5 : a = c
          · rw [decide_eq_false (p := Red a b c) (fun ⟨_, _, _, z⟩ => z.elim h4 fun y => y h5)] at q
            rw [decide_eq_true h5]; exact q
          · rw [decide_eq_true (p := Red a b c) ⟨h1, h2, h3, .inr h5⟩] at q
            rw [decide_eq_false h5]; exact q
      · rw [if_pos h1, if_pos h2, if_neg h3]
        rw [decide_eq_false (p := Red a b c) (fun ⟨_, _, z, _⟩ => h3 z)] at q; exact q
    · rw [if_pos h1, if_neg h2]
      rw [decide_eq_false (p := Red a b c) (fun ⟨_, z, _, _⟩ => h2 z)] at q; exact q
  · rw [if_neg h1]
    rw [decide_eq_false (p := Red a b c) (fun ⟨z, _, _, _⟩ => h1 z)] at q; exact q
theorem rd_is_least (Z : Ad) (ds : List D) (μ : Mu) (Q : PQ) (X : XQ) (hl : ds.length = 1) (h : Sis_least.run ds μ Q X) : (wis_least Z).run (bodyD Q X) (ev0 4 ds) μ := by
  obtain ⟨r, ⟨a, b, c, rfl, rfl⟩, q⟩ := h
  unfold wis_least
  walk_at "sq"
  exact dec_red (P := fun z => SubQ Q (.bl z) μ) (.of q)
/-- the measure -/
def meas (a b c : Int) : Nat := 8 * a.toNat + (if -a < b ∧ b ≤ a then (if a ≤ c then (if a = c ∧ b < 0 then 1 else 0) else 2) else (if b < 0 then 4 else 3))
theorem fdiv_abs {x y B : Int} (hy : 0 < y) (h1 : -B ≤ x) (h2 : x ≤ B) (hB : 0 ≤ B) : -B - 1 ≤ x.fdiv y ∧ x.fdiv y ≤ B := by
  obtain ⟨g1, g2⟩ := fdiv_bd (x := x) hy
  constructor
  · rcases Int.lt_or_le (x.fdiv y) (-B - 1) with k | k
    · have : y * x.fdiv y ≤ y * (-B - 2) := Int.mul_le_mul_of_nonneg_left (by omega) (Int.le_of_lt hy)
      have e : y * (-B - 2) = -(y * B) - 2 * y := by grind
      have := Int.mul_le_mul_of_nonneg_right (show 1 ≤ y by omega) hB
      omega
    · exact k
  · rcases Int.lt_or_le B (x.fdiv y) with k | k
    · have : y * (B + 1) ≤ y * x.fdiv y := Int.mul_le_mul_of_nonneg_left (by omega) (Int.le_of_lt hy)
      have e : y * (B + 1) = y * B + y := by grind
      have := Int.mul_le_mul_of_nonneg_right (show 1 ≤ y by omega) hB
      omega
    · exact k
/-- how the parts are bounded on the way -/
def Way (a b c A B C : Int) : Prop := Pos A B C ∧ A ≤ 10000000000000 ∧ C ≤ 10000000000000 ∧ 4 * A * C - B * B = 4 * a * c - b * b
theorem Way.b {a b c A B C : Int} (h : Way a b c A B C) : -20000000000000 < B ∧ B < 20000000000000 := by
  obtain ⟨⟨h1, h2⟩, h3, h4, _⟩ := h
  have hC := mul_pos_of h1 h2
  refine abs_lt_of_sq (by decide) ?_
  have h5 : A * C ≤ 10000000000000 * 10000000000000 := Int.mul_le_mul h3 h4 (Int.le_of_lt hC) (by decide)
  have e : 4 * A * C = 4 * (A * C) := by rw [Int.mul_assoc]
  omega
theorem way_swap {a b c A B C : Int} (h : Way a b c A B C) : Way a b c C (-B) A := by
  obtain ⟨⟨h1, h2⟩, h3, h4, h5⟩ := h
  have hC := mul_pos_of h1 h2
  have e : -B * -B = B * B := by grind
  have e2 : 4 * C * A = 4 * A * C := by grind
  exact ⟨⟨hC, by rw [e, e2]; exact h2⟩, h4, h3, by rw [e, e2]; exact h5⟩
theorem way_norm {a b c A B C k : Int} (hb : Bd a b c) (hp : Pos a b c) (h : Way a b c A B C) (h1 : -A < B + 2 * A * k) (h2 : B + 2 * A * k ≤ A) : Way a b c A (B + 2 * A * k) (A * k * k + B * k + C) := by
  obtain ⟨⟨g1, g2⟩, g3, g4, g5⟩ := h
  have e : 4 * A * (A * k * k + B * k + C) - (B + 2 * A * k) * (B + 2 * A * k) = 4 * A * C - B * B := by grind
  have e2 : (B + 2 * A * k) * (B + 2 * A * k) ≤ A * A := sq_le (by omega) h2
  have hD : 0 < 4 * a * c - b * b := by have := hp.2; omega
  have hac : a * c ≤ 1000000 * 1000000 := Int.mul_le_mul hb.2.1 hb.2.2.2.2.2 (Int.le_of_lt hp.c) (by decide)
  have e3 : 4 * a * c = 4 * (a * c) := by rw [Int.mul_assoc]
  have hbb := sq_nn b
  refine ⟨⟨g1, by omega⟩, g3, ?_, by omega⟩
  rcases Int.lt_or_le 10000000000000 (A * k * k + B * k + C) with z | z
  · have h5 : A * 10000000000001 ≤ A * (A * k * k + B * k + C) := Int.mul_le_mul_of_nonneg_left (by omega) (Int.le_of_lt g1)
    have h6 : A * A ≤ A * 10000000000000 := Int.mul_le_mul_of_nonneg_left g3 (Int.le_of_lt g1)
    have e4 : 4 * A * (A * k * k + B * k + C) = 4 * (A * (A * k * k + B * k + C)) := by rw [Int.mul_assoc]
    omega
  · exact z
theorem turned_swap {A B C : Int} {R : PQ} {X : XQ} {μ : Mu} (hB : B64 B) (h : R (f3 C (-B) A) μ) : Stold_turned.run [f3 A B C, t4 0 (-1) 1 0] μ R X := by
  refine ⟨_, ⟨A, B, C, 0, -1, 1, 0, rfl, hB, .mk (by decide) (by decide), .mk (by decide) (by decide), .mk (by decide) (by decide), .mk (by decide) (by decide), rfl⟩, ?_⟩
  have e1 : val A B C 0 1 = C := by unfold val; grind
  have e2 : mid A B C 0 (-1) 1 0 = -B := by unfold mid; grind
  have e3 : val A B C (-1) 0 = A := by unfold val; grind
  rw [e1, e2, e3]
  exact h
theorem turned_norm {A B C k : Int} {R : PQ} {X : XQ} {μ : Mu} (hB : B64 B) (hk : B64 k) (h : R (f3 A (B + 2 * A * k) (A * k * k + B * k + C)) μ) : Stold_turned.run [f3 A B C, t4 1 k 0 1] μ R X := by
  refine ⟨_, ⟨A, B, C, 1, k, 0, 1, rfl, hB, .mk (by decide) (by decide), hk, .mk (by decide) (by decide), .mk (by decide) (by decide), rfl⟩, ?_⟩
  have e1 : val A B C 1 0 = A := by unfold val; grind
  have e2 : mid A B C 1 k 0 1 = B + 2 * A * k := by unfold mid; grind
  have e3 : val A B C k 1 = A * k * k + B * k + C := by unfold val; grind
  rw [e1, e2, e3]
  exact h
theorem then_step {p q r s e f g h : Int} {R : PQ} {X : XQ} {μ : Mu} (h1 : B64 e) (h2 : B64 f) (h3 : B64 g) (h4 : B64 h) (k : R (t4 (p * e + q * g) (p * f + q * h) (r * e + s * g) (r * f + s * h)) μ) : Stold_then.run [t4 p q r s, t4 e f g h] μ R X :=
  ⟨_, ⟨p, q, r, s, e, f, g, h, rfl, .inr ⟨h1, h2, h3, h4⟩, rfl⟩, k⟩
theorem to_swap (A B C : Int) : To A B C C (-B) A 0 (-1) 1 0 := by
  constructor <;> (try unfold val) <;> (try unfold mid) <;> grind
theorem to_norm (A B C k : Int) : To A B C A (B + 2 * A * k) (A * k * k + B * k + C) 1 k 0 1 := by
  constructor <;> (try unfold val) <;> (try unfold mid) <;> grind
theorem meas_swap1 {A B C : Int} (hC : 0 < C) (h : C < A) : meas C (-B) A < meas A B C := by
  unfold meas
  have : C.toNat < A.toNat := by omega
  have g1 : (if -C < -B ∧ -B ≤ C then (if C ≤ A then (if C = A ∧ -B < 0 then 1 else 0) else 2) else (if -B < 0 then 4 else 3)) ≤ 4 := by
    split <;> (try split) <;> (try split) <;> omega
  omega
theorem meas_swap2 {A B C : Int} (hA : 0 < A) (h : A = C) (hb : B < 0) : meas C (-B) A < meas A B C := by
  subst h
  unfold meas
  by_cases h1 : -A < B
  · rw [if_pos (⟨by omega, by omega⟩ : -A < -B ∧ -B ≤ A), if_pos (⟨h1, by omega⟩ : -A < B ∧ B ≤ A), if_pos (Int.le_refl A), if_pos (Int.le_refl A), if_neg (fun z => by omega), if_pos ⟨rfl, hb⟩]
    omega
  · rw [if_neg (fun z => h1 z.1 : ¬(-A < B ∧ B ≤ A)), if_pos hb]
    have g1 : (if -A < -B ∧ -B ≤ A then (if A ≤ A then (if A = A ∧ -B < 0 then 1 else 0) else 2) else (if -B < 0 then 4 else 3)) ≤ 3 := by
      split <;> (try split) <;> (try split) <;> omega
    omega
theorem meas_norm {A B C B' C' : Int} (h : ¬(-A < B ∧ B ≤ A)) (h1 : -A < B') (h2 : B' ≤ A) : meas A B' C' < meas A B C := by
  unfold meas
  rw [if_neg h, if_pos ⟨h1, h2⟩]
  have g1 : (if A ≤ C' then (if A = C' ∧ B' < 0 then 1 else 0) else 2) ≤ 2 := by
    split <;> (try split) <;> omega
  have g2 : 3 ≤ (if B < 0 then 4 else 3) := by split <;> omega
  omega
theorem rd_told_least (Z : Ad) (ds : List D) (μ : Mu) (Q : PQ) (X : XQ) (hl : ds.length = 1) (h : Stold_least.run ds μ Q X) : (wtold_least Z).run (bodyD Q X) (ev0 7 ds) μ := by
  obtain ⟨a, b, c, rfl, hb, hp, q⟩ := h
  unfold wtold_least
  walk_at "sq"
  refine wWhile_by (fun m ρ μ' => μ' = μ ∧ ∃ A B C p q r s e1 e2 e3 e4, ρ = [some (f3 a b c), some (f3 A B C), some (t4 p q r s), e1, e2, e3, e4] ∧ To a b c A B C p q r s ∧ Way a b c A B C ∧ meas A B C = m) _ ⟨rfl, a, b, c, 1, 0, 0, 1, none, none, none, none, rfl, .id, ⟨hp, by have := hb.2.1; omega, by have := hb.2.2.2.2.2; omega, rfl⟩, rfl⟩ ?_
  rintro m ρ μ' ⟨rfl, A, B, C, p, q', r, s, e1, e2, e3, e4, rfl, ht, hw, hm⟩
  walk_at "sq"
  refine ⟨_, ⟨A, B, C, rfl, rfl⟩, ?_⟩
  walk_at "sq"
  by_cases hred : Red A B C
  · rw [if_pos hred]
    exact .of (q A B C p q' r s ⟨ht, hred⟩)
  · rw [if_neg hred]
    have hA := hw.1.1
    have hC := hw.1.c
    have bB := hw.b
    have hB : B64 B := .mk (by omega) (by omega)
    have hA2 := hw.2.1
    have z0 : B64 0 := .mk (by decide) (by decide)
    have z1 : B64 1 := .mk (by decide) (by decide)
    have zm : B64 (-1) := .mk (by decide) (by decide)
    have hk := fdiv_abs (x := A - B) (y := 2 * A) (B := 30000000000000) (by omega) (by omega) (by omega) (by decide)
    have hkk := fdiv_bd (x := A - B) (y := 2 * A) (by omega)
    have kB : B64 ((A - B).fdiv (2 * A)) := .mk (by omega) (by omega)
    by_cases h1 : C < A
    · rw [if_pos h1]
      refine turned_swap hB (then_step z0 zm z1 z0 ⟨_, hm ▸ meas_swap1 (B := B) hC h1, rfl, _, _, _, _, _, _, _, _, _, _, _, rfl, ht.comp (to_swap A B C), way_swap hw, rfl⟩)
    · rw [if_neg h1]
      by_cases h2 : A = C ∧ B < 0
      · rw [if_pos h2.1, if_pos h2.2]
        refine turned_swap hB (then_step z0 zm z1 z0 ⟨_, hm ▸ meas_swap2 hA h2.1 h2.2, rfl, _, _, _, _, _, _, _, _, _, _, _, rfl, ht.comp (to_swap A B C), way_swap hw, rfl⟩)
      · have hn : ¬(-A < B ∧ B ≤ A) := fun ⟨g1, g2⟩ => hred ⟨g1, g2, by omega, by omega⟩
        have go : IntMulOk 2 A ∧ DivOk (2 * A) := ⟨mulOk_l (by decide) (by decide), divOk_small (by omega) (by omega)⟩
        by_cases h3 : A = C
        · rw [if_pos h3, if_neg (fun z => h2 ⟨h3, z⟩)]
          refine ⟨go.1, go.2, turned_norm hB kB (then_step z1 kB z0 z1 ⟨_, hm ▸ meas_norm (C := C) hn ?_ ?_, rfl, _, _, _, _, _, _, _, _, _, _, _, rfl, ht.comp (to_norm A B C _), way_norm hb hp hw ?_ ?_, rfl⟩)⟩ <;> omega
        · rw [if_neg h3]
          refine ⟨go.1, go.2, turned_norm hB kB (then_step z1 kB z0 z1 ⟨_, hm ▸ meas_norm (C := C) hn ?_ ?_, rfl, _, _, _, _, _, _, _, _, _, _, _, rfl, ht.comp (to_norm A B C _), way_norm hb hp hw ?_ ?_, rfl⟩)⟩ <;> omega
/-- a turn to a least form is not great -/
theorem lst_small {a b c A B C p q r s : Int} (hb : Bd a b c) (hp : Pos a b c) (k : Lst a b c A B C p q r s) : (-4000000000 < p ∧ p < 4000000000) ∧ (-4000000000 < q ∧ q < 4000000000) ∧ (-4000000000 < r ∧ r < 4000000000) ∧ (-4000000000 < s ∧ s < 4000000000) ∧ A ≤ 2000000 ∧ C ≤ 3000000000000 := by
  have hD := k.to.disc
  have hA := k.red.pos
  have h3 := red_D k.red hA
  have h0 : 1 ≤ 4 * a * c - b * b := by have := hp.2; omega
  have hbb := sq_nn b
  have hcp := hp.c
  have hac : a * c ≤ 1000000 * 1000000 := Int.mul_le_mul hb.2.1 hb.2.2.2.2.2 (Int.le_of_lt hcp) (by decide)
  have e1 : 4 * a * c = 4 * (a * c) := by rw [Int.mul_assoc]
  have hA2 : A ≤ 2000000 := by
    have := abs_le_of_sq (x := A) (y := 2000000) (by decide) (by omega)
    omega
  have hBB := red_b2 k.red
  have hAA : A * A ≤ 2000000 * 2000000 := sq_le (by omega) hA2
  have hAC : A * C ≤ 2000000000000 := by
    have e2 : 4 * A * C = 4 * (A * C) := by rw [Int.mul_assoc]
    omega
  have hC0 : 0 < C := k.red.ps.c
  have hC : C ≤ 3000000000000 := by
    have : 1 * C ≤ A * C := Int.mul_le_mul_of_nonneg_right (by omega) (Int.le_of_lt hC0)
    omega
  have key : ∀ {x n m v : Int}, (4 * a * c - b * b) * (x * x) ≤ 4 * m * v → 0 ≤ m → m ≤ 1000000 → 0 ≤ v → v ≤ 3000000000000 → -4000000000 < x ∧ x < 4000000000 := by
    intro x n m v h1 h2 h3 h4 h5
    have g1 : 1 * (x * x) ≤ (4 * a * c - b * b) * (x * x) := Int.mul_le_mul_of_nonneg_right h0 (sq_nn x)
    have g2 : m * v ≤ 1000000 * 3000000000000 := Int.mul_le_mul h3 h5 h4 (by decide)
    have e2 : 4 * m * v = 4 * (m * v) := by rw [Int.mul_assoc]
    have := abs_lt_of_sq (x := x) (y := 4000000000) (by decide) (by omega)
    exact this
  have vA := k.to.eA
  have vC := k.to.eC
  have hA0 := hp.1
  refine ⟨key (n := 0) (m := c) (v := A) ?_ (by omega) hb.2.2.2.2.2 (by omega) (by omega), key (n := 0) (m := c) (v := C) ?_ (by omega) hb.2.2.2.2.2 (by omega) (by omega), key (n := 0) (m := a) (v := A) ?_ (by omega) hb.2.1 (by omega) (by omega), key (n := 0) (m := a) (v := C) ?_ (by omega) hb.2.1 (by omega) (by omega), hA2, hC⟩
  · rw [← vA]; exact val_x
  · rw [← vC]; exact val_x
  · rw [← vA]; exact val_y
  · rw [← vC]; exact val_y
theorem okf3 (a b c : Int) : okD (f3 a b c) = true := okD_tupI [a, b, c]
theorem okt4 (a b c d : Int) : okD (t4 a b c d) = true := okD_tupI [a, b, c, d]
theorem tn_tupI (t : Tn) : tnD t = tupI [t.1, t.2.1, t.2.2.1, t.2.2.2] := rfl
theorem tns_ok {ts : List Tn} : ∀ d ∈ ts.map tnD, ∃ x xs, d = tupI (x :: xs) := fun d hd => by
  obtain ⟨t, _, rfl⟩ := List.mem_map.mp hd
  exact ⟨_, _, tn_tupI t⟩
def ownA (a b c : Int) : List Tn := if b = 0 ∧ a = c then [(0, -1, 1, 0), (0, 1, -1, 0)] else []
def ownB (a b c : Int) : List Tn := if a = b ∧ b = c then [(0, -1, 1, 1), (0, 1, -1, -1), (1, 1, -1, 0), (-1, -1, 1, 0)] else []
def own0 : List Tn := [(1, 0, 0, 1), (-1, 0, 0, -1)]
theorem ownL_eq (a b c : Int) : ownL a b c = own0 ++ ownA a b c ++ ownB a b c := rfl
theorem rd_told_own (Z : Ad) (ds : List D) (μ : Mu) (Q : PQ) (X : XQ) (hl : ds.length = 1) (h : Stold_own.run ds μ Q X) : (wtold_own Z).run (bodyD Q X) (ev0 7 ds) μ := by
  obtain ⟨a, b, c, rfl, q⟩ := h
  unfold wtold_own
  refine seq_by (fun ρ μ' => ρ = [some (f3 a b c), some (.int a), some (.int b), some (.int c), none, none, none] ∧ μ' = μ) ?_ ?_
  · walk_at "sq"
  rintro ρ μ' ⟨rfl, rfl⟩
  refine seq_by (fun ρ μ1 => ∃ p, ρ = [some (f3 a b c), some (.int a), some (.int b), some (.int c), some (.ob p), none, none] ∧ μ' p = none ∧ Ext μ' μ1 ∧ μ1 p = some (.lst (own0.map tnD))) ?_ ?_
  · walk_at "sq"
    exact fun p hp => ⟨p, rfl, hp, (Ext.refl _).new hp, mset_same _ _ _⟩
  rintro ρ μ1 ⟨p, rfl, hp, e1, h1⟩
  refine seq_by (fun ρ μ2 => ρ = [some (f3 a b c), some (.int a), some (.int b), some (.int c), some (.ob p), none, none] ∧ Ext μ' μ2 ∧ μ2 p = some (.lst ((own0 ++ ownA a b c).map tnD))) ?_ ?_
  · refine if_by (decide (b = 0 ∧ a = c)) ?_ (fun hk => ?_) fun hk => ?_
    · walk_at "sq"
      by_cases g1 : b = 0
      · rw [if_pos g1]
        by_cases g2 : a = c
        · rw [decide_eq_true g2, decide_eq_true ⟨g1, g2⟩]
        · rw [decide_eq_false g2, decide_eq_false (fun z => g2 z.2)]
      · rw [if_neg g1, decide_eq_false (fun z => g1 z.1)]
    · have hk := of_decide_eq_true hk
      walk_at "sq"
      rw [h1]
      dsimp only
      intro p1 hp1
      rw [at_new h1 hp1]
      refine ⟨by show 2 + 2 ≤ sizeLine; exact small_size (by decide), (e1.new hp1).set hp, ?_⟩
      rw [ownA, if_pos hk]
      rfl
    · have hk := of_decide_eq_false hk
      walk_at "sq"
      exact ⟨e1, by rw [h1, ownA, if_neg hk]; rfl⟩
  rintro ρ μ2 ⟨rfl, e2, h2⟩
  refine seq_by (fun ρ μ3 => ρ[4]? = some (some (.ob p)) ∧ Ext μ' μ3 ∧ μ3 p = some (.lst ((own0 ++ ownA a b c ++ ownB a b c).map tnD))) ?_ ?_
  · refine if_by (decide (a = b ∧ b = c)) ?_ (fun hk => ?_) fun hk => ?_
    · walk_at "sq"
      by_cases g1 : a = b
      · rw [if_pos g1]
        by_cases g2 : b = c
        · rw [decide_eq_true g2, decide_eq_true ⟨g1, g2⟩]
        · rw [decide_eq_false g2, decide_eq_false (fun z => g2 z.2)]
      · rw [if_neg g1, decide_eq_false (fun z => g1 z.1)]
    · have hk := of_decide_eq_true hk
      walk_at "sq"
      refine forW_by (fun i ρ μ3 => (∃ e5 e6, ρ = [some (f3 a b c), some (.int a), some (.int b), some (.int c), some (.ob p), e5, e6]) ∧ Ext μ' μ3 ∧ μ3 p = some (.lst ((own0 ++ ownA a b c ++ (ownB a b c).take (2 * i)).map tnD))) (fun _ _ _ _ _ => trivial) ?_ ?_ ⟨⟨_, _, rfl⟩, e2, by rw [h2]; simp⟩
      · rintro i d ρ μ3 hi ⟨⟨e5, e6, rfl⟩, e3, h3⟩
        have hlen : (own0 ++ ownA a b c).length ≤ 4 := by
          rw [ownA]; split <;> decide
        have key : ∀ (x y z u : Int), d = t4 x y z u → (ownB a b c).take (2 * (i + 1)) = (ownB a b c).take (2 * i) ++ [(x, y, z, u), (-x, -y, -z, -u)] → i < 2 → (gN 5).run d [some (f3 a b c), some (.int a), some (.int b), some (.int c), some (.ob p), e5, e6] μ3 (fun ρ1 μ1 => (wExpr (wMt gExtend (wVar 4) [wLst [wVar 5, wB gTuple [wLc (wSeqI (wVar 5)) (CT.one 6) (wYes) (wNeg (wVar 6))]]])).run (PD.turn { (bodyD Q X) with nx := fun ρ μ3 => ρ[4]? = some (some (.ob p)) ∧ Ext μ' μ3 ∧ μ3 p = some (.lst ((own0 ++ ownA a b c ++ ownB a b c).map tnD)) } fun ρ2 μ2 => (∃ e5 e6, ρ2 = [some (f3 a b c), some (.int a), some (.int b), some (.int c), some (.ob p), e5, e6]) ∧ Ext μ' μ2 ∧ μ2 p = some (.lst ((own0 ++ ownA a b c ++ (ownB a b c).take (2 * (i + 1))).map tnD))) ρ1 μ1) (fun ρ => SubX X) := by
          rintro x y z u rfl hB hi2
          walk_at "sq"
          rw [h3]
          dsimp only
          refine ⟨small_size (by decide), lcG_map (fun d => match d with | .int n => .int (-n) | _ => .non) trivial (fun d hd => ?_) fun p1 hp1 => ?_⟩
          · simp only [List.mem_cons, List.not_mem_nil, or_false] at hd
            rcases hd with rfl | rfl | rfl | rfl <;> exact ⟨_, rfl, by walk_at "sq"⟩
          · walk_at "sq"
            intro p2 hp2
            obtain ⟨n12, hp2'⟩ := mset_free hp2
            rw [at_new (at_new h3 hp1) hp2]
            refine ⟨?_, ⟨_, _, rfl⟩, ((e3.new hp1).new hp2).set hp, ?_⟩
            · rw [List.length_map, List.length_append, List.length_take]
              exact small_size (by omega)
            · rw [hB, ← List.append_assoc]
              simp only [List.map_append]
              rfl
        have hB4 : ownB a b c = [(0, -1, 1, 1), (0, 1, -1, -1), (1, 1, -1, 0), (-1, -1, 1, 0)] := by rw [ownB, if_pos hk]
        match i, hi with
        | 0, hi => cases hi; exact key 0 (-1) 1 1 rfl (by rw [hB4]; rfl) (by decide)
        | 1, hi => cases hi; exact key 1 1 (-1) 0 rfl (by rw [hB4]; rfl) (by decide)
      · rintro ρ μ3 ⟨⟨e5, e6, rfl⟩, e3, h3⟩
        refine ⟨rfl, e3, ?_⟩
        rw [h3]
        have hB4 : ownB a b c = [(0, -1, 1, 1), (0, 1, -1, -1), (1, 1, -1, 0), (-1, -1, 1, 0)] := by rw [ownB, if_pos hk]
        rw [hB4]; rfl
    · have hk := of_decide_eq_false hk
      walk_at "sq"
      exact ⟨e2, by rw [h2, ownB, if_neg hk]; simp⟩
  rintro ρ μ3 ⟨hρ, e3, h3⟩
  walk_at "sq"
  rw [hρ]
  dsimp only
  walk_at "sq"
  rw [h3]
  dsimp only
  rw [← ownL_eq]
  exact ⟨sortOk_ints tns_ok, fun p2 hp2 => .new e3 hp2 q⟩
theorem own_small {a b c : Int} : ∀ t ∈ ownL a b c, (B64 t.1 ∧ B64 t.2.1 ∧ B64 t.2.2.1 ∧ B64 t.2.2.2) := by
  intro t ht
  have z0 : B64 0 := .mk (by decide) (by decide)
  have z1 : B64 1 := .mk (by decide) (by decide)
  have zm : B64 (-1) := .mk (by decide) (by decide)
  rw [mem_own] at ht
  rcases ht with rfl | rfl | ⟨_, rfl | rfl⟩ | ⟨_, rfl | rfl | rfl | rfl⟩ <;> exact ⟨by assumption, by assumption, by assumption, by assumption⟩
theorem rd_least_form (Z : Ad) (ds : List D) (μ : Mu) (Q : PQ) (X : XQ) (hl : ds.length = 1) (h : (Sleast_form Z).run ds μ Q X) : (wleast_form Z).run (bodyD Q X) (ev0 1 ds) μ := by
  obtain ⟨d, rfl, hs, hb, q⟩ := h
  unfold wleast_form
  walk_at "sq"
  refine look_above hs hb fun a b c e h1 h2 => ?_
  exact ⟨a, b, c, e ▸ rfl, h1, h2, fun A B C p q' r s k => .of (q a b c e h1 h2 _ _ _ _ _ _ _ k)⟩
theorem rd_look_at_two (Z : Ad) (ds : List D) (μ : Mu) (Q : PQ) (X : XQ) (hl : ds.length = 2) (h : (Slook_at_two Z).run ds μ Q X) : (wlook_at_two Z).run (bodyD Q X) (ev0 2 ds) μ := by
  obtain ⟨d, e, rfl, hs, hs2, hb, hb2, q⟩ := h
  unfold wlook_at_two
  walk_at "sq"
  refine look_above hs hb fun a b c e1 h1 h2 => ?_
  have g1 : Good d := ⟨a, b, c, e1, h1, h2⟩
  exact look_above hs2 (hb2 g1) fun a' b' c' e2 h3 h4 => .of (q g1 ⟨a', b', c', e2, h3, h4⟩)
theorem rd_same_above (Z : Ad) (ds : List D) (μ : Mu) (Q : PQ) (X : XQ) (hl : ds.length = 2) (h : (Ssame_above Z).run ds μ Q X) : (wsame_above Z).run (bodyD Q X) (ev0 4 ds) μ := by
  obtain ⟨d', e', rfl, hs, hs2, hb, hb2, q⟩ := h
  unfold wsame_above
  walk_at "sq"
  refine ⟨d', e', rfl, hs, hs2, hb.sub, fun g => (hb2 g).sub, ?_⟩
  rintro ⟨a, b, c, rfl, h1, h2⟩ ⟨d, e, f, rfl, h3, h4⟩
  have q := q a b c d e f rfl rfl h1 h2 h3 h4
  refine ⟨a, b, c, rfl, h1, h2, fun A B C p q' r s k => ⟨d, e, f, rfl, h3, h4, fun A' B' C' p' q'' r' s' k' => ?_⟩⟩
  walk_at "sq"
  have q := q _ _ _ _ _ _ _ _ _ _ _ _ _ _ k k'
  refine EqB_tup (okf3 A B C) (okf3 A' B' C') (fun e => ?_) fun e => ?_
  · walk_at "sq"
    injection e with e1 e; injection e with e2 e; injection e with e3 e
    injection e1 with e1; injection e2 with e2; injection e3 with e3
    obtain ⟨l1, l2, l3, l4, _⟩ := lst_small h1 h2 k
    refine ⟨_, ⟨p', q'', r', s', rfl, rfl⟩, _, ⟨p, q', r, s, s', -q'', -r', p', rfl, .inl ⟨.mk (by omega) (by omega), .mk (by omega) (by omega), .mk (by omega) (by omega), .mk (by omega) (by omega)⟩, rfl⟩, .of ?_⟩
    unfold sameD at q
    rw [if_pos ⟨e1, e2, e3⟩] at q
    exact q
  · walk_at "sq"
    unfold sameD at q
    rw [if_neg (fun ⟨g1, g2, g3⟩ => e (by rw [g1, g2, g3]))] at q
    exact .of q
theorem rd_own_turns (Z : Ad) (ds : List D) (μ : Mu) (Q : PQ) (X : XQ) (hl : ds.length = 1) (h : (Sown_turns Z).run ds μ Q X) : (wown_turns Z).run (bodyD Q X) (ev0 5 ds) μ := by
  obtain ⟨d, rfl, hs, hbd, q⟩ := h
  unfold wown_turns
  walk_at "sq"
  refine look_above hs hbd fun a b c e hb hp => ?_
  refine ⟨a, b, c, e ▸ rfl, hb, hp, fun A B C p q' r s k => ?_⟩
  replace q := q a b c e hb hp
  subst e
  walk_at "sq"
  refine ⟨_, ⟨p, q', r, s, rfl, rfl⟩, ?_⟩
  refine ⟨A, B, C, rfl, fun l hl => ?_⟩
  walk_at "sq"
  obtain ⟨us, pu, eu⟩ : ∃ us : List Tn, us.Perm (ownL A B C) ∧ sortT (ownL A B C) = us.map tnD := by
    refine ⟨(ownL A B C).mergeSort (fun t u => leD (tnD t) (tnD u)), List.mergeSort_perm _ _, ?_⟩
    exact (List.map_mergeSort (r := fun t u => leD (tnD t) (tnD u)) (s := leD) (f := tnD) fun _ _ _ _ => rfl).symm
  rw [eu]
  obtain ⟨l1, l2, l3, l4, _⟩ := lst_small hb hp k
  have hlen : us.length ≤ 8 := by
    rw [pu.length_eq, ownL]
    split <;> split <;> decide
  refine ⟨small_size (by rw [List.length_map]; omega), lcG_map (fun d => match d with | .tup [.int e, .int f, .int g, .int h] => tnD (thenT (thenT (p, q', r, s) (e, f, g, h)) (backT (p, q', r, s))) | _ => .non) (mset_same _ _ _) (fun d hd => ?_) fun p1 hp1 => ?_⟩
  · obtain ⟨t, ht, rfl⟩ := List.mem_map.mp hd
    obtain ⟨b1, b2, b3, b4⟩ := own_small t (pu.mem_iff.mp ht)
    refine ⟨_, rfl, ?_⟩
    walk_at "sq"
    refine ⟨_, ⟨p, q', r, s, t.1, t.2.1, t.2.2.1, t.2.2.2, rfl, .inr ⟨b1, b2, b3, b4⟩, rfl⟩, _, ⟨_, _, _, _, s, -q', -r, p, rfl, .inr ⟨.mk (by omega) (by omega), .mk (by omega) (by omega), .mk (by omega) (by omega), .mk (by omega) (by omega)⟩, rfl⟩, rfl, rfl⟩
  · have e : List.map (fun d => match d with | .tup [.int e, .int f, .int g, .int h] => tnD (thenT (thenT (p, q', r, s) (e, f, g, h)) (backT (p, q', r, s))) | _ => .non) (us.map tnD) = (viaT (p, q', r, s) us).map tnD := by
      unfold viaT
      rw [List.map_map, List.map_map]
      rfl
    rw [e]
    refine ⟨sortOk_ints tns_ok, fun p2 hp2 => ?_⟩
    exact .ext (q _ _ _ _ _ _ _ us k pu) (((Ext.refl _).new hl).new hp1 |>.new hp2)
end K9

/-! k09: the judges. -/
namespace K9
open PySem PySem.Spec PyProof.Rows L2 Sq
local macro_rules | `(tactic| walk_at "sq") => `(tactic| simp only [fList_tup, fList_ob, wBack_run, gStr_run, fStr_int, fStr_str, wUpper_run, wDct_run, gReprX_run, wIsX_run, wVal_run, wLam_run, wHeard_run, wRaise_run, wVar_run, wC_run, wOp_run, onBl_bl, gI_run, gAdd_int, gAdd_str, gAdd_tup, gMul_int, EqB_int, EqB_str, EqB_bl, gEq_run, gNe_run, wNeg_run, wNotV_run, wAndV_run, wOrV_run, wTB_run, wNotT_run, wAndT_run, wOrT_run, wIfE_run, runAll_nil, runAll_cons, wTup_run, wLst_run, gIx_tup, gIx_rls, gIx_str, gIx_ob, wB_run, fLen_tup, fLen_rls, fLen_str, fLen_ob, fAbs_int, fInt_int, fInt_bl, fTuple_tup, fTuple_ob, wIsi_run, wCall_run, wNext_run, wSeq_run, wBreak_run, wCont_run, wNever_run, wExpr_run, wRet_run, wRetN_run, wIf_run, gN_run, runGs_nil, runGs_cons, gT_run, gS_run, sIx_ob, wAsg_run, wSet_run, wPar_run, wPar3_run, wSeqI_run, fSeq_tup, fSeq_rls, fSeq_ob, wRng1_run, fRng1_int, wRng2_run, fRng2_int, wFor_run, wLc_run, wYes_run, onLst_ob, wMt_run, fAppend_run, fExtend_run, wAug_run, bodyD_nx, bodyD_rt, bodyD_ex, wNoP_run, onInt_int, wPart_run, fSl_tup, fSl_rls, fSl_str, fSl_ob, wSl_run, gIn_run, gNotIn_run, fSorted_ob, wLstRg1_run, wChainN_run, chainRun_last, chainRun_cons, spR_run,
  Sq.gSub, gFdiv, gMod, gLt, gLe, gGt, gGe, gAddI, gPowW, gLen_run, gAbs_run, gInt_run, gAll_run, gAny_run, gSum_run, gTuple_run, gList_run, gSorted_run, gRepr_run, gMax2_run, gMin2_run, gAppend_run, gExtend_run, CT.set_one, CT.set_many, CT.slots, setAll, wipeE, lcG_nil,
  List.getElem?_cons_zero, List.getElem?_cons_succ, List.getElem?_nil, Int.cast_ofNat_Int, List.set_cons_zero, List.set_cons_succ, List.length_cons, List.length_nil, ev0, List.map_cons, List.map_nil, List.cons_append, List.nil_append, List.replicate_succ, List.replicate_zero, Nat.reduceSub, Nat.reduceAdd, mset_same, decide_true, decide_false, if_true, if_false, ite_true, ite_false, Bool.false_eq_true, Bool.true_eq_false, reduceCtorEq, Bool.not_true, Bool.not_false, true_and, and_true, decide_eq_true_eq, Bool.not_eq_true', decide_eq_false_iff_not, ite_not, isA, atI_0, atI_1, atI_2, atI_3, atI_m4, ixN_0, ixN_1, ixN_30, ixN_31, ixN_32])
theorem in_23 {n : Int} {μ : Mu} {Q : Bool → Prop} (h : Q (decide (n = 2 ∨ n = 3))) : InP (.int n) (t2 2 3) μ Q := by
  refine ⟨.int n, [.int 2, .int 3], pure_dpy (d := .int n) rfl, .inr ⟨pure_dpy (d := t2 2 3) rfl, by decide⟩, rfl, ?_⟩
  have e : ([PyData.int 2, PyData.int 3].any fun z => PyData.eqv z (.int n)) = decide (n = 2 ∨ n = 3) := by
    rw [Bool.eq_iff_iff]
    simp only [List.any_cons, List.any_nil, PyData.eqv, Bool.or_false, Bool.or_eq_true, beq_iff_eq, decide_eq_true_eq]
    omega
  rw [e]; exact h
theorem toldB_len {xs : List D} (h : ¬((xs.length : Int) = 2 ∨ (xs.length : Int) = 3)) : toldB (.tup xs) = false := by
  match xs with
  | [] => rfl
  | d :: ds =>
    cases d <;> first | rfl | (refine decide_eq_false ?_; intro z; apply h; rw [List.length_cons]; omega)
theorem rd_is_told (Z : Ad) (ds : List D) (μ : Mu) (Q : PQ) (X : XQ) (hl : ds.length = 2) (h : Sis_told.run ds μ Q X) : (wis_told Z).run (bodyD Q X) (ev0 2 ds) μ := by
  obtain ⟨d, rfl, hs, q⟩ := h
  unfold wis_told
  rcases hs.self.tup with ⟨xs, rfl⟩ | ⟨e1, e2⟩
  · walk_at "sq"
    refine in_23 ?_
    by_cases hn : (xs.length : Int) = 2 ∨ (xs.length : Int) = 3
    · rw [decide_eq_true hn]
      match xs, hn with
      | x :: r, hn =>
        have hr : r.length = 1 ∨ r.length = 2 := by rw [List.length_cons] at hn; omega
        have e0 : atI (x :: r) 0 = some x := atI_nat (j := 0) rfl
        have px := (hs.parts _ rfl).2 x List.mem_cons_self
        obtain ⟨b, eb⟩ := px .str
        have : toldB (.tup (x :: r)) = b := by
          cases x <;> (try unfold isA at eb) <;> first
            | (dsimp only at eb; cases eb; done)
            | (cases eb; rfl)
            | (cases eb; exact decide_eq_true hr)
            | (dsimp only at eb; split at eb <;> first | (cases eb; rfl) | cases eb)
        rw [this] at q
        rw [if_pos rfl, e0]
        dsimp only
        unfold isA at eb
        cases x <;> first
          | (dsimp only at eb; cases eb; done)
          | (dsimp only at eb ⊢; cases eb; exact .of q)
          | (dsimp only at eb ⊢; rw [eb]; exact .of q)
      | [], hn => exact absurd hn (by decide)
    · rw [decide_eq_false hn]
      rw [toldB_len hn] at q
      exact .of q
  · simp only [wRet_run, wAndV_run, wIsi_run, wVar_run, ev0, List.map_cons, List.cons_append, List.getElem?_cons_zero, e2]
    walk_at "sq"
    have : toldB d = false := by cases d <;> first | rfl | cases e1
    rw [this] at q
    exact .of q
/-- a tuple of small data and three ints -/
theorem eq_f3 {xs : List D} {a b c : Int} {μ : Mu} {Q : Bool → Prop} (hp : ∀ x ∈ xs, Pu 2 x) (hl : xs.length ≤ 25) (h : ∀ k, PyData.eqvAll (encDs xs) [.int a, .int b, .int c] = k → Q k) : EqB (.tup xs) (f3 a b c) μ Q := by
  have s := (Pu.tup hp hl).sm
  exact (show EqP (.tup xs) (f3 a b c) μ Q from ⟨_, _, pure_dpy s.pure, pure_dpy (plain_pure (okD.p (okf3 a b c))), s.shaped (by decide), okD.shaped (okf3 a b c), h _ rfl⟩)
/-- what is as three ints: ints, or bools among them -/
theorem eqv_int {x : D} {a : Int} (h : PyData.eqv (Sq.encD x) (.int a) = true) (hp : Pu 2 x) : x = .int a ∨ ∃ b : Bool, x = .bl b ∧ a = if b then 1 else 0 := by
  cases x with
  | int i =>
    have h : (i == a) = true := h
    rw [beq_iff_eq] at h
    exact .inl (by rw [h])
  | bl b =>
    have h : ((if b then 1 else 0) == a) = true := h
    rw [beq_iff_eq] at h
    exact .inr ⟨b, rfl, h.symm⟩
  | non => cases h
  | str x => cases h
  | tup ds => exfalso; unfold Sq.encD PyData.eqv at h; cases h
  | ob a => exact absurd hp.pure (fun z => nomatch z)
  | rls ds => exact absurd hp.pure (fun z => nomatch z)
theorem eqv_three {xs : List D} {a b c : Int} (h : PyData.eqvAll (encDs xs) [.int a, .int b, .int c] = true) : ∃ x y z, xs = [x, y, z] ∧ PyData.eqv (Sq.encD x) (.int a) = true ∧ PyData.eqv (Sq.encD y) (.int b) = true ∧ PyData.eqv (Sq.encD z) (.int c) = true := by
  match xs, h with
  | [x, y, z], h =>
    simp only [encDs, PyData.eqvAll, Bool.and_eq_true] at h
    exact ⟨x, y, z, rfl, h.1, h.2.1, h.2.2.1⟩
  | [], h => simp [encDs, PyData.eqvAll] at h
  | [_], h => simp [encDs, PyData.eqvAll] at h
  | [_, _], h => simp [encDs, PyData.eqvAll] at h
  | _ :: _ :: _ :: _ :: _, h => simp [encDs, PyData.eqvAll] at h
theorem eqv_self {a b c : Int} : PyData.eqvAll (encDs [.int a, .int b, .int c]) [.int a, .int b, .int c] = true := by
  simp [encDs, Sq.encD, PyData.eqvAll, PyData.eqv]
theorem not_f3 {v : D} {a b c : Int} (h : isTup v = false) : v ≠ f3 a b c := fun z => by rw [z] at h; cases h
theorem rd_is_same_tuple (Z : Ad) (ds : List D) (μ : Mu) (Q : PQ) (X : XQ) (hl : ds.length = 2) (h : Sis_same_tuple.run ds μ Q X) : (wis_same_tuple Z).run (bodyD Q X) (ev0 3 ds) μ := by
  obtain ⟨v, a, b, c, rfl, ⟨p, hv⟩, q⟩ := h
  unfold wis_same_tuple
  rcases hv.seen.tup with ⟨xs, rfl⟩ | ⟨e1, e2⟩
  · obtain ⟨hn, hp⟩ := hv.parts
    walk_at "sq"
    refine eq_f3 hp hn fun k hk => ?_
    cases k with
    | false =>
      exact .of (q false ⟨(fun z => nomatch z), fun z => by cases z; rw [eqv_self] at hk; cases hk⟩)
    | true =>
      rw [if_pos rfl]
      obtain ⟨x, y, z, rfl, k1, k2, k3⟩ := eqv_three hk
      refine ⟨small_size (by simp), lcG_map (fun d => .bl (isBl d)) trivial (fun d hd => ?_) fun l hl => ?_⟩
      · refine ⟨_, rfl, ?_⟩
        have hpd := (hp d hd).pure
        cases d <;> first
          | (unfold pureD at hpd; cases hpd; done)
          | (walk_at "sq"; done)
          | (walk_at "sq"; rfl)
      · refine ⟨l, [x, y, z].map isBl, rfl, by rw [mset_same, List.map_map]; rfl, ?_⟩
        refine .skip hl (q _ ?_)
        have ex := eqv_int k1 (hp x (by simp))
        have ey := eqv_int k2 (hp y (by simp))
        have ez := eqv_int k3 (hp z (by simp))
        rcases ex with rfl | ⟨b1, rfl, _⟩
        · rcases ey with rfl | ⟨b2, rfl, _⟩
          · rcases ez with rfl | ⟨b3, rfl, _⟩
            · exact ⟨fun _ => rfl, fun _ => rfl⟩
            · exact ⟨(fun z => nomatch z), (fun z => nomatch z)⟩
          · exact ⟨fun z => by simp [isBl] at z, (fun z => nomatch z)⟩
        · exact ⟨fun z => by simp [isBl] at z, (fun z => nomatch z)⟩
  · simp only [wRet_run, wAndV_run, wIsi_run, wVar_run, ev0, List.map_cons, List.cons_append, List.getElem?_cons_zero, e2]
    walk_at "sq"
    exact .of (q false ⟨(fun z => nomatch z), fun z => absurd z (not_f3 e1)⟩)
theorem tnb_b {p q u v : Int} (h : Tnb p q u v) : B64 p ∧ B64 q ∧ B64 u ∧ B64 v := ⟨h.1.b, h.2.1.b, h.2.2.1.b, h.2.2.2.1.b⟩
theorem lst_tnb {a b c A B C p q r s : Int} (hb : Bd a b c) (hp : Pos a b c) (k : Lst a b c A B C p q r s) : Tnb p q r s := by
  obtain ⟨l1, l2, l3, l4, _⟩ := lst_small hb hp k
  exact ⟨⟨by omega, by omega⟩, ⟨by omega, by omega⟩, ⟨by omega, by omega⟩, ⟨by omega, by omega⟩, k.to.det⟩
theorem rd_shows_least (Z : Ad) (ds : List D) (μ : Mu) (Q : PQ) (X : XQ) (hl : ds.length = 2) (h : (Sshows_least Z).run ds μ Q X) : (wshows_least Z).run (bodyD Q X) (ev0 3 ds) μ := by
  obtain ⟨d, v, rfl, hs, hb, q⟩ := h
  unfold wshows_least
  walk_at "sq"
  refine look_above hs hb fun a b c e h1 h2 => ?_
  replace q := q a b c e h1 h2
  subst e
  obtain ⟨⟨p, hv⟩, q⟩ := q
  have no : (∀ A B C p q r s, v ≠ .tup [f3 A B C, t4 p q r s]) → Q (.bl false) μ := fun hn => q false ⟨(fun z => nomatch z), fun ⟨A, B, C, p, q, r, s, z, _⟩ => absurd z (hn A B C p q r s)⟩
  rcases hv.seen.tup with ⟨xs, rfl⟩ | ⟨e1, e2⟩
  · obtain ⟨hn, hp⟩ := hv.parts
    walk_at "sq"
    by_cases hx : (xs.length : Int) = 2
    · match xs, hx, hp, q with
      | [x, y], _, hp, q =>
        rw [if_pos (show (([x, y] : List D).length : Int) = 2 from rfl)]
        refine ⟨y, rfl, (hp y (by simp)).seen2, ?_⟩
        rcases Bool.eq_false_or_eq_true (tnB y) with ey | ey
        · rw [ey]
          obtain ⟨p', q', u, w, rfl, ht⟩ := tnB_inv ey
          obtain ⟨b1, b2, b3, b4⟩ := tnb_b ht
          have k3 := h1.2.2.1
          have k4 := h1.2.2.2.1
          walk_at "sq"
          refine ⟨_, ⟨a, b, c, p', q', u, w, rfl, .mk (by omega) (by omega), b1, b2, b3, b4, rfl⟩, ?_⟩
          refine ⟨x, _, _, _, rfl, ⟨p, hp x (by simp)⟩, fun k hk => ?_⟩
          cases k with
          | true =>
            obtain rfl := hk.mp rfl
            walk_at "sq"
            refine ⟨_, ⟨_, _, _, rfl, rfl⟩, .of (q _ ⟨fun z => ?_, fun ⟨A, B, C, p, q, r, s, z, k⟩ => ?_⟩)⟩
            · exact ⟨_, _, _, p', q', u, w, rfl, ⟨ht.2.2.2.2, rfl, rfl, rfl⟩, of_decide_eq_true z⟩
            · cases z; exact decide_eq_true k.red
          | false =>
            walk_at "sq"
            refine .of (q false ⟨fun z => (nomatch z), fun ⟨A, B, C, p, q, r, s, z, k⟩ => ?_⟩)
            cases z
            obtain ⟨_, rfl, rfl, rfl⟩ := k.to
            exact absurd (hk.mpr rfl) (fun z => nomatch z)
        · rw [ey]
          walk_at "sq"
          refine .of (q false ⟨fun z => (nomatch z), fun ⟨A, B, C, p, q, r, s, z, k⟩ => ?_⟩)
          cases z
          rw [tnB_t4 (lst_tnb h1 h2 k)] at ey
          cases ey
    · rw [if_neg hx]
      refine .of (no fun A B C p q r s z => ?_)
      cases z
      exact hx rfl
  · have fin : SubQ Q (.bl false) μ := .of (no fun A B C p q r s z => by subst z; cases e1)
    cases v <;> first
      | (cases e1; done)
      | (walk_at "sq"; exact fin)
      | exact fin
      | (unfold isA at e2; dsimp only at e2; cases e2; done)
      | (unfold isA at e2; dsimp only at e2 ⊢; rw [e2]; walk_at "sq"; exact fin)
end K9

/-! k09: the judges, on; all least ones of a size. -/
namespace K9
open PySem PySem.Spec PyProof.Rows L2 Sq
local macro_rules | `(tactic| walk_at "sq") => `(tactic| simp only [fList_tup, fList_ob, wBack_run, gStr_run, fStr_int, fStr_str, wUpper_run, wDct_run, gReprX_run, wIsX_run, wVal_run, wLam_run, wHeard_run, wRaise_run, wVar_run, wC_run, wOp_run, onBl_bl, gI_run, gAdd_int, gAdd_str, gAdd_tup, gMul_int, EqB_int, EqB_str, EqB_bl, gEq_run, gNe_run, wNeg_run, wNotV_run, wAndV_run, wOrV_run, wTB_run, wNotT_run, wAndT_run, wOrT_run, wIfE_run, runAll_nil, runAll_cons, wTup_run, wLst_run, gIx_tup, gIx_rls, gIx_str, gIx_ob, wB_run, fLen_tup, fLen_rls, fLen_str, fLen_ob, fAbs_int, fInt_int, fInt_bl, fTuple_tup, fTuple_ob, wIsi_run, wCall_run, wNext_run, wSeq_run, wBreak_run, wCont_run, wNever_run, wExpr_run, wRet_run, wRetN_run, wIf_run, gN_run, runGs_nil, runGs_cons, gT_run, gS_run, sIx_ob, wAsg_run, wSet_run, wPar_run, wPar3_run, wSeqI_run, fSeq_tup, fSeq_rls, fSeq_ob, wRng1_run, fRng1_int, wRng2_run, fRng2_int, wFor_run, wLc_run, wYes_run, onLst_ob, wMt_run, fAppend_run, fExtend_run, wAug_run, bodyD_nx, bodyD_rt, bodyD_ex, wNoP_run, onInt_int, wPart_run, fSl_tup, fSl_rls, fSl_str, fSl_ob, wSl_run, gIn_run, gNotIn_run, fSorted_ob, wLstRg1_run, wChainN_run, chainRun_last, chainRun_cons, spR_run,
  Sq.gSub, gFdiv, gMod, gLt, gLe, gGt, gGe, gAddI, gPowW, gLen_run, gAbs_run, gInt_run, gAll_run, gAny_run, gSum_run, gTuple_run, gList_run, gSorted_run, gRepr_run, gMax2_run, gMin2_run, gAppend_run, gExtend_run, CT.set_one, CT.set_many, CT.slots, setAll, wipeE, lcG_nil,
  List.getElem?_cons_zero, List.getElem?_cons_succ, List.getElem?_nil, Int.cast_ofNat_Int, List.set_cons_zero, List.set_cons_succ, List.length_cons, List.length_nil, ev0, List.map_cons, List.map_nil, List.cons_append, List.nil_append, List.replicate_succ, List.replicate_zero, Nat.reduceSub, Nat.reduceAdd, mset_same, decide_true, decide_false, if_true, if_false, ite_true, ite_false, Bool.false_eq_true, Bool.true_eq_false, reduceCtorEq, Bool.not_true, Bool.not_false, true_and, and_true, decide_eq_true_eq, Bool.not_eq_true', decide_eq_false_iff_not, ite_not, isA, atI_0, atI_1, atI_2, atI_3, atI_m4, ixN_0, ixN_1, ixN_30, ixN_31, ixN_32])
theorem seen_t {μ : Mu} {ns : List Int} (hl : ns.length ≤ 100000) : Seen2 μ (.tup (ns.map D.int)) := ⟨fun t => ⟨_, rfl⟩, fun ds e => by
  cases e
  refine ⟨by rw [List.length_map]; exact hl, fun x hx => ?_⟩
  obtain ⟨i, _, rfl⟩ := List.mem_map.mp hx
  exact fun t => ⟨_, rfl⟩⟩
theorem seen_f3 {μ : Mu} (a b c : Int) : Seen2 μ (f3 a b c) := seen_t (ns := [a, b, c]) (show 3 ≤ 100000 by decide)
theorem good_bad {Z : Ad} {X : XQ} {μ : Mu} {a b c : Int} (h1 : Bd a b c) (h2 : Pos a b c) : Bad Z X (f3 a b c) μ := ⟨(fun z => by rw [fmB_f3, decide_eq_true h1] at z; cases z), (fun a b c e _ h => by cases e; exact absurd h2 h)⟩
theorem toldB_inv {v : D} (h : toldB v = true) : (∃ x y, v = .tup [.str x, y]) ∨ ∃ x y z, v = .tup [.str x, y, z] := by
  cases v with
  | tup xs =>
    match xs, h with
    | .str x :: r, h =>
      have h : r.length = 1 ∨ r.length = 2 := of_decide_eq_true (p := r.length = 1 ∨ r.length = 2) h
      match r, h with
      | [y], _ => exact .inl ⟨x, y, rfl⟩
      | [y, z], _ => exact .inr ⟨x, y, z, rfl⟩
      | [], h => simp at h
      | _ :: _ :: _ :: _, h => simp at h
  | _ => cases h
/-- a turn from one bounded form to another one is bounded -/
theorem to_tnb {a b c d e f p q r s : Int} (hb : Bd a b c) (hp : Pos a b c) (hb2 : Bd d e f) (k : To a b c d e f p q r s) : Tnb p q r s := by
  have h0 : 1 ≤ 4 * a * c - b * b := by have := hp.2; omega
  have hcp := hp.c
  have hA0 := hp.1
  have key : ∀ {x m v : Int}, (4 * a * c - b * b) * (x * x) ≤ 4 * m * v → 0 ≤ m → m ≤ 1000000 → v ≤ 1000000 → Lt x := by
    intro x m v h1 h2 h3 h5
    have g1 : 1 * (x * x) ≤ (4 * a * c - b * b) * (x * x) := Int.mul_le_mul_of_nonneg_right h0 (sq_nn x)
    have g2 : m * v ≤ m * 1000000 := Int.mul_le_mul_of_nonneg_left h5 h2
    have e2 : 4 * m * v = 4 * (m * v) := by rw [Int.mul_assoc]
    have := abs_lt_of_sq (x := x) (y := 4000000000) (by decide) (by omega)
    exact ⟨by omega, by omega⟩
  have vA := k.eA
  have vC := k.eC
  obtain ⟨g1, g2, g3, g4, g5, g6⟩ := hb
  obtain ⟨k1, k2, k3, k4, k5, k6⟩ := hb2
  refine ⟨key (m := c) (v := d) ?_ (by omega) (by omega) (by omega), key (m := c) (v := f) ?_ (by omega) (by omega) (by omega), key (m := a) (v := d) ?_ (by omega) (by omega) (by omega), key (m := a) (v := f) ?_ (by omega) (by omega) (by omega), k.det⟩
  · rw [← vA]; exact val_x
  · rw [← vC]; exact val_x
  · rw [← vA]; exact val_y
  · rw [← vC]; exact val_y
theorem lst_uniq {a b c A B C A' B' C' : Int} (h : LstOf a b c A B C) (k : LstOf a b c A' B' C') : A = A' ∧ B = B' ∧ C = C' := by
  obtain ⟨_, _, _, _, h⟩ := h
  obtain ⟨_, _, _, _, k⟩ := k
  exact red_uniq (h.to.back.comp k.to) h.red k.red
theorem str_ne : (Str.ofString "least" = Str.ofString "turn") = False := eq_false (by decide)
theorem str_ne' : (Str.ofString "turn" = Str.ofString "least") = False := eq_false (by decide)
/-- what SameDue says of two -/
theorem due2 {a b c d e f : Int} {x : Str} {y : D} (h : SameDue a b c d e f (.tup [.str x, y])) : x = "turn" ∧ ∃ p q r s, y = t4 p q r s ∧ To a b c d e f p q r s := by
  rcases h with ⟨p, q, r, s, e1, k⟩ | ⟨A, B, C, A', B', C', e1, _⟩
  · cases e1; exact ⟨rfl, p, q, r, s, rfl, k⟩
  · cases e1
theorem due3 {a b c d e f : Int} {x : Str} {y z : D} (h : SameDue a b c d e f (.tup [.str x, y, z])) : x = "least" ∧ ∃ A B C A' B' C', y = f3 A B C ∧ z = f3 A' B' C' ∧ LstOf a b c A B C ∧ LstOf d e f A' B' C' ∧ ¬(A = A' ∧ B = B' ∧ C = C') := by
  rcases h with ⟨p, q, r, s, e1, k⟩ | ⟨A, B, C, A', B', C', e1, k⟩
  · cases e1
  · cases e1; exact ⟨rfl, A, B, C, A', B', C', rfl, rfl, k⟩
theorem due_told {a b c d e f : Int} {v : D} (h : SameDue a b c d e f v) : toldB v = true := by
  rcases h with ⟨p, q, r, s, e1, k⟩ | ⟨A, B, C, A', B', C', e1, k⟩ <;> subst e1 <;> rfl
theorem f3_inj {a b c d e f : Int} (h : ([.int a, .int b, .int c] : List D) = [.int d, .int e, .int f]) : a = d ∧ b = e ∧ c = f := by
  cases h; exact ⟨rfl, rfl, rfl⟩
theorem rd_shows_same_above (Z : Ad) (ds : List D) (μ : Mu) (Q : PQ) (X : XQ) (hl : ds.length = 3) (h : Sshows_same_above.run ds μ Q X) : (wshows_same_above Z).run (bodyD Q X) (ev0 5 ds) μ := by
  obtain ⟨a, b, c, d, e, f, v, rfl, h1, h2, h3, h4, ⟨p, hv⟩, q⟩ := h
  unfold wshows_same_above
  walk_at "sq"
  refine ⟨_, _, rfl, (seen_f3 a b c), (seen_f3 d e f), good_bad h1 h2, (fun _ => good_bad h3 h4), fun _ _ => ?_⟩
  refine ⟨v, rfl, hv.seen2, ?_⟩
  rcases Bool.eq_false_or_eq_true (toldB v) with ev | ev
  · rw [ev]
    rcases toldB_inv ev with ⟨x, y, rfl⟩ | ⟨x, y, z, rfl⟩
    · have hy := hv.parts.2 y (by simp)
      walk_at "sq"
      by_cases hx : x = Str.ofString "turn"
      · subst hx
        rw [if_pos rfl]
        refine ⟨y, rfl, hy.seen2, ?_⟩
        rcases Bool.eq_false_or_eq_true (tnB y) with ey | ey
        · rw [ey]
          obtain ⟨p', q', u, w, rfl, ht⟩ := tnB_inv ey
          obtain ⟨b1, b2, b3, b4⟩ := tnb_b ht
          have k3 := h1.2.2.1
          have k4 := h1.2.2.2.1
          walk_at "sq"
          refine ⟨_, ⟨a, b, c, p', q', u, w, rfl, .mk (by omega) (by omega), b1, b2, b3, b4, rfl⟩, ?_⟩
          refine EqB_tup (okf3 _ _ _) (okf3 d e f) (fun ee => ?_) fun ee => ?_
          · obtain ⟨e1, e2, e3⟩ := f3_inj ee
            exact .of (q true ⟨fun _ => .inl ⟨_, _, _, _, rfl, ht.2.2.2.2, e1, e2, e3⟩, fun _ => rfl⟩)
          · refine .of (q false ⟨(fun z => nomatch z), fun z => ?_⟩)
            obtain ⟨_, _, _, _, _, e1, k⟩ := due2 z
            cases e1
            exact absurd (by rw [k.eA, k.eB, k.eC]) ee
        · rw [ey]
          walk_at "sq"
          refine .of (q false ⟨(fun z => nomatch z), fun z => ?_⟩)
          obtain ⟨_, _, _, _, _, e1, k⟩ := due2 z
          rw [e1, tnB_t4 (to_tnb h1 h2 h3 k)] at ey
          cases ey
      · rw [if_neg hx]
        have fin : SubQ Q (.bl false) μ := .of (q false ⟨(fun z => nomatch z), fun z => absurd (due2 z).1 hx⟩)
        by_cases hx2 : x = Str.ofString "least"
        · rw [if_pos hx2, if_neg (by decide)]; exact fin
        · rw [if_neg hx2]; exact fin
    · have hy := hv.parts.2 y (by simp)
      have hz := hv.parts.2 z (by simp)
      walk_at "sq"
      by_cases hx2 : x = Str.ofString "least"
      · subst hx2
        rw [if_neg (fun z => by rw [str_ne] at z; exact z), if_pos rfl, if_pos (by decide)]
        refine ⟨a, b, c, rfl, h1, h2, fun A B C p1 q1 r1 s1 k1 => ?_⟩
        walk_at "sq"
        refine ⟨d, e, f, rfl, h3, h4, fun A' B' C' p2 q2 r2 s2 k2 => ?_⟩
        walk_at "sq"
        have l1 : LstOf a b c A B C := ⟨_, _, _, _, k1⟩
        have l2 : LstOf d e f A' B' C' := ⟨_, _, _, _, k2⟩
        have fin : ∀ k : Bool, (k = true ↔ y = f3 A B C ∧ z = f3 A' B' C' ∧ ¬(A = A' ∧ B = B' ∧ C = C')) → SubQ Q (.bl k) μ := fun k hk => .of (q k ⟨fun z => by
          obtain ⟨rfl, rfl, hn⟩ := hk.mp z
          exact .inr ⟨_, _, _, _, _, _, rfl, l1, l2, hn⟩, fun z => by
          obtain ⟨_, A1, B1, C1, A2, B2, C2, rfl, rfl, m1, m2, hn⟩ := due3 z
          obtain ⟨rfl, rfl, rfl⟩ := lst_uniq l1 m1
          obtain ⟨rfl, rfl, rfl⟩ := lst_uniq l2 m2
          exact hk.mpr ⟨rfl, rfl, hn⟩⟩)
        refine ⟨y, _, _, _, rfl, ⟨p, hy⟩, fun ky hky => ?_⟩
        cases ky with
        | false =>
          walk_at "sq"
          exact fin false ⟨(fun z => nomatch z), fun z => hky.mpr z.1⟩
        | true =>
          walk_at "sq"
          refine ⟨z, _, _, _, rfl, ⟨p, hz⟩, fun kz hkz => ?_⟩
          cases kz with
          | false =>
            walk_at "sq"
            exact fin false ⟨(fun z => nomatch z), fun z => hkz.mpr z.2.1⟩
          | true =>
            walk_at "sq"
            refine EqB_tup (okf3 _ _ _) (okf3 _ _ _) (fun ee => ?_) fun ee => ?_
            · exact fin false ⟨(fun z => nomatch z), fun z => absurd (f3_inj ee) z.2.2⟩
            · exact fin true ⟨fun _ => ⟨hky.mp rfl, hkz.mp rfl, fun ⟨g1, g2, g3⟩ => ee (by rw [g1, g2, g3])⟩, fun _ => rfl⟩
      · have fin : SubQ Q (.bl false) μ := .of (q false ⟨(fun z => nomatch z), fun z => absurd (due3 z).1 hx2⟩)
        by_cases hx : x = Str.ofString "turn"
        · rw [if_pos hx, if_neg (by decide), if_neg hx2]; exact fin
        · rw [if_neg hx, if_neg hx2]; exact fin
  · rw [ev]
    walk_at "sq"
    refine .of (q false ⟨(fun z => nomatch z), fun z => ?_⟩)
    rw [due_told z] at ev
    cases ev
instance (w : Int) : Decidable (Sz w) := by unfold Sz; infer_instance
theorem rd_look_at_size_below (Z : Ad) (ds : List D) (μ : Mu) (Q : PQ) (X : XQ) (hl : ds.length = 1) (h : (Slook_at_size_below Z).run ds μ Q X) : (wlook_at_size_below Z).run (bodyD Q X) (ev0 1 ds) μ := by
  obtain ⟨d, rfl, hs, q1, q2⟩ := h
  unfold wlook_at_size_below
  walk_at "sq"
  refine ⟨d, _, _, rfl, hs, ?_⟩
  have bad : (∀ w, d = .int w → Sz w → 1 < w.fmod 4) → SubX X Z.cBadSize d μ := fun z => ⟨μ, fun _ _ z => z, q2 z⟩
  rcases hs.cases with ⟨i, rfl⟩ | ⟨b, rfl⟩ | ⟨e1, e2, e3, e4⟩
  · have e : inB (-100000) (-2 - 1) (.int i) = decide (Sz i) := rfl
    rw [e]
    by_cases hz : Sz i
    · rw [decide_eq_true hz]
      walk_at "sq"
      by_cases hm : 1 < i.fmod 4
      · rw [if_pos hm]
        exact ⟨by decide, bad fun w e _ => by cases e; exact hm⟩
      · rw [if_neg hm]
        exact ⟨by decide, .of (q1 i rfl hz (by omega))⟩
    · rw [decide_eq_false hz]
      walk_at "sq"
      exact bad fun w e h => by cases e; exact absurd h hz
  · walk_at "sq"
    exact bad fun w e => by cases e
  · rw [notI_in e1]
    walk_at "sq"
    exact bad fun w e => by subst e; cases e1
theorem look_size {Z : Ad} {d : D} {μ : Mu} {Q : PQ} {X : XQ} (hs : Seen μ d) (h1 : ∀ w, d = .int w → Sz w → w.fmod 4 ≤ 1 → Q .non μ) (h2 : (∀ w, d = .int w → Sz w → 1 < w.fmod 4) → X Z.cBadSize d μ) : (Slook_at_size_below Z).run [d] μ Q (SubX X) :=
  ⟨d, rfl, hs, h1, fun z => ⟨μ, fun _ _ z => z, h2 z⟩⟩
end K9

/-! k09: all least ones of a size. -/
namespace K9
open PySem PySem.Spec PyProof.Rows L2 Sq
local macro_rules | `(tactic| walk_at "sq") => `(tactic| simp only [fList_tup, fList_ob, wBack_run, gStr_run, fStr_int, fStr_str, wUpper_run, wDct_run, gReprX_run, wIsX_run, wVal_run, wLam_run, wHeard_run, wRaise_run, wVar_run, wC_run, wOp_run, onBl_bl, gI_run, gAdd_int, gAdd_str, gAdd_tup, gMul_int, EqB_int, EqB_str, EqB_bl, gEq_run, gNe_run, wNeg_run, wNotV_run, wAndV_run, wOrV_run, wTB_run, wNotT_run, wAndT_run, wOrT_run, wIfE_run, runAll_nil, runAll_cons, wTup_run, wLst_run, gIx_tup, gIx_rls, gIx_str, gIx_ob, wB_run, fLen_tup, fLen_rls, fLen_str, fLen_ob, fAbs_int, fInt_int, fInt_bl, fTuple_tup, fTuple_ob, wIsi_run, wCall_run, wNext_run, wSeq_run, wBreak_run, wCont_run, wNever_run, wExpr_run, wRet_run, wRetN_run, wIf_run, gN_run, runGs_nil, runGs_cons, gT_run, gS_run, sIx_ob, wAsg_run, wSet_run, wPar_run, wPar3_run, wSeqI_run, fSeq_tup, fSeq_rls, fSeq_ob, wRng1_run, fRng1_int, wRng2_run, fRng2_int, wFor_run, wLc_run, wYes_run, onLst_ob, wMt_run, fAppend_run, fExtend_run, wAug_run, bodyD_nx, bodyD_rt, bodyD_ex, wNoP_run, onInt_int, wPart_run, fSl_tup, fSl_rls, fSl_str, fSl_ob, wSl_run, gIn_run, gNotIn_run, fSorted_ob, wLstRg1_run, wChainN_run, chainRun_last, chainRun_cons, spR_run,
  Sq.gSub, gFdiv, gMod, gLt, gLe, gGt, gGe, gAddI, gPowW, gLen_run, gAbs_run, gInt_run, gAll_run, gAny_run, gSum_run, gTuple_run, gList_run, gSorted_run, gRepr_run, gMax2_run, gMin2_run, gAppend_run, gExtend_run, CT.set_one, CT.set_many, CT.slots, setAll, wipeE, lcG_nil,
  List.getElem?_cons_zero, List.getElem?_cons_succ, List.getElem?_nil, Int.cast_ofNat_Int, List.set_cons_zero, List.set_cons_succ, List.length_cons, List.length_nil, ev0, List.map_cons, List.map_nil, List.cons_append, List.nil_append, List.replicate_succ, List.replicate_zero, Nat.reduceSub, Nat.reduceAdd, mset_same, decide_true, decide_false, if_true, if_false, ite_true, ite_false, Bool.false_eq_true, Bool.true_eq_false, reduceCtorEq, Bool.not_true, Bool.not_false, true_and, and_true, decide_eq_true_eq, Bool.not_eq_true', decide_eq_false_iff_not, ite_not, isA, atI_0, atI_1, atI_2, atI_3, atI_m4, ixN_0, ixN_1, ixN_30, ixN_31, ixN_32])
theorem lstL_succ (w : Int) (n : Nat) : lstL w (n + 1) = lstL w n ++ lstRow w (((n : Nat) : Int) + 1) (2 * (n + 1)) := by
  unfold lstL
  rw [List.range_succ, List.flatMap_append, List.flatMap_cons, List.flatMap_nil, List.append_nil]
theorem lstRow_succ (w a : Int) (i : Nat) : lstRow w a (i + 1) = lstRow w a i ++ rowAt w a i := by
  unfold lstRow
  rw [List.range_succ, List.flatMap_append, List.flatMap_cons, List.flatMap_nil, List.append_nil]
theorem row_empty {w a : Int} (ha : 0 < a) (h : -w < 3 * a * a) (i : Nat) : rowAt w a i = [] := by
  unfold rowAt
  refine if_neg fun ⟨h1, h2⟩ => ?_
  generalize -a + 1 + (i : Int) = b at h1 h2
  have e := Int.mul_fdiv_add_fmod (b * b - w) (4 * a)
  have := red_D h2 ha
  have e3 : 3 * a * a = 3 * (a * a) := by rw [Int.mul_assoc]
  omega
theorem rows_empty {w a : Int} (ha : 0 < a) (h : -w < 3 * a * a) (n : Nat) : lstRow w a n = [] := by
  induction n with
  | zero => rfl
  | succ n ih => rw [lstRow_succ, ih, row_empty ha h]; rfl
theorem far_of {w : Int} {n : Nat} (h : -w < 3 * (((n : Nat) : Int) + 1) * (((n : Nat) : Int) + 1)) : Far w n := by
  intro m hm
  obtain ⟨k, rfl⟩ : ∃ k, m = n + k := ⟨m - n, by omega⟩
  induction k with
  | zero => rfl
  | succ k ih =>
    rw [← Nat.add_assoc, lstL_succ, ih (by omega), rows_empty (by omega), List.append_nil]
    have g : (((n : Nat) : Int) + 1) * (((n : Nat) : Int) + 1) ≤ (((n + k : Nat) : Int) + 1) * (((n + k : Nat) : Int) + 1) := Int.mul_le_mul (by omega) (by omega) (by omega) (by omega)
    have e1 : 3 * (((n : Nat) : Int) + 1) * (((n : Nat) : Int) + 1) = 3 * ((((n : Nat) : Int) + 1) * (((n : Nat) : Int) + 1)) := by rw [Int.mul_assoc]
    have e2 : 3 * (((n + k : Nat) : Int) + 1) * (((n + k : Nat) : Int) + 1) = 3 * ((((n + k : Nat) : Int) + 1) * (((n + k : Nat) : Int) + 1)) := by rw [Int.mul_assoc]
    omega
theorem Far.eq {w : Int} {n m : Nat} (h : Far w n) (k : Far w m) : lstL w n = lstL w m := by
  rcases Nat.le_total n m with g | g
  · exact (h m g).symm
  · exact k n g
theorem rowAt_len (w a : Int) (i : Nat) : (rowAt w a i).length ≤ 1 := by unfold rowAt; split <;> simp
theorem lstRow_len (w a : Int) (n : Nat) : (lstRow w a n).length ≤ n := by
  induction n with
  | zero => exact Nat.le_refl _
  | succ n ih => rw [lstRow_succ, List.length_append]; have := rowAt_len w a n; omega
theorem lstL_len (w : Int) (n : Nat) : (lstL w n).length ≤ (n + 1) * (n + 1) := by
  induction n with
  | zero => exact Nat.zero_le _
  | succ n ih =>
    rw [lstL_succ, List.length_append]
    have := lstRow_len w (((n : Nat) : Int) + 1) (2 * (n + 1))
    have e : (n + 1 + 1) * (n + 1 + 1) = (n + 1) * (n + 1) + 2 * (n + 1) + 1 := by grind
    omega
theorem fD_tupI : ∀ {L : List (Int × Int × Int)}, ∀ d ∈ L.map fD, ∃ x xs, d = tupI (x :: xs) := fun d hd => by
  obtain ⟨t, _, rfl⟩ := List.mem_map.mp hd
  exact ⟨t.1, [t.2.1, t.2.2], rfl⟩
theorem rd_told_all_least (Z : Ad) (ds : List D) (μ : Mu) (Q : PQ) (X : XQ) (hl : ds.length = 1) (h : Stold_all_least.run ds μ Q X) : (wtold_all_least Z).run (bodyD Q X) (ev0 5 ds) μ := by
  obtain ⟨w, rfl, hw, q⟩ := h
  unfold wtold_all_least
  refine seq_by (fun ρ μ1 => ∃ l, ρ = [some (.int w), some (.ob l), some (.int 1), none, none] ∧ μ l = none ∧ Ext μ μ1 ∧ μ1 l = some (.lst ((lstL w 0).map fD))) ?_ ?_
  · walk_at "sq"
    exact fun l hl => ⟨l, rfl, hl, (Ext.refl _).new hl, mset_same _ _ _⟩
  rintro ρ μ1 ⟨l, rfl, hl, e1, k1⟩
  refine seq_by (fun ρ μ2 => ∃ n : Nat, ∃ e2 e3 e4, ρ = [some (.int w), some (.ob l), e2, e3, e4] ∧ Ext μ μ2 ∧ μ2 l = some (.lst ((lstL w n).map fD)) ∧ -w < 3 * (((n : Nat) : Int) + 1) * (((n : Nat) : Int) + 1)) ?_ ?_
  · refine wWhile_by (fun m ρ μ2 => ∃ n : Nat, ∃ e3 e4, ρ = [some (.int w), some (.ob l), some (.int (((n : Nat) : Int) + 1)), e3, e4] ∧ Ext μ μ2 ∧ μ2 l = some (.lst ((lstL w n).map fD)) ∧ n ≤ 400 ∧ m = 400 - n) _ ⟨0, none, none, rfl, e1, k1, by decide, rfl⟩ ?_
    rintro m ρ μ2 ⟨n, e3, e4, rfl, e2, k2, hn, rfl⟩
    walk_at "sq"
    refine ⟨mulOk_l (by decide) (by decide), mulOk_l (by omega) (by omega), mulOk_l (by omega) (by omega), ?_⟩
    have hw1 := hw.1
    by_cases hc : 2 * (((n : Nat) : Int) + 1) * (((n : Nat) : Int) + 1) + (((n : Nat) : Int) + 1) * (((n : Nat) : Int) + 1) ≤ -w
    · rw [if_pos hc]
      have hlen := lstL_len w n
      have hlen2 : (n + 1) * (n + 1) ≤ 401 * 401 := Nat.mul_le_mul (by omega) (by omega)
      have hn2 : n < 400 := by
        rcases Nat.lt_or_ge n 400 with g | g
        · exact g
        · exfalso
          have g1 : (401 : Int) * 401 ≤ (((n : Nat) : Int) + 1) * (((n : Nat) : Int) + 1) := Int.mul_le_mul (by omega) (by omega) (by omega) (by omega)
          have e1 : 2 * (((n : Nat) : Int) + 1) * (((n : Nat) : Int) + 1) = 2 * ((((n : Nat) : Int) + 1) * (((n : Nat) : Int) + 1)) := by rw [Int.mul_assoc]
          omega
      refine ⟨⟨by omega, by omega, by omega, by omega⟩, ?_⟩
      have eN : (((n : Nat) : Int) + 1 + 1 - (-(((n : Nat) : Int) + 1) + 1)).toNat = 2 * (n + 1) := by omega
      rw [eN]
      refine forW_by (fun i ρ μ3 => ∃ e3 e4, ρ = [some (.int w), some (.ob l), some (.int (((n : Nat) : Int) + 1)), e3, e4] ∧ Ext μ μ3 ∧ μ3 l = some (.lst ((lstL w n ++ lstRow w (((n : Nat) : Int) + 1) i).map fD))) (fun _ _ _ _ _ => trivial) ?_ ?_ ⟨_, _, rfl, e2, by rw [k2]; simp [lstRow]⟩
      · rintro i d ρ μ3 hi ⟨e3, e4, rfl, x3, k3⟩
        obtain ⟨hi2, rfl⟩ := rangeD_get hi
        have hrl := lstRow_len w (((n : Nat) : Int) + 1) i
        rw [lstRow_succ]
        walk_at "sq"
        have b1 : IntMulOk (-(((n : Nat) : Int) + 1) + 1 + ((i : Nat) : Int)) (-(((n : Nat) : Int) + 1) + 1 + ((i : Nat) : Int)) := mulOk_l (by omega) (by omega)
        have b2 : IntMulOk 4 (((n : Nat) : Int) + 1) := mulOk_l (by decide) (by decide)
        refine ⟨b1, b2, by omega, ?_⟩
        by_cases h1 : ((-(((n : Nat) : Int) + 1) + 1 + ((i : Nat) : Int)) * (-(((n : Nat) : Int) + 1) + 1 + ((i : Nat) : Int)) - w).fmod (4 * (((n : Nat) : Int) + 1)) = 0
        · rw [if_pos h1]
          refine ⟨b2, divOk_small (by omega) (by omega), _, ⟨_, _, _, rfl, rfl⟩, ?_⟩
          by_cases h2 : Red (((n : Nat) : Int) + 1) (-(((n : Nat) : Int) + 1) + 1 + ((i : Nat) : Int)) (((-(((n : Nat) : Int) + 1) + 1 + ((i : Nat) : Int)) * (-(((n : Nat) : Int) + 1) + 1 + ((i : Nat) : Int)) - w).fdiv (4 * (((n : Nat) : Int) + 1)))
          · rw [decide_eq_true h2]
            walk_at "sq"
            rw [k3]
            dsimp only
            refine ⟨b2, divOk_small (by omega) (by omega), ?_, _, _, rfl, x3.set hl, ?_⟩
            · rw [List.length_map, List.length_append]
              exact Nat.lt_of_lt_of_le (show _ < 16000000 by omega) sizeBig
            · have er : rowAt w (((n : Nat) : Int) + 1) i = [(((n : Nat) : Int) + 1, -(((n : Nat) : Int) + 1) + 1 + ((i : Nat) : Int), ((-(((n : Nat) : Int) + 1) + 1 + ((i : Nat) : Int)) * (-(((n : Nat) : Int) + 1) + 1 + ((i : Nat) : Int)) - w).fdiv (4 * (((n : Nat) : Int) + 1)))] := if_pos ⟨h1, h2⟩
              rw [er, ← List.append_assoc, List.map_append (l₂ := [_])]
              rfl
          · rw [decide_eq_false h2]
            walk_at "sq"
            have er : rowAt w (((n : Nat) : Int) + 1) i = [] := if_neg fun z => h2 z.2
            exact ⟨_, _, rfl, x3, by rw [k3, er, List.append_nil]⟩
        · rw [if_neg h1]
          have er : rowAt w (((n : Nat) : Int) + 1) i = [] := if_neg fun z => h1 z.1
          exact ⟨_, _, rfl, x3, by rw [k3, er, List.append_nil]⟩
      · rintro ρ μ3 ⟨e3, e4, rfl, x3, k3⟩
        rw [rangeD_len] at k3
        walk_at "sq"
        exact ⟨_, by omega, n + 1, e3, e4, rfl, x3, by rw [lstL_succ]; exact k3, by omega, rfl⟩
    · rw [if_neg hc]
      have e1 : 3 * (((n : Nat) : Int) + 1) * (((n : Nat) : Int) + 1) = 3 * ((((n : Nat) : Int) + 1) * (((n : Nat) : Int) + 1)) := by rw [Int.mul_assoc]
      have e2' : 2 * (((n : Nat) : Int) + 1) * (((n : Nat) : Int) + 1) = 2 * ((((n : Nat) : Int) + 1) * (((n : Nat) : Int) + 1)) := by rw [Int.mul_assoc]
      exact ⟨n, _, _, _, rfl, e2, k2, by omega⟩
  rintro ρ μ2 ⟨n, e2, e3, e4, rfl, x2, k2, hf⟩
  walk_at "sq"
  rw [k2]
  exact ⟨sortOk_ints fD_tupI, fun p hp => .new x2 hp fun p hp => q n p (far_of hf) hp⟩
theorem far_len {w : Int} {n : Nat} (hw : Sz w) (h : Far w n) : (lstL w n).length ≤ 160801 := by
  have f : Far w 400 := far_of (by have := hw.1; omega)
  rw [h.eq f]
  exact lstL_len w 400
theorem sortF_len (L : List (Int × Int × Int)) : (sortF L).length = L.length := by unfold sortF; rw [List.length_mergeSort, List.length_map]
theorem sortF_mem {L : List (Int × Int × Int)} {d : D} (h : d ∈ sortF L) : ∃ f ∈ L, d = fD f := by
  unfold sortF at h
  rw [List.mem_mergeSort] at h
  obtain ⟨f, hf, rfl⟩ := List.mem_map.mp h
  exact ⟨f, hf, rfl⟩
theorem filter_fm (f : D → Bool) (L : List D) : L.filterMap (fun d => if f d = true then some d else none) = L.filter f := by
  induction L with
  | nil => rfl
  | cons d L ih =>
    rw [List.filterMap_cons, List.filter_cons]
    cases h : f d with
    | true => simp [ih]
    | false => simp [ih]
theorem rd_told_plain_least (Z : Ad) (ds : List D) (μ : Mu) (Q : PQ) (X : XQ) (hl : ds.length = 1) (h : Stold_plain_least.run ds μ Q X) : (wtold_plain_least Z).run (bodyD Q X) (ev0 2 ds) μ := by
  obtain ⟨w, rfl, hw, q⟩ := h
  unfold wtold_plain_least
  walk_at "sq"
  refine ⟨w, rfl, hw, fun n p hf hp => ?_⟩
  walk_at "sq"
  refine ⟨small_size (by rw [sortF_len]; have := far_len hw hf; omega), lcG_pure (fun d => if fOne d = true then some d else none) (mset_same _ _ _) (fun d hd => ?_) ?_⟩
  · obtain ⟨⟨a, b, c⟩, _, rfl⟩ := sortF_mem hd
    refine ⟨_, rfl, ?_⟩
    have e : fOne (fD (a, b, c)) = decide (gcd3 a b c = 1) := rfl
    rw [e]
    walk_at "sq"
    refine ⟨_, ⟨a, b, rfl, rfl⟩, ?_⟩
    walk_at "sq"
    refine ⟨_, ⟨_, c, rfl, rfl⟩, ?_⟩
    walk_at "sq"
    have eg : (((a.gcd b : Int)).gcd c : Int) = gcd3 a b c := rfl
    rw [eg]
    by_cases hg : gcd3 a b c = 1
    · rw [if_pos hg, if_pos hg]
    · rw [if_neg hg, if_neg hg]
  · rw [filter_fm, List.nil_append]
    exact fun p2 hp2 => .new ((Ext.refl _).new hp) hp2 fun p3 hp3 => q n p3 hf hp3
theorem rd_all_least (Z : Ad) (ds : List D) (μ : Mu) (Q : PQ) (X : XQ) (hl : ds.length = 1) (h : (Sall_least Z).run ds μ Q X) : (wall_least Z).run (bodyD Q X) (ev0 1 ds) μ := by
  obtain ⟨d, rfl, hs, q1, q2⟩ := h
  unfold wall_least
  walk_at "sq"
  refine look_size hs (fun w e h1 h2 => ?_) q2
  refine ⟨w, e ▸ rfl, h1, fun n p hf hp => ?_⟩
  walk_at "sq"
  exact .skip hp (q1 w e h1 h2 n hf)
theorem rd_plain_least (Z : Ad) (ds : List D) (μ : Mu) (Q : PQ) (X : XQ) (hl : ds.length = 1) (h : (Splain_least Z).run ds μ Q X) : (wplain_least Z).run (bodyD Q X) (ev0 1 ds) μ := by
  obtain ⟨d, rfl, hs, q1, q2⟩ := h
  unfold wplain_least
  walk_at "sq"
  refine look_size hs (fun w e h1 h2 => ?_) q2
  refine ⟨w, e ▸ rfl, h1, fun n p hf hp => ?_⟩
  walk_at "sq"
  exact .skip hp (q1 w e h1 h2 n hf)
end K9

/-! k09: the harness. -/
namespace K9
open PySem PySem.Spec PyProof.Rows L2 Sq
local macro_rules | `(tactic| walk_at "sq") => `(tactic| simp only [fList_tup, fList_ob, wBack_run, gStr_run, fStr_int, fStr_str, wUpper_run, wDct_run, gReprX_run, wIsX_run, wVal_run, wLam_run, wHeard_run, wRaise_run, wVar_run, wC_run, wOp_run, onBl_bl, gI_run, gAdd_int, gAdd_str, gAdd_tup, gMul_int, EqB_int, EqB_str, EqB_bl, gEq_run, gNe_run, wNeg_run, wNotV_run, wAndV_run, wOrV_run, wTB_run, wNotT_run, wAndT_run, wOrT_run, wIfE_run, runAll_nil, runAll_cons, wTup_run, wLst_run, gIx_tup, gIx_rls, gIx_str, gIx_ob, wB_run, fLen_tup, fLen_rls, fLen_str, fLen_ob, fAbs_int, fInt_int, fInt_bl, fTuple_tup, fTuple_ob, wIsi_run, wCall_run, wNext_run, wSeq_run, wBreak_run, wCont_run, wNever_run, wExpr_run, wRet_run, wRetN_run, wIf_run, gN_run, runGs_nil, runGs_cons, gT_run, gS_run, sIx_ob, wAsg_run, wSet_run, wPar_run, wPar3_run, wSeqI_run, fSeq_tup, fSeq_rls, fSeq_ob, wRng1_run, fRng1_int, wRng2_run, fRng2_int, wFor_run, wLc_run, wYes_run, onLst_ob, wMt_run, fAppend_run, fExtend_run, wAug_run, bodyD_nx, bodyD_rt, bodyD_ex, wNoP_run, onInt_int, wPart_run, fSl_tup, fSl_rls, fSl_str, fSl_ob, wSl_run, gIn_run, gNotIn_run, fSorted_ob, wLstRg1_run, wChainN_run, chainRun_last, chainRun_cons, spR_run,
  Sq.gSub, gFdiv, gMod, gLt, gLe, gGt, gGe, gAddI, gPowW, gLen_run, gAbs_run, gInt_run, gAll_run, gAny_run, gSum_run, gTuple_run, gList_run, gSorted_run, gRepr_run, gMax2_run, gMin2_run, gAppend_run, gExtend_run, CT.set_one, CT.set_many, CT.slots, setAll, wipeE, lcG_nil,
  List.getElem?_cons_zero, List.getElem?_cons_succ, List.getElem?_nil, Int.cast_ofNat_Int, List.set_cons_zero, List.set_cons_succ, List.length_cons, List.length_nil, ev0, List.map_cons, List.map_nil, List.cons_append, List.nil_append, List.replicate_succ, List.replicate_zero, Nat.reduceSub, Nat.reduceAdd, mset_same, decide_true, decide_false, if_true, if_false, ite_true, ite_false, Bool.false_eq_true, Bool.true_eq_false, reduceCtorEq, Bool.not_true, Bool.not_false, true_and, and_true, decide_eq_true_eq, Bool.not_eq_true', decide_eq_false_iff_not, ite_not, isA, atI_0, atI_1, atI_2, atI_3, atI_m4, ixN_0, ixN_1, ixN_30, ixN_31, ixN_32])
theorem fmod_bd {x y : Int} (hy : 0 < y) : 0 ≤ x.fmod y ∧ x.fmod y < y := by
  rw [Int.fmod_eq_emod_of_nonneg _ (Int.le_of_lt hy)]
  exact ⟨Int.emod_nonneg x (Int.ne_of_gt hy), Int.emod_lt_of_pos x hy⟩
theorem fdiv_nn {x y : Int} (hx : 0 ≤ x) (hy : 0 < y) : 0 ≤ x.fdiv y := by
  rw [Int.fdiv_eq_ediv_of_nonneg _ (Int.le_of_lt hy)]
  exact Int.ediv_nonneg hx (Int.le_of_lt hy)
theorem bigM : (0 : Int) < (10 ^ Int.toNat 60) ^ Int.toNat 5 := by decide +kernel
theorem pw1 : CPowW 10 60 := ⟨by decide, 4, by decide, by decide⟩
theorem pw2 : CPowW (10 ^ Int.toNat 60) 5 := ⟨by decide, 200, by decide +kernel, by decide⟩
theorem pw3 : CPowW 10 18 := ⟨by decide, 4, by decide, by decide⟩
theorem sum_take1 {ns : List Int} : ∃ ms : List Int, Sq.cutD (ns.map D.int) none (some 1) = ms.map D.int := by
  unfold Sq.cutD
  rw [← List.map_drop, ← List.map_take]
  exact ⟨_, rfl⟩
theorem rd_law_pot (Z : Ad) (ds : List D) (μ : Mu) (Q : PQ) (X : XQ) (hl : ds.length = 2) (h : S_law_pot.run ds μ Q X) : (w_law_pot Z).run (bodyD Q X) (ev0 5 ds) μ := by
  obtain ⟨ns, k, rfl, hn, h0, h1, q⟩ := h
  unfold w_law_pot
  refine seq_by (fun ρ μ1 => ∃ v : Int, ρ = [some (.rls (ns.map D.int)), some (.int k), some (.int v), none, none] ∧ Ext μ μ1) ?_ ?_
  · walk_at "sq"
    rw [List.length_map]
    by_cases hk : k < (ns.length : Int)
    · rw [if_pos hk]
      obtain ⟨j, rfl⟩ := Int.eq_ofNat_of_zero_le h0
      have hj : j < ns.length := by omega
      rw [atI_nat (x := D.int ns[j]) (by rw [List.getElem?_map, List.getElem?_eq_getElem hj]; rfl)]
      exact ⟨_, rfl, Ext.refl _⟩
    · rw [if_neg hk]
      intro p hp
      obtain ⟨ms, e⟩ := sum_take1 (ns := ns)
      refine ⟨p, ms, rfl, by rw [mset_same, e], ?_⟩
      walk_at "sq"
      exact ⟨by decide, mulOk_l (by decide) (by decide), _, rfl, (Ext.refl _).new hp⟩
  rintro ρ μ1 ⟨v, rfl, e1⟩
  walk_at "sq"
  generalize hM : ((10 : Int) ^ Int.toNat 60) ^ Int.toNat 5 = M
  have hM0 : 0 < M := hM ▸ bigM
  generalize (if v < 0 then -v else v) = w
  have f1 := fmod_bd (x := w) hM0
  have f2 := fmod_bd (x := v.fmod 2305843009213693951 * 68213 + 11057 * k * k + 3019) (y := 2305843009213693921) (by decide)
  refine ⟨pw1, pw2, Int.ne_of_gt hM0, pw3, mulOk_r (by split <;> decide) (by split <;> decide), by decide, mulOk_r (by decide) (by decide), mulOk_l (by decide) (by decide), mulOk_r (by omega) (by omega), by decide, fun p hp => .new e1 hp fun p hp => q p _ hp (PotTo.of ?_ f2.1 (by omega) (by decide) (by decide))⟩
  split
  · rw [Int.mul_one]; exact f1.1
  · rw [Int.mul_zero]; exact Int.le_refl 0
theorem rd_law_take (Z : Ad) (ds : List D) (μ : Mu) (Q : PQ) (X : XQ) (hl : ds.length = 2) (h : S_law_take.run ds μ Q X) : (w_law_take Z).run (bodyD Q X) (ev0 5 ds) μ := by
  obtain ⟨p, u, n, rfl, ⟨x, y, z, hp, hx, hy, hy2, hz, hz2⟩, hn, h0, h1, q⟩ := h
  unfold w_law_take
  have hdu : DivOk u := divOk_small h0 (by omega)
  refine seq_by (fun ρ μ1 => ρ = [some (.ob p), some (.int u), none, none, none] ∧ μ1 = μ) ?_ ?_
  · walk_at "sq"
    rw [hp]
    unfold potL
    walk_at "sq"
    by_cases hx0 : 0 < x
    · rw [if_pos hx0, hp]
      unfold potL
      walk_at "sq"
      refine ⟨Int.ne_of_gt h0, ?_⟩
      rw [hp]
      unfold potL
      walk_at "sq"
      refine ⟨hdu, ?_⟩
      rw [hp]
      unfold potL
      walk_at "sq"
      have f1 := fmod_bd (x := x) h0
      exact .of (q _ _ f1.1 f1.2 (PotTo.of (x := x.fdiv u) (y := y) (z := z) (fdiv_nn hx h0) hy hy2 hz (by omega)))
    · rw [if_neg hx0]
      trivial
  rintro ρ μ1 ⟨rfl, rfl⟩
  refine seq_by (fun ρ μ2 => ρ = [some (.ob p), some (.int u), none, none, none] ∧ μ2 = potS μ1 p x y (z + 1)) ?_ ?_
  · walk_at "sq"
    rw [hp]
    unfold potL
    walk_at "sq"
    rw [hp]
    unfold potL
    walk_at "sq"
    rfl
  rintro ρ μ2 ⟨rfl, rfl⟩
  have hpot : potS μ1 p x y (z + 1) p = some (.lst (potL x y (z + 1))) := mset_same _ _ _
  generalize hS : potS μ1 p x y (z + 1) = μ2
  rw [hS] at hpot
  refine seq_by (fun ρ μ3 => ∃ pr : Int, ρ = [some (.ob p), some (.int u), none, some (.int pr), none] ∧ 0 < pr ∧ pr ≤ 2147483647 ∧ Ext μ2 μ3) ?_ ?_
  · walk_at "sq"
    intro l hl
    rw [at_new hpot hl]
    unfold potL
    walk_at "sq"
    refine ⟨by decide, ?_⟩
    have f5 := fmod_bd (x := z + 1) (y := 5) (by decide)
    have hc : (z + 1).fmod 5 = 0 ∨ (z + 1).fmod 5 = 1 ∨ (z + 1).fmod 5 = 2 ∨ (z + 1).fmod 5 = 3 ∨ (z + 1).fmod 5 = 4 := by omega
    have e := (Ext.refl μ2).new (o := .lst [.int 2147483647, .int 2147483629, .int 2147483587, .int 2147483579, .int 2147483563]) hl
    rcases hc with hc | hc | hc | hc | hc <;> rw [hc] <;> exact ⟨_, rfl, by decide, by decide, e⟩
  rintro ρ μ3 ⟨pr, rfl, hpr, hpr2, e3⟩
  have hpot3 := e3 p _ hpot
  refine seq_by (fun ρ μ4 => ∃ b : Int, ρ = [some (.ob p), some (.int u), none, some (.int pr), some (.int b)] ∧ 0 ≤ b ∧ b < pr ∧ μ4 = μ3) ?_ ?_
  · walk_at "sq"
    rw [hpot3]
    unfold potL
    walk_at "sq"
    rw [hpot3]
    unfold potL
    walk_at "sq"
    have b1 := fmod_bd (x := (y + 97213 * (z + 1) * (z + 1) + 3671) ^ Int.toNat 3) hpr
    have zz : (z + 1) * (z + 1) ≤ 1000001 * 1000001 := Int.mul_le_mul (by omega) (by omega) (by omega) (by decide)
    have e : 97213 * (z + 1) * (z + 1) = 97213 * ((z + 1) * (z + 1)) := by rw [Int.mul_assoc]
    have zn : 0 ≤ (z + 1) * (z + 1) := Int.mul_nonneg (by omega) (by omega)
    have pw : CPowW (y + 97213 * (z + 1) * (z + 1) + 3671) 3 := ⟨by decide, 64, by omega, by decide⟩
    exact ⟨mulOk_l (by decide) (by decide), mulOk_r (by omega) (by omega), pw, Int.ne_of_gt hpr, _, rfl, b1.1, b1.2⟩
  rintro ρ μ4 ⟨b, rfl, hb, hb2, rfl⟩
  refine seq_by (fun ρ μ5 => ∃ b : Int, ρ = [some (.ob p), some (.int u), none, some (.int pr), some (.int b)] ∧ μ5 = μ4) ?_ ?_
  · walk_at "sq"
    rw [hpot3]
    unfold potL
    walk_at "sq"
    exact ⟨by decide, mulOk_l (by decide) (by decide), mulOk_l (by omega) (by omega), by decide, _, rfl⟩
  rintro ρ μ5 ⟨b', rfl, rfl⟩
  walk_at "sq"
  have f6 := fmod_bd (x := b'.fdiv 233) h0
  refine ⟨divOk_small (by decide) (by decide), Int.ne_of_gt h0, .ext (q _ _ f6.1 f6.2 ?_) e3⟩
  rw [← hS]
  exact PotTo.of hx hy hy2 (by omega) (by omega)
theorem rd_law_of (Z : Ad) (ds : List D) (μ : Mu) (Q : PQ) (X : XQ) (hl : ds.length = 2) (h : S_law_of.run ds μ Q X) : (w_law_of Z).run (bodyD Q X) (ev0 2 ds) μ := by
  obtain ⟨p, l, n, xs, rfl, hp, hn, hx, hne, hlen, hlp, q⟩ := h
  unfold w_law_of
  walk_at "sq"
  rw [hx]
  dsimp only
  have h0 : 0 < xs.length := List.length_pos_iff.mpr hne
  refine ⟨p, xs.length, n, rfl, hp, hn, by omega, by omega, fun d μ' d0 d1 k => ?_⟩
  walk_at "sq"
  rw [k.2 l hlp, hx]
  dsimp only
  obtain ⟨j, rfl⟩ := Int.eq_ofNat_of_zero_le d0
  have hj : j < xs.length := by omega
  rw [atI_nat (x := xs[j]) (by simp [hj])]
  exact .of (q _ _ (List.getElem_mem hj) k)
theorem rd_law_cells (Z : Ad) (ds : List D) (μ : Mu) (Q : PQ) (X : XQ) (hl : ds.length = 2) (h : S_law_cells.run ds μ Q X) : (w_law_cells Z).run (bodyD Q X) (ev0 2 ds) μ := by
  obtain ⟨ns, m, rfl, hn, h0, h1, q⟩ := h
  unfold w_law_cells
  walk_at "sq"
  rw [List.length_map]
  refine ⟨.of_le (by decide) ?_ (by decide) ?_, fun p hp => ?_⟩
  · split <;> split <;> omega
  · split <;> split <;> omega
  · refine .of (q p _ hp ?_)
    split <;> split <;> omega
theorem rd_law_root (Z : Ad) (ds : List D) (μ : Mu) (Q : PQ) (X : XQ) (hl : ds.length = 1) (h : S_law_root.run ds μ Q X) : (w_law_root Z).run (bodyD Q X) (ev0 4 ds) μ := by
  obtain ⟨n, rfl, h0, h1, q⟩ := h
  unfold w_law_root
  refine seq_by (fun ρ μ1 => ρ = [some (.int n), some (.int 0), some (.int 1), none] ∧ μ1 = μ) (by walk_at "sq") ?_
  rintro ρ μ1 ⟨rfl, rfl⟩
  refine seq_by (fun ρ μ2 => ∃ hi : Int, ρ = [some (.int n), some (.int 0), some (.int hi), none] ∧ 1 ≤ hi ∧ n < hi * hi ∧ hi ≤ 4 * n + 4 ∧ μ2 = μ1) ?_ ?_
  · refine wWhile_by (fun m ρ μ2 => ∃ hi : Int, ρ = [some (.int n), some (.int 0), some (.int hi), none] ∧ 1 ≤ hi ∧ hi * hi ≤ 4 * n + 4 ∧ m = (4 * n + 5 - hi).toNat ∧ μ2 = μ1) _ ⟨1, rfl, by decide, by omega, rfl, rfl⟩ ?_
    rintro m ρ μ2 ⟨hi, rfl, g1, g2, rfl, rfl⟩
    have g3 := le_sq (x := hi) (by omega)
    walk_at "sq"
    refine ⟨mulOk_l (by omega) (by omega), ?_⟩
    by_cases g4 : hi * hi ≤ n
    · rw [if_pos g4]
      have e : hi * 2 * (hi * 2) = 4 * (hi * hi) := by grind
      exact ⟨mulOk_r (by decide) (by decide), _, by omega, _, rfl, by omega, by omega, rfl⟩
    · rw [if_neg g4]
      exact ⟨hi, rfl, g1, by omega, by omega⟩
  rintro ρ μ2 ⟨hi, rfl, g1, g2, g3, rfl⟩
  refine seq_by (fun ρ μ3 => ∃ lo hi : Int, ∃ e, ρ = [some (.int n), some (.int lo), some (.int hi), e] ∧ 0 ≤ lo ∧ lo * lo ≤ n ∧ n < (lo + 1) * (lo + 1) ∧ μ3 = μ2) ?_ ?_
  · refine wWhile_by (fun m ρ μ3 => ∃ lo hi : Int, ∃ e, ρ = [some (.int n), some (.int lo), some (.int hi), e] ∧ 0 ≤ lo ∧ lo < hi ∧ lo * lo ≤ n ∧ n < hi * hi ∧ hi ≤ 4 * n + 4 ∧ m = (hi - lo).toNat ∧ μ3 = μ2) _ ⟨0, hi, none, rfl, by decide, by omega, by simpa using h0, g2, g3, rfl, rfl⟩ ?_
    rintro m ρ μ3 ⟨lo, hi, e, rfl, k1, k2, k3, k4, k5, rfl, rfl⟩
    walk_at "sq"
    by_cases k6 : 1 < hi - lo
    · rw [if_pos k6]
      obtain ⟨f1, f2⟩ := fdiv_bd (x := lo + hi) (y := 2) (by decide)
      refine ⟨divOk_small (by decide) (by decide), mulOk_l (by omega) (by omega), ?_⟩
      by_cases k7 : (lo + hi).fdiv 2 * (lo + hi).fdiv 2 ≤ n
      · rw [if_pos k7]
        exact ⟨_, by omega, _, _, _, rfl, by omega, by omega, k7, k4, k5, rfl⟩
      · rw [if_neg k7]
        exact ⟨_, by omega, _, _, _, rfl, k1, by omega, k3, by omega, by omega, rfl⟩
    · rw [if_neg k6]
      obtain rfl : hi = lo + 1 := by omega
      exact ⟨lo, _, e, rfl, k1, k3, k4⟩
  rintro ρ μ3 ⟨lo, hi, e, rfl, k1, k2, k3, rfl⟩
  walk_at "sq"
  exact .of (q lo ⟨k1, k2, k3⟩)
theorem rd_law_is_int (Z : Ad) (ds : List D) (μ : Mu) (Q : PQ) (X : XQ) (hl : ds.length = 3) (h : S_law_is_int.run ds μ Q X) : (w_law_is_int Z).run (bodyD Q X) (ev0 3 ds) μ := rd_is_int Z ds μ Q X hl h
theorem rd_law_is_bool (Z : Ad) (ds : List D) (μ : Mu) (Q : PQ) (X : XQ) (hl : ds.length = 2) (h : S_law_is_bool.run ds μ Q X) : (w_law_is_bool Z).run (bodyD Q X) (ev0 2 ds) μ := by
  obtain ⟨r, ⟨a, b, rfl, rfl⟩, q⟩ := h
  unfold w_law_is_bool
  walk_at "sq"
  exact .of q
theorem rd_law_content (Z : Ad) (ds : List D) (μ : Mu) (Q : PQ) (X : XQ) (hl : ds.length = 1) (h : S_law_content.run ds μ Q X) : (w_law_content Z).run (bodyD Q X) (ev0 1 ds) μ := by
  obtain ⟨r, ⟨a, b, c, rfl, rfl⟩, q⟩ := h
  unfold w_law_content
  walk_at "sq"
  exact ⟨_, ⟨a, b, rfl, rfl⟩, _, ⟨_, c, rfl, rfl⟩, .of q⟩
theorem rd_law_is_form (Z : Ad) (ds : List D) (μ : Mu) (Q : PQ) (X : XQ) (hl : ds.length = 1) (h : S_law_is_form.run ds μ Q X) : (w_law_is_form Z).run (bodyD Q X) (ev0 2 ds) μ := by
  obtain ⟨d, rfl, hs, q⟩ := h
  unfold w_law_is_form
  have pw6 : CPowW 10 6 := ⟨by decide, 4, by decide, by decide⟩
  refine seq_by (fun ρ μ1 => ∃ xs, d = .tup xs ∧ xs.length = 3 ∧ ρ = [some d, none] ∧ μ1 = μ) ?_ ?_
  · rcases hs.self.tup with ⟨xs, rfl⟩ | ⟨e1, e2⟩
    · walk_at "sq"
      by_cases h3 : (xs.length : Int) = 3
      · rw [if_pos h3]
        simp only [D.tup.injEq, exists_eq_left']
        omega
      · rw [if_neg h3]
        have e : fmB (.tup xs) = false := by
          show (xs.all isI && (decide ((xs.length : Int) = 3) && _)) = false
          rw [decide_eq_false h3, Bool.false_and, Bool.and_false]
        rw [e] at q
        exact .of q
    · rw [show fmB d = false from notTup_ints e1] at q
      simp only [wIf_run, wOrT_run, wNotT_run, wTB_run, wIsi_run, wVar_run, ev0, List.map_cons, List.cons_append, List.getElem?_cons_zero, e2]
      walk_at "sq"
      exact .of q
  rintro ρ μ1 ⟨xs, rfl, h3, rfl, rfl⟩
  obtain ⟨hn, hp⟩ := hs.parts xs rfl
  walk_at "sq"
  refine ⟨small_size (by omega), lcG_map (fun d => .bl (inB (-1000000) 1000000 d)) trivial (fun d hd => ?_) fun p hp => ?_⟩
  · exact ⟨_, rfl, by
      walk_at "sq"
      exact ⟨pw6, pw6, d, _, _, rfl, hp d hd, rfl, rfl⟩⟩
  · refine ⟨p, xs.map (inB (-1000000) 1000000), rfl, by rw [mset_same, List.map_map]; rfl, ?_⟩
    rw [all_dec]
    have e : fmB (.tup xs) = xs.all (inB (-1000000) 1000000) := by
      rw [Bool.eq_iff_iff]
      constructor
      · intro h
        obtain ⟨a, b, c, e, hb⟩ := fmB_inv h
        cases e
        have k : ∀ {i : Int}, -1000000 ≤ i → i ≤ 1000000 → inB (-1000000) 1000000 (.int i) = true := fun a b => decide_eq_true ⟨a, b⟩
        simp only [List.all_cons, List.all_nil, k hb.1 hb.2.1, k hb.2.2.1 hb.2.2.2.1, k hb.2.2.2.2.1 hb.2.2.2.2.2]; rfl
      · intro h
        match xs, h3, h with
        | [x, y, z], _, h =>
          simp only [List.all_cons, List.all_nil, Bool.and_true, Bool.and_eq_true] at h
          have k : ∀ {d : D}, inB (-1000000) 1000000 d = true → ∃ i, d = .int i ∧ -1000000 ≤ i ∧ i ≤ 1000000 := fun {d} h => by
            cases d with
            | int i => exact ⟨i, rfl, of_decide_eq_true (p := -1000000 ≤ i ∧ i ≤ 1000000) h⟩
            | _ => cases h
          obtain ⟨a, rfl, a1, a2⟩ := k h.1
          obtain ⟨b, rfl, b1, b2⟩ := k h.2.1
          obtain ⟨c, rfl, c1, c2⟩ := k h.2.2
          rw [fmB_f3]
          exact decide_eq_true ⟨a1, a2, b1, b2, c1, c2⟩
    rw [e] at q
    exact .skip hp q
theorem rd_law_is_turn (Z : Ad) (ds : List D) (μ : Mu) (Q : PQ) (X : XQ) (hl : ds.length = 1) (h : S_law_is_turn.run ds μ Q X) : (w_law_is_turn Z).run (bodyD Q X) (ev0 2 ds) μ := by
  obtain ⟨d, rfl, hs, hw, q⟩ := h
  unfold w_law_is_turn
  refine seq_by (fun ρ μ1 => ∃ xs, d = .tup xs ∧ xs.length = 4 ∧ ρ = [some d, none] ∧ μ1 = μ) ?_ ?_
  · rcases hs.self.tup with ⟨xs, rfl⟩ | ⟨e1, e2⟩
    · walk_at "sq"
      by_cases h3 : (xs.length : Int) = 4
      · rw [if_pos h3]
        simp only [D.tup.injEq, exists_eq_left']
        omega
      · rw [if_neg h3]
        have e : detB (.tup xs) = false := by
          match xs, h3 with
          | [], _ => rfl
          | [_], _ => cases ‹D› <;> rfl
          | [x, y], _ => cases x <;> first | rfl | (cases y <;> rfl)
          | [x, y, z], _ => cases x <;> first | rfl | (cases y <;> first | rfl | (cases z <;> rfl))
          | [_, _, _, _], h3 => exact absurd rfl h3
          | x :: y :: z :: u :: v :: r, _ => cases x <;> first | rfl | (cases y <;> first | rfl | (cases z <;> first | rfl | (cases u <;> rfl)))
        rw [e] at q
        exact .of q
    · have e : detB d = false := by cases d <;> first | rfl | cases e1
      rw [e] at q
      simp only [wIf_run, wOrT_run, wNotT_run, wTB_run, wIsi_run, wVar_run, ev0, List.map_cons, List.cons_append, List.getElem?_cons_zero, e2]
      walk_at "sq"
      exact .of q
  rintro ρ μ1 ⟨xs, rfl, h3, rfl, rfl⟩
  obtain ⟨hn, hp⟩ := hs.parts xs rfl
  refine seq_by (fun ρ μ2 => xs.all isI = true ∧ ρ = [some (.tup xs), none] ∧ Ext μ1 μ2) ?_ ?_
  · walk_at "sq"
    refine ⟨small_size (by omega), lcG_map (fun d => .bl (isI d)) trivial (fun d hd => ?_) fun p hp => ?_⟩
    · refine ⟨_, rfl, ?_⟩
      rcases (hp d hd).cases with ⟨i, rfl⟩ | ⟨b, rfl⟩ | ⟨e1, e2, e3, e4⟩
      · walk_at "sq"
        rfl
      · walk_at "sq"
        rfl
      · rw [e1]
        simp only [wAndV_run, wIsi_run, wVar_run, List.set_cons_succ, List.set_cons_zero, wipeE, CT.slots, List.getElem?_cons_succ, List.getElem?_cons_zero, e3]
        walk_at "sq"
    · refine ⟨p, xs.map isI, rfl, by rw [mset_same, List.map_map]; rfl, ?_⟩
      rw [all_dec]
      rcases Bool.eq_false_or_eq_true (xs.all isI) with ha | ha
      · rw [ha]
        walk_at "sq"
        exact (Ext.refl _).new hp
      · rw [ha]
        walk_at "sq"
        have e : detB (.tup xs) = false := by
          rw [Bool.eq_false_iff]
          intro z
          unfold detB at z
          split at z
          · rename_i e
            cases e
            cases ha
          · cases z
        rw [e] at q
        exact .skip hp q
  rintro ρ μ2 ⟨ha, rfl, he⟩
  obtain ⟨ns, rfl⟩ := wholes_ints ha
  rw [List.length_map] at h3
  match ns, h3, hw, q with
  | [a, b, c, d], _, hw, q =>
    have w := hw [a, b, c, d] rfl
    walk_at "sq"
    refine ⟨(w a (by simp)).mul (w d (by simp)), (w b (by simp)).mul (w c (by simp)), .ext ?_ he⟩
    exact q
theorem rd_law_then (Z : Ad) (ds : List D) (μ : Mu) (Q : PQ) (X : XQ) (hl : ds.length = 2) (h : S_law_then.run ds μ Q X) : (w_law_then Z).run (bodyD Q X) (ev0 10 ds) μ := by
  obtain ⟨r, ⟨p, q', u, v, e, f, g, k, rfl, hb, rfl⟩, q⟩ := h
  unfold w_law_then
  walk_at "sq"
  rcases hb with ⟨h1, h2, h3, h4⟩ | ⟨h1, h2, h3, h4⟩
  · exact ⟨h1.l, h2.l, h1.l, h2.l, h3.l, h4.l, h3.l, h4.l, .of q⟩
  · exact ⟨h1.r, h3.r, h2.r, h4.r, h1.r, h3.r, h2.r, h4.r, .of q⟩
theorem rd_law_is_least (Z : Ad) (ds : List D) (μ : Mu) (Q : PQ) (X : XQ) (hl : ds.length = 1) (h : S_law_is_least.run ds μ Q X) : (w_law_is_least Z).run (bodyD Q X) (ev0 4 ds) μ := by
  obtain ⟨r, ⟨a, b, c, rfl, rfl⟩, q⟩ := h
  unfold w_law_is_least
  walk_at "sq"
  exact dec_red (P := fun z => SubQ Q (.bl z) μ) (.of q)
theorem rd_law_turn_drawn (Z : Ad) (ds : List D) (μ : Mu) (Q : PQ) (X : XQ) (hl : ds.length = 1) (h : S_law_turn_drawn.run ds μ Q X) : (w_law_turn_drawn Z).run (bodyD Q X) (ev0 4 ds) μ := by
  obtain ⟨p, n, rfl, hp, hn, q⟩ := h
  unfold w_law_turn_drawn
  refine seq_by (fun ρ μ1 => ρ = [some (.ob p), some (t4 1 0 0 1), none, none] ∧ μ1 = μ) (by walk_at "sq") ?_
  rintro ρ μ1 ⟨rfl, rfl⟩
  refine seq_by (fun ρ μ2 => ∃ a b c d e2 e3, ρ = [some (.ob p), some (t4 a b c d), e2, e3] ∧ a * d - b * c = 1 ∧ Tinyb a ∧ Tinyb b ∧ Tinyb c ∧ Tinyb d ∧ PotX (n + 20) μ1 μ2 p) ?_ ?_
  · walk_at "sq"
    refine ⟨p, 6, n, rfl, hp, by omega, by decide, by decide, fun k μ2 k0 k1 hk => ?_⟩
    walk_at "sq"
    refine ⟨by omega, by omega, ?_⟩
    refine forW_by (fun i ρ μ3 => ∃ a b c d e2 e3, ρ = [some (.ob p), some (t4 a b c d), e2, e3] ∧ a * d - b * c = 1 ∧ (-(4 ^ i) ≤ a ∧ a ≤ 4 ^ i) ∧ (-(4 ^ i) ≤ b ∧ b ≤ 4 ^ i) ∧ (-(4 ^ i) ≤ c ∧ c ≤ 4 ^ i) ∧ (-(4 ^ i) ≤ d ∧ d ≤ 4 ^ i) ∧ PotX (n + 1 + 2 * i) μ1 μ3 p) (fun _ _ _ _ _ => trivial) ?_ ?_ ⟨1, 0, 0, 1, _, _, rfl, by decide, by decide, by decide, by decide, by decide, hk.x⟩
    · rintro i x ρ μ3 hi ⟨a, b, c, d, e2, e3, rfl, hdet, ha, hb, hc, hd, hx⟩
      obtain ⟨hi2, rfl⟩ := rangeD_get hi
      have hi5 : i < 5 := by omega
      walk_at "sq"
      refine ⟨p, 7, n + 1 + 2 * i, rfl, hx.1, by omega, by decide, by decide, fun st μ4 s0 s1 hst => ?_⟩
      walk_at "sq"
      intro l hl
      have hx4 := hx.step hst
      refine ⟨p, l, n + 1 + 2 * i + 1, _, rfl, hx4.1.new hl, by omega, mset_same _ _ _, by simp, by simp, fun z => hx4.1.ne hl z.symm, fun u μ5 hu hto => ?_⟩
      have hx5 := (hx4.new hl).step hto
      have p4 : (4 : Int) ^ (i + 1) = 4 * 4 ^ i := by rw [Int.pow_succ, Int.mul_comm]
      have pm : (4 : Int) ^ i ≤ 1024 := by
        have : i = 0 ∨ i = 1 ∨ i = 2 ∨ i = 3 ∨ i = 4 := by omega
        rcases this with rfl | rfl | rfl | rfl | rfl <;> decide
      have st7 : st - 3 = -3 ∨ st - 3 = -2 ∨ st - 3 = -1 ∨ st - 3 = 0 ∨ st - 3 = 1 ∨ st - 3 = 2 ∨ st - 3 = 3 := by omega
      have fin : ∀ e f g k : Int, u = t4 e f g k → e * k - f * g = 1 → B64 e → B64 f → B64 g → B64 k → (-(4 ^ (i + 1)) ≤ a * e + b * g ∧ a * e + b * g ≤ 4 ^ (i + 1)) → (-(4 ^ (i + 1)) ≤ a * f + b * k ∧ a * f + b * k ≤ 4 ^ (i + 1)) → (-(4 ^ (i + 1)) ≤ c * e + d * g ∧ c * e + d * g ≤ 4 ^ (i + 1)) → (-(4 ^ (i + 1)) ≤ c * f + d * k ∧ c * f + d * k ≤ 4 ^ (i + 1)) →
          S_law_then.run [t4 a b c d, u] μ5 (fun d μ1_1 => ∃ a b c d_1 e2_1 e3, [some (D.ob p), some d, some (.int (0 + (i : Nat))), some (.int (st - 3))] = [some (D.ob p), some (t4 a b c d_1), e2_1, e3] ∧ a * d_1 - b * c = 1 ∧ (-(4 ^ (i + 1)) ≤ a ∧ a ≤ 4 ^ (i + 1)) ∧ (-(4 ^ (i + 1)) ≤ b ∧ b ≤ 4 ^ (i + 1)) ∧ (-(4 ^ (i + 1)) ≤ c ∧ c ≤ 4 ^ (i + 1)) ∧ (-(4 ^ (i + 1)) ≤ d_1 ∧ d_1 ≤ 4 ^ (i + 1)) ∧ PotX (n + 1 + 2 * (i + 1)) μ1 μ1_1 p) (SubX X) := by
        intro e f g k hu2 dt b1 b2 b3 b4 c1 c2 c3 c4
        subst hu2
        refine ⟨_, ⟨a, b, c, d, e, f, g, k, rfl, .inr ⟨b1, b2, b3, b4⟩, rfl⟩, _, _, _, _, _, _, rfl, ?_, c1, c2, c3, c4, hx5⟩
        have : (a * d - b * c) * (e * k - f * g) = 1 := by rw [hdet, dt]; rfl
        grind
      have z0 : B64 0 := .mk (by decide) (by decide)
      have z1 : B64 1 := .mk (by decide) (by decide)
      have zm : B64 (-1) := .mk (by decide) (by decide)
      have zs : B64 (st - 3) := .mk (by omega) (by omega)
      simp only [List.mem_cons, List.not_mem_nil, or_false] at hu
      generalize st - 3 = w at *
      rcases hu with rfl | rfl | rfl
      · refine fin 1 w 0 1 rfl (by omega) z1 zs z0 z1 ?_ ?_ ?_ ?_ <;> rcases st7 with rfl | rfl | rfl | rfl | rfl | rfl | rfl <;> omega
      · refine fin 1 0 w 1 rfl (by omega) z1 z0 zs z1 ?_ ?_ ?_ ?_ <;> rcases st7 with rfl | rfl | rfl | rfl | rfl | rfl | rfl <;> omega
      · refine fin 0 (-1) 1 0 rfl (by decide) z0 zm z1 z0 ?_ ?_ ?_ ?_ <;> omega
    · rintro ρ μ3 ⟨a, b, c, d, e2, e3, rfl, hdet, ha, hb, hc, hd, hx⟩
      rw [rangeD_len] at *
      have hk5 : k.toNat ≤ 5 := by omega
      have pm : (4 : Int) ^ k.toNat ≤ 1024 := by
        have : k.toNat = 0 ∨ k.toNat = 1 ∨ k.toNat = 2 ∨ k.toNat = 3 ∨ k.toNat = 4 ∨ k.toNat = 5 := by omega
        rcases this with h | h | h | h | h | h <;> rw [h] <;> decide
      exact ⟨a, b, c, d, e2, e3, rfl, hdet, ⟨by omega, by omega⟩, ⟨by omega, by omega⟩, ⟨by omega, by omega⟩, ⟨by omega, by omega⟩, hx.mono (by omega)⟩
  rintro ρ μ2 ⟨a, b, c, d, e2, e3, rfl, hdet, ha, hb, hc, hd, hx⟩
  walk_at "sq"
  exact hx.sub fun μ'' h => q a b c d μ'' hdet ha hb hc hd h
theorem rd_law_above_drawn (Z : Ad) (ds : List D) (μ : Mu) (Q : PQ) (X : XQ) (hl : ds.length = 2) (h : S_law_above_drawn.run ds μ Q X) : (w_law_above_drawn Z).run (bodyD Q X) (ev0 5 ds) μ := by
  obtain ⟨p, m, n, rfl, hp, hn, h0, h1, q⟩ := h
  unfold w_law_above_drawn
  walk_at "sq"
  refine ⟨p, m, n, rfl, hp, by omega, h0, by omega, fun a μ1 a0 a1 k1 => ?_⟩
  walk_at "sq"
  refine ⟨p, m, n + 1, rfl, k1.1, by omega, h0, by omega, fun c μ2 c0 c1 k2 => ?_⟩
  walk_at "sq"
  have hac : (1 + a) * (1 + c) ≤ 100000 * 100000 := Int.mul_le_mul (by omega) (by omega) (by omega) (by decide)
  have hac0 : 1 * 1 ≤ (1 + a) * (1 + c) := Int.mul_le_mul (by omega) (by omega) (by decide) (by omega)
  have e : 4 * (1 + a) * (1 + c) = 4 * ((1 + a) * (1 + c)) := by rw [Int.mul_assoc]
  refine ⟨mulOk_l (by decide) (by decide), mulOk_l (by omega) (by omega), _, rfl, by omega, by omega, fun r ⟨r0, r1, r2⟩ => ?_⟩
  walk_at "sq"
  have hr := abs_le_of_sq (x := r) (y := 200000) (by decide) (by omega)
  refine ⟨mulOk_l (by decide) (by decide), p, _, n + 2, rfl, k2.1, by omega, by omega, by omega, fun b μ3 b0 b1 k3 => ?_⟩
  walk_at "sq"
  refine .of (q _ _ _ μ3 (by omega) (by omega) (by omega) (by omega) ?_ ((k1.trans k2).trans k3))
  have := sq_le (x := b - r) (y := r) (by omega) (by omega)
  omega
theorem nb_mul {x y : Int} {a b : Nat} (h : x.natAbs < 2 ^ a) (k : y.natAbs < 2 ^ b) : (x * y).natAbs < 2 ^ (a + b) := by
  rw [Int.natAbs_mul, Nat.pow_add]
  exact Nat.mul_lt_mul'' h k
theorem Small.nb {x : Int} (h : Small x) : x.natAbs < 2 ^ 50 := by
  obtain ⟨h1, h2⟩ := h
  omega
theorem big_nb {x : Int} (h : Big x) : x.natAbs < 2 ^ 110 := by
  obtain ⟨h1, h2⟩ := h
  omega
theorem rd_law_value (Z : Ad) (ds : List D) (μ : Mu) (Q : PQ) (X : XQ) (hl : ds.length = 3) (h : S_law_value.run ds μ Q X) : (w_law_value Z).run (bodyD Q X) (ev0 3 ds) μ := by
  obtain ⟨r, ⟨a, b, c, x, y, rfl, ha, hb, hc, hx, hy, rfl⟩, q⟩ := h
  unfold w_law_value
  walk_at "sq"
  have ha := ha.nb
  have hb := hb.nb
  have hc := hc.nb
  have hx := big_nb hx
  have hy := big_nb hy
  have m : ∀ {x y : Int} {a b : Nat}, x.natAbs < 2 ^ a → y.natAbs < 2 ^ b → 0 < a → 0 < b → a + b ≤ 1000000 → IntMulOk x y := fun h k h0 h1 h2 => mulOk_w h k h0 h1 h2
  exact ⟨m ha hx (by decide) (by decide) (by decide), m (nb_mul ha hx) hx (by decide) (by decide) (by decide), m hb hx (by decide) (by decide) (by decide), m (nb_mul hb hx) hy (by decide) (by decide) (by decide), m hc hy (by decide) (by decide) (by decide), m (nb_mul hc hy) hy (by decide) (by decide) (by decide), .of q⟩
theorem rd_law_turned (Z : Ad) (ds : List D) (μ : Mu) (Q : PQ) (X : XQ) (hl : ds.length = 2) (h : S_law_turned.run ds μ Q X) : (w_law_turned Z).run (bodyD Q X) (ev0 7 ds) μ := by
  obtain ⟨r, ⟨a, b, c, p, q', u, v, rfl, ha, hb, hc, hpq, huv, hp, hq, hu, hv, rfl⟩, q⟩ := h
  unfold w_law_turned
  walk_at "sq"
  refine ⟨_, ⟨a, b, c, _, _, rfl, ha, hb, hc, hpq, huv, rfl⟩, _, ⟨a, b, c, _, _, rfl, ha, hb, hc, hp, hu, rfl⟩, ?_⟩
  walk_at "sq"
  refine ⟨_, ⟨a, b, c, _, _, rfl, ha, hb, hc, hq, hv, rfl⟩, ?_⟩
  walk_at "sq"
  refine ⟨_, ⟨a, b, c, _, _, rfl, ha, hb, hc, hp, hu, rfl⟩, _, ⟨a, b, c, _, _, rfl, ha, hb, hc, hq, hv, rfl⟩, .of ?_⟩
  have e : val a b c (p + q') (u + v) - val a b c p u - val a b c q' v = mid a b c p q' u v := by unfold val mid; grind
  rw [e]
  exact q
end K9

/-! k09: values of any kind, bent ones. -/
namespace K9
open PySem PySem.Spec PyProof.Rows L2 Sq
local macro_rules | `(tactic| walk_at "sq") => `(tactic| simp only [fList_tup, fList_ob, wBack_run, gStr_run, fStr_int, fStr_str, wUpper_run, wDct_run, gReprX_run, wIsX_run, wVal_run, wLam_run, wHeard_run, wRaise_run, wVar_run, wC_run, wOp_run, onBl_bl, gI_run, gAdd_int, gAdd_str, gAdd_tup, gMul_int, EqB_int, EqB_str, EqB_bl, gEq_run, gNe_run, wNeg_run, wNotV_run, wAndV_run, wOrV_run, wTB_run, wNotT_run, wAndT_run, wOrT_run, wIfE_run, runAll_nil, runAll_cons, wTup_run, wLst_run, gIx_tup, gIx_rls, gIx_str, gIx_ob, wB_run, fLen_tup, fLen_rls, fLen_str, fLen_ob, fAbs_int, fInt_int, fInt_bl, fTuple_tup, fTuple_ob, wIsi_run, wCall_run, wNext_run, wSeq_run, wBreak_run, wCont_run, wNever_run, wExpr_run, wRet_run, wRetN_run, wIf_run, gN_run, runGs_nil, runGs_cons, gT_run, gS_run, sIx_ob, wAsg_run, wSet_run, wPar_run, wPar3_run, wSeqI_run, fSeq_tup, fSeq_rls, fSeq_ob, wRng1_run, fRng1_int, wRng2_run, fRng2_int, wFor_run, wLc_run, wYes_run, onLst_ob, wMt_run, fAppend_run, fExtend_run, wAug_run, bodyD_nx, bodyD_rt, bodyD_ex, wNoP_run, onInt_int, wPart_run, fSl_tup, fSl_rls, fSl_str, fSl_ob, wSl_run, gIn_run, gNotIn_run, fSorted_ob, wLstRg1_run, wChainN_run, chainRun_last, chainRun_cons, spR_run,
  Sq.gSub, gFdiv, gMod, gLt, gLe, gGt, gGe, gAddI, gPowW, gLen_run, gAbs_run, gInt_run, gAll_run, gAny_run, gSum_run, gTuple_run, gList_run, gSorted_run, gRepr_run, gMax2_run, gMin2_run, gAppend_run, gExtend_run, CT.set_one, CT.set_many, CT.slots, setAll, wipeE, lcG_nil,
  List.getElem?_cons_zero, List.getElem?_cons_succ, List.getElem?_nil, Int.cast_ofNat_Int, List.set_cons_zero, List.set_cons_succ, List.length_cons, List.length_nil, ev0, List.map_cons, List.map_nil, List.cons_append, List.nil_append, List.replicate_succ, List.replicate_zero, Nat.reduceSub, Nat.reduceAdd, mset_same, decide_true, decide_false, if_true, if_false, ite_true, ite_false, Bool.false_eq_true, Bool.true_eq_false, reduceCtorEq, Bool.not_true, Bool.not_false, true_and, and_true, decide_eq_true_eq, Bool.not_eq_true', decide_eq_false_iff_not, ite_not, isA, atI_0, atI_1, atI_2, atI_3, atI_m4, ixN_0, ixN_1, ixN_30, ixN_31, ixN_32])
theorem mem_cut {α : Type} {xs : List α} {lo hi : Option Int} {d : α} (h : d ∈ Sq.cutD xs lo hi) : d ∈ xs := List.mem_of_mem_drop (List.mem_of_mem_take h)
theorem len_cut {α : Type} (xs : List α) (lo hi : Option Int) : (Sq.cutD xs lo hi).length ≤ xs.length := by
  unfold Sq.cutD
  rw [List.length_take, List.length_drop]
  omega
theorem strOk_of (s : String) : PyData.strOk (Str.ofString s) = true := by
  rw [PySem.Str.ofString_eq_toList]
  unfold PyData.strOk
  rw [← Array.all_toList, List.all_eq_true]
  intro c hc
  obtain ⟨ch, _, rfl⟩ := List.mem_map.mp (by simpa using hc)
  have : ch.toNat < 0x110000 := by
    have := ch.valid
    unfold UInt32.isValidChar Nat.isValidChar at this
    show ch.val.toNat < _
    omega
  exact decide_eq_true this
theorem log_ok {i : Int} (h1 : -10 ^ 20 ≤ i) (h2 : i ≤ 10 ^ 20) : i.natAbs.log2 < 1920 := by
  have : i.natAbs < 2 ^ 1920 := by
    have e : (10 ^ 20 : Nat) < 2 ^ 100 := by decide
    have e2 : (2 ^ 100 : Nat) ≤ 2 ^ 1920 := Nat.pow_le_pow_right (by decide) (by decide)
    omega
  by_cases h0 : i.natAbs = 0
  · rw [h0]; decide
  · rw [Nat.log2_lt h0]; exact this
theorem bn_pu : ∀ {n : Nat} {d : D}, Bn (n + 1) d → Pu n d
  | n, _, .inl ⟨i, e, h1, h2⟩ => e ▸ (lf_int (by omega) (by omega)).pu n
  | n, _, .inr (.inl ⟨x, e, h⟩) => e ▸ (StrG.lf h).1.pu n
  | n, _, .inr (.inr (.inl ⟨b, e⟩)) => e ▸ (Lf.bl b).pu n
  | 0, _, .inr (.inr (.inr ⟨ds, e, h1, h2, h3⟩)) => absurd (bn_none h3) h1
  | n + 1, _, .inr (.inr (.inr ⟨ds, e, h1, h2, h3⟩)) => e ▸ Pu.tup (fun x hx => bn_pu (h3 x hx)) (by omega)
theorem ne_nil {n : Nat} {xs : List D} {μ : Mu} {Q : Bool → Prop} (h : ∀ x ∈ xs, Bn (n + 1) x) (hl : xs.length ≤ 10) (hn : n ≤ 50) (hne : xs ≠ []) (q : Q false) : EqB (.tup xs) (.tup []) μ Q := by
  have s := (Pu.tup (fun x hx => bn_pu (h x hx)) (show xs.length ≤ 25 by omega)).sm
  refine (show EqP (.tup xs) (.tup []) μ Q from ⟨_, _, pure_dpy s.pure, pure_dpy (d := .tup []) rfl, s.shaped (by omega), rfl, ?_⟩)
  have e : PyData.eqv (Sq.encD (.tup xs)) (Sq.encD (.tup [])) = false := by
    cases xs with
    | nil => exact absurd rfl hne
    | cons d ds => simp [Sq.encD, encDs, PyData.eqv, PyData.eqvAll]
  rw [e]; exact q
theorem vp_one {μ : Mu} {p : Addr} {d : D} (h : Lf d) : ∀ k, VP μ p k (.tup [d])
  | 0 => Pu.tup (fun x hx => by rw [List.mem_singleton.mp hx]; exact h.pu 1) (by simp)
  | k + 1 => .tup (fun x hx => by rw [List.mem_singleton.mp hx]; exact h.vp k) (by simp)
theorem all0 {P : D → Prop} : ∀ d ∈ ([] : List D), P d := fun _ z => nomatch z
theorem all1 {P : D → Prop} {d : D} {ds : List D} (h : P d) (t : ∀ d ∈ ds, P d) : ∀ e ∈ d :: ds, P e := List.forall_mem_cons.mpr ⟨h, t⟩
theorem vi {μ : Mu} {p : Addr} {i : Int} (k : Nat) (h1 : -10 ^ 30 < i) (h2 : i < 10 ^ 30) : VP μ p k (.int i) := (lf_int h1 h2).vp k
theorem vs {μ : Mu} {p : Addr} {x : Str} (k : Nat) (h : PyData.strOk x = true) (hl : x.length ≤ 60) : VP μ p k (.str x) := (Lf.str h hl).vp k
theorem vn {μ : Mu} {p : Addr} (k : Nat) : VP μ p k .non := Lf.non.vp k
theorem vb {μ : Mu} {p : Addr} (k : Nat) (b : Bool) : VP μ p k (.bl b) := (Lf.bl b).vp k
/-- as VP.keep, where the pot goes on -/
theorem VP.potx {μ μ' : Mu} {p : Addr} {n m : Nat} {d : D} (h : VP μ p n d) (x : PotX m μ μ' p) : VP μ' p n d := VP.keep (fun b o hb e => x.keep hb e) h
theorem rd_law_bent_0 (Z : Ad) (ds : List D) (μ : Mu) (Q : PQ) (X : XQ) (hl : ds.length = 2) (h : (S_law_bent 0).run ds μ Q X) : (w_law_bent_0 Z).run (bodyD Q X) (ev0 3 ds) μ := by
  obtain ⟨p, m, v, rfl, hp, hm, hv, q⟩ := h
  exact hv.elim
theorem rd_law_bent_1 (Z : Ad) (ds : List D) (μ : Mu) (Q : PQ) (X : XQ) (hl : ds.length = 2) (h : (S_law_bent 1).run ds μ Q X) : (w_law_bent_1 Z).run (bodyD Q X) (ev0 3 ds) μ := by
  obtain ⟨p, m, v, rfl, hp, hm, hv, q⟩ := h
  replace q : ∀ d μ', VP μ' p 0 d → PotX (m + 4) μ μ' p → Q d μ' := q
  rcases hv with ⟨i, rfl, i1, i2⟩ | ⟨x, rfl, hx⟩ | ⟨b, rfl⟩ | ⟨xs, rfl, hne, hlen, hns⟩
  · unfold w_law_bent_1
    walk_at "sq"
    refine ⟨log_ok i1 i2, ⟨by decide, 4, by decide, by decide⟩, fun l hl => ⟨p, l, m, _, rfl, hp.new hl, by omega, mset_same _ _ _, by simp, by simp, fun z => hp.ne hl z.symm, fun d μ' hd hto => ?_⟩⟩
    refine .of (q d μ' ?_ ((((PotX.refl hp).new hl).step hto).mono (by omega)))
    simp only [List.mem_cons, List.not_mem_nil, or_false] at hd
    rcases hd with rfl | rfl | rfl | rfl | rfl | rfl | rfl | rfl
    · exact vi _ (by omega) (by omega)
    · exact vi _ (by omega) (by omega)
    · exact vi _ (by omega) (by omega)
    · refine vs _ (strOk_of _) ?_
      have := shown_int (i := i) (by omega)
      exact Nat.le_trans this (by decide)
    · exact vb _ _
    · exact vn _
    · exact vp_one (lf_int (by omega) (by omega)) _
    · exact vi _ (by decide) (by decide)
  · have hx1 := StrG.lf hx
    have hx2 := StrG.len hx
    unfold w_law_bent_1
    walk_at "sq"
    have h1 : (Str.ofString "a").length = 1 := rfl
    refine ⟨small_size (by omega), small_size (by omega), x, rfl, by omega, fun l hl => ⟨p, l, m, _, rfl, hp.new hl, by omega, mset_same _ _ _, by simp, by simp, fun z => hp.ne hl z.symm, fun d μ' hd hto => ?_⟩⟩
    refine .of (q d μ' ?_ ((((PotX.refl hp).new hl).step hto).mono (by omega)))
    simp only [List.mem_cons, List.not_mem_nil, or_false] at hd
    rcases hd with rfl | rfl | rfl | rfl | rfl | rfl
    · exact hx1.2.2.2.vp _
    · exact hx1.2.2.1.vp _
    · exact hx1.2.1.vp _
    · exact vs _ (by decide +kernel) (by decide)
    · exact vn _
    · exact vi _ (by decide) (by decide)
  · unfold w_law_bent_1
    walk_at "sq"
    refine fun l hl => ⟨p, l, m, _, rfl, hp.new hl, by omega, mset_same _ _ _, by simp, by simp, fun z => hp.ne hl z.symm, fun d μ' hd hto => ?_⟩
    refine .of (q d μ' ?_ ((((PotX.refl hp).new hl).step hto).mono (by omega)))
    simp only [List.mem_cons, List.not_mem_nil, or_false] at hd
    rcases hd with rfl | rfl | rfl
    · exact vb _ _
    · cases b <;> exact vi _ (by decide) (by decide)
    · exact vn _
  · exact absurd (bn_none hns) hne
theorem rd_law_bent_2 (Z : Ad) (ds : List D) (μ : Mu) (Q : PQ) (X : XQ) (hl : ds.length = 2) (h : (S_law_bent 2).run ds μ Q X) : (w_law_bent_2 Z).run (bodyD Q X) (ev0 3 ds) μ := by
  obtain ⟨p, m, v, rfl, hp, hm, hv, q⟩ := h
  replace q : ∀ d μ', VP μ' p 1 d → PotX (m + 8) μ μ' p → Q d μ' := q
  rcases hv with ⟨i, rfl, i1, i2⟩ | ⟨x, rfl, hx⟩ | ⟨b, rfl⟩ | ⟨xs, rfl, hne, hlen, hns⟩
  · unfold w_law_bent_2
    walk_at "sq"
    refine ⟨log_ok i1 i2, ⟨by decide, 4, by decide, by decide⟩, fun l hl => ⟨p, l, m, _, rfl, hp.new hl, by omega, mset_same _ _ _, by simp, by simp, fun z => hp.ne hl z.symm, fun d μ' hd hto => ?_⟩⟩
    refine .of (q d μ' ?_ ((((PotX.refl hp).new hl).step hto).mono (by omega)))
    simp only [List.mem_cons, List.not_mem_nil, or_false] at hd
    rcases hd with rfl | rfl | rfl | rfl | rfl | rfl | rfl | rfl
    · exact vi _ (by omega) (by omega)
    · exact vi _ (by omega) (by omega)
    · exact vi _ (by omega) (by omega)
    · refine vs _ (strOk_of _) ?_
      have := shown_int (i := i) (by omega)
      exact Nat.le_trans this (by decide)
    · exact vb _ _
    · exact vn _
    · exact vp_one (lf_int (by omega) (by omega)) _
    · exact vi _ (by decide) (by decide)
  · have hx1 := StrG.lf hx
    have hx2 := StrG.len hx
    unfold w_law_bent_2
    walk_at "sq"
    have h1 : (Str.ofString "a").length = 1 := rfl
    refine ⟨small_size (by omega), small_size (by omega), x, rfl, by omega, fun l hl => ⟨p, l, m, _, rfl, hp.new hl, by omega, mset_same _ _ _, by simp, by simp, fun z => hp.ne hl z.symm, fun d μ' hd hto => ?_⟩⟩
    refine .of (q d μ' ?_ ((((PotX.refl hp).new hl).step hto).mono (by omega)))
    simp only [List.mem_cons, List.not_mem_nil, or_false] at hd
    rcases hd with rfl | rfl | rfl | rfl | rfl | rfl
    · exact hx1.2.2.2.vp _
    · exact hx1.2.2.1.vp _
    · exact hx1.2.1.vp _
    · exact vs _ (by decide +kernel) (by decide)
    · exact vn _
    · exact vi _ (by decide) (by decide)
  · unfold w_law_bent_2
    walk_at "sq"
    refine fun l hl => ⟨p, l, m, _, rfl, hp.new hl, by omega, mset_same _ _ _, by simp, by simp, fun z => hp.ne hl z.symm, fun d μ' hd hto => ?_⟩
    refine .of (q d μ' ?_ ((((PotX.refl hp).new hl).step hto).mono (by omega)))
    simp only [List.mem_cons, List.not_mem_nil, or_false] at hd
    rcases hd with rfl | rfl | rfl
    · exact vb _ _
    · cases b <;> exact vi _ (by decide) (by decide)
    · exact vn _
  · have hn0 : 0 < xs.length := List.length_pos_iff.mpr hne
    have cl : ∀ lo hi, (Sq.cutD xs lo hi).length ≤ 10 := fun lo hi => by
      have := len_cut xs lo hi
      omega
    have sm : ∀ {μ' : Mu}, ∀ d ∈ xs, VP μ' p 0 d := fun d hd => (hns d hd).vp
    unfold w_law_bent_2
    refine seq_by (fun ρ μ' => ρ = [some (.ob p), some (.tup xs), none] ∧ PotX (m + 1) μ μ' p) ?_ ?_
    · walk_at "sq"
      refine ne_nil hns hlen (by decide) hne ?_
      walk_at "sq"
      refine ⟨p, 5, m, rfl, hp, by omega, by decide, by decide, fun k μ1 k0 k1 hk => ?_⟩
      have hx := (PotX.refl hp).step hk
      walk_at "sq"
      by_cases hk0 : 0 < k
      · rw [if_pos hk0]
        refine ⟨p, _, m + 1, rfl, hx.1, by omega, by omega, by omega, fun at_ μ2 a0 a1 ha => ?_⟩
        have hx2 := hx.step ha
        obtain ⟨j, rfl⟩ := Int.eq_ofNat_of_zero_le a0
        have hj : j < xs.length := by omega
        walk_at "sq"
        rw [atI_nat (x := xs[j]) (List.getElem?_eq_getElem hj)]
        have hb := hns xs[j] (List.getElem_mem hj)
        refine ⟨p, m + 2, _, rfl, hx2.1.mono (by omega), by omega, hb, fun d μ3 hd h3 => ?_⟩
        walk_at "sq"
        have c1 := cl none (some (j : Int))
        have c2 := cl (some ((j : Int) + 1)) none
        refine ⟨small_size (by omega), small_size (by rw [List.length_append]; show _ + 1 + _ ≤ _; omega), .of (q _ μ3 (.tup ?_ ?_) ((hx2.mono (m := m + 2) (by omega)).trans (h3.mono (by omega))))⟩
        · intro e he
          rcases List.mem_append.mp he with he | he
          · rcases List.mem_append.mp he with he | he
            · exact sm e (mem_cut he)
            · simp only [List.mem_cons, List.not_mem_nil, or_false] at he
              subst he
              exact hd
          · exact sm e (mem_cut he)
        · rw [List.length_append, List.length_append]
          show _ + 1 + _ ≤ _
          omega
      · rw [if_neg hk0]
        exact hx
    rintro ρ μ1 ⟨rfl, hx⟩
    walk_at "sq"
    intro l1 hl1
    have c3 := cl (some (-1)) none
    refine ⟨small_size (by omega), _, rfl, fun l hl => ?_⟩
    have hx1 := (hx.new (o := .lst xs) hl1)
    have f1 : mset μ1 l1 (.lst xs) l1 = some (.lst xs) := mset_same _ _ _
    have n1 : l1 ≠ p := fun z => hx.1.ne hl1 z.symm
    generalize mset μ1 l1 (.lst xs) = μ2 at *
    refine ⟨p, l, m + 1, _, rfl, hx1.1.new hl, by omega, mset_same _ _ _, by simp, by simp, fun z => hx1.1.ne hl z.symm, fun d μ3 hd hto => ?_⟩
    have hx3 := (hx1.new hl).step hto
    refine .of (q d μ3 ?_ (hx3.mono (by omega)))
    simp only [List.mem_cons, List.not_mem_nil, or_false] at hd
    rcases hd with rfl | rfl | rfl | rfl | rfl | rfl | rfl
    · refine .inr (.inl (.lst (ds := xs) ?_ n1))
      rw [hto.2 l1 n1]
      exact at_new f1 hl
    · exact .tup (fun e he => sm e (mem_cut he)) (by have := cl (some 1) none; omega)
    · exact .tup (fun e he => sm e (mem_cut he)) (by have := cl none (some (-1)); omega)
    · refine .tup (fun e he => ?_) (by rw [List.length_append]; omega)
      rcases List.mem_append.mp he with he | he
      · exact sm e he
      · exact sm e (mem_cut he)
    · exact .tup (fun e he => sm e (List.mem_reverse.mp he)) (by rw [List.length_reverse]; omega)
    · exact .tup all0 (by decide)
    · exact vn _
theorem rd_law_bent_3 (Z : Ad) (ds : List D) (μ : Mu) (Q : PQ) (X : XQ) (hl : ds.length = 2) (h : (S_law_bent 3).run ds μ Q X) : (w_law_bent_3 Z).run (bodyD Q X) (ev0 3 ds) μ := by
  obtain ⟨p, m, v, rfl, hp, hm, hv, q⟩ := h
  replace q : ∀ d μ', VP μ' p 2 d → PotX (m + 12) μ μ' p → Q d μ' := q
  rcases hv with ⟨i, rfl, i1, i2⟩ | ⟨x, rfl, hx⟩ | ⟨b, rfl⟩ | ⟨xs, rfl, hne, hlen, hns⟩
  · unfold w_law_bent_3
    walk_at "sq"
    refine ⟨log_ok i1 i2, ⟨by decide, 4, by decide, by decide⟩, fun l hl => ⟨p, l, m, _, rfl, hp.new hl, by omega, mset_same _ _ _, by simp, by simp, fun z => hp.ne hl z.symm, fun d μ' hd hto => ?_⟩⟩
    refine .of (q d μ' ?_ ((((PotX.refl hp).new hl).step hto).mono (by omega)))
    simp only [List.mem_cons, List.not_mem_nil, or_false] at hd
    rcases hd with rfl | rfl | rfl | rfl | rfl | rfl | rfl | rfl
    · exact vi _ (by omega) (by omega)
    · exact vi _ (by omega) (by omega)
    · exact vi _ (by omega) (by omega)
    · refine vs _ (strOk_of _) ?_
      have := shown_int (i := i) (by omega)
      exact Nat.le_trans this (by decide)
    · exact vb _ _
    · exact vn _
    · exact vp_one (lf_int (by omega) (by omega)) _
    · exact vi _ (by decide) (by decide)
  · have hx1 := StrG.lf hx
    have hx2 := StrG.len hx
    unfold w_law_bent_3
    walk_at "sq"
    have h1 : (Str.ofString "a").length = 1 := rfl
    refine ⟨small_size (by omega), small_size (by omega), x, rfl, by omega, fun l hl => ⟨p, l, m, _, rfl, hp.new hl, by omega, mset_same _ _ _, by simp, by simp, fun z => hp.ne hl z.symm, fun d μ' hd hto => ?_⟩⟩
    refine .of (q d μ' ?_ ((((PotX.refl hp).new hl).step hto).mono (by omega)))
    simp only [List.mem_cons, List.not_mem_nil, or_false] at hd
    rcases hd with rfl | rfl | rfl | rfl | rfl | rfl
    · exact hx1.2.2.2.vp _
    · exact hx1.2.2.1.vp _
    · exact hx1.2.1.vp _
    · exact vs _ (by decide +kernel) (by decide)
    · exact vn _
    · exact vi _ (by decide) (by decide)
  · unfold w_law_bent_3
    walk_at "sq"
    refine fun l hl => ⟨p, l, m, _, rfl, hp.new hl, by omega, mset_same _ _ _, by simp, by simp, fun z => hp.ne hl z.symm, fun d μ' hd hto => ?_⟩
    refine .of (q d μ' ?_ ((((PotX.refl hp).new hl).step hto).mono (by omega)))
    simp only [List.mem_cons, List.not_mem_nil, or_false] at hd
    rcases hd with rfl | rfl | rfl
    · exact vb _ _
    · cases b <;> exact vi _ (by decide) (by decide)
    · exact vn _
  · have hn0 : 0 < xs.length := List.length_pos_iff.mpr hne
    have cl : ∀ lo hi, (Sq.cutD xs lo hi).length ≤ 10 := fun lo hi => by
      have := len_cut xs lo hi
      omega
    have sm : ∀ {μ' : Mu}, ∀ d ∈ xs, VP μ' p 1 d := fun d hd => (hns d hd).vp
    unfold w_law_bent_3
    refine seq_by (fun ρ μ' => ρ = [some (.ob p), some (.tup xs), none] ∧ PotX (m + 1) μ μ' p) ?_ ?_
    · walk_at "sq"
      refine ne_nil hns hlen (by decide) hne ?_
      walk_at "sq"
      refine ⟨p, 5, m, rfl, hp, by omega, by decide, by decide, fun k μ1 k0 k1 hk => ?_⟩
      have hx := (PotX.refl hp).step hk
      walk_at "sq"
      by_cases hk0 : 0 < k
      · rw [if_pos hk0]
        refine ⟨p, _, m + 1, rfl, hx.1, by omega, by omega, by omega, fun at_ μ2 a0 a1 ha => ?_⟩
        have hx2 := hx.step ha
        obtain ⟨j, rfl⟩ := Int.eq_ofNat_of_zero_le a0
        have hj : j < xs.length := by omega
        walk_at "sq"
        rw [atI_nat (x := xs[j]) (List.getElem?_eq_getElem hj)]
        have hb := hns xs[j] (List.getElem_mem hj)
        refine ⟨p, m + 2, _, rfl, hx2.1.mono (by omega), by omega, hb, fun d μ3 hd h3 => ?_⟩
        walk_at "sq"
        have c1 := cl none (some (j : Int))
        have c2 := cl (some ((j : Int) + 1)) none
        refine ⟨small_size (by omega), small_size (by rw [List.length_append]; show _ + 1 + _ ≤ _; omega), .of (q _ μ3 (.tup ?_ ?_) ((hx2.mono (m := m + 2) (by omega)).trans (h3.mono (by omega))))⟩
        · intro e he
          rcases List.mem_append.mp he with he | he
          · rcases List.mem_append.mp he with he | he
            · exact sm e (mem_cut he)
            · simp only [List.mem_cons, List.not_mem_nil, or_false] at he
              subst he
              exact hd
          · exact sm e (mem_cut he)
        · rw [List.length_append, List.length_append]
          show _ + 1 + _ ≤ _
          omega
      · rw [if_neg hk0]
        exact hx
    rintro ρ μ1 ⟨rfl, hx⟩
    walk_at "sq"
    intro l1 hl1
    have c3 := cl (some (-1)) none
    refine ⟨small_size (by omega), _, rfl, fun l hl => ?_⟩
    have hx1 := (hx.new (o := .lst xs) hl1)
    have f1 : mset μ1 l1 (.lst xs) l1 = some (.lst xs) := mset_same _ _ _
    have n1 : l1 ≠ p := fun z => hx.1.ne hl1 z.symm
    generalize mset μ1 l1 (.lst xs) = μ2 at *
    refine ⟨p, l, m + 1, _, rfl, hx1.1.new hl, by omega, mset_same _ _ _, by simp, by simp, fun z => hx1.1.ne hl z.symm, fun d μ3 hd hto => ?_⟩
    have hx3 := (hx1.new hl).step hto
    refine .of (q d μ3 ?_ (hx3.mono (by omega)))
    simp only [List.mem_cons, List.not_mem_nil, or_false] at hd
    rcases hd with rfl | rfl | rfl | rfl | rfl | rfl | rfl
    · refine .inr (.inl (.lst (ds := xs) ?_ n1))
      rw [hto.2 l1 n1]
      exact at_new f1 hl
    · exact .tup (fun e he => sm e (mem_cut he)) (by have := cl (some 1) none; omega)
    · exact .tup (fun e he => sm e (mem_cut he)) (by have := cl none (some (-1)); omega)
    · refine .tup (fun e he => ?_) (by rw [List.length_append]; omega)
      rcases List.mem_append.mp he with he | he
      · exact sm e he
      · exact sm e (mem_cut he)
    · exact .tup (fun e he => sm e (List.mem_reverse.mp he)) (by rw [List.length_reverse]; omega)
    · exact .tup all0 (by decide)
    · exact vn _
theorem rd_law_odd (Z : Ad) (ds : List D) (μ : Mu) (Q : PQ) (X : XQ) (hl : ds.length = 1) (h : S_law_odd.run ds μ Q X) : (w_law_odd Z).run (bodyD Q X) (ev0 2 ds) μ := by
  obtain ⟨p, n, rfl, hp, hn, q⟩ := h
  unfold w_law_odd
  walk_at "sq"
  refine ⟨⟨by decide, 4, by decide, by decide⟩, fun p1 h1 p2 h2 p3 h3 p4 h4 p5 h5 p6 h6 => ?_⟩
  have x1 := (PotX.refl hp).new (o := .lst []) h1
  have f1 : mset μ p1 (.lst []) p1 = some (.lst []) := mset_same _ _ _
  generalize mset μ p1 (.lst []) = m1 at *
  have x2 := x1.new (o := .dct [] []) h2
  have g1 := at_new (o := .dct [] []) f1 h2
  have g2 : mset m1 p2 (.dct [] []) p2 = some (.dct [] []) := mset_same _ _ _
  generalize mset m1 p2 (.dct [] []) = m2 at *
  have x3 := x2.new (o := .lst [D.int 1]) h3
  have i1 := at_new (o := .lst [D.int 1]) g1 h3
  have i2 := at_new (o := .lst [D.int 1]) g2 h3
  have i3 : mset m2 p3 (.lst [D.int 1]) p3 = some (.lst [D.int 1]) := mset_same _ _ _
  generalize mset m2 p3 (.lst [D.int 1]) = m3 at *
  generalize hL : [D.non, D.bl true, D.bl false, D.int 0, D.int 1, D.int (-1), D.int 33, D.int (10 ^ Int.toNat 20), D.str (Str.ofString ""), D.str (Str.ofString "r"), D.str (Str.ofString "turn"), D.str (Str.ofString "prime"), D.tup [], D.ob p1, D.ob p2, D.tup [D.int 0], D.tup [D.tup []], D.ob p3, D.tup [D.int 1, D.int 0]] = L at *
  have x4 := x3.new (o := .lst L) h4
  have j1 := at_new (o := .lst L) i1 h4
  have j2 := at_new (o := .lst L) i2 h4
  have j3 := at_new (o := .lst L) i3 h4
  have j4 : mset m3 p4 (.lst L) p4 = some (.lst L) := mset_same _ _ _
  generalize mset m3 p4 (.lst L) = m4 at *
  have x5 := x4.new (o := .dct [Sum.inr (Str.ofString "a")] [D.int 1]) h5
  have k1 := at_new (o := .dct [Sum.inr (Str.ofString "a")] [D.int 1]) j1 h5
  have k2 := at_new (o := .dct [Sum.inr (Str.ofString "a")] [D.int 1]) j2 h5
  have k3 := at_new (o := .dct [Sum.inr (Str.ofString "a")] [D.int 1]) j3 h5
  have k4 := at_new (o := .dct [Sum.inr (Str.ofString "a")] [D.int 1]) j4 h5
  have k5 : mset m4 p5 (.dct [Sum.inr (Str.ofString "a")] [D.int 1]) p5 = some (.dct [Sum.inr (Str.ofString "a")] [D.int 1]) := mset_same _ _ _
  generalize mset m4 p5 (.dct [Sum.inr (Str.ofString "a")] [D.int 1]) = m5 at *
  generalize hM : [D.tup [D.int 0, D.int 1], D.tup [D.non], D.ob p5, D.tup [D.int 2, D.int 1, D.int 3], D.tup [D.int 1, D.int 0, D.int 0, D.int 1], D.tup [D.tup [D.bl true]], D.tup [D.str (Str.ofString "none"), D.tup []]] = M at *
  have x6 := x5.new (o := .lst M) h6
  have l1 := at_new (o := .lst M) k1 h6
  have l2 := at_new (o := .lst M) k2 h6
  have l3 := at_new (o := .lst M) k3 h6
  have l4 := at_new (o := .lst M) k4 h6
  have l5 := at_new (o := .lst M) k5 h6
  have l6 : mset m5 p6 (.lst M) p6 = some (.lst M) := mset_same _ _ _
  generalize mset m5 p6 (.lst M) = m6 at *
  rw [gAdd_ob, l4, l6]
  dsimp only
  refine ⟨by rw [← hL, ← hM]; exact small_size (show 19 + 7 ≤ 16000000 by decide), fun p7 h7 => ?_⟩
  have x7 := x6.new (o := .lst (L ++ M)) h7
  refine ⟨p, p7, n, _, rfl, x7.1, by omega, mset_same _ _ _, by rw [← hL]; simp, by rw [← hL, ← hM]; exact (show 26 < 1000 by decide), fun z => x6.1.ne h7 z.symm, fun d μ' hd hto => ?_⟩
  have x8 := x7.step hto
  refine .of (q d μ' ?_ x8)
  have kp : ∀ {a : Addr} {o : O}, m6 a = some o → (∀ ns : Int × Int × Int, o ≠ .lst (potL ns.1 ns.2.1 ns.2.2)) → a ≠ p ∧ μ' a = some o := fun {a o} e hne => by
    have ap : a ≠ p := fun z => by
      obtain ⟨x, y, w, e2, _⟩ := x6.1
      rw [z, e2] at e
      cases e
      exact hne (x, y, w) rfl
    refine ⟨ap, ?_⟩
    rw [hto.2 a ap, mset_ne (ne_free e h7)]
    exact e
  rcases List.mem_append.mp hd with hd | hd
  · rw [← hL] at hd
    simp only [List.mem_cons, List.not_mem_nil, or_false] at hd
    rcases hd with rfl | rfl | rfl | rfl | rfl | rfl | rfl | rfl | rfl | rfl | rfl | rfl | rfl | rfl | rfl | rfl | rfl | rfl | rfl
    · exact vn _
    · exact vb _ _
    · exact vb _ _
    · exact vi _ (by decide) (by decide)
    · exact vi _ (by decide) (by decide)
    · exact vi _ (by decide) (by decide)
    · exact vi _ (by decide) (by decide)
    · exact vi _ (by decide) (by decide)
    · exact vs _ (by decide +kernel) (by decide)
    · exact vs _ (by decide +kernel) (by decide)
    · exact vs _ (by decide +kernel) (by decide)
    · exact vs _ (by decide +kernel) (by decide)
    · exact .tup all0 (by decide)
    · obtain ⟨a1, a2⟩ := kp l1 (fun _ z => by simp [potL] at z)
      exact .inr (.inl (.lst a2 a1))
    · obtain ⟨a1, a2⟩ := kp l2 (fun _ z => nomatch z)
      exact .inr (.inl (.dct a2 a1))
    · exact .tup (all1 (vi _ (by decide) (by decide)) all0) (by decide)
    · exact .tup (all1 (Pu.tup all0 (by decide)) all0) (by decide)
    · obtain ⟨a1, a2⟩ := kp l3 (fun _ z => by simp [potL] at z)
      exact .inr (.inl (.lst a2 a1))
    · exact .tup (all1 (vi _ (by decide) (by decide)) (all1 (vi _ (by decide) (by decide)) all0)) (by decide)
  · rw [← hM] at hd
    simp only [List.mem_cons, List.not_mem_nil, or_false] at hd
    rcases hd with rfl | rfl | rfl | rfl | rfl | rfl | rfl
    · exact .tup (all1 (vi _ (by decide) (by decide)) (all1 (vi _ (by decide) (by decide)) all0)) (by decide)
    · exact .tup (all1 (vn _) all0) (by decide)
    · obtain ⟨a1, a2⟩ := kp l5 (fun _ z => nomatch z)
      exact .inr (.inl (.dct a2 a1))
    · exact .tup (all1 (vi _ (by decide) (by decide)) (all1 (vi _ (by decide) (by decide)) (all1 (vi _ (by decide) (by decide)) all0))) (by decide)
    · exact .tup (all1 (vi _ (by decide) (by decide)) (all1 (vi _ (by decide) (by decide)) (all1 (vi _ (by decide) (by decide)) (all1 (vi _ (by decide) (by decide)) all0)))) (by decide)
    · exact .tup (all1 (Pu.tup (all1 ((Lf.bl true).pu _) all0) (by decide)) all0) (by decide)
    · exact .tup (all1 (vs _ (by decide +kernel) (by decide)) (all1 (Pu.tup all0 (by decide)) all0)) (by decide)
end K9

/-! k09: the law's own judges. -/
namespace K9
open PySem PySem.Spec PyProof.Rows L2 Sq
local macro_rules | `(tactic| walk_at "sq") => `(tactic| simp only [fList_tup, fList_ob, wBack_run, gStr_run, fStr_int, fStr_str, wUpper_run, wDct_run, gReprX_run, wIsX_run, wVal_run, wLam_run, wHeard_run, wRaise_run, wVar_run, wC_run, wOp_run, onBl_bl, gI_run, gAdd_int, gAdd_str, gAdd_tup, gMul_int, EqB_int, EqB_str, EqB_bl, gEq_run, gNe_run, wNeg_run, wNotV_run, wAndV_run, wOrV_run, wTB_run, wNotT_run, wAndT_run, wOrT_run, wIfE_run, runAll_nil, runAll_cons, wTup_run, wLst_run, gIx_tup, gIx_rls, gIx_str, gIx_ob, wB_run, fLen_tup, fLen_rls, fLen_str, fLen_ob, fAbs_int, fInt_int, fInt_bl, fTuple_tup, fTuple_ob, wIsi_run, wCall_run, wNext_run, wSeq_run, wBreak_run, wCont_run, wNever_run, wExpr_run, wRet_run, wRetN_run, wIf_run, gN_run, runGs_nil, runGs_cons, gT_run, gS_run, sIx_ob, wAsg_run, wSet_run, wPar_run, wPar3_run, wSeqI_run, fSeq_tup, fSeq_rls, fSeq_ob, wRng1_run, fRng1_int, wRng2_run, fRng2_int, wFor_run, wLc_run, wYes_run, onLst_ob, wMt_run, fAppend_run, fExtend_run, wAug_run, bodyD_nx, bodyD_rt, bodyD_ex, wNoP_run, onInt_int, wPart_run, fSl_tup, fSl_rls, fSl_str, fSl_ob, wSl_run, gIn_run, gNotIn_run, fSorted_ob, wLstRg1_run, wChainN_run, chainRun_last, chainRun_cons, spR_run,
  Sq.gSub, gFdiv, gMod, gLt, gLe, gGt, gGe, gAddI, gPowW, gLen_run, gAbs_run, gInt_run, gAll_run, gAny_run, gSum_run, gTuple_run, gList_run, gSorted_run, gRepr_run, gMax2_run, gMin2_run, gAppend_run, gExtend_run, CT.set_one, CT.set_many, CT.slots, setAll, wipeE, lcG_nil,
  List.getElem?_cons_zero, List.getElem?_cons_succ, List.getElem?_nil, Int.cast_ofNat_Int, List.set_cons_zero, List.set_cons_succ, List.length_cons, List.length_nil, ev0, List.map_cons, List.map_nil, List.cons_append, List.nil_append, List.replicate_succ, List.replicate_zero, Nat.reduceSub, Nat.reduceAdd, mset_same, decide_true, decide_false, if_true, if_false, ite_true, ite_false, Bool.false_eq_true, Bool.true_eq_false, reduceCtorEq, Bool.not_true, Bool.not_false, true_and, and_true, decide_eq_true_eq, Bool.not_eq_true', decide_eq_false_iff_not, ite_not, isA, atI_0, atI_1, atI_2, atI_3, atI_m4, ixN_0, ixN_1, ixN_30, ixN_31, ixN_32])
/-- b is brought near to nought, step by step -/
theorem norm_read {Dd : PD} {x0 x1 : Option D} {A B C : Int} {μ : Mu} (hA : 0 < A) (hA2 : A ≤ 10000000000000) (hB : -20000000000000 < B) (hB2 : B < 20000000000000)
    (h : ∀ k, -A < B + 2 * A * k → B + 2 * A * k ≤ A → (k = 0 ∨ ¬(-A < B ∧ B ≤ A)) → -30000000000000 < k → k < 30000000000000 → Dd.nx [x0, x1, some (.int A), some (.int B), some (.int C), some (.int k)] μ) :
    (wWhile (wNotT (wTB (wChainN (wNeg (wVar 2)) [(gLt, wOp gAdd (wVar 3) (wOp gMul (wOp gMul (wC (.int 2)) (wVar 2)) (wVar 5))), (gLe, wVar 2)]))) (wSet 5 (wOp gAdd (wVar 5) (wIfE (wTB (wOp gLe (wVar 3) (wNeg (wVar 2)))) (wC (.int 1)) (wNeg (wC (.int 1))))))).run Dd
      [x0, x1, some (.int A), some (.int B), some (.int C), some (.int 0)] μ := by
  refine wWhile_by (fun m ρ μ' => μ' = μ ∧ ∃ k : Int, ρ = [x0, x1, some (.int A), some (.int B), some (.int C), some (.int k)] ∧ ((k = 0 ∧ -A < B ∧ B ≤ A) ∨ (B ≤ -A ∧ 0 ≤ k ∧ B + 2 * A * k ≤ A ∧ k ≤ -B) ∨ (A < B ∧ k ≤ 0 ∧ -A < B + 2 * A * k ∧ -k ≤ B)) ∧ m = (if B ≤ -A then (A - (B + 2 * A * k)).toNat else (B + 2 * A * k + A).toNat)) _ ⟨rfl, 0, rfl, ?_, rfl⟩ ?_
  · rcases Int.lt_or_le A B with g | g
    · exact .inr (.inr ⟨g, by omega, by omega, by omega⟩)
    · rcases Int.lt_or_le (-A) B with g2 | g2
      · exact .inl ⟨rfl, g2, g⟩
      · exact .inr (.inl ⟨g2, by omega, by omega, by omega⟩)
  rintro m ρ μ' ⟨rfl, k, rfl, hk, rfl⟩
  have kb : -20000000000000 ≤ k ∧ k ≤ 20000000000000 := by omega
  walk_at "sq"
  refine ⟨mulOk_l (by decide) (by decide), mulOk_r (by omega) (by omega), ?_⟩
  have e1 : 2 * A * (k + 1) = 2 * A * k + 2 * A := by rw [Int.mul_add, Int.mul_one]
  have e2 : 2 * A * (k + -1) = 2 * A * k - 2 * A := by rw [Int.mul_add]; omega
  rcases hk with ⟨rfl, g1, g2⟩ | ⟨g1, g2, g3, g4⟩ | ⟨g1, g2, g3, g4⟩
  · rw [if_pos (by omega), if_pos (by omega)]
    exact h 0 (by omega) (by omega) (.inl rfl) (by omega) (by omega)
  · have m1 : 1 * k ≤ A * k := Int.mul_le_mul_of_nonneg_right (by omega) g2
    have m2 : 2 * A * k = 2 * (A * k) := Int.mul_assoc _ _ _
    by_cases c1 : -A < B + 2 * A * k
    · rw [if_pos c1, if_pos g3]
      exact h k c1 g3 (.inr fun z => by omega) (by omega) (by omega)
    · rw [if_neg c1, if_pos g1]
      refine ⟨_, ?_, k + 1, rfl, .inr (.inl ⟨g1, by omega, by omega, by omega⟩), rfl⟩
      rw [if_pos g1, if_pos g1]
      omega
  · have m1 : 1 * -k ≤ A * -k := Int.mul_le_mul_of_nonneg_right (by omega) (by omega)
    have m2 : 2 * A * k = 2 * (A * k) := Int.mul_assoc _ _ _
    have m3 : A * -k = -(A * k) := Int.mul_neg _ _
    have n1 : ¬ B ≤ -A := by omega
    rw [if_pos g3]
    by_cases c1 : B + 2 * A * k ≤ A
    · rw [if_pos c1]
      exact h k g3 c1 (.inr fun z => by omega) (by omega) (by omega)
    · rw [if_neg c1, if_neg n1]
      refine ⟨_, ?_, k + -1, rfl, .inr (.inr ⟨g1, by omega, by omega, by omega⟩), rfl⟩
      rw [if_neg n1, if_neg n1]
      omega
/-- a turn of any size -/
theorem detB_inv {d : D} (h : detB d = true) : ∃ p q r s, d = t4 p q r s ∧ p * s - q * r = 1 := by
  unfold detB at h
  split at h
  · exact ⟨_, _, _, _, rfl, of_decide_eq_true h⟩
  · cases h
theorem vp_big {μ : Mu} {p : Addr} {ns : List Int} (h : VP μ p 1 (.tup (ns.map D.int))) : ∀ x ∈ ns, -10 ^ 30 < x ∧ x < 10 ^ 30 := fun x hx => by
  have := h.parts.2 (.int x) (List.mem_map.mpr ⟨x, hx, rfl⟩)
  rcases this with h | ⟨_, e, _⟩
  · cases h with
    | int h => exact h
  · cases e
theorem wd_of {x : Int} (h : -10 ^ 30 < x ∧ x < 10 ^ 30) : Wd x := by
  unfold Wd
  have e : (10 ^ 30 : Nat) < 2 ^ 100 := by decide
  have e2 : (2 ^ 100 : Nat) ≤ 2 ^ 1920 := Nat.pow_le_pow_right (by decide) (by decide)
  omega
theorem shown_bl (b : Bool) : (Sq.encD (.bl b)).shown.length = if b then 4 else 5 := by cases b <;> rfl
theorem shown_three (x y z : D) : (Sq.encD (.tup [x, y, z])).shown.length = (Sq.encD x).shown.length + (Sq.encD y).shown.length + (Sq.encD z).shown.length + 6 := by
  have e : (Sq.encD (.tup [x, y, z])).shown = tupleText [(Sq.encD x).shown, (Sq.encD y).shown, (Sq.encD z).shown] := by
    simp [Sq.encD, encDs, PyData.shown, PyData.shownAll]
  rw [e]
  unfold tupleText
  simp only [Str.join, Str.length_append]
  have h1 : (Str.ofString "(").length = 1 := rfl
  have h2 : (Str.ofString ", ").length = 2 := rfl
  have h3 : (Str.ofString (if ([(Sq.encD x).shown, (Sq.encD y).shown, (Sq.encD z).shown].length == 1) = true then ",)" else ")")).length = 1 := rfl
  rw [h1, h2, h3]
  omega
/-- an int, or a bool that is shown longer -/
theorem shown_or {x : D} {a : Int} (h : x = .int a ∨ ∃ b : Bool, x = .bl b ∧ a = if b then 1 else 0) : (x = .int a ∨ (Sq.encD (.int a)).shown.length < (Sq.encD x).shown.length) ∧ (Sq.encD (.int a)).shown.length ≤ (Sq.encD x).shown.length := by
  rcases h with rfl | ⟨b, rfl, rfl⟩
  · exact ⟨.inl rfl, Nat.le_refl _⟩
  · cases b
    · have e : (Sq.encD (.int (if false = true then 1 else 0))).shown.length = 1 := by decide +kernel
      rw [e, shown_bl]
      exact ⟨.inr (by decide), by decide⟩
    · have e : (Sq.encD (.int (if true = true then 1 else 0))).shown.length = 1 := by decide +kernel
      rw [e, shown_bl]
      exact ⟨.inr (by decide), by decide⟩
theorem small_or {x : D} {a : Int} (h : x = .int a ∨ ∃ b : Bool, x = .bl b ∧ a = if b then 1 else 0) (hp : Pu 2 x) : smallI a := by
  rcases h with rfl | ⟨b, rfl, rfl⟩
  · rcases hp with h | ⟨_, e, _⟩
    · cases h with
      | int h => exact h
    · cases e
  · cases b <;> exact ⟨by decide, by decide⟩
theorem rd_law_is_plain (Z : Ad) (ds : List D) (μ : Mu) (Q : PQ) (X : XQ) (hl : ds.length = 2) (h : S_law_is_plain.run ds μ Q X) : (w_law_is_plain Z).run (bodyD Q X) (ev0 2 ds) μ := by
  obtain ⟨v, a, b, c, rfl, ⟨p, hv⟩, q⟩ := h
  unfold w_law_is_plain
  rcases hv.seen.tup with ⟨xs, rfl⟩ | ⟨e1, e2⟩
  · obtain ⟨hn, hp⟩ := hv.parts
    walk_at "sq"
    refine eq_f3 hp hn fun k hk => ?_
    cases k with
    | false =>
      exact .of (q false ⟨(fun z => nomatch z), fun z => by cases z; rw [eqv_self] at hk; cases hk⟩)
    | true =>
      rw [if_pos rfl]
      obtain ⟨x, y, z, rfl, k1, k2, k3⟩ := eqv_three hk
      have ex := eqv_int k1 (hp x (by simp))
      have ey := eqv_int k2 (hp y (by simp))
      have ez := eqv_int k3 (hp z (by simp))
      refine ((Pu.tup hp hn).sm).repr (by decide) (by decide) ?_
      have sa := SmD.int (small_or ex (hp x (by simp)))
      have sb := SmD.int (small_or ey (hp y (by simp)))
      have sc := SmD.int (small_or ez (hp z (by simp)))
      have s3 : SmD 1 ((31 + 2) * 3 + 3) (f3 a b c) := smd_tup (all1 sa (all1 sb (all1 sc all0)))
      refine s3.repr (by decide) (by decide) ?_
      walk_at "sq"
      refine .of (q _ ?_)
      rw [decide_eq_true_eq]
      constructor
      · intro e
        have e := congrArg Str.length e
        rw [show f3 a b c = .tup [.int a, .int b, .int c] from rfl, shown_three, shown_three] at e
        obtain ⟨x1, x2⟩ := shown_or ex
        obtain ⟨y1, y2⟩ := shown_or ey
        obtain ⟨z1, z2⟩ := shown_or ez
        have fx : x = .int a := by rcases x1 with h | h; exact h; omega
        have fy : y = .int b := by rcases y1 with h | h; exact h; omega
        have fz : z = .int c := by rcases z1 with h | h; exact h; omega
        rw [fx, fy, fz]
      · intro e
        rw [e]
  · simp only [wRet_run, wAndV_run, wIsi_run, wVar_run, ev0, List.map_cons, List.cons_append, List.getElem?_cons_zero, e2]
    walk_at "sq"
    exact .of (q false ⟨(fun z => nomatch z), fun z => absurd z (not_f3 e1)⟩)
theorem rd_law_least (Z : Ad) (ds : List D) (μ : Mu) (Q : PQ) (X : XQ) (hl : ds.length = 1) (h : S_law_least.run ds μ Q X) : (w_law_least Z).run (bodyD Q X) (ev0 6 ds) μ := by
  obtain ⟨a, b, c, rfl, hb, hp, q⟩ := h
  unfold w_law_least
  walk_at "sq"
  refine wWhile_by (fun m ρ μ' => μ' = μ ∧ ∃ A B C p q r s e2 e3 e4 e5, ρ = [some (f3 a b c), some (f3 A B C), e2, e3, e4, e5] ∧ To a b c A B C p q r s ∧ Way a b c A B C ∧ meas A B C = m) _ ⟨rfl, a, b, c, 1, 0, 0, 1, none, none, none, none, rfl, .id, ⟨hp, by have := hb.2.1; omega, by have := hb.2.2.2.2.2; omega, rfl⟩, rfl⟩ ?_
  rintro m ρ μ' ⟨rfl, A, B, C, p, q', r, s, e2, e3, e4, e5, rfl, ht, hw, hm⟩
  walk_at "sq"
  refine ⟨_, ⟨A, B, C, rfl, rfl⟩, ?_⟩
  walk_at "sq"
  by_cases hred : Red A B C
  · rw [if_pos hred]
    exact .of (q A B C ⟨_, _, _, _, ht, hred⟩)
  · rw [if_neg hred]
    have b64 : ∀ {x : Int}, -100000000000000 ≤ x → x ≤ 100000000000000 → Small x := fun h1 h2 => ⟨by omega, by omega⟩
    -- one norm, from a form on the way
    have step : ∀ {A' B' C' p1 q1 r1 s1 : Int} (x2 : Int), To a b c A' B' C' p1 q1 r1 s1 → Way a b c A' B' C' → (meas A' B' C' < m ∨ (meas A' B' C' ≤ m ∧ ¬(-A' < B' ∧ B' ≤ A'))) → ∀ k, -A' < B' + 2 * A' * k → B' + 2 * A' * k ≤ A' → (k = 0 ∨ ¬(-A' < B' ∧ B' ≤ A')) → -30000000000000 < k → k < 30000000000000 →
        S_law_turned.run [f3 A' B' C', .tup [.int 1, .int k, .int 0, .int 1]] μ' (fun d μ1 => ∃ m', m' < m ∧ μ1 = μ' ∧ ∃ A B C p q r s e2 e3 e4 e5, [some (f3 a b c), some d, some (.int A'), some (.int B'), some (.int C'), some (.int k)] = [some (f3 a b c), some (f3 A B C), e2, e3, e4, e5] ∧ To a b c A B C p q r s ∧ Way a b c A B C ∧ meas A B C = m') (SubX X) := by
      intro A' B' C' p1 q1 r1 s1 _ ht hw hlt k h1 h2 h3 h4 h5
      have bB := hw.b
      have hA := hw.1.1
      have hC := hw.1.c
      have hA2 := hw.2.1
      have hC2 := hw.2.2.1
      refine ⟨_, ⟨A', B', C', 1, k, 0, 1, rfl, b64 (by omega) (by omega), b64 (by omega) (by omega), b64 (by omega) (by omega), ⟨by omega, by omega⟩, ⟨by decide, by decide⟩, ⟨by decide, by decide⟩, ⟨by omega, by omega⟩, ⟨by decide, by decide⟩, ⟨by decide, by decide⟩, rfl⟩, ?_⟩
      have e1 : val A' B' C' 1 0 = A' := by unfold val; grind
      have e2 : mid A' B' C' 1 k 0 1 = B' + 2 * A' * k := by unfold mid; grind
      have e3 : val A' B' C' k 1 = A' * k * k + B' * k + C' := by unfold val; grind
      rw [e1, e2, e3]
      refine ⟨_, ?_, rfl, _, _, _, _, _, _, _, _, _, _, _, rfl, ht.comp (to_norm A' B' C' k), way_norm hb hp hw h1 h2, rfl⟩
      rcases h3 with rfl | h3
      · have e4 : B' + 2 * A' * 0 = B' := by omega
        have e5 : A' * 0 * 0 + B' * 0 + C' = C' := by omega
        rw [e4, e5]
        rw [e4] at h1 h2
        rcases hlt with g | g
        · exact g
        · exact absurd ⟨h1, h2⟩ g.2
      · have := meas_norm (C := C') (C' := A' * k * k + B' * k + C') h3 h1 h2
        omega
    have hA := hw.1.1
    have hC := hw.1.c
    have bB := hw.b
    have hA2 := hw.2.1
    have hC2 := hw.2.2.1
    have go : ∀ {A' B' C' p1 q1 r1 s1 : Int}, To a b c A' B' C' p1 q1 r1 s1 → Way a b c A' B' C' → (meas A' B' C' < m ∨ (meas A' B' C' ≤ m ∧ ¬(-A' < B' ∧ B' ≤ A'))) → True := fun _ _ _ => trivial
    have sw1 : C < A → meas C (-B) A < m := fun h => hm ▸ meas_swap1 (B := B) hC h
    have sw2 : A = C → B < 0 → meas C (-B) A < m := fun h h2 => hm ▸ meas_swap2 hA h h2
    have wsw := way_swap hw
    have tsw := ht.comp (to_swap A B C)
    have bsw := wsw.b
    by_cases h1 : C < A
    · rw [if_pos h1]
      exact norm_read hC hC2 bsw.1 bsw.2 fun k k1 k2 k3 k4 k5 => step 0 tsw wsw (.inl (sw1 h1)) k k1 k2 k3 k4 k5
    · rw [if_neg h1]
      have hn : ¬(A = C ∧ B < 0) → ¬(-A < B ∧ B ≤ A) := fun h2 ⟨g1, g2⟩ => hred ⟨g1, g2, by omega, by omega⟩
      by_cases h2 : A = C
      · rw [if_pos h2]
        by_cases h3 : B < 0
        · rw [if_pos h3]
          exact norm_read hC hC2 bsw.1 bsw.2 fun k k1 k2 k3 k4 k5 => step 0 tsw wsw (.inl (sw2 h2 h3)) k k1 k2 k3 k4 k5
        · rw [if_neg h3]
          exact norm_read hA hA2 bB.1 bB.2 fun k k1 k2 k3 k4 k5 => step 0 ht hw (.inr ⟨by omega, hn fun z => h3 z.2⟩) k k1 k2 k3 k4 k5
      · rw [if_neg h2]
        exact norm_read hA hA2 bB.1 bB.2 fun k k1 k2 k3 k4 k5 => step 0 ht hw (.inr ⟨by omega, hn fun z => h2 z.1⟩) k k1 k2 k3 k4 k5
theorem bd_small {a b c : Int} (h : Bd a b c) : Small a ∧ Small b ∧ Small c := by
  obtain ⟨h1, h2, h3, h4, h5, h6⟩ := h
  exact ⟨⟨by omega, by omega⟩, ⟨by omega, by omega⟩, ⟨by omega, by omega⟩⟩
/-- this law's own turning, of a form that is bounded and a turn of any size -/
theorem law_turned {a b c p q u w : Int} {μ : Mu} {pt : Addr} {Q : PQ} {X : XQ} (hb : Bd a b c) (hv : VP μ pt 1 (t4 p q u w)) (h : Q (f3 (val a b c p u) (mid a b c p q u w) (val a b c q w)) μ) : S_law_turned.run [f3 a b c, t4 p q u w] μ Q X := by
  obtain ⟨s1, s2, s3⟩ := bd_small hb
  have g := vp_big (ns := [p, q, u, w]) hv
  have g1 := g p (by simp)
  have g2 := g q (by simp)
  have g3 := g u (by simp)
  have g4 := g w (by simp)
  exact ⟨_, ⟨a, b, c, p, q, u, w, rfl, s1, s2, s3, ⟨by omega, by omega⟩, ⟨by omega, by omega⟩, ⟨by omega, by omega⟩, ⟨by omega, by omega⟩, ⟨by omega, by omega⟩, ⟨by omega, by omega⟩, rfl⟩, h⟩
theorem turn_wd {μ : Mu} {pt : Addr} {y : D} (hv : VP μ pt 1 y) : ∀ ns : List Int, y = .tup (ns.map D.int) → ∀ x ∈ ns, Wd x := fun ns e x hx => wd_of (vp_big (e ▸ hv) x hx)
theorem rd_law_is_least_due (Z : Ad) (ds : List D) (μ : Mu) (Q : PQ) (X : XQ) (hl : ds.length = 2) (h : S_law_is_least_due.run ds μ Q X) : (w_law_is_least_due Z).run (bodyD Q X) (ev0 2 ds) μ := by
  obtain ⟨a, b, c, v, rfl, h1, h2, ⟨p, hv⟩, q⟩ := h
  unfold w_law_is_least_due
  have no : (∀ A B C p q r s, v ≠ .tup [f3 A B C, t4 p q r s]) → Q (.bl false) μ := fun hn => q false ⟨(fun z => nomatch z), fun ⟨A, B, C, p, q, r, s, z, _⟩ => absurd z (hn A B C p q r s)⟩
  rcases hv.seen.tup with ⟨xs, rfl⟩ | ⟨e1, e2⟩
  · obtain ⟨hn, hp⟩ := hv.parts
    walk_at "sq"
    by_cases hx : (xs.length : Int) = 2
    · match xs, hx, hp, q with
      | [x, y], _, hp, q =>
        rw [if_pos (show (([x, y] : List D).length : Int) = 2 from rfl)]
        have hy := hp y (by simp)
        refine ⟨y, rfl, hy.seen2, turn_wd hy, ?_⟩
        rcases Bool.eq_false_or_eq_true (detB y) with ey | ey
        · rw [ey]
          obtain ⟨p', q', u, w, rfl, ht⟩ := detB_inv ey
          walk_at "sq"
          refine law_turned h1 hy ?_
          refine ⟨x, _, _, _, rfl, ⟨p, hp x (by simp)⟩, fun k hk => ?_⟩
          cases k with
          | true =>
            obtain rfl := hk.mp rfl
            walk_at "sq"
            refine ⟨_, ⟨_, _, _, rfl, rfl⟩, .of (q _ ⟨fun z => ?_, fun ⟨A, B, C, p, q, r, s, z, k⟩ => ?_⟩)⟩
            · exact ⟨_, _, _, p', q', u, w, rfl, ⟨ht, rfl, rfl, rfl⟩, of_decide_eq_true z⟩
            · cases z; exact decide_eq_true k.red
          | false =>
            walk_at "sq"
            refine .of (q false ⟨fun z => (nomatch z), fun ⟨A, B, C, p, q, r, s, z, k⟩ => ?_⟩)
            cases z
            obtain ⟨_, rfl, rfl, rfl⟩ := k.to
            exact absurd (hk.mpr rfl) (fun z => nomatch z)
        · rw [ey]
          walk_at "sq"
          refine .of (q false ⟨fun z => (nomatch z), fun ⟨A, B, C, p1, q1, r1, s1, z, k⟩ => ?_⟩)
          cases z
          have : detB (t4 p1 q1 r1 s1) = true := decide_eq_true k.to.det
          rw [this] at ey
          cases ey
    · rw [if_neg hx]
      refine .of (no fun A B C p q r s z => ?_)
      cases z
      exact hx rfl
  · simp only [wSeq_run, wIf_run, wOrT_run, wNotT_run, wTB_run, wIsi_run, wVar_run, ev0, List.map_cons, List.cons_append, List.getElem?_cons_succ, List.getElem?_cons_zero, e2]
    walk_at "sq"
    exact .of (no fun A B C p q r s z => by subst z; cases e1)
theorem not_told {v : D} (h : isTup v = false) : toldB v = false := by cases v <;> first | rfl | cases h
theorem rd_law_is_same_due (Z : Ad) (ds : List D) (μ : Mu) (Q : PQ) (X : XQ) (hl : ds.length = 3) (h : S_law_is_same_due.run ds μ Q X) : (w_law_is_same_due Z).run (bodyD Q X) (ev0 3 ds) μ := by
  obtain ⟨a, b, c, d, e, f, v, rfl, h1, h2, h3, h4, ⟨p, hv⟩, q⟩ := h
  unfold w_law_is_same_due
  have no : toldB v = false → Q (.bl false) μ := fun hn => q false ⟨(fun z => nomatch z), fun z => by rw [due_told z] at hn; cases hn⟩
  refine seq_by (fun ρ μ' => ρ = [some (f3 a b c), some (f3 d e f), some v] ∧ μ' = μ ∧ toldB v = true) ?_ ?_
  · rcases hv.seen.tup with ⟨xs, rfl⟩ | ⟨e1, e2⟩
    · have hs := hv.seen2
      walk_at "sq"
      refine in_23 ?_
      by_cases hn : (xs.length : Int) = 2 ∨ (xs.length : Int) = 3
      · rw [decide_eq_true hn]
        match xs, hn with
        | x :: r, hn =>
          have hr : r.length = 1 ∨ r.length = 2 := by rw [List.length_cons] at hn; omega
          have e0 : atI (x :: r) 0 = some x := atI_nat (n := 0) rfl
          rw [e0]
          cases x with
          | str s =>
            walk_at "sq"
            exact decide_eq_true hr
          | ob l =>
            have px := (hs.parts _ rfl).2 (.ob l) List.mem_cons_self
            obtain ⟨b', eb⟩ := px .str
            unfold isA at eb
            dsimp only at eb ⊢
            have eb2 : b' = false := by
              split at eb <;> first | (cases eb; rfl) | cases eb
            rw [eb, eb2]
            walk_at "sq"
            exact .of (no rfl)
          | rls l =>
            have px := (hs.parts _ rfl).2 (.rls l) List.mem_cons_self
            obtain ⟨b', eb⟩ := px .str
            cases eb
          | non => walk_at "sq"; exact .of (no rfl)
          | int _ => walk_at "sq"; exact .of (no rfl)
          | bl _ => walk_at "sq"; exact .of (no rfl)
          | tup _ => walk_at "sq"; exact .of (no rfl)
        | [], hn => exact absurd hn (by decide)
      · rw [decide_eq_false hn]
        exact .of (no (toldB_len hn))
    · simp only [wIf_run, wOrT_run, wNotT_run, wTB_run, wIsi_run, wVar_run, ev0, List.map_cons, List.cons_append, List.getElem?_cons_succ, List.getElem?_cons_zero, e2]
      walk_at "sq"
      exact .of (no (not_told e1))
  clear no
  rintro ρ μ' ⟨rfl, rfl, ev⟩
  rcases toldB_inv ev with ⟨x, y, rfl⟩ | ⟨x, y, z, rfl⟩
  · have hy := hv.parts.2 y (by simp)
    walk_at "sq"
    by_cases hx : x = Str.ofString "turn"
    · subst hx
      rw [if_pos rfl]
      refine ⟨y, rfl, hy.seen2, turn_wd hy, ?_⟩
      rcases Bool.eq_false_or_eq_true (detB y) with ey | ey
      · rw [ey]
        obtain ⟨p', q', u, w, rfl, ht⟩ := detB_inv ey
        walk_at "sq"
        refine law_turned h1 hy ?_
        refine EqB_tup (okf3 _ _ _) (okf3 d e f) (fun ee => ?_) fun ee => ?_
        · obtain ⟨e1, e2, e3⟩ := f3_inj ee
          exact .of (q true ⟨fun _ => .inl ⟨_, _, _, _, rfl, ht, e1, e2, e3⟩, fun _ => rfl⟩)
        · refine .of (q false ⟨(fun z => nomatch z), fun z => ?_⟩)
          obtain ⟨_, _, _, _, _, e1, k⟩ := due2 z
          cases e1
          exact absurd (by rw [k.eA, k.eB, k.eC]) ee
      · rw [ey]
        walk_at "sq"
        refine .of (q false ⟨(fun z => nomatch z), fun z => ?_⟩)
        obtain ⟨_, p, q, r, s, e1, k⟩ := due2 z
        have : detB (t4 p q r s) = true := decide_eq_true k.det
        rw [e1, this] at ey
        cases ey
    · rw [if_neg hx]
      have fin : SubQ Q (.bl false) μ' := .of (q false ⟨(fun z => nomatch z), fun z => absurd (due2 z).1 hx⟩)
      by_cases hx2 : x = Str.ofString "least"
      · rw [if_pos hx2, if_neg (by decide)]; exact fin
      · rw [if_neg hx2]; exact fin
  · have hy := hv.parts.2 y (by simp)
    have hz := hv.parts.2 z (by simp)
    walk_at "sq"
    by_cases hx2 : x = Str.ofString "least"
    · subst hx2
      rw [if_neg (fun z => by rw [str_ne] at z; exact z), if_pos rfl]
      refine ⟨a, b, c, rfl, h1, h2, fun A B C l1 => ?_⟩
      refine ⟨d, e, f, rfl, h3, h4, fun A' B' C' l2 => ?_⟩
      have fin : ∀ k : Bool, (k = true ↔ y = f3 A B C ∧ z = f3 A' B' C' ∧ ¬(A = A' ∧ B = B' ∧ C = C')) → SubQ Q (.bl k) μ' := fun k hk => .of (q k ⟨fun z => by
        obtain ⟨rfl, rfl, hn⟩ := hk.mp z
        exact .inr ⟨_, _, _, _, _, _, rfl, l1, l2, hn⟩, fun z => by
        obtain ⟨_, A1, B1, C1, A2, B2, C2, rfl, rfl, m1, m2, hn⟩ := due3 z
        obtain ⟨rfl, rfl, rfl⟩ := lst_uniq l1 m1
        obtain ⟨rfl, rfl, rfl⟩ := lst_uniq l2 m2
        exact hk.mpr ⟨rfl, rfl, hn⟩⟩)
      refine EqB_tup (okf3 _ _ _) (okf3 _ _ _) (fun ee => ?_) fun ee => ?_
      · walk_at "sq"
        exact fin false ⟨(fun z => nomatch z), fun z => absurd (f3_inj ee) z.2.2⟩
      · walk_at "sq"
        have hne : ¬(A = A' ∧ B = B' ∧ C = C') := fun ⟨g1, g2, g3⟩ => ee (by rw [g1, g2, g3])
        refine ⟨a, b, c, rfl, h1, h2, fun A2 B2 C2 l3 => ?_⟩
        obtain ⟨rfl, rfl, rfl⟩ := lst_uniq l1 l3
        refine ⟨y, _, _, _, rfl, ⟨p, hy⟩, fun ky hky => ?_⟩
        cases ky with
        | false =>
          walk_at "sq"
          exact fin false ⟨(fun z => nomatch z), fun z => hky.mpr z.1⟩
        | true =>
          walk_at "sq"
          refine ⟨d, e, f, rfl, h3, h4, fun A3 B3 C3 l4 => ?_⟩
          obtain ⟨rfl, rfl, rfl⟩ := lst_uniq l2 l4
          exact ⟨z, _, _, _, rfl, ⟨p, hz⟩, fun kz hkz => fin kz ⟨fun g => ⟨hky.mp rfl, hkz.mp g, hne⟩, fun g => hkz.mpr g.2.1⟩⟩
    · have fin : SubQ Q (.bl false) μ' := .of (q false ⟨(fun z => nomatch z), fun z => absurd (due3 z).1 hx2⟩)
      by_cases hx : x = Str.ofString "turn"
      · rw [if_pos hx, if_neg (by decide), if_neg hx2]; exact fin
      · rw [if_neg hx, if_neg hx2]; exact fin
end K9

/-! k09: papers are judged. -/
namespace K9
open PySem PySem.Spec PyProof.Rows L2 Sq
local macro_rules | `(tactic| walk_at "sq") => `(tactic| simp only [fList_tup, fList_ob, wBack_run, gStr_run, fStr_int, fStr_str, wUpper_run, wDct_run, gReprX_run, wIsX_run, wVal_run, wLam_run, wHeard_run, wRaise_run, wVar_run, wC_run, wOp_run, onBl_bl, gI_run, gAdd_int, gAdd_str, gAdd_tup, gMul_int, EqB_int, EqB_str, EqB_bl, gEq_run, gNe_run, wNeg_run, wNotV_run, wAndV_run, wOrV_run, wTB_run, wNotT_run, wAndT_run, wOrT_run, wIfE_run, runAll_nil, runAll_cons, wTup_run, wLst_run, gIx_tup, gIx_rls, gIx_str, gIx_ob, wB_run, fLen_tup, fLen_rls, fLen_str, fLen_ob, fAbs_int, fInt_int, fInt_bl, fTuple_tup, fTuple_ob, wIsi_run, wCall_run, wNext_run, wSeq_run, wBreak_run, wCont_run, wNever_run, wExpr_run, wRet_run, wRetN_run, wIf_run, gN_run, runGs_nil, runGs_cons, gT_run, gS_run, sIx_ob, wAsg_run, wSet_run, wPar_run, wPar3_run, wSeqI_run, fSeq_tup, fSeq_rls, fSeq_ob, wRng1_run, fRng1_int, wRng2_run, fRng2_int, wFor_run, wLc_run, wYes_run, onLst_ob, wMt_run, fAppend_run, fExtend_run, wAug_run, bodyD_nx, bodyD_rt, bodyD_ex, wNoP_run, onInt_int, wPart_run, fSl_tup, fSl_rls, fSl_str, fSl_ob, wSl_run, gIn_run, gNotIn_run, fSorted_ob, wLstRg1_run, wChainN_run, chainRun_last, chainRun_cons, spR_run,
  Sq.gSub, gFdiv, gMod, gLt, gLe, gGt, gGe, gAddI, gPowW, gLen_run, gAbs_run, gInt_run, gAll_run, gAny_run, gSum_run, gTuple_run, gList_run, gSorted_run, gRepr_run, gMax2_run, gMin2_run, gAppend_run, gExtend_run, CT.set_one, CT.set_many, CT.slots, setAll, wipeE, lcG_nil,
  List.getElem?_cons_zero, List.getElem?_cons_succ, List.getElem?_nil, Int.cast_ofNat_Int, List.set_cons_zero, List.set_cons_succ, List.length_cons, List.length_nil, ev0, List.map_cons, List.map_nil, List.cons_append, List.nil_append, List.replicate_succ, List.replicate_zero, Nat.reduceSub, Nat.reduceAdd, mset_same, decide_true, decide_false, if_true, if_false, ite_true, ite_false, Bool.false_eq_true, Bool.true_eq_false, reduceCtorEq, Bool.not_true, Bool.not_false, true_and, and_true, decide_eq_true_eq, Bool.not_eq_true', decide_eq_false_iff_not, ite_not, isA, atI_0, atI_1, atI_2, atI_3, atI_m4, ixN_0, ixN_1, ixN_30, ixN_31, ixN_32])
def allL (a b c d e f : Int) (L : List Tn) : Prop := L.Nodup ∧ ∀ t : Tn, t ∈ L ↔ To a b c d e f t.1 t.2.1 t.2.2.1 t.2.2.2
abbrev ToT (a b c A B C : Int) (t : Tn) : Prop := To a b c A B C t.1 t.2.1 t.2.2.1 t.2.2.2
theorem thenT_assoc (t u v : Tn) : thenT (thenT t u) v = thenT t (thenT u v) := by
  unfold thenT
  simp only [Prod.mk.injEq]
  refine ⟨?_, ?_, ?_, ?_⟩ <;> grind
def idT : Tn := (1, 0, 0, 1)
def detT (t : Tn) : Int := t.1 * t.2.2.2 - t.2.1 * t.2.2.1
theorem then_id (t : Tn) : thenT t idT = t := by
  obtain ⟨p, q, r, s⟩ := t
  unfold thenT idT
  simp
theorem id_then (t : Tn) : thenT idT t = t := by
  obtain ⟨p, q, r, s⟩ := t
  unfold thenT idT
  simp
theorem back_then {t : Tn} (h : detT t = 1) : thenT (backT t) t = idT := by
  obtain ⟨p, q, r, s⟩ := t
  unfold detT at h
  unfold thenT idT backT
  simp only [Prod.mk.injEq] at *
  refine ⟨?_, ?_, ?_, ?_⟩ <;> grind
theorem then_back {t : Tn} (h : detT t = 1) : thenT t (backT t) = idT := by
  obtain ⟨p, q, r, s⟩ := t
  unfold detT at h
  unfold thenT idT backT
  simp only [Prod.mk.injEq] at *
  refine ⟨?_, ?_, ?_, ?_⟩ <;> grind
theorem via_inv {t u : Tn} (h : detT t = 1) : thenT (thenT (backT t) (thenT (thenT t u) (backT t))) t = u := by
  rw [thenT_assoc, thenT_assoc, thenT_assoc, back_then h, then_id, ← thenT_assoc, back_then h, id_then]
theorem via_inv' {t u : Tn} (h : detT t = 1) : thenT (thenT t (thenT (thenT (backT t) u) t)) (backT t) = u := by
  rw [thenT_assoc, thenT_assoc, thenT_assoc, then_back h, then_id, ← thenT_assoc, then_back h, id_then]
theorem ToT.comp {a b c A B C A' B' C' : Int} {t u : Tn} (h : ToT a b c A B C t) (k : ToT A B C A' B' C' u) : ToT a b c A' B' C' (thenT t u) := To.comp h k
theorem ToT.back {a b c A B C : Int} {t : Tn} (h : ToT a b c A B C t) : ToT A B C a b c (backT t) := To.back h
theorem ToT.dt {a b c A B C : Int} {t : Tn} (h : ToT a b c A B C t) : detT t = 1 := h.det
theorem own_nodup (a b c : Int) : (ownL a b c).Nodup := by
  unfold ownL
  split <;> split <;> decide
/-- own turns, by way of the least one, are all own turns -/
theorem via_all {a b c A B C : Int} {t : Tn} (h : ToT a b c A B C t) (hr : Red A B C) {us : List Tn} (pu : us.Perm (ownL A B C)) : allL a b c a b c (viaT t us) := by
  have hd := h.dt
  constructor
  · unfold viaT
    rw [List.Nodup, List.pairwise_map]
    refine List.Pairwise.imp (fun {u v} hne e => hne ?_) (pu.nodup_iff.mpr (own_nodup A B C))
    rw [← via_inv (t := t) (u := u) hd, e, via_inv hd]
  · intro x
    unfold viaT
    rw [List.mem_map]
    constructor
    · rintro ⟨u, hu, rfl⟩
      have := (own_iff (p := u.1) (q := u.2.1) (r := u.2.2.1) (s := u.2.2.2) hr).mpr (pu.mem_iff.mp hu)
      exact (ToT.comp (ToT.comp h (show ToT A B C A B C u from this)) h.back)
    · intro hx
      refine ⟨thenT (thenT (backT t) x) t, ?_, via_inv' hd⟩
      have g : ToT A B C A B C (thenT (thenT (backT t) x) t) := ToT.comp (ToT.comp h.back (show ToT a b c a b c x from hx)) h
      exact pu.mem_iff.mpr ((own_iff hr).mp g)
theorem sortT_mem {L : List Tn} {d : D} (h : d ∈ sortT L) : ∃ t ∈ L, d = tnD t := by
  unfold sortT at h
  obtain ⟨t, ht, rfl⟩ := List.mem_map.mp (List.mem_mergeSort.mp h)
  exact ⟨t, ht, rfl⟩
theorem sortT_len (L : List Tn) : (sortT L).length = L.length := by
  unfold sortT
  rw [List.length_mergeSort, List.length_map]
theorem same_due {a b c d e f A B C p q r s A' B' C' p' q' r' s' : Int} (k : Lst a b c A B C p q r s) (l : Lst d e f A' B' C' p' q' r' s') : SameDue a b c d e f (sameD A B C p q r s A' B' C' p' q' r' s') := by
  unfold sameD
  by_cases h : A = A' ∧ B = B' ∧ C = C'
  · rw [if_pos h]
    obtain ⟨rfl, rfl, rfl⟩ := h
    exact .inl ⟨_, _, _, _, rfl, k.to.comp l.to.back⟩
  · rw [if_neg h]
    exact .inr ⟨_, _, _, _, _, _, rfl, ⟨_, _, _, _, k⟩, ⟨_, _, _, _, l⟩, h⟩
theorem bn_t4 {p q r s : Int} (n : Nat) (h1 : Lt p) (h2 : Lt q) (h3 : Lt r) (h4 : Lt s) : Bn (n + 2) (t4 p q r s) := by
  have g : ∀ {x : Int}, Lt x → Bn (n + 1) (.int x) := fun ⟨a, b⟩ => bn_int n (by omega) (by omega)
  exact bn_tup (all1 (g h1) (all1 (g h2) (all1 (g h3) (all1 (g h4) all0)))) (fun z => nomatch z) (show 4 ≤ 10 by decide)
theorem bn_f3 {a b c : Int} (n : Nat) (h1 : -10 ^ 20 ≤ a ∧ a ≤ 10 ^ 20) (h2 : -10 ^ 20 ≤ b ∧ b ≤ 10 ^ 20) (h3 : -10 ^ 20 ≤ c ∧ c ≤ 10 ^ 20) : Bn (n + 2) (f3 a b c) := by
  exact bn_tup (all1 (bn_int n h1.1 h1.2) (all1 (bn_int n h2.1 h2.2) (all1 (bn_int n h3.1 h3.2) all0))) (fun z => nomatch z) (show 3 ≤ 10 by decide)
theorem bn_bd {a b c : Int} (n : Nat) (h : Bd a b c) : Bn (n + 2) (f3 a b c) := by
  obtain ⟨h1, h2, h3, h4, h5, h6⟩ := h
  exact bn_f3 n ⟨by omega, by omega⟩ ⟨by omega, by omega⟩ ⟨by omega, by omega⟩
theorem bn_lst {a b c A B C : Int} (n : Nat) (hb : Bd a b c) (hp : Pos a b c) (k : LstOf a b c A B C) : Bn (n + 2) (f3 A B C) := by
  obtain ⟨_, _, _, _, k⟩ := k
  obtain ⟨_, _, _, _, l5, l6⟩ := lst_small hb hp k
  have r := k.red
  obtain ⟨r1, r2, r3, _⟩ := r
  exact bn_f3 n ⟨by omega, by omega⟩ ⟨by omega, by omega⟩ ⟨by omega, by omega⟩
theorem due_bn {a b c d e f : Int} {v : D} (hb : Bd a b c) (hp : Pos a b c) (hb2 : Bd d e f) (hp2 : Pos d e f) (h : SameDue a b c d e f v) : Bn 3 v := by
  rcases h with ⟨p, q, r, s, rfl, k⟩ | ⟨A, B, C, A', B', C', rfl, k, l, _⟩
  · have t := to_tnb hb hp hb2 k
    exact bn_tup (all1 (bn_str _ strG_turn) (all1 (bn_t4 0 t.1 t.2.1 t.2.2.1 t.2.2.2.1) all0)) (fun z => nomatch z) (show 2 ≤ 10 by decide)
  · exact bn_tup (all1 (bn_str _ strG_least) (all1 (bn_lst 0 hb hp k) (all1 (bn_lst 0 hb2 hp2 l) all0))) (fun z => nomatch z) (show 3 ≤ 10 by decide)
theorem least_bn {a b c A B C p q r s : Int} (hb : Bd a b c) (hp : Pos a b c) (k : Lst a b c A B C p q r s) : Bn 3 (.tup [f3 A B C, t4 p q r s]) := by
  have t := lst_tnb hb hp k
  exact bn_tup (all1 (bn_lst 0 hb hp ⟨_, _, _, _, k⟩) (all1 (bn_t4 0 t.1 t.2.1 t.2.2.1 t.2.2.2.1) all0)) (fun z => nomatch z) (show 2 ≤ 10 by decide)
theorem due_tup {a b c d e f : Int} {v : D} (h : SameDue a b c d e f v) : ∃ xs, v = .tup xs ∧ xs.length ≤ 3 := by
  rcases h with ⟨p, q, r, s, rfl, k⟩ | ⟨A, B, C, A', B', C', rfl, k, l, _⟩
  · exact ⟨_, rfl, show 2 ≤ 3 by decide⟩
  · exact ⟨_, rfl, show 3 ≤ 3 by decide⟩
/-- lists may change, as long as they stay lists -/
theorem VP.set {μ : Mu} {p l : Addr} {L L' : List D} (e : μ l = some (.lst L)) : ∀ {n : Nat} {d : D}, VP μ p n d → VP (mset μ l (.lst L')) p n d
  | 0, _, h => h
  | _ + 1, _, .inl h => .inl h
  | _ + 1, _, .inr (.inl h) => .inr (.inl (by
      cases h with
      | @lst a ds ea na =>
        by_cases z : a = l
        · subst z; exact .lst (mset_same _ _ _) na
        · exact .lst (by rw [mset_ne z]; exact ea) na
      | @dct a ks ds ea na =>
        have z : a ≠ l := fun z => by rw [z, e] at ea; cases ea
        exact .dct (by rw [mset_ne z]; exact ea) na))
  | _ + 1, _, .inr (.inr ⟨ds, e', hl, h⟩) => .inr (.inr ⟨ds, e', hl, fun x hx => VP.set e (h x hx)⟩)
theorem VP.new {μ : Mu} {p l : Addr} {o : O} {n : Nat} {d : D} (hl : μ l = none) (h : VP μ p n d) : VP (mset μ l o) p n d := VP.keep (fun b o' _ e => at_new e hl) h
/-- the values gathered so far -/
structure VS (n : Nat) (μ0 μ : Mu) (p l : Addr) (L : List D) : Prop where
  x : PotX n μ0 μ p
  at_ : μ l = some (.lst L)
  ne : l ≠ p
  fresh : μ0 l = none
  all : ∀ v ∈ L, VP μ p 2 v
theorem VS.mk' {n : Nat} {μ0 μ : Mu} {p l : Addr} {L : List D} (x : PotX n μ0 μ p) (hl : μ l = none) (all : ∀ v ∈ L, VP μ p 2 v) : VS n μ0 (mset μ l (.lst L)) p l L :=
  have f : μ0 l = none := by
    cases e : μ0 l with
    | none => rfl
    | some o => rw [x.keep (fun z => x.1.ne hl z.symm) e] at hl; cases hl
  ⟨x.new hl, mset_same _ _ _, (fun z => x.1.ne hl z.symm), f, fun v hv => VP.new hl (all v hv)⟩
theorem VS.push {n : Nat} {μ0 μ : Mu} {p l : Addr} {L : List D} {v : D} (h : VS n μ0 μ p l L) (hv : VP μ p 2 v) : VS n μ0 (mset μ l (.lst (L ++ [v]))) p l (L ++ [v]) := by
  refine ⟨?_, mset_same _ _ _, h.ne, h.fresh, fun u hu => ?_⟩
  · obtain ⟨x1, x2⟩ := h.x
    refine ⟨?_, fun b o hb e => ?_⟩
    · obtain ⟨x, y, w, e, r⟩ := x1
      exact ⟨x, y, w, by rw [mset_ne (fun z => h.ne z.symm)]; exact e, r⟩
    · have : b ≠ l := fun z => by rw [z, h.fresh] at e; cases e
      rw [mset_ne this]
      exact x2 b o hb e
  · rcases List.mem_append.mp hu with hu | hu
    · exact VP.set h.at_ (h.all u hu)
    · rw [List.mem_singleton.mp hu]
      exact VP.set h.at_ hv
/-- two of them, in one -/
theorem VS.add {n : Nat} {μ0 μ : Mu} {p l r : Addr} {L M : List D} (h : VS n μ0 μ p l L) (hr : μ r = none) (hM : ∀ v ∈ M, VP μ p 2 v) (hl : L.length + M.length ≤ 1000) {Q : PQ} (q : ∀ k μ', VS n μ0 μ' p k (L ++ M) → (∀ b o, μ b = some o → μ' b = some o) → Q (.ob k) μ') : gAdd.run (.ob l) (.ob r) (mset μ r (.lst M)) Q := by
  rw [gAdd_ob, at_new h.at_ hr, mset_same]
  refine ⟨small_size (by omega), fun k hk => ?_⟩
  refine q k _ (.mk' (h.x.new hr) hk fun v hv => ?_) fun b o e => at_new (at_new e hr) hk
  rcases List.mem_append.mp hv with hv | hv
  · exact VP.new hr (h.all v hv)
  · exact VP.new hr (hM v hv)
/-- of own turns, the first ones: each leads the form to itself -/
theorem own_first {a b c A B C p q r s : Int} {us : List Tn} (k : Lst a b c A B C p q r s) (pu : us.Perm (ownL A B C)) {d : D} (h : d ∈ Sq.cutD (sortT (viaT (p, q, r, s) us)) none (some 2)) : ∃ t : Tn, d = tnD t ∧ To a b c a b c t.1 t.2.1 t.2.2.1 t.2.2.2 := by
  obtain ⟨t, ht, rfl⟩ := sortT_mem (mem_cut h)
  exact ⟨t, rfl, ((via_all (t := (p, q, r, s)) k.to k.red pu).2 t).mp ht⟩
theorem cut2_len (xs : List D) : (Sq.cutD xs none (some 2)).length ≤ 2 := by
  unfold Sq.cutD
  rw [List.length_take, List.length_drop]
  have e : HT.sIx xs.length xs.length (some 2) = min 2 xs.length := HT.sIx_nat _ _ 2
  rw [e]
  omega
theorem vp_bn {μ : Mu} {p : Addr} {v : D} (h : Bn 3 v) : VP μ p 2 v := h.vp
theorem vp_lt4 {μ : Mu} {pt : Addr} {p q r s : Int} (h : Tnb p q r s) : VP μ pt 1 (t4 p q r s) := (bn_t4 0 h.1 h.2.1 h.2.2.1 h.2.2.2.1).vp
theorem rd_law_are_papers_right (Z : Ad) (ds : List D) (μ : Mu) (Q : PQ) (X : XQ) (hl : ds.length = 3) (h : S_law_are_papers_right.run ds μ Q X) : (w_law_are_papers_right Z).run (bodyD Q X) (ev0 9 ds) μ := by
  obtain ⟨p, n, a, b, c, d, e, f, rfl, hb, hp, hb2, hp2, pa, hn, q⟩ := h
  unfold w_law_are_papers_right
  refine seq_by (fun ρ μ1 => μ1 = μ ∧ ∃ T A B C p' q' r s, ρ = [some (.ob p), some (f3 a b c), some (f3 d e f), some T, some (.tup [f3 A B C, t4 p' q' r s]), none, none, none, none] ∧ SameDue a b c d e f T ∧ Lst a b c A B C p' q' r s) ?_ ?_
  · walk_at "sq"
    refine ⟨_, _, rfl, seen_f3 _ _ _, seen_f3 _ _ _, good_bad hb hp, (fun _ => good_bad hb2 hp2), fun a' b' c' d' e' f' e1 e2 h1 h2 h3 h4 A B C p1 q1 r1 s1 A' B' C' p2 q2 r2 s2 k l => ?_⟩
    cases e1; cases e2
    refine ⟨_, rfl, seen_f3 _ _ _, good_bad hb hp, fun a' b' c' e1 _ _ A2 B2 C2 p3 q3 r3 s3 k3 => ?_⟩
    cases e1
    exact ⟨rfl, _, _, _, _, _, _, _, _, rfl, same_due k l, k3⟩
  rintro ρ μ1 ⟨rfl, T, A, B, C, p', q', r, s, rfl, hT, hL⟩
  have bT := due_bn hb hp hb2 hp2 hT
  have bL := least_bn hb hp hL
  have ht := lst_tnb hb hp hL
  refine seq_by (fun ρ μ2 => ∃ l L, ρ = [some (.ob p), some (f3 a b c), some (f3 d e f), some T, some (.tup [f3 A B C, t4 p' q' r s]), some (.ob l), none, none, none] ∧ VS n μ1 μ2 p l L ∧ L.length = 7) ?_ ?_
  · obtain ⟨xs, rfl, hx⟩ := due_tup hT
    walk_at "sq"
    refine fun l1 hl1 l hl => ⟨l, _, rfl, .mk' ((PotX.refl pa).new hl1) hl ?_, rfl⟩
    have xp := (bT.vp : VP μ1 p 2 _).parts
    refine all1 (VP.new hl1 bT.vp) (all1 (bL.vp) (all1 ?_ (all1 ?_ (all1 ?_ (all1 ?_ (all1 (vn _) all0))))))
    · exact .inr (.inl (.lst (mset_same _ _ _) (fun z => pa.ne hl1 z.symm)))
    · exact .tup (fun x hx => VP.new hl1 (xp.2 x (mem_cut hx))) (by have := len_cut xs none (some 1); omega)
    · exact (bn_tup (n := 2) (all1 (bn_str _ strG_turn) (all1 (bn_t4 0 ⟨by decide, by decide⟩ ⟨by decide, by decide⟩ ⟨by decide, by decide⟩ ⟨by decide, by decide⟩) all0)) (fun z => nomatch z) (show 2 ≤ 10 by decide)).vp
    · exact (bn_tup (n := 2) (all1 (bn_str _ strG_least) (all1 (bn_bd 0 hb) (all1 (bn_bd 0 hb2) all0))) (fun z => nomatch z) (show 3 ≤ 10 by decide)).vp
  rintro ρ μ2 ⟨l, L, rfl, v2, len2⟩
  refine seq_by (fun ρ μ2 => ∃ L, ρ = [some (.ob p), some (f3 a b c), some (f3 d e f), some T, some (.tup [f3 A B C, t4 p' q' r s]), some (.ob l), none, none, none] ∧ VS n μ1 μ2 p l L ∧ L.length = 8) ?_ ?_
  · walk_at "sq"
    rw [v2.at_]
    refine ⟨Nat.lt_of_lt_of_le (show _ < 16000000 by omega) sizeBig, L ++ [_], v2.push ?_, by rw [List.length_append, len2]; rfl⟩
    exact (bn_tup (n := 2) (all1 (bn_str _ strG_turn) (all1 (bn_t4 0 ht.1 ht.2.1 ht.2.2.1 ht.2.2.2.1) all0)) (fun z => nomatch z) (show 2 ≤ 10 by decide)).vp
  clear v2 len2 L
  rintro ρ μ2 ⟨L, rfl, v2, len2⟩
  refine seq_by (fun ρ μ2 => ∃ l L, ρ = [some (.ob p), some (f3 a b c), some (f3 d e f), some T, some (.tup [f3 A B C, t4 p' q' r s]), some (.ob l), none, none, none] ∧ VS n μ1 μ2 p l L ∧ L.length ≤ 11) ?_ ?_
  · walk_at "sq"
    refine ⟨_, rfl, seen_f3 _ _ _, good_bad hb hp, fun a' b' c' e1 _ _ A2 B2 C2 p3 q3 r3 s3 us k3 pu => ?_⟩
    cases e1
    walk_at "sq"
    have cl := cut2_len (sortT (viaT (p3, q3, r3, s3) us))
    refine ⟨small_size (by omega), lcG_by (fun i acc μ3 => μ3 = μ2 ∧ acc.length = i ∧ ∀ v ∈ acc, VP μ2 p 2 v) (fun _ _ _ _ _ => trivial) ?_ ?_ ⟨rfl, rfl, all0⟩⟩
    · rintro i dd acc μ3 hi ⟨rfl, ha, hv⟩
      obtain ⟨t, rfl, ht2⟩ := own_first k3 pu (List.mem_of_getElem? hi)
      refine ⟨_, rfl, ?_⟩
      walk_at "sq"
      refine ⟨_, ⟨t.1, t.2.1, t.2.2.1, t.2.2.2, p', q', r, s, rfl, .inr (tnb_b ht), rfl⟩, rfl, by rw [List.length_append, ha]; rfl, ?_⟩
      intro v hv2
      rcases List.mem_append.mp hv2 with hv2 | hv2
      · exact hv v hv2
      · rw [List.mem_singleton.mp hv2]
        exact (least_bn hb hp ⟨ht2.comp hL.to, hL.red⟩).vp
    · rintro acc μ3 ⟨rfl, ha, hv⟩
      intro r1 hr1
      refine v2.add hr1 hv (by omega) fun k μ4 v4 _ => ?_
      refine ⟨_, rfl, fun r2 hr2 => ?_⟩
      refine v4.add hr2 (all1 ?_ all0) (by rw [List.length_append]; show _ + 1 ≤ _; omega) fun k5 μ5 v5 _ => ?_
      · have xp := (bL.vp : VP μ4 p 2 _).parts
        exact .tup (fun x hx => xp.2 x (List.mem_reverse.mp hx)) (by rw [List.length_reverse]; exact xp.1)
      · exact ⟨_, _, rfl, v5, by rw [List.length_append, List.length_append]; show _ + 1 ≤ _; omega⟩
  clear v2 len2 L
  rintro ρ μ2 ⟨l, L, rfl, v2, len2⟩
  refine seq_by (fun ρ μ2 => ∃ l L, ρ = [some (.ob p), some (f3 a b c), some (f3 d e f), some T, some (.tup [f3 A B C, t4 p' q' r s]), some (.ob l), none, none, none] ∧ VS n μ1 μ2 p l L ∧ L.length ≤ 14) ?_ ?_
  · rcases hT with ⟨t1, t2, t3, t4', rfl, k⟩ | ⟨A1, B1, C1, A2, B2, C2, rfl, k, k2, kn⟩
    · have hk := to_tnb hb hp hb2 k
      walk_at "sq"
      refine ⟨_, rfl, seen_f3 _ _ _, good_bad hb hp, fun a' b' c' e1 _ _ A2 B2 C2 p3 q3 r3 s3 us k3 pu => ?_⟩
      cases e1
      walk_at "sq"
      have cl := cut2_len (sortT (viaT (p3, q3, r3, s3) us))
      refine ⟨small_size (by omega), lcG_by (fun i acc μ3 => μ3 = μ2 ∧ acc.length = i ∧ ∀ v ∈ acc, VP μ2 p 2 v) (fun _ _ _ _ _ => trivial) ?_ ?_ ⟨rfl, rfl, all0⟩⟩
      · rintro i dd acc μ3 hi ⟨rfl, ha, hv⟩
        obtain ⟨t, rfl, ht2⟩ := own_first k3 pu (List.mem_of_getElem? hi)
        refine ⟨_, rfl, ?_⟩
        walk_at "sq"
        refine ⟨_, ⟨t.1, t.2.1, t.2.2.1, t.2.2.2, t1, t2, t3, t4', rfl, .inr (tnb_b hk), rfl⟩, rfl, by rw [List.length_append, ha]; rfl, ?_⟩
        intro v hv2
        rcases List.mem_append.mp hv2 with hv2 | hv2
        · exact hv v hv2
        · rw [List.mem_singleton.mp hv2]
          exact (due_bn hb hp hb2 hp2 (.inl ⟨_, _, _, _, rfl, ht2.comp k⟩)).vp
      · rintro acc μ3 ⟨rfl, ha, hv⟩
        intro r1 hr1
        refine v2.add hr1 hv (by omega) fun k μ4 v4 _ => ?_
        refine ⟨a, b, c, rfl, hb, hp, fun A1 B1 C1 l1 => ⟨d, e, f, rfl, hb2, hp2, fun A2 B2 C2 l2 => ?_⟩⟩
        intro r2 hr2
        refine v4.add hr2 (all1 ?_ all0) (by rw [List.length_append]; show _ + 1 ≤ _; omega) fun k5 μ5 v5 _ => ?_
        · exact (bn_tup (n := 2) (all1 (bn_str _ strG_least) (all1 (bn_lst 0 hb hp l1) (all1 (bn_lst 0 hb2 hp2 l2) all0))) (fun z => nomatch z) (show 3 ≤ 10 by decide)).vp
        · exact ⟨_, _, rfl, v5, by rw [List.length_append, List.length_append]; show _ + 1 ≤ _; omega⟩
    · walk_at "sq"
      rw [if_neg (fun z => by rw [str_ne] at z; exact z)]
      exact ⟨l, L, rfl, v2, by omega⟩
  clear v2 len2 L
  rintro ρ μ2 ⟨l, L, rfl, v2, len2⟩
  refine seq_by (fun ρ μ3 => PotX (n + 200) μ1 μ3 p) ?_ ?_
  · walk_at "sq"
    refine ⟨by decide, by decide, small_size (by rw [rangeD_len]; decide), lcG_by (fun i acc μ3 => PotX (n + 13 * i) μ2 μ3 p ∧ acc.length = i ∧ ∀ v ∈ acc, VP μ3 p 2 v) (fun _ _ _ _ _ => trivial) ?_ ?_ ⟨PotX.refl v2.x.1, rfl, all0⟩⟩
    · rintro i dd acc μ3 hi ⟨x3, ha, hv⟩
      obtain ⟨hi2, rfl⟩ := rangeD_get hi
      have hi3 : i < 8 := hi2
      refine ⟨_, rfl, ?_⟩
      walk_at "sq"
      intro l1 hl1
      have x4 := x3.new (o := .lst [T, .tup [f3 A B C, t4 p' q' r s]]) hl1
      refine ⟨p, l1, n + 13 * i, _, rfl, x4.1, by omega, mset_same _ _ _, by simp, by simp, fun z => x3.1.ne hl1 z.symm, fun d1 μ4 hd1 hto => ?_⟩
      have x5 := x4.step hto
      have bd : Bn 3 d1 := by
        simp only [List.mem_cons, List.not_mem_nil, or_false] at hd1
        rcases hd1 with rfl | rfl
        · exact bT
        · exact bL
      refine ⟨p, n + 13 * i + 1, d1, rfl, x5.1, by omega, bd, fun d2 μ5 hv2 x6 => ?_⟩
      have x35 : PotX (n + 13 * i + 1 + 4 * 3) μ3 μ5 p := ((((PotX.refl x3.1).new hl1).step hto).trans x6)
      refine ⟨(x3.trans x35).mono (by omega), by rw [List.length_append, ha]; rfl, fun v hv3 => ?_⟩
      rcases List.mem_append.mp hv3 with hv3 | hv3
      · exact VP.potx (hv v hv3) x35
      · rw [List.mem_singleton.mp hv3]
        exact hv2
    · rintro acc μ3 ⟨x3, ha, hv⟩
      rw [rangeD_len] at ha x3
      have v3 : VS (n + 13 * 8) μ1 μ3 p l L := ⟨(v2.x.trans x3).mono (by exact Nat.le_refl _), x3.keep v2.ne v2.at_, v2.ne, v2.fresh, fun v hv => VP.potx (v2.all v hv) x3⟩
      have ha8 : acc.length = 8 := ha
      intro r1 hr1
      refine v3.add hr1 hv (by omega) fun k μ4 v4 _ => ?_
      refine ⟨p, n + 13 * 8, rfl, v4.x.1, by omega, fun d1 μ5 hd1 x5 => ?_⟩
      have v5 : VS (n + 13 * 8 + 1) μ1 μ5 p k (L ++ acc) := ⟨v4.x.trans x5, x5.keep v4.ne v4.at_, v4.ne, v4.fresh, fun v hv => VP.potx (v4.all v hv) x5⟩
      intro r2 hr2
      refine v5.add hr2 (all1 (VP.up hd1) all0) (by rw [List.length_append]; show _ + 1 ≤ _; omega) fun k6 μ6 v6 _ => ?_
      walk_at "sq"
      rw [v6.at_]
      dsimp only
      refine forW_by (fun i ρ μ7 => (∃ e6, ρ = [some (.ob p), some (f3 a b c), some (f3 d e f), some T, some (.tup [f3 A B C, t4 p' q' r s]), some (.ob l), e6, none, none]) ∧ μ7 = μ6) (fun _ _ _ _ h => by rw [h.2]; exact v6.at_) ?_ ?_ ⟨⟨_, rfl⟩, rfl⟩
      · rintro i v ρ μ7 hi ⟨⟨e6, rfl⟩, rfl⟩
        have hv := v6.all v (List.mem_of_getElem? hi)
        walk_at "sq"
        refine ⟨a, b, c, d, e, f, v, rfl, hb, hp, hb2, hp2, ⟨p, hv⟩, fun k1 hk1 => ⟨a, b, c, d, e, f, v, rfl, hb, hp, hb2, hp2, ⟨p, hv⟩, fun k2 hk2 => ?_⟩⟩
        obtain rfl : k1 = k2 := Bool.eq_iff_iff.mpr (hk1.trans hk2.symm)
        refine ⟨_, ⟨k1, k1, rfl, rfl⟩, ?_⟩
        rw [decide_eq_true rfl]
        walk_at "sq"
        refine ⟨_, v, rfl, seen_f3 _ _ _, good_bad hb hp, fun a' b' c' e1 _ _ => ?_⟩
        cases e1
        refine ⟨⟨p, hv⟩, fun k3 hk3 => ⟨a, b, c, v, rfl, hb, hp, ⟨p, hv⟩, fun k4 hk4 => ?_⟩⟩
        obtain rfl : k3 = k4 := Bool.eq_iff_iff.mpr (hk3.trans hk4.symm)
        refine ⟨_, ⟨k3, k3, rfl, rfl⟩, ?_⟩
        rw [decide_eq_true rfl]
        walk_at "sq"
        exact ⟨_, rfl⟩
      · rintro ρ μ7 ⟨_, rfl⟩
        exact v6.x.mono (by omega)
  · intro ρ μ3 x3
    walk_at "sq"
    exact .of (q μ3 x3)
end K9

/-! k09: this law's own least ones of a size. -/
namespace K9
open PySem PySem.Spec PyProof.Rows L2 Sq
local macro_rules | `(tactic| walk_at "sq") => `(tactic| simp only [fList_tup, fList_ob, wBack_run, gStr_run, fStr_int, fStr_str, wUpper_run, wDct_run, gReprX_run, wIsX_run, wVal_run, wLam_run, wHeard_run, wRaise_run, wVar_run, wC_run, wOp_run, onBl_bl, gI_run, gAdd_int, gAdd_str, gAdd_tup, gMul_int, EqB_int, EqB_str, EqB_bl, gEq_run, gNe_run, wNeg_run, wNotV_run, wAndV_run, wOrV_run, wTB_run, wNotT_run, wAndT_run, wOrT_run, wIfE_run, runAll_nil, runAll_cons, wTup_run, wLst_run, gIx_tup, gIx_rls, gIx_str, gIx_ob, wB_run, fLen_tup, fLen_rls, fLen_str, fLen_ob, fAbs_int, fInt_int, fInt_bl, fTuple_tup, fTuple_ob, wIsi_run, wCall_run, wNext_run, wSeq_run, wBreak_run, wCont_run, wNever_run, wExpr_run, wRet_run, wRetN_run, wIf_run, gN_run, runGs_nil, runGs_cons, gT_run, gS_run, sIx_ob, wAsg_run, wSet_run, wPar_run, wPar3_run, wSeqI_run, fSeq_tup, fSeq_rls, fSeq_ob, wRng1_run, fRng1_int, wRng2_run, fRng2_int, wFor_run, wLc_run, wYes_run, onLst_ob, wMt_run, fAppend_run, fExtend_run, wAug_run, bodyD_nx, bodyD_rt, bodyD_ex, wNoP_run, onInt_int, wPart_run, fSl_tup, fSl_rls, fSl_str, fSl_ob, wSl_run, gIn_run, gNotIn_run, fSorted_ob, wLstRg1_run, wChainN_run, chainRun_last, chainRun_cons, spR_run,
  Sq.gSub, gFdiv, gMod, gLt, gLe, gGt, gGe, gAddI, gPowW, gLen_run, gAbs_run, gInt_run, gAll_run, gAny_run, gSum_run, gTuple_run, gList_run, gSorted_run, gRepr_run, gMax2_run, gMin2_run, gAppend_run, gExtend_run, CT.set_one, CT.set_many, CT.slots, setAll, wipeE, lcG_nil,
  List.getElem?_cons_zero, List.getElem?_cons_succ, List.getElem?_nil, Int.cast_ofNat_Int, List.set_cons_zero, List.set_cons_succ, List.length_cons, List.length_nil, ev0, List.map_cons, List.map_nil, List.cons_append, List.nil_append, List.replicate_succ, List.replicate_zero, Nat.reduceSub, Nat.reduceAdd, mset_same, decide_true, decide_false, if_true, if_false, ite_true, ite_false, Bool.false_eq_true, Bool.true_eq_false, reduceCtorEq, Bool.not_true, Bool.not_false, true_and, and_true, decide_eq_true_eq, Bool.not_eq_true', decide_eq_false_iff_not, ite_not, isA, atI_0, atI_1, atI_2, atI_3, atI_m4, ixN_0, ixN_1, ixN_30, ixN_31, ixN_32])
theorem rd_law_all_least (Z : Ad) (ds : List D) (μ : Mu) (Q : PQ) (X : XQ) (hl : ds.length = 1) (h : S_law_all_least.run ds μ Q X) : (w_law_all_least Z).run (bodyD Q X) (ev0 4 ds) μ := by
  obtain ⟨w, rfl, hw, q⟩ := h
  unfold w_law_all_least
  have hw1 := hw.1
  have hw2 := hw.2
  refine seq_by (fun ρ μ1 => ∃ l, ρ = [some (.int w), some (.ob l), none, none] ∧ μ l = none ∧ Ext μ μ1 ∧ μ1 l = some (.lst ((lstL w 0).map fD))) ?_ ?_
  · walk_at "sq"
    exact fun l hl => ⟨l, rfl, hl, (Ext.refl _).new hl, mset_same _ _ _⟩
  rintro ρ μ1 ⟨l, rfl, hl, e1, k1⟩
  refine seq_by (fun ρ μ2 => ∃ n : Nat, ∃ e3 e4, ρ = [some (.int w), some (.ob l), e3, e4] ∧ Ext μ μ2 ∧ μ2 l = some (.lst ((lstL w n).map fD)) ∧ -w < (((n : Nat) : Int) + 1) * (((n : Nat) : Int) + 1)) ?_ ?_
  · walk_at "sq"
    refine ⟨-w, rfl, by omega, by omega, fun r ⟨r0, r1, r2⟩ => ?_⟩
    have hr := abs_le_of_sq (x := r) (y := 400) (by decide) (by omega)
    obtain ⟨R, rfl⟩ := Int.eq_ofNat_of_zero_le r0
    walk_at "sq"
    refine ⟨⟨by decide, by decide, by omega, by omega⟩, ?_⟩
    have eR : ((R : Int) + 1 - 1).toNat = R := by omega
    rw [eR]
    refine forW_by (fun n ρ μ2 => ∃ e3 e4, ρ = [some (.int w), some (.ob l), e3, e4] ∧ Ext μ μ2 ∧ μ2 l = some (.lst ((lstL w n).map fD))) (fun _ _ _ _ _ => trivial) ?_ ?_ ⟨_, _, rfl, e1, k1⟩
    · rintro n d ρ μ2 hi ⟨e3, e4, rfl, e2, k2⟩
      obtain ⟨hi2, rfl⟩ := rangeD_get hi
      have hn : n ≤ 400 := by omega
      have hlen := lstL_len w n
      have hlen2 : (n + 1) * (n + 1) ≤ 401 * 401 := Nat.mul_le_mul (by omega) (by omega)
      walk_at "sq"
      rw [show (1 : Int) + ((n : Nat) : Int) = ((n : Nat) : Int) + 1 by omega]
      refine ⟨⟨by omega, by omega, by omega, by omega⟩, ?_⟩
      have eN : (((n : Nat) : Int) + 1 + 1 - (-(((n : Nat) : Int) + 1) + 1)).toNat = 2 * (n + 1) := by omega
      rw [eN]
      refine forW_by (fun i ρ μ3 => ∃ e4, ρ = [some (.int w), some (.ob l), some (.int (((n : Nat) : Int) + 1)), e4] ∧ Ext μ μ3 ∧ μ3 l = some (.lst ((lstL w n ++ lstRow w (((n : Nat) : Int) + 1) i).map fD))) (fun _ _ _ _ _ => trivial) ?_ ?_ ⟨_, rfl, e2, by rw [k2]; simp [lstRow]⟩
      · rintro i d ρ μ3 hi ⟨e4, rfl, x3, k3⟩
        obtain ⟨hi2, rfl⟩ := rangeD_get hi
        have hrl := lstRow_len w (((n : Nat) : Int) + 1) i
        rw [lstRow_succ]
        walk_at "sq"
        have b1 : IntMulOk (-(((n : Nat) : Int) + 1) + 1 + ((i : Nat) : Int)) (-(((n : Nat) : Int) + 1) + 1 + ((i : Nat) : Int)) := mulOk_l (by omega) (by omega)
        have b2 : IntMulOk 4 (((n : Nat) : Int) + 1) := mulOk_l (by decide) (by decide)
        refine ⟨b1, b2, by omega, ?_⟩
        by_cases h1 : ((-(((n : Nat) : Int) + 1) + 1 + ((i : Nat) : Int)) * (-(((n : Nat) : Int) + 1) + 1 + ((i : Nat) : Int)) - w).fmod (4 * (((n : Nat) : Int) + 1)) = 0
        · rw [if_pos h1]
          refine ⟨b1, b2, divOk_small (by omega) (by omega), _, ⟨_, _, _, rfl, rfl⟩, ?_⟩
          by_cases h2 : Red (((n : Nat) : Int) + 1) (-(((n : Nat) : Int) + 1) + 1 + ((i : Nat) : Int)) (((-(((n : Nat) : Int) + 1) + 1 + ((i : Nat) : Int)) * (-(((n : Nat) : Int) + 1) + 1 + ((i : Nat) : Int)) - w).fdiv (4 * (((n : Nat) : Int) + 1)))
          · rw [decide_eq_true h2]
            walk_at "sq"
            rw [k3]
            dsimp only
            refine ⟨b1, b2, divOk_small (by omega) (by omega), ?_, _, rfl, x3.set hl, ?_⟩
            · rw [List.length_map, List.length_append]
              exact Nat.lt_of_lt_of_le (show _ < 16000000 by omega) sizeBig
            · have er : rowAt w (((n : Nat) : Int) + 1) i = [(((n : Nat) : Int) + 1, -(((n : Nat) : Int) + 1) + 1 + ((i : Nat) : Int), ((-(((n : Nat) : Int) + 1) + 1 + ((i : Nat) : Int)) * (-(((n : Nat) : Int) + 1) + 1 + ((i : Nat) : Int)) - w).fdiv (4 * (((n : Nat) : Int) + 1)))] := if_pos ⟨h1, h2⟩
              rw [er, ← List.append_assoc, List.map_append (l₂ := [_])]
              rfl
          · rw [decide_eq_false h2]
            walk_at "sq"
            have er : rowAt w (((n : Nat) : Int) + 1) i = [] := if_neg fun z => h2 z.2
            exact ⟨_, rfl, x3, by rw [k3, er, List.append_nil]⟩
        · rw [if_neg h1]
          have er : rowAt w (((n : Nat) : Int) + 1) i = [] := if_neg fun z => h1 z.1
          exact ⟨_, rfl, x3, by rw [k3, er, List.append_nil]⟩
      · rintro ρ μ3 ⟨e4, rfl, x3, k3⟩
        rw [rangeD_len] at k3
        exact ⟨_, e4, rfl, x3, by rw [lstL_succ]; exact k3⟩
    · rintro ρ μ3 ⟨e3, e4, rfl, x3, k3⟩
      rw [rangeD_len] at k3
      exact ⟨R, e3, e4, rfl, x3, k3, r2⟩
  rintro ρ μ2 ⟨n, e3, e4, rfl, x2, k2, hf⟩
  walk_at "sq"
  rw [k2]
  refine ⟨sortOk_ints fD_tupI, fun p hp => .new x2 hp fun p hp => q n p (far_of ?_) hp⟩
  have e3 : 3 * (((n : Nat) : Int) + 1) * (((n : Nat) : Int) + 1) = 3 * ((((n : Nat) : Int) + 1) * (((n : Nat) : Int) + 1)) := by rw [Int.mul_assoc]
  omega
end K9

/-! k09: the law. -/
namespace K9
open PySem PySem.Spec PyProof.Rows L2 Sq
local macro_rules | `(tactic| walk_at "sq") => `(tactic| simp only [fList_tup, fList_ob, wBack_run, gStr_run, fStr_int, fStr_str, wUpper_run, wDct_run, gReprX_run, wIsX_run, wVal_run, wLam_run, wHeard_run, wRaise_run, wVar_run, wC_run, wOp_run, onBl_bl, gI_run, gAdd_int, gAdd_str, gAdd_tup, gMul_int, EqB_int, EqB_str, EqB_bl, gEq_run, gNe_run, wNeg_run, wNotV_run, wAndV_run, wOrV_run, wTB_run, wNotT_run, wAndT_run, wOrT_run, wIfE_run, runAll_nil, runAll_cons, wTup_run, wLst_run, gIx_tup, gIx_rls, gIx_str, gIx_ob, wB_run, fLen_tup, fLen_rls, fLen_str, fLen_ob, fAbs_int, fInt_int, fInt_bl, fTuple_tup, fTuple_ob, wIsi_run, wCall_run, wNext_run, wSeq_run, wBreak_run, wCont_run, wNever_run, wExpr_run, wRet_run, wRetN_run, wIf_run, gN_run, runGs_nil, runGs_cons, gT_run, gS_run, sIx_ob, wAsg_run, wSet_run, wPar_run, wPar3_run, wSeqI_run, fSeq_tup, fSeq_rls, fSeq_ob, wRng1_run, fRng1_int, wRng2_run, fRng2_int, wFor_run, wLc_run, wYes_run, onLst_ob, wMt_run, fAppend_run, fExtend_run, wAug_run, bodyD_nx, bodyD_rt, bodyD_ex, wNoP_run, onInt_int, wPart_run, fSl_tup, fSl_rls, fSl_str, fSl_ob, wSl_run, gIn_run, gNotIn_run, fSorted_ob, wLstRg1_run, wChainN_run, chainRun_last, chainRun_cons, spR_run,
  Sq.gSub, gFdiv, gMod, gLt, gLe, gGt, gGe, gAddI, gPowW, gLen_run, gAbs_run, gInt_run, gAll_run, gAny_run, gSum_run, gTuple_run, gList_run, gSorted_run, gRepr_run, gMax2_run, gMin2_run, gAppend_run, gExtend_run, CT.set_one, CT.set_many, CT.slots, setAll, wipeE, lcG_nil,
  List.getElem?_cons_zero, List.getElem?_cons_succ, List.getElem?_nil, Int.cast_ofNat_Int, List.set_cons_zero, List.set_cons_succ, List.length_cons, List.length_nil, ev0, List.map_cons, List.map_nil, List.cons_append, List.nil_append, List.replicate_succ, List.replicate_zero, Nat.reduceSub, Nat.reduceAdd, mset_same, decide_true, decide_false, if_true, if_false, ite_true, ite_false, Bool.false_eq_true, Bool.true_eq_false, reduceCtorEq, Bool.not_true, Bool.not_false, true_and, and_true, decide_eq_true_eq, Bool.not_eq_true', decide_eq_false_iff_not, ite_not, isA, atI_0, atI_1, atI_2, atI_3, atI_m4, ixN_0, ixN_1, ixN_30, ixN_31, ixN_32])
theorem seen2N {μ : Mu} : Seen2 μ .non := ⟨seen_pure rfl, fun _ e => nomatch e⟩
theorem tabKeep {n m : Nat} {μ μ' : Mu} {p P : Addr} {q : Str} (h : PotX n μ μ' p) (hp : PotAt m μ p) (e : μ P = some (.tab q)) : μ' P = some (.tab q) := h.keep (hp.neTab e) e
/-- what such a list holds -/
theorem mem_lst {w : Int} {n : Nat} {f : Int × Int × Int} (h : f ∈ lstL w n) : ∃ i j : Nat, i < n ∧ j < 2 * (i + 1) ∧ f = (((i : Nat) : Int) + 1, -(((i : Nat) : Int) + 1) + 1 + ((j : Nat) : Int), ((-(((i : Nat) : Int) + 1) + 1 + ((j : Nat) : Int)) * (-(((i : Nat) : Int) + 1) + 1 + ((j : Nat) : Int)) - w).fdiv (4 * (((i : Nat) : Int) + 1))) := by
  unfold lstL at h
  obtain ⟨i, hi, h⟩ := List.mem_flatMap.mp h
  unfold lstRow at h
  obtain ⟨j, hj, h⟩ := List.mem_flatMap.mp h
  unfold rowAt at h
  split at h
  · exact ⟨i, j, List.mem_range.mp hi, List.mem_range.mp hj, List.mem_singleton.mp h⟩
  · cases h
theorem far12 {w : Int} (h : -402 ≤ w) : Far w 12 := far_of (by omega)
theorem lst12_sm {w : Int} (h1 : -402 ≤ w) (h2 : w ≤ -3) {d : D} (h : d ∈ sortF (lstL w 12)) : SmD 1 102 d := by
  obtain ⟨f, hf, rfl⟩ := sortF_mem h
  obtain ⟨i, j, hi, hj, rfl⟩ := mem_lst hf
  have hb : (-(((i : Nat) : Int) + 1) + 1 + ((j : Nat) : Int)) * (-(((i : Nat) : Int) + 1) + 1 + ((j : Nat) : Int)) ≤ 30 * 30 := sq_le (by omega) (by omega)
  have hb0 := sq_nn (-(((i : Nat) : Int) + 1) + 1 + ((j : Nat) : Int))
  have hfd := fdiv_abs (x := (-(((i : Nat) : Int) + 1) + 1 + ((j : Nat) : Int)) * (-(((i : Nat) : Int) + 1) + 1 + ((j : Nat) : Int)) - w) (y := 4 * (((i : Nat) : Int) + 1)) (B := 2000) (by omega) (by omega) (by omega) (by decide)
  generalize ((-(((i : Nat) : Int) + 1) + 1 + ((j : Nat) : Int)) * (-(((i : Nat) : Int) + 1) + 1 + ((j : Nat) : Int)) - w).fdiv (4 * (((i : Nat) : Int) + 1)) = c at *
  have g : ∀ {x : Int}, -10000 ≤ x → x ≤ 10000 → SmD 0 31 (.int x) := fun h1 h2 => SmD.int ⟨by omega, by omega⟩
  exact smd_tup (k := 0) (n := 31) (ds := [.int (((i : Nat) : Int) + 1), .int (-(((i : Nat) : Int) + 1) + 1 + ((j : Nat) : Int)), .int c]) (all1 (g (by omega) (by omega)) (all1 (g (by omega) (by omega)) (all1 (g (by omega) (by omega)) all0)))
theorem lst12_len (w : Int) : (sortF (lstL w 12)).length ≤ 169 := by rw [sortF_len]; exact lstL_len w 12
/-- it is shown -/
theorem repr_forms {w : Int} (h1 : -402 ≤ w) (h2 : w ≤ -3) {L : List D} (hL : ∀ d ∈ L, d ∈ sortF (lstL w 12)) (hl : L.length ≤ 169) {μ : Mu} {Q : PQ} (q : Q (.str (Sq.encD (.tup L)).shown) μ) : fReprX (.tup L) μ Q := by
  refine (smd_tup (k := 1) (n := 102) fun d hd => lst12_sm h1 h2 (hL d hd)).repr (by decide) ?_ q
  have := Nat.mul_le_mul_left (102 + 2) hl
  omega
theorem pos_turned {a b c p q r s : Int} (hp : Pos a b c) (hd : p * s - q * r = 1) : Pos (val a b c p r) (mid a b c p q r s) (val a b c q s) := by
  have k : To a b c (val a b c p r) (mid a b c p q r s) (val a b c q s) p q r s := ⟨hd, rfl, rfl, rfl⟩
  refine k.pos hp (val_pos hp fun ⟨h1, h2⟩ => ?_)
  subst h1 h2
  omega
theorem plain_len {w : Int} {n m : Nat} (h : Far w n) (k : Far w m) : ((sortF (lstL w n)).filter fOne).length = (((lstL w m).map fD).filter fOne).length := by
  rw [h.eq k]
  exact ((List.mergeSort_perm _ _).filter _).length_eq
theorem far33 {w : Int} (h : -3299 ≤ w) : Far w 33 := far_of (by omega)
/-- len(plain_least(whole)) of a known size -/
theorem known_len {Z : Ad} {w : Int} {m : Nat} (h1 : -3299 ≤ w) (h2 : w ≤ -3) (h3 : w.fmod 4 ≤ 1) (e : (((lstL w 33).map fD).filter fOne).length = m) {ρ : Ev} (h4 : ρ[4]? = some (some (.int w))) {μ : Mu} {Q : PQ} {X : XQ} (q : Q (.int (m : Int)) μ) : (wB gLen [wCall (Splain_least Z) [wVar 4]]).run ρ μ Q X := by
  rw [wB_run, runAll_cons, wCall_run, runAll_cons, wVar_run, h4]
  dsimp only
  rw [runAll_nil]
  refine ⟨.int w, rfl, seen_pure rfl, fun w' e1 _ _ n hf => ?_, fun z => absurd (z w rfl ⟨by omega, h2⟩) (by omega)⟩
  cases e1
  rw [runAll_nil]
  have := plain_len hf (far33 h1)
  rw [e] at this
  show Q (.int ((((sortF (lstL w n)).filter fOne).length : Nat) : Int)) μ
  rw [this]
  exact q
/-- known sizes, and how many plain least forms they have -/
def kn : List (Int × Nat) := [(-23, 3), (-47, 5), (-71, 7), (-163, 1), (-84, 4), (-3299, 27)]
theorem kn_ok : ∀ z ∈ kn, (-3299 ≤ z.1 ∧ z.1 ≤ -3) ∧ z.1.fmod 4 ≤ 1 ∧ (((lstL z.1 33).map fD).filter fOne).length = z.2 := by decide +kernel
theorem val_lf {μ : Mu} {p : Addr} {d : D} (h : Lf d) : Val μ p d := .sm (h.sm.mono (by decide) (by decide)) fun _ z => by subst z; cases h
theorem sI {i : Int} (h1 : -10 ^ 30 < i) (h2 : i < 10 ^ 30) : SmD 5 500 (.int i) := (SmD.int ⟨h1, h2⟩).mono (by decide) (by decide)
theorem sI20 {i : Int} (h1 : -10 ^ 30 < i) (h2 : i < 10 ^ 30) : SmD 20 10000 (.int i) := (SmD.int ⟨h1, h2⟩).mono (by decide) (by decide)
theorem val_tup {μ : Mu} {p : Addr} {ds : List D} (h : ∀ d ∈ ds, SmD 5 500 d) (hl : ds.length ≤ 15) : Val μ p (.tup ds) := .sm ((smd_tup h).mono (by decide) (by have := Nat.mul_le_mul_left 502 hl; omega)) fun _ z => by cases z; omega
/-- the last loop's body: five calls, each heard with one error -/
def bd9 (Z : Ad) (cl : List (Str × Addr)) : WS := (wSeq (wSet 10 (wLst [wLam Z.P_law_right (lam_law_right_2 cl)])) (wSeq (wExpr (wMt gAppend (wVar 10) [wLam Z.P_law_right (lam_law_right_3 cl)])) (wSeq (wExpr (wMt gAppend (wVar 10) [wLam Z.P_law_right (lam_law_right_4 cl)])) (wSeq (wExpr (wMt gAppend (wVar 10) [wLam Z.P_law_right (lam_law_right_5 cl)])) (wSeq (wExpr (wMt gAppend (wVar 10) [wLam Z.P_law_right (lam_law_right_6 cl)])) (wSeq (wSet 7 (wLc (wSeqI (wVar 10)) (CT.one 16) (wYes) (wOp gIx (wHeard Z.isSq [16] (LL_law_right Z cl) (wVar 16)) (wC (.int 0))))) (wSeq (wSet 11 (wLc (wSeqI (wVar 7)) (CT.one 15) (wYes) (wIfE (wTB (wOp gEq (wVar 9) (wC (.str "form")))) (wIsX (oneC Z.cBadForm) (wVar 15)) (wIsX (oneC Z.cUnlike) (wVar 15))))) (wIf (wOrT (wNotT (wTB (wB gAll [wVar 11]))) (wNotT (wTB (wB gAll [wLc (wSeqI (wVar 7)) (CT.one 15) (wYes) (wOp gEq (wB gReprX [wVal Z.isE (wVar 15)]) (wB gReprX [wVar 13]))])))) (wRet (wC (.bl false))) (wNext)))))))))
theorem bd9_ok (Z : Ad) (cl : List (Str × Addr)) {E : PD} {n : Nat} {μ0 μ : Mu} {p C : Addr} {d : D} {s : Str} {e1 e2 e3 e4 e5 e6 e7 e8 e10 e11 e12 e14 e15 e16 : Option D} (hx : PotX n μ0 μ p) (hv : Val μ p d) (hP : μ Z.P_law_right = some (.tab qL))
    (hs : (s = "form" ∧ C = Z.cBadForm) ∨ (s = "kind" ∧ C = Z.cUnlike)) (hg : ¬ Good d) (hb : ∀ (X : XQ) (μ' : Mu), X C d μ' → Bad Z X d μ')
    (h : ∀ e7 e10 e11 μ', PotX n μ0 μ' p → PotX n μ μ' p → E.nx [some (.ob p), e1, e2, e3, e4, e5, e6, e7, e8, some (.str s), e10, e11, e12, some d, e14, e15, e16] μ') :
    (bd9 Z cl).run E [some (.ob p), e1, e2, e3, e4, e5, e6, e7, e8, some (.str s), e10, e11, e12, some d, e14, e15, e16] μ := by
  unfold bd9
  have hC : Z.isE C = some true := by
    rcases hs with ⟨_, rfl⟩ | ⟨_, rfl⟩
    · exact Z.eForm
    · exact Z.eUnlike
  rw [wSeq_run]
  refine calls_new (PotX.refl hx.1) hP fun l μ2 hl0 hlp x2 _ c2 => ?_
  dsimp only [List.set_cons_succ, List.set_cons_zero]
  rw [wSeq_run]
  refine calls_add x2 hl0 hlp c2 (tabKeep x2 hx.1 hP) rfl (show 1 < 1000 by decide) fun μ3 x3 c3 => ?_
  dsimp only
  rw [wSeq_run]
  refine calls_add x3 hl0 hlp c3 (tabKeep x3 hx.1 hP) rfl (show 2 < 1000 by decide) fun μ4 x4 c4 => ?_
  dsimp only
  rw [wSeq_run]
  refine calls_add x4 hl0 hlp c4 (tabKeep x4 hx.1 hP) rfl (show 3 < 1000 by decide) fun μ5 x5 c5 => ?_
  dsimp only
  rw [wSeq_run]
  refine calls_add x5 hl0 hlp c5 (tabKeep x5 hx.1 hP) rfl (show 4 < 1000 by decide) fun μ6 x6 c6 => ?_
  dsimp only
  have kp : ∀ {μ' : Mu}, PotX n μ μ' p → Val μ' p d := fun x => hv.keep fun b o hb e => x.keep hb e
  rw [wSeq_run]
  refine heard_all (C := C) (d := d) x6 hlp c6 rfl (show 16 < 17 by decide) (by decide) (show 5 < 1000 by decide) hC ?_ fun l5 acc μ9 x9 y9 h5 hlen hex => ?_
  · intro t ht
    have kp8 : ∀ {μ' : Mu}, PotX n μ6 μ' p → Seen2 μ' d := fun x => (kp (x6.trans x)).seen
    have mem : ∀ t ∈ [lam_law_right_2 cl] ++ [lam_law_right_3 cl] ++ [lam_law_right_4 cl] ++ [lam_law_right_5 cl] ++ [lam_law_right_6 cl], t = lam_law_right_2 cl ∨ t = lam_law_right_3 cl ∨ t = lam_law_right_4 cl ∨ t = lam_law_right_5 cl ∨ t = lam_law_right_6 cl := fun t ht => by
      simpa [or_assoc] using ht
    have LL : LL_law_right Z cl = (LL_law_right Z cl).take 2 ++ [(lam_law_right_2 cl, wl_law_right_2 Z), (lam_law_right_3 cl, wl_law_right_3 Z), (lam_law_right_4 cl, wl_law_right_4 Z), (lam_law_right_5 cl, wl_law_right_5 Z), (lam_law_right_6 cl, wl_law_right_6 Z)] := rfl
    have inL : ∀ {z : LamT × WE}, z ∈ [(lam_law_right_2 cl, wl_law_right_2 Z), (lam_law_right_3 cl, wl_law_right_3 Z), (lam_law_right_4 cl, wl_law_right_4 Z), (lam_law_right_5 cl, wl_law_right_5 Z), (lam_law_right_6 cl, wl_law_right_6 Z)] → z ∈ LL_law_right Z cl := fun h => by rw [LL]; exact List.mem_append_right _ h
    rcases mem t ht with rfl | rfl | rfl | rfl | rfl
    · exact ⟨wl_law_right_2 Z, inL (by simp), fun μ' Q X x k => (show (Sleast_form Z).run [d] μ' Q X from ⟨d, rfl, kp8 x, hb X μ' k, fun a b c e h1 h2 => absurd ⟨a, b, c, e, h1, h2⟩ hg⟩)⟩
    · exact ⟨wl_law_right_3 Z, inL (by simp), fun μ' Q X x k => (show (Sown_turns Z).run [d] μ' Q X from ⟨d, rfl, kp8 x, hb X μ' k, fun a b c e h1 h2 => absurd ⟨a, b, c, e, h1, h2⟩ hg⟩)⟩
    · exact ⟨wl_law_right_4 Z, inL (by simp), fun μ' Q X x k => (show (Ssame_above Z).run [d, .non] μ' Q X from ⟨d, .non, rfl, kp8 x, seen2N, hb X μ' k, fun g => absurd g hg, fun a b c _ _ _ e1 _ h1 h2 _ _ => absurd ⟨a, b, c, e1, h1, h2⟩ hg⟩)⟩
    · have g1 : Bd 1 0 1 := by decide
      have g2 : Pos 1 0 1 := ⟨by decide, by decide⟩
      exact ⟨wl_law_right_5 Z, inL (by simp), fun μ' Q X x k => (show (Ssame_above Z).run [f3 1 0 1, d] μ' Q X from ⟨f3 1 0 1, d, rfl, seen_f3 _ _ _, kp8 x, good_bad g1 g2, (fun _ => hb X μ' k), fun _ _ _ a b c _ e2 _ _ h1 h2 => absurd ⟨a, b, c, e2, h1, h2⟩ hg⟩)⟩
    · exact ⟨wl_law_right_6 Z, inL (by simp), fun μ' Q X x k => (show (Sshows_least Z).run [d, .non] μ' Q X from ⟨d, .non, rfl, kp8 x, hb X μ' k, fun a b c e h1 h2 => absurd ⟨a, b, c, e, h1, h2⟩ hg⟩)⟩
  dsimp only [List.set_cons_succ, List.set_cons_zero]
  have y9' : PotX n μ μ9 p := x9
  refine seq_by (fun ρ μ10 => ∃ l7, ρ = [some (.ob p), e1, e2, e3, e4, e5, e6, some (.ob l5), e8, some (.str s), some (.ob l), some (.ob l7), e12, some d, e14, e15, e16] ∧ μ10 l7 = some (.lst (acc.map fun _ => .bl true)) ∧ PotX n μ9 μ10 p) ?_ ?_
  · walk_at "sq"
    rw [h5]
    dsimp only
    refine ⟨small_size (by rw [hlen]; exact (show 5 ≤ 16000000 by decide)), lcG_map (fun _ => .bl true) h5 (fun x hx => ?_) fun l7 hl7 => ⟨l7, rfl, mset_same _ _ _, (PotX.refl x9.1).new hl7⟩⟩
    obtain ⟨a, rfl, ha⟩ := hex x hx
    refine ⟨_, rfl, ?_⟩
    rcases hs with ⟨rfl, rfl⟩ | ⟨rfl, rfl⟩
    · walk_at "sq"
      exact ⟨a, _, d, true, rfl, ha, oneC_same _, rfl⟩
    · walk_at "sq"
      rw [if_neg (by decide)]
      exact ⟨a, _, d, true, rfl, ha, oneC_same _, rfl⟩
  rintro ρ μ10 ⟨l7, rfl, h7, x10⟩
  have n5 : l5 ≠ p := fun z => by
    obtain ⟨x, y, w, e, _⟩ := x9.1
    rw [z, e] at h5
    cases h5
    cases hlen
  have h10 : μ10 l5 = some (.lst acc) := x10.keep n5 h5
  walk_at "sq"
  refine ⟨l7, acc.map fun _ => true, rfl, by rw [h7, List.map_map]; rfl, ?_⟩
  rw [show (acc.map fun _ => true).all id = true by simp]
  walk_at "sq"
  rw [h10]
  dsimp only
  refine ⟨small_size (by rw [hlen]; exact (show 5 ≤ 16000000 by decide)), lcG_map (fun _ => .bl true) h10 (fun x hx => ?_) fun l8 hl8 => ?_⟩
  · obtain ⟨a, rfl, ha⟩ := hex x hx
    have ha2 : μ10 a = some (.exc C d) := x10.keep (x9.1.neExc ha) ha
    refine ⟨_, rfl, ?_⟩
    obtain ⟨t, T⟩ := (kp (x9.trans x10)).repr
    walk_at "sq"
    refine ⟨a, C, d, true, rfl, ha2, hC, ?_⟩
    refine T μ10 (fun _ _ _ e => e) _ ?_
    refine T μ10 (fun _ _ _ e => e) _ ?_
    walk_at "sq"
  · refine ⟨l8, acc.map fun _ => true, rfl, by rw [mset_same, List.map_map]; rfl, ?_⟩
    rw [show (acc.map fun _ => true).all id = true by simp]
    walk_at "sq"
    exact h _ _ _ _ ((hx.trans (x9.trans x10)).new hl8) ((x9.trans x10).new hl8)
theorem rd_law_right (Z : Ad) (cl : List (Str × Addr)) (ds : List D) (μ : Mu) (Q : PQ) (X : XQ) (hl : ds.length = 1) (h : (S_law_right Z).run ds μ Q X) : (w_law_right Z cl).run (bodyD Q X) (ev0 17 ds) μ := by
  obtain ⟨p, rfl, hp, hP, q⟩ := h
  unfold w_law_right
  have tb : ∀ {n : Nat} {μ' : Mu}, PotX n μ μ' p → μ' Z.P_law_right = some (.tab qL) := fun x => tabKeep x hp hP
  refine seq_by (fun ρ μ' => ∃ e1 e2 e3 e4 e5 e6 e7 e8 e9 e10 e11 e12 e13 e14 e15 e16, ρ = [some (.ob p), e1, e2, e3, e4, e5, e6, e7, e8, e9, e10, e11, e12, e13, e14, e15, e16] ∧ PotX 1000 μ μ' p) ?_ ?_
  · rw [wFor_run, wRng1_run, runAll_cons, wC_run, runAll_nil, fRng1_int]
    refine ⟨by decide, by decide, ?_⟩
    refine forW_by (fun i ρ μ' => ∃ e1 e2 e3 e4 e5 e6 e7 e8 e9 e10 e11 e12 e13 e14 e15 e16, ρ = [some (.ob p), e1, e2, e3, e4, e5, e6, e7, e8, e9, e10, e11, e12, e13, e14, e15, e16] ∧ PotX (300 * i) μ μ' p) (fun _ _ _ _ _ => trivial) ?_ ?_ ⟨_, _, _, _, _, _, _, _, _, _, _, _, _, _, _, _, rfl, .refl hp⟩
    rotate_left
    · rintro ρ μ' ⟨e1, e2, e3, e4, e5, e6, e7, e8, e9, e10, e11, e12, e13, e14, e15, e16, rfl, hx⟩
      exact ⟨_, _, _, _, _, _, _, _, _, _, _, _, _, _, _, _, rfl, hx.mono (by rw [rangeD_len]; decide)⟩
    rintro i x ρ μ1 hi ⟨e1, e2, e3, e4, e5, e6, e7, e8, e9, e10, e11, e12, e13, e14, e15, e16, rfl, hx⟩
    obtain ⟨hi4, rfl⟩ := rangeD_get hi
    have hi4' : i < 2 := hi4
    rw [gN_run]
    simp only [List.set_cons_zero, List.set_cons_succ]
    generalize some (D.int (0 + (i : Nat))) = e1'
    refine seq_by (fun ρ μ2 => ∃ a b c d e f, ρ = [some (.ob p), e1', some (f3 a b c), some (f3 d e f), e4, e5, e6, e7, e8, e9, e10, e11, e12, e13, e14, e15, e16] ∧ Bd a b c ∧ Pos a b c ∧ Pos d e f ∧ PotX (300 * i + 6) μ μ2 p) ?_ ?_
    · walk_at "sq"
      have bdp : ∀ {a b c : Int}, 1 ≤ a → a ≤ 9 → 1 ≤ c → c ≤ 9 → b * b < 4 * a * c → Bd a b c ∧ Pos a b c := fun {a b c} h1 h2 h3 h4 h5 => by
        have e : a * c ≤ 9 * 9 := Int.mul_le_mul h2 h4 (by omega) (by omega)
        have e2 : 4 * a * c = 4 * (a * c) := Int.mul_assoc _ _ _
        have := abs_lt_of_sq (x := b) (y := 20) (by decide) (by omega)
        exact ⟨⟨by omega, by omega, by omega, by omega, by omega, by omega⟩, by omega, h5⟩
      refine ⟨p, 9, 300 * i, rfl, hx.1, by omega, by decide, by decide, fun a b c μ2 a1 a2 c1 c2 h1 k1 => ?_⟩
      have x2 := hx.step k1
      refine ⟨p, 9, 300 * i + 3, rfl, x2.1, by omega, by decide, by decide, fun d e f μ3 d1 d2 f1 f2 h2 k2 => ?_⟩
      have g1 := bdp a1 a2 c1 c2 h1
      exact ⟨a, b, c, d, e, f, rfl, g1.1, g1.2, (bdp d1 d2 f1 f2 h2).2, x2.step k2⟩
    rintro ρ μ2 ⟨a, b, c, d, e, f, rfl, hb, hps, hps2, x2⟩
    refine seq_by (fun ρ μ2 => ∃ d e f, ρ = [some (.ob p), e1', some (f3 a b c), some (f3 d e f), e4, e5, e6, e7, e8, e9, e10, e11, e12, e13, e14, e15, e16] ∧ Pos d e f ∧ PotX (300 * i + 27) μ μ2 p) ?_ ?_
    · walk_at "sq"
      refine ⟨p, 2, 300 * i + 6, rfl, x2.1, by omega, by decide, by decide, fun k μ3 k0 k1 hk => ?_⟩
      have x3 := x2.step hk
      walk_at "sq"
      by_cases hk0 : k = 0
      · rw [if_pos hk0]
        refine ⟨p, 300 * i + 6 + 1, rfl, x3.1, by omega, fun t1 t2 t3 t4' μ4 hd g1 g2 g3 g4 hk4 => ?_⟩
        obtain ⟨s1, s2, s3⟩ := bd_small hb
        obtain ⟨a1, a2⟩ := g1
        obtain ⟨b1, b2⟩ := g2
        obtain ⟨c1, c2⟩ := g3
        obtain ⟨d1, d2⟩ := g4
        exact ⟨_, ⟨a, b, c, t1, t2, t3, t4', rfl, s1, s2, s3, ⟨by omega, by omega⟩, ⟨by omega, by omega⟩, ⟨by omega, by omega⟩, ⟨by omega, by omega⟩, ⟨by omega, by omega⟩, ⟨by omega, by omega⟩, rfl⟩, _, _, _, rfl, pos_turned hps hd, x3.step hk4⟩
      · rw [if_neg hk0]
        exact ⟨d, e, f, rfl, hps2, x3.mono (by omega)⟩
    clear hps2 x2
    clear d e f
    rintro ρ μ3 ⟨d, e, f, rfl, hps2, x3⟩
    refine seq_by (fun ρ μ2 => ∃ d e f, ρ = [some (.ob p), e1', some (f3 a b c), some (f3 d e f), e4, e5, e6, e7, e8, e9, e10, e11, e12, e13, e14, e15, e16] ∧ Bd d e f ∧ Pos d e f ∧ PotX (300 * i + 27) μ μ2 p) ?_ ?_
    · walk_at "sq"
      refine ⟨_, rfl, seen_f3 _ _ _, ?_⟩
      rw [fmB_f3]
      by_cases hbd : Bd d e f
      · rw [decide_eq_true hbd]
        walk_at "sq"
        exact ⟨d, e, f, rfl, hbd, hps2, x3⟩
      · rw [decide_eq_false hbd]
        walk_at "sq"
        exact ⟨a, b, c, rfl, hb, hps, x3⟩
    clear hps2 x3
    clear d e f
    rintro ρ μ3 ⟨d, e, f, rfl, hb2, hps2, x3⟩
    refine seq_by (fun ρ μ2 => ρ = [some (.ob p), e1', some (f3 a b c), some (f3 d e f), e4, e5, e6, e7, e8, e9, e10, e11, e12, e13, e14, e15, e16] ∧ PotX (300 * i + 230) μ μ2 p) ?_ ?_
    · walk_at "sq"
      refine ⟨p, 300 * i + 27, _, _, _, _, _, _, rfl, hb, hps, hb2, hps2, x3.1, by omega, fun μ4 x4 => ?_⟩
      walk_at "sq"
      exact (x3.trans x4).mono (by omega)
    rintro ρ μ4 ⟨rfl, x4⟩
    refine seq_by (fun ρ μ5 => ∃ w : Int, ρ = [some (.ob p), e1', some (f3 a b c), some (f3 d e f), some (.int w), e5, e6, e7, e8, e9, e10, e11, e12, e13, e14, e15, e16] ∧ -402 ≤ w ∧ w ≤ -3 ∧ PotX (300 * i + 231) μ μ5 p) ?_ ?_
    · walk_at "sq"
      refine ⟨p, 400, 300 * i + 230, rfl, x4.1, by omega, by decide, by decide, fun k μ5 k0 k1 hk => ?_⟩
      walk_at "sq"
      exact ⟨_, rfl, by omega, by omega, x4.step hk⟩
    rintro ρ μ5 ⟨w, rfl, w1, w2, x5⟩
    have hz : Sz w := ⟨by omega, w2⟩
    refine if_by (decide (w.fmod 4 < 2)) ?_ (fun hm => ?_) fun hm => ?_
    · walk_at "sq"
      decide
    rotate_left
    · walk_at "sq"
      exact ⟨_, _, _, _, _, _, _, _, _, _, _, _, _, _, _, _, rfl, x5.mono (by omega)⟩
    have hm := of_decide_eq_true hm
    have fr := far12 w1
    have noX : ∀ {C : Prop}, (∀ w', (.int w : D) = .int w' → Sz w' → 1 < w'.fmod 4) → C := fun z => absurd (z w rfl hz) (by omega)
    refine seq_by (fun ρ μ6 => ∃ l, ρ = [some (.ob p), e1', some (f3 a b c), some (f3 d e f), some (.int w), some (.ob l), e6, e7, e8, e9, e10, e11, e12, e13, e14, e15, e16] ∧ μ6 l = some (.lst (sortF (lstL w 12))) ∧ PotX (300 * i + 231) μ μ6 p) ?_ ?_
    · walk_at "sq"
      refine ⟨w, rfl, hz, fun n l hf hl => ?_⟩
      rw [hf.eq fr]
      exact ⟨l, rfl, mset_same _ _ _, x5.new hl⟩
    rintro ρ μ6 ⟨l, rfl, hl6, x6⟩
    refine seq_by (fun ρ μ7 => ρ = [some (.ob p), e1', some (f3 a b c), some (f3 d e f), some (.int w), some (.ob l), e6, e7, e8, e9, e10, e11, e12, e13, e14, e15, e16] ∧ μ7 = μ6) ?_ ?_
    · walk_at "sq"
      refine ⟨_, rfl, seen_pure rfl, fun w' e1 _ _ n hf => ?_, noX⟩
      cases e1
      rw [hf.eq fr]
      refine repr_forms w1 w2 (fun _ h => h) (lst12_len w) ?_
      rw [hl6]
      refine repr_forms w1 w2 (fun _ h => h) (lst12_len w) ?_
      walk_at "sq"
    rintro ρ μ7 ⟨rfl, rfl⟩
    refine seq_by (fun ρ μ8 => ∃ l2, ρ = [some (.ob p), e1', some (f3 a b c), some (f3 d e f), some (.int w), some (.ob l), some (.ob l2), e7, e8, e9, e10, e11, e12, e13, e14, e15, e16] ∧ μ8 l2 = some (.lst ((sortF (lstL w 12)).filter fOne)) ∧ PotX (300 * i + 231) μ μ8 p) ?_ ?_
    · walk_at "sq"
      rw [hl6]
      dsimp only
      refine ⟨small_size (by have := lst12_len w; omega), lcG_pure (fun d => if fOne d = true then some d else none) hl6 (fun d hd => ?_) ?_⟩
      · obtain ⟨⟨a, b, c⟩, _, rfl⟩ := sortF_mem hd
        refine ⟨_, rfl, ?_⟩
        have e : fOne (fD (a, b, c)) = decide (gcd3 a b c = 1) := rfl
        rw [e]
        walk_at "sq"
        refine ⟨_, ⟨a, b, c, rfl, rfl⟩, ?_⟩
        walk_at "sq"
        by_cases hg : gcd3 a b c = 1
        · rw [if_pos hg, if_pos hg]
        · rw [if_neg hg, if_neg hg]
      · rw [filter_fm, List.nil_append]
        exact fun l2 hl2 => ⟨l2, rfl, mset_same _ _ _, x6.new hl2⟩
    rintro ρ μ8 ⟨l2, rfl, hl8, x8⟩
    walk_at "sq"
    refine ⟨_, rfl, seen_pure rfl, fun w' e1 _ _ n hf => ?_, noX⟩
    cases e1
    rw [hf.eq fr]
    have fl : ((sortF (lstL w 12)).filter fOne).length ≤ 169 := Nat.le_trans (List.length_filter_le _ _) (lst12_len w)
    refine repr_forms w1 w2 (fun _ h => (List.mem_filter.mp h).1) fl ?_
    rw [hl8]
    refine repr_forms w1 w2 (fun _ h => (List.mem_filter.mp h).1) fl ?_
    walk_at "sq"
    exact ⟨_, _, _, _, _, _, _, _, _, _, _, _, _, _, _, _, rfl, x8.mono (by omega)⟩
  rintro ρ μ1 ⟨e1, e2, e3, e4, e5, e6, e7, e8, e9, e10, e11, e12, e13, e14, e15, e16, rfl, x1⟩
  refine seq_by (fun ρ μ2 => (∃ e4, ρ = [some (.ob p), e1, e2, e3, e4, e5, e6, e7, e8, e9, e10, e11, e12, e13, e14, e15, e16]) ∧ PotX 1000 μ μ2 p) ?_ ?_
  · walk_at "sq"
    refine ⟨small_size (by decide), lcG_by (fun i acc μ2 => μ2 = μ1 ∧ acc = (kn.take i).map fun z => .int (z.2 : Int)) (fun _ _ _ _ _ => trivial) ?_ ?_ ⟨rfl, rfl⟩⟩
    · rintro i d acc μ2 hi ⟨rfl, rfl⟩
      obtain ⟨z, hz, rfl⟩ : ∃ z, kn[i]? = some z ∧ d = .int z.1 := by
        have e : [D.int (-23), D.int (-47), D.int (-71), D.int (-163), D.int (-84), D.int (-3299)] = kn.map fun z => .int z.1 := rfl
        rw [e, List.getElem?_map] at hi
        cases h : kn[i]? with
        | none => rw [h] at hi; cases hi
        | some z => rw [h] at hi; cases hi; exact ⟨z, rfl, rfl⟩
      obtain ⟨⟨k1, k2⟩, k3, k4⟩ := kn_ok z (List.mem_of_getElem? hz)
      refine ⟨_, rfl, ?_⟩
      rw [wYes_run, if_pos rfl]
      refine known_len k1 k2 k3 k4 rfl ⟨rfl, ?_⟩
      rw [List.take_add_one, hz, List.map_append]
      rfl
    · rintro acc μ2 ⟨rfl, rfl⟩ l1 hl1 l2 hl2
      refine EqB_lst (at_new (mset_same _ _ _) hl2) (mset_same _ _ _) (by decide) (by decide) (fun _ => ?_) fun z => absurd rfl z
      rw [if_neg (by decide)]
      exact ⟨⟨_, rfl⟩, (x1.new hl1).new hl2⟩
  rintro ρ μ2 ⟨⟨e4, rfl⟩, x2⟩
  refine seq_by (fun ρ μ3 => ∃ d, ρ = [some (.ob p), e1, e2, e3, e4, e5, e6, e7, e8, e9, e10, e11, some d, e13, e14, e15, e16] ∧ (∀ w, d = .int w → Sz w → 1 < w.fmod 4) ∧ pureD d = true ∧ (∀ μ', Val μ' p d) ∧ PotX 1001 μ μ3 p) ?_ ?_
  · walk_at "sq"
    refine ⟨⟨by decide, 4, by decide, by decide⟩, fun l hl => ⟨p, l, 1000, _, rfl, x2.1.new hl, by decide, mset_same _ _ _, by simp, by simp, fun z => x2.1.ne hl z.symm, fun d μ3 hd k => ?_⟩⟩
    have nw : ∀ {v : Int}, (¬ Sz v ∨ 1 < v.fmod 4) → ∀ w, (.int v : D) = .int w → Sz w → 1 < w.fmod 4 := fun h w e hw => by
      cases e
      rcases h with h | h
      · exact absurd hw h
      · exact h
    refine ⟨d, rfl, ?_, ?_, ?_, (x2.new hl).step k⟩
    all_goals simp only [List.mem_cons, List.not_mem_nil, or_false] at hd
    · rcases hd with rfl | rfl | rfl | rfl | rfl | rfl | rfl | rfl | rfl
      · exact fun w e => nomatch e
      · exact nw (.inl (by decide))
      · exact nw (.inl (by decide))
      · exact nw (.inl (by decide))
      · exact nw (.inl (by decide))
      · exact nw (.inr (by decide))
      · exact fun w e => nomatch e
      · exact fun w e => nomatch e
      · exact nw (.inl (by decide))
    · rcases hd with rfl | rfl | rfl | rfl | rfl | rfl | rfl | rfl | rfl <;> rfl
    · intro μ'
      rcases hd with rfl | rfl | rfl | rfl | rfl | rfl | rfl | rfl | rfl
      · exact val_lf .non
      · exact val_lf (.int ⟨by decide, by decide⟩)
      · exact val_lf (.int ⟨by decide, by decide⟩)
      · exact val_lf (.int ⟨by decide, by decide⟩)
      · exact val_lf (.int ⟨by decide, by decide⟩)
      · exact val_lf (.int ⟨by decide, by decide⟩)
      · exact val_lf (.bl _)
      · exact val_lf (.str (by decide +kernel) (by decide))
      · exact val_lf (.int ⟨by decide, by decide⟩)
  rintro ρ μ3 ⟨d, rfl, hd, hpd, hvd, x3⟩
  have mem : ∀ {t : LamT} {w : WE}, (t, w) ∈ [(lam_law_right_0 cl, wl_law_right_0 Z), (lam_law_right_1 cl, wl_law_right_1 Z)] → (t, w) ∈ LL_law_right Z cl := fun h => by
    have LL : LL_law_right Z cl = [(lam_law_right_0 cl, wl_law_right_0 Z), (lam_law_right_1 cl, wl_law_right_1 Z)] ++ (LL_law_right Z cl).drop 2 := rfl
    rw [LL]
    exact List.mem_append_left _ h
  have m0 : (lam_law_right_0 cl, wl_law_right_0 Z) ∈ LL_law_right Z cl := mem (by simp)
  have m1 : (lam_law_right_1 cl, wl_law_right_1 Z) ∈ LL_law_right Z cl := mem (by simp)
  rw [wSeq_run]
  refine told_new_bad (C := Z.cBadSize) (d := d) (PotX.refl x3.1) (tb x3) m0 Z.eSize (fun μ' Q X x k => (show (Sall_least Z).run [d] μ' Q X from ⟨d, rfl, seen_pure hpd, fun w e h1 h2 => absurd (hd w e h1) (by omega), fun _ => k⟩)) fun l μ4 hl0 hlp x4 _ s4 => ?_
  dsimp only [List.set_cons_succ, List.set_cons_zero]
  rw [wSeq_run]
  refine told_add_bad x4 hl0 hlp s4 rfl (by decide) (tb (x3.trans x4)) m1 Z.eSize (fun μ' Q X x k => (show (Splain_least Z).run [d] μ' Q X from ⟨d, rfl, seen_pure hpd, fun w e h1 h2 => absurd (hd w e h1) (by omega), fun _ => k⟩)) fun μ5 x5 s5 => ?_
  dsimp only
  obtain ⟨acc, h5, hlen, hex⟩ := s5
  rw [wSeq_run]
  refine told_check (c := 7) (i := 15) (v := 12) (d := d) (x3.trans x5) Z.eSize rfl h5 (by rw [hlen]; decide) hex (hvd _) (show 15 < 17 by decide) rfl (by decide) (by decide) fun μ6 x6 _ => ?_
  clear hl0 hlp x4 s4 x5 h5 hlen hex
  dsimp only
  generalize some (D.ob l) = e7'
  refine seq_by (fun ρ μ7 => ∃ d, ρ = [some (.ob p), e1, e2, e3, e4, e5, e6, e7', e8, e9, e10, e11, some d, e13, e14, e15, e16] ∧ fmB d = false ∧ Val μ7 p d ∧ PotX 1002 μ μ7 p) ?_ ?_
  · walk_at "sq"
    intro l1 hl1 l2 hl2
    have x7 := x6.new (o := .lst [.int 1, .int 0, .int 1]) hl1
    have f1 : mset μ6 l1 (.lst [.int 1, .int 0, .int 1]) l1 = some (.lst [.int 1, .int 0, .int 1]) := mset_same _ _ _
    have n1 : l1 ≠ p := (x6.free hl1).2
    generalize mset μ6 l1 (.lst [.int 1, .int 0, .int 1]) = m7 at *
    refine ⟨p, l2, 1001, _, rfl, x7.1.new hl2, by decide, mset_same _ _ _, by simp, by simp, fun z => x7.1.ne hl2 z.symm, fun d μ8 hd k => ?_⟩
    refine ⟨d, rfl, ?_, ?_, (x7.new hl2).step k⟩
    all_goals simp only [List.mem_cons, List.not_mem_nil, or_false] at hd
    · rcases hd with rfl | rfl | rfl | rfl <;> rfl
    · rcases hd with rfl | rfl | rfl | rfl
      · exact val_lf .non
      · refine .lst (ds := [.int 1, .int 0, .int 1]) ?_ n1 (all1 (sI20 (by decide) (by decide)) (all1 (sI20 (by decide) (by decide)) (all1 (sI20 (by decide) (by decide)) all0))) (by decide)
        rw [k.2 l1 n1]
        exact at_new f1 hl2
      · exact val_tup (all1 (sI (by decide) (by decide)) (all1 (sI (by decide) (by decide)) all0)) (by decide)
      · exact val_tup (all1 (((SmD.bl true).mono (by decide) (by decide))) (all1 (sI (by decide) (by decide)) (all1 (sI (by decide) (by decide)) all0))) (by decide)
  clear hd hpd hvd
  rintro ρ μ7 ⟨d, rfl, hd, hvd, x7⟩
  refine seq_by (fun ρ μ8 => ∃ a b c, ρ = [some (.ob p), e1, e2, e3, e4, e5, e6, e7', some (f3 a b c), e9, e10, e11, some d, e13, e14, e15, e16] ∧ Bd a b c ∧ ¬ Pos a b c ∧ Val μ8 p d ∧ PotX 1003 μ μ8 p) ?_ ?_
  · walk_at "sq"
    intro l2 hl2
    refine ⟨p, l2, 1002, _, rfl, x7.1.new hl2, by decide, mset_same _ _ _, by simp, by simp, fun z => x7.1.ne hl2 z.symm, fun d1 μ8 hd1 k => ?_⟩
    have x8 := (x7.new hl2).step k
    have hv8 : Val μ8 p d := hvd.keep fun b o hb e => (((PotX.refl x7.1).new hl2).step k).keep hb e
    simp only [List.mem_cons, List.not_mem_nil, or_false] at hd1
    have np : ∀ {a b c : Int}, ¬(0 < a ∧ b * b < 4 * a * c) → ¬ Pos a b c := fun h => h
    rcases hd1 with rfl | rfl | rfl | rfl
    · exact ⟨1, 2, 1, rfl, by decide, np (by decide), hv8, x8⟩
    · exact ⟨-1, 0, -1, rfl, by decide, np (by decide), hv8, x8⟩
    · exact ⟨1, 1, -1, rfl, by decide, np (by decide), hv8, x8⟩
    · exact ⟨0, 0, 0, rfl, by decide, np (by decide), hv8, x8⟩
  clear hvd
  rintro ρ μ8 ⟨a, b, c, rfl, hb, hnp, hvd, x8⟩
  refine seq_by (fun ρ μ9 => PotX 1003 μ μ9 p) ?_ ?_
  · rw [wFor_run]
    have ng : ¬ Good (f3 a b c) := fun ⟨a', b', c', e, h1, h2⟩ => by cases e; exact hnp h2
    have ng2 : ¬ Good d := fun ⟨a', b', c', e, h1, _⟩ => by rw [e, fmB_f3, decide_eq_true h1] at hd; cases hd
    have hvf : ∀ μ', Val μ' p (f3 a b c) := fun μ' => by
      obtain ⟨h1, h2, h3, h4, h5, h6⟩ := hb
      exact val_tup (all1 (sI (by omega) (by omega)) (all1 (sI (by omega) (by omega)) (all1 (sI (by omega) (by omega)) all0))) (show 3 ≤ 15 by decide)
    walk_at "sq"
    refine forW_by (fun i ρ μ9 => ∃ e7 e9 e10 e11 e13, ρ = [some (.ob p), e1, e2, e3, e4, e5, e6, e7, some (f3 a b c), e9, e10, e11, some d, e13, e14, e15, e16] ∧ PotX 1003 μ μ9 p ∧ PotX 1003 μ8 μ9 p) (fun _ _ _ _ _ => trivial) ?_ (fun ρ μ9 ⟨_, _, _, _, _, _, x9, _⟩ => x9) ⟨_, _, _, _, _, rfl, x8, .refl x8.1⟩
    rintro i v ρ μ9 hi ⟨e7, e9, e10, e11, e13, rfl, x9, y9⟩
    have fin : ∀ (v : D) (s : Str) (C : Addr), Val μ9 p v → ((s = "form" ∧ C = Z.cBadForm) ∨ (s = "kind" ∧ C = Z.cUnlike)) → ¬ Good v → (∀ (X : XQ) (μ' : Mu), X C v μ' → Bad Z X v μ') →
        (bd9 Z cl).run (PD.turn { (bodyD Q X) with nx := fun ρ μ9 => PotX 1003 μ μ9 p } fun ρ2 μ2 => ∃ e7 e9 e10 e11 e13, ρ2 = [some (.ob p), e1, e2, e3, e4, e5, e6, e7, some (f3 a b c), e9, e10, e11, some d, e13, e14, e15, e16] ∧ PotX 1003 μ μ2 p ∧ PotX 1003 μ8 μ2 p) [some (.ob p), e1, e2, e3, e4, e5, e6, e7, some (f3 a b c), some (.str s), e10, e11, some d, some v, e14, e15, e16] μ9 := fun v s C h1 h2 h3 h4 =>
      bd9_ok Z cl x9 h1 (tb x9) h2 h3 h4 fun e7 e10 e11 μ' z0 z1 => ⟨_, _, _, _, _, rfl, z0, y9.trans z1⟩
    match i, hi with
    | 0, hi =>
      cases hi
      refine ⟨rfl, fin d "form" Z.cBadForm (hvd.keep fun b o hb e => y9.keep hb e) (.inl ⟨rfl, rfl⟩) ng2 fun X μ' k => ⟨fun _ => k, fun a b c e h _ => ?_⟩⟩
      rw [e, fmB_f3, decide_eq_true h] at hd
      cases hd
    | 1, hi =>
      cases hi
      refine ⟨rfl, fin (f3 a b c) "kind" Z.cUnlike (hvf _) (.inr ⟨rfl, rfl⟩) ng fun X μ' k => ⟨fun z => ?_, fun _ _ _ _ _ _ => k⟩⟩
      rw [fmB_f3, decide_eq_true hb] at z
      cases z
  intro ρ μ9 x9
  walk_at "sq"
  exact (x9.mono (m := 100000) (by decide)).sub fun μ'' h => q μ'' h
theorem rd_law (Z : Ad) (ds : List D) (μ : Mu) (Q : PQ) (X : XQ) (hl : ds.length = 1) (h : (Slaw Z).run ds μ Q X) : (wlaw Z).run (bodyD Q X) (ev0 2 ds) μ := by
  obtain ⟨ns, rfl, hn, hP, q⟩ := h
  unfold wlaw
  walk_at "sq"
  refine ⟨ns, 3, rfl, hn, by decide, by decide, fun l k hl hk => ?_⟩
  walk_at "sq"
  refine ⟨by rw [rangeD_len]; exact small_size (by omega), ?_⟩
  refine lcG_by (fun i acc μ' => Ext μ μ' ∧ μ' l = some (.lst (rangeD 0 k)) ∧ acc = (List.replicate i true).map D.bl) (fun _ _ _ _ h => h.2.1) ?_ ?_ ⟨(Ext.refl _).new hl, mset_same _ _ _, rfl⟩
  · rintro i d acc μ1 hi ⟨e1, h1, rfl⟩
    obtain ⟨hi2, rfl⟩ := rangeD_get hi
    refine ⟨_, rfl, ?_⟩
    walk_at "sq"
    refine ⟨ns, _, rfl, hn, by omega, by omega, fun p μ2 hp k2 => ?_⟩
    have pne : Z.P_law_right ≠ p := ne_free (e1 _ _ hP) hp
    refine ⟨p, rfl, k2.1, by rw [k2.2 _ pne]; exact e1 _ _ hP, fun μ3 k3 => ?_⟩
    have hlp : l ≠ p := ne_free h1 hp
    refine ⟨fun a o ha => ?_, ?_, ?_⟩
    · have hap : a ≠ p := ne_free (e1 a o ha) hp
      rw [k3.2 a hap, k2.2 a hap]
      exact e1 a o ha
    · rw [k3.2 l hlp, k2.2 l hlp]; exact h1
    · show _ = (List.replicate (i + 1) true).map D.bl
      rw [List.replicate_succ', List.map_append]; rfl
  · rintro acc μ1 ⟨e1, h1, rfl⟩ p hp
    refine ⟨p, List.replicate (rangeD 0 k).length true, rfl, mset_same _ _ _, ?_⟩
    have e : (List.replicate (rangeD 0 k).length true).all id = true := by simp
    rw [e]
    exact .ext q (e1.new hp)
theorem law_S (Z : Ad) {μ : Mu} (ns : List Int) (hn : ns.length ≤ 63) (_hb : ∀ z ∈ ns, Builtin.Int.intBits z ≤ 1048576) (hP : μ Z.P_law_right = some (.tab qL)) : (Slaw Z).run [.rls (ns.map D.int)] μ (fun d _ => d = .bl true) XF := ⟨ns, rfl, hn, hP, rfl⟩
end K9

/-! The end, printed by genz2.py. -/
namespace K9
open PySem PySem.Spec PyProof.Rows L2 Sq
/-- what the top has written of the def x -/
structure DefAt (K : PySem.W.Frag) (x : Str) (st : Stmt) (f : Addr) (oc : Value) (od : Option Addr) (kV dc pm : Value) (an : Option Addr) (cd ct : Value) (sl : Array (Option Value)) : Prop where
  a : PySem.W.nsIn K mainGlobals x = some (some (.ref f))
  l : K.lookup f = some ⟨oc, od, .func (PySem.W.fnOf x x (defArgs st) (defBody st) (defScope st) .none kV dc pm an cd ct), sl⟩
  c : PySem.W.codeIn K cd x = true
  k : PySem.W.keepIn K (.ref f) = true
abbrev sini : Stmt := nthS (clB (top 1)) 0
abbrev s_law_heard : Stmt := top 56
theorem all_mk {P : Program} {w : World} {K : PySem.W.Frag} {h : Heap} {mg : Str → Option Value} {fa : Addr} {ts : List Addr} (X : K.In h) (G : h.Ns mainGlobals mg) (hfa : mg "law" = some (.ref fa))
    {f0 f1 f2 f3 f4 f5 f6 f7 f8 f9 f10 f11 f12 f13 f14 f15 f16 f17 f18 f19 f20 f21 f22 f23 f24 f25 f26 f27 f28 f29 f30 f31 f32 f33 f34 f35 f36 f37 f38 f39 f40 f41 f42 f43 f44 f45 f46 f47 f48 f49 f50 f51 f52 f53 f54 f55 f56 f57 f58 f59 f60 : Addr} {od0 an0 od1 an1 od2 an2 od3 an3 od4 an4 od5 an5 od6 an6 od7 an7 od8 an8 od9 an9 od10 an10 od11 an11 od12 an12 od13 an13 od14 an14 od15 an15 od16 an16 od17 an17 od18 an18 od19 an19 od20 an20 od21 an21 od22 an22 od23 an23 od24 an24 od25 an25 od26 an26 od27 an27 od28 an28 od29 an29 od30 an30 od31 an31 od32 an32 od33 an33 od34 an34 od35 an35 od36 an36 od37 an37 od38 an38 od39 an39 od40 an40 od41 an41 od42 an42 od43 an43 od44 an44 od45 an45 od46 an46 od47 an47 od48 an48 od49 an49 od50 an50 od51 an51 od52 an52 od53 an53 od54 an54 od55 an55 od56 an56 od57 an57 od58 an58 od59 an59 od60 an60 : Option Addr} {sl0 sl1 sl2 sl3 sl4 sl5 sl6 sl7 sl8 sl9 sl10 sl11 sl12 sl13 sl14 sl15 sl16 sl17 sl18 sl19 sl20 sl21 sl22 sl23 sl24 sl25 sl26 sl27 sl28 sl29 sl30 sl31 sl32 sl33 sl34 sl35 sl36 sl37 sl38 sl39 sl40 sl41 sl42 sl43 sl44 sl45 sl46 sl47 sl48 sl49 sl50 sl51 sl52 sl53 sl54 sl55 sl56 sl57 sl58 sl59 sl60 : Array (Option Value)} {oc0 kV0 dc0 pm0 ct0 cd0 oc1 kV1 dc1 pm1 ct1 cd1 oc2 kV2 dc2 pm2 ct2 cd2 oc3 kV3 dc3 pm3 ct3 cd3 oc4 kV4 dc4 pm4 ct4 cd4 oc5 kV5 dc5 pm5 ct5 cd5 oc6 kV6 dc6 pm6 ct6 cd6 oc7 kV7 dc7 pm7 ct7 cd7 oc8 kV8 dc8 pm8 ct8 cd8 oc9 kV9 dc9 pm9 ct9 cd9 oc10 kV10 dc10 pm10 ct10 cd10 oc11 kV11 dc11 pm11 ct11 cd11 oc12 kV12 dc12 pm12 ct12 cd12 oc13 kV13 dc13 pm13 ct13 cd13 oc14 kV14 dc14 pm14 ct14 cd14 oc15 kV15 dc15 pm15 ct15 cd15 oc16 kV16 dc16 pm16 ct16 cd16 oc17 kV17 dc17 pm17 ct17 cd17 oc18 kV18 dc18 pm18 ct18 cd18 oc19 kV19 dc19 pm19 ct19 cd19 oc20 kV20 dc20 pm20 ct20 cd20 oc21 kV21 dc21 pm21 ct21 cd21 oc22 kV22 dc22 pm22 ct22 cd22 oc23 kV23 dc23 pm23 ct23 cd23 oc24 kV24 dc24 pm24 ct24 cd24 oc25 kV25 dc25 pm25 ct25 cd25 oc26 kV26 dc26 pm26 ct26 cd26 oc27 kV27 dc27 pm27 ct27 cd27 oc28 kV28 dc28 pm28 ct28 cd28 oc29 kV29 dc29 pm29 ct29 cd29 oc30 kV30 dc30 pm30 ct30 cd30 oc31 kV31 dc31 pm31 ct31 cd31 oc32 kV32 dc32 pm32 ct32 cd32 oc33 kV33 dc33 pm33 ct33 cd33 oc34 kV34 dc34 pm34 ct34 cd34 oc35 kV35 dc35 pm35 ct35 cd35 oc36 kV36 dc36 pm36 ct36 cd36 oc37 kV37 dc37 pm37 ct37 cd37 oc38 kV38 dc38 pm38 ct38 cd38 oc39 kV39 dc39 pm39 ct39 cd39 oc40 kV40 dc40 pm40 ct40 cd40 oc41 kV41 dc41 pm41 ct41 cd41 oc42 kV42 dc42 pm42 ct42 cd42 oc43 kV43 dc43 pm43 ct43 cd43 oc44 kV44 dc44 pm44 ct44 cd44 oc45 kV45 dc45 pm45 ct45 cd45 oc46 kV46 dc46 pm46 ct46 cd46 oc47 kV47 dc47 pm47 ct47 cd47 oc48 kV48 dc48 pm48 ct48 cd48 oc49 kV49 dc49 pm49 ct49 cd49 oc50 kV50 dc50 pm50 ct50 cd50 oc51 kV51 dc51 pm51 ct51 cd51 oc52 kV52 dc52 pm52 ct52 cd52 oc53 kV53 dc53 pm53 ct53 cd53 oc54 kV54 dc54 pm54 ct54 cd54 oc55 kV55 dc55 pm55 ct55 cd55 oc56 kV56 dc56 pm56 ct56 cd56 oc57 kV57 dc57 pm57 ct57 cd57 oc58 kV58 dc58 pm58 ct58 oc59 kV59 dc59 pm59 ct59 cd59 oc60 kV60 dc60 pm60 ct60 cd60 : Value} {tk_ABOVE tk_BELOW tk_LEAST tk_MIXED tk_MOST_LETTER tk_MOST_PART tk_MOST_SIZE tk_SPLIT tk_TURN : Tok}
    {mc0 mP0 : Addr} {mo0 : Value} {md0 : Option Addr} {mv0 : Array Value} {ms0 : Array (Option Value)}
    {C0 C1 C2 C3 fI cc cda : Addr} {cdD : ClassData} {oc kV doc pm ct : Value} {od an : Option Addr} {osl : Array (Option Value)} {cl : Value} {cld : Option Addr} {csl : Array (Option Value)} {ccl : Value} {cdd : Option Addr} {vs : Array Value} {ccs : Array (Option Value)} {file : Str} {tf : Tok}
    {nm0 q0 nm1 q1 nm2 q2 nm3 q3 : Str} {N0 N1 N2 N3 : Addr} {bs0 bm0 sub0 bs1 bm1 sub1 bs2 bm2 sub2 bs3 bm3 sub3 : List Value} {sn0 sn1 sn2 sn3 : List Str} {ab0 ab1 ab2 ab3 : Bool} {col0 col1 col2 col3 : Option Bool} {dd0 dd1 dd2 dd3 : Option Addr} {k00 k10 k20 k30 k50 k01 k11 k21 k31 k51 k02 k12 k22 k32 k52 k03 k13 k23 k33 k53 : Option Value}
    (h0 : DefAt K "is_int" sis_int f0 oc0 od0 kV0 dc0 pm0 an0 cd0 ct0 sl0)
    (h1 : DefAt K "is_whole" sis_whole f1 oc1 od1 kV1 dc1 pm1 an1 cd1 ct1 sl1)
    (h2 : DefAt K "are_wholes" sare_wholes f2 oc2 od2 kV2 dc2 pm2 an2 cd2 ct2 sl2)
    (h3 : DefAt K "are_ints" sare_ints f3 oc3 od3 kV3 dc3 pm3 an3 cd3 ct3 sl3)
    (h4 : DefAt K "is_told" sis_told f4 oc4 od4 kV4 dc4 pm4 an4 cd4 ct4 sl4)
    (h5 : DefAt K "common_int" scommon_int f5 oc5 od5 kV5 dc5 pm5 an5 cd5 ct5 sl5)
    (h6 : DefAt K "told_root" stold_root f6 oc6 od6 kV6 dc6 pm6 an6 cd6 ct6 sl6)
    (h7 : DefAt K "is_square" sis_square f7 oc7 od7 kV7 dc7 pm7 an7 cd7 ct7 sl7)
    (h8 : DefAt K "is_form" sis_form f8 oc8 od8 kV8 dc8 pm8 an8 cd8 ct8 sl8)
    (h9 : DefAt K "look_at_form" slook_at_form f9 oc9 od9 kV9 dc9 pm9 an9 cd9 ct9 sl9)
    (h10 : DefAt K "told_size" stold_size f10 oc10 od10 kV10 dc10 pm10 an10 cd10 ct10 sl10)
    (h11 : DefAt K "told_value" stold_value f11 oc11 od11 kV11 dc11 pm11 an11 cd11 ct11 sl11)
    (h12 : DefAt K "told_kind" stold_kind f12 oc12 od12 kV12 dc12 pm12 an12 cd12 ct12 sl12)
    (h13 : DefAt K "is_turn" sis_turn f13 oc13 od13 kV13 dc13 pm13 an13 cd13 ct13 sl13)
    (h14 : DefAt K "told_turned" stold_turned f14 oc14 od14 kV14 dc14 pm14 an14 cd14 ct14 sl14)
    (h15 : DefAt K "told_then" stold_then f15 oc15 od15 kV15 dc15 pm15 an15 cd15 ct15 sl15)
    (h16 : DefAt K "told_back" stold_back f16 oc16 od16 kV16 dc16 pm16 an16 cd16 ct16 sl16)
    (h17 : DefAt K "look_at_above" slook_at_above f17 oc17 od17 kV17 dc17 pm17 an17 cd17 ct17 sl17)
    (h18 : DefAt K "is_least" sis_least f18 oc18 od18 kV18 dc18 pm18 an18 cd18 ct18 sl18)
    (h19 : DefAt K "told_least" stold_least f19 oc19 od19 kV19 dc19 pm19 an19 cd19 ct19 sl19)
    (h20 : DefAt K "least_form" sleast_form f20 oc20 od20 kV20 dc20 pm20 an20 cd20 ct20 sl20)
    (h21 : DefAt K "shows_least" sshows_least f21 oc21 od21 kV21 dc21 pm21 an21 cd21 ct21 sl21)
    (h22 : DefAt K "is_same_tuple" sis_same_tuple f22 oc22 od22 kV22 dc22 pm22 an22 cd22 ct22 sl22)
    (h23 : DefAt K "look_at_two" slook_at_two f23 oc23 od23 kV23 dc23 pm23 an23 cd23 ct23 sl23)
    (h24 : DefAt K "same_above" ssame_above f24 oc24 od24 kV24 dc24 pm24 an24 cd24 ct24 sl24)
    (h25 : DefAt K "shows_same_above" sshows_same_above f25 oc25 od25 kV25 dc25 pm25 an25 cd25 ct25 sl25)
    (h26 : DefAt K "told_own" stold_own f26 oc26 od26 kV26 dc26 pm26 an26 cd26 ct26 sl26)
    (h27 : DefAt K "own_turns" sown_turns f27 oc27 od27 kV27 dc27 pm27 an27 cd27 ct27 sl27)
    (h28 : DefAt K "look_at_size_below" slook_at_size_below f28 oc28 od28 kV28 dc28 pm28 an28 cd28 ct28 sl28)
    (h29 : DefAt K "told_all_least" stold_all_least f29 oc29 od29 kV29 dc29 pm29 an29 cd29 ct29 sl29)
    (h30 : DefAt K "all_least" sall_least f30 oc30 od30 kV30 dc30 pm30 an30 cd30 ct30 sl30)
    (h31 : DefAt K "plain_least" splain_least f31 oc31 od31 kV31 dc31 pm31 an31 cd31 ct31 sl31)
    (h32 : DefAt K "told_plain_least" stold_plain_least f32 oc32 od32 kV32 dc32 pm32 an32 cd32 ct32 sl32)
    (h33 : DefAt K "_law_pot" s_law_pot f33 oc33 od33 kV33 dc33 pm33 an33 cd33 ct33 sl33)
    (h34 : DefAt K "_law_take" s_law_take f34 oc34 od34 kV34 dc34 pm34 an34 cd34 ct34 sl34)
    (h35 : DefAt K "_law_of" s_law_of f35 oc35 od35 kV35 dc35 pm35 an35 cd35 ct35 sl35)
    (h36 : DefAt K "_law_cells" s_law_cells f36 oc36 od36 kV36 dc36 pm36 an36 cd36 ct36 sl36)
    (h37 : DefAt K "_law_odd" s_law_odd f37 oc37 od37 kV37 dc37 pm37 an37 cd37 ct37 sl37)
    (h38 : DefAt K "_law_is_int" s_law_is_int f38 oc38 od38 kV38 dc38 pm38 an38 cd38 ct38 sl38)
    (h39 : DefAt K "_law_bent" s_law_bent f39 oc39 od39 kV39 dc39 pm39 an39 cd39 ct39 sl39)
    (h40 : DefAt K "_law_is_bool" s_law_is_bool f40 oc40 od40 kV40 dc40 pm40 an40 cd40 ct40 sl40)
    (h41 : DefAt K "_law_common" s_law_common f41 oc41 od41 kV41 dc41 pm41 an41 cd41 ct41 sl41)
    (h42 : DefAt K "_law_root" s_law_root f42 oc42 od42 kV42 dc42 pm42 an42 cd42 ct42 sl42)
    (h43 : DefAt K "_law_value" s_law_value f43 oc43 od43 kV43 dc43 pm43 an43 cd43 ct43 sl43)
    (h44 : DefAt K "_law_turned" s_law_turned f44 oc44 od44 kV44 dc44 pm44 an44 cd44 ct44 sl44)
    (h45 : DefAt K "_law_is_turn" s_law_is_turn f45 oc45 od45 kV45 dc45 pm45 an45 cd45 ct45 sl45)
    (h46 : DefAt K "_law_then" s_law_then f46 oc46 od46 kV46 dc46 pm46 an46 cd46 ct46 sl46)
    (h47 : DefAt K "_law_turn_drawn" s_law_turn_drawn f47 oc47 od47 kV47 dc47 pm47 an47 cd47 ct47 sl47)
    (h48 : DefAt K "_law_is_form" s_law_is_form f48 oc48 od48 kV48 dc48 pm48 an48 cd48 ct48 sl48)
    (h49 : DefAt K "_law_above_drawn" s_law_above_drawn f49 oc49 od49 kV49 dc49 pm49 an49 cd49 ct49 sl49)
    (h50 : DefAt K "_law_content" s_law_content f50 oc50 od50 kV50 dc50 pm50 an50 cd50 ct50 sl50)
    (h51 : DefAt K "_law_is_least" s_law_is_least f51 oc51 od51 kV51 dc51 pm51 an51 cd51 ct51 sl51)
    (h52 : DefAt K "_law_least" s_law_least f52 oc52 od52 kV52 dc52 pm52 an52 cd52 ct52 sl52)
    (h53 : DefAt K "_law_is_plain" s_law_is_plain f53 oc53 od53 kV53 dc53 pm53 an53 cd53 ct53 sl53)
    (h54 : DefAt K "_law_is_least_due" s_law_is_least_due f54 oc54 od54 kV54 dc54 pm54 an54 cd54 ct54 sl54)
    (h55 : DefAt K "_law_is_same_due" s_law_is_same_due f55 oc55 od55 kV55 dc55 pm55 an55 cd55 ct55 sl55)
    (h56 : DefAt K "_law_all_least" s_law_all_least f56 oc56 od56 kV56 dc56 pm56 an56 cd56 ct56 sl56)
    (h57 : DefAt K "_law_are_papers_right" s_law_are_papers_right f57 oc57 od57 kV57 dc57 pm57 an57 cd57 ct57 sl57)
    (h58 : DefAt K "_law_right" s_law_right f58 oc58 od58 kV58 dc58 pm58 an58 (.ref mc0) ct58 sl58)
    (h59 : DefAt K "law" slaw f59 oc59 od59 kV59 dc59 pm59 an59 cd59 ct59 sl59)
    (h60 : DefAt K "_law_heard" s_law_heard f60 oc60 od60 kV60 dc60 pm60 an60 cd60 ct60 sl60)
    (ml0 : K.lookup mc0 = some ⟨mo0, md0, .fields mv0, ms0⟩) (mp0 : mv0[11]? = some (.ref mP0)) (mn0 : K.lookup mP0 = none) (mh0 : PySem.W.codeHdIn K mc0 mP0 = true) (mt0 : mP0 ∈ ts)
    (k0 : ClsK K "SquareError" C0 C0 fI nm0 q0 N0 bs0 bm0 sn0 sub0 ab0 col0 dd0 k00 k10 k20 k30 k50)
    (k1 : ClsK K "BadForm" C1 C0 fI nm1 q1 N1 bs1 bm1 sn1 sub1 ab1 col1 dd1 k01 k11 k21 k31 k51)
    (k2 : ClsK K "BadSize" C2 C0 fI nm2 q2 N2 bs2 bm2 sn2 sub2 ab2 col2 dd2 k02 k12 k22 k32 k52)
    (k3 : ClsK K "Unlike" C3 C0 fI nm3 q3 N3 bs3 bm3 sn3 sub3 ab3 col3 dd3 k03 k13 k23 k33 k53)
    (kA : AllK K C0 fI cdD) (kI : InitK K sini "SquareError.__init__" C0 fI cc cda oc kV doc pm ct od an osl cl cld csl ccl cdd vs ccs file tf)
    (hfile : ((P.main.file : Str) == file) = true) (htop : (P.main.scope.names.lookup ("super" : Str)).isSome = false)
    (z_abs : PySem.W.nsIn K mainGlobals "abs" = some none)
    (z_all : PySem.W.nsIn K mainGlobals "all" = some none)
    (z_any : PySem.W.nsIn K mainGlobals "any" = some none)
    (z_bool : PySem.W.nsIn K mainGlobals "bool" = some none)
    (z_int : PySem.W.nsIn K mainGlobals "int" = some none)
    (z_isinstance : PySem.W.nsIn K mainGlobals "isinstance" = some none)
    (z_len : PySem.W.nsIn K mainGlobals "len" = some none)
    (z_list : PySem.W.nsIn K mainGlobals "list" = some none)
    (z_max : PySem.W.nsIn K mainGlobals "max" = some none)
    (z_min : PySem.W.nsIn K mainGlobals "min" = some none)
    (z_range : PySem.W.nsIn K mainGlobals "range" = some none)
    (z_repr : PySem.W.nsIn K mainGlobals "repr" = some none)
    (z_sorted : PySem.W.nsIn K mainGlobals "sorted" = some none)
    (z_str : PySem.W.nsIn K mainGlobals "str" = some none)
    (z_sum : PySem.W.nsIn K mainGlobals "sum" = some none)
    (z_super : PySem.W.nsIn K mainGlobals "super" = some none)
    (z_tuple : PySem.W.nsIn K mainGlobals "tuple" = some none)
    (c_ABOVE : PySem.W.nsIn K mainGlobals "ABOVE" = some (some (.str "above" tk_ABOVE)))
    (c_BELOW : PySem.W.nsIn K mainGlobals "BELOW" = some (some (.str "below" tk_BELOW)))
    (c_LEAST : PySem.W.nsIn K mainGlobals "LEAST" = some (some (.str "least" tk_LEAST)))
    (c_MIXED : PySem.W.nsIn K mainGlobals "MIXED" = some (some (.str "mixed" tk_MIXED)))
    (c_MOST_LETTER : PySem.W.nsIn K mainGlobals "MOST_LETTER" = some (some (.int 1000000000000 tk_MOST_LETTER)))
    (c_MOST_PART : PySem.W.nsIn K mainGlobals "MOST_PART" = some (some (.int 1000000 tk_MOST_PART)))
    (c_MOST_SIZE : PySem.W.nsIn K mainGlobals "MOST_SIZE" = some (some (.int 100000 tk_MOST_SIZE)))
    (c_SPLIT : PySem.W.nsIn K mainGlobals "SPLIT" = some (some (.str "split" tk_SPLIT)))
    (c_TURN : PySem.W.nsIn K mainGlobals "TURN" = some (some (.str "turn" tk_TURN)))
    : ∃ (fd : FuncData) (cs : List (Addr × Addr)) (qs : Addr → Str) (S : SpD), (∀ p ∈ cs, p.2 ∈ ts ∧ K.lookup p.2 = none ∧ PySem.W.codeHdIn K p.1 p.2 = true) ∧ (∀ (s : Shared) (u : Value), BindsTo s fd ⟨[u], []⟩ [("script", u)]) ∧
      (∀ ns : List Int, ns.length ≤ 63 → (∀ z ∈ ns, Builtin.Int.intBits z ≤ 1048576) → S.run [.rls (ns.map D.int)] (muT cs qs) (fun d _ => d = .bl true) XF) ∧
      ∀ base : Heap, K.In base → base.Ns mainGlobals mg → (∀ p ∈ cs, LamX.TabB base mg p.1 p.2) → RunOk P w K mg base 12 fa fd ["script"] (spOf K 1 S) := by
  have e := hfa.symm.trans (PySem.W.mg_of X G h59.a)
  cases e
  have T : Txt mg := ⟨PySem.W.mg_none_of X G z_abs, PySem.W.mg_none_of X G z_all, PySem.W.mg_none_of X G z_any, PySem.W.mg_none_of X G z_bool, PySem.W.mg_none_of X G z_int, PySem.W.mg_none_of X G z_isinstance, PySem.W.mg_none_of X G z_len, PySem.W.mg_none_of X G z_list, PySem.W.mg_none_of X G z_max, PySem.W.mg_none_of X G z_min, PySem.W.mg_none_of X G z_range, PySem.W.mg_none_of X G z_repr, PySem.W.mg_none_of X G z_sorted, PySem.W.mg_none_of X G z_str, PySem.W.mg_none_of X G z_sum, PySem.W.mg_none_of X G z_super, PySem.W.mg_none_of X G z_tuple, ⟨_, PySem.W.mg_of X G c_ABOVE⟩, ⟨_, PySem.W.mg_of X G c_BELOW⟩, ⟨_, PySem.W.mg_of X G c_LEAST⟩, ⟨_, PySem.W.mg_of X G c_MIXED⟩, ⟨_, PySem.W.mg_of X G c_MOST_LETTER⟩, ⟨_, PySem.W.mg_of X G c_MOST_PART⟩, ⟨_, PySem.W.mg_of X G c_MOST_SIZE⟩, ⟨_, PySem.W.mg_of X G c_SPLIT⟩, ⟨_, PySem.W.mg_of X G c_TURN⟩⟩
  let Z : Ad := { cBadForm := C1, cBadSize := C2, cUnlike := C3, P_law_right := mP0 }
  refine ⟨PySem.W.fnOf "law" "law" (defArgs slaw) (defBody slaw) (defScope slaw) .none kV59 dc59 pm59 an59 cd59 ct59, [(mc0, mP0)], fun b => if b = mP0 then ("_law_right.<locals>." : Str) ++ "<lambda>" else "?", Slaw Z, ?_, fun s v => .of_eq rfl, ?_, fun base _ _ TBs => ?_⟩
  · exact (List.forall_mem_cons.mpr ⟨⟨mt0, mn0, mh0⟩, (fun _ h => nomatch h)⟩)
  · exact fun ns hn hb => law_S Z ns hn hb ((muT_at (p := (mc0, mP0)) (by simp)).trans (congrArg (fun z => some (O.tab z)) (if_pos rfl)))
  have E_BadForm : ErrD P w K mg base "BadForm" Z.cBadForm := errD_mk (st := sini) X G k1 kA kI z_super (p1 := _) (hb := rfl) hfile htop ⟨rfl, rfl, rfl, rfl, rfl, rfl, rfl, by decide +kernel, by decide +kernel⟩ rfl rfl rfl (fun _ _ _ _ _ _ _ _ a b => rfl)
  have I_BadForm : IsXD K mg "BadForm" (oneC Z.cBadForm) := ⟨C1, PySem.W.mg_of X G k1.a, fun C b h => by obtain ⟨h1, h2⟩ := oneC_inv h; subst h1 h2; exact ⟨k1.exc kA, k1.me⟩⟩
  have E_BadSize : ErrD P w K mg base "BadSize" Z.cBadSize := errD_mk (st := sini) X G k2 kA kI z_super (p1 := _) (hb := rfl) hfile htop ⟨rfl, rfl, rfl, rfl, rfl, rfl, rfl, by decide +kernel, by decide +kernel⟩ rfl rfl rfl (fun _ _ _ _ _ _ _ _ a b => rfl)
  have I_BadSize : IsXD K mg "BadSize" (oneC Z.cBadSize) := ⟨C2, PySem.W.mg_of X G k2.a, fun C b h => by obtain ⟨h1, h2⟩ := oneC_inv h; subst h1 h2; exact ⟨k2.exc kA, k2.me⟩⟩
  have E_Unlike : ErrD P w K mg base "Unlike" Z.cUnlike := errD_mk (st := sini) X G k3 kA kI z_super (p1 := _) (hb := rfl) hfile htop ⟨rfl, rfl, rfl, rfl, rfl, rfl, rfl, by decide +kernel, by decide +kernel⟩ rfl rfl rfl (fun _ _ _ _ _ _ _ _ a b => rfl)
  have I_Unlike : IsXD K mg "Unlike" (oneC Z.cUnlike) := ⟨C3, PySem.W.mg_of X G k3.a, fun C b h => by obtain ⟨h1, h2⟩ := oneC_inv h; subst h1 h2; exact ⟨k3.exc kA, k3.me⟩⟩
  have V_errs : ErrsD K Z.isE := fun C b h => by
    obtain ⟨_, rfl | rfl | rfl⟩ := Ad.isE_inv h
    all_goals first | exact ⟨k1.exc kA, k1.nV⟩ | exact ⟨k2.exc kA, k2.nV⟩ | exact ⟨k3.exc kA, k3.nV⟩
  have T_heard : HeardD P w K mg base Z.isSq := ⟨_, _, _, s_law_heard, _, _, _, _, _, _, _, _, _, _, _, _, _, _, _, _, _, _, _, _, _, fun_mk (st := s_law_heard) h60.l h60.c h60.k, ⟨rfl, rfl, rfl, by decide +kernel, rfl, by decide +kernel, by decide +kernel⟩, ⟨rfl, rfl, rfl, rfl, rfl⟩, rfl, (fun env he => by cases env; dsimp only at he; subst he; rfl), PySem.W.mg_of X G h60.a, h60.k, (fun_mk (st := s_law_heard) h60.l h60.c h60.k).binds fun _ _ _ _ _ _ us hl => match us, hl with | [_], _ => rfl, PySem.W.mg_of X G k0.a, fun C b h => by
    obtain ⟨e, rfl | rfl | rfl⟩ := Ad.isE_inv h <;> subst e
    all_goals first | exact k1.exm (S := C0) k0 | exact k2.exm (S := C0) k0 | exact k3.exm (S := C0) k0
    ⟩
  have TB0 := TBs (mc0, mP0) (by simp)
  have g_is_int := fun_mk (st := sis_int) h0.l h0.c h0.k
  have F_is_int : FnD P w K mg base 1 "is_int" ["value", "low", "high"] [] Sis_int := fn_ok g_is_int sc_is_int (PySem.W.mg_of X G h0.a) (g_is_int.binds fun _ _ _ _ _ _ us hl => match us, hl with | [_, _, _], _ => rfl) (fun _ h => nomatch h) (wis_int Z) (fun cdv A outer s H E hg hr => der_is_int Z T cdv A outer s H E hg hr) (rd_is_int Z)
  have g_is_whole := fun_mk (st := sis_whole) h1.l h1.c h1.k
  have F_is_whole : FnD P w K mg base 1 "is_whole" ["value"] [] Sis_whole := fn_ok g_is_whole sc_is_whole (PySem.W.mg_of X G h1.a) (g_is_whole.binds fun _ _ _ _ _ _ us hl => match us, hl with | [_], _ => rfl) (fun _ h => nomatch h) (wis_whole Z) (fun cdv A outer s H E hg hr => der_is_whole Z T cdv A outer s H E hg hr) (rd_is_whole Z)
  have g_is_told := fun_mk (st := sis_told) h4.l h4.c h4.k
  have F_is_told : FnD P w K mg base 1 "is_told" ["value", "sizes"] [] Sis_told := fn_ok g_is_told sc_is_told (PySem.W.mg_of X G h4.a) (g_is_told.binds fun _ _ _ _ _ _ us hl => match us, hl with | [_, _], _ => rfl) (fun _ h => nomatch h) (wis_told Z) (fun cdv A outer s H E hg hr => der_is_told Z T cdv A outer s H E hg hr) (rd_is_told Z)
  have g_common_int := fun_mk (st := scommon_int) h5.l h5.c h5.k
  have F_common_int : FnD P w K mg base 1 "common_int" ["one", "other"] [] Scommon_int := fn_ok g_common_int sc_common_int (PySem.W.mg_of X G h5.a) (g_common_int.binds fun _ _ _ _ _ _ us hl => match us, hl with | [_, _], _ => rfl) (fun _ h => nomatch h) (wcommon_int Z) (fun cdv A outer s H E hg hr => der_common_int Z T cdv A outer s H E hg hr) (rd_common_int Z)
  have g_told_root := fun_mk (st := stold_root) h6.l h6.c h6.k
  have F_told_root : FnD P w K mg base 1 "told_root" ["number"] [] Stold_root := fn_ok g_told_root sc_told_root (PySem.W.mg_of X G h6.a) (g_told_root.binds fun _ _ _ _ _ _ us hl => match us, hl with | [_], _ => rfl) (fun _ h => nomatch h) (wtold_root Z) (fun cdv A outer s H E hg hr => der_told_root Z T cdv A outer s H E hg hr) (rd_told_root Z)
  have g_told_size := fun_mk (st := stold_size) h10.l h10.c h10.k
  have F_told_size : FnD P w K mg base 1 "told_size" ["form"] [] Stold_size := fn_ok g_told_size sc_told_size (PySem.W.mg_of X G h10.a) (g_told_size.binds fun _ _ _ _ _ _ us hl => match us, hl with | [_], _ => rfl) (fun _ h => nomatch h) (wtold_size Z) (fun cdv A outer s H E hg hr => der_told_size Z T cdv A outer s H E hg hr) (rd_told_size Z)
  have g_told_value := fun_mk (st := stold_value) h11.l h11.c h11.k
  have F_told_value : FnD P w K mg base 1 "told_value" ["form", "x", "y"] [] Stold_value := fn_ok g_told_value sc_told_value (PySem.W.mg_of X G h11.a) (g_told_value.binds fun _ _ _ _ _ _ us hl => match us, hl with | [_, _, _], _ => rfl) (fun _ h => nomatch h) (wtold_value Z) (fun cdv A outer s H E hg hr => der_told_value Z T cdv A outer s H E hg hr) (rd_told_value Z)
  have g_told_then := fun_mk (st := stold_then) h15.l h15.c h15.k
  have F_told_then : FnD P w K mg base 1 "told_then" ["one", "other"] [] Stold_then := fn_ok g_told_then sc_told_then (PySem.W.mg_of X G h15.a) (g_told_then.binds fun _ _ _ _ _ _ us hl => match us, hl with | [_, _], _ => rfl) (fun _ h => nomatch h) (wtold_then Z) (fun cdv A outer s H E hg hr => der_told_then Z T cdv A outer s H E hg hr) (rd_told_then Z)
  have g_told_back := fun_mk (st := stold_back) h16.l h16.c h16.k
  have F_told_back : FnD P w K mg base 1 "told_back" ["turn"] [] Stold_back := fn_ok g_told_back sc_told_back (PySem.W.mg_of X G h16.a) (g_told_back.binds fun _ _ _ _ _ _ us hl => match us, hl with | [_], _ => rfl) (fun _ h => nomatch h) (wtold_back Z) (fun cdv A outer s H E hg hr => der_told_back Z T cdv A outer s H E hg hr) (rd_told_back Z)
  have g_is_least := fun_mk (st := sis_least) h18.l h18.c h18.k
  have F_is_least : FnD P w K mg base 1 "is_least" ["form"] [] Sis_least := fn_ok g_is_least sc_is_least (PySem.W.mg_of X G h18.a) (g_is_least.binds fun _ _ _ _ _ _ us hl => match us, hl with | [_], _ => rfl) (fun _ h => nomatch h) (wis_least Z) (fun cdv A outer s H E hg hr => der_is_least Z T cdv A outer s H E hg hr) (rd_is_least Z)
  have g_is_same_tuple := fun_mk (st := sis_same_tuple) h22.l h22.c h22.k
  have F_is_same_tuple : FnD P w K mg base 1 "is_same_tuple" ["value", "form"] [] Sis_same_tuple := fn_ok g_is_same_tuple sc_is_same_tuple (PySem.W.mg_of X G h22.a) (g_is_same_tuple.binds fun _ _ _ _ _ _ us hl => match us, hl with | [_, _], _ => rfl) (fun _ h => nomatch h) (wis_same_tuple Z) (fun cdv A outer s H E hg hr => der_is_same_tuple Z T cdv A outer s H E hg hr) (rd_is_same_tuple Z)
  have g_told_own := fun_mk (st := stold_own) h26.l h26.c h26.k
  have F_told_own : FnD P w K mg base 1 "told_own" ["form"] [] Stold_own := fn_ok g_told_own sc_told_own (PySem.W.mg_of X G h26.a) (g_told_own.binds fun _ _ _ _ _ _ us hl => match us, hl with | [_], _ => rfl) (fun _ h => nomatch h) (wtold_own Z) (fun cdv A outer s H E hg hr => der_told_own Z T cdv A outer s H E hg hr) (rd_told_own Z)
  have g__law_pot := fun_mk (st := s_law_pot) h33.l h33.c h33.k
  have F__law_pot : FnD P w K mg base 1 "_law_pot" ["script", "place"] [] S_law_pot := fn_ok g__law_pot sc__law_pot (PySem.W.mg_of X G h33.a) (g__law_pot.binds fun _ _ _ _ _ _ us hl => match us, hl with | [_, _], _ => rfl) (fun _ h => nomatch h) (w_law_pot Z) (fun cdv A outer s H E hg hr => der__law_pot Z T cdv A outer s H E hg hr) (rd_law_pot Z)
  have g__law_take := fun_mk (st := s_law_take) h34.l h34.c h34.k
  have F__law_take : FnD P w K mg base 1 "_law_take" ["pot", "upto"] [] S_law_take := fn_ok g__law_take sc__law_take (PySem.W.mg_of X G h34.a) (g__law_take.binds fun _ _ _ _ _ _ us hl => match us, hl with | [_, _], _ => rfl) (fun _ h => nomatch h) (w_law_take Z) (fun cdv A outer s H E hg hr => der__law_take Z T cdv A outer s H E hg hr) (rd_law_take Z)
  have g__law_cells := fun_mk (st := s_law_cells) h36.l h36.c h36.k
  have F__law_cells : FnD P w K mg base 1 "_law_cells" ["script", "most"] [] S_law_cells := fn_ok g__law_cells sc__law_cells (PySem.W.mg_of X G h36.a) (g__law_cells.binds fun _ _ _ _ _ _ us hl => match us, hl with | [_, _], _ => rfl) (fun _ h => nomatch h) (w_law_cells Z) (fun cdv A outer s H E hg hr => der__law_cells Z T cdv A outer s H E hg hr) (rd_law_cells Z)
  have g__law_is_int := fun_mk (st := s_law_is_int) h38.l h38.c h38.k
  have F__law_is_int : FnD P w K mg base 1 "_law_is_int" ["value", "low", "high"] [] S_law_is_int := fn_ok g__law_is_int sc__law_is_int (PySem.W.mg_of X G h38.a) (g__law_is_int.binds fun _ _ _ _ _ _ us hl => match us, hl with | [_, _, _], _ => rfl) (fun _ h => nomatch h) (w_law_is_int Z) (fun cdv A outer s H E hg hr => der__law_is_int Z T cdv A outer s H E hg hr) (rd_law_is_int Z)
  have g__law_bent := fun_mk (st := s_law_bent) h39.l h39.c h39.k
  have F__law_bent_0 : FnD P w K mg base 1 "_law_bent" ["pot", "value"] [] (S_law_bent 0) := fn_ok g__law_bent sc__law_bent (PySem.W.mg_of X G h39.a) (g__law_bent.binds fun _ _ _ _ _ _ us hl => match us, hl with | [_, _], _ => rfl) (fun _ h => nomatch h) (w_law_bent_0 Z) (fun cdv A outer s H E hg hr => der__law_bent_0 Z T cdv A outer s H E hg hr) (rd_law_bent_0 Z)
  have g__law_is_bool := fun_mk (st := s_law_is_bool) h40.l h40.c h40.k
  have F__law_is_bool : FnD P w K mg base 1 "_law_is_bool" ["told", "due"] [] S_law_is_bool := fn_ok g__law_is_bool sc__law_is_bool (PySem.W.mg_of X G h40.a) (g__law_is_bool.binds fun _ _ _ _ _ _ us hl => match us, hl with | [_, _], _ => rfl) (fun _ h => nomatch h) (w_law_is_bool Z) (fun cdv A outer s H E hg hr => der__law_is_bool Z T cdv A outer s H E hg hr) (rd_law_is_bool Z)
  have g__law_common := fun_mk (st := s_law_common) h41.l h41.c h41.k
  have F__law_common : FnD P w K mg base 1 "_law_common" ["one", "other"] [] S_law_common := fn_ok g__law_common sc__law_common (PySem.W.mg_of X G h41.a) (g__law_common.binds fun _ _ _ _ _ _ us hl => match us, hl with | [_, _], _ => rfl) (fun _ h => nomatch h) (w_law_common Z) (fun cdv A outer s H E hg hr => der__law_common Z T cdv A outer s H E hg hr) (rd_law_common Z)
  have g__law_root := fun_mk (st := s_law_root) h42.l h42.c h42.k
  have F__law_root : FnD P w K mg base 1 "_law_root" ["number"] [] S_law_root := fn_ok g__law_root sc__law_root (PySem.W.mg_of X G h42.a) (g__law_root.binds fun _ _ _ _ _ _ us hl => match us, hl with | [_], _ => rfl) (fun _ h => nomatch h) (w_law_root Z) (fun cdv A outer s H E hg hr => der__law_root Z T cdv A outer s H E hg hr) (rd_law_root Z)
  have g__law_value := fun_mk (st := s_law_value) h43.l h43.c h43.k
  have F__law_value : FnD P w K mg base 1 "_law_value" ["form", "x", "y"] [] S_law_value := fn_ok g__law_value sc__law_value (PySem.W.mg_of X G h43.a) (g__law_value.binds fun _ _ _ _ _ _ us hl => match us, hl with | [_, _, _], _ => rfl) (fun _ h => nomatch h) (w_law_value Z) (fun cdv A outer s H E hg hr => der__law_value Z T cdv A outer s H E hg hr) (rd_law_value Z)
  have g__law_is_turn := fun_mk (st := s_law_is_turn) h45.l h45.c h45.k
  have F__law_is_turn : FnD P w K mg base 1 "_law_is_turn" ["value"] [] S_law_is_turn := fn_ok g__law_is_turn sc__law_is_turn (PySem.W.mg_of X G h45.a) (g__law_is_turn.binds fun _ _ _ _ _ _ us hl => match us, hl with | [_], _ => rfl) (fun _ h => nomatch h) (w_law_is_turn Z) (fun cdv A outer s H E hg hr => der__law_is_turn Z T cdv A outer s H E hg hr) (rd_law_is_turn Z)
  have g__law_then := fun_mk (st := s_law_then) h46.l h46.c h46.k
  have F__law_then : FnD P w K mg base 1 "_law_then" ["one", "other"] [] S_law_then := fn_ok g__law_then sc__law_then (PySem.W.mg_of X G h46.a) (g__law_then.binds fun _ _ _ _ _ _ us hl => match us, hl with | [_, _], _ => rfl) (fun _ h => nomatch h) (w_law_then Z) (fun cdv A outer s H E hg hr => der__law_then Z T cdv A outer s H E hg hr) (rd_law_then Z)
  have g__law_is_least := fun_mk (st := s_law_is_least) h51.l h51.c h51.k
  have F__law_is_least : FnD P w K mg base 1 "_law_is_least" ["form"] [] S_law_is_least := fn_ok g__law_is_least sc__law_is_least (PySem.W.mg_of X G h51.a) (g__law_is_least.binds fun _ _ _ _ _ _ us hl => match us, hl with | [_], _ => rfl) (fun _ h => nomatch h) (w_law_is_least Z) (fun cdv A outer s H E hg hr => der__law_is_least Z T cdv A outer s H E hg hr) (rd_law_is_least Z)
  have g__law_is_plain := fun_mk (st := s_law_is_plain) h53.l h53.c h53.k
  have F__law_is_plain : FnD P w K mg base 1 "_law_is_plain" ["value", "form"] [] S_law_is_plain := fn_ok g__law_is_plain sc__law_is_plain (PySem.W.mg_of X G h53.a) (g__law_is_plain.binds fun _ _ _ _ _ _ us hl => match us, hl with | [_, _], _ => rfl) (fun _ h => nomatch h) (w_law_is_plain Z) (fun cdv A outer s H E hg hr => der__law_is_plain Z T cdv A outer s H E hg hr) (rd_law_is_plain Z)
  have g_are_wholes := fun_mk (st := sare_wholes) h2.l h2.c h2.k
  have F_are_wholes : FnD P w K mg base 2 "are_wholes" ["value"] [] Sare_wholes := fn_ok g_are_wholes sc_are_wholes (PySem.W.mg_of X G h2.a) (g_are_wholes.binds fun _ _ _ _ _ _ us hl => match us, hl with | [_], _ => rfl) (fun _ h => nomatch h) (ware_wholes Z) (fun cdv A outer s H E hg hr => der_are_wholes Z T F_is_whole cdv A outer s H E hg hr) (rd_are_wholes Z)
  have g_is_square := fun_mk (st := sis_square) h7.l h7.c h7.k
  have F_is_square : FnD P w K mg base 2 "is_square" ["number"] [] Sis_square := fn_ok g_is_square sc_is_square (PySem.W.mg_of X G h7.a) (g_is_square.binds fun _ _ _ _ _ _ us hl => match us, hl with | [_], _ => rfl) (fun _ h => nomatch h) (wis_square Z) (fun cdv A outer s H E hg hr => der_is_square Z T F_told_root cdv A outer s H E hg hr) (rd_is_square Z)
  have g_told_turned := fun_mk (st := stold_turned) h14.l h14.c h14.k
  have F_told_turned : FnD P w K mg base 2 "told_turned" ["form", "turn"] [] Stold_turned := fn_ok g_told_turned sc_told_turned (PySem.W.mg_of X G h14.a) (g_told_turned.binds fun _ _ _ _ _ _ us hl => match us, hl with | [_, _], _ => rfl) (fun _ h => nomatch h) (wtold_turned Z) (fun cdv A outer s H E hg hr => der_told_turned Z T F_told_value cdv A outer s H E hg hr) (rd_told_turned Z)
  have g_told_all_least := fun_mk (st := stold_all_least) h29.l h29.c h29.k
  have F_told_all_least : FnD P w K mg base 2 "told_all_least" ["whole"] [] Stold_all_least := fn_ok g_told_all_least sc_told_all_least (PySem.W.mg_of X G h29.a) (g_told_all_least.binds fun _ _ _ _ _ _ us hl => match us, hl with | [_], _ => rfl) (fun _ h => nomatch h) (wtold_all_least Z) (fun cdv A outer s H E hg hr => der_told_all_least Z T F_is_least cdv A outer s H E hg hr) (rd_told_all_least Z)
  have g__law_of := fun_mk (st := s_law_of) h35.l h35.c h35.k
  have F__law_of : FnD P w K mg base 2 "_law_of" ["pot", "some"] [] S_law_of := fn_ok g__law_of sc__law_of (PySem.W.mg_of X G h35.a) (g__law_of.binds fun _ _ _ _ _ _ us hl => match us, hl with | [_, _], _ => rfl) (fun _ h => nomatch h) (w_law_of Z) (fun cdv A outer s H E hg hr => der__law_of Z T F__law_take cdv A outer s H E hg hr) (rd_law_of Z)
  have g__law_turned := fun_mk (st := s_law_turned) h44.l h44.c h44.k
  have F__law_turned : FnD P w K mg base 2 "_law_turned" ["form", "turn"] [] S_law_turned := fn_ok g__law_turned sc__law_turned (PySem.W.mg_of X G h44.a) (g__law_turned.binds fun _ _ _ _ _ _ us hl => match us, hl with | [_, _], _ => rfl) (fun _ h => nomatch h) (w_law_turned Z) (fun cdv A outer s H E hg hr => der__law_turned Z T F__law_value cdv A outer s H E hg hr) (rd_law_turned Z)
  have g__law_is_form := fun_mk (st := s_law_is_form) h48.l h48.c h48.k
  have F__law_is_form : FnD P w K mg base 2 "_law_is_form" ["value"] [] S_law_is_form := fn_ok g__law_is_form sc__law_is_form (PySem.W.mg_of X G h48.a) (g__law_is_form.binds fun _ _ _ _ _ _ us hl => match us, hl with | [_], _ => rfl) (fun _ h => nomatch h) (w_law_is_form Z) (fun cdv A outer s H E hg hr => der__law_is_form Z T F__law_is_int cdv A outer s H E hg hr) (rd_law_is_form Z)
  have g__law_above_drawn := fun_mk (st := s_law_above_drawn) h49.l h49.c h49.k
  have F__law_above_drawn : FnD P w K mg base 2 "_law_above_drawn" ["pot", "most"] [] S_law_above_drawn := fn_ok g__law_above_drawn sc__law_above_drawn (PySem.W.mg_of X G h49.a) (g__law_above_drawn.binds fun _ _ _ _ _ _ us hl => match us, hl with | [_, _], _ => rfl) (fun _ h => nomatch h) (w_law_above_drawn Z) (fun cdv A outer s H E hg hr => der__law_above_drawn Z T F__law_root F__law_take cdv A outer s H E hg hr) (rd_law_above_drawn Z)
  have g__law_content := fun_mk (st := s_law_content) h50.l h50.c h50.k
  have F__law_content : FnD P w K mg base 2 "_law_content" ["form"] [] S_law_content := fn_ok g__law_content sc__law_content (PySem.W.mg_of X G h50.a) (g__law_content.binds fun _ _ _ _ _ _ us hl => match us, hl with | [_], _ => rfl) (fun _ h => nomatch h) (w_law_content Z) (fun cdv A outer s H E hg hr => der__law_content Z T F__law_common cdv A outer s H E hg hr) (rd_law_content Z)
  have g__law_all_least := fun_mk (st := s_law_all_least) h56.l h56.c h56.k
  have F__law_all_least : FnD P w K mg base 2 "_law_all_least" ["whole"] [] S_law_all_least := fn_ok g__law_all_least sc__law_all_least (PySem.W.mg_of X G h56.a) (g__law_all_least.binds fun _ _ _ _ _ _ us hl => match us, hl with | [_], _ => rfl) (fun _ h => nomatch h) (w_law_all_least Z) (fun cdv A outer s H E hg hr => der__law_all_least Z T F__law_is_least F__law_root cdv A outer s H E hg hr) (rd_law_all_least Z)
  have g_are_ints := fun_mk (st := sare_ints) h3.l h3.c h3.k
  have F_are_ints : FnD P w K mg base 3 "are_ints" ["value", "many", "most"] [] Sare_ints := fn_ok g_are_ints sc_are_ints (PySem.W.mg_of X G h3.a) (g_are_ints.binds fun _ _ _ _ _ _ us hl => match us, hl with | [_, _, _], _ => rfl) (fun _ h => nomatch h) (ware_ints Z) (fun cdv A outer s H E hg hr => der_are_ints Z T F_are_wholes cdv A outer s H E hg hr) (rd_are_ints Z)
  have g_told_kind := fun_mk (st := stold_kind) h12.l h12.c h12.k
  have F_told_kind : FnD P w K mg base 3 "told_kind" ["form"] [] Stold_kind := fn_ok g_told_kind sc_told_kind (PySem.W.mg_of X G h12.a) (g_told_kind.binds fun _ _ _ _ _ _ us hl => match us, hl with | [_], _ => rfl) (fun _ h => nomatch h) (wtold_kind Z) (fun cdv A outer s H E hg hr => der_told_kind Z T F_is_square F_told_size cdv A outer s H E hg hr) (rd_told_kind Z)
  have g_told_least := fun_mk (st := stold_least) h19.l h19.c h19.k
  have F_told_least : FnD P w K mg base 3 "told_least" ["form"] [] Stold_least := fn_ok g_told_least sc_told_least (PySem.W.mg_of X G h19.a) (g_told_least.binds fun _ _ _ _ _ _ us hl => match us, hl with | [_], _ => rfl) (fun _ h => nomatch h) (wtold_least Z) (fun cdv A outer s H E hg hr => der_told_least Z T F_is_least F_told_then F_told_turned cdv A outer s H E hg hr) (rd_told_least Z)
  have g_look_at_size_below := fun_mk (st := slook_at_size_below) h28.l h28.c h28.k
  have F_look_at_size_below : FnD P w K mg base 3 "look_at_size_below" ["whole"] [] (Slook_at_size_below Z) := fn_ok g_look_at_size_below sc_look_at_size_below (PySem.W.mg_of X G h28.a) (g_look_at_size_below.binds fun _ _ _ _ _ _ us hl => match us, hl with | [_], _ => rfl) (fun _ h => nomatch h) (wlook_at_size_below Z) (fun cdv A outer s H E hg hr => der_look_at_size_below Z T F_is_int E_BadSize cdv A outer s H E hg hr) (rd_look_at_size_below Z)
  have g_told_plain_least := fun_mk (st := stold_plain_least) h32.l h32.c h32.k
  have F_told_plain_least : FnD P w K mg base 3 "told_plain_least" ["whole"] [] Stold_plain_least := fn_ok g_told_plain_least sc_told_plain_least (PySem.W.mg_of X G h32.a) (g_told_plain_least.binds fun _ _ _ _ _ _ us hl => match us, hl with | [_], _ => rfl) (fun _ h => nomatch h) (wtold_plain_least Z) (fun cdv A outer s H E hg hr => der_told_plain_least Z T F_common_int F_told_all_least cdv A outer s H E hg hr) (rd_told_plain_least Z)
  have g__law_odd := fun_mk (st := s_law_odd) h37.l h37.c h37.k
  have F__law_odd : FnD P w K mg base 3 "_law_odd" ["pot"] [] S_law_odd := fn_ok g__law_odd sc__law_odd (PySem.W.mg_of X G h37.a) (g__law_odd.binds fun _ _ _ _ _ _ us hl => match us, hl with | [_], _ => rfl) (fun _ h => nomatch h) (w_law_odd Z) (fun cdv A outer s H E hg hr => der__law_odd Z T F__law_of cdv A outer s H E hg hr) (rd_law_odd Z)
  have g__law_turn_drawn := fun_mk (st := s_law_turn_drawn) h47.l h47.c h47.k
  have F__law_turn_drawn : FnD P w K mg base 3 "_law_turn_drawn" ["pot"] [] S_law_turn_drawn := fn_ok g__law_turn_drawn sc__law_turn_drawn (PySem.W.mg_of X G h47.a) (g__law_turn_drawn.binds fun _ _ _ _ _ _ us hl => match us, hl with | [_], _ => rfl) (fun _ h => nomatch h) (w_law_turn_drawn Z) (fun cdv A outer s H E hg hr => der__law_turn_drawn Z T F__law_of F__law_take F__law_then cdv A outer s H E hg hr) (rd_law_turn_drawn Z)
  have g__law_least := fun_mk (st := s_law_least) h52.l h52.c h52.k
  have F__law_least : FnD P w K mg base 3 "_law_least" ["form"] [] S_law_least := fn_ok g__law_least sc__law_least (PySem.W.mg_of X G h52.a) (g__law_least.binds fun _ _ _ _ _ _ us hl => match us, hl with | [_], _ => rfl) (fun _ h => nomatch h) (w_law_least Z) (fun cdv A outer s H E hg hr => der__law_least Z T F__law_is_least F__law_turned cdv A outer s H E hg hr) (rd_law_least Z)
  have g__law_is_least_due := fun_mk (st := s_law_is_least_due) h54.l h54.c h54.k
  have F__law_is_least_due : FnD P w K mg base 3 "_law_is_least_due" ["form", "value"] [] S_law_is_least_due := fn_ok g__law_is_least_due sc__law_is_least_due (PySem.W.mg_of X G h54.a) (g__law_is_least_due.binds fun _ _ _ _ _ _ us hl => match us, hl with | [_, _], _ => rfl) (fun _ h => nomatch h) (w_law_is_least_due Z) (fun cdv A outer s H E hg hr => der__law_is_least_due Z T F__law_is_least F__law_is_plain F__law_is_turn F__law_turned cdv A outer s H E hg hr) (rd_law_is_least_due Z)
  have g_is_form := fun_mk (st := sis_form) h8.l h8.c h8.k
  have F_is_form : FnD P w K mg base 4 "is_form" ["value"] [] Sis_form := fn_ok g_is_form sc_is_form (PySem.W.mg_of X G h8.a) (g_is_form.binds fun _ _ _ _ _ _ us hl => match us, hl with | [_], _ => rfl) (fun _ h => nomatch h) (wis_form Z) (fun cdv A outer s H E hg hr => der_is_form Z T F_are_ints cdv A outer s H E hg hr) (rd_is_form Z)
  have g_is_turn := fun_mk (st := sis_turn) h13.l h13.c h13.k
  have F_is_turn : FnD P w K mg base 4 "is_turn" ["value"] [] Sis_turn := fn_ok g_is_turn sc_is_turn (PySem.W.mg_of X G h13.a) (g_is_turn.binds fun _ _ _ _ _ _ us hl => match us, hl with | [_], _ => rfl) (fun _ h => nomatch h) (wis_turn Z) (fun cdv A outer s H E hg hr => der_is_turn Z T F_are_ints cdv A outer s H E hg hr) (rd_is_turn Z)
  have g_all_least := fun_mk (st := sall_least) h30.l h30.c h30.k
  have F_all_least : FnD P w K mg base 4 "all_least" ["whole"] [0] (Sall_least Z) := fn_ok g_all_least sc_all_least (PySem.W.mg_of X G h30.a) (g_all_least.binds fun _ _ _ _ _ _ us hl => match us, hl with | [_], _ => rfl) (fun n hn => match n, hn with | _, .head _ => fun_kb g_all_least fun _ _ _ _ _ _ us ws h1 h2 => match us, ws, h1, h2 with | [], [_], _, _ => rfl) (wall_least Z) (fun cdv A outer s H E hg hr => der_all_least Z T F_look_at_size_below F_told_all_least cdv A outer s H E hg hr) (rd_all_least Z)
  have g_plain_least := fun_mk (st := splain_least) h31.l h31.c h31.k
  have F_plain_least : FnD P w K mg base 4 "plain_least" ["whole"] [0] (Splain_least Z) := fn_ok g_plain_least sc_plain_least (PySem.W.mg_of X G h31.a) (g_plain_least.binds fun _ _ _ _ _ _ us hl => match us, hl with | [_], _ => rfl) (fun n hn => match n, hn with | _, .head _ => fun_kb g_plain_least fun _ _ _ _ _ _ us ws h1 h2 => match us, ws, h1, h2 with | [], [_], _, _ => rfl) (wplain_least Z) (fun cdv A outer s H E hg hr => der_plain_least Z T F_look_at_size_below F_told_plain_least cdv A outer s H E hg hr) (rd_plain_least Z)
  have F__law_bent_1 : FnD P w K mg base 4 "_law_bent" ["pot", "value"] [] (S_law_bent 1) := fn_ok g__law_bent sc__law_bent (PySem.W.mg_of X G h39.a) (g__law_bent.binds fun _ _ _ _ _ _ us hl => match us, hl with | [_, _], _ => rfl) (fun _ h => nomatch h) (w_law_bent_1 Z) (fun cdv A outer s H E hg hr => der__law_bent_1 Z T F__law_bent_0 F__law_odd F__law_of F__law_take cdv A outer s H E hg hr) (rd_law_bent_1 Z)
  have g__law_is_same_due := fun_mk (st := s_law_is_same_due) h55.l h55.c h55.k
  have F__law_is_same_due : FnD P w K mg base 4 "_law_is_same_due" ["one", "other", "value"] [] S_law_is_same_due := fn_ok g__law_is_same_due sc__law_is_same_due (PySem.W.mg_of X G h55.a) (g__law_is_same_due.binds fun _ _ _ _ _ _ us hl => match us, hl with | [_, _, _], _ => rfl) (fun _ h => nomatch h) (w_law_is_same_due Z) (fun cdv A outer s H E hg hr => der__law_is_same_due Z T F__law_is_plain F__law_is_turn F__law_least F__law_turned cdv A outer s H E hg hr) (rd_law_is_same_due Z)
  have g_look_at_form := fun_mk (st := slook_at_form) h9.l h9.c h9.k
  have F_look_at_form : FnD P w K mg base 5 "look_at_form" ["form"] [] (Slook_at_form Z) := fn_ok g_look_at_form sc_look_at_form (PySem.W.mg_of X G h9.a) (g_look_at_form.binds fun _ _ _ _ _ _ us hl => match us, hl with | [_], _ => rfl) (fun _ h => nomatch h) (wlook_at_form Z) (fun cdv A outer s H E hg hr => der_look_at_form Z T F_is_form E_BadForm cdv A outer s H E hg hr) (rd_look_at_form Z)
  have F__law_bent_2 : FnD P w K mg base 5 "_law_bent" ["pot", "value"] [] (S_law_bent 2) := fn_ok g__law_bent sc__law_bent (PySem.W.mg_of X G h39.a) (g__law_bent.binds fun _ _ _ _ _ _ us hl => match us, hl with | [_, _], _ => rfl) (fun _ h => nomatch h) (w_law_bent_2 Z) (fun cdv A outer s H E hg hr => der__law_bent_2 Z T F__law_bent_1 F__law_odd F__law_of F__law_take cdv A outer s H E hg hr) (rd_law_bent_2 Z)
  have g_look_at_above := fun_mk (st := slook_at_above) h17.l h17.c h17.k
  have F_look_at_above : FnD P w K mg base 6 "look_at_above" ["form"] [] (Slook_at_above Z) := fn_ok g_look_at_above sc_look_at_above (PySem.W.mg_of X G h17.a) (g_look_at_above.binds fun _ _ _ _ _ _ us hl => match us, hl with | [_], _ => rfl) (fun _ h => nomatch h) (wlook_at_above Z) (fun cdv A outer s H E hg hr => der_look_at_above Z T F_look_at_form F_told_kind E_Unlike cdv A outer s H E hg hr) (rd_look_at_above Z)
  have F__law_bent_3 : FnD P w K mg base 6 "_law_bent" ["pot", "value"] [] (S_law_bent 3) := fn_ok g__law_bent sc__law_bent (PySem.W.mg_of X G h39.a) (g__law_bent.binds fun _ _ _ _ _ _ us hl => match us, hl with | [_, _], _ => rfl) (fun _ h => nomatch h) (w_law_bent_3 Z) (fun cdv A outer s H E hg hr => der__law_bent_3 Z T F__law_bent_2 F__law_odd F__law_of F__law_take cdv A outer s H E hg hr) (rd_law_bent_3 Z)
  have g_least_form := fun_mk (st := sleast_form) h20.l h20.c h20.k
  have F_least_form : FnD P w K mg base 7 "least_form" ["form"] [] (Sleast_form Z) := fn_ok g_least_form sc_least_form (PySem.W.mg_of X G h20.a) (g_least_form.binds fun _ _ _ _ _ _ us hl => match us, hl with | [_], _ => rfl) (fun _ h => nomatch h) (wleast_form Z) (fun cdv A outer s H E hg hr => der_least_form Z T F_look_at_above F_told_least cdv A outer s H E hg hr) (rd_least_form Z)
  have g_shows_least := fun_mk (st := sshows_least) h21.l h21.c h21.k
  have F_shows_least : FnD P w K mg base 7 "shows_least" ["form", "value"] [1] (Sshows_least Z) := fn_ok g_shows_least sc_shows_least (PySem.W.mg_of X G h21.a) (g_shows_least.binds fun _ _ _ _ _ _ us hl => match us, hl with | [_, _], _ => rfl) (fun n hn => match n, hn with | _, .head _ => fun_kb g_shows_least fun _ _ _ _ _ _ us ws h1 h2 => match us, ws, h1, h2 with | [_], [_], _, _ => rfl) (wshows_least Z) (fun cdv A outer s H E hg hr => der_shows_least Z T F_is_least F_is_same_tuple F_is_turn F_look_at_above F_told_turned cdv A outer s H E hg hr) (rd_shows_least Z)
  have g_look_at_two := fun_mk (st := slook_at_two) h23.l h23.c h23.k
  have F_look_at_two : FnD P w K mg base 7 "look_at_two" ["one", "other"] [] (Slook_at_two Z) := fn_ok g_look_at_two sc_look_at_two (PySem.W.mg_of X G h23.a) (g_look_at_two.binds fun _ _ _ _ _ _ us hl => match us, hl with | [_, _], _ => rfl) (fun _ h => nomatch h) (wlook_at_two Z) (fun cdv A outer s H E hg hr => der_look_at_two Z T F_look_at_above cdv A outer s H E hg hr) (rd_look_at_two Z)
  have g_own_turns := fun_mk (st := sown_turns) h27.l h27.c h27.k
  have F_own_turns : FnD P w K mg base 7 "own_turns" ["form"] [] (Sown_turns Z) := fn_ok g_own_turns sc_own_turns (PySem.W.mg_of X G h27.a) (g_own_turns.binds fun _ _ _ _ _ _ us hl => match us, hl with | [_], _ => rfl) (fun _ h => nomatch h) (wown_turns Z) (fun cdv A outer s H E hg hr => der_own_turns Z T F_look_at_above F_told_back F_told_least F_told_own F_told_then cdv A outer s H E hg hr) (rd_own_turns Z)
  have g_same_above := fun_mk (st := ssame_above) h24.l h24.c h24.k
  have F_same_above : FnD P w K mg base 8 "same_above" ["one", "other"] [] (Ssame_above Z) := fn_ok g_same_above sc_same_above (PySem.W.mg_of X G h24.a) (g_same_above.binds fun _ _ _ _ _ _ us hl => match us, hl with | [_, _], _ => rfl) (fun _ h => nomatch h) (wsame_above Z) (fun cdv A outer s H E hg hr => der_same_above Z T F_look_at_two F_told_back F_told_least F_told_then cdv A outer s H E hg hr) (rd_same_above Z)
  have g_shows_same_above := fun_mk (st := sshows_same_above) h25.l h25.c h25.k
  have F_shows_same_above : FnD P w K mg base 8 "shows_same_above" ["one", "other", "value"] [2] Sshows_same_above := fn_ok g_shows_same_above sc_shows_same_above (PySem.W.mg_of X G h25.a) (g_shows_same_above.binds fun _ _ _ _ _ _ us hl => match us, hl with | [_, _, _], _ => rfl) (fun n hn => match n, hn with | _, .head _ => fun_kb g_shows_same_above fun _ _ _ _ _ _ us ws h1 h2 => match us, ws, h1, h2 with | [_, _], [_], _, _ => rfl) (wshows_same_above Z) (fun cdv A outer s H E hg hr => der_shows_same_above Z T F_is_same_tuple F_is_told F_is_turn F_look_at_two F_told_least F_told_turned cdv A outer s H E hg hr) (rd_shows_same_above Z)
  have g__law_are_papers_right := fun_mk (st := s_law_are_papers_right) h57.l h57.c h57.k
  have F__law_are_papers_right : FnD P w K mg base 9 "_law_are_papers_right" ["pot", "one", "other"] [] S_law_are_papers_right := fn_ok g__law_are_papers_right sc__law_are_papers_right (PySem.W.mg_of X G h57.a) (g__law_are_papers_right.binds fun _ _ _ _ _ _ us hl => match us, hl with | [_, _, _], _ => rfl) (fun _ h => nomatch h) (w_law_are_papers_right Z) (fun cdv A outer s H E hg hr => der__law_are_papers_right Z T F__law_bent_3 F__law_is_bool F__law_is_least_due F__law_is_same_due F__law_least F__law_odd F__law_of F__law_then F_least_form F_own_turns F_same_above F_shows_least F_shows_same_above cdv A outer s H E hg hr) (rd_law_are_papers_right Z)
  have g__law_right := fun_mk (st := s_law_right) h58.l h58.c h58.k
  have F__law_right : FnD P w K mg base 11 "_law_right" ["pot"] [] (S_law_right Z) := fn_okL g__law_right rfl sc__law_right (PySem.W.mg_of X G h58.a) (g__law_right.binds fun _ _ _ _ _ _ us hl => match us, hl with | [_], _ => rfl) (fun _ h => nomatch h) (w_law_right Z) (fun A outer s H E hg hr => der__law_right Z T F__law_above_drawn F__law_all_least F__law_are_papers_right F__law_content F__law_is_form F__law_of F__law_take F__law_turn_drawn F__law_turned F_all_least F_least_form F_own_turns F_plain_least F_same_above F_shows_least I_BadForm I_BadSize I_Unlike V_errs T_heard TB0 A outer s H E hg hr) (rd_law_right Z)
  exact fn_run (fun_mk (st := slaw) h59.l h59.c h59.k) sc_law (wlaw Z) (fun cdv A outer s H E hg hr => der_law Z T F__law_cells F__law_pot F__law_right cdv A outer s H E hg hr) (rd_law Z)
end K9

open PySem PySem.W PyProof.Rows
set_option maxRecDepth 100000 in
set_option maxHeartbeats 0 in
theorem PySem.Challenge.cw_squaresowed_k09_papers_of_forms_above_ju_holds : PySem.Challenge.rw_squaresowed_k09_papers_of_forms_above_ju.Holds := by
  w_on; o_law; k_head; (case hw => w_witness2)
  k_fill
  refine Sq.law_walkT (l := PySem.Challenge.rw_squaresowed_k09_papers_of_forms_above_ju) (x := "script") 12 rfl rfl (by decide) (fun w h Y => PySem.W.km_in_of Y) (fun w h Y => PySem.W.km_tabs_of Y) ?F
  case F =>
    intro w mg fa h KX G hmg
    refine' K9.all_mk KX G hmg ⟨?a0, ?l0, ?c0, ?k0⟩ ⟨?a1, ?l1, ?c1, ?k1⟩ ⟨?a2, ?l2, ?c2, ?k2⟩ ⟨?a3, ?l3, ?c3, ?k3⟩ ⟨?a4, ?l4, ?c4, ?k4⟩ ⟨?a5, ?l5, ?c5, ?k5⟩ ⟨?a6, ?l6, ?c6, ?k6⟩ ⟨?a7, ?l7, ?c7, ?k7⟩ ⟨?a8, ?l8, ?c8, ?k8⟩ ⟨?a9, ?l9, ?c9, ?k9⟩ ⟨?a10, ?l10, ?c10, ?k10⟩ ⟨?a11, ?l11, ?c11, ?k11⟩ ⟨?a12, ?l12, ?c12, ?k12⟩ ⟨?a13, ?l13, ?c13, ?k13⟩ ⟨?a14, ?l14, ?c14, ?k14⟩ ⟨?a15, ?l15, ?c15, ?k15⟩ ⟨?a16, ?l16, ?c16, ?k16⟩ ⟨?a17, ?l17, ?c17, ?k17⟩ ⟨?a18, ?l18, ?c18, ?k18⟩ ⟨?a19, ?l19, ?c19, ?k19⟩ ⟨?a20, ?l20, ?c20, ?k20⟩ ⟨?a21, ?l21, ?c21, ?k21⟩ ⟨?a22, ?l22, ?c22, ?k22⟩ ⟨?a23, ?l23, ?c23, ?k23⟩ ⟨?a24, ?l24, ?c24, ?k24⟩ ⟨?a25, ?l25, ?c25, ?k25⟩ ⟨?a26, ?l26, ?c26, ?k26⟩ ⟨?a27, ?l27, ?c27, ?k27⟩ ⟨?a28, ?l28, ?c28, ?k28⟩ ⟨?a29, ?l29, ?c29, ?k29⟩ ⟨?a30, ?l30, ?c30, ?k30⟩ ⟨?a31, ?l31, ?c31, ?k31⟩ ⟨?a32, ?l32, ?c32, ?k32⟩ ⟨?a33, ?l33, ?c33, ?k33⟩ ⟨?a34, ?l34, ?c34, ?k34⟩ ⟨?a35, ?l35, ?c35, ?k35⟩ ⟨?a36, ?l36, ?c36, ?k36⟩ ⟨?a37, ?l37, ?c37, ?k37⟩ ⟨?a38, ?l38, ?c38, ?k38⟩ ⟨?a39, ?l39, ?c39, ?k39⟩ ⟨?a40, ?l40, ?c40, ?k40⟩ ⟨?a41, ?l41, ?c41, ?k41⟩ ⟨?a42, ?l42, ?c42, ?k42⟩ ⟨?a43, ?l43, ?c43, ?k43⟩ ⟨?a44, ?l44, ?c44, ?k44⟩ ⟨?a45, ?l45, ?c45, ?k45⟩ ⟨?a46, ?l46, ?c46, ?k46⟩ ⟨?a47, ?l47, ?c47, ?k47⟩ ⟨?a48, ?l48, ?c48, ?k48⟩ ⟨?a49, ?l49, ?c49, ?k49⟩ ⟨?a50, ?l50, ?c50, ?k50⟩ ⟨?a51, ?l51, ?c51, ?k51⟩ ⟨?a52, ?l52, ?c52, ?k52⟩ ⟨?a53, ?l53, ?c53, ?k53⟩ ⟨?a54, ?l54, ?c54, ?k54⟩ ⟨?a55, ?l55, ?c55, ?k55⟩ ⟨?a56, ?l56, ?c56, ?k56⟩ ⟨?a57, ?l57, ?c57, ?k57⟩ ⟨?a58, ?l58, ?c58, ?k58⟩ ⟨?a59, ?l59, ?c59, ?k59⟩ ⟨?a60, ?l60, ?c60, ?k60⟩ ?ml0 ?mp0 ?mn0 ?mh0 ?mt0 ⟨?q0_0, ?q0_1, ?q0_2, ?q0_3, ?q0_4, ?q0_5, ?q0_6, ?q0_7, ?q0_8, ?q0_9, ?q0_10, ?q0_11, ?q0_12, ?q0_13, ?q0_14, ?q0_15, ?q0_16, ?q0_17, ?q0_18⟩ ⟨?q1_0, ?q1_1, ?q1_2, ?q1_3, ?q1_4, ?q1_5, ?q1_6, ?q1_7, ?q1_8, ?q1_9, ?q1_10, ?q1_11, ?q1_12, ?q1_13, ?q1_14, ?q1_15, ?q1_16, ?q1_17, ?q1_18⟩ ⟨?q2_0, ?q2_1, ?q2_2, ?q2_3, ?q2_4, ?q2_5, ?q2_6, ?q2_7, ?q2_8, ?q2_9, ?q2_10, ?q2_11, ?q2_12, ?q2_13, ?q2_14, ?q2_15, ?q2_16, ?q2_17, ?q2_18⟩ ⟨?q3_0, ?q3_1, ?q3_2, ?q3_3, ?q3_4, ?q3_5, ?q3_6, ?q3_7, ?q3_8, ?q3_9, ?q3_10, ?q3_11, ?q3_12, ?q3_13, ?q3_14, ?q3_15, ?q3_16, ?q3_17, ?q3_18⟩ ⟨?A0, ?A1, ?A2, ?A3, ?A4⟩ ⟨?I0, ?I1, ?I2, ?I3, ?I4⟩ ?hfile ?htop ?z_abs ?z_all ?z_any ?z_bool ?z_int ?z_isinstance ?z_len ?z_list ?z_max ?z_min ?z_range ?z_repr ?z_sorted ?z_str ?z_sum ?z_super ?z_tuple ?c_ABOVE ?c_BELOW ?c_LEAST ?c_MIXED ?c_MOST_LETTER ?c_MOST_PART ?c_MOST_SIZE ?c_SPLIT ?c_TURN
    (case a0 => k_is); (case l0 => k_is); (case c0 => k_is); (case k0 => k_is)
    (case a1 => k_is); (case l1 => k_is); (case c1 => k_is); (case k1 => k_is)
    (case a2 => k_is); (case l2 => k_is); (case c2 => k_is); (case k2 => k_is)
    (case a3 => k_is); (case l3 => k_is); (case c3 => k_is); (case k3 => k_is)
    (case a4 => k_is); (case l4 => k_is); (case c4 => k_is); (case k4 => k_is)
    (case a5 => k_is); (case l5 => k_is); (case c5 => k_is); (case k5 => k_is)
    (case a6 => k_is); (case l6 => k_is); (case c6 => k_is); (case k6 => k_is)
    (case a7 => k_is); (case l7 => k_is); (case c7 => k_is); (case k7 => k_is)
    (case a8 => k_is); (case l8 => k_is); (case c8 => k_is); (case k8 => k_is)
    (case a9 => k_is); (case l9 => k_is); (case c9 => k_is); (case k9 => k_is)
    (case a10 => k_is); (case l10 => k_is); (case c10 => k_is); (case k10 => k_is)
    (case a11 => k_is); (case l11 => k_is); (case c11 => k_is); (case k11 => k_is)
    (case a12 => k_is); (case l12 => k_is); (case c12 => k_is); (case k12 => k_is)
    (case a13 => k_is); (case l13 => k_is); (case c13 => k_is); (case k13 => k_is)
    (case a14 => k_is); (case l14 => k_is); (case c14 => k_is); (case k14 => k_is)
    (case a15 => k_is); (case l15 => k_is); (case c15 => k_is); (case k15 => k_is)
    (case a16 => k_is); (case l16 => k_is); (case c16 => k_is); (case k16 => k_is)
    (case a17 => k_is); (case l17 => k_is); (case c17 => k_is); (case k17 => k_is)
    (case a18 => k_is); (case l18 => k_is); (case c18 => k_is); (case k18 => k_is)
    (case a19 => k_is); (case l19 => k_is); (case c19 => k_is); (case k19 => k_is)
    (case a20 => k_is); (case l20 => k_is); (case c20 => k_is); (case k20 => k_is)
    (case a21 => k_is); (case l21 => k_is); (case c21 => k_is); (case k21 => k_is)
    (case a22 => k_is); (case l22 => k_is); (case c22 => k_is); (case k22 => k_is)
    (case a23 => k_is); (case l23 => k_is); (case c23 => k_is); (case k23 => k_is)
    (case a24 => k_is); (case l24 => k_is); (case c24 => k_is); (case k24 => k_is)
    (case a25 => k_is); (case l25 => k_is); (case c25 => k_is); (case k25 => k_is)
    (case a26 => k_is); (case l26 => k_is); (case c26 => k_is); (case k26 => k_is)
    (case a27 => k_is); (case l27 => k_is); (case c27 => k_is); (case k27 => k_is)
    (case a28 => k_is); (case l28 => k_is); (case c28 => k_is); (case k28 => k_is)
    (case a29 => k_is); (case l29 => k_is); (case c29 => k_is); (case k29 => k_is)
    (case a30 => k_is); (case l30 => k_is); (case c30 => k_is); (case k30 => k_is)
    (case a31 => k_is); (case l31 => k_is); (case c31 => k_is); (case k31 => k_is)
    (case a32 => k_is); (case l32 => k_is); (case c32 => k_is); (case k32 => k_is)
    (case a33 => k_is); (case l33 => k_is); (case c33 => k_is); (case k33 => k_is)
    (case a34 => k_is); (case l34 => k_is); (case c34 => k_is); (case k34 => k_is)
    (case a35 => k_is); (case l35 => k_is); (case c35 => k_is); (case k35 => k_is)
    (case a36 => k_is); (case l36 => k_is); (case c36 => k_is); (case k36 => k_is)
    (case a37 => k_is); (case l37 => k_is); (case c37 => k_is); (case k37 => k_is)
    (case a38 => k_is); (case l38 => k_is); (case c38 => k_is); (case k38 => k_is)
    (case a39 => k_is); (case l39 => k_is); (case c39 => k_is); (case k39 => k_is)
    (case a40 => k_is); (case l40 => k_is); (case c40 => k_is); (case k40 => k_is)
    (case a41 => k_is); (case l41 => k_is); (case c41 => k_is); (case k41 => k_is)
    (case a42 => k_is); (case l42 => k_is); (case c42 => k_is); (case k42 => k_is)
    (case a43 => k_is); (case l43 => k_is); (case c43 => k_is); (case k43 => k_is)
    (case a44 => k_is); (case l44 => k_is); (case c44 => k_is); (case k44 => k_is)
    (case a45 => k_is); (case l45 => k_is); (case c45 => k_is); (case k45 => k_is)
    (case a46 => k_is); (case l46 => k_is); (case c46 => k_is); (case k46 => k_is)
    (case a47 => k_is); (case l47 => k_is); (case c47 => k_is); (case k47 => k_is)
    (case a48 => k_is); (case l48 => k_is); (case c48 => k_is); (case k48 => k_is)
    (case a49 => k_is); (case l49 => k_is); (case c49 => k_is); (case k49 => k_is)
    (case a50 => k_is); (case l50 => k_is); (case c50 => k_is); (case k50 => k_is)
    (case a51 => k_is); (case l51 => k_is); (case c51 => k_is); (case k51 => k_is)
    (case a52 => k_is); (case l52 => k_is); (case c52 => k_is); (case k52 => k_is)
    (case a53 => k_is); (case l53 => k_is); (case c53 => k_is); (case k53 => k_is)
    (case a54 => k_is); (case l54 => k_is); (case c54 => k_is); (case k54 => k_is)
    (case a55 => k_is); (case l55 => k_is); (case c55 => k_is); (case k55 => k_is)
    (case a56 => k_is); (case l56 => k_is); (case c56 => k_is); (case k56 => k_is)
    (case a57 => k_is); (case l57 => k_is); (case c57 => k_is); (case k57 => k_is)
    (case a58 => k_is); (case l58 => k_is); (case c58 => k_is); (case k58 => k_is)
    (case a59 => k_is); (case l59 => k_is); (case c59 => k_is); (case k59 => k_is)
    (case a60 => k_is); (case l60 => k_is); (case c60 => k_is); (case k60 => k_is)
    (case ml0 => k_is); (case mp0 => rfl); (case mn0 => kernel_rfl); (case mh0 => kernel_rfl); (case mt0 => decide)
    (case q0_0 => k_is); (case q0_1 => k_is); (case q0_2 => rfl); (case q0_3 => k_is); (case q0_4 => k_is); (case q0_5 => k_is); (case q0_6 => k_is); (case q0_7 => k_is); (case q0_8 => k_is); (case q0_9 => ks_is); (case q0_10 => k_is); (case q0_11 => k_is); (case q0_12 => k_is); (case q0_13 => k_is); (case q0_14 => k_is); (case q0_15 => k_is); (case q0_16 => k_is); (case q0_17 => k_is); (case q0_18 => kit_is)
    (case q1_0 => k_is); (case q1_1 => k_is); (case q1_2 => rfl); (case q1_3 => k_is); (case q1_4 => k_is); (case q1_5 => k_is); (case q1_6 => k_is); (case q1_7 => k_is); (case q1_8 => k_is); (case q1_9 => ks_is); (case q1_10 => k_is); (case q1_11 => k_is); (case q1_12 => k_is); (case q1_13 => k_is); (case q1_14 => k_is); (case q1_15 => k_is); (case q1_16 => k_is); (case q1_17 => k_is); (case q1_18 => kit_is)
    (case q2_0 => k_is); (case q2_1 => k_is); (case q2_2 => rfl); (case q2_3 => k_is); (case q2_4 => k_is); (case q2_5 => k_is); (case q2_6 => k_is); (case q2_7 => k_is); (case q2_8 => k_is); (case q2_9 => ks_is); (case q2_10 => k_is); (case q2_11 => k_is); (case q2_12 => k_is); (case q2_13 => k_is); (case q2_14 => k_is); (case q2_15 => k_is); (case q2_16 => k_is); (case q2_17 => k_is); (case q2_18 => kit_is)
    (case q3_0 => k_is); (case q3_1 => k_is); (case q3_2 => rfl); (case q3_3 => k_is); (case q3_4 => k_is); (case q3_5 => k_is); (case q3_6 => k_is); (case q3_7 => k_is); (case q3_8 => k_is); (case q3_9 => ks_is); (case q3_10 => k_is); (case q3_11 => k_is); (case q3_12 => k_is); (case q3_13 => k_is); (case q3_14 => k_is); (case q3_15 => k_is); (case q3_16 => k_is); (case q3_17 => k_is); (case q3_18 => kit_is)
    (case A0 => k_is); (case A1 => k_is); (case A2 => k_is); (case A3 => k_is); (case A4 => k_is)
    (case I0 => k_is); (case I1 => k_is); (case I2 => k_is); (case I3 => rfl); (case I4 => k_is)
    (case hfile => rfl); (case htop => rfl)
    (case z_abs => k_is); (case z_all => k_is); (case z_any => k_is); (case z_bool => k_is); (case z_int => k_is); (case z_isinstance => k_is); (case z_len => k_is); (case z_list => k_is); (case z_max => k_is); (case z_min => k_is); (case z_range => k_is); (case z_repr => k_is); (case z_sorted => k_is); (case z_str => k_is); (case z_sum => k_is); (case z_super => k_is); (case z_tuple => k_is)
    (case c_ABOVE => k_is); (case c_BELOW => k_is); (case c_LEAST => k_is); (case c_MIXED => k_is); (case c_MOST_LETTER => k_is); (case c_MOST_PART => k_is); (case c_MOST_SIZE => k_is); (case c_SPLIT => k_is); (case c_TURN => k_is)
