import PyProof.Rows.All
import Wide.All
import OpenK.AllK
import Wide.FinOn
import HandS.ForMost
import HandS.ForExc
import HandS.Wide
import HandS.TupAny
import HandS.Lambda
import HandS.IsInst
import HandS.CallSlots
import HandS.Style
import HandS.MakeKw
import HandS.Conv
import HandS.Deep
import HandS.Text
import KE.SortData
import KE.IntBitsLaws
import PyProof.ReprRoads
import HandS.Ends
import HandS.EndBits
import HandS.ExcInit
import KE.KExcSuper
import KE.KSuper
import HandS.Iter
import HandS.Exc
import HandS.Comp
import HandS.ExcIs
import KE.KExcIs
import HandS.ExcField
import HandS.Dict
import PyProof.RowDictHeap
import HandS.RaiseMore
import HandS.EndTab
import KE.KNestM
import KE.RegKSuper
import KE.RegKIsAll
import HandS.SetFor
import HandS.SortInts
import HandS.Zip
import HandS.Star
import HandS.TupMul
import KE.DataMinMax
import PyProof.Rows.ReprOcc
import KE.GoesZip
import KE.GoesMore
import HandS.Small
import HandS.TryOnly
import PySem.Challenge.RW_squaresowed_k02_whole_symbols_at_all_pla
set_option Elab.async false
set_option linter.all false
set_option maxRecDepth 100000
set_option maxHeartbeats 4000000
/-! The pure layer: Python values as data D (tuples by value, other objects by address in an abstract store Mu), weakest preconditions over them, shown sound over the hand layer's judgements. -/
namespace Sq
open PySem PySem.Spec PyProof.Rows L2

/-- data: what a value is; a tuple by its items, another object by its address -/
inductive D where
  | non | bl (b : Bool) | int (i : Int) | str (x : Str) | tup (xs : List D) | ob (a : Addr)
  /-- a list that is read alone (the script, a list of the module's own) -/
  | rls (xs : List D)
/-- a lambda without parameters: its text, the cells that it holds -/
structure LamT where
  q : Str
  params : Arguments
  body : Expr
  scope : Scope
  clo : List (Str × Addr)
/-- what stands at an address of the store -/
inductive O where
  /-- a list -/
  | lst (xs : List D)
  /-- an error of the class at C, made with the value d -/
  | exc (C : Addr) (d : D)
  /-- a dict whose keys are ints and texts -/
  | dct (ks : List Key) (xs : List D)
  /-- a dict whose keys are tuples of ints and texts -/
  | dtt (ks : List (List Key)) (xs : List D)
  /-- a lambda -/
  | lam (t : LamT)
  /-- a def's table of the code objects that its lambdas got -/
  | tab (q : Str)
abbrev Mu := Addr → Option O
def mset (μ : Mu) (a : Addr) (o : O) : Mu := fun b => if b = a then some o else μ b
theorem mset_same (μ : Mu) (a : Addr) (o : O) : mset μ a o a = some o := by unfold mset; rw [if_pos rfl]
theorem mset_ne {μ : Mu} {a b : Addr} {o : O} (h : b ≠ a) : mset μ a o b = μ b := by unfold mset; rw [if_neg h]
theorem mset_mset (μ : Mu) (a : Addr) (o u : O) : mset (mset μ a o) a u = mset μ a u := by
  funext b; unfold mset; split <;> rfl
theorem ne_free {μ : Mu} {a b : Addr} {o : O} (h : μ a = some o) (h' : μ b = none) : a ≠ b := by
  intro e; subst e; rw [h] at h'; cases h'
theorem mset_free {μ : Mu} {a b : Addr} {o : O} (h : mset μ a o b = none) : b ≠ a ∧ μ b = none := by
  unfold mset at h
  split at h
  · cases h
  · exact ⟨by assumption, h⟩

/-! ### data at a heap -/
/-- a list that nobody writes -/
def SqR (K : PySem.W.Frag) (H : Hp) (a : Addr) (xs : List V) : Prop :=
  (∃ o, H a = some (.frz o (.lst xs))) ∨ ∃ (o : Obj) (its : Array Value) (n : Nat), K.lookup a = some o ∧ o.cls = .type "list" ∧ o.dict = none ∧ o.data = .seq its n ∧ its.size ≤ sizeLine ∧ Vals xs its.toList
theorem SqR.l {K : PySem.W.Frag} {H : Hp} {a : Addr} {xs : List V} (h : SqR K H a xs) : SqL K H a xs := h.elim (fun h => .inl (.inr h)) .inr
mutual
def Rp (K : PySem.W.Frag) (H : Hp) : D → V → Prop
  | .non, v => v = .non
  | .bl b, v => v = .bl b
  | .int i, v => v = .int i
  | .str x, v => v = .str x
  | .tup ds, v => ∃ p vs, v = .ref p ∧ SqT K H p vs ∧ Rps K H ds vs
  | .ob a, v => v = .ref a
  | .rls ds, v => ∃ p vs, v = .ref p ∧ SqR K H p vs ∧ Rps K H ds vs
def Rps (K : PySem.W.Frag) (H : Hp) : List D → List V → Prop
  | [], vs => vs = []
  | d :: ds, vs => ∃ w ws, vs = w :: ws ∧ Rp K H d w ∧ Rps K H ds ws
end
/-- the object of a caught error: its class, its own dict -/
def ExcO (a C dx : Addr) : HO := .ext fun h => ∃ oe vs, h.get? a = some oe ∧ oe.cls = .ref C ∧ oe.dict = some dx ∧ oe.data = .fields vs
/-- the very object, whatever else -/
def anyH (a : Addr) : HO := .ext fun h => ∃ o, h.get? a = some o
def CodeK (H : Hp) (c : Addr) (q : Str) : Prop := ∃ (oc : Obj) (vs : Array Value), oc.data = .fields vs ∧ H c = some (.frz oc (LamX.CodeO c q))
def OR (K : PySem.W.Frag) (H : Hp) (a : Addr) : O → Prop
  | .lst ds => ∃ vs, H a = some (.lst vs) ∧ Rps K H ds vs
  | .exc C d => ∃ dx v, H a = some (ExcO a C dx) ∧ H dx = some (.xd [("value", v)]) ∧ Rp K H d v
  | .dct ks ds => ∃ vs, H a = some (.dK (ks.zip vs)) ∧ ks.length = ds.length ∧ Rps K H ds vs
  | .dtt ks ds => ∃ vs, H a = some (.dT (ks.zip vs)) ∧ ks.length = ds.length ∧ Rps K H ds vs
  | .lam t => ∃ pm c' ctv, H a = some (.frz (PySem.W.kla_obj "<lambda>" t.q t.params t.body t.scope t.clo pm c' ctv) (anyH a)) ∧ CodeK H c' t.q
  | .tab q => ∃ ps : Array Value, H a = some (.tbl ps) ∧ TriplesOk ps.toList ∧ ∀ (pos : Pos) (cv : Value), codeAmong pos ps.toList = some cv → ∃ c, cv = .ref c ∧ CodeK H c q
/-- what an object of the store is told as -/
def inStore : HO → Bool
  | .lst _ | .ext _ | .tbl _ | .dK _ | .dT _ => true
  | .frz o (.ext _) => (match o.data with | .func _ => true | _ => false)
  | _ => false
/-- the store is held -/
structure Sim (K : PySem.W.Frag) (μ : Mu) (H : Hp) : Prop where
  at_ : ∀ a o, μ a = some o → OR K H a o
/-- what is tracked and not in the store stays -/
def Fr (μ : Mu) (H : Hp) (μ' : Mu) (H' : Hp) : Prop := ∀ b o, H b = some o → (∀ ps, o ≠ .tbl ps) → μ b = none → H' b = some o ∧ μ' b = none
theorem Fr.refl (μ : Mu) (H : Hp) : Fr μ H μ H := fun _ _ h _ n => ⟨h, n⟩
theorem Fr.trans {μ μ1 μ2 : Mu} {H H1 H2 : Hp} (a : Fr μ H μ1 H1) (b : Fr μ1 H1 μ2 H2) : Fr μ H μ2 H2 := fun c o h n m => let ⟨h1, m1⟩ := a c o h n m; b c o h1 n m1
theorem or_some {K : PySem.W.Frag} {H : Hp} {a : Addr} {o : O} (h : OR K H a o) : ∃ u, H a = some u ∧ inStore u = true := by
  cases o with
  | lst ds => obtain ⟨vs, z, _⟩ := h; exact ⟨_, z, rfl⟩
  | exc C d => obtain ⟨dx, v, z, _⟩ := h; exact ⟨_, z, rfl⟩
  | dct ks ds => obtain ⟨vs, z, _⟩ := h; exact ⟨_, z, rfl⟩
  | dtt ks ds => obtain ⟨vs, z, _⟩ := h; exact ⟨_, z, rfl⟩
  | lam t => obtain ⟨pm, c', ctv, z, _⟩ := h; exact ⟨_, z, rfl⟩
  | tab q => obtain ⟨ps, z, _⟩ := h; exact ⟨_, z, rfl⟩
theorem Sim.free {K : PySem.W.Frag} {μ : Mu} {H : Hp} (S : Sim K μ H) {a : Addr} (h : H a = none) : μ a = none := by
  cases e : μ a with
  | none => rfl
  | some o =>
    obtain ⟨u, z, _⟩ := or_some (S.at_ a o e)
    rw [h] at z
    cases z
theorem Sim.notTup {K : PySem.W.Frag} {μ : Mu} {H : Hp} (S : Sim K μ H) {a : Addr} {o : HO} (h : H a = some o) (hn : inStore o = false) : μ a = none := by
  cases e : μ a with
  | none => rfl
  | some u =>
    obtain ⟨u', z, q⟩ := or_some (S.at_ a u e)
    rw [h] at z
    cases z
    rw [hn] at q
    cases q
theorem codeK_store {oc : Obj} {vs : Array Value} {c : Addr} {q : Str} (e : oc.data = .fields vs) : inStore (.frz oc (LamX.CodeO c q)) = false := by
  unfold LamX.CodeO
  show (match oc.data with | .func _ => true | _ => false) = false
  rw [e]
theorem codeK_keep {K : PySem.W.Frag} {μ μ' : Mu} {H H' : Hp} (S : Sim K μ H) (F : Fr μ H μ' H') {c : Addr} {q : Str} (h : CodeK H c q) : CodeK H' c q := by
  obtain ⟨oc, vs, e, h⟩ := h
  exact ⟨oc, vs, e, (F c _ h (fun _ z => by cases z) (S.notTup h (codeK_store e))).1⟩
theorem sqT_keep {K : PySem.W.Frag} {μ μ' : Mu} {H H' : Hp} (S : Sim K μ H) (F : Fr μ H μ' H') {p : Addr} {vs : List V} (h : SqT K H p vs) : SqT K H' p vs := by
  rcases h with (h | ⟨o, h⟩) | h
  · exact .inl (.inl (F p _ h (fun _ z => by cases z) (S.notTup h rfl)).1)
  · exact .inl (.inr ⟨o, (F p _ h (fun _ z => by cases z) (S.notTup h rfl)).1⟩)
  · exact .inr h
theorem sqR_keep {K : PySem.W.Frag} {μ μ' : Mu} {H H' : Hp} (S : Sim K μ H) (F : Fr μ H μ' H') {p : Addr} {vs : List V} (h : SqR K H p vs) : SqR K H' p vs := by
  rcases h with ⟨o, h⟩ | h
  · exact .inl ⟨o, (F p _ h (fun _ z => by cases z) (S.notTup h rfl)).1⟩
  · exact .inr h
mutual
theorem Rp.keep {K : PySem.W.Frag} {μ μ' : Mu} {H H' : Hp} (S : Sim K μ H) (F : Fr μ H μ' H') : ∀ (d : D) {v : V}, Rp K H d v → Rp K H' d v
  | .non, _, h => h
  | .bl _, _, h => h
  | .int _, _, h => h
  | .str _, _, h => h
  | .tup ds, _, h => by
    unfold Rp at h ⊢
    obtain ⟨p, vs, e, q, r⟩ := h
    exact ⟨p, vs, e, sqT_keep S F q, Rps.keep S F ds r⟩
  | .ob _, _, h => h
  | .rls ds, _, h => by
    unfold Rp at h ⊢
    obtain ⟨p, vs, e, q, r⟩ := h
    exact ⟨p, vs, e, sqR_keep S F q, Rps.keep S F ds r⟩
theorem Rps.keep {K : PySem.W.Frag} {μ μ' : Mu} {H H' : Hp} (S : Sim K μ H) (F : Fr μ H μ' H') : ∀ (ds : List D) {vs : List V}, Rps K H ds vs → Rps K H' ds vs
  | [], _, h => h
  | d :: ds, _, h => by
    unfold Rps at h ⊢
    obtain ⟨w, ws, e, a, b⟩ := h
    exact ⟨w, ws, e, Rp.keep S F d a, Rps.keep S F ds b⟩
end
theorem Rps.length {K : PySem.W.Frag} {H : Hp} : ∀ {ds : List D} {vs : List V}, Rps K H ds vs → vs.length = ds.length
  | [], _, h => by unfold Rps at h; subst h; rfl
  | d :: ds, _, h => by
    unfold Rps at h
    obtain ⟨w, ws, rfl, _, b⟩ := h
    simp [Rps.length b]
theorem Rps.append {K : PySem.W.Frag} {H : Hp} : ∀ {ds es : List D} {vs ws : List V}, Rps K H ds vs → Rps K H es ws → Rps K H (ds ++ es) (vs ++ ws)
  | [], _, _, _, h, g => by unfold Rps at h; subst h; exact g
  | d :: ds, _, _, _, h, g => by
    unfold Rps at h
    obtain ⟨w, ws, rfl, a, b⟩ := h
    show Rps K H (d :: (ds ++ _)) (w :: (ws ++ _))
    unfold Rps
    exact ⟨_, _, rfl, a, Rps.append b g⟩
theorem Rps.get {K : PySem.W.Frag} {H : Hp} : ∀ {ds : List D} {vs : List V} {i : Nat} {d : D}, Rps K H ds vs → ds[i]? = some d → ∃ v, vs[i]? = some v ∧ Rp K H d v
  | [], _, _, _, _, e => by simp at e
  | x :: xs, _, 0, d, h, e => by
    unfold Rps at h
    obtain ⟨w, ws, rfl, a, b⟩ := h
    simp at e; subst e
    exact ⟨w, rfl, a⟩
  | x :: xs, _, i + 1, d, h, e => by
    unfold Rps at h
    obtain ⟨w, ws, rfl, a, b⟩ := h
    obtain ⟨v, h1, h2⟩ := Rps.get (i := i) b (by simpa using e)
    exact ⟨v, by simpa using h1, h2⟩
theorem Rps.getV {K : PySem.W.Frag} {H : Hp} : ∀ {ds : List D} {vs : List V} {i : Nat} {v : V}, Rps K H ds vs → vs[i]? = some v → ∃ d, ds[i]? = some d ∧ Rp K H d v := by
  intro ds vs i v h e
  have hl := h.length
  have hi : i < ds.length := by rw [← hl]; exact (List.getElem?_eq_some_iff.mp e).1
  obtain ⟨w, h1, h2⟩ := h.get (i := i) (d := ds[i]) (by simp [hi])
  rw [e] at h1; cases h1
  exact ⟨_, by simp [hi], h2⟩
theorem Rps.take {K : PySem.W.Frag} {H : Hp} : ∀ {ds : List D} {vs : List V} (n : Nat), Rps K H ds vs → Rps K H (ds.take n) (vs.take n)
  | _, _, 0, _ => by simp [Rps]
  | [], _, n + 1, h => by unfold Rps at h; subst h; simp [Rps]
  | d :: ds, _, n + 1, h => by
    unfold Rps at h
    obtain ⟨w, ws, rfl, a, b⟩ := h
    simp only [List.take_succ_cons]
    unfold Rps
    exact ⟨_, _, rfl, a, Rps.take n b⟩
theorem Rps.drop {K : PySem.W.Frag} {H : Hp} : ∀ {ds : List D} {vs : List V} (n : Nat), Rps K H ds vs → Rps K H (ds.drop n) (vs.drop n)
  | _, _, 0, h => h
  | [], _, n + 1, h => by unfold Rps at h; subst h; simp [Rps]
  | d :: ds, _, n + 1, h => by
    unfold Rps at h
    obtain ⟨w, ws, rfl, a, b⟩ := h
    simp only [List.drop_succ_cons]
    exact Rps.drop n b
theorem Rps.set {K : PySem.W.Frag} {H : Hp} {d : D} {v : V} (r : Rp K H d v) : ∀ {ds : List D} {vs : List V} (n : Nat), Rps K H ds vs → Rps K H (ds.set n d) (vs.set n v)
  | [], _, n, h => by unfold Rps at h; subst h; simp [Rps]
  | x :: xs, _, 0, h => by
    unfold Rps at h
    obtain ⟨w, ws, rfl, a, b⟩ := h
    simp only [List.set_cons_zero]
    unfold Rps
    exact ⟨_, _, rfl, r, b⟩
  | x :: xs, _, n + 1, h => by
    unfold Rps at h
    obtain ⟨w, ws, rfl, a, b⟩ := h
    simp only [List.set_cons_succ]
    unfold Rps
    exact ⟨_, _, rfl, a, Rps.set r n b⟩
theorem Rps.ints {K : PySem.W.Frag} {H : Hp} : ∀ {ns : List Int} {vs : List V}, Rps K H (ns.map D.int) vs → vs = ns.map V.int
  | [], _, h => h
  | n :: ns, _, h => by
    simp only [List.map_cons] at h ⊢
    unfold Rps at h
    obtain ⟨w, ws, rfl, a, b⟩ := h
    have a' : w = V.int n := a
    rw [a', Rps.ints b]
theorem Rps.of_ints {K : PySem.W.Frag} {H : Hp} : ∀ (ns : List Int), Rps K H (ns.map D.int) (ns.map V.int)
  | [] => rfl
  | n :: ns => by
    simp only [List.map_cons]
    unfold Rps
    exact ⟨_, _, rfl, rfl, Rps.of_ints ns⟩
theorem Rps.bls {K : PySem.W.Frag} {H : Hp} : ∀ {ns : List Bool} {vs : List V}, Rps K H (ns.map D.bl) vs → vs = ns.map V.bl
  | [], _, h => h
  | n :: ns, _, h => by
    simp only [List.map_cons] at h ⊢
    unfold Rps at h
    obtain ⟨w, ws, rfl, a, b⟩ := h
    have a' : w = V.bl n := a
    rw [a', Rps.bls b]

/-! ### writes -/
/-- a new object, its store's entry -/
theorem fr_new {μ : Mu} {H : Hp} {p : Addr} {o : HO} {u : O} (h : H p = none) : Fr μ H (mset μ p u) (upd H p o) := fun b x e _ n => by
  have : b ≠ p := ne_of_none e h
  exact ⟨by rw [upd_ne this]; exact e, by rw [mset_ne this]; exact n⟩
/-- a new object, not in the store (a tuple) -/
theorem fr_tup {μ : Mu} {H : Hp} {p : Addr} {o : HO} (h : H p = none) : Fr μ H μ (upd H p o) := fun b x e _ n => by
  have : b ≠ p := ne_of_none e h
  exact ⟨by rw [upd_ne this]; exact e, n⟩
/-- an object of the store is written -/
theorem fr_set {μ : Mu} {H : Hp} {p : Addr} {o : HO} {u u' : O} (h : μ p = some u') : Fr μ H (mset μ p u) (upd H p o) := fun b x e _ n => by
  have : b ≠ p := fun z => by subst z; rw [h] at n; cases n
  exact ⟨by rw [upd_ne this]; exact e, by rw [mset_ne this]; exact n⟩
theorem OR.keep {K : PySem.W.Frag} {μ μ' : Mu} {H H' : Hp} (S : Sim K μ H) (F : Fr μ H μ' H') {a : Addr} {o : O} (h : OR K H a o) (ha : ∀ x, H a = some x → H' a = some x) : OR K H' a o := by
  cases o with
  | lst ds =>
    obtain ⟨vs, e, r⟩ := h
    exact ⟨vs, ha _ e, Rps.keep S F ds r⟩
  | exc C d =>
    obtain ⟨dx, v, e, e2, r⟩ := h
    exact ⟨dx, v, ha _ e, (F dx _ e2 (fun _ z => by cases z) (S.notTup e2 rfl)).1, Rp.keep S F d r⟩
  | dct ks ds =>
    obtain ⟨vs, e, hl, r⟩ := h
    exact ⟨vs, ha _ e, hl, Rps.keep S F ds r⟩
  | dtt ks ds =>
    obtain ⟨vs, e, hl, r⟩ := h
    exact ⟨vs, ha _ e, hl, Rps.keep S F ds r⟩
  | lam t =>
    obtain ⟨pm, c', ctv, e, k⟩ := h
    exact ⟨pm, c', ctv, ha _ e, codeK_keep S F k⟩
  | tab q =>
    obtain ⟨ps, e, e2, k⟩ := h
    exact ⟨ps, ha _ e, e2, fun pos cv z => by
      obtain ⟨c, ec, kc⟩ := k pos cv z
      exact ⟨c, ec, codeK_keep S F kc⟩⟩
theorem sim_tup {K : PySem.W.Frag} {μ : Mu} {H : Hp} (S : Sim K μ H) {p : Addr} {o : HO} (h : H p = none) : Sim K μ (upd H p o) := ⟨fun a u e =>
  (S.at_ a u e).keep S (fr_tup h) fun x q => by rw [upd_ne (ne_of_none q h)]; exact q⟩
theorem sim_lst {K : PySem.W.Frag} {μ : Mu} {H : Hp} (S : Sim K μ H) {p : Addr} {ds : List D} {vs : List V} (F : Fr μ H (mset μ p (.lst ds)) (upd H p (.lst vs))) (r : Rps K H ds vs) : Sim K (mset μ p (.lst ds)) (upd H p (.lst vs)) := ⟨fun a u e => by
  by_cases ha : a = p
  · subst ha
    rw [mset_same] at e; cases e
    exact ⟨vs, upd_same, Rps.keep S F ds r⟩
  · rw [mset_ne ha] at e
    exact (S.at_ a u e).keep S F fun x q => by rw [upd_ne ha]; exact q⟩

/-! ### environments -/
abbrev Ev := List (Option D)
def EnvR (K : PySem.W.Frag) (H : Hp) : Ev → L2.St → Prop
  | [], σ => σ = []
  | e :: ρ, σ => ∃ s σ', σ = s :: σ' ∧ (∀ d, e = some d → ∃ v, s = some v ∧ Rp K H d v) ∧ EnvR K H ρ σ'
theorem EnvR.keep {K : PySem.W.Frag} {μ μ' : Mu} {H H' : Hp} (S : Sim K μ H) (F : Fr μ H μ' H') : ∀ {ρ : Ev} {σ : L2.St}, EnvR K H ρ σ → EnvR K H' ρ σ
  | [], _, h => h
  | e :: ρ, _, h => by
    unfold EnvR at h ⊢
    obtain ⟨s, σ', rfl, a, b⟩ := h
    refine ⟨s, σ', rfl, fun d q => ?_, EnvR.keep S F b⟩
    obtain ⟨v, h1, h2⟩ := a d q
    exact ⟨v, h1, Rp.keep S F d h2⟩
theorem EnvR.get {K : PySem.W.Frag} {H : Hp} : ∀ {ρ : Ev} {σ : L2.St} {i : Nat} {d : D}, EnvR K H ρ σ → ρ[i]? = some (some d) → ∃ v, σ[i]? = some (some v) ∧ Rp K H d v
  | [], _, _, _, _, e => by simp at e
  | x :: ρ, _, 0, d, h, e => by
    unfold EnvR at h
    obtain ⟨s, σ', rfl, a, b⟩ := h
    simp at e
    obtain ⟨v, h1, h2⟩ := a d e
    exact ⟨v, by rw [h1]; rfl, h2⟩
  | x :: ρ, _, i + 1, d, h, e => by
    unfold EnvR at h
    obtain ⟨s, σ', rfl, a, b⟩ := h
    obtain ⟨v, h1, h2⟩ := EnvR.get (i := i) b (by simpa using e)
    exact ⟨v, by simpa using h1, h2⟩
theorem EnvR.set {K : PySem.W.Frag} {H : Hp} {d : D} {v : V} (r : Rp K H d v) : ∀ {ρ : Ev} {σ : L2.St} (i : Nat), EnvR K H ρ σ → EnvR K H (ρ.set i (some d)) (σ.set i (some v))
  | [], _, _, h => by unfold EnvR at h; subst h; simp [EnvR]
  | x :: ρ, _, 0, h => by
    unfold EnvR at h
    obtain ⟨s, σ', rfl, a, b⟩ := h
    simp only [List.set_cons_zero]
    unfold EnvR
    exact ⟨_, _, rfl, fun d' q => by cases q; exact ⟨v, rfl, r⟩, b⟩
  | x :: ρ, _, i + 1, h => by
    unfold EnvR at h
    obtain ⟨s, σ', rfl, a, b⟩ := h
    simp only [List.set_cons_succ]
    unfold EnvR
    exact ⟨_, _, rfl, a, EnvR.set r i b⟩
theorem EnvR.wipe {K : PySem.W.Frag} {H : Hp} : ∀ {ρ : Ev} {σ : L2.St} (i : Nat) (s : Option V), EnvR K H ρ σ → EnvR K H (ρ.set i none) (σ.set i s)
  | [], _, _, _, h => by unfold EnvR at h; subst h; simp [EnvR]
  | x :: ρ, _, 0, _, h => by
    unfold EnvR at h
    obtain ⟨s, σ', rfl, a, b⟩ := h
    simp only [List.set_cons_zero]
    unfold EnvR
    exact ⟨_, _, rfl, fun d' q => (by cases q), b⟩
  | x :: ρ, _, i + 1, t, h => by
    unfold EnvR at h
    obtain ⟨s, σ', rfl, a, b⟩ := h
    simp only [List.set_cons_succ]
    unfold EnvR
    exact ⟨_, _, rfl, a, EnvR.wipe i t b⟩
/-- the start -/
def ev0 (n : Nat) (ds : List D) : Ev := ds.map some ++ List.replicate (n - ds.length) none
theorem EnvR.nones {K : PySem.W.Frag} {H : Hp} : ∀ (n : Nat), EnvR K H (List.replicate n Option.none) (List.replicate n Option.none)
  | 0 => rfl
  | n + 1 => by
    simp only [List.replicate_succ]
    unfold EnvR
    exact ⟨_, _, rfl, fun d q => (by cases q), EnvR.nones n⟩
theorem EnvR.start {K : PySem.W.Frag} {H : Hp} {m : Nat} : ∀ {ds : List D} {vs : List V}, Rps K H ds vs → EnvR K H (ds.map some ++ List.replicate m none) (vs.map some ++ List.replicate m none)
  | [], _, h => by unfold Rps at h; subst h; exact EnvR.nones m
  | d :: ds, _, h => by
    unfold Rps at h
    obtain ⟨w, ws, rfl, a, b⟩ := h
    simp only [List.map_cons, List.cons_append]
    unfold EnvR
    exact ⟨_, _, rfl, fun d' q => by cases q; exact ⟨w, rfl, a⟩, EnvR.start b⟩
end Sq

/-! Weakest preconditions over data, lifted to the hand layer's readings: expressions. -/
namespace Sq
open PySem PySem.Spec PyProof.Rows L2

abbrev PQ := D → Mu → Prop
/-- an error: its class, its value -/
abbrev XQ := Addr → D → Mu → Prop
structure Wp (α : Type) where
  run : Ev → Mu → (α → Mu → Prop) → XQ → Prop
  mono : ∀ {ρ μ Q Q' X X'}, (∀ d μ', Q d μ' → Q' d μ') → (∀ C d μ', X C d μ' → X' C d μ') → run ρ μ Q X → run ρ μ Q' X'
abbrev WE := Wp D
abbrev WT := Wp Bool
abbrev WA := Wp (List D)

def Out {α β : Type} (R : Hp → α → β → Prop) (K : PySem.W.Frag) (μ : Mu) (H : Hp) (Q : β → Hp → Prop) : α → Mu → Prop := fun d μ' => ∀ v H', Fr μ H μ' H' → Sim K μ' H' → R H' d v → Q v H'
def OutX (K : PySem.W.Frag) (Wx : WX) (σ : L2.St) (μ : Mu) (H : Hp) : XQ := fun C d μ' => ∀ dx v H', Fr μ H μ' H' → Sim K μ' H' → H' dx = some (.xd [("value", v)]) → Rp K H' d v → Wx (.ref C) (some dx) σ H'
def lW {α β : Type} (R : Hp → α → β → Prop) (K : PySem.W.Frag) (Wx : WX) (w : Wp α) : L2.St → Hp → (β → Hp → Prop) → Prop := fun σ H Q =>
  ∃ ρ μ, EnvR K H ρ σ ∧ Sim K μ H ∧ w.run ρ μ (Out R K μ H Q) (OutX K Wx σ μ H)
abbrev lE (K : PySem.W.Frag) (Wx : WX) (w : WE) : TE := lW (Rp K) K Wx w
abbrev lT (K : PySem.W.Frag) (Wx : WX) (w : WT) : TT := lW (fun (_ : Hp) (b c : Bool) => b = c) K Wx w
abbrev lA (K : PySem.W.Frag) (Wx : WX) (w : WA) : TA := lW (Rps K) K Wx w
def LE (X : Cx) (Wx : WX) (e : Expr) (w : WE) : Prop := PE X e (lE X.K Wx w)
def LT (X : Cx) (Wx : WX) (e : Expr) (w : WT) : Prop := PT X e (lT X.K Wx w)
def LA (X : Cx) (Wx : WX) (es : List Expr) (w : WA) : Prop := PA X es (lA X.K Wx w)

theorem Out.trans {α β : Type} {R : Hp → α → β → Prop} {K : PySem.W.Frag} {μ μ1 : Mu} {H H1 : Hp} {Q : β → Hp → Prop} (F : Fr μ H μ1 H1) {d : α} {μ' : Mu} (h : Out R K μ H Q d μ') : Out R K μ1 H1 Q d μ' := fun v H' F' S r => h v H' (F.trans F') S r
theorem OutX.trans {K : PySem.W.Frag} {Wx : WX} {σ : L2.St} {μ μ1 : Mu} {H H1 : Hp} (F : Fr μ H μ1 H1) {C : Addr} {d : D} {μ' : Mu} (h : OutX K Wx σ μ H C d μ') : OutX K Wx σ μ1 H1 C d μ' := fun dx v H' F' S r r2 => h dx v H' (F.trans F') S r r2
/-- one part, then the rest -/
theorem lW.bind {α β : Type} {R : Hp → α → β → Prop} {K : PySem.W.Frag} {Wx : WX} {w : Wp α} {σ : L2.St} {H : Hp} {ρ : Ev} {μ : Mu} {Q : α → Mu → Prop} {X : XQ} {Q' : β → Hp → Prop} (E : EnvR K H ρ σ) (S : Sim K μ H) (h : w.run ρ μ Q X)
    (hQ : ∀ d μ1 v H1, Fr μ H μ1 H1 → Sim K μ1 H1 → EnvR K H1 ρ σ → R H1 d v → Q d μ1 → Q' v H1) (hX : ∀ C d μ', X C d μ' → OutX K Wx σ μ H C d μ') : lW R K Wx w σ H Q' :=
  ⟨ρ, μ, E, S, w.mono (fun d μ1 q v H1 F S1 r => hQ d μ1 v H1 F S1 (E.keep S F) r q) hX h⟩
theorem PE.weak {X : Cx} {e : Expr} {t t' : TE} (h : PE X e t) (hw : ∀ σ H Q, t' σ H Q → t σ H Q) : PE X e t' := ⟨fun pins s σ H Q I q => h.run pins s σ H Q I (hw σ H Q q)⟩
theorem PT.weak {X : Cx} {e : Expr} {t t' : TT} (h : PT X e t) (hw : ∀ σ H Q, t' σ H Q → t σ H Q) : PT X e t' := ⟨fun pins s σ H Q I q => h.run pins s σ H Q I (hw σ H Q q)⟩
theorem PW.weak {X : Cx} {e : Expr} {t t' : TT} (h : PW X e t) (hw : ∀ σ H Q, t' σ H Q → t σ H Q) : PW X e t' := ⟨fun wh pins s σ H Q I q => h.run wh pins s σ H Q I (hw σ H Q q)⟩
theorem PA.weak {X : Cx} {es : List Expr} {t t' : TA} (h : PA X es t) (hw : ∀ σ H Q, t' σ H Q → t σ H Q) : PA X es t' := ⟨fun pos pins s σ H Q I q => h.run pos pins s σ H Q I (hw σ H Q q)⟩

section
variable {X : Cx} {Wx : WX}
/-! ### names, constants -/
def wVar (i : Nat) : WE := ⟨fun ρ μ Q _ => match ρ[i]? with | some (some d) => Q d μ | _ => False, fun {ρ μ Q Q' X X'} hQ _ h => by
  revert h
  cases ρ[i]? with
  | none => exact id
  | some o =>
    cases o with
    | none => exact id
    | some d => exact hQ d μ⟩
theorem wVar_run {i : Nat} {ρ : Ev} {μ : Mu} {Q : PQ} {X : XQ} : (wVar i).run ρ μ Q X = (match ρ[i]? with | some (some d) => Q d μ | _ => False) := rfl
theorem le_var (i : Nat) {x : Str} {pos : Pos} (hN : X.N[i]? = some x := by rfl) (hv : Vis X.env.scope x := by first | exact Or.inl rfl | exact Or.inr (Or.inl rfl) | exact Or.inr (Or.inr rfl)) (hd : (x == ("__debug__" : Str)) = false := by decide)
    (hcd : (x == ("__classdict__" : Str)) = false := by decide) : LE X Wx (.Name x pos) (wVar i) :=
  PE.weak (pe_var hN hv hd hcd) fun σ H Q ⟨ρ, μ, E, S, h⟩ => by
    rw [wVar_run] at h
    split at h
    · rename_i d e
      obtain ⟨v, h1, h2⟩ := E.get e
      exact ⟨v, h1, h v H (Fr.refl μ H) S h2⟩
    · exact h.elim
def wC (d : D) : WE := ⟨fun _ μ Q _ => Q d μ, fun hQ _ h => hQ _ _ h⟩
theorem wC_run {d : D} {ρ : Ev} {μ : Mu} {Q : PQ} {X : XQ} : (wC d).run ρ μ Q X = Q d μ := rfl
theorem le_const {e : Expr} {v : V} {d : D} (h : PE X e (tC v)) (r : ∀ H, Rp X.K H d v) : LE X Wx e (wC d) := PE.weak h fun σ H Q ⟨ρ, μ, E, S, h⟩ => h v H (Fr.refl μ H) S (r H)
theorem le_int {i j pos} : LE X Wx (.Constant (.int i) j pos) (wC (.int i)) := le_const pe_int fun _ => rfl
theorem le_bl {b j pos} : LE X Wx (.Constant (.bool b) j pos) (wC (.bl b)) := le_const pe_bl fun _ => rfl
theorem le_non {j pos} : LE X Wx (.Constant .none j pos) (wC .non) := le_const pe_non fun _ => rfl
theorem le_str {x j pos} : LE X Wx (.Constant (.str x) j pos) (wC (.str x)) := le_const pe_str fun _ => rfl
/-- a constant of the module -/
theorem le_glob {x : Str} {d : D} {v : V} {u : Value} {pos : Pos} (hm : X.mg x = some u) (r : RelV v u) (rd : ∀ H, Rp X.K H d v) (hg : Gl X x := by rfl) (hd : (x == ("__debug__" : Str)) = false := by decide) : LE X Wx (.Name x pos) (wC d) :=
  le_const (pe_glob hg hm r hd) rd

/-! ### operators by values -/
/-- what an operator does with two data -/
structure G2 where
  run : D → D → Mu → PQ → Prop
  mono : ∀ {x y μ Q Q'}, (∀ d μ', Q d μ' → Q' d μ') → run x y μ Q → run x y μ Q'
def OpD (X : Cx) (f : Value → Value → Sem Value) (g : G2) : Prop := ∃ r : R2, OpR X f r ∧ ∀ x y μ H vx vy Q, Sim X.K μ H → Rp X.K H x vx → Rp X.K H y vy → g.run x y μ (Out (Rp X.K) X.K μ H Q) → r vx vy H Q
def wOp (g : G2) (a b : WE) : WE := ⟨fun ρ μ Q X => a.run ρ μ (fun x μ1 => b.run ρ μ1 (fun y μ2 => g.run x y μ2 Q) X) X, fun hQ hX h => a.mono (fun _ _ h => b.mono (fun _ _ h => g.mono hQ h) hX h) hX h⟩
theorem wOp_run {g : G2} {a b : WE} {ρ : Ev} {μ : Mu} {Q : PQ} {X : XQ} : (wOp g a b).run ρ μ Q X = a.run ρ μ (fun x μ1 => b.run ρ μ1 (fun y μ2 => g.run x y μ2 Q) X) X := rfl
theorem wOp_t {g : G2} {f : Value → Value → Sem Value} {wa wb : WE} {r : R2} (hg : ∀ x y μ H vx vy Q, Sim X.K μ H → Rp X.K H x vx → Rp X.K H y vy → g.run x y μ (Out (Rp X.K) X.K μ H Q) → r vx vy H Q) :
    ∀ σ H Q, lE X.K Wx (wOp g wa wb) σ H Q → tOp r (lE X.K Wx wa) (lE X.K Wx wb) σ H Q := fun σ H Q ⟨ρ, μ, E, S, h⟩ => by
  refine lW.bind E S h (fun x μ1 v H1 F1 S1 E1 r1 h1 => ?_) fun _ _ _ h => h
  refine lW.bind E1 S1 h1 (fun y μ2 u H2 F2 S2 E2 r2 h2 => ?_) fun _ _ _ h => h.trans F1
  exact hg x y μ2 H2 v u Q S2 (Rp.keep S1 F2 x r1) r2 (g.mono (fun _ _ q => q.trans (F1.trans F2)) h2)
theorem le_op {op : Operator} {a b : Expr} {pos : Pos} {g : G2} {wa wb : WE} (ho : OpD X (binaryOp op) g) (ha : LE X Wx a wa) (hb : LE X Wx b wb) : LE X Wx (.BinOp a op b pos) (wOp g wa wb) := by
  obtain ⟨r, h1, h2⟩ := ho
  exact PE.weak (pe_op h1 ha hb) (wOp_t (f := binaryOp op) h2)
theorem le_cmp {op : CmpOp} {a b : Expr} {pos : Pos} {g : G2} {wa wb : WE} (ho : OpD X (compareOp op) g) (ha : LE X Wx a wa) (hb : LE X Wx b wb) (hm : behindInMarks op b = false := by first | exact nomark _ | rfl) : LE X Wx (.Compare a [op] [b] pos) (wOp g wa wb) := by
  obtain ⟨r, h1, h2⟩ := ho
  exact PE.weak (pe_cmpR h1 ha hb hm) (wOp_t (f := compareOp op) h2)
/-- of a bool -/
def onBl (z : D) (f : Bool → Prop) : Prop := match z with | .bl k => f k | _ => False
theorem onBl_bl {k : Bool} {f : Bool → Prop} : onBl (.bl k) f = f k := rfl
theorem onBl_mono {z : D} {f f' : Bool → Prop} (h : ∀ k, f k → f' k) (q : onBl z f) : onBl z f' := by
  cases z with
  | bl k => exact h k q
  | _ => exact q
theorem onBl_v {K : PySem.W.Frag} {H : Hp} {z : D} {v : V} {f : Bool → Prop} (r : Rp K H z v) (q : onBl z f) : ∃ k, v = .bl k ∧ f k := by
  cases z with
  | bl k => exact ⟨k, r, q⟩
  | _ => exact q.elim
/-- a < b < c -/
def wChain (g g' : G2) (a b c : WE) : WE := ⟨fun ρ μ Q X => a.run ρ μ (fun x μ1 => b.run ρ μ1 (fun y μ2 => g.run x y μ2 fun z μ3 => onBl z fun k => if k = true then c.run ρ μ3 (fun u μ4 => g'.run y u μ4 Q) X else Q (.bl false) μ3) X) X,
  fun hQ hX h => a.mono (fun _ _ h => b.mono (fun _ _ h => g.mono (fun z _ h => onBl_mono (fun k h => by
    cases k with
    | true => exact c.mono (fun _ _ h => g'.mono hQ h) hX h
    | false => exact hQ _ _ h) h) h) hX h) hX h⟩
theorem wChain_run {g g' : G2} {a b c : WE} {ρ : Ev} {μ : Mu} {Q : PQ} {X : XQ} : (wChain g g' a b c).run ρ μ Q X = a.run ρ μ (fun x μ1 => b.run ρ μ1 (fun y μ2 => g.run x y μ2 fun z μ3 => onBl z fun k => if k = true then c.run ρ μ3 (fun u μ4 => g'.run y u μ4 Q) X else Q (.bl false) μ3) X) X := rfl
theorem le_chain {op op' : CmpOp} {a b c : Expr} {pos : Pos} {g g' : G2} {wa wb wc : WE} (ho : OpD X (compareOp op) g) (ho' : OpD X (compareOp op') g') (ha : LE X Wx a wa) (hb : LE X Wx b wb) (hc : LE X Wx c wc)
    (hm : lastMarks [op, op'] [b, c] = false := by with_unfolding_all rfl) : LE X Wx (.Compare a [op, op'] [b, c] pos) (wChain g g' wa wb wc) := by
  obtain ⟨r, h1, h2⟩ := ho
  obtain ⟨r', h1', h2'⟩ := ho'
  refine PE.weak (pe_chain h1 h1' ha hb hc hm) fun σ H Q ⟨ρ, μ, E, S, h⟩ => ?_
  refine lW.bind E S h (fun x μ1 v H1 F1 S1 E1 r1 h1 => ?_) fun _ _ _ h => h
  refine lW.bind E1 S1 h1 (fun y μ2 u H2 F2 S2 E2 r2 h2a => ?_) fun _ _ _ h => h.trans F1
  refine h2 x y μ2 H2 v u _ S2 (Rp.keep S1 F2 x r1) r2 (g.mono (fun z μ3 q z' H3 F3 S3 r3 => ?_) h2a)
  obtain ⟨k, e, q⟩ := onBl_v r3 q
  refine ⟨k, e, ?_⟩
  cases k with
  | false => exact iteF ((show Out (Rp X.K) X.K μ H Q (.bl false) μ3 from q) _ _ (F1.trans (F2.trans F3)) S3 rfl)
  | true =>
    refine iteT (lW.bind (E2.keep S2 F3) S3 q (fun t μ4 w H4 F4 S4 E4 r4 h4 => ?_) fun _ _ _ h => h.trans (F1.trans (F2.trans F3)))
    exact h2' y t μ4 H4 u w Q S4 (Rp.keep S3 F4 y (Rp.keep S2 F3 y r2)) r4 (g'.mono (fun _ _ q => q.trans (F1.trans (F2.trans (F3.trans F4)))) h4)
end
end Sq

/-! Operators over data. -/
namespace Sq
open PySem PySem.Spec PyProof.Rows L2

/-! ### data from values -/
section
variable {K : PySem.W.Frag} {H : Hp} {v : V}
theorem rp_non (r : Rp K H .non v) : v = .non := r
theorem rp_bl {b : Bool} (r : Rp K H (.bl b) v) : v = .bl b := r
theorem rp_int {i : Int} (r : Rp K H (.int i) v) : v = .int i := r
theorem rp_str {x : Str} (r : Rp K H (.str x) v) : v = .str x := r
theorem rp_ob {a : Addr} (r : Rp K H (.ob a) v) : v = .ref a := r
theorem rp_tup {ds : List D} (r : Rp K H (.tup ds) v) : ∃ p vs, v = .ref p ∧ SqT K H p vs ∧ Rps K H ds vs := by unfold Rp at r; exact r
theorem rp_rls {ds : List D} (r : Rp K H (.rls ds) v) : ∃ p vs, v = .ref p ∧ SqR K H p vs ∧ Rps K H ds vs := by unfold Rp at r; exact r
theorem rp_mk {ds : List D} {p : Addr} {vs : List V} (h : SqT K H p vs) (r : Rps K H ds vs) : Rp K H (.tup ds) (.ref p) := by unfold Rp; exact ⟨p, vs, rfl, h, r⟩
/-- a list of the store -/
theorem Sim.lst {μ : Mu} (S : Sim K μ H) {a : Addr} {ds : List D} (h : μ a = some (.lst ds)) : ∃ vs, H a = some (.lst vs) ∧ Rps K H ds vs := S.at_ a _ h
end
/-- the new tuple -/
theorem out_tup {K : PySem.W.Frag} {μ : Mu} {H : Hp} {Q : VK} {ds : List D} {vs : List V} (S : Sim K μ H) (r : Rps K H ds vs) (h : Out (Rp K) K μ H Q (.tup ds) μ) : ∀ p, H p = none → Q (.ref p) (upd H p (.tup vs)) := fun p hp =>
  h _ _ (fr_tup hp) (sim_tup S hp) (rp_mk (SqT.of upd_same) (Rps.keep S (fr_tup hp) ds r))
/-- the new list -/
theorem out_lst {K : PySem.W.Frag} {μ : Mu} {H : Hp} {Q : VK} {ds : List D} {vs : List V} (S : Sim K μ H) (r : Rps K H ds vs) (h : ∀ p, μ p = none → Out (Rp K) K μ H Q (.ob p) (mset μ p (.lst ds))) : ∀ p, H p = none → Q (.ref p) (upd H p (.lst vs)) := fun p hp =>
  h p (S.free hp) _ _ (fr_new hp) (sim_lst S (fr_new hp) r) rfl

/-! ### ints -/
def gI (C : Int → Int → Prop) (g : Int → Int → D) : G2 := ⟨fun x y μ Q => match x, y with | .int i, .int j => C i j ∧ Q (g i j) μ | _, _ => False, fun {x y μ Q Q'} hQ h => by
  cases x <;> cases y <;> first | exact ⟨h.1, hQ _ _ h.2⟩ | exact h⟩
theorem gI_run {C : Int → Int → Prop} {g : Int → Int → D} {i j : Int} {μ : Mu} {Q : PQ} : (gI C g).run (.int i) (.int j) μ Q = (C i j ∧ Q (g i j) μ) := rfl
section
variable {X : Cx}
theorem od_int {f : Value → Value → Sem Value} {C : Int → Int → Prop} {gv : Int → Int → V} {g : Int → Int → D} (h : OpR X f (rI C gv)) (e : ∀ i j H, Rp X.K H (g i j) (gv i j)) : OpD X f (gI C g) := ⟨_, h, fun x y μ H vx vy Q S rx ry q => by
  cases x <;> cases y <;> first
    | exact q.elim
    | (rw [rp_int rx, rp_int ry]; exact ⟨_, _, rfl, rfl, q.1, q.2 _ _ (Fr.refl μ H) S (e _ _ H)⟩)⟩
theorem od_int0 {f : Value → Value → Sem Value} {gv : Int → Int → V} {g : Int → Int → D} (h : OpR X f (rI0 gv)) (e : ∀ i j H, Rp X.K H (g i j) (gv i j)) : OpD X f (gI (fun _ _ => True) g) := ⟨_, h, fun x y μ H vx vy Q S rx ry q => by
  cases x <;> cases y <;> first
    | exact q.elim
    | (rw [rp_int rx, rp_int ry]; exact ⟨_, _, rfl, rfl, q.2 _ _ (Fr.refl μ H) S (e _ _ H)⟩)⟩
def gSub : G2 := gI (fun _ _ => True) fun i j => .int (i - j)
theorem od_sub : OpD X (binaryOp .Sub) gSub := od_int0 op_sub fun _ _ _ => rfl
/-- a divisor: not 0, below 2 ^ 9000 -/
def DivOk (j : Int) : Prop := j ≠ 0 ∧ j.natAbs < 2 ^ 9000
theorem op_fdivA : OpR X (binaryOp .FloorDiv) (rI (fun _ j => DivOk j) fun i j => .int (i.fdiv j)) := opI fun i j _ _ _ _ _ hc q =>
  floordiv_int hc.1 q (.inl (PyProof.noPylong_of_log2 (PySem.Flt.log2_lt_of (by decide) hc.2)))
def gFdiv : G2 := gI (fun _ j => DivOk j) fun i j => .int (i.fdiv j)
theorem od_fdiv : OpD X (binaryOp .FloorDiv) gFdiv := od_int op_fdivA fun _ _ _ => rfl
def gMod : G2 := gI (fun _ j => j ≠ 0) fun i j => .int (i.fmod j)
theorem od_mod : OpD X (binaryOp .Mod) gMod := od_int op_modN fun _ _ _ => rfl
/-- a < b of ints -/
def gLt : G2 := gI (fun _ _ => True) fun i j => .bl (decide (i < j))
def gLe : G2 := gI (fun _ _ => True) fun i j => .bl (decide (i ≤ j))
def gGt : G2 := gI (fun _ _ => True) fun i j => .bl (decide (j < i))
def gGe : G2 := gI (fun _ _ => True) fun i j => .bl (decide (j ≤ i))
theorem od_lt : OpD X (compareOp .Lt) gLt := od_int0 op_lt fun _ _ _ => rfl
theorem od_le : OpD X (compareOp .LtE) gLe := od_int0 op_le fun _ _ _ => rfl
theorem od_gt : OpD X (compareOp .Gt) gGt := od_int0 op_gt fun _ _ _ => rfl
theorem od_ge : OpD X (compareOp .GtE) gGe := od_int0 op_ge fun _ _ _ => rfl

/-! ### + of ints, texts, tuples, lists -/
def gAdd : G2 := ⟨fun x y μ Q => match x, y with
    | .int i, .int j => Q (.int (i + j)) μ
    | .str s, .str t => s.length + t.length ≤ sizeLine ∧ Q (.str (s ++ t)) μ
    | .tup xs, .tup ys => xs.length + ys.length ≤ sizeLine ∧ Q (.tup (xs ++ ys)) μ
    | .ob a, .ob b => (match μ a, μ b with | some (.lst xs), some (.lst ys) => xs.length + ys.length ≤ sizeLine ∧ ∀ p, μ p = none → Q (.ob p) (mset μ p (.lst (xs ++ ys))) | _, _ => False)
    | _, _ => False, fun {x y μ Q Q'} hQ h => by
  cases x <;> cases y <;> first
    | exact hQ _ _ h
    | exact ⟨h.1, hQ _ _ h.2⟩
    | (revert h; dsimp only; split
       · exact fun h => ⟨h.1, fun p hp => hQ _ _ (h.2 p hp)⟩
       · exact id)
    | exact h⟩
theorem gAdd_int {i j : Int} {μ : Mu} {Q : PQ} : gAdd.run (.int i) (.int j) μ Q = Q (.int (i + j)) μ := rfl
theorem gAdd_str {i j : Str} {μ : Mu} {Q : PQ} : gAdd.run (.str i) (.str j) μ Q = (i.length + j.length ≤ sizeLine ∧ Q (.str (i ++ j)) μ) := rfl
theorem gAdd_tup {i j : List D} {μ : Mu} {Q : PQ} : gAdd.run (.tup i) (.tup j) μ Q = (i.length + j.length ≤ sizeLine ∧ Q (.tup (i ++ j)) μ) := rfl
theorem gAdd_ob {a b : Addr} {μ : Mu} {Q : PQ} : gAdd.run (.ob a) (.ob b) μ Q = (match μ a, μ b with | some (.lst xs), some (.lst ys) => xs.length + ys.length ≤ sizeLine ∧ ∀ p, μ p = none → Q (.ob p) (mset μ p (.lst (xs ++ ys))) | _, _ => False) := rfl
theorem od_add : OpD X (binaryOp .Add) gAdd := ⟨_, (op_add.or (op_add_str.or (op_catA.or op_cat))), fun x y μ H vx vy Q S rx ry q => by
  cases x <;> cases y <;> first
    | exact q.elim
    | (rw [rp_int rx, rp_int ry]; exact .inl ⟨_, _, rfl, rfl, (show Out (Rp X.K) X.K μ H Q _ μ from q) _ _ (Fr.refl μ H) S rfl⟩)
    | (rw [rp_str rx, rp_str ry]; exact .inr (.inl ⟨_, _, rfl, rfl, q.1, q.2 _ _ (Fr.refl μ H) S rfl⟩))
    | (rename_i xs ys
       obtain ⟨p, vs, e1, t1, r1⟩ := rp_tup rx
       obtain ⟨p', vs', e2, t2, r2⟩ := rp_tup ry
       subst e1 e2
       have q' : Out (Rp X.K) X.K μ H Q (.tup (xs ++ ys)) μ := q.2
       refine .inr (.inr (.inl ⟨p, p', vs, vs', rfl, rfl, t1, t2, by rw [r1.length, r2.length]; exact q.1, fun e => ?_, fun _ e => ?_, fun _ _ => out_tup S (r1.append r2) q'⟩))
       · have : xs = [] := List.eq_nil_of_length_eq_zero (by rw [← r1.length, e]; rfl)
         subst this
         exact q' _ _ (Fr.refl μ H) S ry
       · have : ys = [] := List.eq_nil_of_length_eq_zero (by rw [← r2.length, e]; rfl)
         subst this
         rw [List.append_nil] at q'
         exact q' _ _ (Fr.refl μ H) S rx)
    | (rename_i a b
       rw [rp_ob rx, rp_ob ry]
       rw [gAdd_ob] at q
       split at q
       · rename_i xs ys e1 e2
         obtain ⟨vs, h1, r1⟩ := S.lst e1
         obtain ⟨vs', h2, r2⟩ := S.lst e2
         exact .inr (.inr (.inr ⟨a, b, vs, vs', rfl, rfl, h1, h2, by rw [r1.length, r2.length]; exact q.1, out_lst S (r1.append r2) q.2⟩))
       · exact q.elim)⟩

/-! ### * of ints; list * int, tuple * int -/
/-- a product of a size that the model carries -/
def gMul : G2 := ⟨fun x y μ Q => match x, y with
    | .int i, .int j => IntMulOk i j ∧ Q (.int (i * j)) μ
    | .ob a, .int k => (match μ a with | some (.lst xs) => -(2 ^ 63) ≤ k ∧ k < 2 ^ 63 ∧ xs.length * k.toNat ≤ sizeLine ∧ ∀ p, μ p = none → Q (.ob p) (mset μ p (.lst (List.replicate k.toNat xs).flatten)) | _ => False)
    | _, _ => False, fun {x y μ Q Q'} hQ h => by
  cases x <;> cases y <;> first
    | exact ⟨h.1, hQ _ _ h.2⟩
    | (revert h; dsimp only; split
       · exact fun h => ⟨h.1, h.2.1, h.2.2.1, fun p hp => hQ _ _ (h.2.2.2 p hp)⟩
       · exact id)
    | exact h⟩
theorem gMul_int {i j : Int} {μ : Mu} {Q : PQ} : gMul.run (.int i) (.int j) μ Q = (IntMulOk i j ∧ Q (.int (i * j)) μ) := rfl
theorem gMul_ob {a : Addr} {k : Int} {μ : Mu} {Q : PQ} : gMul.run (.ob a) (.int k) μ Q = (match μ a with | some (.lst xs) => -(2 ^ 63) ≤ k ∧ k < 2 ^ 63 ∧ xs.length * k.toNat ≤ sizeLine ∧ ∀ p, μ p = none → Q (.ob p) (mset μ p (.lst (List.replicate k.toNat xs).flatten)) | _ => False) := rfl
theorem op_mulA : OpR X (binaryOp .Mult) (rI IntMulOk fun i j => .int (i * j)) := opI fun _ _ _ _ _ _ _ hc q => mul_int q hc
theorem Rps.rep {K : PySem.W.Frag} {H : Hp} {ds : List D} {vs : List V} (h : Rps K H ds vs) : ∀ n : Nat, Rps K H (List.replicate n ds).flatten (List.replicate n vs).flatten
  | 0 => by simp [Rps]
  | n + 1 => by
    simp only [List.replicate_succ, List.flatten_cons]
    exact h.append (Rps.rep h n)
theorem od_mul : OpD X (binaryOp .Mult) gMul := ⟨_, op_mulA.or op_rep, fun x y μ H vx vy Q S rx ry q => by
  cases x <;> cases y <;> first
    | exact q.elim
    | (rw [rp_int rx, rp_int ry]; exact .inl ⟨_, _, rfl, rfl, q.1, q.2 _ _ (Fr.refl μ H) S rfl⟩)
    | (rename_i a k
       rw [rp_ob rx, rp_int ry]
       rw [gMul_ob] at q
       split at q
       · rename_i xs e1
         obtain ⟨vs, h1, r1⟩ := S.lst e1
         exact .inr ⟨a, k, vs, rfl, rfl, h1, q.1, q.2.1, by rw [r1.length]; exact q.2.2.1, out_lst S (r1.rep k.toNat) q.2.2.2⟩
       · exact q.elim)⟩
theorem mulOk_l {i j : Int} (h1 : -(2 ^ 64) < i) (h2 : i < 2 ^ 64) : IntMulOk i j := .of_left (intBits_le_64 h1 h2)
theorem mulOk_r {i j : Int} (h1 : -(2 ^ 64) < j) (h2 : j < 2 ^ 64) : IntMulOk i j := .of_right (intBits_le_64 h1 h2)
theorem mulOk_w {i j : Int} {a b : Nat} (ha : i.natAbs < 2 ^ a) (hb : j.natAbs < 2 ^ b) (h0 : 0 < a) (h1 : 0 < b) (h : a + b ≤ 1000000) : IntMulOk i j := (wide_mul ha hb h0 h1 h).ok

/-! ### ** -/
def gPow : G2 := gI CPow fun i j => .int (i ^ j.toNat)
theorem od_pow : OpD X (binaryOp .Pow) gPow := od_int op_pow fun _ _ _ => rfl

/-! ### == and != -/
mutual
inductive DPy (μ : Mu) : D → PyData → Prop
  | non : DPy μ .non .none
  | bl (b : Bool) : DPy μ (.bl b) (.bool b)
  | int (i : Int) : DPy μ (.int i) (.int i)
  | str (x : Str) : DPy μ (.str x) (.str x)
  | tup {ds : List D} {ps : List PyData} : DPys μ ds ps → DPy μ (.tup ds) (.tuple ps)
  | lst {a : Addr} {ds : List D} {ps : List PyData} : μ a = some (.lst ds) → DPys μ ds ps → DPy μ (.ob a) (.list ps)
inductive DPys (μ : Mu) : List D → List PyData → Prop
  | nil : DPys μ [] []
  | cons {d : D} {ds : List D} {p : PyData} {ps : List PyData} : DPy μ d p → DPys μ ds ps → DPys μ (d :: ds) (p :: ps)
end
mutual
theorem DPy.dp {K : PySem.W.Frag} {μ : Mu} {H : Hp} (S : Sim K μ H) : ∀ {p : PyData} {d : D} {v : V}, DPy μ d p → Rp K H d v → Dp K H v p
  | _, _, _, .non, r => by rw [rp_non r]; exact .non
  | _, _, _, .bl b, r => by rw [rp_bl r]; exact .bl b
  | _, _, _, .int i, r => by rw [rp_int r]; exact .int i
  | _, _, _, .str x, r => by rw [rp_str r]; exact .str x
  | _, _, _, .tup h, r => by
    obtain ⟨p, vs, rfl, t, q⟩ := rp_tup r
    exact .tup t (DPys.dp S h q)
  | _, _, _, .lst e h, r => by
    rw [rp_ob r]
    obtain ⟨vs, h1, q⟩ := S.lst e
    exact .lst (SqL.of h1) (DPys.dp S h q)
theorem DPys.dp {K : PySem.W.Frag} {μ : Mu} {H : Hp} (S : Sim K μ H) : ∀ {ps : List PyData} {ds : List D} {vs : List V}, DPys μ ds ps → Rps K H ds vs → DpAll K H vs ps
  | _, _, _, .nil, r => by unfold Rps at r; subst r; exact .nil
  | _, _, _, .cons a b, r => by
    unfold Rps at r
    obtain ⟨w, ws, rfl, r1, r2⟩ := r
    exact .cons (DPy.dp S a r1) (DPys.dp S b r2)
end
/-- == of data -/
def EqP (x y : D) (μ : Mu) (Q : Bool → Prop) : Prop := ∃ d e, DPy μ x d ∧ DPy μ y e ∧ SeqAt.shaped d = true ∧ SeqAt.shaped e = true ∧ Q (PyData.eqv d e)
def EqB (x y : D) (μ : Mu) (Q : Bool → Prop) : Prop := match x, y with
  | .int i, .int j => Q (decide (i = j))
  | .str i, .str j => Q (decide (i = j))
  | .bl i, .bl j => Q (decide (i = j))
  | x, y => EqP x y μ Q
theorem EqP.mono {x y : D} {μ : Mu} {Q Q' : Bool → Prop} (h : ∀ b, Q b → Q' b) (q : EqP x y μ Q) : EqP x y μ Q' := by
  obtain ⟨d, e, h1, h2, h3, h4, q⟩ := q
  exact ⟨d, e, h1, h2, h3, h4, h _ q⟩
theorem EqB.mono {x y : D} {μ : Mu} {Q Q' : Bool → Prop} (h : ∀ b, Q b → Q' b) (q : EqB x y μ Q) : EqB x y μ Q' := by
  revert q
  unfold EqB
  split
  · exact h _
  · exact h _
  · exact h _
  · exact EqP.mono h
theorem EqB_int {i j : Int} {μ : Mu} {Q : Bool → Prop} : EqB (.int i) (.int j) μ Q = Q (decide (i = j)) := rfl
theorem EqB_str {i j : Str} {μ : Mu} {Q : Bool → Prop} : EqB (.str i) (.str j) μ Q = Q (decide (i = j)) := rfl
theorem EqB_bl {i j : Bool} {μ : Mu} {Q : Bool → Prop} : EqB (.bl i) (.bl j) μ Q = Q (decide (i = j)) := rfl
def gEq : G2 := ⟨fun x y μ Q => EqB x y μ fun b => Q (.bl b) μ, fun hQ h => h.mono fun _ q => hQ _ _ q⟩
def gNe : G2 := ⟨fun x y μ Q => EqB x y μ fun b => Q (.bl (!b)) μ, fun hQ h => h.mono fun _ q => hQ _ _ q⟩
theorem gEq_run {x y : D} {μ : Mu} {Q : PQ} : gEq.run x y μ Q = EqB x y μ fun b => Q (.bl b) μ := rfl
theorem gNe_run {x y : D} {μ : Mu} {Q : PQ} : gNe.run x y μ Q = EqB x y μ fun b => Q (.bl (!b)) μ := rfl
theorem dec_vint {i j : Int} : decide (V.int i = V.int j) = decide (i = j) := by simp
theorem dec_vstr {i j : Str} : decide (V.str i = V.str j) = decide (i = j) := by simp
theorem dec_vbl {i j : Bool} : decide (V.bl i = V.bl j) = decide (i = j) := by simp
theorem eqB_v {K : PySem.W.Frag} {x y : D} {μ : Mu} {H : Hp} {vx vy : V} {Q : Bool → Prop} (S : Sim K μ H) (rx : Rp K H x vx) (ry : Rp K H y vy) (q : EqB x y μ Q) :
    (scal vx vy = true ∧ Q (decide (vx = vy))) ∨ ∃ d e, Dp K H vx d ∧ Dp K H vy e ∧ SeqAt.shaped d = true ∧ SeqAt.shaped e = true ∧ Q (PyData.eqv d e) := by
  revert q
  unfold EqB
  split
  · intro q; rw [rp_int rx, rp_int ry]; exact .inl ⟨rfl, by rw [dec_vint]; exact q⟩
  · intro q; rw [rp_str rx, rp_str ry]; exact .inl ⟨rfl, by rw [dec_vstr]; exact q⟩
  · intro q; rw [rp_bl rx, rp_bl ry]; exact .inl ⟨rfl, by rw [dec_vbl]; exact q⟩
  · rintro ⟨d, e, h1, h2, h3, h4, q⟩
    exact .inr ⟨d, e, h1.dp S rx, h2.dp S ry, h3, h4, q⟩
theorem od_eq (hu : X.A.units + 64 < cLine) : OpD X (compareOp .Eq) gEq := ⟨_, op_eq.or (op_eqD hu), fun x y μ H vx vy Q S rx ry q => by
  rcases eqB_v (Q := fun b => Out (Rp X.K) X.K μ H Q (.bl b) μ) S rx ry q with ⟨h, q⟩ | ⟨d, e, h1, h2, h3, h4, q⟩
  · exact .inl ⟨h, q _ _ (Fr.refl μ H) S rfl⟩
  · exact .inr ⟨d, e, h1, h2, h3, h4, q _ _ (Fr.refl μ H) S rfl⟩⟩
theorem od_ne (hu : X.A.units + 64 < cLine) : OpD X (compareOp .NotEq) gNe := ⟨_, op_ne.or (op_neD hu), fun x y μ H vx vy Q S rx ry q => by
  rcases eqB_v (Q := fun b => Out (Rp X.K) X.K μ H Q (.bl (!b)) μ) S rx ry q with ⟨h, q⟩ | ⟨d, e, h1, h2, h3, h4, q⟩
  · exact .inl ⟨h, q _ _ (Fr.refl μ H) S rfl⟩
  · exact .inr ⟨d, e, h1, h2, h3, h4, q _ _ (Fr.refl μ H) S rfl⟩⟩
end
end Sq

/-! Truth, tests, displays, items, slices, calls. -/
namespace Sq
open PySem PySem.Spec PyProof.Rows L2
section
variable {X : Cx} {Wx : WX}
/-! ### unary -/
structure G1 where
  run : D → Mu → PQ → Prop
  mono : ∀ {x μ Q Q'}, (∀ d μ', Q d μ' → Q' d μ') → run x μ Q → run x μ Q'
def wNeg (a : WE) : WE := ⟨fun ρ μ Q X => a.run ρ μ (fun x μ1 => match x with | .int i => Q (.int (-i)) μ1 | _ => False) X, fun hQ hX h => a.mono (fun x _ h => by cases x <;> first | exact hQ _ _ h | exact h) hX h⟩
theorem wNeg_run {a : WE} {ρ : Ev} {μ : Mu} {Q : PQ} {X : XQ} : (wNeg a).run ρ μ Q X = a.run ρ μ (fun x μ1 => match x with | .int i => Q (.int (-i)) μ1 | _ => False) X := rfl
theorem le_neg {a : Expr} {wa : WE} {pos : Pos} (ha : LE X Wx a wa) : LE X Wx (.UnaryOp .USub a pos) (wNeg wa) :=
  PE.weak (pe_un un_neg ha) fun σ H Q ⟨ρ, μ, E, S, h⟩ => by
    refine lW.bind E S h (fun x μ1 v H1 F1 S1 E1 r1 h1 => ?_) fun _ _ _ h => h
    cases x <;> first
      | exact h1.elim
      | (rw [rp_int r1]; exact ⟨_, rfl, (show Out (Rp X.K) X.K μ H Q _ μ1 from h1) _ _ F1 S1 rfl⟩)
def wNotV (a : WE) : WE := ⟨fun ρ μ Q X => a.run ρ μ (fun x μ1 => onBl x fun k => Q (.bl (!k)) μ1) X, fun hQ hX h => a.mono (fun x _ h => onBl_mono (fun k h => hQ _ _ h) h) hX h⟩
theorem wNotV_run {a : WE} {ρ : Ev} {μ : Mu} {Q : PQ} {X : XQ} : (wNotV a).run ρ μ Q X = a.run ρ μ (fun x μ1 => onBl x fun k => Q (.bl (!k)) μ1) X := rfl
theorem le_not {a : Expr} {wa : WE} {pos : Pos} (ha : LE X Wx a wa) : LE X Wx (.UnaryOp .Not a pos) (wNotV wa) :=
  PE.weak (pe_not ha) fun σ H Q ⟨ρ, μ, E, S, h⟩ => by
    refine lW.bind E S h (fun x μ1 v H1 F1 S1 E1 r1 h1 => ?_) fun _ _ _ h => h
    obtain ⟨k, e, q⟩ := onBl_v r1 h1
    exact ⟨k, e, (show Out (Rp X.K) X.K μ H Q _ μ1 from q) _ _ F1 S1 rfl⟩
/-! ### and, or as values -/
def wAndV (a b : WE) : WE := ⟨fun ρ μ Q X => a.run ρ μ (fun x μ1 => onBl x fun k => if k = true then b.run ρ μ1 Q X else Q (.bl false) μ1) X, fun hQ hX h => a.mono (fun x _ h => onBl_mono (fun k h => by
  cases k with
  | true => exact b.mono hQ hX h
  | false => exact hQ _ _ h) h) hX h⟩
def wOrV (a b : WE) : WE := ⟨fun ρ μ Q X => a.run ρ μ (fun x μ1 => onBl x fun k => if k = true then Q (.bl true) μ1 else b.run ρ μ1 Q X) X, fun hQ hX h => a.mono (fun x _ h => onBl_mono (fun k h => by
  cases k with
  | true => exact hQ _ _ h
  | false => exact b.mono hQ hX h) h) hX h⟩
theorem wAndV_run {a b : WE} {ρ : Ev} {μ : Mu} {Q : PQ} {X : XQ} : (wAndV a b).run ρ μ Q X = a.run ρ μ (fun x μ1 => onBl x fun k => if k = true then b.run ρ μ1 Q X else Q (.bl false) μ1) X := rfl
theorem wOrV_run {a b : WE} {ρ : Ev} {μ : Mu} {Q : PQ} {X : XQ} : (wOrV a b).run ρ μ Q X = a.run ρ μ (fun x μ1 => onBl x fun k => if k = true then Q (.bl true) μ1 else b.run ρ μ1 Q X) X := rfl
theorem le_one {op} {a : Expr} {pos : Pos} {wa : WE} (h : LE X Wx a wa) : LE X Wx (.BoolOp op [a] pos) wa := pe_one h
theorem le_and {a b : Expr} {rest : List Expr} {pos : Pos} {wa wb : WE} (ha : LE X Wx a wa) (hb : LE X Wx (.BoolOp .And (b :: rest) pos) wb) : LE X Wx (.BoolOp .And (a :: b :: rest) pos) (wAndV wa wb) :=
  PE.weak (pe_and ha hb) fun σ H Q ⟨ρ, μ, E, S, h⟩ => by
    refine lW.bind E S h (fun x μ1 v H1 F1 S1 E1 r1 h1 => ?_) fun _ _ _ h => h
    obtain ⟨k, e, q⟩ := onBl_v r1 h1
    refine ⟨k, e, ?_⟩
    cases k with
    | true => exact iteT (lW.bind E1 S1 q (fun y μ2 u H2 F2 S2 E2 r2 q2 => q2 _ _ (F1.trans F2) S2 r2) fun _ _ _ h => h.trans F1)
    | false => exact iteF ((show Out (Rp X.K) X.K μ H Q (.bl false) μ1 from q) _ _ F1 S1 rfl)
theorem le_or {a b : Expr} {rest : List Expr} {pos : Pos} {wa wb : WE} (ha : LE X Wx a wa) (hb : LE X Wx (.BoolOp .Or (b :: rest) pos) wb) : LE X Wx (.BoolOp .Or (a :: b :: rest) pos) (wOrV wa wb) :=
  PE.weak (pe_or ha hb) fun σ H Q ⟨ρ, μ, E, S, h⟩ => by
    refine lW.bind E S h (fun x μ1 v H1 F1 S1 E1 r1 h1 => ?_) fun _ _ _ h => h
    obtain ⟨k, e, q⟩ := onBl_v r1 h1
    refine ⟨k, e, ?_⟩
    cases k with
    | true => exact iteT ((show Out (Rp X.K) X.K μ H Q (.bl true) μ1 from q) _ _ F1 S1 rfl)
    | false => exact iteF (lW.bind E1 S1 q (fun y μ2 u H2 F2 S2 E2 r2 q2 => q2 _ _ (F1.trans F2) S2 r2) fun _ _ _ h => h.trans F1)

/-! ### tests -/
def wTB (a : WE) : WT := ⟨fun ρ μ Q X => a.run ρ μ (fun x μ1 => onBl x fun k => Q k μ1) X, fun hQ hX h => a.mono (fun x _ h => onBl_mono (fun k h => hQ _ _ h) h) hX h⟩
theorem wTB_run {a : WE} {ρ : Ev} {μ : Mu} {Q : Bool → Mu → Prop} {X : XQ} : (wTB a).run ρ μ Q X = a.run ρ μ (fun x μ1 => onBl x fun k => Q k μ1) X := rfl
theorem wTB_t {a : WE} : ∀ σ H Q, lT X.K Wx (wTB a) σ H Q → tB (lE X.K Wx a) σ H Q := fun σ H Q ⟨ρ, μ, E, S, h⟩ => by
  refine lW.bind E S h (fun x μ1 v H1 F1 S1 E1 r1 h1 => ?_) fun _ _ _ h => h
  obtain ⟨k, e, q⟩ := onBl_v r1 h1
  exact ⟨k, e, (show Out (fun (_ : Hp) (b c : Bool) => b = c) X.K μ H Q k μ1 from q) _ _ F1 S1 rfl⟩
/-- a call, a name, a constant, .. that gives a bool -/
theorem lt_val {e : Expr} {w : WE} (h : LE X Wx e w) (he : ∀ whole, isTrue e X.env whole = (do let v ← whole; standAt e.pos; holding [v] (truthy v)) := by intro _; rfl) : LT X Wx e (wTB w) := PT.weak (pt_val h he) wTB_t
theorem lt_cmp {op : CmpOp} {a b : Expr} {pos : Pos} {g : G2} {wa wb : WE} (ho : OpD X (compareOp op) g) (ha : LE X Wx a wa) (hb : LE X Wx b wb) (hm : behindInMarks op b = false := by first | exact nomark _ | rfl) : LT X Wx (.Compare a [op] [b] pos) (wTB (wOp g wa wb)) := by
  obtain ⟨r, h1, h2⟩ := ho
  refine PT.weak (pt_cmpR h1 ha hb hm) fun σ H Q h => ?_
  exact wOp_t (f := compareOp op) h2 σ H _ (wTB_t σ H Q h)
theorem wChain_t {op op' : CmpOp} {r r' : R2} {g g' : G2} {wa wb wc : WE} (h2 : ∀ x y μ H vx vy Q, Sim X.K μ H → Rp X.K H x vx → Rp X.K H y vy → g.run x y μ (Out (Rp X.K) X.K μ H Q) → r vx vy H Q)
    (h2' : ∀ x y μ H vx vy Q, Sim X.K μ H → Rp X.K H x vx → Rp X.K H y vy → g'.run x y μ (Out (Rp X.K) X.K μ H Q) → r' vx vy H Q) : ∀ σ H Q, lE X.K Wx (wChain g g' wa wb wc) σ H Q → tChain r r' (lE X.K Wx wa) (lE X.K Wx wb) (lE X.K Wx wc) σ H Q := fun σ H Q ⟨ρ, μ, E, S, h⟩ => by
  refine lW.bind E S h (fun x μ1 v H1 F1 S1 E1 r1 h1 => ?_) fun _ _ _ h => h
  refine lW.bind E1 S1 h1 (fun y μ2 u H2 F2 S2 E2 r2 h2a => ?_) fun _ _ _ h => h.trans F1
  refine h2 x y μ2 H2 v u _ S2 (Rp.keep S1 F2 x r1) r2 (g.mono (fun z μ3 q z' H3 F3 S3 r3 => ?_) h2a)
  obtain ⟨k, e, q⟩ := onBl_v r3 q
  refine ⟨k, e, ?_⟩
  cases k with
  | false => exact iteF ((show Out (Rp X.K) X.K μ H Q (.bl false) μ3 from q) _ _ (F1.trans (F2.trans F3)) S3 rfl)
  | true =>
    refine iteT (lW.bind (E2.keep S2 F3) S3 q (fun t μ4 w H4 F4 S4 E4 r4 h4 => ?_) fun _ _ _ h => h.trans (F1.trans (F2.trans F3)))
    exact h2' y t μ4 H4 u w Q S4 (Rp.keep S3 F4 y (Rp.keep S2 F3 y r2)) r4 (g'.mono (fun _ _ q => q.trans (F1.trans (F2.trans (F3.trans F4)))) h4)
theorem lt_chain {op op' : CmpOp} {a b c : Expr} {pos : Pos} {g g' : G2} {wa wb wc : WE} (ho : OpD X (compareOp op) g) (ho' : OpD X (compareOp op') g') (ha : LE X Wx a wa) (hb : LE X Wx b wb) (hc : LE X Wx c wc)
    (hm : lastMarks [op, op'] [b, c] = false := by with_unfolding_all rfl) : LT X Wx (.Compare a [op, op'] [b, c] pos) (wTB (wChain g g' wa wb wc)) := by
  obtain ⟨r, h1, h2⟩ := ho
  obtain ⟨r', h1', h2'⟩ := ho'
  exact PT.weak (pt_chain h1 h1' ha hb hc hm) fun σ H Q h => wChain_t (op := op) (op' := op') h2 h2' σ H _ (wTB_t σ H Q h)
def wNotT (a : WT) : WT := ⟨fun ρ μ Q X => a.run ρ μ (fun k μ1 => Q (!k) μ1) X, fun hQ hX h => a.mono (fun _ _ h => hQ _ _ h) hX h⟩
theorem wNotT_run {a : WT} {ρ : Ev} {μ : Mu} {Q : Bool → Mu → Prop} {X : XQ} : (wNotT a).run ρ μ Q X = a.run ρ μ (fun k μ1 => Q (!k) μ1) X := rfl
theorem lt_not {a : Expr} {pos : Pos} {wa : WT} (ha : LT X Wx a wa) : LT X Wx (.UnaryOp .Not a pos) (wNotT wa) := PT.weak (pt_not ha) fun σ H Q ⟨ρ, μ, E, S, h⟩ => by
  refine lW.bind E S h (fun x μ1 v H1 F1 S1 E1 r1 h1 => ?_) fun _ _ _ h => h
  subst r1
  exact h1 _ _ F1 S1 rfl
def wAndT (a b : WT) : WT := ⟨fun ρ μ Q X => a.run ρ μ (fun k μ1 => if k = true then b.run ρ μ1 Q X else Q false μ1) X, fun hQ hX h => a.mono (fun k _ h => by
  cases k with
  | true => exact b.mono hQ hX h
  | false => exact hQ _ _ h) hX h⟩
def wOrT (a b : WT) : WT := ⟨fun ρ μ Q X => a.run ρ μ (fun k μ1 => if k = true then Q true μ1 else b.run ρ μ1 Q X) X, fun hQ hX h => a.mono (fun k _ h => by
  cases k with
  | true => exact hQ _ _ h
  | false => exact b.mono hQ hX h) hX h⟩
theorem wAndT_run {a b : WT} {ρ : Ev} {μ : Mu} {Q : Bool → Mu → Prop} {X : XQ} : (wAndT a b).run ρ μ Q X = a.run ρ μ (fun k μ1 => if k = true then b.run ρ μ1 Q X else Q false μ1) X := rfl
theorem wOrT_run {a b : WT} {ρ : Ev} {μ : Mu} {Q : Bool → Mu → Prop} {X : XQ} : (wOrT a b).run ρ μ Q X = a.run ρ μ (fun k μ1 => if k = true then Q true μ1 else b.run ρ μ1 Q X) X := rfl
def LW (X : Cx) (Wx : WX) (e : Expr) (w : WT) : Prop := PW X e (lT X.K Wx w)
theorem LW.lt {e : Expr} {w : WT} (h : LW X Wx e w) : LT X Wx e w := PW.pt h
theorem lw_and1 {a : Expr} {pos : Pos} {wa : WT} (ha : LT X Wx a wa) : LW X Wx (.BoolOp .And [a] pos) wa := pw_and1 ha
theorem lw_or1 {a : Expr} {pos : Pos} {wa : WT} (ha : LT X Wx a wa) : LW X Wx (.BoolOp .Or [a] pos) wa := pw_or1 ha
theorem lw_and {a b : Expr} {rest : List Expr} {pos : Pos} {wa wb : WT} (ha : LT X Wx a wa) (hb : LW X Wx (.BoolOp .And (b :: rest) pos) wb) : LW X Wx (.BoolOp .And (a :: b :: rest) pos) (wAndT wa wb) :=
  PW.weak (pw_and ha hb) fun σ H Q ⟨ρ, μ, E, S, h⟩ => by
    refine lW.bind E S h (fun x μ1 v H1 F1 S1 E1 r1 h1 => ?_) fun _ _ _ h => h
    subst r1
    cases x with
    | true => exact iteT (lW.bind E1 S1 h1 (fun y μ2 u H2 F2 S2 E2 r2 q2 => q2 _ _ (F1.trans F2) S2 r2) fun _ _ _ h => h.trans F1)
    | false => exact iteF (h1 _ _ F1 S1 rfl)
theorem lw_or {a b : Expr} {rest : List Expr} {pos : Pos} {wa wb : WT} (ha : LT X Wx a wa) (hb : LW X Wx (.BoolOp .Or (b :: rest) pos) wb) : LW X Wx (.BoolOp .Or (a :: b :: rest) pos) (wOrT wa wb) :=
  PW.weak (pw_or ha hb) fun σ H Q ⟨ρ, μ, E, S, h⟩ => by
    refine lW.bind E S h (fun x μ1 v H1 F1 S1 E1 r1 h1 => ?_) fun _ _ _ h => h
    subst r1
    cases x with
    | true => exact iteT (h1 _ _ F1 S1 rfl)
    | false => exact iteF (lW.bind E1 S1 h1 (fun y μ2 u H2 F2 S2 E2 r2 q2 => q2 _ _ (F1.trans F2) S2 r2) fun _ _ _ h => h.trans F1)
def wIfE (c : WT) (a b : WE) : WE := ⟨fun ρ μ Q X => c.run ρ μ (fun k μ1 => if k = true then a.run ρ μ1 Q X else b.run ρ μ1 Q X) X, fun hQ hX h => c.mono (fun k _ h => by
  cases k with
  | true => exact a.mono hQ hX h
  | false => exact b.mono hQ hX h) hX h⟩
theorem wIfE_run {c : WT} {a b : WE} {ρ : Ev} {μ : Mu} {Q : PQ} {X : XQ} : (wIfE c a b).run ρ μ Q X = c.run ρ μ (fun k μ1 => if k = true then a.run ρ μ1 Q X else b.run ρ μ1 Q X) X := rfl
theorem le_ifE {c a b : Expr} {pos : Pos} {wc : WT} {wa wb : WE} (hc : LT X Wx c wc) (ha : LE X Wx a wa) (hb : LE X Wx b wb) : LE X Wx (.IfExp c a b pos) (wIfE wc wa wb) :=
  PE.weak (pe_ifExp hc ha hb) fun σ H Q ⟨ρ, μ, E, S, h⟩ => by
    refine lW.bind E S h (fun x μ1 v H1 F1 S1 E1 r1 h1 => ?_) fun _ _ _ h => h
    subst r1
    cases x with
    | true => exact iteT (lW.bind E1 S1 h1 (fun y μ2 u H2 F2 S2 E2 r2 q2 => q2 _ _ (F1.trans F2) S2 r2) fun _ _ _ h => h.trans F1)
    | false => exact iteF (lW.bind E1 S1 h1 (fun y μ2 u H2 F2 S2 E2 r2 q2 => q2 _ _ (F1.trans F2) S2 r2) fun _ _ _ h => h.trans F1)

/-! ### argument lists, displays -/
def runAll : List WE → Ev → Mu → (List D → Mu → Prop) → XQ → Prop
  | [], _, μ, Q, _ => Q [] μ
  | w :: ws, ρ, μ, Q, X => w.run ρ μ (fun d μ1 => runAll ws ρ μ1 (fun ds μ2 => Q (d :: ds) μ2) X) X
theorem runAll_nil {ρ : Ev} {μ : Mu} {Q : List D → Mu → Prop} {X : XQ} : runAll [] ρ μ Q X = Q [] μ := rfl
theorem runAll_cons {w : WE} {ws : List WE} {ρ : Ev} {μ : Mu} {Q : List D → Mu → Prop} {X : XQ} : runAll (w :: ws) ρ μ Q X = w.run ρ μ (fun d μ1 => runAll ws ρ μ1 (fun ds μ2 => Q (d :: ds) μ2) X) X := rfl
theorem runAll_mono : ∀ {ws : List WE} {ρ : Ev} {μ : Mu} {Q Q' : List D → Mu → Prop} {X X' : XQ}, (∀ d μ', Q d μ' → Q' d μ') → (∀ C d μ', X C d μ' → X' C d μ') → runAll ws ρ μ Q X → runAll ws ρ μ Q' X'
  | [], _, _, _, _, _, _, hQ, _, h => hQ _ _ h
  | w :: ws, _, _, _, _, _, _, hQ, hX, h => w.mono (fun _ _ h => runAll_mono (ws := ws) (fun _ _ h => hQ _ _ h) hX h) hX h
theorem runAll_len : ∀ {ws : List WE} {ρ : Ev} {μ : Mu} {Q : List D → Mu → Prop} {X : XQ}, runAll ws ρ μ Q X → runAll ws ρ μ (fun ds μ1 => ds.length = ws.length ∧ Q ds μ1) X
  | [], _, _, _, _, h => ⟨rfl, h⟩
  | w :: ws, _, _, _, _, h => w.mono (fun _ _ h => runAll_mono (ws := ws) (fun ds _ h => ⟨by rw [List.length_cons, h.1]; rfl, h.2⟩) (fun _ _ _ h => h) (runAll_len h)) (fun _ _ _ h => h) h
def wArgs (ws : List WE) : WA := ⟨runAll ws, runAll_mono⟩
def LAs (X : Cx) (Wx : WX) (es : List Expr) (ws : List WE) : Prop := PA X es (lA X.K Wx (wArgs ws))
theorem la_nil : LAs X Wx [] [] := PA.weak pa_nil fun σ H Q ⟨ρ, μ, E, S, h⟩ => (show Out (Rps X.K) X.K μ H Q [] μ from h) _ _ (Fr.refl μ H) S rfl
theorem la_cons {e : Expr} {es : List Expr} {w : WE} {ws : List WE} (ha : LE X Wx e w) (hr : LAs X Wx es ws) (hs : starEach (e :: es) X.env = (false, eval e X.env) :: starEach es X.env := by rfl) : LAs X Wx (e :: es) (w :: ws) :=
  PA.weak (pa_cons ha hr hs) fun σ H Q ⟨ρ, μ, E, S, h⟩ => by
    refine lW.bind (w := w) E S h (fun x μ1 v H1 F1 S1 E1 r1 h1 => ?_) fun _ _ _ h => h
    refine lW.bind (w := wArgs ws) E1 S1 h1 (fun xs μ2 vs H2 F2 S2 E2 r2 h2 => ?_) fun _ _ _ h => h.trans F1
    exact h2 _ _ (F1.trans F2) S2 (by unfold Rps; exact ⟨_, _, rfl, Rp.keep S1 F2 x r1, r2⟩)
def wTup (ws : List WE) : WE := ⟨fun ρ μ Q X => runAll ws ρ μ (fun ds μ1 => Q (.tup ds) μ1) X, fun hQ hX h => runAll_mono (fun _ _ h => hQ _ _ h) hX h⟩
def wLst (ws : List WE) : WE := ⟨fun ρ μ Q X => runAll ws ρ μ (fun ds μ1 => ∀ p, μ1 p = none → Q (.ob p) (mset μ1 p (.lst ds))) X, fun hQ hX h => runAll_mono (fun _ _ h p hp => hQ _ _ (h p hp)) hX h⟩
theorem wTup_run {ws : List WE} {ρ : Ev} {μ : Mu} {Q : PQ} {X : XQ} : (wTup ws).run ρ μ Q X = runAll ws ρ μ (fun ds μ1 => Q (.tup ds) μ1) X := rfl
theorem wLst_run {ws : List WE} {ρ : Ev} {μ : Mu} {Q : PQ} {X : XQ} : (wLst ws).run ρ μ Q X = runAll ws ρ μ (fun ds μ1 => ∀ p, μ1 p = none → Q (.ob p) (mset μ1 p (.lst ds))) X := rfl
theorem le_tup {es : List Expr} {x1 pos} {ws : List WE} (h : LAs X Wx es ws) (hl : ws.length ≤ 1000 := by decide) : LE X Wx (.Tuple es x1 pos) (wTup ws) := PE.weak (pe_tup h) fun σ H Q ⟨ρ, μ, E, S, h⟩ => by
  refine lW.bind (w := wArgs ws) E S (runAll_len h) (fun xs μ1 vs H1 F1 S1 E1 r1 h1 => ⟨?_, ?_⟩) fun _ _ _ h => h
  · rw [r1.length, h1.1]
    exact Nat.le_trans hl (by rw [sizeLine_eq]; decide)
  · exact out_tup S1 r1 (h1.2.trans F1)
theorem le_lst {es : List Expr} {pos} {ws : List WE} (h : LAs X Wx es ws) (hl : ws.length ≤ 1000 := by decide) : LE X Wx (.List es pos) (wLst ws) := PE.weak (pe_lst h) fun σ H Q ⟨ρ, μ, E, S, h⟩ => by
  refine lW.bind (w := wArgs ws) E S (runAll_len h) (fun xs μ1 vs H1 F1 S1 E1 r1 h1 => ⟨?_, ?_⟩) fun _ _ _ h => h
  · rw [r1.length, h1.1]
    exact Nat.le_trans hl (by rw [sizeLine_eq]; decide)
  · exact out_lst S1 r1 fun p hp => (h1.2 p hp).trans F1

/-! ### items -/
def gIx : G2 := ⟨fun x y μ Q => match x, y with
    | .tup ds, .int i => (match atI ds i with | some d => Q d μ | none => False)
    | .ob a, .int i => (match μ a with | some (.lst ds) => (match atI ds i with | some d => Q d μ | none => False) | _ => False)
    | .rls ds, .int i => (match atI ds i with | some d => Q d μ | none => False)
    | .str s, .int i => (match atI s.cps.toList i with | some c => s.length ≤ sizeLine ∧ Q (.str ⟨#[c]⟩) μ | none => False)
    | _, _ => False, fun {x y μ Q Q'} hQ h => by
  cases x <;> cases y <;> first
    | (revert h; dsimp only; split <;> first | exact hQ _ _ | exact id | exact fun h => ⟨h.1, hQ _ _ h.2⟩ | (split <;> first | exact hQ _ _ | exact id))
    | exact h⟩
theorem gIx_tup {ds : List D} {i : Int} {μ : Mu} {Q : PQ} : gIx.run (.tup ds) (.int i) μ Q = (match atI ds i with | some d => Q d μ | none => False) := rfl
theorem gIx_rls {ds : List D} {i : Int} {μ : Mu} {Q : PQ} : gIx.run (.rls ds) (.int i) μ Q = (match atI ds i with | some d => Q d μ | none => False) := rfl
theorem gIx_ob {a : Addr} {i : Int} {μ : Mu} {Q : PQ} : gIx.run (.ob a) (.int i) μ Q = (match μ a with | some (.lst ds) => (match atI ds i with | some d => Q d μ | none => False) | _ => False) := rfl
theorem gIx_str {s : Str} {i : Int} {μ : Mu} {Q : PQ} : gIx.run (.str s) (.int i) μ Q = (match atI s.cps.toList i with | some c => s.length ≤ sizeLine ∧ Q (.str ⟨#[c]⟩) μ | none => False) := rfl
theorem Rps.atI {K : PySem.W.Frag} {H : Hp} {ds : List D} {vs : List V} {i : Int} {d : D} (h : Rps K H ds vs) (e : L2.atI ds i = some d) : ∃ v, L2.atI vs i = some v ∧ Rp K H d v := by
  unfold L2.atI at e ⊢
  rw [h.length]
  cases q : ixN ds.length i with
  | none => rw [q] at e; cases e
  | some j =>
    rw [q] at e
    obtain ⟨v, h1, h2⟩ := h.get (show ds[j]? = some d from e)
    exact ⟨v, h1, h2⟩
theorem ix_d {X : Cx} : ∃ r : R2, IxR X r ∧ ∀ x y μ H vx vy Q, Sim X.K μ H → Rp X.K H x vx → Rp X.K H y vy → gIx.run x y μ (Out (Rp X.K) X.K μ H Q) → r vx vy H Q := ⟨_, ix_seq, fun x y μ H vx vy Q S rx ry q => by
    cases x <;> cases y <;> first
      | exact q.elim
      | (rename_i ds i
         rw [gIx_tup] at q
         split at q
         · rename_i d e
           obtain ⟨p, vs, e1, t, r⟩ := rp_tup rx
           subst e1
           rw [rp_int ry]
           obtain ⟨v, h1, h2⟩ := r.atI e
           exact .inr (.inl ⟨p, vs, i, v, rfl, rfl, t, h1, q _ _ (Fr.refl μ H) S h2⟩)
         · exact q.elim)
      | (rename_i ds i
         rw [gIx_rls] at q
         split at q
         · rename_i d e
           obtain ⟨p, vs, e1, t, r⟩ := rp_rls rx
           subst e1
           rw [rp_int ry]
           obtain ⟨v, h1, h2⟩ := r.atI e
           exact .inl ⟨p, vs, i, v, rfl, rfl, t.l, h1, q _ _ (Fr.refl μ H) S h2⟩
         · exact q.elim)
      | (rename_i a i
         rw [gIx_ob] at q
         split at q
         · rename_i ds e0
           split at q
           · rename_i d e
             rw [rp_ob rx, rp_int ry]
             obtain ⟨vs, h0, r⟩ := S.lst e0
             obtain ⟨v, h1, h2⟩ := r.atI e
             exact .inl ⟨a, vs, i, v, rfl, rfl, SqL.of h0, h1, q _ _ (Fr.refl μ H) S h2⟩
           · exact q.elim
         · exact q.elim)
      | (rename_i s i
         rw [gIx_str] at q
         split at q
         · rename_i c e
           rw [rp_str rx, rp_int ry]
           exact .inr (.inr ⟨s, i, c, rfl, rfl, q.1, e, q.2 _ _ (Fr.refl μ H) S rfl⟩)
         · exact q.elim)⟩
theorem le_ix {a b : Expr} {pos : Pos} {wa wb : WE} (ha : LE X Wx a wa) (hb : LE X Wx b wb) (hs : PlainIx b := by exact fun _ _ => rfl) : LE X Wx (.Subscript a b pos) (wOp gIx wa wb) := by
  obtain ⟨r, h1, h2⟩ := ix_d (X := X)
  exact PE.weak (pe_ix h1 ha hb hs) (wOp_t (f := fun _ _ => pure .none) h2)
end
end Sq

/-! Calls. -/
namespace Sq
open PySem PySem.Spec PyProof.Rows L2
section
variable {X : Cx} {Wx : WX}
/-! ### built-ins by values -/
structure GN where
  run : List D → Mu → PQ → Prop
  mono : ∀ {ds μ Q Q'}, (∀ d μ', Q d μ' → Q' d μ') → run ds μ Q → run ds μ Q'
def CallD (X : Cx) (f : Value) (g : GN) : Prop := ∃ r : List V → Hp → VK → Prop, CallR X f r ∧ ∀ ds μ H vs Q, Sim X.K μ H → Rps X.K H ds vs → g.run ds μ (Out (Rp X.K) X.K μ H Q) → r vs H Q
def wB (g : GN) (ws : List WE) : WE := ⟨fun ρ μ Q X => runAll ws ρ μ (fun ds μ1 => g.run ds μ1 Q) X, fun hQ hX h => runAll_mono (fun _ _ h => g.mono hQ h) hX h⟩
theorem wB_run {g : GN} {ws : List WE} {ρ : Ev} {μ : Mu} {Q : PQ} {X : XQ} : (wB g ws).run ρ μ Q X = runAll ws ρ μ (fun ds μ1 => g.run ds μ1 Q) X := rfl
theorem wB_t {g : GN} {ws : List WE} {r : List V → Hp → VK → Prop} (h : ∀ ds μ H vs Q, Sim X.K μ H → Rps X.K H ds vs → g.run ds μ (Out (Rp X.K) X.K μ H Q) → r vs H Q) :
    ∀ σ H Q, lE X.K Wx (wB g ws) σ H Q → tCB r (lA X.K Wx (wArgs ws)) σ H Q := fun σ H Q ⟨ρ, μ, E, S, h1⟩ => by
  refine lW.bind (w := wArgs ws) E S h1 (fun xs μ1 vs H1 F1 S1 E1 r1 q1 => ?_) fun _ _ _ h => h
  exact h xs μ1 H1 vs Q S1 r1 (g.mono (fun _ _ q => q.trans F1) q1)
theorem le_callB {g : GN} {id : String} {x : Str} {p pos : Pos} {e : Expr} {es : List Expr} {ws : List WE} (hc : CallD X (.builtin id) g) (hm : X.mg x = none) (hv : bootBuiltins x = some (.builtin id)) (ha : LAs X Wx (e :: es) ws)
    (hg : Gl X x := by rfl) (hn : x ≠ "__name__" := by decide) (hdb : (x == ("__debug__" : Str)) = false := by decide)
    (he : starEach (e :: es) X.env = (false, eval e X.env) :: starEach es X.env := by rfl) (hpl : (backTo pos (starEach es X.env)).any (·.1) = false := by rfl) : LE X Wx (.Call (.Name x p) (e :: es) [] pos) (wB g ws) := by
  obtain ⟨r, h1, h2⟩ := hc
  exact PE.weak (pe_callB h1 hg hm hv ha hn hdb he hpl) (wB_t h2)
theorem le_callTy {g : GN} {T : String} {x : Str} {p pos : Pos} {e : Expr} {es : List Expr} {ws : List WE} (hc : CallD X (.type T) g) (hm : X.mg x = none) (hv : bootBuiltins x = some (.type T)) (ha : LAs X Wx (e :: es) ws)
    (hg : Gl X x := by rfl) (hn : x ≠ "__name__" := by decide) (hdb : (x == ("__debug__" : Str)) = false := by decide)
    (he : starEach (e :: es) X.env = (false, eval e X.env) :: starEach es X.env := by rfl) (hpl : (backTo pos (starEach es X.env)).any (·.1) = false := by rfl) : LE X Wx (.Call (.Name x p) (e :: es) [] pos) (wB g ws) := by
  obtain ⟨r, h1, h2⟩ := hc
  exact PE.weak (pe_callTy h1 hg hm hv ha hn hdb he hpl) (wB_t h2)

theorem rps1 {K : PySem.W.Frag} {H : Hp} {d : D} {vs : List V} (h : Rps K H [d] vs) : ∃ v, vs = [v] ∧ Rp K H d v := by
  unfold Rps at h
  obtain ⟨w, ws, rfl, a, b⟩ := h
  unfold Rps at b
  subst b
  exact ⟨w, rfl, a⟩
theorem rps2 {K : PySem.W.Frag} {H : Hp} {d e : D} {vs : List V} (h : Rps K H [d, e] vs) : ∃ v u, vs = [v, u] ∧ Rp K H d v ∧ Rp K H e u := by
  unfold Rps at h
  obtain ⟨w, ws, rfl, a, b⟩ := h
  obtain ⟨u, rfl, c⟩ := rps1 b
  exact ⟨w, u, rfl, a, c⟩
/-- a built-in of one argument -/
def g1 (f : D → Mu → PQ → Prop) (hf : ∀ {x μ Q Q'}, (∀ d μ', Q d μ' → Q' d μ') → f x μ Q → f x μ Q') : GN := ⟨fun ds μ Q => match ds with | [x] => f x μ Q | _ => False, fun {ds μ Q Q'} hQ h => by
  match ds, h with
  | [x], h => exact hf hQ h
  | [], h => exact h
  | _ :: _ :: _, h => exact h⟩
theorem g1_run {f : D → Mu → PQ → Prop} {hf : ∀ {x μ Q Q'}, (∀ d μ', Q d μ' → Q' d μ') → f x μ Q → f x μ Q'} {x : D} {μ : Mu} {Q : PQ} : (g1 f hf).run [x] μ Q = f x μ Q := rfl
theorem cd1 {fn : Value} {g : GN} {f : D → Mu → PQ → Prop} {r : List V → Hp → VK → Prop} (hr : CallR X fn r) (hg : ∀ ds μ Q, g.run ds μ Q = (match ds with | [x] => f x μ Q | _ => False))
    (h : ∀ x μ H v Q, Sim X.K μ H → Rp X.K H x v → f x μ (Out (Rp X.K) X.K μ H Q) → r [v] H Q) : CallD X fn g := ⟨r, hr, fun ds μ H vs Q S R q => by
  rw [hg] at q
  match ds, R, q with
  | [x], R, q =>
    obtain ⟨v, e, R1⟩ := rps1 R
    subst e
    exact h x μ H v Q S R1 q
  | [], _, q => exact q.elim
  | _ :: _ :: _, _, q => exact q.elim⟩

/-- len -/
def fLen (x : D) (μ : Mu) (Q : PQ) : Prop := match x with
  | .tup ds => Q (.int ds.length) μ
  | .rls ds => Q (.int ds.length) μ
  | .ob a => (match μ a with | some (.lst ds) => Q (.int ds.length) μ | _ => False)
  | .str s => s.length ≤ sizeLine ∧ Q (.int s.length) μ
  | _ => False
theorem fLen_tup {ds : List D} {μ : Mu} {Q : PQ} : fLen (.tup ds) μ Q = Q (.int ds.length) μ := rfl
theorem fLen_rls {ds : List D} {μ : Mu} {Q : PQ} : fLen (.rls ds) μ Q = Q (.int ds.length) μ := rfl
theorem fLen_ob {a : Addr} {μ : Mu} {Q : PQ} : fLen (.ob a) μ Q = (match μ a with | some (.lst ds) => Q (.int ds.length) μ | _ => False) := rfl
theorem fLen_str {s : Str} {μ : Mu} {Q : PQ} : fLen (.str s) μ Q = (s.length ≤ sizeLine ∧ Q (.int s.length) μ) := rfl
def gLen : GN := g1 fLen fun {x μ Q Q'} hQ h => by
  cases x with
  | tup ds => exact hQ _ _ h
  | rls ds => exact hQ _ _ h
  | ob a =>
    rw [fLen_ob] at h ⊢
    split at h
    · exact hQ _ _ h
    · exact h.elim
  | str s => exact ⟨h.1, hQ _ _ h.2⟩
  | _ => exact h
theorem cd_len : CallD X (.builtin "len") gLen := cd1 (call_len_seq.or call_len_str) (fun _ _ _ => rfl) fun x μ H v Q S R q => by
  cases x with
  | tup ds =>
    obtain ⟨p, vs, rfl, t, r⟩ := rp_tup R
    exact .inl ⟨p, vs, rfl, .inr t, by rw [r.length]; exact (show Out (Rp X.K) X.K μ H Q (.int ds.length) μ from q) _ _ (Fr.refl μ H) S rfl⟩
  | rls ds =>
    obtain ⟨p, vs, rfl, t, r⟩ := rp_rls R
    exact .inl ⟨p, vs, rfl, .inl t.l, by rw [r.length]; exact (show Out (Rp X.K) X.K μ H Q (.int ds.length) μ from q) _ _ (Fr.refl μ H) S rfl⟩
  | ob a =>
    rw [rp_ob R]
    rw [fLen_ob] at q
    split at q
    · rename_i ds e
      obtain ⟨vs, h1, r⟩ := S.lst e
      exact .inl ⟨a, vs, rfl, .inl (SqL.of h1), by rw [r.length]; exact q _ _ (Fr.refl μ H) S rfl⟩
    · exact q.elim
  | str s => rw [rp_str R]; exact .inr ⟨s, rfl, q.1, q.2 _ _ (Fr.refl μ H) S rfl⟩
  | _ => exact q.elim
/-- abs -/
def fAbs (x : D) (μ : Mu) (Q : PQ) : Prop := match x with
  | .int i => Q (.int (if i < 0 then -i else i)) μ
  | _ => False
theorem fAbs_int {i : Int} {μ : Mu} {Q : PQ} : fAbs (.int i) μ Q = Q (.int (if i < 0 then -i else i)) μ := rfl
def gAbs : GN := g1 fAbs fun {x μ Q Q'} hQ h => by cases x <;> first | exact hQ _ _ h | exact h
theorem cd_abs : CallD X (.builtin "abs") gAbs := cd1 call_abs (fun _ _ _ => rfl) fun x μ H v Q S R q => by
  cases x <;> first
    | exact q.elim
    | (rw [rp_int R]; exact ⟨_, rfl, (show Out (Rp X.K) X.K μ H Q _ μ from q) _ _ (Fr.refl μ H) S rfl⟩)
/-- int of an int, a bool -/
def fInt (x : D) (μ : Mu) (Q : PQ) : Prop := match x with
  | .int i => Q (.int i) μ
  | .bl k => Q (.int (if k = true then 1 else 0)) μ
  | _ => False
theorem fInt_int {i : Int} {μ : Mu} {Q : PQ} : fInt (.int i) μ Q = Q (.int i) μ := rfl
theorem fInt_bl {k : Bool} {μ : Mu} {Q : PQ} : fInt (.bl k) μ Q = Q (.int (if k = true then 1 else 0)) μ := rfl
def gInt : GN := g1 fInt fun {x μ Q Q'} hQ h => by cases x <;> first | exact hQ _ _ h | exact h
theorem cd_int : CallD X (.type "int") gInt := cd1 call_int1 (fun _ _ _ => rfl) fun x μ H v Q S R q => by
  cases x <;> first
    | exact q.elim
    | (rw [rp_int R]; exact .inl ⟨_, rfl, (show Out (Rp X.K) X.K μ H Q _ μ from q) _ _ (Fr.refl μ H) S rfl⟩)
    | (rw [rp_bl R]; exact .inr ⟨_, rfl, (show Out (Rp X.K) X.K μ H Q _ μ from q) _ _ (Fr.refl μ H) S rfl⟩)
/-- all, any of a list of bools -/
def fAll (x : D) (μ : Mu) (Q : PQ) : Prop := ∃ (a : Addr) (bs : List Bool), x = .ob a ∧ μ a = some (.lst (bs.map D.bl)) ∧ Q (.bl (bs.all id)) μ
def fAny (x : D) (μ : Mu) (Q : PQ) : Prop := ∃ (a : Addr) (bs : List Bool), x = .ob a ∧ μ a = some (.lst (bs.map D.bl)) ∧ Q (.bl (bs.any id)) μ
def gAll : GN := g1 fAll fun {_ _ _ _} hQ z => by obtain ⟨a, bs, e, h, q⟩ := z; exact ⟨a, bs, e, h, hQ _ _ q⟩
def gAny : GN := g1 fAny fun {_ _ _ _} hQ z => by obtain ⟨a, bs, e, h, q⟩ := z; exact ⟨a, bs, e, h, hQ _ _ q⟩
theorem cd_all (hc : X.calm = true) : CallD X (.builtin "all") gAll := cd1 (cr_all hc) (fun _ _ _ => rfl) fun x μ H v Q S R ⟨a, bs, e, h, q⟩ => by
  subst e
  rw [rp_ob R]
  obtain ⟨vs, h1, r⟩ := S.lst h
  rw [Rps.bls r] at h1
  exact ⟨a, bs, rfl, SqL.of h1, q _ _ (Fr.refl μ H) S rfl⟩
theorem cd_any (hc : X.calm = true) : CallD X (.builtin "any") gAny := cd1 (cr_any hc) (fun _ _ _ => rfl) fun x μ H v Q S R ⟨a, bs, e, h, q⟩ => by
  subst e
  rw [rp_ob R]
  obtain ⟨vs, h1, r⟩ := S.lst h
  rw [Rps.bls r] at h1
  exact ⟨a, bs, rfl, SqL.of h1, q _ _ (Fr.refl μ H) S rfl⟩
/-- sum of a list of ints -/
def fSum (x : D) (μ : Mu) (Q : PQ) : Prop := ∃ (a : Addr) (ns : List Int), x = .ob a ∧ μ a = some (.lst (ns.map D.int)) ∧ Q (.int ns.sum) μ
def gSum : GN := g1 fSum fun {_ _ _ _} hQ z => by obtain ⟨a, bs, e, h, q⟩ := z; exact ⟨a, bs, e, h, hQ _ _ q⟩
theorem cd_sum (hc : X.calm = true) : CallD X (.builtin "sum") gSum := cd1 (cr_sum hc) (fun _ _ _ => rfl) fun x μ H v Q S R ⟨a, ns, e, h, q⟩ => by
  subst e
  rw [rp_ob R]
  obtain ⟨vs, h1, r⟩ := S.lst h
  rw [Rps.ints r] at h1
  exact ⟨a, ns, rfl, SqL.of h1, q _ _ (Fr.refl μ H) S rfl⟩
/-- tuple of a list, of a tuple -/
def fTuple (x : D) (μ : Mu) (Q : PQ) : Prop := match x with
  | .tup ds => Q (.tup ds) μ
  | .ob a => (match μ a with | some (.lst ds) => Q (.tup ds) μ | _ => False)
  | _ => False
theorem fTuple_tup {ds : List D} {μ : Mu} {Q : PQ} : fTuple (.tup ds) μ Q = Q (.tup ds) μ := rfl
theorem fTuple_ob {a : Addr} {μ : Mu} {Q : PQ} : fTuple (.ob a) μ Q = (match μ a with | some (.lst ds) => Q (.tup ds) μ | _ => False) := rfl
def gTuple : GN := g1 fTuple fun {x μ Q Q'} hQ h => by
  cases x with
  | tup ds => exact hQ _ _ h
  | ob a =>
    rw [fTuple_ob] at h ⊢
    split at h
    · exact hQ _ _ h
    · exact h.elim
  | _ => exact h
theorem cd_tuple : CallD X (.type "tuple") gTuple := cd1 call_tuple_of (fun _ _ _ => rfl) fun x μ H v Q S R q => by
  cases x with
  | tup ds =>
    obtain ⟨p, vs, rfl, t, r⟩ := rp_tup R
    exact ⟨p, vs, rfl, .inr ⟨t, (show Out (Rp X.K) X.K μ H Q (.tup ds) μ from q) _ _ (Fr.refl μ H) S R⟩⟩
  | ob a =>
    rw [rp_ob R]
    rw [fTuple_ob] at q
    split at q
    · rename_i ds e
      obtain ⟨vs, h1, r⟩ := S.lst e
      exact ⟨a, vs, rfl, .inl ⟨SqL.of h1, out_tup S r q⟩⟩
    · exact q.elim
  | _ => exact q.elim
/-- list of a list, of a tuple -/
def fList (x : D) (μ : Mu) (Q : PQ) : Prop := match x with
  | .tup ds => ∀ p, μ p = none → Q (.ob p) (mset μ p (.lst ds))
  | .ob a => (match μ a with | some (.lst ds) => ∀ p, μ p = none → Q (.ob p) (mset μ p (.lst ds)) | _ => False)
  | _ => False
theorem fList_tup {ds : List D} {μ : Mu} {Q : PQ} : fList (.tup ds) μ Q = ∀ p, μ p = none → Q (.ob p) (mset μ p (.lst ds)) := rfl
theorem fList_ob {a : Addr} {μ : Mu} {Q : PQ} : fList (.ob a) μ Q = (match μ a with | some (.lst ds) => ∀ p, μ p = none → Q (.ob p) (mset μ p (.lst ds)) | _ => False) := rfl
def gList : GN := g1 fList fun {x μ Q Q'} hQ h => by
  cases x with
  | tup ds => exact fun p hp => hQ _ _ (h p hp)
  | ob a =>
    rw [fList_ob] at h ⊢
    split at h
    · exact fun p hp => hQ _ _ (h p hp)
    · exact h.elim
  | _ => exact h
theorem cd_list : CallD X (.type "list") gList := cd1 call_list_of (fun _ _ _ => rfl) fun x μ H v Q S R q => by
  cases x with
  | tup ds =>
    obtain ⟨p, vs, rfl, t, r⟩ := rp_tup R
    exact ⟨p, vs, rfl, .inr t, out_lst S r q⟩
  | ob a =>
    rw [rp_ob R]
    rw [fList_ob] at q
    split at q
    · rename_i ds e
      obtain ⟨vs, h1, r⟩ := S.lst e
      exact ⟨a, vs, rfl, .inl (SqL.of h1), out_lst S r q⟩
    · exact q.elim
  | _ => exact q.elim
/-- min, max of two ints -/
def f2I (f : Int → Int → Int) (ds : List D) (μ : Mu) (Q : PQ) : Prop := match ds with | [.int i, .int j] => Q (.int (f i j)) μ | _ => False
theorem f2I_inv {f : Int → Int → Int} {ds : List D} {μ : Mu} {Q : PQ} (h : f2I f ds μ Q) : ∃ i j, ds = [.int i, .int j] ∧ Q (.int (f i j)) μ := by
  unfold f2I at h
  split at h
  · exact ⟨_, _, rfl, h⟩
  · exact h.elim
def g2I (f : Int → Int → Int) : GN := ⟨f2I f, fun {ds μ Q Q'} hQ h => by
  obtain ⟨i, j, rfl, q⟩ := f2I_inv h
  exact hQ _ _ q⟩
theorem g2I_run {f : Int → Int → Int} {i j : Int} {μ : Mu} {Q : PQ} : (g2I f).run [.int i, .int j] μ Q = Q (.int (f i j)) μ := rfl
def gMax2 : GN := g2I fun i j => if j > i then j else i
def gMin2 : GN := g2I fun i j => if j < i then j else i
theorem cd2I {fn : Value} {f : Int → Int → Int} (hr : CallR X fn (fun xs H Q => ∃ i j, xs = [.int i, .int j] ∧ Q (.int (f i j)) H)) : CallD X fn (g2I f) := ⟨_, hr, fun ds μ H vs Q S R q => by
  obtain ⟨i, j, rfl, q⟩ := f2I_inv q
  obtain ⟨v, u, rfl, r1, r2⟩ := rps2 R
  rw [rp_int r1, rp_int r2]
  exact ⟨i, j, rfl, q _ _ (Fr.refl μ H) S rfl⟩⟩
theorem cd_max2 (hc : X.calm = true) : CallD X (.builtin "max") gMax2 := cd2I (call_max2 hc)
theorem cd_min2 (hc : X.calm = true) : CallD X (.builtin "min") gMin2 := cd2I (call_min2 hc)

/-! ### isinstance with a built-in type -/
inductive TyN where | int | bool | str | tuple | list
  deriving DecidableEq
def TyN.s : TyN → String
  | .int => "int" | .bool => "bool" | .str => "str" | .tuple => "tuple" | .list => "list"
def isA (t : TyN) (d : D) (μ : Mu) : Option Bool := match d with
  | .non => some false
  | .bl _ => some (match t with | .int => true | .bool => true | _ => false)
  | .int _ => some (match t with | .int => true | _ => false)
  | .str _ => some (match t with | .str => true | _ => false)
  | .tup _ => some (match t with | .tuple => true | _ => false)
  | .ob a => (match μ a with | some (.lst _) => some (match t with | .list => true | _ => false) | some (.dct _ _) => some false | _ => none)
  | .rls _ => none
def wIsi (t : TyN) (a : WE) : WE := ⟨fun ρ μ Q X => a.run ρ μ (fun d μ1 => match isA t d μ1 with | some b => Q (.bl b) μ1 | none => False) X, fun hQ hX h => a.mono (fun d μ1 h => by
  revert h; split
  · exact hQ _ _
  · exact id) hX h⟩
theorem wIsi_run {t : TyN} {a : WE} {ρ : Ev} {μ : Mu} {Q : PQ} {X : XQ} : (wIsi t a).run ρ μ Q X = a.run ρ μ (fun d μ1 => match isA t d μ1 with | some b => Q (.bl b) μ1 | none => False) X := rfl
theorem isA_rel {K : PySem.W.Frag} {μ : Mu} {H : Hp} (S : Sim K μ H) {t : TyN} {d : D} {v : V} {b : Bool} (R : Rp K H d v) (h : isA t d μ = some b) : ∃ T : String, TyX K H v (.type T) ∧ kitB T t.s = some b := by
  cases d with
  | non => rw [rp_non R]; exact ⟨_, .base .non, by cases t <;> (cases h; decide +kernel)⟩
  | bl k => rw [rp_bl R]; exact ⟨_, .base (.bl k), by cases t <;> (cases h; decide +kernel)⟩
  | int i => rw [rp_int R]; exact ⟨_, .base (.int i), by cases t <;> (cases h; decide +kernel)⟩
  | str s => rw [rp_str R]; exact ⟨_, .base (.str s), by cases t <;> (cases h; decide +kernel)⟩
  | tup ds =>
    obtain ⟨p, vs, rfl, q, r⟩ := rp_tup R
    refine ⟨"tuple", ?_, by cases t <;> (cases h; decide +kernel)⟩
    rcases q with (q | ⟨o, q⟩) | ⟨o, its, n, e, c, _⟩
    · exact .base (.tup q)
    · exact .fTuple q
    · exact .kTuple e c
  | ob a =>
    rw [rp_ob R]
    unfold isA at h
    dsimp only at h
    split at h
    · rename_i ds e
      obtain ⟨vs, h1, _⟩ := S.lst e
      exact ⟨"list", .base (.lst h1), by cases t <;> (cases h; decide +kernel)⟩
    · rename_i ks ds e
      obtain ⟨vs, h1, _⟩ := S.at_ _ _ e
      exact ⟨"dict", .base (.dK h1), by cases t <;> (cases h; decide +kernel)⟩
    · cases h
  | rls ds => cases h
theorem le_isi {t : TyN} {a : Expr} {wa : WE} {T : Str} {p p2 pos : Pos} (hm : X.mg "isinstance" = none) (hmT : X.mg T = none) (hvT : bootBuiltins T = some (.type t.s)) (ha : LE X Wx a wa)
    (hg : Gl X "isinstance" := by rfl) (hgT : Gl X T := by rfl) (hn : T ≠ "__name__" := by decide) (hdb : (T == ("__debug__" : Str)) = false := by decide)
    (hs : starEach (a :: [.Name T p2]) X.env = (false, eval a X.env) :: starEach [.Name T p2] X.env := by rfl) (hs2 : starEach (.Name T p2 :: []) X.env = (false, eval (.Name T p2) X.env) :: starEach [] X.env := by rfl)
    (hpl : (backTo pos (starEach [.Name T p2] X.env)).any (·.1) = false := by rfl) : LE X Wx (.Call (.Name "isinstance" p) [a, .Name T p2] [] pos) (wIsi t wa) := by
  refine PE.weak (pe_callB call_isi hg hm (by decide +kernel) (pa_cons ha (pa_cons (pe_bltn hgT hmT hvT (show RelV (.ty t.s) (.type t.s) from rfl) hn hdb) pa_nil hs2) hs) (by decide) (by decide) hs hpl) fun σ H Q ⟨ρ, μ, E, S, h⟩ => ?_
  refine lW.bind E S h (fun x μ1 v H1 F1 S1 E1 r1 h1 => ?_) fun _ _ _ h => h
  cases q : isA t x μ1 with
  | none => rw [q] at h1; exact h1.elim
  | some b =>
    rw [q] at h1
    obtain ⟨T', ty, k⟩ := isA_rel S1 r1 q
    exact ⟨v, .ty t.s, .type T', .type t.s, b, rfl, .ty _, ty, kit_ty k, h1 _ _ F1 S1 rfl⟩

/-! ### calls of defs -/
structure SpD where
  run : List D → Mu → PQ → XQ → Prop
  mono : ∀ {ds μ Q Q' X X'}, (∀ d μ', Q d μ' → Q' d μ') → (∀ C d μ', X C d μ' → X' C d μ') → run ds μ Q X → run ds μ Q' X'
def OutE (K : PySem.W.Frag) (μ : Mu) (H : Hp) (E : XK) : XQ := fun C d μ' => ∀ dx v H', Fr μ H μ' H' → Sim K μ' H' → H' dx = some (.xd [("value", v)]) → Rp K H' d v → E (.ref C) (some dx) H'
def spOf (K : PySem.W.Frag) (n : Nat) (S : SpD) : Sp := fun vs H Q E => vs.length = n ∧ ∃ ds μ, Rps K H ds vs ∧ Sim K μ H ∧ S.run ds μ (Out (Rp K) K μ H Q) (OutE K μ H E)
def wCall (S : SpD) (ws : List WE) : WE := ⟨fun ρ μ Q X => runAll ws ρ μ (fun ds μ1 => S.run ds μ1 Q X) X, fun hQ hX h => runAll_mono (fun _ _ h => S.mono hQ hX h) hX h⟩
theorem wCall_run {S : SpD} {ws : List WE} {ρ : Ev} {μ : Mu} {Q : PQ} {X : XQ} : (wCall S ws).run ρ μ Q X = runAll ws ρ μ (fun ds μ1 => S.run ds μ1 Q X) X := rfl
/-- n values by position, the rest by the parameters' names -/
def KB (K : PySem.W.Frag) (fd : FuncData) (ps : List Str) (n : Nat) : Prop := ∀ (s : Shared) (us ws : List Value), K.In s.heap → us.length = n → ws.length + n = ps.length → BindsTo s fd ⟨us, (ps.drop n).zip ws⟩ (ps.zip (us ++ ws))
/-- a def keeps its promise where no repr is under way -/
def RunOk (P : Program) (w : World) (K : PySem.W.Frag) (mg : Str → Option Value) (base : Heap) (k : Nat) (f : Addr) (fd : FuncData) (ps : List Str) (sp : Sp) : Prop :=
  ∀ (A : Around) (outer : List Env) (s : Shared) (H : Hp) (args : Args) (us : List Value) (vs : List V) (Q : VK) (E : XK), A.guards = some [] → Room k A → Env0 P w K mg base A outer s H → BindsTo s fd args (ps.zip us) → Vals vs us → sp vs H Q E →
    codeAny (model P w) A (.call (.ref f) args) (CR (L2.CX P w) outer P w H s Q E) s
/-- a def of the text that keeps the promise S -/
structure FnD (P : Program) (w : World) (K : PySem.W.Frag) (mg : Str → Option Value) (base : Heap) (k : Nat) (x : Str) (ps : List Str) (ms : List Nat) (S : SpD) : Prop where
  ex : ∃ (f : Addr) (fd : FuncData), RunOk P w K mg base k f fd ps (spOf K ps.length S) ∧ mg x = some (.ref f) ∧ PySem.W.keepIn K (.ref f) = true ∧ Binds K fd ps [] ∧ ∀ n ∈ ms, KB K fd ps n
theorem FnD.mono {P : Program} {w : World} {K : PySem.W.Frag} {mg : Str → Option Value} {base : Heap} {j k : Nat} {x : Str} {ps : List Str} {ms : List Nat} {S : SpD} (F : FnD P w K mg base j x ps ms S) (h : j ≤ k) : FnD P w K mg base k x ps ms S := by
  obtain ⟨f, fd, a, b⟩ := F.ex
  exact ⟨f, fd, fun A outer s H args us vs Q E hg hr => a A outer s H args us vs Q E hg (hr.mono h), b⟩
/-- the callee runs -/
theorem run_go {k : Nat} {f : Addr} {fd : FuncData} {ps : List Str} {sp : Sp} {pins : List (Addr × Obj)} {σ : L2.St} {H : Hp} {s : Shared} {Q : VK} {args : Args} {us : List Value} {vs : List V} {E : XK} (F : RunOk X.prog X.w X.K X.mg X.base k f fd ps sp) (hgd : X.A.guards = some []) (hr : Room k X.A) (hx : PassesAt (L2.CX X.prog X.w) X σ E)
    (I : Inv X pins σ H s) (hb : BindsTo s fd args (ps.zip us)) (r : Vals vs us) (h : sp vs H Q E) : wpAny (model X.prog X.w) X.A (call (.ref f) args.pos args.kw) (EP X pins σ Q) X.xe s :=
  wpAny_call (codeAny_mono (F X.A X.stack s H args us vs Q E hgd hr I.env0 hb r h) fun res s' hq => match res, hq with
    | .error e, hq => hx pins H s e s' I hq
    | .ok (.ret _), hq => I.after hq
    | .ok .next, hq => False.elim hq
    | .ok .brk, hq => False.elim hq
    | .ok .cont, hq => False.elim hq)
/-- f(e, ..), all by position -/
theorem pe_run {k : Nat} {f : Addr} {fd : FuncData} {ps : List Str} {sp : Sp} {E : L2.St → XK} {x : Str} {p pos : Pos} {e : Expr} {es : List Expr} {t : TA} (F : RunOk X.prog X.w X.K X.mg X.base k f fd ps sp) (hgd : X.A.guards = some []) (hr : Room k X.A) (hg : Gl X x) (hm : X.mg x = some (.ref f)) (hk : PySem.W.keepIn X.K (.ref f) = true) (hb : Binds X.K fd ps []) (hx : ∀ σ, PassesAt (L2.CX X.prog X.w) X σ (E σ))
    (ha : PA X (e :: es) t) (hdb : (x == ("__debug__" : Str)) = false) (he : starEach (e :: es) X.env = (false, eval e X.env) :: starEach es X.env) (hpl : (backTo pos (starEach es X.env)).any (·.1) = false) :
    PE X (.Call (.Name x p) (e :: es) [] pos) (fun σ H Q => t σ H fun vs H1 => vs.length = ps.length ∧ sp vs H1 Q (E σ)) := ⟨fun pins s σ H Q I h =>
  wpAny_Call_Name_kw (ld_glob I hg hm (PySem.W.callWith_K (h₀ := X.base) I.ok.mod.kin hk (thn (ha.run pos pins s σ H _ I h) fun us s1 ⟨vs, H1, I1, r, hl, q⟩ => ⟨I1.kIn, by
    have hbb := hb s1 us I1.kIn (by rw [List.append_nil, ← r.length]; exact hl)
    rw [List.append_nil] at hbb
    exact run_go (args := ⟨us, []⟩) F hgd hr (hx σ) I1 hbb r q⟩) he hpl) hdb)⟩
theorem le_call {k j : Nat} {x : Str} {p pos : Pos} {e : Expr} {es : List Expr} {ps : List Str} {ms : List Nat} {S : SpD} {ws : List WE} (F : FnD X.prog X.w X.K X.mg X.base j x ps ms S) (hgd : X.A.guards = some []) (hr : Room k X.A) (tk : Takes X Wx) (ha : LAs X Wx (e :: es) ws) (hjk : j ≤ k := by decide) (hl : ws.length = ps.length := by rfl) (hg : Gl X x := by rfl)
    (hdb : (x == ("__debug__" : Str)) = false := by decide) (he : starEach (e :: es) X.env = (false, eval e X.env) :: starEach es X.env := by rfl) (hpl : (backTo pos (starEach es X.env)).any (·.1) = false := by rfl) : LE X Wx (.Call (.Name x p) (e :: es) [] pos) (wCall S ws) := by
  obtain ⟨f, fd, G, hm, hk, hb, _⟩ := F.ex
  refine PE.weak (pe_run G hgd (hr.mono hjk) hg hm hk hb (fun σ => passAt tk σ) ha hdb he hpl) fun σ H Q ⟨ρ, μ, E, S0, h⟩ => ?_
  refine lW.bind (w := wArgs ws) E S0 (runAll_len h) (fun xs μ1 vs H1 F1 S1 E1 r1 h1 => ?_) fun _ _ _ h => h
  have hv : vs.length = ps.length := by rw [r1.length, h1.1, hl]
  refine ⟨hv, hv, xs, μ1, r1, S1, S.mono (fun _ _ q => q.trans F1) (fun _ _ _ q => ?_) h1.2⟩
  exact fun dx v H' F' S' e r => q dx v H' (F1.trans F') S' e r
end
end Sq

/-! Statements, targets. -/
namespace Sq
open PySem PySem.Spec PyProof.Rows L2
/-- what is wanted behind a statement -/
structure PD where
  nx : Ev → Mu → Prop
  rt : PQ
  bk : Ev → Mu → Prop
  ct : Ev → Mu → Prop
  ex : Ev → XQ
structure PD.le (D D' : PD) : Prop where
  nx : ∀ ρ μ, D.nx ρ μ → D'.nx ρ μ
  rt : ∀ d μ, D.rt d μ → D'.rt d μ
  bk : ∀ ρ μ, D.bk ρ μ → D'.bk ρ μ
  ct : ∀ ρ μ, D.ct ρ μ → D'.ct ρ μ
  ex : ∀ ρ C d μ, D.ex ρ C d μ → D'.ex ρ C d μ
theorem PD.le.refl (D : PD) : D.le D := ⟨fun _ _ h => h, fun _ _ h => h, fun _ _ h => h, fun _ _ h => h, fun _ _ _ _ h => h⟩
structure WS where
  run : PD → Ev → Mu → Prop
  mono : ∀ {D D' : PD} {ρ : Ev} {μ : Mu}, D.le D' → run D ρ μ → run D' ρ μ
def OutS (K : PySem.W.Frag) (μ : Mu) (H : Hp) (Q : L2.St → Hp → Prop) : Ev → Mu → Prop := fun ρ' μ' => ∀ σ' H', Fr μ H μ' H' → Sim K μ' H' → EnvR K H' ρ' σ' → Q σ' H'
def OutXE (K : PySem.W.Frag) (Wx : WX) (μ : Mu) (H : Hp) : Ev → XQ := fun ρ' C d μ' => ∀ σ' dx v H', Fr μ H μ' H' → Sim K μ' H' → EnvR K H' ρ' σ' → H' dx = some (.xd [("value", v)]) → Rp K H' d v → Wx (.ref C) (some dx) σ' H'
def outD (K : PySem.W.Frag) (Wx : WX) (μ : Mu) (H : Hp) (D : Ends) : PD := ⟨OutS K μ H D.nx, Out (Rp K) K μ H D.rt, OutS K μ H D.bk, OutS K μ H D.ct, OutXE K Wx μ H⟩
def lS (K : PySem.W.Frag) (Wx : WX) (w : WS) : TS := fun D σ H => ∃ ρ μ, EnvR K H ρ σ ∧ Sim K μ H ∧ w.run (outD K Wx μ H D) ρ μ
def LS (X : Cx) (Wx : WX) (st : Stmt) (w : WS) : Prop := PS X st (lS X.K Wx w)
def LSs (X : Cx) (Wx : WX) (st : List Stmt) (w : WS) : Prop := PSs X st (lS X.K Wx w)
theorem PS.weak {X : Cx} {st : Stmt} {t t' : TS} (h : PS X st t) (hw : ∀ D σ H, t' D σ H → t D σ H) : PS X st t' := ⟨fun pins s σ H D I q => h.run pins s σ H D I (hw D σ H q)⟩
theorem PSs.weak {X : Cx} {st : List Stmt} {t t' : TS} (h : PSs X st t) (hw : ∀ D σ H, t' D σ H → t D σ H) : PSs X st t' := ⟨fun pins s σ H D I q => h.run pins s σ H D I (hw D σ H q)⟩
theorem OutS.trans {K : PySem.W.Frag} {μ μ1 : Mu} {H H1 : Hp} {Q : L2.St → Hp → Prop} (F : Fr μ H μ1 H1) {ρ : Ev} {μ' : Mu} (h : OutS K μ H Q ρ μ') : OutS K μ1 H1 Q ρ μ' := fun σ' H' F' S e => h σ' H' (F.trans F') S e
theorem OutXE.trans {K : PySem.W.Frag} {Wx : WX} {μ μ1 : Mu} {H H1 : Hp} (F : Fr μ H μ1 H1) {ρ : Ev} {C : Addr} {d : D} {μ' : Mu} (h : OutXE K Wx μ H ρ C d μ') : OutXE K Wx μ1 H1 ρ C d μ' := fun σ' dx v H' F' S e r r2 => h σ' dx v H' (F.trans F') S e r r2
theorem outD.trans {K : PySem.W.Frag} {Wx : WX} {μ μ1 : Mu} {H H1 : Hp} {D : Ends} (F : Fr μ H μ1 H1) : (outD K Wx μ H D).le (outD K Wx μ1 H1 D) := ⟨fun _ _ h => OutS.trans F h, fun _ _ h => Out.trans F h, fun _ _ h => OutS.trans F h, fun _ _ h => OutS.trans F h, fun _ _ _ _ h => OutXE.trans F h⟩
theorem OutXE.x {K : PySem.W.Frag} {Wx : WX} {μ : Mu} {H : Hp} {ρ : Ev} {σ : L2.St} (S : Sim K μ H) (E : EnvR K H ρ σ) {C : Addr} {d : D} {μ' : Mu} (h : OutXE K Wx μ H ρ C d μ') : OutX K Wx σ μ H C d μ' := fun dx v H' F S' r r2 => h σ dx v H' F S' (E.keep S F) r r2
section
variable {X : Cx} {Wx : WX}
/-! ### blocks -/
def wNext : WS := ⟨fun D ρ μ => D.nx ρ μ, fun h q => h.nx _ _ q⟩
theorem wNext_run {D : PD} {ρ : Ev} {μ : Mu} : wNext.run D ρ μ = D.nx ρ μ := rfl
def wSeq (a b : WS) : WS := ⟨fun D ρ μ => a.run { D with nx := fun ρ1 μ1 => b.run D ρ1 μ1 } ρ μ, fun {D D' ρ μ} h q => a.mono (D := { D with nx := fun ρ1 μ1 => b.run D ρ1 μ1 }) (D' := { D' with nx := fun ρ1 μ1 => b.run D' ρ1 μ1 }) ⟨fun _ _ q => b.mono h q, h.rt, h.bk, h.ct, h.ex⟩ q⟩
theorem wSeq_run {a b : WS} {D : PD} {ρ : Ev} {μ : Mu} : (wSeq a b).run D ρ μ = a.run { D with nx := fun ρ1 μ1 => b.run D ρ1 μ1 } ρ μ := rfl
theorem lss_nil : LSs X Wx [] wNext := PSs.weak pss_nil fun D σ H ⟨ρ, μ, E, S, h⟩ => (show OutS X.K μ H D.nx ρ μ from h) σ H (Fr.refl μ H) S E
theorem lss_cons {st : Stmt} {rest : List Stmt} {a b : WS} (h1 : LS X Wx st a) (h2 : LSs X Wx rest b) : LSs X Wx (st :: rest) (wSeq a b) := PSs.weak (pss_cons h1 h2) fun D σ H ⟨ρ, μ, E, S, h⟩ =>
  ⟨ρ, μ, E, S, a.mono (D := { outD X.K Wx μ H D with nx := fun ρ1 μ1 => b.run (outD X.K Wx μ H D) ρ1 μ1 }) (D' := outD X.K Wx μ H { D with nx := lS X.K Wx b D }) ⟨fun ρ1 μ1 q σ1 H1 F1 S1 E1 => ⟨ρ1, μ1, E1, S1, b.mono (outD.trans F1) q⟩, fun _ _ h => h, fun _ _ h => h, fun _ _ h => h, fun _ _ _ _ h => h⟩ h⟩
theorem lss_one {st : Stmt} {a : WS} (h1 : LS X Wx st a) : LSs X Wx [st] a := pss_one h1
def wBreak : WS := ⟨fun D ρ μ => D.bk ρ μ, fun h q => h.bk _ _ q⟩
def wCont : WS := ⟨fun D ρ μ => D.ct ρ μ, fun h q => h.ct _ _ q⟩
theorem wBreak_run {D : PD} {ρ : Ev} {μ : Mu} : wBreak.run D ρ μ = D.bk ρ μ := rfl
theorem wCont_run {D : PD} {ρ : Ev} {μ : Mu} : wCont.run D ρ μ = D.ct ρ μ := rfl
theorem ls_pass {pos} : LS X Wx (.Pass pos) wNext := PS.weak ps_pass fun D σ H ⟨ρ, μ, E, S, h⟩ => (show OutS X.K μ H D.nx ρ μ from h) σ H (Fr.refl μ H) S E
theorem ls_break {pos} : LS X Wx (.Break pos) wBreak := PS.weak ps_break fun D σ H ⟨ρ, μ, E, S, h⟩ => (show OutS X.K μ H D.bk ρ μ from h) σ H (Fr.refl μ H) S E
theorem ls_continue {pos} : LS X Wx (.Continue pos) wCont := PS.weak ps_continue fun D σ H ⟨ρ, μ, E, S, h⟩ => (show OutS X.K μ H D.ct ρ μ from h) σ H (Fr.refl μ H) S E
/-- code that is never come to -/
def wNever : WS := ⟨fun _ _ _ => False, fun _ h => h⟩
theorem wNever_run {D : PD} {ρ : Ev} {μ : Mu} : wNever.run D ρ μ = False := rfl
theorem ls_never {st : Stmt} : LS X Wx st wNever := PS.weak ps_never fun _ _ _ ⟨_, _, _, _, h⟩ => h.elim
theorem lss_never {st : List Stmt} : LSs X Wx st wNever := PSs.weak pss_never fun _ _ _ ⟨_, _, _, _, h⟩ => h.elim
def wExpr (a : WE) : WS := ⟨fun D ρ μ => a.run ρ μ (fun _ μ1 => D.nx ρ μ1) (D.ex ρ), fun h q => a.mono (fun _ _ q => h.nx _ _ q) (fun _ _ _ q => h.ex _ _ _ _ q) q⟩
theorem wExpr_run {a : WE} {D : PD} {ρ : Ev} {μ : Mu} : (wExpr a).run D ρ μ = a.run ρ μ (fun _ μ1 => D.nx ρ μ1) (D.ex ρ) := rfl
theorem ls_expr {e : Expr} {pos : Pos} {w : WE} (he : LE X Wx e w) (hs : swapsWith e none pos.line X.env = pure false := by rfl) : LS X Wx (.Expr e pos) (wExpr w) := PS.weak (ps_expr he hs) fun D σ H ⟨ρ, μ, E, S, h⟩ => by
  exact lW.bind E S h (fun x μ1 v H1 F1 S1 E1 r1 h1 => h1 σ H1 F1 S1 E1) fun _ _ _ h => OutXE.x S E h
def wRet (a : WE) : WS := ⟨fun D ρ μ => a.run ρ μ D.rt (D.ex ρ), fun h q => a.mono (fun _ _ q => h.rt _ _ q) (fun _ _ _ q => h.ex _ _ _ _ q) q⟩
theorem wRet_run {a : WE} {D : PD} {ρ : Ev} {μ : Mu} : (wRet a).run D ρ μ = a.run ρ μ D.rt (D.ex ρ) := rfl
theorem ls_ret {e : Expr} {pos : Pos} {w : WE} (he : LE X Wx e w) : LS X Wx (.Return (some e) pos) (wRet w) := PS.weak (ps_ret he) fun D σ H ⟨ρ, μ, E, S, h⟩ => by
  exact lW.bind E S h (fun x μ1 v H1 F1 S1 E1 r1 h1 => h1 v H1 F1 S1 r1) fun _ _ _ h => OutXE.x S E h
def wRetN : WS := ⟨fun D ρ μ => D.rt .non μ, fun h q => h.rt _ _ q⟩
theorem wRetN_run {D : PD} {ρ : Ev} {μ : Mu} : wRetN.run D ρ μ = D.rt .non μ := rfl
theorem ls_retN {pos : Pos} : LS X Wx (.Return none pos) wRetN := PS.weak ps_retN fun D σ H ⟨ρ, μ, E, S, h⟩ => (show Out (Rp X.K) X.K μ H D.rt .non μ from h) _ _ (Fr.refl μ H) S rfl
def wIf (c : WT) (a b : WS) : WS := ⟨fun D ρ μ => c.run ρ μ (fun k μ1 => if k = true then a.run D ρ μ1 else b.run D ρ μ1) (D.ex ρ), fun h q => c.mono (fun k _ q => by
  cases k with
  | true => exact a.mono h q
  | false => exact b.mono h q) (fun _ _ _ q => h.ex _ _ _ _ q) q⟩
theorem wIf_run {c : WT} {a b : WS} {D : PD} {ρ : Ev} {μ : Mu} : (wIf c a b).run D ρ μ = c.run ρ μ (fun k μ1 => if k = true then a.run D ρ μ1 else b.run D ρ μ1) (D.ex ρ) := rfl
theorem ls_if {c : Expr} {sa sb : List Stmt} {pos : Pos} {wc : WT} {a b : WS} (hc : LT X Wx c wc) (ha : LSs X Wx sa a) (hb : LSs X Wx sb b) : LS X Wx (.If c sa sb pos) (wIf wc a b) := PS.weak (ps_if hc ha hb) fun D σ H ⟨ρ, μ, E, S, h⟩ => by
  refine lW.bind E S h (fun x μ1 v H1 F1 S1 E1 r1 h1 => ?_) fun _ _ _ h => OutXE.x S E h
  subst r1
  cases x with
  | true => exact iteT ⟨ρ, μ1, E1, S1, a.mono (outD.trans F1) h1⟩
  | false => exact iteF ⟨ρ, μ1, E1, S1, b.mono (outD.trans F1) h1⟩

/-! ### targets -/
structure WG where
  run : D → Ev → Mu → (Ev → Mu → Prop) → (Ev → XQ) → Prop
  mono : ∀ {d : D} {ρ : Ev} {μ : Mu} {Q Q' : Ev → Mu → Prop} {X X' : Ev → XQ}, (∀ ρ μ, Q ρ μ → Q' ρ μ) → (∀ ρ C d μ, X ρ C d μ → X' ρ C d μ) → run d ρ μ Q X → run d ρ μ Q' X'
def lG (K : PySem.W.Frag) (Wx : WX) (g : WG) : TG := fun v σ H Q => ∃ ρ μ d, EnvR K H ρ σ ∧ Sim K μ H ∧ Rp K H d v ∧ g.run d ρ μ (OutS K μ H Q) (OutXE K Wx μ H)
def LG (X : Cx) (Wx : WX) (e : Expr) (g : WG) : Prop := PG X e (lG X.K Wx g)
theorem PG.weak {X : Cx} {e : Expr} {t t' : TG} (h : PG X e t) (hw : ∀ v σ H Q, t' v σ H Q → t v σ H Q) : PG X e t' := ⟨fun pins s σ H v u Q I r q => h.run pins s σ H v u Q I r (hw v σ H Q q)⟩
theorem PGs.weak {X : Cx} {e : List Expr} {t t' : TGs} (h : PGs X e t) (hw : ∀ v σ H Q, t' v σ H Q → t v σ H Q) : PGs X e t' := ⟨fun pins s σ H v u Q I r q => h.run pins s σ H v u Q I r (hw v σ H Q q)⟩
def gN (i : Nat) : WG := ⟨fun d ρ μ Q _ => Q (ρ.set i (some d)) μ, fun hQ _ q => hQ _ _ q⟩
theorem gN_run {i : Nat} {d : D} {ρ : Ev} {μ : Mu} {Q : Ev → Mu → Prop} {X : Ev → XQ} : (gN i).run d ρ μ Q X = Q (ρ.set i (some d)) μ := rfl
theorem lg_name (i : Nat) {x : Str} {pos : Pos} (hN : X.N.Nodup) (hi : X.N[i]? = some x := by rfl) (hx : Loc X.env.scope x := by first | exact Or.inl rfl | exact Or.inr rfl) (hf : X.fn x = true ∨ X.env.scope.names.lookup x = some .local := by first | exact .inl rfl | exact .inr rfl) : LG X Wx (.Name x pos) (gN i) :=
  PG.weak (pg_name hN hi hx hf) fun v σ H Q ⟨ρ, μ, d, E, S, R, h⟩ => h _ _ (Fr.refl μ H) S (E.set R i)
def runGs : List WG → List D → Ev → Mu → (Ev → Mu → Prop) → (Ev → XQ) → Prop
  | [], [], ρ, μ, Q, _ => Q ρ μ
  | g :: gs, d :: ds, ρ, μ, Q, X => g.run d ρ μ (fun ρ1 μ1 => runGs gs ds ρ1 μ1 Q X) X
  | _, _, _, _, _, _ => False
theorem runGs_nil {ρ : Ev} {μ : Mu} {Q : Ev → Mu → Prop} {X : Ev → XQ} : runGs [] [] ρ μ Q X = Q ρ μ := rfl
theorem runGs_cons {g : WG} {gs : List WG} {d : D} {ds : List D} {ρ : Ev} {μ : Mu} {Q : Ev → Mu → Prop} {X : Ev → XQ} : runGs (g :: gs) (d :: ds) ρ μ Q X = g.run d ρ μ (fun ρ1 μ1 => runGs gs ds ρ1 μ1 Q X) X := rfl
theorem runGs_mono : ∀ {gs : List WG} {ds : List D} {ρ : Ev} {μ : Mu} {Q Q' : Ev → Mu → Prop} {X X' : Ev → XQ}, (∀ ρ μ, Q ρ μ → Q' ρ μ) → (∀ ρ C d μ, X ρ C d μ → X' ρ C d μ) → runGs gs ds ρ μ Q X → runGs gs ds ρ μ Q' X'
  | [], [], _, _, _, _, _, _, hQ, _, h => hQ _ _ h
  | g :: gs, d :: ds, _, _, _, _, _, _, hQ, hX, h => g.mono (fun _ _ q => runGs_mono (gs := gs) hQ hX q) hX h
  | [], _ :: _, _, _, _, _, _, _, _, _, h => h
  | _ :: _, [], _, _, _, _, _, _, _, _, h => h
theorem runGs_len : ∀ {gs : List WG} {ds : List D} {ρ : Ev} {μ : Mu} {Q : Ev → Mu → Prop} {X : Ev → XQ}, runGs gs ds ρ μ Q X → gs.length = ds.length ∨ gs.length ≠ ds.length
  | _, _, _, _, _, _, _ => by omega
def LGs (X : Cx) (Wx : WX) (es : List Expr) (gs : List WG) : Prop := PGs X es (fun vs σ H Q => ∃ ρ μ ds, EnvR X.K H ρ σ ∧ Sim X.K μ H ∧ Rps X.K H ds vs ∧ runGs gs ds ρ μ (OutS X.K μ H Q) (OutXE X.K Wx μ H))
theorem lgs_nil : LGs X Wx [] [] := PGs.weak pgs_nil fun vs σ H Q ⟨ρ, μ, ds, E, S, R, h⟩ => by
  cases ds with
  | nil => unfold Rps at R; exact ⟨R, (show OutS X.K μ H Q ρ μ from h) _ _ (Fr.refl μ H) S E⟩
  | cons d ds => exact h.elim
theorem lgs_cons {e : Expr} {es : List Expr} {g : WG} {gs : List WG} (h1 : LG X Wx e g) (h2 : LGs X Wx es gs) (hs : (assignEach (e :: es) X.env).map (·.2) = assign e X.env :: (assignEach es X.env).map (·.2) := by rfl) : LGs X Wx (e :: es) (g :: gs) :=
  PGs.weak (pgs_cons h1 h2 hs) fun vs σ H Q ⟨ρ, μ, ds, E, S, R, h⟩ => by
    cases ds with
    | nil => exact h.elim
    | cons d ds =>
      unfold Rps at R
      obtain ⟨w, ws, rfl, r1, r2⟩ := R
      refine ⟨w, ws, rfl, ρ, μ, d, E, S, r1, g.mono (fun ρ1 μ1 q σ1 H1 F1 S1 E1 => ?_) (fun _ _ _ _ h => h) h⟩
      exact ⟨ρ1, μ1, ds, E1, S1, Rps.keep S F1 ds r2, runGs_mono (fun _ _ q => OutS.trans F1 q) (fun _ _ _ _ q => OutXE.trans F1 q) q⟩
/-- a tuple is unpacked -/
def gT (gs : List WG) : WG := ⟨fun d ρ μ Q X => match d with | .tup ds => ds.length = gs.length ∧ runGs gs ds ρ μ Q X | _ => False, fun {d ρ μ Q Q' X X'} hQ hX q => by
  cases d <;> first | exact q | exact ⟨q.1, runGs_mono hQ hX q.2⟩⟩
theorem gT_run {gs : List WG} {ds : List D} {ρ : Ev} {μ : Mu} {Q : Ev → Mu → Prop} {X : Ev → XQ} : (gT gs).run (.tup ds) ρ μ Q X = (ds.length = gs.length ∧ runGs gs ds ρ μ Q X) := rfl
theorem lg_tup {es : List Expr} {k : Nat} {pos : Pos} {gs : List WG} (h : LGs X Wx es gs) (hc : X.calm = true := by rfl) (hn : (assignEach es X.env).length = gs.length := by rfl) (hst : (assignEach es X.env).findIdx? (·.1) = none := by rfl) : LG X Wx (.Tuple es k pos) (gT gs) :=
  PG.weak (pg_tup (n := gs.length) hc h hn hst) fun v σ H Q ⟨ρ, μ, d, E, S, R, h⟩ => by
    cases d <;> first
      | exact h.elim
      | (obtain ⟨p, vs, rfl, t, r⟩ := rp_tup R
         exact ⟨p, vs, rfl, t, by rw [r.length, h.1], ρ, μ, _, E, S, r, h.2⟩)
/-- o[i] = d -/
def sIx (o i d : D) (μ : Mu) (Q : Mu → Prop) : Prop := match o, i with
  | .ob a, .int k => (match μ a with | some (.lst xs) => (match ixN xs.length k with | some j => Q (mset μ a (.lst (xs.set j d))) | none => False) | _ => False)
  | _, _ => False
theorem sIx_ob {a : Addr} {k : Int} {d : D} {μ : Mu} {Q : Mu → Prop} : sIx (.ob a) (.int k) d μ Q = (match μ a with | some (.lst xs) => (match ixN xs.length k with | some j => Q (mset μ a (.lst (xs.set j d))) | none => False) | _ => False) := rfl
theorem sIx_inv {o i d : D} {μ : Mu} {Q : Mu → Prop} (h : sIx o i d μ Q) : ∃ a k xs j, o = .ob a ∧ i = .int k ∧ μ a = some (.lst xs) ∧ ixN xs.length k = some j ∧ Q (mset μ a (.lst (xs.set j d))) := by
  unfold sIx at h
  split at h
  · split at h
    · split at h
      · exact ⟨_, _, _, _, rfl, rfl, by assumption, by assumption, h⟩
      · exact h.elim
    · exact h.elim
  · exact h.elim
theorem sIx_mk {a : Addr} {k : Int} {xs : List D} {j : Nat} {d : D} {μ : Mu} {Q : Mu → Prop} (h1 : μ a = some (.lst xs)) (h2 : ixN xs.length k = some j) (h : Q (mset μ a (.lst (xs.set j d)))) : sIx (.ob a) (.int k) d μ Q := by
  rw [sIx_ob, h1]
  dsimp only
  rw [h2]
  exact h
def gS (wo wi : WE) : WG := ⟨fun d ρ μ Q X => wo.run ρ μ (fun o μ1 => wi.run ρ μ1 (fun i μ2 => sIx o i d μ2 fun μ3 => Q ρ μ3) (X ρ)) (X ρ), fun {d ρ μ Q Q' X X'} hQ hX q => wo.mono (fun _ _ q => wi.mono (fun _ _ q => by
  obtain ⟨a, k, xs, j, rfl, rfl, e1, e2, q⟩ := sIx_inv q
  exact sIx_mk e1 e2 (hQ _ _ q)) (fun _ _ _ q => hX _ _ _ _ q) q) (fun _ _ _ q => hX _ _ _ _ q) q⟩
theorem gS_run {wo wi : WE} {d : D} {ρ : Ev} {μ : Mu} {Q : Ev → Mu → Prop} {X : Ev → XQ} : (gS wo wi).run d ρ μ Q X = wo.run ρ μ (fun o μ1 => wi.run ρ μ1 (fun i μ2 => sIx o i d μ2 fun μ3 => Q ρ μ3) (X ρ)) (X ρ) := rfl
theorem lg_sub {o i : Expr} {pos : Pos} {wo wi : WE} (ho : LE X Wx o wo) (hi : LE X Wx i wi)
    (ha : ∀ v, assign (.Subscript o i pos) X.env v = (do
      let ov ← holding [v] (eval o X.env)
      let iv ← holding [v, ov] (eval i X.env)
      standAt pos
      holding [v, ov, iv] (setItem ov iv v)
      release [v, ov, iv] []) := by intro _; rfl) : LG X Wx (.Subscript o i pos) (gS wo wi) := PG.weak (pg_sub ho hi set_list ha) fun v σ H Q ⟨ρ, μ, d, E, S, R, h⟩ => by
  refine lW.bind E S h (fun x μ1 vo H1 F1 S1 E1 r1 h1 => ?_) fun _ _ _ h => OutXE.x S E h
  refine lW.bind E1 S1 h1 (fun y μ2 vi H2 F2 S2 E2 r2 h2 => ?_) fun _ _ _ h => OutX.trans F1 (OutXE.x S E h)
  obtain ⟨a, k, xs, j, rfl, rfl, e1, e2, q⟩ := sIx_inv h2
  obtain ⟨vs, h3, r3⟩ := S2.lst e1
  have R2 : Rp X.K H2 d v := Rp.keep S1 F2 d (Rp.keep S F1 d R)
  have F3 : Fr μ2 H2 (mset μ2 a (.lst (xs.set j d))) (upd H2 a (.lst (vs.set j v))) := fr_set e1
  exact ⟨a, vs, k, j, rp_ob r1, rp_int r2, h3, by rw [r3.length]; exact e2, q _ _ (F1.trans (F2.trans F3)) (sim_lst S2 F3 (r3.set R2 j)) (E2.keep S2 F3)⟩

/-! ### assignments -/
def wAsg (a : WE) (g : WG) : WS := ⟨fun D ρ μ => a.run ρ μ (fun d μ1 => g.run d ρ μ1 D.nx D.ex) (D.ex ρ), fun h q => a.mono (fun _ _ q => g.mono h.nx h.ex q) (fun _ _ _ q => h.ex _ _ _ _ q) q⟩
theorem wAsg_run {a : WE} {g : WG} {D : PD} {ρ : Ev} {μ : Mu} : (wAsg a g).run D ρ μ = a.run ρ μ (fun d μ1 => g.run d ρ μ1 D.nx D.ex) (D.ex ρ) := rfl
theorem wAsg_t {w : WE} {g : WG} : ∀ D σ H, lS X.K Wx (wAsg w g) D σ H → tAsg (lE X.K Wx w) (lG X.K Wx g) D σ H := fun D σ H ⟨ρ, μ, E, S, h⟩ => by
  refine lW.bind E S h (fun x μ1 v H1 F1 S1 E1 r1 h1 => ?_) fun _ _ _ h => OutXE.x S E h
  exact ⟨ρ, μ1, x, E1, S1, r1, g.mono (fun _ _ q => OutS.trans F1 q) (fun _ _ _ _ q => OutXE.trans F1 q) h1⟩
theorem ls_asg {tg e : Expr} {pos : Pos} {w : WE} {g : WG} (he : LE X Wx e w) (hg : LG X Wx tg g) (hs : swapsWithSole [tg] e pos.line X.env = pure false := by rfl) (hw : swappedStores [tg] e X.env = pure none := by rfl)
    (h1 : (assignEach [tg] X.env).map (·.2) = [assign tg X.env] := by rfl) : LS X Wx (.Assign [tg] e pos) (wAsg w g) := PS.weak (ps_asg he hg hs hw h1) wAsg_t
def wSet (i : Nat) (a : WE) : WS := ⟨fun D ρ μ => a.run ρ μ (fun d μ1 => D.nx (ρ.set i (some d)) μ1) (D.ex ρ), fun h q => a.mono (fun _ _ q => h.nx _ _ q) (fun _ _ _ q => h.ex _ _ _ _ q) q⟩
theorem wSet_run {i : Nat} {a : WE} {D : PD} {ρ : Ev} {μ : Mu} : (wSet i a).run D ρ μ = a.run ρ μ (fun d μ1 => D.nx (ρ.set i (some d)) μ1) (D.ex ρ) := rfl
theorem wSet_t {i : Nat} {w : WE} : ∀ D σ H, lS X.K Wx (wSet i w) D σ H → tAsg (lE X.K Wx w) (gName i) D σ H := fun D σ H ⟨ρ, μ, E, S, h⟩ => by
  refine lW.bind E S h (fun x μ1 v H1 F1 S1 E1 r1 h1 => ?_) fun _ _ _ h => OutXE.x S E h
  exact h1 _ _ F1 S1 (E1.set r1 i)
theorem ls_set (i : Nat) {x : Str} {e : Expr} {pos pos' : Pos} {w : WE} (hN : X.N.Nodup) (he : LE X Wx e w) (hi : X.N[i]? = some x := by rfl) (hx : Loc X.env.scope x := by first | exact Or.inl rfl | exact Or.inr rfl)
    (hs : swapsWith e (some (.Name x pos')) pos.line X.env = pure false := by rfl) (hf : X.fn x = true ∨ X.env.scope.names.lookup x = some .local := by first | exact .inl rfl | exact .inr rfl) : LS X Wx (.Assign [.Name x pos'] e pos) (wSet i w) :=
  PS.weak (ps_set hN hi hx he hs hf) wSet_t
/-- a, b = x, y of plain local names -/
def wPar (i j : Nat) (a b : WE) : WS := ⟨fun D ρ μ => a.run ρ μ (fun x μ1 => b.run ρ μ1 (fun y μ2 => D.nx ((ρ.set i (some x)).set j (some y)) μ2) (D.ex ρ)) (D.ex ρ), fun h q => a.mono (fun _ _ q => b.mono (fun _ _ q => h.nx _ _ q) (fun _ _ _ q => h.ex _ _ _ _ q) q) (fun _ _ _ q => h.ex _ _ _ _ q) q⟩
theorem wPar_run {i j : Nat} {a b : WE} {D : PD} {ρ : Ev} {μ : Mu} : (wPar i j a b).run D ρ μ = a.run ρ μ (fun x μ1 => b.run ρ μ1 (fun y μ2 => D.nx ((ρ.set i (some x)).set j (some y)) μ2) (D.ex ρ)) (D.ex ρ) := rfl
theorem ls_par (i j : Nat) {x y : Str} {a b : Expr} {wa wb : WE} {px py pt pos : Pos} {kt k2 pt2} (hN : X.N.Nodup) (ha : LAs X Wx [a, b] [wa, wb]) (hw : swappedStores [.Tuple [.Name x px, .Name y py] kt pt] (.Tuple [a, b] k2 pt2) X.env = pure (some [x, y]) := by rfl)
    (hc : X.calm = true := by rfl) (hi : X.N[i]? = some x := by rfl) (hj : X.N[j]? = some y := by rfl) (hij : i ≠ j := by decide) (hx : X.env.scope.names.lookup x = some .local := by rfl) (hy : X.env.scope.names.lookup y = some .local := by rfl)
    (hs : swapsWithSole [.Tuple [.Name x px, .Name y py] kt pt] (.Tuple [a, b] k2 pt2) pos.line X.env = pure false := by rfl) : LS X Wx (.Assign [.Tuple [.Name x px, .Name y py] kt pt] (.Tuple [a, b] k2 pt2) pos) (wPar i j wa wb) :=
  PS.weak (ps_par hc hN hi hj hij hx hy ha hw hs) fun D σ H ⟨ρ, μ, E, S, h⟩ => by
    refine lW.bind (w := wArgs [wa, wb]) E S (Q := fun ds μ2 => ∃ x y, ds = [x, y] ∧ (outD X.K Wx μ H D).nx ((ρ.set i (some x)).set j (some y)) μ2) (X := (outD X.K Wx μ H D).ex ρ) ?_ (fun xs μ1 vs H1 F1 S1 E1 r1 h1 => ?_) fun _ _ _ h => OutXE.x S E h
    · exact wa.mono (fun x μ1 q => wb.mono (fun y μ2 q => ⟨x, y, rfl, q⟩) (fun _ _ _ h => h) q) (fun _ _ _ h => h) h
    obtain ⟨x, y, rfl, q⟩ := h1
    obtain ⟨v, u, rfl, a1, a2⟩ := rps2 r1
    exact ⟨v, u, rfl, q _ _ F1 S1 ((E1.set a1 i).set a2 j)⟩
end
end Sq

/-! Loops, comprehensions, methods, keywords, defs. -/
namespace Sq
open PySem PySem.Spec PyProof.Rows L2
section
variable {X : Cx} {Wx : WX}
/-! ### while -/
/-- behind a turn -/
abbrev PD.turn (D : PD) (N : Ev → Mu → Prop) : PD := ⟨N, D.rt, D.nx, N, D.ex⟩
theorem PD.turn_le {D D' : PD} {N N' : Ev → Mu → Prop} (h : D.le D') (hN : ∀ ρ μ, N ρ μ → N' ρ μ) : (D.turn N).le (D'.turn N') := ⟨hN, h.rt, h.nx, hN, h.ex⟩
def wWhile (c : WT) (b : WS) : WS := ⟨fun D ρ μ => ∃ W : Nat → Ev → Mu → Prop, (∃ m, W m ρ μ) ∧ ∀ m ρ μ, W m ρ μ → c.run ρ μ (fun k μ1 => if k = true then b.run (D.turn fun ρ' μ' => ∃ m', m' < m ∧ W m' ρ' μ') ρ μ1 else D.nx ρ μ1) (D.ex ρ),
  fun {D D' ρ μ} h ⟨W, h0, hs⟩ => ⟨W, h0, fun m ρ μ w => c.mono (fun k μ1 q => by
    cases k with
    | true => exact b.mono (PD.turn_le h fun _ _ q => q) q
    | false => exact h.nx _ _ q) (fun _ _ _ q => h.ex _ _ _ _ q) (hs m ρ μ w)⟩⟩
theorem wWhile_run {c : WT} {b : WS} {D : PD} {ρ : Ev} {μ : Mu} : (wWhile c b).run D ρ μ = ∃ W : Nat → Ev → Mu → Prop, (∃ m, W m ρ μ) ∧ ∀ m ρ μ, W m ρ μ → c.run ρ μ (fun k μ1 => if k = true then b.run (D.turn fun ρ' μ' => ∃ m', m' < m ∧ W m' ρ' μ') ρ μ1 else D.nx ρ μ1) (D.ex ρ) := rfl
/-- by an invariant and a measure -/
theorem wWhile_by {c : WT} {b : WS} {D : PD} {ρ : Ev} {μ : Mu} (P : Nat → Ev → Mu → Prop) (m0 : Nat) (h0 : P m0 ρ μ)
    (hs : ∀ m ρ μ, P m ρ μ → c.run ρ μ (fun k μ1 => if k = true then b.run (D.turn fun ρ' μ' => ∃ m', m' < m ∧ P m' ρ' μ') ρ μ1 else D.nx ρ μ1) (D.ex ρ)) : (wWhile c b).run D ρ μ := ⟨P, ⟨m0, h0⟩, hs⟩
theorem ls_while {c : Expr} {body : List Stmt} {pos : Pos} {wc : WT} {wb : WS} (hp : PassesOwn (model X.prog X.w) X.A X.env X.xe) (hc : LT X Wx c wc) (hb : LSs X Wx body wb) : LS X Wx (.While c body [] pos) (wWhile wc wb) :=
  PS.weak (ps_while hp hc hb) fun D σ H ⟨ρ, μ, E, S, W, ⟨m0, h0⟩, hs⟩ => by
    refine ⟨fun m σ' H' => ∃ ρ' μ', EnvR X.K H' ρ' σ' ∧ Sim X.K μ' H' ∧ Fr μ H μ' H' ∧ W m ρ' μ', ⟨m0, ρ, μ, E, S, Fr.refl μ H, h0⟩, ?_⟩
    rintro m σ1 H1 ⟨ρ1, μ1, E1, S1, F1, w1⟩
    refine lW.bind E1 S1 (hs m ρ1 μ1 w1) (fun k μ2 k' H2 F2 S2 E2 r2 q2 => ?_) fun _ _ _ h => OutXE.x S1 E1 (OutXE.trans F1 h)
    subst r2
    cases k with
    | false => exact iteF ((show OutS X.K μ H D.nx ρ1 μ2 from q2) _ _ (F1.trans F2) S2 E2)
    | true =>
      refine iteT ⟨fun σ' H' => ∃ m', m' < m ∧ ∃ ρ' μ', EnvR X.K H' ρ' σ' ∧ Sim X.K μ' H' ∧ Fr μ H μ' H' ∧ W m' ρ' μ', fun _ _ h => h, ρ1, μ2, E2, S2, ?_⟩
      refine wb.mono ⟨?_, fun _ _ h => Out.trans (F1.trans F2) h, fun _ _ h => OutS.trans (F1.trans F2) h, ?_, fun _ _ _ _ h => OutXE.trans (F1.trans F2) h⟩ q2
      all_goals
        rintro ρ' μ' ⟨m', hm, w'⟩ σ' H' F' S' E'
        exact ⟨m', hm, ρ', μ', E', S', F1.trans (F2.trans F'), w'⟩

/-! ### what is walked -/
structure WI where
  run : Ev → Mu → (List D → (Mu → Prop) → Mu → Prop) → XQ → Prop
  mono : ∀ {ρ : Ev} {μ : Mu} {Q Q' : List D → (Mu → Prop) → Mu → Prop} {X X' : XQ}, (∀ ds chk μ', Q ds chk μ' → Q' ds chk μ') → (∀ C d μ', X C d μ' → X' C d μ') → run ρ μ Q X → run ρ μ Q' X'
/-- the iterator J yields the items ds while chk stands -/
structure ItOk (K : PySem.W.Frag) (μ0 : Mu) (H0 : Hp) (J : It) (ds : List D) (chk : Mu → Prop) : Prop where
  stop : ∀ μ H, Fr μ0 H0 μ H → Sim K μ H → chk μ → J.stop ds.length H
  go : ∀ i d μ H, ds[i]? = some d → Fr μ0 H0 μ H → Sim K μ H → chk μ → J.go i H
  yld : ∀ i d μ H x H', ds[i]? = some d → Fr μ0 H0 μ H → Sim K μ H → chk μ → J.yld i H x H' → Fr μ H μ H' ∧ Sim K μ H' ∧ Rp K H' d x
def LI (X : Cx) (Wx : WX) (tg iter : Expr) (wi : WI) : Prop := PI X tg iter (fun σ H R => ∃ ρ μ, EnvR X.K H ρ σ ∧ Sim X.K μ H ∧ wi.run ρ μ (fun ds chk μ1 => ∀ J H1, Fr μ H μ1 H1 → Sim X.K μ1 H1 → ItOk X.K μ1 H1 J ds chk → R J H1) (OutX X.K Wx σ μ H))
theorem PI.weak {X : Cx} {tg iter : Expr} {t t' : TI} (h : PI X tg iter t) (hw : ∀ σ H R, t' σ H R → t σ H R) : PI X tg iter t' := ⟨fun pins s σ H R I q => h.run pins s σ H R I (hw σ H R q)⟩
/-- a list or a tuple -/
def iSeqR (K : PySem.W.Frag) (tl : TE) : TI := fun σ H R => tl σ H fun x H1 => ∃ a, x = .ref a ∧ (((∃ xs, SqL K H1 a xs) ∧ R (Itl K a) H1) ∨ ((∃ xs, SqT K H1 a xs) ∧ R (Itt K a) H1))
theorem pi_seq {tg l : Expr} {tl : TE} (hl : PE X l tl) : PI X tg l (iSeqR X.K tl) := by
  refine ⟨fun pins s σ H R I h => ?_⟩
  refine thn (hl.run pins s σ H _ I h) fun v s1 ⟨x, H1, I1, r1, q1⟩ => ?_
  obtain ⟨a, e, ⟨⟨xs, hq⟩, q⟩ | ⟨⟨xs, hq⟩, q⟩⟩ := q1
  · subst e
    cases r1
    obtain ⟨its, rv, p, hz⟩ := I1.list hq
    refine wpAny_pyIter_list p.isList ?_
    refine ⟨s1.heap.objs.size, [s1.heap.objs.size], _, _, H1, rfl, I1.kept (t' := s1.toks) fun b o e => Heap.get?_push_of_some _ e, turn_list a _, ⟨_, Heap.get?_push_size _ rfl, rfl, rfl⟩, fun b hb => ?_, q⟩
    have e : b = s1.heap.objs.size := by simpa using hb
    subst e
    exact I1.fpOk (Nat.le_refl _) (I1.hok.fresh (Nat.le_refl _))
  · subst e
    cases r1
    obtain ⟨its, rv, p, hz⟩ := I1.tuple hq
    refine wpAny_pyIter_tuple (show s1.heap.IsTuple a its.toArray from p) ?_
    refine ⟨s1.heap.objs.size, [s1.heap.objs.size], _, _, H1, rfl, I1.kept (t' := s1.toks) fun b o e => Heap.get?_push_of_some _ e, turn_tuple a _, ⟨_, Heap.get?_push_size _ rfl, rfl, rfl⟩, fun b hb => ?_, q⟩
    have e : b = s1.heap.objs.size := by simpa using hb
    subst e
    exact I1.fpOk (Nat.le_refl _) (I1.hok.fresh (Nat.le_refl _))
def fSeq (x : D) (μ : Mu) (Q : List D → (Mu → Prop) → Mu → Prop) : Prop := match x with
  | .tup ds => Q ds (fun _ => True) μ
  | .rls ds => Q ds (fun _ => True) μ
  | .ob a => (match μ a with | some (.lst ds) => Q ds (fun μ' => μ' a = some (.lst ds)) μ | _ => False)
  | _ => False
theorem fSeq_tup {ds : List D} {μ : Mu} {Q : List D → (Mu → Prop) → Mu → Prop} : fSeq (.tup ds) μ Q = Q ds (fun _ => True) μ := rfl
theorem fSeq_rls {ds : List D} {μ : Mu} {Q : List D → (Mu → Prop) → Mu → Prop} : fSeq (.rls ds) μ Q = Q ds (fun _ => True) μ := rfl
theorem fSeq_ob {a : Addr} {μ : Mu} {Q : List D → (Mu → Prop) → Mu → Prop} : fSeq (.ob a) μ Q = (match μ a with | some (.lst ds) => Q ds (fun μ' => μ' a = some (.lst ds)) μ | _ => False) := rfl
theorem fSeq_mono {x : D} {μ : Mu} {Q Q' : List D → (Mu → Prop) → Mu → Prop} (hQ : ∀ ds chk μ', Q ds chk μ' → Q' ds chk μ') (h : fSeq x μ Q) : fSeq x μ Q' := by
  cases x with
  | tup ds => exact hQ _ _ _ h
  | rls ds => exact hQ _ _ _ h
  | ob a =>
    rw [fSeq_ob] at h ⊢
    split at h
    · exact hQ _ _ _ h
    · exact h.elim
  | _ => exact h
def wSeqI (a : WE) : WI := ⟨fun ρ μ Q X => a.run ρ μ (fun x μ1 => fSeq x μ1 Q) X, fun hQ hX h => a.mono (fun _ _ h => fSeq_mono hQ h) hX h⟩
theorem wSeqI_run {a : WE} {ρ : Ev} {μ : Mu} {Q : List D → (Mu → Prop) → Mu → Prop} {X : XQ} : (wSeqI a).run ρ μ Q X = a.run ρ μ (fun x μ1 => fSeq x μ1 Q) X := rfl
theorem itOk_tup {K : PySem.W.Frag} {μ : Mu} {H : Hp} {p : Addr} {vs : List V} {ds : List D} (S : Sim K μ H) (t : SqT K H p vs) (r : Rps K H ds vs) : ItOk K μ H (Itt K p) ds (fun _ => True) where
  stop := fun μ' H' F S' _ => ⟨vs, sqT_keep S F t, by rw [r.length]; exact Nat.le_refl _⟩
  go := fun i d μ' H' e F S' _ => by
    obtain ⟨v, h1, _⟩ := r.get e
    exact ⟨vs, v, sqT_keep S F t, h1⟩
  yld := fun i d μ' H' x H2 e F S' _ y => by
    obtain ⟨rfl, y⟩ := y
    have t' := sqT_keep S F t
    obtain ⟨v, h1, h2⟩ := (Rps.keep S F ds r).get e
    have := y vs t'
    rw [h1] at this; cases this
    exact ⟨Fr.refl _ _, S', h2⟩
theorem itOk_rls {K : PySem.W.Frag} {μ : Mu} {H : Hp} {p : Addr} {vs : List V} {ds : List D} (S : Sim K μ H) (t : SqR K H p vs) (r : Rps K H ds vs) : ItOk K μ H (Itl K p) ds (fun _ => True) where
  stop := fun μ' H' F S' _ => ⟨vs, (sqR_keep S F t).l, by rw [r.length]; exact Nat.le_refl _⟩
  go := fun i d μ' H' e F S' _ => by
    obtain ⟨v, h1, _⟩ := r.get e
    exact ⟨vs, v, (sqR_keep S F t).l, h1⟩
  yld := fun i d μ' H' x H2 e F S' _ y => by
    obtain ⟨rfl, y⟩ := y
    have t' := sqR_keep S F t
    obtain ⟨v, h1, h2⟩ := (Rps.keep S F ds r).get e
    have := y vs t'.l
    rw [h1] at this; cases this
    exact ⟨Fr.refl _ _, S', h2⟩
theorem itOk_lst {K : PySem.W.Frag} {μ : Mu} {H : Hp} {a : Addr} {ds : List D} : ItOk K μ H (Itl K a) ds (fun μ' => μ' a = some (.lst ds)) where
  stop := fun μ' H' F S' c => by
    obtain ⟨vs, h1, r⟩ := S'.lst c
    exact ⟨vs, SqL.of h1, by rw [r.length]; exact Nat.le_refl _⟩
  go := fun i d μ' H' e F S' c => by
    obtain ⟨vs, h1, r⟩ := S'.lst c
    obtain ⟨v, h2, _⟩ := r.get e
    exact ⟨vs, v, SqL.of h1, h2⟩
  yld := fun i d μ' H' x H2 e F S' c y => by
    obtain ⟨rfl, y⟩ := y
    obtain ⟨vs, h1, r⟩ := S'.lst c
    obtain ⟨v, h2, h3⟩ := r.get e
    have := y vs (SqL.of h1)
    rw [h2] at this; cases this
    exact ⟨Fr.refl _ _, S', h3⟩
theorem li_seq {tg e : Expr} {w : WE} (he : LE X Wx e w) : LI X Wx tg e (wSeqI w) := PI.weak (pi_seq he) fun σ H R ⟨ρ, μ, E, S, h⟩ => by
  refine lW.bind E S h (fun x μ1 v H1 F1 S1 E1 r1 h1 => ?_) fun _ _ _ h => h
  cases x with
  | tup ds =>
    obtain ⟨p, vs, rfl, t, r⟩ := rp_tup r1
    exact ⟨p, rfl, .inr ⟨⟨vs, t⟩, h1 _ H1 F1 S1 (itOk_tup S1 t r)⟩⟩
  | rls ds =>
    obtain ⟨p, vs, rfl, t, r⟩ := rp_rls r1
    exact ⟨p, rfl, .inl ⟨⟨vs, t.l⟩, h1 _ H1 F1 S1 (itOk_rls S1 t r)⟩⟩
  | ob a =>
    rw [fSeq_ob] at h1
    split at h1
    · rename_i ds e
      obtain ⟨vs, h2, r⟩ := S1.lst e
      exact ⟨a, rp_ob r1, .inl ⟨⟨vs, SqL.of h2⟩, h1 _ H1 F1 S1 itOk_lst⟩⟩
    · exact h1.elim
  | _ => exact h1.elim
/-- range -/
def rangeD (lo : Int) (n : Nat) : List D := (List.range n).map fun i => D.int (lo + (i : Nat))
theorem rangeD_len (lo : Int) (n : Nat) : (rangeD lo n).length = n := by unfold rangeD; simp
theorem rangeD_get {lo : Int} {n i : Nat} {d : D} (h : (rangeD lo n)[i]? = some d) : i < n ∧ d = .int (lo + (i : Nat)) := by
  unfold rangeD at h
  rw [List.getElem?_map] at h
  by_cases hi : i < n
  · rw [List.getElem?_range hi] at h
    cases h
    exact ⟨hi, rfl⟩
  · rw [List.getElem?_eq_none (by simpa using hi)] at h
    cases h
theorem itOk_rng {K : PySem.W.Frag} {μ : Mu} {H : Hp} {lo : Int} {n : Nat} : ItOk K μ H (Itr lo n) (rangeD lo n) (fun _ => True) where
  stop := fun μ' H' F S' _ => by show n ≤ _; rw [rangeD_len]; exact Nat.le_refl _
  go := fun i d μ' H' e F S' _ => (rangeD_get e).1
  yld := fun i d μ' H' x H2 e F S' _ y => by
    obtain ⟨rfl, rfl⟩ := y
    rw [(rangeD_get e).2]
    exact ⟨Fr.refl _ _, S', rfl⟩
def fRng1 (ds : List D) (μ : Mu) (Q : List D → (Mu → Prop) → Mu → Prop) : Prop := match ds with
  | [.int j] => -(2 ^ 62) ≤ j ∧ j < 2 ^ 62 ∧ Q (rangeD 0 j.toNat) (fun _ => True) μ
  | _ => False
theorem fRng1_inv {ds : List D} {μ : Mu} {Q : List D → (Mu → Prop) → Mu → Prop} (h : fRng1 ds μ Q) : ∃ j, ds = [.int j] ∧ -(2 ^ 62) ≤ j ∧ j < 2 ^ 62 ∧ Q (rangeD 0 j.toNat) (fun _ => True) μ := by
  unfold fRng1 at h
  split at h
  · exact ⟨_, rfl, h⟩
  · exact h.elim
def wRng1 (a : WE) : WI := ⟨fun ρ μ Q X => runAll [a] ρ μ (fun ds μ1 => fRng1 ds μ1 Q) X, fun hQ hX h => runAll_mono (fun _ _ h => by
  obtain ⟨j, rfl, h1, h2, q⟩ := fRng1_inv h
  exact ⟨h1, h2, hQ _ _ _ q⟩) hX h⟩
theorem wRng1_run {a : WE} {ρ : Ev} {μ : Mu} {Q : List D → (Mu → Prop) → Mu → Prop} {X : XQ} : (wRng1 a).run ρ μ Q X = runAll [a] ρ μ (fun ds μ1 => fRng1 ds μ1 Q) X := rfl
theorem fRng1_int {j : Int} {μ : Mu} {Q : List D → (Mu → Prop) → Mu → Prop} : fRng1 [.int j] μ Q = (-(2 ^ 62) ≤ j ∧ j < 2 ^ 62 ∧ Q (rangeD 0 j.toNat) (fun _ => True) μ) := rfl
theorem li_rng1 {tg a : Expr} {wa : WE} {p pos : Pos} (hm : X.mg "range" = none) (ha : LAs X Wx [a] [wa]) (hg : Gl X "range" := by rfl) (hs : starEach [a] X.env = [(false, eval a X.env)] := by rfl) : LI X Wx tg (.Call (.Name "range" p) [a] [] pos) (wRng1 wa) :=
  PI.weak (pi_range1 hg hm ha hs) fun σ H R ⟨ρ, μ, E, S, h⟩ => by
    refine lW.bind (w := wArgs [wa]) E S h (fun xs μ1 vs H1 F1 S1 E1 r1 h1 => ?_) fun _ _ _ h => h
    obtain ⟨j, rfl, h2, h3, q⟩ := fRng1_inv h1
    obtain ⟨v, rfl, r⟩ := rps1 r1
    rw [rp_int r]
    exact ⟨j, rfl, h2, h3, q _ H1 F1 S1 itOk_rng⟩
def fRng2 (ds : List D) (μ : Mu) (Q : List D → (Mu → Prop) → Mu → Prop) : Prop := match ds with
  | [.int i, .int j] => (-(2 ^ 62) ≤ i ∧ i < 2 ^ 62 ∧ -(2 ^ 62) ≤ j ∧ j < 2 ^ 62) ∧ Q (rangeD i (j - i).toNat) (fun _ => True) μ
  | _ => False
theorem fRng2_int {i j : Int} {μ : Mu} {Q : List D → (Mu → Prop) → Mu → Prop} : fRng2 [.int i, .int j] μ Q = ((-(2 ^ 62) ≤ i ∧ i < 2 ^ 62 ∧ -(2 ^ 62) ≤ j ∧ j < 2 ^ 62) ∧ Q (rangeD i (j - i).toNat) (fun _ => True) μ) := rfl
theorem fRng2_inv {ds : List D} {μ : Mu} {Q : List D → (Mu → Prop) → Mu → Prop} (h : fRng2 ds μ Q) : ∃ i j, ds = [.int i, .int j] ∧ (-(2 ^ 62) ≤ i ∧ i < 2 ^ 62 ∧ -(2 ^ 62) ≤ j ∧ j < 2 ^ 62) ∧ Q (rangeD i (j - i).toNat) (fun _ => True) μ := by
  unfold fRng2 at h
  split at h
  · exact ⟨_, _, rfl, h⟩
  · exact h.elim
def wRng2 (a b : WE) : WI := ⟨fun ρ μ Q X => runAll [a, b] ρ μ (fun ds μ1 => fRng2 ds μ1 Q) X, fun hQ hX h => runAll_mono (fun _ _ h => by
  obtain ⟨i, j, rfl, h1, q⟩ := fRng2_inv h
  exact ⟨h1, hQ _ _ _ q⟩) hX h⟩
theorem wRng2_run {a b : WE} {ρ : Ev} {μ : Mu} {Q : List D → (Mu → Prop) → Mu → Prop} {X : XQ} : (wRng2 a b).run ρ μ Q X = runAll [a, b] ρ μ (fun ds μ1 => fRng2 ds μ1 Q) X := rfl
theorem li_rng2 {tg a b : Expr} {wa wb : WE} {p pos : Pos} (hm : X.mg "range" = none) (ha : LAs X Wx [a, b] [wa, wb]) (hg : Gl X "range" := by rfl) (hs : starEach [a, b] X.env = [(false, eval a X.env), (false, eval b X.env)] := by rfl) (hs2 : starEach [b] X.env = [(false, eval b X.env)] := by rfl) : LI X Wx tg (.Call (.Name "range" p) [a, b] [] pos) (wRng2 wa wb) :=
  PI.weak (pi_range2 hg hm ha hs hs2) fun σ H R ⟨ρ, μ, E, S, h⟩ => by
    refine lW.bind (w := wArgs [wa, wb]) E S h (fun xs μ1 vs H1 F1 S1 E1 r1 h1 => ?_) fun _ _ _ h => h
    obtain ⟨i, j, rfl, h2, q⟩ := fRng2_inv h1
    obtain ⟨v, u, rfl, r, r'⟩ := rps2 r1
    rw [rp_int r, rp_int r']
    exact ⟨i, j, rfl, h2, q _ H1 F1 S1 itOk_rng⟩

/-! ### for -/
def forW (g : WG) (b : WS) (chk : Mu → Prop) : List D → PD → Ev → Mu → Prop
  | [], D, ρ, μ => chk μ ∧ D.nx ρ μ
  | d :: ds, D, ρ, μ => chk μ ∧ g.run d ρ μ (fun ρ1 μ1 => b.run (D.turn fun ρ2 μ2 => forW g b chk ds D ρ2 μ2) ρ1 μ1) D.ex
theorem forW_nil {g : WG} {b : WS} {chk : Mu → Prop} {D : PD} {ρ : Ev} {μ : Mu} : forW g b chk [] D ρ μ = (chk μ ∧ D.nx ρ μ) := rfl
theorem forW_cons {g : WG} {b : WS} {chk : Mu → Prop} {d : Sq.D} {ds : List Sq.D} {D : PD} {ρ : Ev} {μ : Mu} : forW g b chk (d :: ds) D ρ μ = (chk μ ∧ g.run d ρ μ (fun ρ1 μ1 => b.run (D.turn fun ρ2 μ2 => forW g b chk ds D ρ2 μ2) ρ1 μ1) D.ex) := rfl
theorem forW_mono {g : WG} {b : WS} {chk : Mu → Prop} {D D' : PD} (h : D.le D') : ∀ {ds : List Sq.D} {ρ : Ev} {μ : Mu}, forW g b chk ds D ρ μ → forW g b chk ds D' ρ μ
  | [], _, _, q => ⟨q.1, h.nx _ _ q.2⟩
  | d :: ds, _, _, q => ⟨q.1, g.mono (fun _ _ q => b.mono (PD.turn_le h fun _ _ q => forW_mono h q) q) h.ex q.2⟩
/-- by an invariant over the turn's number -/
theorem forW_by {g : WG} {b : WS} {chk : Mu → Prop} {D : PD} {ds : List Sq.D} (P : Nat → Ev → Mu → Prop) (hc : ∀ i ρ μ, i ≤ ds.length → P i ρ μ → chk μ)
    (hs : ∀ i d ρ μ, ds[i]? = some d → P i ρ μ → g.run d ρ μ (fun ρ1 μ1 => b.run (D.turn fun ρ2 μ2 => P (i + 1) ρ2 μ2) ρ1 μ1) D.ex) (hd : ∀ ρ μ, P ds.length ρ μ → D.nx ρ μ) {ρ : Ev} {μ : Mu} (h0 : P 0 ρ μ) : forW g b chk ds D ρ μ := by
  have key : ∀ (n : Nat) (i : Nat) (ρ : Ev) (μ : Mu), i + n = ds.length → P i ρ μ → forW g b chk (ds.drop i) D ρ μ := by
    intro n
    induction n with
    | zero =>
      intro i ρ μ hi p
      have e : i = ds.length := by omega
      subst e
      rw [List.drop_length]
      exact ⟨hc _ _ _ (Nat.le_refl _) p, hd _ _ p⟩
    | succ n ih =>
      intro i ρ μ hi p
      have hlt : i < ds.length := by omega
      rw [List.drop_eq_getElem_cons hlt]
      refine ⟨hc _ _ _ (Nat.le_of_lt hlt) p, g.mono (fun ρ1 μ1 q => b.mono (PD.turn_le (PD.le.refl D) fun ρ2 μ2 q => ih (i + 1) ρ2 μ2 (by omega) q) q) (fun _ _ _ _ q => q) (hs i _ ρ μ (by simp [hlt]) p)⟩
  have := key ds.length 0 ρ μ (by omega) h0
  rwa [List.drop_zero] at this
def wFor (wi : WI) (g : WG) (b : WS) : WS := ⟨fun D ρ μ => wi.run ρ μ (fun ds chk μ1 => forW g b chk ds D ρ μ1) (D.ex ρ), fun h q => wi.mono (fun _ _ _ q => forW_mono h q) (fun _ _ _ q => h.ex _ _ _ _ q) q⟩
theorem wFor_run {wi : WI} {g : WG} {b : WS} {D : PD} {ρ : Ev} {μ : Mu} : (wFor wi g b).run D ρ μ = wi.run ρ μ (fun ds chk μ1 => forW g b chk ds D ρ μ1) (D.ex ρ) := rfl
theorem ls_for {tg iter : Expr} {body : List Stmt} {pos : Pos} {wi : WI} {g : WG} {wb : WS} (hp : PassesOwn (model X.prog X.w) X.A X.env X.xe) (hi : LI X Wx tg iter wi) (hg : LG X Wx tg g) (hb : LSs X Wx body wb) (hc : X.calm = true := by rfl)
    (hs : ∀ x, foldedSetIterable iter X.env x = pure x := by intro _; rfl) : LS X Wx (.For tg iter body [] pos) (wFor wi g wb) := PS.weak (ps_for hp hc hi hg hb hs) fun D σ H ⟨ρ, μ, E, S, h⟩ => by
  refine ⟨ρ, μ, E, S, wi.mono (fun ds chk μ1 q J H1 F1 S1 ok => ?_) (fun _ _ _ q => OutXE.x S E q) h⟩
  refine ⟨fun i m σ' H' => ∃ ρ' μ', i + m = ds.length ∧ EnvR X.K H' ρ' σ' ∧ Sim X.K μ' H' ∧ Fr μ1 H1 μ' H' ∧ forW g wb chk (ds.drop i) (outD X.K Wx μ H D) ρ' μ', ⟨ds.length, ρ, μ1, by omega, E.keep S F1, S1, Fr.refl _ _, by rw [List.drop_zero]; exact q⟩, ?_⟩
  rintro i m σ2 H2 ⟨ρ2, μ2, hm, E2, S2, F2, q2⟩
  by_cases hlt : i < ds.length
  · rw [List.drop_eq_getElem_cons hlt] at q2
    obtain ⟨hchk, q2⟩ := q2
    have hd : ds[i]? = some ds[i] := by simp [hlt]
    refine .inr ⟨ok.go i _ μ2 H2 hd F2 S2 hchk, fun σ' H' => ∃ m', m' < m ∧ ∃ ρ' μ', i + 1 + m' = ds.length ∧ EnvR X.K H' ρ' σ' ∧ Sim X.K μ' H' ∧ Fr μ1 H1 μ' H' ∧ forW g wb chk (ds.drop (i + 1)) (outD X.K Wx μ H D) ρ' μ', fun _ _ h => h, fun x H3 y => ?_⟩
    obtain ⟨F3, S3, r3⟩ := ok.yld i _ μ2 H2 x H3 hd F2 S2 hchk y
    refine ⟨ρ2, μ2, ds[i], E2.keep S2 F3, S3, r3, g.mono (fun ρ4 μ4 q4 σ4 H4 F4 S4 E4 => ?_) (fun _ _ _ _ h => OutXE.trans (F1.trans (F2.trans F3)) h) q2⟩
    refine ⟨ρ4, μ4, E4, S4, wb.mono ⟨?_, fun _ _ h => Out.trans (F1.trans (F2.trans (F3.trans F4))) h, fun _ _ h => OutS.trans (F1.trans (F2.trans (F3.trans F4))) h, ?_, fun _ _ _ _ h => OutXE.trans (F1.trans (F2.trans (F3.trans F4))) h⟩ q4⟩
    all_goals
      rintro ρ5 μ5 q5 σ5 H5 F5 S5 E5
      exact ⟨m - 1, by omega, ρ5, μ5, by omega, E5, S5, F2.trans (F3.trans (F4.trans F5)), q5⟩
  · have e : i = ds.length := by omega
    subst e
    rw [List.drop_length] at q2
    exact .inl ⟨ok.stop μ2 H2 F2 S2 q2.1, (show OutS X.K μ H D.nx ρ2 μ2 from q2.2) _ _ (F1.trans F2) S2 E2⟩
end
end Sq

/-! Comprehensions, methods, keywords, defs. -/
namespace Sq
open PySem PySem.Spec PyProof.Rows L2

/-! ### tuples are kept -/
def TupK (K : PySem.W.Frag) (H H' : Hp) : Prop := (∀ p vs, SqT K H p vs → SqT K H' p vs) ∧ ∀ p vs, SqR K H p vs → SqR K H' p vs
mutual
theorem Rp.keepT {K : PySem.W.Frag} {H H' : Hp} (T : TupK K H H') : ∀ (d : D) {v : V}, Rp K H d v → Rp K H' d v
  | .non, _, h => h
  | .bl _, _, h => h
  | .int _, _, h => h
  | .str _, _, h => h
  | .tup ds, _, h => by
    unfold Rp at h ⊢
    obtain ⟨p, vs, e, q, r⟩ := h
    exact ⟨p, vs, e, T.1 p vs q, Rps.keepT T ds r⟩
  | .ob _, _, h => h
  | .rls ds, _, h => by
    unfold Rp at h ⊢
    obtain ⟨p, vs, e, q, r⟩ := h
    exact ⟨p, vs, e, T.2 p vs q, Rps.keepT T ds r⟩
theorem Rps.keepT {K : PySem.W.Frag} {H H' : Hp} (T : TupK K H H') : ∀ (ds : List D) {vs : List V}, Rps K H ds vs → Rps K H' ds vs
  | [], _, h => h
  | d :: ds, _, h => by
    unfold Rps at h ⊢
    obtain ⟨w, ws, e, a, b⟩ := h
    exact ⟨w, ws, e, Rp.keepT T d a, Rps.keepT T ds b⟩
end
theorem tupK_lst {K : PySem.W.Frag} {H : Hp} {a : Addr} {vs : List V} {o : HO} (h : H a = some (.lst vs)) : TupK K H (upd H a o) := by
 refine ⟨fun p us q => ?_, fun p us q => ?_⟩
 · rcases q with (q | ⟨u, q⟩) | q
   · exact .inl (.inl (by rw [upd_ne (fun z => by rw [z, h] at q; cases q)]; exact q))
   · exact .inl (.inr ⟨u, by rw [upd_ne (fun z => by rw [z, h] at q; cases q)]; exact q⟩)
   · exact .inr q
 · rcases q with ⟨u, q⟩ | q
   · exact .inl ⟨u, by rw [upd_ne (fun z => by rw [z, h] at q; cases q)]; exact q⟩
   · exact .inr q
theorem TupK.of_fr {K : PySem.W.Frag} {μ μ' : Mu} {H H' : Hp} (S : Sim K μ H) (F : Fr μ H μ' H') : TupK K H H' := ⟨fun _ _ q => sqT_keep S F q, fun _ _ q => sqR_keep S F q⟩
theorem EnvR.keepT {K : PySem.W.Frag} {H H' : Hp} (T : TupK K H H') : ∀ {ρ : Ev} {σ : L2.St}, EnvR K H ρ σ → EnvR K H' ρ σ
  | [], _, h => h
  | e :: ρ, _, h => by
    unfold EnvR at h ⊢
    obtain ⟨s, σ', rfl, a, b⟩ := h
    refine ⟨s, σ', rfl, fun d q => ?_, EnvR.keepT T b⟩
    obtain ⟨v, h1, h2⟩ := a d q
    exact ⟨v, h1, Rp.keepT T d h2⟩
/-- a list that is not in the store is written -/
theorem sim_out {K : PySem.W.Frag} {μ : Mu} {H : Hp} {a : Addr} {vs us : List V} (S : Sim K μ H) (h : H a = some (.lst vs)) (n : μ a = none) : Sim K μ (upd H a (.lst us)) := ⟨fun b o e => by
  have hb : b ≠ a := ne_free e n
  have q := S.at_ b o e
  have ck : ∀ {c : Addr} {q : Str}, CodeK H c q → CodeK (upd H a (.lst us)) c q := fun {c q} ⟨oc, vs, e, k⟩ => ⟨oc, vs, e, by rw [upd_ne (fun z => by rw [z, h] at k; cases k)]; exact k⟩
  cases o with
  | lst ds =>
    obtain ⟨ws, h1, r⟩ := q
    exact ⟨ws, by rw [upd_ne hb]; exact h1, Rps.keepT (tupK_lst h) ds r⟩
  | exc C d =>
    obtain ⟨dx, v, h1, h2, r⟩ := q
    exact ⟨dx, v, by rw [upd_ne hb]; exact h1, by rw [upd_ne (fun z => by rw [z, h] at h2; cases h2)]; exact h2, Rp.keepT (tupK_lst h) d r⟩
  | dct ks ds =>
    obtain ⟨ws, h1, hl, r⟩ := q
    exact ⟨ws, by rw [upd_ne hb]; exact h1, hl, Rps.keepT (tupK_lst h) ds r⟩
  | dtt ks ds =>
    obtain ⟨ws, h1, hl, r⟩ := q
    exact ⟨ws, by rw [upd_ne hb]; exact h1, hl, Rps.keepT (tupK_lst h) ds r⟩
  | lam t =>
    obtain ⟨pm, c', ctv, h1, k⟩ := q
    exact ⟨pm, c', ctv, by rw [upd_ne hb]; exact h1, ck k⟩
  | tab q =>
    obtain ⟨ps, h1, h2, k⟩ := q
    exact ⟨ps, by rw [upd_ne hb]; exact h1, h2, fun pos cv z => by
      obtain ⟨c, ec, kc⟩ := k pos cv z
      exact ⟨c, ec, ck kc⟩⟩⟩

/-! ### comprehensions -/
abbrev XF : XQ := fun _ _ _ => False
abbrev W0 : WX := fun _ _ _ _ => False
def wipeE (ρ : Ev) : List Nat → Ev
  | [] => ρ
  | v :: vs => (wipeE ρ vs).set v none
theorem wipe_env {K : PySem.W.Frag} {H : Hp} {ρ : Ev} {σ : L2.St} (E : EnvR K H ρ σ) : ∀ vs, EnvR K H (wipeE ρ vs) (wipe σ vs)
  | [] => E
  | v :: vs => (wipe_env E vs).wipe v none
theorem wipe_get (σ : L2.St) (j : Nat) : ∀ vs : List Nat, (wipe σ vs)[j]? = if j ∈ vs then (if j < σ.length then some none else none) else σ[j]?
  | [] => by simp [wipe]
  | v :: vs => by
    unfold wipe
    rw [List.getElem?_set, wipe_get σ j vs, wipe_length]
    by_cases h : v = j
    · subst h
      simp
    · have h' : ¬ j = v := fun e => h e.symm
      simp [h, h']
theorem wipe_set {σ : L2.St} {i : Nat} {s : Option V} {vs : List Nat} (hi : i ∈ vs) : wipe (σ.set i s) vs = wipe σ vs := by
  apply List.ext_getElem?
  intro j
  rw [wipe_get, wipe_get, List.length_set]
  by_cases h : j ∈ vs
  · simp [h]
  · have : i ≠ j := fun e => h (e ▸ hi)
    simp [h, List.getElem?_set_ne this]
theorem wipe_wipe (σ : L2.St) (vs : List Nat) : wipe (wipe σ vs) vs = wipe σ vs := by
  apply List.ext_getElem?
  intro j
  rw [wipe_get, wipe_get, wipe_length]
  by_cases h : j ∈ vs <;> simp [h]
/-- a comprehension's target: a name, or names that a tuple goes to -/
inductive CT where
  | one (i : Nat) | many (is : List Nat)
def CT.slots : CT → List Nat
  | .one i => [i]
  | .many is => is
def setAll : List Nat → List D → Ev → Option Ev
  | [], [], ρ => some ρ
  | i :: is, d :: ds, ρ => setAll is ds (ρ.set i (some d))
  | _, _, _ => none
def CT.set (t : CT) (d : D) (ρ : Ev) : Option Ev := match t with
  | .one i => some (ρ.set i (some d))
  | .many is => (match d with | .tup ds => setAll is ds ρ | _ => none)
theorem CT.set_one {i : Nat} {d : D} {ρ : Ev} : (CT.one i).set d ρ = some (ρ.set i (some d)) := rfl
theorem CT.set_many {is : List Nat} {ds : List D} {ρ : Ev} : (CT.many is).set (.tup ds) ρ = setAll is ds ρ := rfl
def gNames : List Nat → TGs
  | [] => gNil
  | i :: is => gCons (gName i) (gNames is)
def CT.tg (K : PySem.W.Frag) : CT → TG
  | .one i => gName i
  | .many is => gTup K is.length (gNames is)
theorem gNames_ok {K : PySem.W.Frag} {H : Hp} {Q : L2.St → Hp → Prop} (vs : List Nat) : ∀ {is : List Nat} {ds : List D} {us : List V} {ρ ρ1 : Ev} {σ : L2.St}, (∀ i ∈ is, i ∈ vs) → Rps K H ds us → EnvR K H ρ σ → setAll is ds ρ = some ρ1 →
    (∀ σ1, EnvR K H ρ1 σ1 → wipe σ1 vs = wipe σ vs → Q σ1 H) → gNames is us σ H Q
  | [], [], _, _, _, _, _, R, E, h, k => by
    unfold Rps at R
    cases h
    exact ⟨R, k _ E rfl⟩
  | i :: is, d :: ds, _, _, _, _, hi, R, E, h, k => by
    unfold Rps at R
    obtain ⟨w, ws, rfl, r1, r2⟩ := R
    refine ⟨w, ws, rfl, gNames_ok vs (fun j hj => hi j (List.mem_cons_of_mem _ hj)) r2 (E.set r1 i) h fun σ1 E1 e => k σ1 E1 ?_⟩
    rw [e, wipe_set (hi i List.mem_cons_self)]
  | [], _ :: _, _, _, _, _, _, _, _, h, _ => by cases h
  | _ :: _, [], _, _, _, _, _, _, _, h, _ => by cases h
theorem setAll_len : ∀ {is : List Nat} {ds : List D} {ρ ρ1 : Ev}, setAll is ds ρ = some ρ1 → ds.length = is.length
  | [], [], _, _, _ => rfl
  | _ :: is, _ :: ds, _, _, h => by simp [setAll_len (is := is) (ds := ds) h]
  | [], _ :: _, _, _, h => by cases h
  | _ :: _, [], _, _, h => by cases h
theorem CT.ok {K : PySem.W.Frag} {H : Hp} {Q : L2.St → Hp → Prop} {t : CT} {d : D} {v : V} {ρ ρ1 : Ev} {σ : L2.St} (R : Rp K H d v) (E : EnvR K H ρ σ) (h : t.set d ρ = some ρ1) (k : ∀ σ1, EnvR K H ρ1 σ1 → wipe σ1 t.slots = wipe σ t.slots → Q σ1 H) : t.tg K v σ H Q := by
  cases t with
  | one i =>
    cases h
    exact k _ (E.set R i) (wipe_set (by simp [CT.slots]))
  | many is =>
    cases d <;> first
      | (unfold CT.set at h; cases h; done)
      | (obtain ⟨p, us, rfl, q, r⟩ := rp_tup R
         exact ⟨p, us, rfl, q, by rw [r.length]; exact setAll_len h, gNames_ok is (fun _ h => h) r E h k⟩)
def lcG (t : CT) (tt : WT) (te : WE) (chk : Mu → Prop) : List D → List D → Ev → Mu → (List D → Mu → Prop) → Prop
  | [], acc, _, μ, k => chk μ ∧ k acc μ
  | d :: ds, acc, ρ, μ, k => chk μ ∧ (match t.set d ρ with
    | some ρ1 => tt.run ρ1 μ (fun b μ1 => if b = true then te.run ρ1 μ1 (fun y μ2 => lcG t tt te chk ds (acc ++ [y]) ρ μ2 k) XF else lcG t tt te chk ds acc ρ μ1 k) XF
    | none => False)
theorem lcG_nil {t : CT} {tt : WT} {te : WE} {chk : Mu → Prop} {acc : List D} {ρ : Ev} {μ : Mu} {k : List D → Mu → Prop} : lcG t tt te chk [] acc ρ μ k = (chk μ ∧ k acc μ) := rfl
theorem lcG_cons {t : CT} {tt : WT} {te : WE} {chk : Mu → Prop} {d : D} {ds acc : List D} {ρ : Ev} {μ : Mu} {k : List D → Mu → Prop} : lcG t tt te chk (d :: ds) acc ρ μ k = (chk μ ∧ (match t.set d ρ with
    | some ρ1 => tt.run ρ1 μ (fun b μ1 => if b = true then te.run ρ1 μ1 (fun y μ2 => lcG t tt te chk ds (acc ++ [y]) ρ μ2 k) XF else lcG t tt te chk ds acc ρ μ1 k) XF
    | none => False)) := rfl
theorem lcG_mono {t : CT} {tt : WT} {te : WE} {chk : Mu → Prop} {k k' : List D → Mu → Prop} (hk : ∀ acc μ, k acc μ → k' acc μ) : ∀ {ds acc : List D} {ρ : Ev} {μ : Mu}, lcG t tt te chk ds acc ρ μ k → lcG t tt te chk ds acc ρ μ k'
  | [], _, _, _, h => ⟨h.1, hk _ _ h.2⟩
  | d :: ds, acc, ρ, μ, h => by
    refine ⟨h.1, ?_⟩
    have h2 := h.2
    revert h2
    cases t.set d ρ with
    | none => exact id
    | some ρ1 =>
      exact fun h2 => tt.mono (fun b μ1 q => by
        cases b with
        | true => exact te.mono (fun y μ2 q => lcG_mono hk q) (fun _ _ _ q => q) q
        | false => exact lcG_mono hk q) (fun _ _ _ q => q) h2
def wLc (wi : WI) (t : CT) (tt : WT) (te : WE) : WE := ⟨fun ρ μ Q X => wi.run ρ μ (fun ds chk μ1 => ds.length ≤ sizeLine ∧ lcG t tt te chk ds [] (wipeE ρ t.slots) μ1 fun acc μ2 => ∀ p, μ2 p = none → Q (.ob p) (mset μ2 p (.lst acc))) X,
  fun hQ hX h => wi.mono (fun _ _ _ q => ⟨q.1, lcG_mono (fun _ _ q p hp => hQ _ _ (q p hp)) q.2⟩) hX h⟩
theorem wLc_run {wi : WI} {t : CT} {tt : WT} {te : WE} {ρ : Ev} {μ : Mu} {Q : PQ} {X : XQ} : (wLc wi t tt te).run ρ μ Q X = wi.run ρ μ (fun ds chk μ1 => ds.length ≤ sizeLine ∧ lcG t tt te chk ds [] (wipeE ρ t.slots) μ1 fun acc μ2 => ∀ p, μ2 p = none → Q (.ob p) (mset μ2 p (.lst acc))) X := rfl
/-- no test -/
def wYes : WT := ⟨fun _ μ Q _ => Q true μ, fun hQ _ h => hQ _ _ h⟩
theorem wYes_run {ρ : Ev} {μ : Mu} {Q : Bool → Mu → Prop} {X : XQ} : wYes.run ρ μ Q X = Q true μ := rfl
def LPs (X : Cx) (ifs : List Expr) (w : WT) : Prop := PTs X ifs (lT X.K W0 w)
theorem lps_nil {X : Cx} : LPs X [] wYes := ⟨fun pins s σ H Q I ⟨ρ, μ, E, S, h⟩ => pts_nil.run pins s σ H Q I ((show Out (fun (_ : Hp) (b c : Bool) => b = c) X.K μ H Q true μ from h) _ _ (Fr.refl μ H) S rfl)⟩
theorem lps_one {X : Cx} {c : Expr} {w : WT} (h : LT X W0 c w) : LPs X [c] w := pts_one h
section
variable {X : Cx} {Wx : WX}
theorem wLc_t {wi : WI} {t : CT} {tt : WT} {te : WE} {vs : List Nat} {P : L2.St → L2.St → Prop} (hv : vs = t.slots) (hP : ∀ σ σ2, wipe σ2 vs = wipe σ vs → P σ σ2) : ∀ σ H Q, lE X.K Wx (wLc wi t tt te) σ H Q →
    tLc (fun σ H R => ∃ ρ μ, EnvR X.K H ρ σ ∧ Sim X.K μ H ∧ wi.run ρ μ (fun ds chk μ1 => ∀ J H1, Fr μ H μ1 H1 → Sim X.K μ1 H1 → ItOk X.K μ1 H1 J ds chk → R J H1) (OutX X.K Wx σ μ H)) (t.tg X.K) (lT X.K W0 tt) (fun σ2 H2 Q2 => P σ σ2 ∧ lE X.K W0 te σ2 H2 Q2) vs σ H Q := fun σ H Q ⟨ρ, μ, E, S, h⟩ => by
  subst hv
  refine ⟨ρ, μ, E, S, wi.mono (fun ds chk μ1 q J H1 F1 S1 ok D hD => ?_) (fun _ _ _ q => q) h⟩
  obtain ⟨hlen, q⟩ := q
  have Ew : EnvR X.K H1 (wipeE ρ t.slots) (wipe σ t.slots) := wipe_env (E.keep S F1) _
  have nD : μ1 D = none := S1.free hD
  refine ⟨fun i m H' => ∃ acc vacc μ', i + m = ds.length ∧ acc.length ≤ i ∧ Sim X.K μ' H' ∧ Fr μ1 H1 μ' H' ∧ H' D = some (.lst vacc) ∧ μ' D = none ∧ Rps X.K H' acc vacc ∧ lcG t tt te chk (ds.drop i) acc (wipeE ρ t.slots) μ' fun acc μ2 => ∀ p, μ2 p = none → Out (Rp X.K) X.K μ H Q (.ob p) (mset μ2 p (.lst acc)),
    ⟨ds.length, [], [], μ1, by omega, Nat.le_refl _, sim_tup S1 hD, fr_tup hD, upd_same, nD, rfl, by rw [List.drop_zero]; exact q⟩, ?_⟩
  rintro i m H2 ⟨acc, vacc, μ2, hm, hl, S2, F2, hD2, nD2, R2, q2⟩
  by_cases hlt : i < ds.length
  · rw [List.drop_eq_getElem_cons hlt] at q2
    obtain ⟨hchk, q2⟩ := q2
    have hd : ds[i]? = some ds[i] := by simp [hlt]
    refine .inr ⟨ok.go i _ μ2 H2 hd F2 S2 hchk, fun H' => ∃ m', m' < m ∧ ∃ acc vacc μ', i + 1 + m' = ds.length ∧ acc.length ≤ i + 1 ∧ Sim X.K μ' H' ∧ Fr μ1 H1 μ' H' ∧ H' D = some (.lst vacc) ∧ μ' D = none ∧ Rps X.K H' acc vacc ∧ lcG t tt te chk (ds.drop (i + 1)) acc (wipeE ρ t.slots) μ' fun acc μ2 => ∀ p, μ2 p = none → Out (Rp X.K) X.K μ H Q (.ob p) (mset μ2 p (.lst acc)), fun _ h => h, fun x H3 y => ?_⟩
    obtain ⟨F3, S3, r3⟩ := ok.yld i _ μ2 H2 x H3 hd F2 S2 hchk y
    have Ew3 : EnvR X.K H3 (wipeE ρ t.slots) (wipe σ t.slots) := (Ew.keep S1 F2).keep S2 F3
    cases hset : t.set ds[i] (wipeE ρ t.slots) with
    | none => rw [hset] at q2; exact q2.elim
    | some ρ1 =>
      rw [hset] at q2
      refine CT.ok r3 Ew3 hset fun σ1 E1 ew => ?_
      have ew2 : wipe σ1 t.slots = wipe σ t.slots := by rw [ew, wipe_wipe]
      refine ⟨ew2, ?_⟩
      have hD3 := F3 D _ hD2 (fun _ z => by cases z) nD2
      refine lW.bind E1 S3 q2 (fun b μ4 b' H4 F4 S4 E4 r4 q4 => ?_) fun _ _ _ z => z.elim
      subst r4
      have hD4 := F4 D _ hD3.1 (fun _ z => by cases z) hD3.2
      have R4 : Rps X.K H4 acc vacc := Rps.keep S3 F4 acc (Rps.keep S2 F3 acc R2)
      cases b with
      | false => exact iteF ⟨m - 1, by omega, acc, vacc, μ4, by omega, by omega, S4, F2.trans (F3.trans F4), hD4.1, hD4.2, R4, q4⟩
      | true =>
        refine iteT ⟨hP σ σ1 ew2, lW.bind E4 S4 q4 (fun y μ5 v5 H5 F5 S5 E5 r5 q5 => ?_) fun _ _ _ z => z.elim⟩
        have hD5 := F5 D _ hD4.1 (fun _ z => by cases z) hD4.2
        have R5 : Rps X.K H5 acc vacc := Rps.keep S4 F5 acc R4
        refine ⟨vacc, hD5.1, by rw [R5.length]; omega, m - 1, by omega, acc ++ [y], vacc ++ [v5], μ5, by omega, by rw [List.length_append]; exact Nat.succ_le_succ hl, sim_out S5 hD5.1 hD5.2, ?_, upd_same, hD5.2, ?_, q5⟩
        · have FF := F2.trans (F3.trans (F4.trans F5))
          intro b o e n z
          have := FF b o e n z
          exact ⟨by rw [upd_ne (ne_of_none e hD)]; exact this.1, this.2⟩
        · exact Rps.keepT (tupK_lst hD5.1) _ (R5.append (by unfold Rps; exact ⟨_, _, rfl, r5, rfl⟩))
  · have e : i = ds.length := by omega
    subst e
    rw [List.drop_length] at q2
    obtain ⟨hchk, q2⟩ := q2
    refine .inl ⟨ok.stop μ2 H2 F2 S2 hchk, q2 D nD2 (.ref D) H2 ?_ ⟨fun b o e => ?_⟩ rfl⟩
    · intro b o e n z
      have h1 := F1 b o e n z
      have h2 := F2 b o h1.1 n h1.2
      exact ⟨h2.1, by rw [mset_ne (ne_of_none h1.1 hD)]; exact h2.2⟩
    · by_cases hb : b = D
      · subst hb
        rw [mset_same] at e; cases e
        exact ⟨vacc, hD2, R2⟩
      · rw [mset_ne hb] at e
        exact S2.at_ b o e
theorem le_lc {elt tg iter : Expr} {ifs : List Expr} {scope : Scope} {own : List (Str × Nat)} {pos : Pos} {wi : WI} {t : CT} {tt : WT} {te : WE} (hN : X.N.Nodup) (hi : LI X Wx tg iter wi) (ok : BlkOk X.N X.env.scope scope own) (hv : own.map (·.2) = t.slots)
    (hg : ∀ (s : Shared) (H : Hp) (C : Addr) (cl : List (Str × Addr)) (fp : List Addr), PG (X.blk s H scope (compEnvC scope cl C X.env) fp) tg (t.tg X.K)) (ht : ∀ (s : Shared) (H : Hp) (C : Addr) (cl : List (Str × Addr)) (fp : List Addr), LPs (X.blk s H scope (compEnvC scope cl C X.env) fp) ifs tt)
    (he : ∀ (s : Shared) (H : Hp) (C : Addr) (cl : List (Str × Addr)) (fp : List Addr), LE (X.blk s H scope (compEnvC scope cl C X.env) fp) W0 elt te) (hc : X.calm = true := by rfl) (hs : ∀ x, foldedSetIterable iter X.env x = pure x := by intro _; rfl) :
    LE X Wx (.ListComp elt [⟨tg, iter, ifs, 0⟩] scope pos) (wLc wi t tt te) := PE.weak (pe_lc (tt := lT X.K W0 tt) (te := fun σ2 H2 Q2 => True ∧ lE X.K W0 te σ2 H2 Q2) hc hN hi ok hg ht (fun s H C cl fp => PE.weak (he s H C cl fp) fun _ _ _ q => q.2) hs) (wLc_t (P := fun _ _ => True) hv fun _ _ _ => trivial)
/-- name = [..] of a plain local name -/
theorem ls_setLc (i : Nat) {y : Str} {py : Pos} {elt tg iter : Expr} {ifs : List Expr} {scope : Scope} {own : List (Str × Nat)} {pos spos : Pos} {wi : WI} {t : CT} {tt : WT} {te : WE} (hN : X.N.Nodup) (hi : LI X Wx tg iter wi) (ok : BlkOk X.N X.env.scope scope own) (hv : own.map (·.2) = t.slots)
    (hg : ∀ (s : Shared) (H : Hp) (C : Addr) (cl : List (Str × Addr)) (fp : List Addr), PG (X.blk s H scope (compEnvC scope cl C X.env) fp) tg (t.tg X.K)) (ht : ∀ (s : Shared) (H : Hp) (C : Addr) (cl : List (Str × Addr)) (fp : List Addr), LPs (X.blk s H scope (compEnvC scope cl C X.env) fp) ifs tt)
    (he : ∀ (s : Shared) (H : Hp) (C : Addr) (cl : List (Str × Addr)) (fp : List Addr), LE (X.blk s H scope (compEnvC scope cl C X.env) fp) W0 elt te)
    (hsw : swapsWith (.ListComp elt [⟨tg, iter, ifs, 0⟩] scope pos) (some (.Name y py)) spos.line X.env = pure true := by exact sw_true rfl rfl rfl (by decide +kernel)) (hy : X.N[i]? = some y := by rfl) (hyl : X.env.scope.names.lookup y = some .local := by rfl) (hc : X.calm = true := by rfl) (hs : ∀ x, foldedSetIterable iter X.env x = pure x := by intro _; rfl) :
    LS X Wx (.Assign [.Name y py] (.ListComp elt [⟨tg, iter, ifs, 0⟩] scope pos) spos) (wSet i (wLc wi t tt te)) := PS.weak (ps_setLc (tt := lT X.K W0 tt) (te := fun σ2 H2 Q2 => True ∧ lE X.K W0 te σ2 H2 Q2) hc hN hy hyl hsw hi ok hg ht (fun s H C cl fp => PE.weak (he s H C cl fp) fun _ _ _ q => q.2) hs) fun D σ H h => by
  obtain ⟨ρ, μ, E, S, h⟩ := h
  refine wLc_t (Wx := Wx) (P := fun _ _ => True) hv (fun _ _ _ => trivial) σ H _ ⟨ρ, μ, E, S, ?_⟩
  exact (wLc wi t tt te).mono (Q := fun d μ1 => OutS X.K μ H D.nx (ρ.set i (some d)) μ1) (fun x μ1 q v H1 F1 S1 r1 => q _ _ F1 S1 ((E.keep S F1).set r1 i)) (fun _ _ _ q => OutXE.x S E q) h
/-- the target's places -/
theorem pg_one {X : Cx} (i : Nat) {x : Str} {pos : Pos} {K : PySem.W.Frag} (hN : X.N.Nodup) (hi : X.N[i]? = some x := by rfl) (hx : Loc X.env.scope x := by first | exact Or.inl rfl | exact Or.inr rfl) (hf : X.fn x = true ∨ X.env.scope.names.lookup x = some .local := by first | exact .inl rfl | exact .inr rfl) : PG X (.Name x pos) ((CT.one i).tg K) := pg_name hN hi hx hf
theorem pg_many {X : Cx} {es : List Expr} {k : Nat} {pos : Pos} {is : List Nat} (h : PGs X es (gNames is)) (hc : X.calm = true := by rfl) (hn : (assignEach es X.env).length = is.length := by rfl) (hst : (assignEach es X.env).findIdx? (·.1) = none := by rfl) : PG X (.Tuple es k pos) ((CT.many is).tg X.K) := pg_tup hc h hn hst
theorem pgn_nil {X : Cx} : PGs X [] (gNames []) := pgs_nil
theorem pgn_cons {X : Cx} (i : Nat) {x : Str} {pos : Pos} {es : List Expr} {is : List Nat} (hN : X.N.Nodup) (h : PGs X es (gNames is)) (hi : X.N[i]? = some x := by rfl) (hx : Loc X.env.scope x := by first | exact Or.inl rfl | exact Or.inr rfl) (hf : X.fn x = true ∨ X.env.scope.names.lookup x = some .local := by first | exact .inl rfl | exact .inr rfl)
    (hs : (assignEach (.Name x pos :: es) X.env).map (·.2) = assign (.Name x pos) X.env :: (assignEach es X.env).map (·.2) := by rfl) : PGs X (.Name x pos :: es) (gNames (i :: is)) := pgs_cons (pg_name hN hi hx hf) h hs

/-! ### methods of lists -/
structure GM where
  run : Addr → List D → List D → Mu → PQ → Prop
  mono : ∀ {a xs ds μ Q Q'}, (∀ d μ', Q d μ' → Q' d μ') → run a xs ds μ Q → run a xs ds μ Q'
/-- of the list xs at a with the arguments ds -/
def MtD (X : Cx) (id : String) (g : GM) : Prop := ∃ r : V → List V → Hp → VK → Prop, MtR X id r ∧ ∀ a xs ds μ H vs Q, Sim X.K μ H → μ a = some (.lst xs) → Rps X.K H ds vs → g.run a xs ds μ (Out (Rp X.K) X.K μ H Q) → r (.ref a) vs H Q
def onLst (x : D) (μ : Mu) (f : Addr → List D → Prop) : Prop := match x with
  | .ob a => (match μ a with | some (.lst xs) => f a xs | _ => False)
  | _ => False
theorem onLst_ob {a : Addr} {μ : Mu} {f : Addr → List D → Prop} : onLst (.ob a) μ f = (match μ a with | some (.lst xs) => f a xs | _ => False) := rfl
theorem onLst_inv {x : D} {μ : Mu} {f : Addr → List D → Prop} (h : onLst x μ f) : ∃ a xs, x = .ob a ∧ μ a = some (.lst xs) ∧ f a xs := by
  unfold onLst at h
  split at h
  · split at h
    · exact ⟨_, _, rfl, by assumption, h⟩
    · exact h.elim
  · exact h.elim
theorem onLst_mk {a : Addr} {xs : List D} {μ : Mu} {f : Addr → List D → Prop} (h : μ a = some (.lst xs)) (q : f a xs) : onLst (.ob a) μ f := by
  rw [onLst_ob, h]
  exact q
theorem onLst_mono {x : D} {μ : Mu} {f f' : Addr → List D → Prop} (h : ∀ a xs, f a xs → f' a xs) (q : onLst x μ f) : onLst x μ f' := by
  obtain ⟨a, xs, rfl, e, q⟩ := onLst_inv q
  exact onLst_mk e (h _ _ q)
def wMt (g : GM) (wo : WE) (ws : List WE) : WE := ⟨fun ρ μ Q X => wo.run ρ μ (fun o μ1 => onLst o μ1 fun a _ => runAll ws ρ μ1 (fun ds μ2 => onLst (.ob a) μ2 fun a xs => g.run a xs ds μ2 Q) X) X,
  fun hQ hX h => wo.mono (fun _ _ h => onLst_mono (fun _ _ h => runAll_mono (fun _ _ h => onLst_mono (fun _ _ h => g.mono hQ h) h) hX h) h) hX h⟩
theorem wMt_run {g : GM} {wo : WE} {ws : List WE} {ρ : Ev} {μ : Mu} {Q : PQ} {X : XQ} : (wMt g wo ws).run ρ μ Q X = wo.run ρ μ (fun o μ1 => onLst o μ1 fun a _ => runAll ws ρ μ1 (fun ds μ2 => onLst (.ob a) μ2 fun a xs => g.run a xs ds μ2 Q) X) X := rfl
theorem le_mt {g : GM} {name : Str} {id : String} {o e : Expr} {es : List Expr} {apos cpos : Pos} {wo : WE} {ws : List WE} (slot : Slot "list" name id) (hty : typeOf (.builtin id) = pure (.type "method_descriptor")) (hm : MtD X id g) (ho : LE X Wx o wo) (ha : LAs X Wx (e :: es) ws)
    (hb : ∀ {to : TE} {t : TA} {r : V → List V → Hp → VK → Prop}, MtR X id r → PE X o to → PA X (e :: es) t → PE X (.Call (.Attribute o name apos) (e :: es) [] cpos) (tBM X.K "list" r to t)) : LE X Wx (.Call (.Attribute o name apos) (e :: es) [] cpos) (wMt g wo ws) := by
  obtain ⟨r, h1, h2⟩ := hm
  refine PE.weak (hb h1 ho ha) fun σ H Q ⟨ρ, μ, E, S, h⟩ => ?_
  refine lW.bind E S h (fun x μ1 v H1 F1 S1 E1 r1 q1 => ?_) fun _ _ _ h => h
  obtain ⟨a, xs, rfl, ea, q1⟩ := onLst_inv q1
  rw [rp_ob r1]
  obtain ⟨vs, hv, _⟩ := S1.lst ea
  refine ⟨.inl ⟨rfl, _, SqL.of hv⟩, ?_⟩
  refine lW.bind (w := wArgs ws) E1 S1 q1 (fun ds μ2 us H2 F2 S2 E2 r2 q2 => ?_) fun _ _ _ h => OutX.trans F1 h
  obtain ⟨a', xs', e', ea', q2⟩ := onLst_inv q2
  cases e'
  exact h2 a xs' ds μ2 H2 us Q S2 ea' r2 (g.mono (fun _ _ q => q.trans (F1.trans F2)) q2)
def fAppend (a : Addr) (xs ds : List D) (μ : Mu) (Q : PQ) : Prop := match ds with | [y] => xs.length < sizeLine ∧ Q .non (mset μ a (.lst (xs ++ [y]))) | _ => False
theorem fAppend_run {a : Addr} {xs : List D} {y : D} {μ : Mu} {Q : PQ} : fAppend a xs [y] μ Q = (xs.length < sizeLine ∧ Q .non (mset μ a (.lst (xs ++ [y])))) := rfl
theorem fAppend_inv {a : Addr} {xs ds : List D} {μ : Mu} {Q : PQ} (h : fAppend a xs ds μ Q) : ∃ y, ds = [y] ∧ xs.length < sizeLine ∧ Q .non (mset μ a (.lst (xs ++ [y]))) := by
  unfold fAppend at h
  split at h
  · exact ⟨_, rfl, h⟩
  · exact h.elim
def gAppend : GM := ⟨fAppend, fun {a xs ds μ Q Q'} hQ h => by
  obtain ⟨y, rfl, h1, h2⟩ := fAppend_inv h
  exact ⟨h1, hQ _ _ h2⟩⟩
theorem md_append : MtD X "list.append" gAppend := ⟨rAppend, mt_append, fun a xs ds μ H vs Q S ea R h => by
  obtain ⟨y, rfl, h1, h2⟩ := fAppend_inv h
  obtain ⟨v, rfl, r⟩ := rps1 R
  obtain ⟨us, hv, r2⟩ := S.lst ea
  have F : Fr μ H (mset μ a (.lst (xs ++ [y]))) (upd H a (.lst (us ++ [v]))) := fr_set ea
  exact ⟨a, us, v, rfl, rfl, hv, by rw [r2.length]; exact h1, h2 _ _ F (sim_lst S F (r2.append (by unfold Rps; exact ⟨_, _, rfl, r, rfl⟩))) rfl⟩⟩
def fExtend (a : Addr) (xs ds : List D) (μ : Mu) (Q : PQ) : Prop := match ds with | [y] => onLst y μ (fun _ zs => xs.length + zs.length ≤ sizeLine ∧ Q .non (mset μ a (.lst (xs ++ zs)))) | _ => False
theorem fExtend_run {a : Addr} {xs : List D} {y : D} {μ : Mu} {Q : PQ} : fExtend a xs [y] μ Q = onLst y μ (fun _ zs => xs.length + zs.length ≤ sizeLine ∧ Q .non (mset μ a (.lst (xs ++ zs)))) := rfl
theorem fExtend_inv {a : Addr} {xs ds : List D} {μ : Mu} {Q : PQ} (h : fExtend a xs ds μ Q) : ∃ b zs, ds = [.ob b] ∧ μ b = some (.lst zs) ∧ xs.length + zs.length ≤ sizeLine ∧ Q .non (mset μ a (.lst (xs ++ zs))) := by
  unfold fExtend at h
  split at h
  · obtain ⟨b, zs, rfl, e, q⟩ := onLst_inv h
    exact ⟨b, zs, rfl, e, q⟩
  · exact h.elim
def gExtend : GM := ⟨fExtend, fun {a xs ds μ Q Q'} hQ h => by
  obtain ⟨b, zs, rfl, e, h1, h2⟩ := fExtend_inv h
  exact onLst_mk (f := fun _ zs => xs.length + zs.length ≤ sizeLine ∧ Q' .non (mset μ a (.lst (xs ++ zs)))) e ⟨h1, hQ _ _ h2⟩⟩
theorem md_extend : MtD X "list.extend" gExtend := ⟨rExtend, mt_extend, fun a xs ds μ H vs Q S ea R h => by
  obtain ⟨b, zs, rfl, e, h1, h2⟩ := fExtend_inv h
  obtain ⟨v, rfl, r⟩ := rps1 R
  obtain ⟨us, hv, r2⟩ := S.lst ea
  obtain ⟨us', hv', r2'⟩ := S.lst e
  have F : Fr μ H (mset μ a (.lst (xs ++ zs))) (upd H a (.lst (us ++ us'))) := fr_set ea
  exact ⟨a, b, us, us', rfl, by rw [rp_ob r], hv, hv', by rw [r2.length, r2'.length]; exact h1, h2 _ _ F (sim_lst S F (r2.append r2')) rfl⟩⟩
theorem le_append {o e : Expr} {apos cpos : Pos} {wo we : WE} (ho : LE X Wx o wo) (ha : LAs X Wx [e] [we])
    (hb : ∀ {to : TE} {t : TA} {r : V → List V → Hp → VK → Prop}, MtR X "list.append" r → PE X o to → PA X [e] t → PE X (.Call (.Attribute o "append" apos) [e] [] cpos) (tBM X.K "list" r to t) := by exact fun h1 h2 h3 => pe_bm PySem.F.plainAttrs_list PySem.F.slot_list_append PySem.F.type_list_append h1 h2 h3) : LE X Wx (.Call (.Attribute o "append" apos) [e] [] cpos) (wMt gAppend wo [we]) :=
  le_mt PySem.F.slot_list_append PySem.F.type_list_append md_append ho ha hb
theorem le_extend {o e : Expr} {apos cpos : Pos} {wo we : WE} (ho : LE X Wx o wo) (ha : LAs X Wx [e] [we])
    (hb : ∀ {to : TE} {t : TA} {r : V → List V → Hp → VK → Prop}, MtR X "list.extend" r → PE X o to → PA X [e] t → PE X (.Call (.Attribute o "extend" apos) [e] [] cpos) (tBM X.K "list" r to t) := by exact fun h1 h2 h3 => pe_bm PySem.F.plainAttrs_list PySem.F.slot_list_extend PySem.F.type_list_extend h1 h2 h3) : LE X Wx (.Call (.Attribute o "extend" apos) [e] [] cpos) (wMt gExtend wo [we]) :=
  le_mt PySem.F.slot_list_extend PySem.F.type_list_extend md_extend ho ha hb
end
end Sq

/-! Keywords, defs, further statements. -/
namespace Sq
open PySem PySem.Spec PyProof.Rows L2
section
variable {X : Cx} {Wx : WX}
/-! ### keywords, in the parameters' order -/
def LKs (X : Cx) (Wx : WX) (kws : List Keyword) (ws : List WE) : Prop := PK X kws (lA X.K Wx (wArgs ws))
theorem PK.weak {kws : List Keyword} {t t' : TA} (h : PK X kws t) (hw : ∀ σ H Q, t' σ H Q → t σ H Q) : PK X kws t' := ⟨fun pos pins s σ H Q I q => h.run pos pins s σ H Q I (hw σ H Q q)⟩
theorem lk_nil : LKs X Wx [] [] := PK.weak pk_nil fun σ H Q ⟨ρ, μ, E, S, h⟩ => (show Out (Rps X.K) X.K μ H Q [] μ from h) _ _ (Fr.refl μ H) S rfl
theorem lk_cons {nm : Option Str} {e : Expr} {kpos : Pos} {kws : List Keyword} {w : WE} {ws : List WE} (ha : LE X Wx e w) (hr : LKs X Wx kws ws) : LKs X Wx (⟨nm, e, kpos⟩ :: kws) (w :: ws) :=
  PK.weak (pk_cons ha hr) fun σ H Q ⟨ρ, μ, E, S, h⟩ => by
    refine lW.bind (w := w) E S h (fun x μ1 v H1 F1 S1 E1 r1 h1 => ?_) fun _ _ _ h => h
    refine lW.bind (w := wArgs ws) E1 S1 h1 (fun xs μ2 vs H2 F2 S2 E2 r2 h2 => ?_) fun _ _ _ h => h.trans F1
    exact h2 _ _ (F1.trans F2) S2 (by unfold Rps; exact ⟨_, _, rfl, Rp.keep S1 F2 x r1, r2⟩)
def tCallKS (sp : Sp) (E : L2.St → XK) (n m : Nat) (t tk : TA) : TE := fun σ H Q => t σ H fun vs H1 => tk σ H1 fun zs H2 => vs.length = n ∧ zs.length = m ∧ sp (vs ++ zs) H2 Q (E σ)
/-- f(e, .., k = v, ..): n by position -/
theorem pe_runK {k n : Nat} {f : Addr} {fd : FuncData} {ps : List Str} {sp : Sp} {E : L2.St → XK} {x : Str} {p pos : Pos} {e : Expr} {es : List Expr} {kws : List Keyword} {t tk : TA} (F : RunOk X.prog X.w X.K X.mg X.base k f fd ps sp) (hgd : X.A.guards = some []) (hr : Room k X.A) (hg : Gl X x) (hm : X.mg x = some (.ref f)) (hk : PySem.W.keepIn X.K (.ref f) = true) (hb : KB X.K fd ps n) (hx : ∀ σ, PassesAt (L2.CX X.prog X.w) X σ (E σ))
    (ha : PA X (e :: es) t) (hkw : PK X kws tk) (hall : (backToKw pos (keywordEach kws X.env)).all (·.1.isSome) = true) (hks : (backToKw pos (keywordEach kws X.env)).filterMap (·.1) = ps.drop n)
    (hn : n ≤ ps.length) (hdb : (x == ("__debug__" : Str)) = false) (he : starEach (e :: es) X.env = (false, eval e X.env) :: starEach es X.env)
    (hpl : ((backTo pos (starEach (e :: es) X.env)).any (·.1) || (backToKw pos (keywordEach kws X.env)).any (·.1.isNone)) = false) :
    PE X (.Call (.Name x p) (e :: es) kws pos) (tCallKS sp E n (ps.length - n) t tk) := ⟨fun pins s σ H Q I h =>
  wpAny_Call_Name_kw (ld_glob I hg hm (PySem.W.callWith_KW (h₀ := X.base) I.ok.mod.kin hk hall (thn (ha.run pos pins s σ H _ I h) fun us s1 ⟨vs, H1, I1, r, q⟩ =>
    thn (hkw.run pos pins s1 σ H1 _ I1 q) fun ws s2 ⟨zs, H2, I2, rz, l1, l2, q2⟩ => ⟨I2.kIn, by
      rw [hks]
      exact run_go (args := ⟨us, (ps.drop n).zip ws⟩) F hgd hr (hx σ) I2 (hb s2 us ws I2.kIn (r.length.symm.trans l1) (by rw [← rz.length]; omega)) (r.append rz) q2⟩) hpl he) hdb)⟩
theorem pe_runK0 {k : Nat} {f : Addr} {fd : FuncData} {ps : List Str} {sp : Sp} {E : L2.St → XK} {x : Str} {p pos : Pos} {kws : List Keyword} {tk : TA} (F : RunOk X.prog X.w X.K X.mg X.base k f fd ps sp) (hgd : X.A.guards = some []) (hr : Room k X.A) (hg : Gl X x) (hm : X.mg x = some (.ref f)) (hk : PySem.W.keepIn X.K (.ref f) = true) (hb : KB X.K fd ps 0) (hx : ∀ σ, PassesAt (L2.CX X.prog X.w) X σ (E σ))
    (hkw : PK X kws tk) (hall : (backToKw pos (keywordEach kws X.env)).all (·.1.isSome) = true) (hks : (backToKw pos (keywordEach kws X.env)).filterMap (·.1) = ps)
    (hdb : (x == ("__debug__" : Str)) = false)
    (hpl : ((backTo pos (starEach [] X.env)).any (·.1) || (backToKw pos (keywordEach kws X.env)).any (·.1.isNone)) = false) :
    PE X (.Call (.Name x p) [] kws pos) (tCallKS sp E 0 ps.length tNil tk) := ⟨fun pins s σ H Q I h =>
  wpAny_Call_Name_kw (ld_glob I hg hm (PySem.W.callWith_KW0 (h₀ := X.base) I.ok.mod.kin hk hall (thn (hkw.run pos pins s σ H _ I h) fun ws s2 ⟨zs, H2, I2, rz, l1, l2, q2⟩ => ⟨I2.kIn, by
      rw [hks]
      exact run_go (args := ⟨[], ps.zip ws⟩) F hgd hr (hx σ) I2 (hb s2 [] ws I2.kIn rfl (by rw [← rz.length]; omega)) rz q2⟩) hpl) hdb)⟩
theorem wCall_k {S : SpD} {ws us : List WE} {ps : List Str} {n : Nat} (hl : ws.length = n) (hu : us.length = ps.length - n) (hn : n ≤ ps.length) : ∀ σ H Q, lE X.K Wx (wCall S (ws ++ us)) σ H Q → tCallKS (spOf X.K ps.length S) (fun σ => L2.WE Wx σ) n (ps.length - n) (lA X.K Wx (wArgs ws)) (lA X.K Wx (wArgs us)) σ H Q := fun σ H Q ⟨ρ, μ, E, S0, h⟩ => by
  have app : ∀ (ws us : List WE) (ρ : Ev) (μ : Mu) (Q : List D → Mu → Prop) (X : XQ), runAll (ws ++ us) ρ μ Q X → runAll ws ρ μ (fun ds μ1 => ds.length = ws.length ∧ runAll us ρ μ1 (fun es μ2 => es.length = us.length ∧ Q (ds ++ es) μ2) X) X := by
    intro ws
    induction ws with
    | nil => intro us ρ μ Q X h; exact ⟨rfl, runAll_len h⟩
    | cons w ws ih =>
      intro us ρ μ Q X h
      refine w.mono (fun d μ1 q => ?_) (fun _ _ _ q => q) h
      refine runAll_mono (fun ds μ2 q => ⟨by rw [List.length_cons, q.1]; rfl, q.2⟩) (fun _ _ _ q => q) (ih us ρ μ1 _ X q)
  refine lW.bind (w := wArgs ws) E S0 (app ws us ρ μ _ _ h) (fun xs μ1 vs H1 F1 S1 E1 r1 h1 => ?_) fun _ _ _ h => h
  refine lW.bind (w := wArgs us) E1 S1 h1.2 (fun ys μ2 zs H2 F2 S2 E2 r2 h2 => ?_) fun _ _ _ h => h.trans F1
  have a1 : vs.length = n := by rw [r1.length, h1.1, hl]
  have a2 : zs.length = ps.length - n := by rw [r2.length, h2.1, hu]
  refine ⟨a1, a2, by rw [List.length_append, a1, a2]; omega, xs ++ ys, μ2, (Rps.keep S1 F2 xs r1).append r2, S2, S.mono (fun _ _ q => q.trans (F1.trans F2)) (fun _ _ _ q => ?_) h2.2⟩
  exact fun dx v H' F' S' e r => q dx v H' (F1.trans (F2.trans F')) S' e r
theorem le_callK {k j : Nat} {x : Str} {p pos : Pos} {e : Expr} {es : List Expr} {kws : List Keyword} {ps : List Str} {ms : List Nat} {S : SpD} {ws us : List WE} (n : Nat) (F : FnD X.prog X.w X.K X.mg X.base j x ps ms S) (hgd : X.A.guards = some []) (hr : Room k X.A) (tk : Takes X Wx) (ha : LAs X Wx (e :: es) ws) (hkw : LKs X Wx kws us) (hjk : j ≤ k := by decide) (hn : n ∈ ms := by decide) (hl : ws.length = n := by rfl) (hu : us.length = ps.length - n := by rfl)
    (hg : Gl X x := by rfl) (hall : (backToKw pos (keywordEach kws X.env)).all (·.1.isSome) = true := by rfl) (hks : (backToKw pos (keywordEach kws X.env)).filterMap (·.1) = ps.drop n := by rfl)
    (hnp : n ≤ ps.length := by decide) (hdb : (x == ("__debug__" : Str)) = false := by decide) (he : starEach (e :: es) X.env = (false, eval e X.env) :: starEach es X.env := by rfl)
    (hpl : ((backTo pos (starEach (e :: es) X.env)).any (·.1) || (backToKw pos (keywordEach kws X.env)).any (·.1.isNone)) = false := by rfl) : LE X Wx (.Call (.Name x p) (e :: es) kws pos) (wCall S (ws ++ us)) := by
  obtain ⟨f, fd, G, hm, hk, _, hb⟩ := F.ex
  exact PE.weak (pe_runK G hgd (hr.mono hjk) hg hm hk (hb n hn) (fun σ => passAt tk σ) ha hkw hall hks hnp hdb he hpl) (wCall_k hl hu hnp)
theorem le_callK0 {k j : Nat} {x : Str} {p pos : Pos} {kws : List Keyword} {ps : List Str} {ms : List Nat} {S : SpD} {us : List WE} (F : FnD X.prog X.w X.K X.mg X.base j x ps ms S) (hgd : X.A.guards = some []) (hr : Room k X.A) (tk : Takes X Wx) (hkw : LKs X Wx kws us) (hjk : j ≤ k := by decide) (hn : 0 ∈ ms := by decide) (hu : us.length = ps.length := by rfl)
    (hg : Gl X x := by rfl) (hall : (backToKw pos (keywordEach kws X.env)).all (·.1.isSome) = true := by rfl) (hks : (backToKw pos (keywordEach kws X.env)).filterMap (·.1) = ps := by rfl)
    (hdb : (x == ("__debug__" : Str)) = false := by decide)
    (hpl : ((backTo pos (starEach [] X.env)).any (·.1) || (backToKw pos (keywordEach kws X.env)).any (·.1.isNone)) = false := by rfl) : LE X Wx (.Call (.Name x p) [] kws pos) (wCall S us) := by
  obtain ⟨f, fd, G, hm, hk, _, hb⟩ := F.ex
  refine PE.weak (pe_runK0 G hgd (hr.mono hjk) hg hm hk (hb 0 hn) (fun σ => passAt tk σ) hkw hall hks hdb hpl) fun σ H Q h => ?_
  obtain ⟨ρ, μ, E, S0, q⟩ := wCall_k (ws := []) (us := us) (ps := ps) (n := 0) rfl (by rw [hu]; rfl) (Nat.zero_le _) σ H Q h
  exact (show Out (Rps X.K) X.K μ H _ [] μ from q) [] H (Fr.refl μ H) S0 rfl

/-! ### x += e -/
def wAug (i : Nat) (g : G2) (a : WE) : WS := ⟨fun D ρ μ => (match ρ[i]? with | some (some x) => a.run ρ μ (fun y μ1 => g.run x y μ1 fun z μ2 => D.nx (ρ.set i (some z)) μ2) (D.ex ρ) | _ => False), fun {D D' ρ μ} h q => by
  revert q
  cases ρ[i]? with
  | none => exact id
  | some o =>
    cases o with
    | none => exact id
    | some x => exact fun q => a.mono (fun _ _ q => g.mono (fun _ _ q => h.nx _ _ q) q) (fun _ _ _ q => h.ex _ _ _ _ q) q⟩
theorem wAug_run {i : Nat} {g : G2} {a : WE} {D : PD} {ρ : Ev} {μ : Mu} : (wAug i g a).run D ρ μ = (match ρ[i]? with | some (some x) => a.run ρ μ (fun y μ1 => g.run x y μ1 fun z μ2 => D.nx (ρ.set i (some z)) μ2) (D.ex ρ) | _ => False) := rfl
theorem ls_aug (i : Nat) {x : Str} {e : Expr} {op : Operator} {g : G2} {w : WE} {pos pos' : Pos} (hN : X.N.Nodup) (ho : OpD X (inplaceOp op) g) (he : LE X Wx e w) (hi : X.N[i]? = some x := by rfl) (hx : Loc X.env.scope x := by first | exact Or.inl rfl | exact Or.inr rfl) (hf : X.fn x = true ∨ X.env.scope.names.lookup x = some .local := by first | exact .inl rfl | exact .inr rfl) :
    LS X Wx (.AugAssign (.Name x pos') op e pos) (wAug i g w) := by
  obtain ⟨r, h1, h2⟩ := ho
  have ip : PIp X op r := fun pins s σ H x y v u Q I rx ry q => h1 pins s σ H x y v u Q I rx ry q
  refine PS.weak (ps_aug hN hi hx he ip hf) fun D σ H ⟨ρ, μ, E, S, h⟩ => ?_
  rw [wAug_run] at h
  split at h
  · rename_i x e
    obtain ⟨v, e1, r1⟩ := E.get e
    refine ⟨v, e1, ?_⟩
    refine lW.bind E S h (fun y μ1 u H1 F1 S1 E1 r2 q1 => ?_) fun _ _ _ h => OutXE.x S E h
    refine h2 x y μ1 H1 v u (fun z H2 => D.nx (σ.set i (some z)) H2) S1 (Rp.keep S F1 x r1) r2 (g.mono (fun z μ2 q t H2 F2 S2 r3 => ?_) q1)
    exact q _ _ (F1.trans F2) S2 ((E1.keep S1 F2).set r3 i)
  · exact h.elim
def gAddI : G2 := gI (fun _ _ => True) fun i j => .int (i + j)
theorem od_iadd : OpD X (inplaceOp .Add) gAddI := od_int0 iop_add fun _ _ _ => rfl
theorem od_isub : OpD X (inplaceOp .Sub) gSub := od_int0 iop_sub fun _ _ _ => rfl

/-! ### a, b, c = x, y, z of plain local names -/
def wPar3 (i j l : Nat) (a b c : WE) : WS := ⟨fun D ρ μ => a.run ρ μ (fun x μ1 => b.run ρ μ1 (fun y μ2 => c.run ρ μ2 (fun z μ3 => D.nx (((ρ.set i (some x)).set j (some y)).set l (some z)) μ3) (D.ex ρ)) (D.ex ρ)) (D.ex ρ),
  fun h q => a.mono (fun _ _ q => b.mono (fun _ _ q => c.mono (fun _ _ q => h.nx _ _ q) (fun _ _ _ q => h.ex _ _ _ _ q) q) (fun _ _ _ q => h.ex _ _ _ _ q) q) (fun _ _ _ q => h.ex _ _ _ _ q) q⟩
theorem wPar3_run {i j l : Nat} {a b c : WE} {D : PD} {ρ : Ev} {μ : Mu} : (wPar3 i j l a b c).run D ρ μ = a.run ρ μ (fun x μ1 => b.run ρ μ1 (fun y μ2 => c.run ρ μ2 (fun z μ3 => D.nx (((ρ.set i (some x)).set j (some y)).set l (some z)) μ3) (D.ex ρ)) (D.ex ρ)) (D.ex ρ) := rfl
theorem rps3 {K : PySem.W.Frag} {H : Hp} {a b c : D} {vs : List V} (h : Rps K H [a, b, c] vs) : ∃ v u t, vs = [v, u, t] ∧ Rp K H a v ∧ Rp K H b u ∧ Rp K H c t := by
  unfold Rps at h
  obtain ⟨w, ws, rfl, r, q⟩ := h
  obtain ⟨u, t, rfl, e, f⟩ := rps2 q
  exact ⟨w, u, t, rfl, r, e, f⟩
theorem ls_par3 (i j l : Nat) {x y z : Str} {a b c : Expr} {wa wb wc : WE} {px py pz pt pos : Pos} {kt k2 pt2} (hN : X.N.Nodup) (ha : LAs X Wx [a, b, c] [wa, wb, wc]) (hw : swappedStores [.Tuple [.Name x px, .Name y py, .Name z pz] kt pt] (.Tuple [a, b, c] k2 pt2) X.env = pure (some [x, y, z]) := by rfl)
    (hc : X.calm = true := by rfl) (hi : X.N[i]? = some x := by rfl) (hj : X.N[j]? = some y := by rfl) (hl : X.N[l]? = some z := by rfl) (hij : i ≠ j := by decide) (hil : i ≠ l := by decide) (hjl : j ≠ l := by decide) (hx : X.env.scope.names.lookup x = some .local := by rfl) (hy : X.env.scope.names.lookup y = some .local := by rfl) (hz : X.env.scope.names.lookup z = some .local := by rfl)
    (hs : swapsWithSole [.Tuple [.Name x px, .Name y py, .Name z pz] kt pt] (.Tuple [a, b, c] k2 pt2) pos.line X.env = pure false := by rfl) : LS X Wx (.Assign [.Tuple [.Name x px, .Name y py, .Name z pz] kt pt] (.Tuple [a, b, c] k2 pt2) pos) (wPar3 i j l wa wb wc) :=
  PS.weak (ps_par3 hc hN hi hj hl hij hil hjl hx hy hz ha hw hs) fun D σ H ⟨ρ, μ, E, S, h⟩ => by
    refine lW.bind (w := wArgs [wa, wb, wc]) E S (Q := fun ds μ2 => ∃ x y z, ds = [x, y, z] ∧ (outD X.K Wx μ H D).nx (((ρ.set i (some x)).set j (some y)).set l (some z)) μ2) (X := (outD X.K Wx μ H D).ex ρ) ?_ (fun xs μ1 vs H1 F1 S1 E1 r1 h1 => ?_) fun _ _ _ h => OutXE.x S E h
    · exact wa.mono (fun x μ1 q => wb.mono (fun y μ2 q => wc.mono (fun z μ3 q => ⟨x, y, z, rfl, q⟩) (fun _ _ _ h => h) q) (fun _ _ _ h => h) q) (fun _ _ _ h => h) h
    obtain ⟨x, y, z, rfl, q⟩ := h1
    obtain ⟨v, u, t, rfl, a1, a2, a3⟩ := rps3 r1
    exact ⟨v, u, t, rfl, q _ _ F1 S1 (((E1.set a1 i).set a2 j).set a3 l)⟩
end

/-! ### defs -/
/-- a smaller store will do -/
def SubQ (Q : PQ) : PQ := fun d μ' => ∃ μ'', (∀ a o, μ'' a = some o → μ' a = some o) ∧ Q d μ''
theorem SubQ.of {Q : PQ} {d : D} {μ : Mu} (h : Q d μ) : SubQ Q d μ := ⟨μ, fun _ _ e => e, h⟩
theorem SubQ.mk {Q : PQ} {d : D} {μ μ' : Mu} (h : Q d μ) (s : ∀ a o, μ a = some o → μ' a = some o) : SubQ Q d μ' := ⟨μ, s, h⟩
def SubX (X : XQ) : XQ := fun C d μ' => ∃ μ'', (∀ a o, μ'' a = some o → μ' a = some o) ∧ X C d μ''
theorem sub_new {μ : Mu} {p : Addr} {o : O} (h : μ p = none) : ∀ a u, μ a = some u → mset μ p o a = some u := fun a u e => by rw [mset_ne (ne_free e h)]; exact e
theorem sub_fr {μ μ1 μ2 : Mu} {H H' : Hp} (s : ∀ a o, μ2 a = some o → μ1 a = some o) (F : Fr μ H μ1 H') : Fr μ H μ2 H' := fun b o e n z => ⟨(F b o e n z).1, by
  cases q : μ2 b with
  | none => rfl
  | some u => exact absurd (s b u q) (by rw [(F b o e n z).2]; intro h; cases h)⟩
theorem sub_sim {K : PySem.W.Frag} {μ1 μ2 : Mu} {H : Hp} (s : ∀ a o, μ2 a = some o → μ1 a = some o) (S : Sim K μ1 H) : Sim K μ2 H := ⟨fun a o e => S.at_ a o (s a o e)⟩
theorem SubQ.out {K : PySem.W.Frag} {μ : Mu} {H : Hp} {Q : VK} {d : D} {μ' : Mu} (h : SubQ (Out (Rp K) K μ H Q) d μ') : Out (Rp K) K μ H Q d μ' := fun v H' F S r => by
  obtain ⟨μ'', s, q⟩ := h
  exact q v H' (sub_fr s F) (sub_sim s S) r
/-- what is wanted of a def's body -/
def bodyD (Q : PQ) (X : XQ) : PD := ⟨fun _ μ => SubQ Q .non μ, SubQ Q, fun _ _ => False, fun _ _ => False, fun _ => SubX X⟩
theorem bodyD_nx {Q : PQ} {X : XQ} {ρ : Ev} {μ : Mu} : (bodyD Q X).nx ρ μ = SubQ Q .non μ := rfl
theorem bodyD_rt {Q : PQ} {X : XQ} : (bodyD Q X).rt = SubQ Q := rfl
theorem bodyD_ex {Q : PQ} {X : XQ} {ρ : Ev} : (bodyD Q X).ex ρ = SubX X := rfl
/-- the wish of a def's body -/
abbrev wxE (E : XK) : WX := fun cls d _ H => E cls d H
/-- a def: its body's walk, its body's reading -/
theorem fn_ok {P : Program} {w : World} {K : PySem.W.Frag} {mg : Str → Option Value} {base : Heap} {x : Str} {st : Stmt} {f : Addr} {fd : FuncData} {N ps : List Str} {ms : List Nat} {k : Nat} {Sd : SpD} (F : Fun K x x st f fd) (S : FnScope N ps (defScope st)) (hm : mg x = some (.ref f)) (hb : Binds K fd ps []) (hkb : ∀ n ∈ ms, KB K fd ps n) (wb : WS)
    (hder : ∀ (cdv : Value) (A : Around) (outer : List Env) (s : Shared) (H : Hp) (E : XK), A.guards = some [] → Room k (A.deeper (envOfC x (defScope st) s.heap.objs.size f cdv)) → LSs (cxOf (L2.CX P w) P w K mg base N x (defScope st) f cdv A outer s H E) (wxE E) (defBody st) wb)
    (hread : ∀ (ds : List D) (μ : Mu) (Q : PQ) (X : XQ), ds.length = ps.length → Sd.run ds μ Q X → wb.run (bodyD Q X) (ev0 N.length ds) μ) : FnD P w K mg base (k + 1) x ps ms Sd := by
  obtain ⟨oc, od, kV, doc, pm, an, cdv, ct, osl, efd, lk, hcd⟩ := F.ex
  refine ⟨f, fd, fun A outer s H args us vs Q E hg hr e0 hbd r hsp => ?_, hm, F.kp, hb, hkb⟩
  subst efd
  refine LamX.run_ofS (N := N) lk hcd S hr e0 hbd r hsp.1 fun hr' => ⟨_, hder cdv A outer s H E hg hr', ?_⟩
  obtain ⟨hl, ds, μ, R, Sm, q⟩ := hsp
  have hd : ds.length = ps.length := by rw [← R.length]; exact hl
  refine ⟨ev0 N.length ds, μ, ?_, Sm, wb.mono (D := bodyD (Out (Rp K) K μ H Q) (OutE K μ H E)) ⟨?_, fun d μ' h => SubQ.out h, fun _ _ z => z.elim, fun _ _ z => z.elim, ?_⟩ (hread ds μ _ _ hd q)⟩
  · unfold ev0 L2.start
    rw [R.length]
    exact EnvR.start R
  · exact fun ρ μ' h σ' H' F' S' E' => SubQ.out h .non H' F' S' rfl
  · rintro ρ C d μ' ⟨μ'', s, q⟩ σ' dx v H' F' S' E' e r
    exact q dx v H' (sub_fr s F') (sub_sim s S') e r
theorem fun_kb {K : PySem.W.Frag} {x qual : Str} {st : Stmt} {f : Addr} {fd : FuncData} {ps : List Str} {n : Nat} (F : Fun K x qual st f fd)
    (h : ∀ (kV doc pm : Value) (an : Option Addr) (cdv ct : Value) (us ws : List Value), us.length = n → ws.length + n = ps.length → bindArgs (PySem.W.fnOf x qual (defArgs st) (defBody st) (defScope st) .none kV doc pm an cdv ct) ⟨us, (ps.drop n).zip ws⟩ = pure (ps.zip (us ++ ws))) : KB K fd ps n := by
  obtain ⟨oc, od, kV, doc, pm, an, cdv, ct, osl, rfl, lk, hcd⟩ := F.ex
  exact fun s us ws _ h1 h2 => .of_eq (h kV doc pm an cdv ct us ws h1 h2)
end Sq

/-! Slices, membership, sorting, shown data, ranges as lists, chains of three. -/
namespace Sq
open PySem PySem.Spec PyProof.Rows L2

/-! ### slices -/
def cutD {α : Type} (xs : List α) (lo hi : Option Int) : List α := (xs.drop (HT.sIx xs.length 0 lo)).take (HT.sIx xs.length xs.length hi - HT.sIx xs.length 0 lo)
theorem Rps.cut {K : PySem.W.Frag} {H : Hp} {ds : List D} {vs : List V} (h : Rps K H ds vs) (lo hi : Option Int) : Rps K H (cutD ds lo hi) (L2.cutV vs lo hi) := by
  unfold cutD L2.cutV
  rw [h.length]
  exact (h.drop _).take _
theorem cutD_whole {α : Type} {xs : List α} {lo hi : Option Int} (h : HT.sIx xs.length 0 lo = 0 ∧ HT.sIx xs.length xs.length hi = xs.length) : cutD xs lo hi = xs := by
  unfold cutD
  rw [h.1, h.2, List.drop_zero, Nat.sub_zero, List.take_length]
abbrev lO (K : PySem.W.Frag) (Wx : WX) (w : Wp (Option Int)) : TO := lW (fun (_ : Hp) (b c : Option Int) => b = c) K Wx w
def LO (X : Cx) (Wx : WX) (e : Option Expr) (w : Wp (Option Int)) : Prop := PO X e (lO X.K Wx w)
theorem PO.weak {X : Cx} {e : Option Expr} {t t' : TO} (h : PO X e t) (hw : ∀ σ H Q, t' σ H Q → t σ H Q) : PO X e t' := ⟨fun pins s σ H Q I q => h.run pins s σ H Q I (hw σ H Q q)⟩
def wNoP : Wp (Option Int) := ⟨fun _ μ Q _ => Q none μ, fun hQ _ h => hQ _ _ h⟩
theorem wNoP_run {ρ : Ev} {μ : Mu} {Q : Option Int → Mu → Prop} {X : XQ} : wNoP.run ρ μ Q X = Q none μ := rfl
def onInt (z : D) (f : Int → Prop) : Prop := match z with | .int k => f k | _ => False
theorem onInt_int {k : Int} {f : Int → Prop} : onInt (.int k) f = f k := rfl
theorem onInt_mono {z : D} {f f' : Int → Prop} (h : ∀ k, f k → f' k) (q : onInt z f) : onInt z f' := by
  cases z with
  | int k => exact h k q
  | _ => exact q
theorem onInt_v {K : PySem.W.Frag} {H : Hp} {z : D} {v : V} {f : Int → Prop} (r : Rp K H z v) (q : onInt z f) : ∃ k, v = .int k ∧ f k := by
  cases z with
  | int k => exact ⟨k, r, q⟩
  | _ => exact q.elim
def wPart (a : WE) : Wp (Option Int) := ⟨fun ρ μ Q X => a.run ρ μ (fun x μ1 => onInt x fun i => Q (some i) μ1) X, fun hQ hX h => a.mono (fun _ _ h => onInt_mono (fun _ q => hQ _ _ q) h) hX h⟩
theorem wPart_run {a : WE} {ρ : Ev} {μ : Mu} {Q : Option Int → Mu → Prop} {X : XQ} : (wPart a).run ρ μ Q X = a.run ρ μ (fun x μ1 => onInt x fun i => Q (some i) μ1) X := rfl
section
variable {X : Cx} {Wx : WX}
theorem lo_none : LO X Wx none wNoP := PO.weak po_none fun σ H Q ⟨ρ, μ, E, S, h⟩ => (show Out (fun (_ : Hp) (b c : Option Int) => b = c) X.K μ H Q none μ from h) _ _ (Fr.refl μ H) S rfl
theorem lo_some {e : Expr} {w : WE} (h : LE X Wx e w) : LO X Wx (some e) (wPart w) := PO.weak (po_some h) fun σ H Q ⟨ρ, μ, E, S, h⟩ => by
  refine lW.bind E S h (fun x μ1 v H1 F1 S1 E1 r1 h1 => ?_) fun _ _ _ h => h
  obtain ⟨k, e, q⟩ := onInt_v r1 h1
  exact ⟨k, e, (show Out (fun (_ : Hp) (b c : Option Int) => b = c) X.K μ H Q (some k) μ1 from q) _ _ F1 S1 rfl⟩
def fSl (x : D) (lo hi : Option Int) (μ : Mu) (Q : PQ) : Prop := match x with
  | .tup ds => Q (.tup (cutD ds lo hi)) μ
  | .rls ds => ∀ p, μ p = none → Q (.ob p) (mset μ p (.lst (cutD ds lo hi)))
  | .ob a => (match μ a with | some (.lst ds) => ∀ p, μ p = none → Q (.ob p) (mset μ p (.lst (cutD ds lo hi))) | _ => False)
  | .str s => s.length ≤ sizeLine ∧ Q (.str (L2.cutS s lo hi)) μ
  | _ => False
theorem fSl_tup {ds : List D} {lo hi : Option Int} {μ : Mu} {Q : PQ} : fSl (.tup ds) lo hi μ Q = Q (.tup (cutD ds lo hi)) μ := rfl
theorem fSl_rls {ds : List D} {lo hi : Option Int} {μ : Mu} {Q : PQ} : fSl (.rls ds) lo hi μ Q = ∀ p, μ p = none → Q (.ob p) (mset μ p (.lst (cutD ds lo hi))) := rfl
theorem fSl_ob {a : Addr} {lo hi : Option Int} {μ : Mu} {Q : PQ} : fSl (.ob a) lo hi μ Q = (match μ a with | some (.lst ds) => ∀ p, μ p = none → Q (.ob p) (mset μ p (.lst (cutD ds lo hi))) | _ => False) := rfl
theorem fSl_str {s : Str} {lo hi : Option Int} {μ : Mu} {Q : PQ} : fSl (.str s) lo hi μ Q = (s.length ≤ sizeLine ∧ Q (.str (L2.cutS s lo hi)) μ) := rfl
theorem fSl_mono {x : D} {lo hi : Option Int} {μ : Mu} {Q Q' : PQ} (hQ : ∀ d μ', Q d μ' → Q' d μ') (h : fSl x lo hi μ Q) : fSl x lo hi μ Q' := by
  cases x with
  | tup ds => exact hQ _ _ h
  | rls ds => exact fun p hp => hQ _ _ (h p hp)
  | ob a =>
    rw [fSl_ob] at h ⊢
    split at h
    · exact fun p hp => hQ _ _ (h p hp)
    · exact h.elim
  | str s => exact ⟨h.1, hQ _ _ h.2⟩
  | _ => exact h
def wSl (a : WE) (lo hi : Wp (Option Int)) : WE := ⟨fun ρ μ Q X => a.run ρ μ (fun x μ1 => lo.run ρ μ1 (fun l μ2 => hi.run ρ μ2 (fun u μ3 => fSl x l u μ3 Q) X) X) X,
  fun hQ hX h => a.mono (fun _ _ h => lo.mono (fun _ _ h => hi.mono (fun _ _ h => fSl_mono hQ h) hX h) hX h) hX h⟩
theorem wSl_run {a : WE} {lo hi : Wp (Option Int)} {ρ : Ev} {μ : Mu} {Q : PQ} {X : XQ} : (wSl a lo hi).run ρ μ Q X = a.run ρ μ (fun x μ1 => lo.run ρ μ1 (fun l μ2 => hi.run ρ μ2 (fun u μ3 => fSl x l u μ3 Q) X) X) X := rfl
theorem le_sl {e : Expr} {lo hi : Option Expr} {p2 pos : Pos} {w : WE} {wl wh : Wp (Option Int)} (he : LE X Wx e w) (hl : LO X Wx lo wl) (hh : LO X Wx hi wh) : LE X Wx (.Subscript e (.Slice lo hi none p2) pos) (wSl w wl wh) :=
  PE.weak (pe_slice (sl_tupA.or (sl_list.or sl_str)) he hl hh) fun σ H Q ⟨ρ, μ, E, S, h⟩ => by
    refine lW.bind E S h (fun x μ1 v H1 F1 S1 E1 r1 h1 => ?_) fun _ _ _ h => h
    refine lW.bind E1 S1 h1 (fun l μ2 l' H2 F2 S2 E2 r2 h2 => ?_) fun _ _ _ h => h.trans F1
    subst r2
    refine lW.bind E2 S2 h2 (fun u μ3 u' H3 F3 S3 E3 r3 h3 => ?_) fun _ _ _ h => h.trans (F1.trans F2)
    subst r3
    have rx := Rp.keep S2 F3 x (Rp.keep S1 F2 x r1)
    have h4 := fSl_mono (fun _ _ q => Out.trans (F1.trans (F2.trans F3)) q) h3
    cases x with
    | tup ds =>
      obtain ⟨p, vs, rfl, t, r⟩ := rp_tup rx
      refine .inl ⟨p, vs, rfl, t, fun hw => ?_, fun _ => out_tup S3 (r.cut l u) h4⟩
      have e : cutD ds l u = ds := cutD_whole (by rw [r.length] at hw; exact hw)
      rw [fSl_tup, e] at h4
      exact h4 _ _ (Fr.refl _ _) S3 rx
    | rls ds =>
      obtain ⟨p, vs, rfl, t, r⟩ := rp_rls rx
      exact .inr (.inl ⟨p, vs, rfl, t.l, out_lst S3 (r.cut l u) h4⟩)
    | ob a =>
      rw [rp_ob rx]
      rw [fSl_ob] at h4
      split at h4
      · rename_i ds e
        obtain ⟨vs, h5, r⟩ := S3.lst e
        exact .inr (.inl ⟨a, vs, rfl, SqL.of h5, out_lst S3 (r.cut l u) h4⟩)
      · exact h4.elim
    | str s => rw [rp_str rx]; exact .inr (.inr ⟨s, rfl, h4.1, h4.2 _ _ (Fr.refl _ _) S3 rfl⟩)
    | _ => exact h4.elim

/-! ### data without addresses -/
mutual
def encD : D → PyData
  | .non => .none | .bl b => .bool b | .int i => .int i | .str x => .str x
  | .tup ds => .tuple (encDs ds) | .ob _ => .none | .rls _ => .none
def encDs : List D → List PyData
  | [] => [] | d :: ds => encD d :: encDs ds
end
mutual
def pureD : D → Bool
  | .non => true | .bl _ => true | .int _ => true | .str _ => true
  | .tup ds => pureDs ds | .ob _ => false | .rls _ => false
def pureDs : List D → Bool
  | [] => true | d :: ds => pureD d && pureDs ds
end
mutual
theorem pure_dpy {μ : Mu} : ∀ {d : D}, pureD d = true → DPy μ d (encD d)
  | .non, _ => .non
  | .bl b, _ => .bl b
  | .int i, _ => .int i
  | .str x, _ => .str x
  | .tup ds, h => by unfold encD; unfold pureD at h; exact .tup (pure_dpys h)
  | .ob _, h => by unfold pureD at h; cases h
  | .rls _, h => by unfold pureD at h; cases h
theorem pure_dpys {μ : Mu} : ∀ {ds : List D}, pureDs ds = true → DPys μ ds (encDs ds)
  | [], _ => .nil
  | d :: ds, h => by
    unfold encDs
    unfold pureDs at h
    rw [Bool.and_eq_true] at h
    exact .cons (pure_dpy h.1) (pure_dpys h.2)
end
theorem encDs_map : ∀ ds : List D, encDs ds = ds.map encD
  | [] => rfl
  | d :: ds => by unfold encDs; rw [encDs_map ds]; rfl
theorem pureDs_all : ∀ ds : List D, pureDs ds = ds.all pureD
  | [] => rfl
  | d :: ds => by unfold pureDs; rw [pureDs_all ds]; rfl
theorem encD_ints (ns : List Int) : encDs (ns.map D.int) = ns.map PyData.int := by
  rw [encDs_map, List.map_map]; rfl
theorem pureD_ints (ns : List Int) : pureDs (ns.map D.int) = true := by
  rw [pureDs_all, List.all_map]; simp [pureD]

/-! ### in, not in -/
def InP (x y : D) (μ : Mu) (Q : Bool → Prop) : Prop := ∃ d ds, DPy μ x d ∧ ((DPy μ y (.list ds) ∧ SeqAt.shaped (.list ds) = true) ∨ (DPy μ y (.tuple ds) ∧ SeqAt.shaped (.tuple ds) = true)) ∧ SeqAt.shaped d = true ∧ Q (ds.any fun z => PyData.eqv z d)
theorem InP.mono {x y : D} {μ : Mu} {Q Q' : Bool → Prop} (h : ∀ b, Q b → Q' b) (q : InP x y μ Q) : InP x y μ Q' := by
  obtain ⟨d, ds, h1, h2, h3, q⟩ := q
  exact ⟨d, ds, h1, h2, h3, h _ q⟩
def gIn : G2 := ⟨fun x y μ Q => InP x y μ fun b => Q (.bl b) μ, fun hQ h => h.mono fun _ q => hQ _ _ q⟩
def gNotIn : G2 := ⟨fun x y μ Q => InP x y μ fun b => Q (.bl (!b)) μ, fun hQ h => h.mono fun _ q => hQ _ _ q⟩
theorem gIn_run {x y : D} {μ : Mu} {Q : PQ} : gIn.run x y μ Q = InP x y μ fun b => Q (.bl b) μ := rfl
theorem gNotIn_run {x y : D} {μ : Mu} {Q : PQ} : gNotIn.run x y μ Q = InP x y μ fun b => Q (.bl (!b)) μ := rfl
def rInT (K : PySem.W.Frag) (f : Bool → Bool) : R2 := fun x y H Q => ∃ d ds, Dp K H x d ∧ Dp K H y (.tuple ds) ∧ SeqAt.shaped d = true ∧ SeqAt.shaped (.tuple ds) = true ∧ Q (.bl (f (ds.any fun z => PyData.eqv z d))) H
theorem op_inT (hu : X.A.units + 65 < cLine) : OpR X (compareOp .In) (rInT X.K id) := by
  intro pins s σ H x y v u Q I rx ry h
  obtain ⟨d, ds, hd, he, sd, se, q⟩ := h
  obtain ⟨as, r1⟩ := Dp.reads I d x v hd rx
  obtain ⟨bs, r2⟩ := Dp.reads I (.tuple ds) y u he ry
  exact SeqAt.in_tuple_reads r2 r1 (SeqAt.canLay_of_shaped se) (SeqAt.canLay_of_shaped sd) (room_in_shaped sd hu) ⟨.bl _, H, I, rfl, q⟩
theorem op_notInT (hu : X.A.units + 65 < cLine) : OpR X (compareOp .NotIn) (rInT X.K not) := by
  intro pins s σ H x y v u Q I rx ry h
  obtain ⟨d, ds, hd, he, sd, se, q⟩ := h
  obtain ⟨as, r1⟩ := Dp.reads I d x v hd rx
  obtain ⟨bs, r2⟩ := Dp.reads I (.tuple ds) y u he ry
  exact SeqAt.notIn_tuple_reads r2 r1 (SeqAt.canLay_of_shaped se) (SeqAt.canLay_of_shaped sd) (room_in_shaped sd hu) ⟨.bl _, H, I, rfl, q⟩
theorem od_in (hu : X.A.units + 65 < cLine) : OpD X (compareOp .In) gIn := ⟨_, (op_inD hu).or (op_inT hu), fun x y μ H vx vy Q S rx ry q => by
  obtain ⟨d, ds, h1, h2 | h2, h3, q⟩ := q
  · exact .inl ⟨d, ds, h1.dp S rx, h2.1.dp S ry, h3, h2.2, q _ _ (Fr.refl μ H) S rfl⟩
  · exact .inr ⟨d, ds, h1.dp S rx, h2.1.dp S ry, h3, h2.2, q _ _ (Fr.refl μ H) S rfl⟩⟩
theorem od_notIn (hu : X.A.units + 65 < cLine) : OpD X (compareOp .NotIn) gNotIn := ⟨_, (op_notInD hu).or (op_notInT hu), fun x y μ H vx vy Q S rx ry q => by
  obtain ⟨d, ds, h1, h2 | h2, h3, q⟩ := q
  · exact .inl ⟨d, ds, h1.dp S rx, h2.1.dp S ry, h3, h2.2, q _ _ (Fr.refl μ H) S rfl⟩
  · exact .inr ⟨d, ds, h1.dp S rx, h2.1.dp S ry, h3, h2.2, q _ _ (Fr.refl μ H) S rfl⟩⟩

/-! ### sorted -/
theorem rps_each {K : PySem.W.Frag} {pins : List (Addr × Obj)} {σ : L2.St} {H : Hp} {s : Shared} {μ : Mu} (I : Inv X pins σ H s) (S : Sim X.K μ H) : ∀ {ds : List D} {vs : List V} {us : List Value}, Rps X.K H ds vs → Vals vs us → (∀ d ∈ ds, pureD d = true) →
    PySem.W.EachIs (fun u d => ∃ as, Reads s.heap u (encD d) as) us ds ∧ PySem.W.EachIs (fun u d => ∃ v, RelV v u ∧ Rp X.K H d v) us ds
  | [], _, _, h, r, _ => by
    unfold Rps at h; subst h; cases r
    exact ⟨.nil, .nil⟩
  | d :: ds, _, _, h, r, hp => by
    unfold Rps at h
    obtain ⟨w, ws, rfl, a, b⟩ := h
    cases r with
    | cons r1 r2 =>
      have ih := rps_each (K := K) I S b r2 fun d hd => hp d (List.mem_cons_of_mem _ hd)
      exact ⟨.cons (Dp.reads I _ _ _ ((pure_dpy (hp d List.mem_cons_self)).dp S a) r1) ih.1, .cons ⟨w, r1, a⟩ ih.2⟩
theorem each_rps {K : PySem.W.Frag} {H : Hp} : ∀ {us : List Value} {ds : List D}, PySem.W.EachIs (fun u d => ∃ v, RelV v u ∧ Rp K H d v) us ds → ∃ vs, Vals vs us ∧ Rps K H ds vs
  | _, _, .nil => ⟨[], .nil, rfl⟩
  | _, _, .cons ⟨v, r, a⟩ t => by
    obtain ⟨vs, h1, h2⟩ := each_rps t
    exact ⟨v :: vs, .cons r h1, by unfold Rps; exact ⟨_, _, rfl, a, h2⟩⟩
/-- the order of data -/
abbrev leD : D → D → Bool := PySem.W.dataLe false encD
def SortOk (ds : List D) : Prop := (∀ d ∈ ds, pureD d = true) ∧ PySem.W.AllAlike (ds.map encD) ∧ PySem.W.Sortable (ds.map encD) ∧ ∀ d ∈ ds, (encD d).depth ≤ 60
def fSorted (x : D) (μ : Mu) (Q : PQ) : Prop := match x with
  | .ob a => (match μ a with | some (.lst ds) => SortOk ds ∧ ∀ p, μ p = none → Q (.ob p) (mset μ p (.lst (ds.mergeSort leD))) | _ => False)
  | _ => False
theorem fSorted_ob {a : Addr} {μ : Mu} {Q : PQ} : fSorted (.ob a) μ Q = (match μ a with | some (.lst ds) => SortOk ds ∧ ∀ p, μ p = none → Q (.ob p) (mset μ p (.lst (ds.mergeSort leD))) | _ => False) := rfl
def gSorted : GN := g1 fSorted fun {x μ Q Q'} hQ h => by
  cases x with
  | ob a =>
    rw [fSorted_ob] at h ⊢
    split at h
    · exact ⟨h.1, fun p hp => hQ _ _ (h.2 p hp)⟩
    · exact h.elim
  | _ => exact h
def rSortedD (K : PySem.W.Frag) : List V → Hp → VK → Prop := fun vs H Q => ∃ (a : Addr) (xs : List V) (ds : List D) (μ : Mu), vs = [V.ref a] ∧ H a = some (.lst xs) ∧ Sim K μ H ∧ Rps K H ds xs ∧ SortOk ds ∧
  ∀ us p, Rps K H (ds.mergeSort leD) us → H p = none → Q (.ref p) (upd H p (.lst us))
theorem cr_sortedD (hu : X.A.units + 64 < cLine) : CallR X (.builtin "sorted") (rSortedD X.K) := by
  intro pins s σ H vs us Q I r h
  obtain ⟨a, xs, ds, μ, rfl, ha, S, R, ok, q⟩ := h
  obtain ⟨its, rv, hl, hz⟩ := I.list (SqL.of ha)
  rw [Vals.ref1 r]
  obtain ⟨h1, h2⟩ := rps_each (K := X.K) I S R rv ok.1
  refine PySem.W.sorted_data (enc := encD) (bs := ds) hl.isList h2 h1 ok.2.1 ok.2.2.1 (by rw [← R.length]; exact hz) (fun d hd => by have := ok.2.2.2 d hd; omega) fun out e1 e2 => ?_
  obtain ⟨ws, v1, v2⟩ := each_rps e2
  obtain ⟨ep, he'⟩ := PyProof.Rows.sortedAll_at s.heap its out.toArray
  have hlen : ws.length ≤ sizeLine := by rw [v2.length, List.length_mergeSort, ← R.length]; exact hz
  exact ⟨.ref _, upd H (s.heap.objs.size + 1) (.lst ws), I.laid (t' := s.toks) (fun _ _ => PyProof.Rows.sortedAll_old) (Nat.le_succ _) ⟨hlen, out, ep, v1, he'⟩, rfl, q ws _ v2 (I.hok.fresh (Nat.le_succ _))⟩
theorem cd_sorted (hu : X.A.units + 64 < cLine) : CallD X (.builtin "sorted") gSorted := cd1 (cr_sortedD hu) (fun _ _ _ => rfl) fun x μ H v Q S R q => by
  cases x with
  | ob a =>
    rw [rp_ob R]
    rw [fSorted_ob] at q
    split at q
    · rename_i ds e
      obtain ⟨vs, h1, r⟩ := S.lst e
      exact ⟨a, vs, ds, μ, rfl, h1, S, r, q.1, fun us p ru hp => out_lst S ru q.2 p hp⟩
    · exact q.elim
  | _ => exact q.elim

/-! ### repr -/
def fRepr (x : D) (μ : Mu) (Q : PQ) : Prop := ∃ d, DPy μ x d ∧ SeqAt.shaped d = true ∧ d.showable = true ∧ d.shown.length ≤ sizeLine ∧ Q (.str d.shown) μ
def gRepr : GN := g1 fRepr fun {x μ Q Q'} hQ h => by
  obtain ⟨d, h1, h2, h3, h4, q⟩ := h
  exact ⟨d, h1, h2, h3, h4, hQ _ _ q⟩
def rRepr (K : PySem.W.Frag) : List V → Hp → VK → Prop := fun vs H Q => ∃ (x : V) (d : PyData), vs = [x] ∧ Dp K H x d ∧ SeqAt.shaped d = true ∧ d.showable = true ∧ d.shown.length ≤ sizeLine ∧ Q (.str d.shown) H
theorem cr_repr (hg : X.A.guards = some []) (hu : X.A.units + 65 < cLine) : CallR X (.builtin "repr") (rRepr X.K) := by
  intro pins s σ H vs us Q I r h
  obtain ⟨x, d, rfl, hd, hs, hsh, hln, q⟩ := h
  cases r with
  | cons r1 r2 =>
    cases r2
    rename_i u
    obtain ⟨as, rd⟩ := Dp.reads I d x u hd r1
    have hdep := SeqAt.depth_of_shaped hs
    have nd : d.hasDict = false := PyData.hasDict_of_canLay d (SeqAt.canLay_of_shaped hs)
    cases hd with
    | non => cases rd; exact PySem.P.repr_of_none ⟨.str _, H, I.tok _, ⟨_, rfl⟩, q⟩
    | bl b => cases rd; exact PySem.P.repr_of_bool ⟨.str _, H, I.tok _, ⟨_, rfl⟩, q⟩
    | int i =>
      cases rd
      exact PySem.P.repr_of_int (by simpa [PyData.showable] using hsh) ⟨.str _, H, I.tok _, ⟨_, rfl⟩, q⟩
    | str z =>
      cases rd
      exact PySem.P.repr_of_str ⟨.str _, H, I.tok _, ⟨_, rfl⟩, q⟩ hln
    | lst a1 a2 =>
      cases r1
      exact repr_of_reads' rd hsh (PyData.noDict_hsm nd) hg (by omega) (fun _ _ e => e) (fun h' u tk hk => ⟨.str _, H, I.kept hk, ⟨_, rfl⟩, q⟩) hln
    | tup a1 a2 =>
      cases r1
      exact repr_of_reads' rd hsh (PyData.noDict_hsm nd) hg (by omega) (fun _ _ e => e) (fun h' u tk hk => ⟨.str _, H, I.kept hk, ⟨_, rfl⟩, q⟩) hln
theorem cd_repr (hg : X.A.guards = some []) (hu : X.A.units + 65 < cLine) : CallD X (.builtin "repr") gRepr := cd1 (cr_repr hg hu) (fun _ _ _ => rfl) fun x μ H v Q S R ⟨d, h1, h2, h3, h4, q⟩ =>
  ⟨v, d, rfl, h1.dp S R, h2, h3, h4, q _ _ (Fr.refl μ H) S rfl⟩

/-! ### list(range(..)) -/
theorem rps_rg {K : PySem.W.Frag} {H : Hp} (lo : Int) (hi : Int) : Rps K H (rangeD lo (hi - lo).toNat) (L2.rgV lo hi) := by
  have e1 : rangeD lo (hi - lo).toNat = ((List.range (hi - lo).toNat).map fun i => lo + (i : Nat)).map D.int := by
    unfold rangeD; rw [List.map_map]; rfl
  have e2 : L2.rgV lo hi = ((List.range (hi - lo).toNat).map fun i => lo + (i : Nat)).map V.int := by
    unfold L2.rgV; rw [List.map_map]; rfl
  rw [e1, e2]
  exact Rps.of_ints _
def wLstRg1 (a : WE) : WE := ⟨fun ρ μ Q X => a.run ρ μ (fun x μ1 => onInt x fun j => L2.RgOk 0 j ∧ ∀ p, μ1 p = none → Q (.ob p) (mset μ1 p (.lst (rangeD 0 j.toNat)))) X,
  fun hQ hX h => a.mono (fun _ _ h => onInt_mono (fun _ q => ⟨q.1, fun p hp => hQ _ _ (q.2 p hp)⟩) h) hX h⟩
theorem wLstRg1_run {a : WE} {ρ : Ev} {μ : Mu} {Q : PQ} {X : XQ} : (wLstRg1 a).run ρ μ Q X = a.run ρ μ (fun x μ1 => onInt x fun j => L2.RgOk 0 j ∧ ∀ p, μ1 p = none → Q (.ob p) (mset μ1 p (.lst (rangeD 0 j.toNat)))) X := rfl
theorem le_listRg1 {a : Expr} {wa : WE} {p p2 pos pos2 : Pos} (hm : X.mg "list" = none) (hm2 : X.mg "range" = none) (ha : LE X Wx a wa) (hg : Gl X "list" := by rfl) (hg2 : Gl X "range" := by rfl) (hc : X.calm = true := by rfl)
    (na : starEach [a] X.env = (false, eval a X.env) :: starEach [] X.env := by rfl)
    (nb : starEach [.Call (.Name "range" p2) [a] [] pos2] X.env = (false, eval (.Call (.Name "range" p2) [a] [] pos2) X.env) :: starEach [] X.env := by rfl) : LE X Wx (.Call (.Name "list" p) [.Call (.Name "range" p2) [a] [] pos2] [] pos) (wLstRg1 wa) :=
  PE.weak (pe_listRg hc hg hm (prg_1 hg2 hm2 ha na) nb) fun σ H Q ⟨ρ, μ, E, S, h⟩ => by
    refine lW.bind E S h (fun x μ1 v H1 F1 S1 E1 r1 h1 => ?_) fun _ _ _ h => h
    obtain ⟨j, e, ok, q⟩ := onInt_v r1 h1
    have e2 := rps_rg (K := X.K) (H := H1) 0 j
    rw [Int.sub_zero] at e2
    exact ⟨j, e, ok, out_lst S1 e2 fun p hp => (q p hp).trans F1⟩

/-! ### ** of wider ints -/
def CPowW (i j : Int) : Prop := 0 ≤ j ∧ ∃ b : Nat, i.natAbs < 2 ^ b ∧ (b : Int) * j ≤ 2 ^ 27
theorem op_powW : OpR X (binaryOp .Pow) (rI CPowW fun i j => .int (i ^ j.toNat)) := opI fun i j _ _ _ _ _ hc q => by
  obtain ⟨h0, b, h1, h2⟩ := hc
  refine PyProof.Rows.pow_int h0 (Int.le_trans (Int.mul_le_mul_of_nonneg_right ?_ h0) h2) q
  exact Int.ofNat_le.mpr (PySem.intBits_le_iff.mpr h1)
def gPowW : G2 := gI CPowW fun i j => .int (i ^ j.toNat)
theorem od_powW : OpD X (binaryOp .Pow) gPowW := od_int op_powW fun _ _ _ => rfl

/-! ### chains of any length -/
def chainRun : List (G2 × WE) → D → Ev → Mu → PQ → XQ → Prop
  | [], _, _, _, _, _ => False
  | (g, w) :: cs, x, ρ, μ, Q, X => w.run ρ μ (fun y μ1 => g.run x y μ1 fun z μ2 => if cs.isEmpty then Q z μ2 else onBl z fun k => if k = true then chainRun cs y ρ μ2 Q X else Q (.bl false) μ2) X
theorem chainRun_mono : ∀ {cs : List (G2 × WE)} {x : D} {ρ : Ev} {μ : Mu} {Q Q' : PQ} {X X' : XQ}, (∀ d μ', Q d μ' → Q' d μ') → (∀ C d μ', X C d μ' → X' C d μ') → chainRun cs x ρ μ Q X → chainRun cs x ρ μ Q' X'
  | [], _, _, _, _, _, _, _, _, _, h => h
  | (g, w) :: cs, _, _, _, _, _, _, _, hQ, hX, h => w.mono (fun _ _ h => g.mono (fun z _ h => by
    revert h
    split
    · exact hQ _ _
    · exact onBl_mono fun k h => by
        cases k with
        | true => exact chainRun_mono hQ hX h
        | false => exact hQ _ _ h) h) hX h
end
end Sq

/-! Chains of any length. -/
namespace Sq
open PySem PySem.Spec PyProof.Rows L2
section
variable {X : Cx} {Wx : WX}
structure LCh (X : Cx) (Wx : WX) (ops : List CmpOp) (es : List Expr) (cs : List (G2 × WE)) : Prop where
  v : ∀ (pos : Pos) (pins : List (Addr × Obj)) (s : Shared) (σ : L2.St) (H : Hp) (u : Value) (x : V) (d : D) (ρ : Ev) (μ : Mu) (Q : VK), Inv X pins σ H s → RelV x u → Rp X.K H d x → EnvR X.K H ρ σ → Sim X.K μ H →
    chainRun cs d ρ μ (Out (Rp X.K) X.K μ H Q) (OutX X.K Wx σ μ H) → wpAny (model X.prog X.w) X.A (compareChain pos u ops (evalEach es X.env)) (EP X pins σ Q) X.xe s
  t : ∀ (pos : Pos) (pins : List (Addr × Obj)) (s : Shared) (σ : L2.St) (H : Hp) (u : Value) (x : V) (d : D) (ρ : Ev) (μ : Mu) (Q : Bool → Hp → Prop), Inv X pins σ H s → RelV x u → Rp X.K H d x → EnvR X.K H ρ σ → Sim X.K μ H →
    chainRun cs d ρ μ (fun z μ' => onBl z fun k => Out (fun (_ : Hp) (b c : Bool) => b = c) X.K μ H Q k μ') (OutX X.K Wx σ μ H) → wpAny (model X.prog X.w) X.A (testChain pos u ops (evalEach es X.env)) (TP X pins σ Q) X.xe s
theorem lch_last {op : CmpOp} {b : Expr} {g : G2} {w : WE} (ho : OpD X (compareOp op) g) (hb : LE X Wx b w) : LCh X Wx [op] [b] [(g, w)] := by
  obtain ⟨r, h1, h2⟩ := ho
  refine ⟨fun pos pins s σ H u x d ρ μ Q I ru R E S h => ?_, fun pos pins s σ H u x d ρ μ Q I ru R E S h => ?_⟩
  · refine chain_last (thn (hb.run pins s σ H (fun y H1 => ∃ (d : D) (μ1 : Mu), r x y H1 Q) I (lW.bind (R := Rp X.K) E S h (fun y μ1 v H1 F1 S1 E1 r1 q1 => ?_) fun _ _ _ h => h)) fun u2 s1 ⟨y, H1, I1, r1, _, _, q1⟩ => h1 pins s1 σ H1 x y u u2 _ I1 ru r1 q1)
    exact ⟨y, μ1, h2 d y μ1 H1 x v Q S1 (Rp.keep S F1 d R) r1 (g.mono (fun _ _ q => Out.trans F1 q) q1)⟩
  · refine test_last (thn (hb.run pins s σ H (fun y H1 => r x y H1 fun z H2 => ∃ k, z = .bl k ∧ Q k H2) I (lW.bind (R := Rp X.K) E S h (fun y μ1 v H1 F1 S1 E1 r1 q1 => ?_) fun _ _ _ h => h)) fun u2 s1 ⟨y, H1, I1, r1, q1⟩ => thn (h1 pins s1 σ H1 x y u u2 _ I1 ru r1 q1) fun u3 s2 ⟨z, H2, I2, r2, k, e, q2⟩ => ?_)
    · refine h2 d y μ1 H1 x v _ S1 (Rp.keep S F1 d R) r1 (g.mono (fun z μ2 q z' H2 F2 S2 r2 => ?_) q1)
      obtain ⟨k, e, q⟩ := onBl_v r2 (show onBl z _ from q)
      exact ⟨k, e, q _ _ (F1.trans F2) S2 rfl⟩
    · subst e
      cases r2
      exact wpAny_truthy_bool ⟨H2, I2, q2⟩
theorem lch_cons {op op' : CmpOp} {ops : List CmpOp} {b b' : Expr} {bs : List Expr} {g : G2} {w : WE} {c : G2 × WE} {cs : List (G2 × WE)} (ho : OpD X (compareOp op) g) (hb : LE X Wx b w) (hc : LCh X Wx (op' :: ops) (b' :: bs) (c :: cs)) : LCh X Wx (op :: op' :: ops) (b :: b' :: bs) ((g, w) :: c :: cs) := by
  obtain ⟨r, h1, h2⟩ := ho
  refine ⟨fun pos pins s σ H u x d ρ μ Q I ru R E S h => ?_, fun pos pins s σ H u x d ρ μ Q I ru R E S h => ?_⟩
  · refine chain_link (thn (hb.run pins s σ H (fun y H1 => ∃ (dy : D) (μ1 : Mu), Fr μ H μ1 H1 ∧ Sim X.K μ1 H1 ∧ EnvR X.K H1 ρ σ ∧ Rp X.K H1 dy y ∧ r x y H1 fun z H2 => ∃ k, z = .bl k ∧ ∃ μ2, Fr μ H μ2 H2 ∧ Sim X.K μ2 H2 ∧ EnvR X.K H2 ρ σ ∧ Rp X.K H2 dy y ∧
      (if k = true then chainRun (c :: cs) dy ρ μ2 (Out (Rp X.K) X.K μ H Q) (OutX X.K Wx σ μ H) else Out (Rp X.K) X.K μ H Q (.bl false) μ2)) I (lW.bind (R := Rp X.K) E S h (fun y μ1 v H1 F1 S1 E1 r1 q1 => ?_) fun _ _ _ h => h)) fun u2 s1 ⟨y, H1, I1, r1, dy, μ1, F1, S1, E1, R1, q1⟩ =>
        thn (h1 pins s1 σ H1 x y u u2 _ I1 ru r1 q1) fun u3 s2 ⟨z, H2, I2, r2, k, e, μ2, F2, S2, E2, R2, q2⟩ => ?_)
    · refine ⟨y, μ1, F1, S1, E1, r1, h2 d y μ1 H1 x v _ S1 (Rp.keep S F1 d R) r1 (g.mono (fun z μ2 q z' H2 F2 S2 r2 => ?_) q1)⟩
      obtain ⟨k, e, q⟩ := onBl_v r2 (show onBl z _ from q)
      exact ⟨k, e, μ2, F1.trans F2, S2, E1.keep S1 F2, Rp.keep S1 F2 y r1, q⟩
    · subst e
      cases r2
      refine wpAny_truthy_bool ?_
      cases k with
      | false => exact ite_ff ⟨.bl false, H2, I2, rfl, q2 _ _ F2 S2 rfl⟩
      | true => exact ite_tt (hc.v pos pins s2 σ H2 u2 y dy ρ μ2 Q I2 r1 R2 E2 S2 (chainRun_mono (fun _ _ q => Out.trans F2 q) (fun _ _ _ q => OutX.trans F2 q) q2))
  · refine test_link (thn (hb.run pins s σ H (fun y H1 => ∃ (dy : D) (μ1 : Mu), Fr μ H μ1 H1 ∧ Sim X.K μ1 H1 ∧ EnvR X.K H1 ρ σ ∧ Rp X.K H1 dy y ∧ r x y H1 fun z H2 => ∃ k, z = .bl k ∧ ∃ μ2, Fr μ H μ2 H2 ∧ Sim X.K μ2 H2 ∧ EnvR X.K H2 ρ σ ∧ Rp X.K H2 dy y ∧
      (if k = true then chainRun (c :: cs) dy ρ μ2 (fun z μ' => onBl z fun k => Out (fun (_ : Hp) (b c : Bool) => b = c) X.K μ H Q k μ') (OutX X.K Wx σ μ H) else Out (fun (_ : Hp) (b c : Bool) => b = c) X.K μ H Q false μ2)) I (lW.bind (R := Rp X.K) E S h (fun y μ1 v H1 F1 S1 E1 r1 q1 => ?_) fun _ _ _ h => h)) fun u2 s1 ⟨y, H1, I1, r1, dy, μ1, F1, S1, E1, R1, q1⟩ =>
        thn (h1 pins s1 σ H1 x y u u2 _ I1 ru r1 q1) fun u3 s2 ⟨z, H2, I2, r2, k, e, μ2, F2, S2, E2, R2, q2⟩ => ?_)
    · refine ⟨y, μ1, F1, S1, E1, r1, h2 d y μ1 H1 x v _ S1 (Rp.keep S F1 d R) r1 (g.mono (fun z μ2 q z' H2 F2 S2 r2 => ?_) q1)⟩
      obtain ⟨k, e, q⟩ := onBl_v r2 (show onBl z _ from q)
      refine ⟨k, e, μ2, F1.trans F2, S2, E1.keep S1 F2, Rp.keep S1 F2 y r1, ?_⟩
      cases k with
      | false => exact q
      | true => exact q
    · subst e
      cases r2
      refine wpAny_truthy_bool ?_
      cases k with
      | false => exact ite_ff ⟨H2, I2, q2 _ _ F2 S2 rfl⟩
      | true => exact ite_tt (hc.t pos pins s2 σ H2 u2 y dy ρ μ2 Q I2 r1 R2 E2 S2 (chainRun_mono (fun z _ q => onBl_mono (fun _ q => Out.trans F2 q) q) (fun _ _ _ q => OutX.trans F2 q) q2))
def wChainN (a : WE) (cs : List (G2 × WE)) : WE := ⟨fun ρ μ Q X => a.run ρ μ (fun x μ1 => chainRun cs x ρ μ1 Q X) X, fun hQ hX h => a.mono (fun _ _ h => chainRun_mono hQ hX h) hX h⟩
theorem wChainN_run {a : WE} {cs : List (G2 × WE)} {ρ : Ev} {μ : Mu} {Q : PQ} {X : XQ} : (wChainN a cs).run ρ μ Q X = a.run ρ μ (fun x μ1 => chainRun cs x ρ μ1 Q X) X := rfl
theorem chainRun_last {g : G2} {w : WE} {x : D} {ρ : Ev} {μ : Mu} {Q : PQ} {X : XQ} : chainRun [(g, w)] x ρ μ Q X = w.run ρ μ (fun y μ1 => g.run x y μ1 Q) X := rfl
theorem chainRun_cons {g : G2} {w : WE} {c : G2 × WE} {cs : List (G2 × WE)} {x : D} {ρ : Ev} {μ : Mu} {Q : PQ} {X : XQ} : chainRun ((g, w) :: c :: cs) x ρ μ Q X = w.run ρ μ (fun y μ1 => g.run x y μ1 fun z μ2 => onBl z fun k => if k = true then chainRun (c :: cs) y ρ μ2 Q X else Q (.bl false) μ2) X := rfl
theorem le_chainN {op op' : CmpOp} {ops : List CmpOp} {a b b' : Expr} {bs : List Expr} {pos : Pos} {wa : WE} {cs : List (G2 × WE)} (ha : LE X Wx a wa) (hc : LCh X Wx (op :: op' :: ops) (b :: b' :: bs) cs) (hm : lastMarks (op :: op' :: ops) (b :: b' :: bs) = false := by with_unfolding_all rfl) :
    LE X Wx (.Compare a (op :: op' :: ops) (b :: b' :: bs) pos) (wChainN wa cs) := ⟨fun pins s σ H Q I ⟨ρ, μ, E, S, h⟩ =>
  Compare_chain (thn (ha.run pins s σ H (fun x H1 => ∃ (d : D) (μ1 : Mu), Fr μ H μ1 H1 ∧ Sim X.K μ1 H1 ∧ EnvR X.K H1 ρ σ ∧ Rp X.K H1 d x ∧ chainRun cs d ρ μ1 (Out (Rp X.K) X.K μ H Q) (OutX X.K Wx σ μ H)) I (lW.bind (R := Rp X.K) E S h (fun x μ1 v H1 F1 S1 E1 r1 q1 => ⟨x, μ1, F1, S1, E1, r1, q1⟩) fun _ _ _ h => h))
    fun u s1 ⟨x, H1, I1, ru, d, μ1, F1, S1, E1, R1, q1⟩ => hc.v pos pins s1 σ H1 u x d ρ μ1 Q I1 ru R1 E1 S1 (chainRun_mono (fun _ _ q => Out.trans F1 q) (fun _ _ _ q => OutX.trans F1 q) q1)) hm⟩
theorem lt_chainN {op op' : CmpOp} {ops : List CmpOp} {a b b' : Expr} {bs : List Expr} {pos : Pos} {wa : WE} {cs : List (G2 × WE)} (ha : LE X Wx a wa) (hc : LCh X Wx (op :: op' :: ops) (b :: b' :: bs) cs) (hm : lastMarks (op :: op' :: ops) (b :: b' :: bs) = false := by with_unfolding_all rfl) :
    LT X Wx (.Compare a (op :: op' :: ops) (b :: b' :: bs) pos) (wTB (wChainN wa cs)) := ⟨fun pins s σ H Q I ⟨ρ, μ, E, S, h⟩ =>
  isTrue_chain (thn (ha.run pins s σ H (fun x H1 => ∃ (d : D) (μ1 : Mu), Fr μ H μ1 H1 ∧ Sim X.K μ1 H1 ∧ EnvR X.K H1 ρ σ ∧ Rp X.K H1 d x ∧ chainRun cs d ρ μ1 (fun z μ' => onBl z fun k => Out (fun (_ : Hp) (b c : Bool) => b = c) X.K μ H Q k μ') (OutX X.K Wx σ μ H)) I (lW.bind (R := Rp X.K) E S h (fun x μ1 v H1 F1 S1 E1 r1 q1 => ⟨x, μ1, F1, S1, E1, r1, q1⟩) fun _ _ _ h => h))
    fun u s1 ⟨x, H1, I1, ru, d, μ1, F1, S1, E1, R1, q1⟩ => hc.t pos pins s1 σ H1 u x d ρ μ1 Q I1 ru R1 E1 S1 (chainRun_mono (fun z _ q => onBl_mono (fun _ q => Out.trans F1 q) q) (fun _ _ _ q => OutX.trans F1 q) q1)) hm⟩
end
end Sq

/-! The law's end. -/
namespace Sq
open PySem PySem.Spec PyProof.Rows L2
abbrev mu0 : Mu := fun _ => none
/-- the law's call, its script a list that is read alone -/
theorem law_go {P : Program} {w : World} {K : PySem.W.Frag} {mg mb : Str → Option Value} {k : Nat} {fa a : Addr} {fd : FuncData} {x : Str} {S : SpD} {t : Shared} {vs : List Value} {ns : List Int}
    (hK : K.In t.heap) (hG : t.heap.Ns mainGlobals mg) (hB : t.heap.Ns builtinsNs mb) (hBB : ∀ z : Str, z ≠ "__name__" → mb z = bootBuiltins z) (hL : t.heap.NoLimit) (hgen : t.gens = #[])
    (hobj : t.heap.get? a = some { cls := .type "list", data := .seq vs.toArray }) (hints : IntsAre vs ns) (hz : ns.length ≤ sizeLine) (hroom : Room k callerA)
    (F : ∀ base : Heap, K.In base → base.Ns mainGlobals mg → RunOk P w K mg base k fa fd [x] (spOf K 1 S)) (hbd : ∀ (s : Shared) (u : Value), BindsTo s fd ⟨[u], []⟩ [(x, u)])
    (hS : S.run [.rls (ns.map D.int)] mu0 (fun d _ => d = .bl true) XF) :
    codeAny (model P w) callerA (.call (.ref fa) ⟨[.ref a], []⟩) (fun r s' => r = .ok (.ret (.bool true)) ∧ OldK t.heap s'.heap ∧ s'.os = t.os ∧ AllBare s'.gens) t := by
  have hV := L2.vals_ints hints
  have hlen := hints.length
  suffices go : ∀ H : Hp, (∀ b, H b = none ∨ (b = a ∧ K.lookup a = none ∧ ∃ o xs, H b = some (.frz o (.lst xs)))) → SqR K H a (ns.map V.int) → HOk P w H t.heap →
      codeAny (model P w) callerA (.call (.ref fa) ⟨[.ref a], []⟩) (fun r s' => r = .ok (.ret (.bool true)) ∧ OldK t.heap s'.heap ∧ s'.os = t.os ∧ AllBare s'.gens) t by
    cases e : K.lookup a with
    | some o =>
      have e' := hK a o e
      rw [hobj] at e'; cases e'
      exact go (fun _ => none) (fun _ => .inl rfl) (.inr ⟨_, vs.toArray, _, e, rfl, rfl, rfl, by rw [List.size_toArray, hlen]; exact hz, by simpa using hV⟩) fun b u z => nomatch z
    | none =>
      refine go (fun b => if b = a then some (.frz { cls := .type "list", data := .seq vs.toArray } (.lst (ns.map V.int))) else none) (fun b => ?_) (.inl ⟨_, if_pos rfl⟩) fun b u z => ?_
      · by_cases q : b = a
        · exact .inr ⟨q, e, _, _, if_pos q⟩
        · exact .inl (if_neg q)
      · by_cases q : b = a
        · have z2 := (if_pos q).symm.trans z
          cases z2
          subst q
          exact ⟨hobj, by rw [List.length_map]; exact hz, vs, _, hV, hobj⟩
        · exact nomatch (if_neg q).symm.trans z
  intro H one seq hok
  have free : ∀ {b : Addr} {o : Obj}, t.heap.get? b = some o → (b = a → K.lookup a = none → False) → (hidT t.heap H).get? b = some o := fun {b o} e n => hidT_get e (by
    rcases one b with z | ⟨z1, z2, _⟩
    · exact z
    · exact (n z1 z2).elim)
  have inB : K.In (hidT t.heap H) := fun b o e => free (hK b o e) fun z1 z2 => by
    subst z1
    rw [e] at z2; cases z2
  have nsB : ∀ {b : Addr} {m : Str → Option Value}, t.heap.Ns b m → (hidT t.heap H).Ns b m := fun {b m} ⟨o, es, ep, e, d, r⟩ => ⟨o, es, ep, free e (fun z1 _ => by
    subst z1
    rw [hobj] at e; cases e
    have d2 : Data.seq vs.toArray _ = Data.dict es ep := d
    cases d2), d, r⟩
  have md : Mod K mg (hidT t.heap H) := ⟨inB, nsB hG, ⟨mb, nsB hB, hBB⟩, by
    obtain ⟨mc, c1, c2⟩ := hL
    exact ⟨mc, nsB c1, c2⟩⟩
  have en : Env0 P w K mg (hidT t.heap H) callerA [] t H := ⟨rfl, md, fun b o e => of_hidT e, Nat.le_of_eq (hidT_size _ _), trivial, fun b hb => absurd (show b ∈ ([] : List Addr) from hb) (by simp), hok, .of_eq hgen⟩
  have S0 : Sim K mu0 H := ⟨fun b o e => nomatch e⟩
  have R0 : Rps K H [.rls (ns.map D.int)] [.ref a] := by
    unfold Rps
    refine ⟨_, _, rfl, ?_, rfl⟩
    unfold Rp
    exact ⟨a, _, rfl, seq, Rps.of_ints ns⟩
  have sp0 : spOf K 1 S [.ref a] H (fun v _ => v = .bl true) (fun _ _ _ => False) := ⟨rfl, _, _, R0, S0, S.mono (fun d μ' q v H' _ _ r => by
    subst q
    exact r) (fun _ _ _ q => q.elim) hS⟩
  refine codeAny_mono (F _ inB (nsB hG) callerA [] t H ⟨[.ref a], []⟩ [.ref a] [.ref a] _ _ rfl hroom en (hbd t (.ref a)) (.cons rfl .nil) sp0) fun r s' h => ?_
  match r, h with
  | .error e, ⟨_, _, _, _, _, _, _, _, _, _, _, _, z⟩ => exact z.elim
  | .ok .next, h => exact False.elim h
  | .ok .brk, h => exact False.elim h
  | .ok .cont, h => exact False.elim h
  | .ok (.ret u), ⟨v, H', e1, e2, un, ok2, rv, q⟩ =>
    have q2 : v = .bl true := q
    subst q2
    obtain rfl : u = Value.bool true := rv
    refine ⟨rfl, OldK.of_keep fun b o e => ?_, e1, e2⟩
    rcases one b with z | ⟨_, _, ob, xs, z⟩
    · exact un.keep b o e z (fun y => absurd (show b ∈ ([] : List Addr) from y) (by simp)) (by simp)
    · obtain ⟨a1, _⟩ := hok b _ z
      obtain ⟨a2, _⟩ := ok2 b _ (un.frzs b ob _ z)
      rw [e] at a1; cases a1
      exact a2
/-- the row's walk, from the promise of the law's def -/
theorem law_walk {l : PySem.W.OpenLaw} {q : Program} {loose : List Str} {XP : (Str → Option Value) → Heap → Prop} {YP : World → Heap → Prop} {d : DefRec} {K : Params → PySem.W.Frag} {x : Str} {S : SpD} (k : Nat)
    (hn : l.most = some 63) (hdf : d.params.defaults = []) (hk : k ≤ 90)
    (hY : ∀ (w : World) (h : Heap), YP w h → (K w.params).In h)
    (F : ∀ (w : World) (mg : Str → Option Value) (fa : Addr) (h : Heap), (K w.params).In h → h.Ns mainGlobals mg → mg d.name = some (.ref fa) →
      ∃ fd : FuncData, (∀ (s : Shared) (u : Value), BindsTo s fd ⟨[u], []⟩ [(x, u)]) ∧ ∀ base : Heap, (K w.params).In base → base.Ns mainGlobals mg → RunOk l.prog w (K w.params) mg base k fa fd [x] (spOf (K w.params) 1 S))
    (hS : ∀ ns : List Int, ns.length ≤ 63 → (∀ z ∈ ns, Builtin.Int.intBits z ≤ 1048576) → S.run [.rls (ns.map D.int)] mu0 (fun d _ => d = .bl true) XF) :
    PySem.W.WalkO q loose XP YP l.row.toRowW d [] (fun f vs => PySem.call f vs) := by
  refine Att.attach_callB hn hdf fun w s₀ s₁ mg mb fa o pm cd doc a vs ns G Y ho hd hcd hmg hobj hints hlen hbits hg => ?_
  have KX := hY w _ Y
  obtain ⟨fd, hb, hF⟩ := F w mg fa _ KX G.T.g hmg
  refine law_go KX G.T.g G.T.b G.T.builtins G.T.nolimit hg hobj hints (Nat.le_trans hlen (by rw [sizeLine_eq]; decide)) ?_ hF hb (hS ns hlen hbits)
  exact L2.Room.mono (k := 90) ⟨rfl, by decide, by decide⟩ hk
end Sq
namespace Sq
open PySem PySem.Spec PyProof.Rows L2
/-- a def's promise by its body, for the function object at hand -/
theorem fn_run {P : Program} {w : World} {K : PySem.W.Frag} {mg : Str → Option Value} {base : Heap} {x : Str} {st : Stmt} {f : Addr} {fd : FuncData} {N ps : List Str} {k : Nat} {Sd : SpD} (F : Fun K x x st f fd) (S : FnScope N ps (defScope st)) (wb : WS)
    (hder : ∀ (cdv : Value) (A : Around) (outer : List Env) (s : Shared) (H : Hp) (E : XK), A.guards = some [] → Room k (A.deeper (envOfC x (defScope st) s.heap.objs.size f cdv)) → LSs (cxOf (L2.CX P w) P w K mg base N x (defScope st) f cdv A outer s H E) (wxE E) (defBody st) wb)
    (hread : ∀ (ds : List D) (μ : Mu) (Q : PQ) (X : XQ), ds.length = ps.length → Sd.run ds μ Q X → wb.run (bodyD Q X) (ev0 N.length ds) μ) : RunOk P w K mg base (k + 1) f fd ps (spOf K ps.length Sd) := by
  obtain ⟨oc, od, kV, doc, pm, an, cdv, ct, osl, efd, lk, hcd⟩ := F.ex
  intro A outer s H args us vs Q E hg hr e0 hbd r hsp
  subst efd
  refine LamX.run_ofS (N := N) lk hcd S hr e0 hbd r hsp.1 fun hr' => ⟨_, hder cdv A outer s H E hg hr', ?_⟩
  obtain ⟨hl, ds, μ, R, Sm, q⟩ := hsp
  have hd : ds.length = ps.length := by rw [← R.length]; exact hl
  refine ⟨ev0 N.length ds, μ, ?_, Sm, wb.mono (D := bodyD (Out (Rp K) K μ H Q) (OutE K μ H E)) ⟨?_, fun d μ' h => SubQ.out h, fun _ _ z => z.elim, fun _ _ z => z.elim, ?_⟩ (hread ds μ _ _ hd q)⟩
  · unfold ev0 L2.start
    rw [R.length]
    exact EnvR.start R
  · exact fun ρ μ' h σ' H' F' S' E' => SubQ.out h .non H' F' S' rfl
  · rintro ρ C d μ' ⟨μ'', s, q⟩ σ' dx v H' F' S' E' e r
    exact q dx v H' (sub_fr s F') (sub_sim s S') e r
end Sq

/-! Promises: shapes, the harness's pot. -/
namespace Sq
open PySem PySem.Spec PyProof.Rows L2
theorem u65 {A : Around} {k : Nat} (r : Room k A) : A.units + 65 < cLine := by have := r.un; omega
section
variable {X : Cx} {Wx : WX}
theorem le_globI {x : Str} {n : Int} {pos : Pos} (hm : ∃ t, X.mg x = some (.int n t)) (hg : Gl X x := by rfl) (hd : (x == ("__debug__" : Str)) = false := by decide) : LE X Wx (.Name x pos) (wC (.int n)) := by
  obtain ⟨t, hm⟩ := hm
  exact le_glob (v := .int n) hm ⟨t, rfl⟩ (fun _ => rfl) hg hd
theorem le_globS {x y : Str} {pos : Pos} (hm : ∃ t, X.mg x = some (.str y t)) (hg : Gl X x := by rfl) (hd : (x == ("__debug__" : Str)) = false := by decide) : LE X Wx (.Name x pos) (wC (.str y)) := by
  obtain ⟨t, hm⟩ := hm
  exact le_glob (v := .str y) hm ⟨t, rfl⟩ (fun _ => rfl) hg hd
end
abbrev t2 (x y : Int) : D := .tup [.int x, .int y]
abbrev f3 (a b c : Int) : D := .tup [.int a, .int b, .int c]
abbrev t4 (p q r s : Int) : D := .tup [.int p, .int q, .int r, .int s]
/-- a promise: what is asked of the arguments, then every result that may come -/
def spQ (P : List D → Mu → PQ → Prop) (m : ∀ {ds μ Q Q'}, (∀ d μ', Q d μ' → Q' d μ') → P ds μ Q → P ds μ Q') : SpD := ⟨fun ds μ Q _ => P ds μ Q, fun hQ _ h => m hQ h⟩
/-- one result, nothing kept in the store -/
def spR (R : List D → D → Prop) : SpD := ⟨fun ds μ Q _ => ∃ r, R ds r ∧ Q r μ, fun hQ _ ⟨r, h, q⟩ => ⟨r, h, hQ _ _ q⟩⟩
theorem spR_run {R : List D → D → Prop} {ds : List D} {μ : Mu} {Q : PQ} {X : XQ} : (spR R).run ds μ Q X = ∃ r, R ds r ∧ Q r μ := rfl
def spNo : SpD := ⟨fun _ _ _ _ => False, fun _ _ h => h⟩
def B64 (x : Int) : Prop := -(2 ^ 64) < x ∧ x < 2 ^ 64
theorem B64.l {i j : Int} (h : B64 i) : IntMulOk i j := mulOk_l h.1 h.2
theorem B64.r {i j : Int} (h : B64 j) : IntMulOk i j := mulOk_r h.1 h.2
theorem B64.mk {x : Int} (h1 : -18446744073709551616 < x) (h2 : x < 18446744073709551616) : B64 x := ⟨by omega, by omega⟩

/-! ### the pot: [own, small, lap] -/
def potL (x y z : Int) : List D := [.int x, .int y, .int z]
def PotAt (n : Nat) (μ : Mu) (p : Addr) : Prop := ∃ x y z : Int, μ p = some (.lst (potL x y z)) ∧ 0 ≤ x ∧ 0 ≤ y ∧ y < 2305843009213693952 ∧ 0 ≤ z ∧ z ≤ n
/-- the store with another pot at p -/
def potS (μ : Mu) (p : Addr) (x y z : Int) : Mu := mset μ p (.lst (potL x y z))
theorem PotAt.mk {n : Nat} {μ : Mu} {p : Addr} {x y z : Int} (h0 : 0 ≤ x) (h1 : 0 ≤ y) (h2 : y < 2305843009213693952) (h3 : 0 ≤ z) (h4 : z ≤ n) : PotAt n (potS μ p x y z) p := ⟨x, y, z, mset_same _ _ _, h0, h1, h2, h3, h4⟩
theorem PotAt.mono {n m : Nat} {μ : Mu} {p : Addr} (h : PotAt n μ p) (k : n ≤ m) : PotAt m μ p := by
  obtain ⟨x, y, z, h1, h2, h3, h4, h5, h6⟩ := h
  exact ⟨x, y, z, h1, h2, h3, h4, h5, by omega⟩
theorem PotAt.ne {n : Nat} {μ : Mu} {p q : Addr} (h : PotAt n μ p) (k : μ q = none) : p ≠ q := by
  obtain ⟨x, y, z, h1, _⟩ := h
  exact ne_free h1 k
theorem PotAt.new {n : Nat} {μ : Mu} {p q : Addr} {o : O} (h : PotAt n μ p) (k : μ q = none) : PotAt n (mset μ q o) p := by
  have := h.ne k
  obtain ⟨x, y, z, h1, r⟩ := h
  exact ⟨x, y, z, by rw [mset_ne this]; exact h1, r⟩
/-- the pot alone has changed -/
def PotTo (n : Nat) (μ μ' : Mu) (p : Addr) : Prop := PotAt n μ' p ∧ ∀ b, b ≠ p → μ' b = μ b
theorem PotTo.at_ {n : Nat} {μ μ' : Mu} {p : Addr} (h : PotTo n μ μ' p) : PotAt n μ' p := h.1
theorem PotTo.trans {n m : Nat} {μ μ1 μ2 : Mu} {p : Addr} (h : PotTo n μ μ1 p) (k : PotTo m μ1 μ2 p) : PotTo m μ μ2 p := ⟨k.1, fun b hb => (k.2 b hb).trans (h.2 b hb)⟩
theorem PotTo.mono {n m : Nat} {μ μ1 : Mu} {p : Addr} (h : PotTo n μ μ1 p) (k : n ≤ m) : PotTo m μ μ1 p := ⟨h.1.mono k, h.2⟩
theorem PotTo.refl {n : Nat} {μ : Mu} {p : Addr} (h : PotAt n μ p) : PotTo n μ μ p := ⟨h, fun _ _ => rfl⟩
theorem PotTo.of {n : Nat} {μ : Mu} {p : Addr} {x y z : Int} (h0 : 0 ≤ x) (h1 : 0 ≤ y) (h2 : y < 2305843009213693952) (h3 : 0 ≤ z) (h4 : z ≤ n) : PotTo n μ (potS μ p x y z) p := ⟨PotAt.mk h0 h1 h2 h3 h4, fun b hb => mset_ne hb⟩
/-- _law_take -/
def spTake : SpD := spQ (fun ds μ Q => ∃ p upto n, ds = [.ob p, .int upto] ∧ PotAt n μ p ∧ n ≤ 1000000 ∧ 0 < upto ∧ upto < 1099511627776 ∧ ∀ d μ', 0 ≤ d → d < upto → PotTo (n + 1) μ μ' p → Q (.int d) μ') fun hQ ⟨p, u, n, h1, h2, h3, h4, h5, h6⟩ => ⟨p, u, n, h1, h2, h3, h4, h5, fun d μ' a b c => hQ _ _ (h6 d μ' a b c)⟩
/-- _law_of -/
def spOfL : SpD := spQ (fun ds μ Q => ∃ p l n xs, ds = [.ob p, .ob l] ∧ PotAt n μ p ∧ n ≤ 1000000 ∧ μ l = some (.lst xs) ∧ xs ≠ [] ∧ xs.length < 1000 ∧ l ≠ p ∧ ∀ d μ', d ∈ xs → PotTo (n + 1) μ μ' p → Q d μ') fun hQ ⟨p, l, n, xs, h1, h2, h3, h4, h5, h6, h7, h8⟩ => ⟨p, l, n, xs, h1, h2, h3, h4, h5, h6, h7, fun d μ' a b => hQ _ _ (h8 d μ' a b)⟩
/-- _law_pot -/
def spPot : SpD := spQ (fun ds μ Q => ∃ (ns : List Int) (k : Int), ds = [.rls (ns.map D.int), .int k] ∧ ns.length ≤ 63 ∧ 0 ≤ k ∧ k < 1000 ∧ ∀ p μ', μ p = none → PotTo 0 μ μ' p → Q (.ob p) μ') fun hQ ⟨ns, k, h1, h2, h3, h4, h5⟩ => ⟨ns, k, h1, h2, h3, h4, fun p μ' a b => hQ _ _ (h5 p μ' a b)⟩
/-- _law_cells -/
def spCells : SpD := spQ (fun ds μ Q => ∃ (ns : List Int) (m : Int), ds = [.rls (ns.map D.int), .int m] ∧ ns.length ≤ 63 ∧ 0 < m ∧ m < 1000 ∧ ∀ p (k : Nat), μ p = none → k ≤ m → Q (.ob p) (mset μ p (.lst (rangeD 0 k)))) fun hQ ⟨ns, m, h1, h2, h3, h4, h5⟩ => ⟨ns, m, h1, h2, h3, h4, fun p k a b => hQ _ _ (h5 p k a b)⟩
end Sq

/-! For readings. -/
namespace Sq
open PySem PySem.Spec PyProof.Rows L2
section
variable {α : Type}
theorem ixN_nn {n j : Nat} (h : j < n) : L2.ixN n (j : Int) = some j := by
  unfold L2.ixN
  rw [if_pos (by omega), if_pos (by omega)]
  simp
theorem atI_nat {xs : List α} {n : Nat} {x : α} (h : xs[n]? = some x) : L2.atI xs (n : Int) = some x := by
  unfold L2.atI
  rw [ixN_nn (List.getElem?_eq_some_iff.mp h).1]
  exact h
theorem atI_int {xs : List α} {i : Int} {x : α} (h0 : 0 ≤ i) (h : xs[i.toNat]? = some x) : L2.atI xs i = some x := by
  obtain ⟨n, rfl⟩ := Int.eq_ofNat_of_zero_le h0
  exact atI_nat h
theorem atI_0 {x : α} {xs : List α} : L2.atI (x :: xs) 0 = some x := atI_nat (n := 0) rfl
theorem atI_1 {x y : α} {xs : List α} : L2.atI (x :: y :: xs) 1 = some y := atI_nat (n := 1) rfl
theorem atI_2 {x y z : α} {xs : List α} : L2.atI (x :: y :: z :: xs) 2 = some z := atI_nat (n := 2) rfl
theorem atI_3 {x y z u : α} {xs : List α} : L2.atI (x :: y :: z :: u :: xs) 3 = some u := atI_nat (n := 3) rfl
theorem atI_m4 {x y z u : α} : L2.atI [x, y, z, u] (-1) = some u := rfl
theorem ixN_0 {n : Nat} : L2.ixN (n + 1) 0 = some 0 := ixN_nn (j := 0) (by omega)
theorem ixN_1 {n : Nat} : L2.ixN (n + 2) 1 = some 1 := ixN_nn (j := 1) (by omega)
theorem ixN_30 : L2.ixN 3 0 = some 0 := rfl
theorem ixN_31 : L2.ixN 3 1 = some 1 := rfl
theorem ixN_32 : L2.ixN 3 2 = some 2 := rfl
end
/-- a comprehension by an invariant -/
theorem lcG_by {t : CT} {tt : WT} {te : WE} {chk : Mu → Prop} {ds : List D} {ρ : Ev} {k : List D → Mu → Prop} (P : Nat → List D → Mu → Prop) (hc : ∀ i acc μ, i ≤ ds.length → P i acc μ → chk μ)
    (hs : ∀ i d acc μ, ds[i]? = some d → P i acc μ → ∃ ρ1, t.set d ρ = some ρ1 ∧ tt.run ρ1 μ (fun b μ1 => if b = true then te.run ρ1 μ1 (fun y μ2 => P (i + 1) (acc ++ [y]) μ2) XF else P (i + 1) acc μ1) XF) (hd : ∀ acc μ, P ds.length acc μ → k acc μ) {μ : Mu} (h0 : P 0 [] μ) : lcG t tt te chk ds [] ρ μ k := by
  have key : ∀ (n : Nat) (i : Nat) (acc : List D) (μ : Mu), i + n = ds.length → P i acc μ → lcG t tt te chk (ds.drop i) acc ρ μ k := by
    intro n
    induction n with
    | zero =>
      intro i acc μ hi p
      have e : i = ds.length := by omega
      subst e
      rw [List.drop_length]
      exact ⟨hc _ _ _ (Nat.le_refl _) p, hd _ _ p⟩
    | succ n ih =>
      intro i acc μ hi p
      have hlt : i < ds.length := by omega
      rw [List.drop_eq_getElem_cons hlt]
      obtain ⟨ρ1, e1, q⟩ := hs i ds[i] acc μ (by simp [hlt]) p
      refine ⟨hc _ _ _ (Nat.le_of_lt hlt) p, ?_⟩
      rw [e1]
      refine tt.mono (fun b μ1 q => ?_) (fun _ _ _ q => q) q
      cases b with
      | true => exact te.mono (fun y μ2 q => ih (i + 1) _ μ2 (by omega) q) (fun _ _ _ q => q) q
      | false => exact ih (i + 1) _ μ1 (by omega) q
  have := key ds.length 0 [] μ (by omega) h0
  rwa [List.drop_zero] at this
/-- one that leaves the store alone -/
theorem lcG_pure {t : CT} {tt : WT} {te : WE} {chk : Mu → Prop} {ρ : Ev} {μ : Mu} {k : List D → Mu → Prop} (f : D → Option D) (hc : chk μ) : ∀ {ds acc : List D},
    (∀ d ∈ ds, ∃ ρ1, t.set d ρ = some ρ1 ∧ tt.run ρ1 μ (fun b μ1 => if b = true then te.run ρ1 μ1 (fun y μ2 => μ2 = μ ∧ f d = some y) XF else μ1 = μ ∧ f d = none) XF) → k (acc ++ ds.filterMap f) μ → lcG t tt te chk ds acc ρ μ k
  | [], acc, _, h => ⟨hc, by simpa using h⟩
  | d :: ds, acc, hs, h => by
    obtain ⟨ρ1, e1, q⟩ := hs d List.mem_cons_self
    refine ⟨hc, ?_⟩
    rw [e1]
    refine tt.mono (fun b μ1 q => ?_) (fun _ _ _ q => q) q
    cases b with
    | true => exact te.mono (fun y μ2 ⟨e, e2⟩ => by
        subst e
        exact lcG_pure f hc (fun d' hd => hs d' (List.mem_cons_of_mem _ hd)) (by simpa [List.filterMap_cons, e2] using h)) (fun _ _ _ q => q) q
    | false =>
      obtain ⟨e, e2⟩ := (show μ1 = μ ∧ f d = none from q)
      subst e
      exact lcG_pure f hc (fun d' hd => hs d' (List.mem_cons_of_mem _ hd)) (by simpa [List.filterMap_cons, e2] using h)
/-- one without a test that leaves the store alone -/
theorem lcG_map {t : CT} {te : WE} {chk : Mu → Prop} {ρ : Ev} {μ : Mu} {k : List D → Mu → Prop} (g : D → D) (hc : chk μ) {ds : List D}
    (hs : ∀ d ∈ ds, ∃ ρ1, t.set d ρ = some ρ1 ∧ te.run ρ1 μ (fun y μ2 => μ2 = μ ∧ y = g d) XF) (h : k (ds.map g) μ) : lcG t wYes te chk ds [] ρ μ k :=
  lcG_pure (fun d => some (g d)) hc (fun d hd => by
    obtain ⟨ρ1, e, q⟩ := hs d hd
    exact ⟨ρ1, e, te.mono (fun y μ2 ⟨e1, e2⟩ => ⟨e1, by rw [e2]⟩) (fun _ _ _ q => q) q⟩) (by simpa using h)
theorem sizeBig : 16000000 ≤ sizeLine := by rw [sizeLine_eq]; decide
theorem small_size {n : Nat} (h : n ≤ 16000000) : n ≤ sizeLine := Nat.le_trans h sizeBig
theorem SubQ.skip {Q : PQ} {d : D} {μ : Mu} {p : Addr} {o : O} (hp : μ p = none) (h : Q d μ) : SubQ Q d (mset μ p o) := SubQ.mk h (sub_new hp)
/-- a greater store -/
def Ext (μ μ' : Mu) : Prop := ∀ a o, μ a = some o → μ' a = some o
theorem Ext.refl (μ : Mu) : Ext μ μ := fun _ _ h => h
theorem Ext.trans {μ μ1 μ2 : Mu} (h : Ext μ μ1) (k : Ext μ1 μ2) : Ext μ μ2 := fun a o e => k a o (h a o e)
theorem Ext.free {μ μ' : Mu} {p : Addr} (h : Ext μ μ') (k : μ' p = none) : μ p = none := by
  cases e : μ p with
  | none => rfl
  | some o => rw [h p o e] at k; cases k
theorem Ext.new {μ μ' : Mu} {p : Addr} {o : O} (h : Ext μ μ') (k : μ' p = none) : Ext μ (mset μ' p o) := fun a u e => by rw [mset_ne (ne_free (h a u e) k)]; exact h a u e
/-- an object behind the old store is written -/
theorem Ext.set {μ μ' : Mu} {p : Addr} {o : O} (h : Ext μ μ') (k : μ p = none) : Ext μ (mset μ' p o) := fun a u e => by rw [mset_ne (ne_free e k)]; exact h a u e
theorem Ext.both {μ μ' : Mu} {p : Addr} {o : O} (h : Ext μ μ') : Ext (mset μ p o) (mset μ' p o) := fun a u e => by
  by_cases q : a = p
  · subst q; rw [mset_same] at e ⊢; exact e
  · rw [mset_ne q] at e ⊢; exact h a u e
theorem SubQ.ext {Q : PQ} {d : D} {μ μ' : Mu} (h : Q d μ) (e : Ext μ μ') : SubQ Q d μ' := SubQ.mk h e
theorem SubQ.new {Q : PQ} {p : Addr} {o : O} {μ μ' : Mu} (e : Ext μ μ') (k : μ' p = none) (h : ∀ p, μ p = none → Q (.ob p) (mset μ p o)) : SubQ Q (.ob p) (mset μ' p o) := SubQ.mk (h p (e.free k)) e.both
/-- the pot has changed, things have come -/
def PotX (n : Nat) (μ μ' : Mu) (p : Addr) : Prop := PotAt n μ' p ∧ ∀ b o, b ≠ p → μ b = some o → μ' b = some o
theorem PotTo.x {n : Nat} {μ μ' : Mu} {p : Addr} (h : PotTo n μ μ' p) : PotX n μ μ' p := ⟨h.1, fun b o hb e => by rw [h.2 b hb]; exact e⟩
theorem PotX.refl {n : Nat} {μ : Mu} {p : Addr} (h : PotAt n μ p) : PotX n μ μ p := ⟨h, fun _ _ _ e => e⟩
theorem PotX.trans {n m : Nat} {μ μ1 μ2 : Mu} {p : Addr} (h : PotX n μ μ1 p) (k : PotX m μ1 μ2 p) : PotX m μ μ2 p := ⟨k.1, fun b o hb e => k.2 b o hb (h.2 b o hb e)⟩
theorem PotX.step {n m : Nat} {μ μ1 μ2 : Mu} {p : Addr} (h : PotX n μ μ1 p) (k : PotTo m μ1 μ2 p) : PotX m μ μ2 p := h.trans k.x
theorem PotX.new {n : Nat} {μ μ1 : Mu} {p q : Addr} {o : O} (h : PotX n μ μ1 p) (k : μ1 q = none) : PotX n μ (mset μ1 q o) p := ⟨h.1.new k, fun b u hb e => by rw [mset_ne (ne_free (h.2 b u hb e) k)]; exact h.2 b u hb e⟩
theorem PotX.set {n : Nat} {μ μ1 : Mu} {p q : Addr} {o : O} (h : PotX n μ μ1 p) (k : μ q = none) (hq : q ≠ p) : PotX n μ (mset μ1 q o) p := ⟨by
  obtain ⟨x, y, z, e, r⟩ := h.1
  exact ⟨x, y, z, by rw [mset_ne (fun w => hq w.symm)]; exact e, r⟩, fun b u hb e => by rw [mset_ne (ne_free e k)]; exact h.2 b u hb e⟩
theorem PotX.mono {n m : Nat} {μ μ1 : Mu} {p : Addr} (h : PotX n μ μ1 p) (k : n ≤ m) : PotX m μ μ1 p := ⟨h.1.mono k, h.2⟩
theorem PotX.sub {n : Nat} {μ μ' : Mu} {p : Addr} {Q : PQ} {d : D} (h : PotX n μ μ' p) (q : ∀ μ'', PotTo n μ μ'' p → Q d μ'') : SubQ Q d μ' := by
  obtain ⟨x, y, z, e, h1, h2, h3, h4, h5⟩ := h.1
  refine ⟨potS μ p x y z, fun a o ha => ?_, q _ (PotTo.of h1 h2 h3 h4 h5)⟩
  by_cases k : a = p
  · subst k
    unfold potS at ha
    rw [mset_same] at ha; cases ha; exact e
  · unfold potS at ha
    rw [mset_ne k] at ha
    exact h.2 a o k ha
theorem at_new {μ : Mu} {p q : Addr} {o u : O} (h : μ p = some u) (hq : μ q = none) : mset μ q o p = some u := by rw [mset_ne (ne_free h hq)]; exact h
/-- one statement, then the rest -/
theorem seq_by {a b : WS} {D : PD} {ρ : Ev} {μ : Mu} (P : Ev → Mu → Prop) (h1 : a.run { D with nx := P } ρ μ) (h2 : ∀ ρ μ, P ρ μ → b.run D ρ μ) : (wSeq a b).run D ρ μ := by
  rw [wSeq_run]
  exact a.mono (D := { D with nx := P }) (D' := { D with nx := fun ρ1 μ1 => b.run D ρ1 μ1 }) ⟨h2, fun _ _ q => q, fun _ _ q => q, fun _ _ q => q, fun _ _ _ _ q => q⟩ h1
/-- a test that leaves things alone -/
theorem if_by {c : WT} {a b : WS} {D : PD} {ρ : Ev} {μ : Mu} (k : Bool) (h : c.run ρ μ (fun k' μ1 => k' = k ∧ μ1 = μ) (D.ex ρ)) (h1 : k = true → a.run D ρ μ) (h2 : k = false → b.run D ρ μ) : (wIf c a b).run D ρ μ := by
  rw [wIf_run]
  refine c.mono (fun k' μ1 ⟨e1, e2⟩ => ?_) (fun _ _ _ q => q) h
  subst e1 e2
  cases k' with
  | true => exact h1 rfl
  | false => exact h2 rfl
theorem gLen_run {x : D} {μ : Mu} {Q : PQ} : gLen.run [x] μ Q = fLen x μ Q := rfl
theorem gAbs_run {x : D} {μ : Mu} {Q : PQ} : gAbs.run [x] μ Q = fAbs x μ Q := rfl
theorem gInt_run {x : D} {μ : Mu} {Q : PQ} : gInt.run [x] μ Q = fInt x μ Q := rfl
theorem gAll_run {x : D} {μ : Mu} {Q : PQ} : gAll.run [x] μ Q = fAll x μ Q := rfl
theorem gAny_run {x : D} {μ : Mu} {Q : PQ} : gAny.run [x] μ Q = fAny x μ Q := rfl
theorem gSum_run {x : D} {μ : Mu} {Q : PQ} : gSum.run [x] μ Q = fSum x μ Q := rfl
theorem gTuple_run {x : D} {μ : Mu} {Q : PQ} : gTuple.run [x] μ Q = fTuple x μ Q := rfl
theorem gList_run {x : D} {μ : Mu} {Q : PQ} : gList.run [x] μ Q = fList x μ Q := rfl
theorem gSorted_run {x : D} {μ : Mu} {Q : PQ} : gSorted.run [x] μ Q = fSorted x μ Q := rfl
theorem gRepr_run {x : D} {μ : Mu} {Q : PQ} : gRepr.run [x] μ Q = fRepr x μ Q := rfl
theorem gMax2_run {i j : Int} {μ : Mu} {Q : PQ} : gMax2.run [.int i, .int j] μ Q = Q (.int (if j > i then j else i)) μ := rfl
theorem gMin2_run {i j : Int} {μ : Mu} {Q : PQ} : gMin2.run [.int i, .int j] μ Q = Q (.int (if j < i then j else i)) μ := rfl
theorem gAppend_run {a : Addr} {xs ds : List D} {μ : Mu} {Q : PQ} : gAppend.run a xs ds μ Q = fAppend a xs ds μ Q := rfl
theorem gExtend_run {a : Addr} {xs ds : List D} {μ : Mu} {Q : PQ} : gExtend.run a xs ds μ Q = fExtend a xs ds μ Q := rfl
end Sq

/-! Data without addresses: ==, in, sorted, repr. -/
namespace Sq
open PySem PySem.Spec PyProof.Rows L2
mutual
/-- none, ints, texts, tuples of these -/
def plainD : D → Bool
  | .non => true | .int _ => true | .str x => PyData.strOk x
  | .tup ds => plainDs ds
  | .bl _ => false | .ob _ => false | .rls _ => false
def plainDs : List D → Bool
  | [] => true | d :: ds => plainD d && plainDs ds
end
theorem plainDs_all : ∀ ds : List D, plainDs ds = ds.all plainD
  | [] => rfl
  | d :: ds => by unfold plainDs; rw [plainDs_all ds]; rfl
mutual
theorem plain_pure : ∀ {d : D}, plainD d = true → pureD d = true
  | .non, _ => rfl
  | .int _, _ => rfl
  | .str _, _ => rfl
  | .tup ds, h => by unfold plainD at h; unfold pureD; exact plain_pures h
  | .bl _, _ => rfl
  | .ob _, h => by unfold plainD at h; cases h
  | .rls _, h => by unfold plainD at h; cases h
theorem plain_pures : ∀ {ds : List D}, plainDs ds = true → pureDs ds = true
  | [], _ => rfl
  | d :: ds, h => by
    unfold plainDs at h
    rw [Bool.and_eq_true] at h
    unfold pureDs
    rw [plain_pure h.1, plain_pures h.2]; rfl
end
mutual
theorem plain_lay : ∀ {d : D}, plainD d = true → (encD d).canLay0 = true
  | .non, _ => rfl
  | .int _, _ => rfl
  | .str _, h => by unfold plainD at h; unfold encD PyData.canLay0; exact h
  | .tup ds, h => by unfold plainD at h; unfold encD PyData.canLay0; exact plain_lays h
  | .bl _, _ => rfl
  | .ob _, h => by unfold plainD at h; cases h
  | .rls _, h => by unfold plainD at h; cases h
theorem plain_lays : ∀ {ds : List D}, plainDs ds = true → PyData.canLayAll0 (encDs ds) = true
  | [], _ => rfl
  | d :: ds, h => by
    unfold plainDs at h
    rw [Bool.and_eq_true] at h
    unfold encDs PyData.canLayAll0
    rw [plain_lay h.1, plain_lays h.2]; rfl
end
mutual
theorem plain_eqv : ∀ {d e : D}, plainD d = true → plainD e = true → (PyData.eqv (encD d) (encD e) = true ↔ d = e)
  | .non, .non, _, _ => by simp [encD, PyData.eqv]
  | .non, .int _, _, _ => by simp [encD, PyData.eqv]
  | .non, .str _, _, _ => by simp [encD, PyData.eqv]
  | .non, .tup _, _, _ => by simp [encD, PyData.eqv]
  | .int _, .non, _, _ => by simp [encD, PyData.eqv]
  | .int i, .int j, _, _ => by simp [encD, PyData.eqv]
  | .int _, .str _, _, _ => by simp [encD, PyData.eqv]
  | .int _, .tup _, _, _ => by simp [encD, PyData.eqv]
  | .str _, .non, _, _ => by simp [encD, PyData.eqv]
  | .str _, .int _, _, _ => by simp [encD, PyData.eqv]
  | .str _, .str _, _, _ => by simp [encD, PyData.eqv]
  | .str _, .tup _, _, _ => by simp [encD, PyData.eqv]
  | .tup _, .non, _, _ => by simp [encD, PyData.eqv]
  | .tup _, .int _, _, _ => by simp [encD, PyData.eqv]
  | .tup _, .str _, _, _ => by simp [encD, PyData.eqv]
  | .tup xs, .tup ys, h, k => by
    unfold plainD at h k
    have := plains_eqv h k
    simp only [encD, PyData.eqv, this, D.tup.injEq]
  | .bl _, _, h, _ => by unfold plainD at h; cases h
  | .ob _, _, h, _ => by unfold plainD at h; cases h
  | .rls _, _, h, _ => by unfold plainD at h; cases h
  | _, .bl _, _, k => by unfold plainD at k; cases k
  | _, .ob _, _, k => by unfold plainD at k; cases k
  | _, .rls _, _, k => by unfold plainD at k; cases k
theorem plains_eqv : ∀ {ds es : List D}, plainDs ds = true → plainDs es = true → (PyData.eqvAll (encDs ds) (encDs es) = true ↔ ds = es)
  | [], [], _, _ => by simp [encDs, PyData.eqvAll]
  | [], _ :: _, _, _ => by simp [encDs, PyData.eqvAll]
  | _ :: _, [], _, _ => by simp [encDs, PyData.eqvAll]
  | d :: ds, e :: es, h, k => by
    unfold plainDs at h k
    rw [Bool.and_eq_true] at h k
    simp only [encDs, PyData.eqvAll, Bool.and_eq_true, plain_eqv h.1 k.1, plains_eqv h.2 k.2, List.cons.injEq]
end
theorem plains_mem {ds : List D} (h : plainDs ds = true) : ∀ d ∈ ds, plainD d = true := by
  rw [plainDs_all, List.all_eq_true] at h; exact h
theorem plains_of {ds : List D} (h : ∀ d ∈ ds, plainD d = true) : plainDs ds = true := by
  rw [plainDs_all, List.all_eq_true]; exact h
/-- as a whole: plain, not deep -/
def okD (d : D) : Bool := plainD d && decide ((encD d).depth ≤ 60)
theorem okD.p {d : D} (h : okD d = true) : plainD d = true := by unfold okD at h; rw [Bool.and_eq_true] at h; exact h.1
theorem okD.d {d : D} (h : okD d = true) : (encD d).depth ≤ 60 := by unfold okD at h; rw [Bool.and_eq_true] at h; exact of_decide_eq_true h.2
theorem okD.shaped {d : D} (h : okD d = true) : SeqAt.shaped (encD d) = true := by
  unfold SeqAt.shaped
  rw [plain_lay (okD.p h), decide_eq_true (Nat.le_trans (okD.d h) (by decide))]; rfl
theorem EqB_tup {xs ys : List D} {μ : Mu} {Q : Bool → Prop} (hx : okD (.tup xs) = true) (hy : okD (.tup ys) = true) (h1 : xs = ys → Q true) (h2 : xs ≠ ys → Q false) : EqB (.tup xs) (.tup ys) μ Q := by
  refine (show EqP (.tup xs) (.tup ys) μ Q from ⟨_, _, pure_dpy (plain_pure (okD.p hx)), pure_dpy (plain_pure (okD.p hy)), okD.shaped hx, okD.shaped hy, ?_⟩)
  have e := plain_eqv (okD.p hx) (okD.p hy)
  by_cases h : xs = ys
  · rw [e.mpr (by rw [h])]; exact h1 h
  · have : PyData.eqv (encD (.tup xs)) (encD (.tup ys)) = false := by
      rw [← Bool.not_eq_true, e]
      exact fun z => h (D.tup.inj z)
    rw [this]; exact h2 h
theorem depthAll_le {n : Nat} : ∀ {ds : List D}, (∀ d ∈ ds, (encD d).depth ≤ n) → PyData.depthAll (encDs ds) ≤ n
  | [], _ => Nat.zero_le _
  | d :: ds, h => by
    unfold encDs PyData.depthAll
    exact Nat.max_le.mpr ⟨h d List.mem_cons_self, depthAll_le fun e he => h e (List.mem_cons_of_mem _ he)⟩
/-- a list of plain things in the store -/
theorem dpy_lst {μ : Mu} {a : Addr} {ds : List D} (e : μ a = some (.lst ds)) (h : ∀ d ∈ ds, okD d = true) : DPy μ (.ob a) (.list (encDs ds)) ∧ SeqAt.shaped (.list (encDs ds)) = true := by
  have hp : plainDs ds = true := plains_of fun d hd => okD.p (h d hd)
  refine ⟨.lst e (pure_dpys (plain_pures hp)), ?_⟩
  have h1 : PyData.depthAll (encDs ds) ≤ 60 := depthAll_le fun d hd => okD.d (h d hd)
  unfold SeqAt.shaped PyData.canLay0 PyData.depth
  rw [plain_lays hp, decide_eq_true (by omega)]; rfl
theorem InP_lst {x : D} {a : Addr} {ds : List D} {μ : Mu} {Q : Bool → Prop} (e : μ a = some (.lst ds)) (hx : okD x = true) (hd : ∀ d ∈ ds, okD d = true) (h1 : x ∈ ds → Q true) (h2 : x ∉ ds → Q false) : InP x (.ob a) μ Q := by
  refine ⟨_, _, pure_dpy (plain_pure (okD.p hx)), .inl (dpy_lst e hd), okD.shaped hx, ?_⟩
  have key : ((encDs ds).any fun z => PyData.eqv z (encD x)) = true ↔ x ∈ ds := by
    rw [encDs_map, List.any_map, List.any_eq_true]
    constructor
    · rintro ⟨d, hm, hq⟩
      have := (plain_eqv (okD.p (hd d hm)) (okD.p hx)).mp hq
      rw [← this]; exact hm
    · intro hm
      exact ⟨x, hm, (plain_eqv (okD.p hx) (okD.p hx)).mpr rfl⟩
  by_cases h : x ∈ ds
  · rw [key.mpr h]; exact h1 h
  · rw [Bool.eq_false_iff.mpr (fun z => h (key.mp z))]; exact h2 h
/-- two lists of the store -/
theorem EqB_lst {a b : Addr} {xs ys : List D} {μ : Mu} {Q : Bool → Prop} (ea : μ a = some (.lst xs)) (eb : μ b = some (.lst ys)) (hx : ∀ d ∈ xs, okD d = true) (hy : ∀ d ∈ ys, okD d = true) (h1 : xs = ys → Q true) (h2 : xs ≠ ys → Q false) : EqB (.ob a) (.ob b) μ Q := by
  obtain ⟨p1, s1⟩ := dpy_lst ea hx
  obtain ⟨p2, s2⟩ := dpy_lst eb hy
  refine (show EqP (.ob a) (.ob b) μ Q from ⟨_, _, p1, p2, s1, s2, ?_⟩)
  have e := plains_eqv (plains_of fun d hd => okD.p (hx d hd)) (plains_of fun d hd => okD.p (hy d hd))
  by_cases h : xs = ys
  · rw [show PyData.eqv (.list (encDs xs)) (.list (encDs ys)) = true from e.mpr h]; exact h1 h
  · have : PyData.eqv (.list (encDs xs)) (.list (encDs ys)) = false := Bool.eq_false_iff.mpr fun z => h (e.mp z)
    rw [this]; exact h2 h

/-! ### the order of tuples of ints -/
def tupI (xs : List Int) : D := .tup (xs.map D.int)
theorem encD_tupI (xs : List Int) : encD (tupI xs) = .tuple (xs.map PyData.int) := by unfold tupI encD; rw [encD_ints]
theorem leD_tupI (xs ys : List Int) : leD (tupI xs) (tupI ys) = !decide (ys < xs) := by
  show (!PySem.W.dataLt (encD (tupI ys)) (encD (tupI xs))) = _
  rw [encD_tupI, encD_tupI, PySem.W.dataLt_tuple]
  exact congrArg not (PySem.W.dataLt_ints ys xs)
theorem leD_total : PySem.W.TotalLe leD := PySem.W.sortLe_total _ false _
theorem leD_anti {xs ys : List Int} (h1 : leD (tupI xs) (tupI ys) = true) (h2 : leD (tupI ys) (tupI xs) = true) : xs = ys := by
  rw [leD_tupI, Bool.not_eq_true', decide_eq_false_iff_not] at h1 h2
  exact List.le_antisymm (show xs ≤ ys from h1) (show ys ≤ xs from h2)
theorem alikeAll_ints (xs ys : List Int) : PySem.W.alike (encD (tupI xs)) (encD (tupI ys)) = true := by
  rw [encD_tupI, encD_tupI, PySem.W.alike]
  exact PySem.W.alike_ints xs ys
theorem okD_tupI (xs : List Int) : okD (tupI xs) = true := by
  unfold okD tupI plainD
  have h1 : plainDs (xs.map D.int) = true := plains_of fun d hd => by
    obtain ⟨i, _, rfl⟩ := List.mem_map.mp hd; rfl
  have h2 : (encD (.tup (xs.map D.int))).depth = 1 := by
    unfold encD PyData.depth
    rw [encD_ints, PySem.W.depth_ints]
  rw [h1, h2]; rfl
/-- tuples of ints, none without parts, may be sorted -/
theorem sortOk_ints {ds : List D} (h : ∀ d ∈ ds, ∃ x xs, d = tupI (x :: xs)) : SortOk ds := by
  refine ⟨fun d hd => ?_, ?_, .inl fun e he => ?_, fun d hd => ?_⟩
  · obtain ⟨x, xs, rfl⟩ := h d hd
    exact plain_pure (okD.p (okD_tupI _))
  · intro e he e' he'
    obtain ⟨d, hd, rfl⟩ := List.mem_map.mp he
    obtain ⟨d', hd', rfl⟩ := List.mem_map.mp he'
    obtain ⟨x, xs, rfl⟩ := h d hd
    obtain ⟨y, ys, rfl⟩ := h d' hd'
    exact alikeAll_ints _ _
  · obtain ⟨d, hd, rfl⟩ := List.mem_map.mp he
    obtain ⟨x, xs, rfl⟩ := h d hd
    exact ⟨.int x, xs.map PyData.int, by rw [encD_tupI]; rfl⟩
  · obtain ⟨x, xs, rfl⟩ := h d hd
    exact okD.d (okD_tupI _)
/-- sorted: one list for all sequences of it -/
theorem sort_perm {ds es : List D} (h : ∀ d ∈ ds, ∃ xs, d = tupI xs) (p : ds.Perm es) : ds.mergeSort leD = es.mergeSort leD := by
  have tr : ∀ a b c : D, leD a b = true → leD b c = true → leD a c = true := leD_total.trans
  have to : ∀ a b : D, (leD a b || leD b a) = true := fun a b => by
    have := leD_total.total a b
    simpa [Bool.or_eq_true] using this
  refine List.Perm.eq_of_pairwise (le := fun a b => leD a b = true) (fun a b ha hb h1 h2 => ?_) (List.pairwise_mergeSort tr to ds) (List.pairwise_mergeSort tr to es) ((List.mergeSort_perm ds leD).trans (p.trans (List.mergeSort_perm es leD).symm))
  obtain ⟨xs, rfl⟩ := h a (List.mem_mergeSort.mp ha)
  obtain ⟨ys, rfl⟩ := h b (p.mem_iff.mpr (List.mem_mergeSort.mp hb))
  rw [leD_anti h1 h2]
end Sq

/-! How long shown data are. -/
namespace Sq
open PySem PySem.Spec PyProof.Rows L2
theorem tupleText_len (ts : List Str) : (tupleText ts).length ≤ piled ts + 3 := by
  unfold tupleText
  rw [Str.length_append, Str.length_append]
  have h1 : (("(" : Str)).length = 1 := rfl
  have h2 : (Str.ofString (if (ts.length == 1) = true then ",)" else ")")).length ≤ 2 := by split <;> decide
  have h3 : (Str.join ", " ts).length ≤ piled ts := by
    by_cases h : ts = []
    · subst h; decide
    · have := join_length_add ts h
      omega
  omega
theorem piled_le {n : Nat} : ∀ {ts : List Str}, (∀ t ∈ ts, t.length ≤ n) → piled ts ≤ (n + 2) * ts.length
  | [], _ => by simp [piled]
  | t :: ts, h => by
    have h1 := h t List.mem_cons_self
    have h2 := piled_le (n := n) (ts := ts) fun u hu => h u (List.mem_cons_of_mem _ hu)
    rw [List.length_cons, Nat.mul_succ, piled_cons]
    omega
theorem shownAll_map : ∀ ds : List PyData, PyData.shownAll ds = ds.map PyData.shown
  | [] => rfl
  | d :: ds => by unfold PyData.shownAll; rw [shownAll_map ds]; rfl
theorem shown_tups {n : Nat} {ds : List D} (h : ∀ d ∈ ds, (encD d).shown.length ≤ n) : (encD (.tup ds)).shown.length ≤ (n + 2) * ds.length + 3 := by
  have e : (encD (.tup ds)).shown = tupleText (PyData.shownAll (encDs ds)) := by unfold encD PyData.shown; rfl
  rw [e]
  refine Nat.le_trans (tupleText_len _) (Nat.add_le_add_right ?_ 3)
  have := piled_le (n := n) (ts := PyData.shownAll (encDs ds)) (by
    rw [shownAll_map, encDs_map]
    intro t ht
    obtain ⟨p, hp, rfl⟩ := List.mem_map.mp ht
    obtain ⟨d, hd, rfl⟩ := List.mem_map.mp hp
    exact h d hd)
  rw [shownAll_map, encDs_map, List.length_map, List.length_map] at this
  rw [shownAll_map, encDs_map]
  exact this
theorem shown_int {i : Int} (h : i.natAbs < 10 ^ 30) : (encD (.int i)).shown.length ≤ 31 := by
  have e : (encD (.int i)).shown = Str.ofString (toString i) := by unfold encD PyData.shown; rfl
  rw [e]
  have := int_text_length_le10 (k := 30) (by decide) h
  rw [PySem.ofString_length]
  omega
def smallI (i : Int) : Prop := -10 ^ 30 < i ∧ i < 10 ^ 30
theorem smallI.abs {i : Int} (h : smallI i) : i.natAbs < 10 ^ 30 := by
  obtain ⟨h1, h2⟩ := h
  omega
theorem shown_tupI {xs : List Int} (h : ∀ x ∈ xs, smallI x) : (encD (tupI xs)).shown.length ≤ 33 * xs.length + 3 := by
  have := shown_tups (n := 31) (ds := xs.map D.int) (fun d hd => by
    obtain ⟨i, hi, rfl⟩ := List.mem_map.mp hd
    exact shown_int (h i hi).abs)
  rw [List.length_map] at this
  exact this
mutual
def litI : D → Prop
  | .int i => smallI i
  | .tup ds => litIs ds
  | .non => True | .str _ => True
  | _ => False
def litIs : List D → Prop
  | [] => True | d :: ds => litI d ∧ litIs ds
end
mutual
theorem lit_show : ∀ {d : D}, litI d → (encD d).showable = true
  | .int i, h => by
    unfold litI at h
    unfold encD PyData.showable
    have h1 := h.abs
    have : i.natAbs.log2 < 1920 := by
      by_cases h0 : i.natAbs = 0
      · rw [h0]; decide
      · rw [Nat.log2_lt h0]
        have : (10 ^ 30 : Nat) < 2 ^ 100 := by decide
        have : (2 ^ 100 : Nat) ≤ 2 ^ 1920 := Nat.pow_le_pow_right (by decide) (by decide)
        omega
    exact decide_eq_true this
  | .tup ds, h => by
    unfold litI at h
    unfold encD PyData.showable
    exact lits_show h
  | .non, _ => rfl
  | .str _, _ => rfl
  | .bl _, h => by unfold litI at h; exact h.elim
  | .ob _, h => by unfold litI at h; exact h.elim
  | .rls _, h => by unfold litI at h; exact h.elim
theorem lits_show : ∀ {ds : List D}, litIs ds → PyData.showableAll (encDs ds) = true
  | [], _ => rfl
  | d :: ds, h => by
    unfold litIs at h
    unfold encDs PyData.showableAll
    rw [lit_show h.1, lits_show h.2]; rfl
end
theorem litIs_of : ∀ {ds : List D}, (∀ d ∈ ds, litI d) → litIs ds
  | [], _ => by unfold litIs; trivial
  | d :: ds, h => by unfold litIs; exact ⟨h d List.mem_cons_self, litIs_of fun e he => h e (List.mem_cons_of_mem _ he)⟩
theorem lit_tupI {xs : List Int} (h : ∀ x ∈ xs, smallI x) : litI (tupI xs) := by
  unfold tupI litI
  exact litIs_of fun d hd => by
    obtain ⟨i, hi, rfl⟩ := List.mem_map.mp hd
    unfold litI; exact h i hi
theorem fRepr_ok {x : D} {μ : Mu} {Q : PQ} (h1 : okD x = true) (h2 : litI x) (h3 : (encD x).shown.length ≤ sizeLine) (q : Q (.str (encD x).shown) μ) : fRepr x μ Q :=
  ⟨_, pure_dpy (plain_pure (okD.p h1)), okD.shaped h1, lit_show h2, h3, q⟩
end Sq

/-! An error's own __init__: super().__init__(value); self.value = value. -/
namespace Sq
open PySem PySem.Spec PyProof.Rows L2
/-- what the written part says of an error's class C whose __init__, of the class D, is the function at f -/
structure ErrC (prog : Program) (K : PySem.W.Frag) (mg : Str → Option Value) (C D f : Addr) : Prop where
  ox : OexC K C
  iC : PySem.W.findIn K (.ref C) "__init__" = some (some (.ref f))
  tI : PySem.W.typeIn K (.ref f) = some (.type "function")
  nV : PySem.W.findIn K (.ref C) "value" = some none
  sup : PySem.W.ks_superIn K C D "__init__" = some (some (.builtin "ValueError.__init__"))
  sub : PySem.W.subIn K (.ref C) (.type "ValueError") = some true
  opq : PySem.W.nsIn K cStatics "thirdparty.any" = some none
  mro : PySem.W.mroIn K C (.ref D) = some true
  isD : ∃ cdD, PySem.W.clsIn K D = some cdD
section
variable {prog : Program} {w : World} {A : Around} {E : Value → Shared → Prop} {K : PySem.W.Frag} {mg : Str → Option Value}
/-- the wrapper of ValueError.__init__ called -/
theorem ve_call {C e t1 u : Addr} {nm q : Str} {N : Addr} {bs bm sub : List Value} {sn : List Str} {ab : Bool} {col : Option Bool} {dd : Option Addr} {k0 k1 k2 k3 k5 : Option Value} {rest : List Value} {h : Heap} {g : Array GenState} {d : Drawn} {t : Nat} {os : OsState} {Q : Value → Shared → Prop}
    (hC : h.get? C = some (excClassObj nm q C N bs bm true sn sub ab col dd k0 k1 k2 k3 k5 "ValueError.__new__")) (he : h.get? e = some ({ cls := .ref C, dict := none, data := .fields #[.ref t1, .none, .none, .none, .bool false, .none] } : Obj))
    (hu : h.get? u = some (PySem.W.kxs_mw "ValueError.__init__" e)) (hz : rest.length ≤ sizeLine)
    (hq : ∀ h' t2, (∀ b o, b ≠ e → h.get? b = some o → h'.get? b = some o) → h'.get? e = some ({ cls := .ref C, dict := none, data := .fields #[.ref t2, .none, .none, .none, .bool false, .none] } : Obj) → Q .none ⟨h', g, d, t, os⟩) :
    wpAny (model prog w) A (call (.ref u) rest) Q E ⟨h, g, d, t, os⟩ := by
  refine wpAny_call (codeAny_of_tree ?_)
  show wpAny _ A.in1 (callAny (.ref u) ⟨rest, []⟩) _ _ _
  simp only [callAny]
  refine wpAny_bind (wpAny_load hu ?_)
  have mwk : (Value.type "method-wrapper" == Value.type "method" || Value.type "method-wrapper" == Value.type "builtin_function_or_method" || Value.type "method-wrapper" == Value.type "method-wrapper") = true := by decide
  simp only [PySem.W.kxs_mw, mwk, if_true]
  refine PySem.W.KFB.if_so (by decide) ?_
  refine wpAny_bind (PySem.W.check_bound_init F.excBase_ValueError.toExcCallFacts hC he rfl ?_)
  refine wpAny_bind (wpAny_pure (wpAny_pure ?_))
  refine ⟨plainId_quiet F.excBase_ValueError.init.plain _, codeAny_builtin F.excBase_ValueError.initEntry ?_⟩
  refine PySem.W.exc_init_tree (cls := .ref C) (t0 := t1) (dv := none) (c2 := .none) (c3 := .none) (b4 := .bool false) he hz fun h' k e' _ => ?_
  exact hq h' _ k e'
end
/-- what the written part says of the def __init__ at f: its cell of __class__ at cc, its code at cda -/
structure InitF (prog : Program) (K : PySem.W.Frag) (D f cc cda : Addr) (qual : Str) (scope : Scope) (fd : FuncData) : Prop where
  lk : ∃ oc od osl, K.lookup f = some ⟨oc, od, .func fd, osl⟩
  cell : ∃ cl cld csl, K.lookup cc = some ⟨cl, cld, .cell (some (.ref D)), csl⟩
  code : ∃ ccl cdd vs ccs file tf, K.lookup cda = some ⟨ccl, cdd, .fields vs, ccs⟩ ∧ vs[2]? = some (.str file tf) ∧ ((prog.main.file : Str) == file) = true
  hcd : PySem.W.codeIn K (.ref cda) qual = true
  top : (prog.main.scope.names.lookup ("super" : Str)).isSome = false
/-- the context of the body of __init__ -/
def initCx (P : Program) (w : World) (K : PySem.W.Frag) (mg : Str → Option Value) (base : Heap) (qual : Str) (scope : Scope) (f cda cc : Addr) (A : Around) (outer : List Env) (s : Shared) (H : Hp) : Cx where
  prog := P
  w := w
  K := K
  mg := mg
  base := base
  A := A.deeper (PySem.W.ksEnv qual scope s.heap.objs.size f (.ref cda) cc)
  N := ["self", "value"]
  s_0 := s
  H_0 := H
  env := PySem.W.ksEnv qual scope s.heap.objs.size f (.ref cda) cc
  outer := outer
  stack := PySem.W.ksEnv qual scope s.heap.objs.size f (.ref cda) cc :: outer
  ex := []
  fn := fun _ => false
  calm := true
  pn := []
  xe := fun _ _ => False
/-- self, value, __class__, super -/
structure InitS (scope : Scope) : Prop where
  kind : scope.kind = .function
  co : scope.isCoroutine = false
  gen : scope.isGenerator = false
  self : scope.names.lookup ("self" : Str) = some .local
  value : scope.names.lookup ("value" : Str) = some .local
  cls : scope.names.lookup ("__class__" : Str) = some .free
  sup : scope.names.lookup ("super" : Str) = some .globalImplicit
  nocell : ∀ y ∈ scope.names, y.2 ≠ .cell
  free : ∀ y ∈ scope.names, y.2 = .free → y.1 = "__class__"
section
variable {P : Program} {w : World} {K : PySem.W.Frag} {mg : Str → Option Value} {base : Heap} {qual : Str} {scope : Scope} {D f cc cda : Addr} {fd : FuncData}
theorem cells1 {cc c : Addr} {y : Str} (h : ([("__class__", cc)] : List (Str × Addr)).lookup y = some c) : y = "__class__" ∧ c = cc := by
  by_cases e : y = "__class__"
  · subst e
    have h2 : some cc = some c := h
    cases h2
    exact ⟨rfl, rfl⟩
  · have e2 : (y == ("__class__" : Str)) = false := by simpa using e
    have h2 : (match (y == ("__class__" : Str)) with | true => some cc | false => none) = some c := h
    rw [e2] at h2
    cases h2
theorem init_inv (IF : InitF P K D f cc cda qual scope fd) (S : InitS scope) {A : Around} {outer : List Env} {s : Shared} {H : Hp} {h₀ : Heap} {tk : Nat} {a : Addr} {v : V} {u : Value} (hd : A.handled = none) (e0 : Env0 P w K mg base A outer s H) (r : RelV v u)
    (hns : h₀.Ns s.heap.objs.size (fun y => ([("self", .ref a), ("value", u)] : List (Str × Value)).reverse.lookup y)) (hk : ∀ b o, s.heap.get? b = some o → h₀.get? b = some o) :
    Inv (initCx P w K mg base qual scope f cda cc A outer s H) [] [some (.ref a), some v] H { s with heap := h₀, toks := tk } := by
  have noA : ∀ b : Addr, b ∉ (initCx P w K mg base qual scope f cda cc A outer s H).ex := fun b z => absurd (show b ∈ ([] : List Addr) from z) (by simp)
  have KX : K.In s.heap := e0.mod.kin.keeps fun b o e => (e0.bs b o e).1
  obtain ⟨cl, cld, csl, hcell⟩ := IF.cell
  have nH : H cc = none := (e0.bs cc _ (e0.mod.kin _ _ hcell)).2
  have hcc : h₀.IsCell cc (some (.ref D)) := ⟨_, hk _ _ (KX _ _ hcell), rfl⟩
  refine ⟨⟨e0.mod, S.kind, rfl, rfl, Nat.le_refl _, fun y z c h1 h2 => ?_, fun y hy => ?_, fun y c z _ => ?_, fun _ => hd, Around.frames_deeper e0.frames, .inr ⟨rfl, rfl⟩, fun b z => absurd z (noA b), e0.bs, e0.bsz, fun b _ _ => noA b, fun b z => absurd z (noA b), e0.funs, e0.frf⟩,
    rfl, e0.bare, Un.kept hk, ⟨_, hns, fun i y x h1 h2 h3 => ?_⟩, fun y c h => ?_, e0.hok.fresh (Nat.le_refl _), fun y c h => ?_, fun q hq => absurd (show q ∈ ([] : List (Addr × Obj)) ++ [] from hq) (by simp), e0.hok.kept hk, rfl⟩
  · exact (cells1 h1).1.trans (cells1 h2).1.symm
  · have hy : scope.names.lookup y = some .cell ∨ scope.names.lookup y = some .free := hy
    rcases hy with hy | hy
    · exact absurd rfl (S.nocell _ (PySem.mem_of_lookup hy))
    · have e := S.free _ (PySem.mem_of_lookup hy) rfl
      have e : y = "__class__" := e
      subst e
      exact ⟨cc, rfl⟩
  · have z : false = true := z
    cases z
  · match i, h1, h2 with
    | 0, h1, h2 =>
      cases h1; cases h2
      exact ⟨.ref a, rfl, .inl ⟨S.self, rfl⟩⟩
    | 1, h1, h2 =>
      cases h1; cases h2
      exact ⟨u, r, .inl ⟨S.value, rfl⟩⟩
    | i + 2, h1, _ => cases h1
  · obtain ⟨_, rfl⟩ := cells1 h
    exact ⟨_, hcc⟩
  · obtain ⟨_, rfl⟩ := cells1 h
    exact nH
/-- the text of __init__ -/
def initBody (p1 p2 p3 p4 p5 p6 p7 p8 p9 p10 : Pos) : List Stmt :=
  [.Expr (.Call (.Attribute (.Call (.Name "super" p1) [] [] p2) "__init__" p3) [.Name "value" p4] [] p5) p6, .Assign [.Attribute (.Name "self" p7) "value" p8] (.Name "value" p9) p10]
/-- __init__ keeps: the value stands in the error's own dict -/
def spInit (P : Program) (K : PySem.W.Frag) (mg : Str → Option Value) (D f : Addr) : Sp := fun vs H Q _ => ∃ (a C : Addr) (v : V), vs = [.ref a, v] ∧ ErrC P K mg C D f ∧ H a = some (exo a C none) ∧
  ∀ d, H d = none → d ≠ a → Q .non (upd (upd H d (exd d [("value", v)])) a (exo a C (some d)))
theorem super_call {p1 p2 p3 p4 p5 : Pos} (hl : (p3.endLine == p5.line) = true) (env : Env) : eval (.Call (.Attribute (.Call (.Name "super" p1) [] [] p2) "__init__" p3) [.Name "value" p4] [] p5) env = (do
      let ov ← attributeBase (.Call (.Name "super" p1) [] [] p2) "__init__" env (eval (.Call (.Name "super" p1) [] [] p2) env)
      standAt p3.atName
      let (f, first) ← holding [ov] (getMethod ov "__init__" (pure false))
      callWith p5 f first (backTo p5 (starEach [.Name "value" p4] env)) []) := by
  have e : ∀ o : Expr, methodCallPos true o env p3 p5 = pure p5 := fun o => by
    unfold methodCallPos
    rw [hl]
    rfl
  show (do
      let ov ← attributeBase (.Call (.Name "super" p1) [] [] p2) "__init__" env (eval (.Call (.Name "super" p1) [] [] p2) env)
      standAt p3.atName
      methodCall (.Call (.Name "super" p1) [] [] p2) "__init__" p3 p5 env ov 1 (backTo p5 (starEach [.Name "value" p4] env)) []) = _
  congr 1
  funext ov
  congr 1
  funext _
  show (do
    let (f, first) ← holding [ov] (getMethod ov "__init__" (pure false))
    let callPos ← methodCallPos true (.Call (.Name "super" p1) [] [] p2) env p3 p5
    callWith callPos f first (backTo p5 (starEach [.Name "value" p4] env)) []) = _
  simp only [e, pure_bind]
theorem init_run {params : Arguments} {kV doc pm ct : Value} {an : Option Addr} {p1 p2 p3 p4 p5 p6 p7 p8 p9 p10 : Pos} {ar : Arg} {A : Around} {outer : List Env} {s s1 : Shared} {H : Hp} {a C : Addr} {v : V} {m : Str → Option Value}
    (IF : InitF P K D f cc cda qual scope (PySem.W.ksFn "__init__" qual params (initBody p1 p2 p3 p4 p5 p6 p7 p8 p9 p10) scope .none kV doc pm an (.ref cda) ct cc)) (S : InitS scope) (hp : (params.posonlyargs ++ params.args).head? = some ar) (har : ar.arg = "self")
    (hm : mg "super" = none) (hl : (p3.endLine == p5.line) = true) (T : ErrC P K mg C D f) (ha : H a = some (exo a C none)) (hns : s1.heap.Ns s.heap.objs.size m) (hms : m "self" = some (.ref a))
    (I : Inv (initCx P w K mg base qual scope f cda cc A outer s H) [] [some (.ref a), some v] H s1) :
    PySem.wpAt (model P w) (initCx P w K mg base qual scope f cda cc A outer s H).A (.func (initBody p1 p2 p3 p4 p5 p6 p7 p8 p9 p10) (initCx P w K mg base qual scope f cda cc A outer s H).env)
      (execs (initBody p1 p2 p3 p4 p5 p6 p7 p8 p9 p10) (initCx P w K mg base qual scope f cda cc A outer s H).env)
      (fun fl s' => ∃ d, H d = none ∧ d ≠ a ∧ fl = .next ∧ Inv (initCx P w K mg base qual scope f cda cc A outer s H) [] [some (.ref a), some v] (upd (upd H d (exd d [("value", v)])) a (exo a C (some d))) s')
      (initCx P w K mg base qual scope f cda cc A outer s H).xe s1 := by
  have KX := I.kIn
  obtain ⟨oc, od, osl, lk⟩ := IF.lk
  obtain ⟨cl, cld, csl, hcell⟩ := IF.cell
  obtain ⟨ccl, cdd, vsC, ccs, file, tf, hcode, hvs, hfile⟩ := IF.code
  obtain ⟨cdD, hDc⟩ := T.isD
  obtain ⟨oD, hD1, hD2⟩ : ∃ oD, s1.heap.get? D = some oD ∧ oD.data = .cls cdD := by
    unfold PySem.W.clsIn at hDc
    split at hDc
    · rename_i c d cd' sl ho
      cases hDc
      exact ⟨_, KX _ _ ho, rfl⟩
    · cases hDc
  obtain ⟨t1, hae⟩ := exo_at I.hok ha
  obtain ⟨mb, hb1, hb2⟩ := I.mod.blt
  refine ks_wpAt_execs_cons ?_
  refine ks_wpAt_Expr_any ?_ (hi := I.quiet) (hs := by rfl)
  refine ks_wpAt_MethodCall ?_ (he := super_call hl _)
  refine ks_wpAt_super_base S.sup S.cls (by decide) rfl (KX _ _ lk) rfl hp rfl (KX _ _ hcode) rfl hvs hfile IF.top ?_
  refine PySem.W.ks_loadName_global S.kind S.sup (Calls.loadGlobal_builtin (I.mod.glob.keeps I.bk) hm (hb1.keeps I.bk) ((hb2 "super" (by decide)).trans PyProof.Rows.Boot.«super») ⟨rfl, ?_⟩)
  refine wpAny_loadName_free S.kind S.cls rfl ⟨_, KX _ _ hcell, rfl⟩ ?_
  rw [har]
  refine wpAny_loadName_local S.kind S.self hns hms ?_
  obtain ⟨hh, g, d0, tk, os⟩ := s1
  refine ks_wpAny_isType_cls hD1 hD2 ⟨rfl, ?_⟩
  refine ks_wpAny_call_super hD1 hD2 hae rfl (fun c e => nomatch e) (PySem.W.looks_mroIn KX T.mro) (fun h' e k => ?_)
  have I2 := I.kept (t' := tk) k
  have KX2 := I2.kIn
  have hae2 := k _ _ hae
  cases hc : PySem.W.clsIn K C with
  | none => have z := T.sup; unfold PySem.W.ks_superIn at z; rw [hc] at z; cases z
  | some cd =>
    have hsup := T.sup
    unfold PySem.W.ks_superIn at hsup
    rw [hc] at hsup
    have IA : PySem.W.InstAt h' a _ C none := ⟨hae2, rfl, rfl, trivial⟩
    refine PySem.W.kxs_getMethod PySem.W.kxs_ValueError e (PySem.W.looks_opaque KX2 T.opq) (l₀ := cd.mro) (fun A Q E s k q => wpAny_bind ((PySem.W.looks_clsIn KX2 hc) A _ E s k (wpAny_pure q))) rfl KX2 hsup (IA.type.andThen (PySem.W.looks_subIn KX2 T.sub)) (PySem.W.ks_ne KX2 IA hc) (by decide) ?_
    have kp : ∀ b o, h'.get? b = some o → (h'.push (PySem.W.kxs_mw "ValueError.__init__" a)).get? b = some o := fun b o z => Heap.get?_push_of_some _ z
    have I3 := I2.kept (t' := tk + 1) kp
    have hmw : (h'.push (PySem.W.kxs_mw "ValueError.__init__" a)).get? h'.objs.size = some (PySem.W.kxs_mw "ValueError.__init__" a) := Heap.get?_push_at rfl rfl
    have I4 : Inv (initCx P w K mg base qual scope f cda cc A outer s H) [(h'.objs.size, PySem.W.kxs_mw "ValueError.__init__" a)] [some (.ref a), some v] H ⟨h'.push (PySem.W.kxs_mw "ValueError.__init__" a), g, d0, tk + 1, os⟩ := I3.pins_of fun p hp => by
      obtain rfl : p = _ := by simpa using hp
      exact ⟨hmw, I2.fresh, Nat.ne_of_gt I2.lt, I2.nofs (Nat.le_refl _), fun v z => nomatch z⟩
    have vS : Vis (initCx P w K mg base qual scope f cda cc A outer s H).env.scope "self" := .inl S.self
    have vV : Vis (initCx P w K mg base qual scope f cda cc A outer s H).env.scope "value" := .inl S.value
    refine PySem.W.kxs_callWith (i := "ValueError.__init__") (x := a) (by rfl) (Calls.evalArgs_plain ?_)
    refine thn ((pa_cons (pe_var (i := 1) (x := "value") (pos := p4) rfl vV) pa_nil).run p5 _ _ _ H (fun vs H' => vs = [v] ∧ H' = H) I4 ⟨v, rfl, rfl, rfl⟩) fun us s4 hs4 => ?_
    obtain ⟨vs, H4, I5, r4, rfl, rfl⟩ := hs4
    have hu := (I5.pin (h'.objs.size, PySem.W.kxs_mw "ValueError.__init__" a) (by simp)).1
    refine ⟨hu, ?_⟩
    obtain ⟨nm, qn, N, bs, bm, sn, sub, ab, col, dd, k0, k1, k2, k3, k5, hC, hbm⟩ := T.ox.cls
    obtain ⟨t3, hae3⟩ := exo_at I5.hok ha
    obtain ⟨h5, g5, d5, tk5, os5⟩ := s4
    have hlen : us.length ≤ sizeLine := by
      rw [← Paired.length r4, sizeLine_eq]
      show 1 ≤ 16777216
      decide
    refine ve_call (I5.kIn _ _ hC) hae3 hu hlen fun h6 t6 k6 hx6 => ?_
    have J := I5.write (t' := tk5) (x := a) (e := a) (o := exo a C none) (by rw [ha]; exact True.intro) (.inl rfl) k6 ⟨_, hx6⟩ (exo_ok hx6)
    have eu : upd H4 a (exo a C none) = H4 := by
      funext b
      by_cases hb : b = a
      · rw [hb, upd_same, ha]
      · rw [upd_ne hb]
    rw [eu] at J
    have J2 := Inv.unpinned (pins := []) J
    refine PySem.wpAt_of_wpAny (thn ((pss_one (ps_ost (f := "value") (p' := p8) (pos := p10) (pe_var (i := 0) (x := "self") (pos := p7) rfl vS) (pe_var (i := 1) (x := "value") (pos := p9) rfl vV))).run [] _ _ H4
      { nx := fun σ' H' => ∃ d, H4 d = none ∧ d ≠ a ∧ σ' = [some (.ref a), some v] ∧ H' = upd (upd H4 d (exd d [("value", v)])) a (exo a C (some d)), rt := fun _ _ => False } J2
      ⟨v, rfl, .ref a, rfl, a, C, rfl, T.ox, T.nV, .inl ⟨ha, fun dx hdx ne => ⟨dx, hdx, ne, rfl, rfl⟩⟩⟩) fun fl s7 hs7 => ?_)
    cases fl with
    | next =>
      obtain ⟨σ', H', J3, d, hd1, hd2, rfl, rfl⟩ := hs7
      exact ⟨d, hd1, hd2, rfl, J3⟩
    | ret u =>
      obtain ⟨_, _, _, _, _, z⟩ := hs7
      exact False.elim z
    | brk =>
      obtain ⟨_, _, _, z⟩ := hs7
      exact False.elim z
    | cont =>
      obtain ⟨_, _, _, z⟩ := hs7
      exact False.elim z
theorem init_ok {params : Arguments} {kV doc pm ct : Value} {an : Option Addr} {p1 p2 p3 p4 p5 p6 p7 p8 p9 p10 : Pos} {ar : Arg} {CXx : CXT}
    (IF : InitF P K D f cc cda qual scope (PySem.W.ksFn "__init__" qual params (initBody p1 p2 p3 p4 p5 p6 p7 p8 p9 p10) scope .none kV doc pm an (.ref cda) ct cc)) (S : InitS scope) (hp : (params.posonlyargs ++ params.args).head? = some ar) (har : ar.arg = "self")
    (hm : mg "super" = none) (hl : (p3.endLine == p5.line) = true) : FnOk P w K mg base CXx 1 f (PySem.W.ksFn "__init__" qual params (initBody p1 p2 p3 p4 p5 p6 p7 p8 p9 p10) scope .none kV doc pm an (.ref cda) ct cc) ["self", "value"] (spInit P K mg D f) := by
  refine ⟨fun vs H Q E h => ?_, fun A outer s H args us vs Q E hr e0 hbd r hsp => ?_⟩
  · obtain ⟨a, C, v, rfl, _⟩ := h
    rfl
  obtain ⟨a, C, v, rfl, T, ha, q⟩ := hsp
  obtain ⟨u, rfl, rv⟩ : ∃ u, us = [.ref a, u] ∧ RelV v u := by
    cases r with
    | cons r1 r2 =>
      cases r2 with
      | cons r3 r4 =>
        cases r4
        cases r1
        exact ⟨_, rfl, r3⟩
  have KX : K.In s.heap := e0.mod.kin.keeps fun b o e => (e0.bs b o e).1
  obtain ⟨oc, od, osl, lk⟩ := IF.lk
  obtain ⟨cl, cld, csl, hcell⟩ := IF.cell
  obtain ⟨ccl, cdd, vsC, ccs, file, tf, hcode, hvs, hfile⟩ := IF.code
  obtain ⟨cdD, hD⟩ := T.isD
  refine ks_codeAny_call_defAt (binds := [("self", .ref a), ("value", u)]) hr.depth (KX _ _ lk) rfl (e0.mod.nolimit.keeps fun b o e => (e0.bs b o e).1) (PySem.W.codeRec_of KX IF.hcd) rfl hbd S.nocell (fun y hy => ?_) (fun h₀ hns hk => ?_) S.co S.gen S.kind
  · simp only [List.mem_cons, List.not_mem_nil, or_false] at hy
    rcases hy with rfl | rfl
    · exact S.self
    · exact S.value
  have I := init_inv (w := w) (tk := s.toks + 2) IF S hr.hd e0 rv hns hk
  have R := init_run IF S hp har hm hl T ha hns (by rfl) I
  refine ks_wpAt_mono R (fun fl s' h => ?_) fun _ _ z => False.elim z
  obtain ⟨d, hd1, hd2, rfl, J⟩ := h
  exact ⟨.non, _, J.os, J.bare, J.base, J.hok, rfl, q d hd1 hd2⟩
end
end Sq

/-! Lambdas without parameters: made, kept in the store. -/
namespace Sq
open PySem PySem.Spec PyProof.Rows L2
/-- the table at P: each code object that it tells bears the name q -/
def TabK (H : Hp) (P : Addr) (q : Str) : Prop := ∃ ps : Array Value, H P = some (.tbl ps) ∧ TriplesOk ps.toList ∧ ∀ (pos : Pos) (cv : Value), codeAmong pos ps.toList = some cv → ∃ c, cv = .ref c ∧ CodeK H c q
theorem CodeK.keep2 {H H' : Hp} {c : Addr} {q : Str} (h : CodeK H c q) (k : ∀ b o, H b = some o → (∀ ps, o ≠ .tbl ps) → H' b = some o) : CodeK H' c q := by
  obtain ⟨oc, vs, e, h⟩ := h
  exact ⟨oc, vs, e, k _ _ h fun _ z => by cases z⟩
theorem any_ok {P : Program} {w : World} {H : Hp} {h : Heap} {a : Addr} {o : Obj} (e : h.get? a = some o) : ObjOk P w H h a (.frz o (anyH a)) :=
  ⟨e, ⟨⟨o, e⟩, ⟨o, e⟩, fun h1 h2 ⟨o, e⟩ st => ⟨o, st _ e⟩⟩⟩
section
variable {X : Cx} {pins : List (Addr × Obj)} {σ : L2.St} {H : Hp} {s : Shared}
theorem lam_make3 {c P : Addr} {params : Arguments} {body : Expr} {scope : Scope} {pos : Pos} {E : Value → Shared → Prop} {Q : Value → Shared → Prop} (I : Inv X pins σ H s) (TB : LamX.TabB X.base X.mg c P) (hcode : X.env.code = .ref c)
    (hT : TabK H P (X.env.qual ++ "<lambda>")) (hdef : defaultsOf params X.env = ([], [])) (hfree : ∀ y ∈ scope.names, y.2 = .free → ∃ c, X.env.cells.lookup y.1 = some c)
    (h : ∀ (f c' : Addr) (pm ctv : Value) (H1 : Hp) (s' : Shared), Inv X pins σ (upd H1 f (.frz (PySem.W.kla_obj "<lambda>" (X.env.qual ++ "<lambda>") params body scope (cloFrom X.env.cells scope.names []) pm c' ctv) (anyH f))) s' → H f = none → H1 f = none →
      (∀ b o, H b = some o → b ≠ P → H1 b = some o) → TabK H1 P (X.env.qual ++ "<lambda>") → CodeK H1 c' (X.env.qual ++ "<lambda>") → Q (.ref f) s') :
    wpAny (model X.prog X.w) X.A (eval (.Lambda params body scope pos) X.env) Q E s := by
  obtain ⟨ps, hP, ht, ha⟩ := id hT
  refine PySem.W.kla_eval hdef ?_
  have bP : s.heap.BuiltinsAt X.mg P := TB.bm.keeps I.bk
  have hP' : s.heap.get? P = some { cls := .none, data := .fields ps } := I.hok P _ hP
  cases hc : codeAmong pos ps.toList with
  | none =>
    refine PySem.W.kla_makeFunction (mg := X.mg) (c := c) (P := P) (ps := ps) (closure_ok hfree) I.ok.glob (I.mod.glob.keeps I.bk) hcode (TB.code.keeps I.bk) hP' ht hc TB.gP bP fun c' ctv h' tk hx hge hlt hrec htb => ?_
    obtain ⟨c2, oc, vs, t, e2, hoc, hd, hv⟩ := hrec
    cases e2
    have hsz : s.heap.objs.size ≤ h'.objs.size := Nat.le_trans hge (Nat.le_of_lt hlt)
    have nC : H c' = none := I.hok.fresh hge
    have nPc : P ≠ c' := ne_of_none hP nC
    have I1 := LamX.inv_table (t' := tk) (q := X.env.qual ++ "<lambda>") (more := #[rawInt pos.line, rawInt pos.col, .ref c']) (h' := h') I hP hx htb hge ⟨oc, vs, t, hoc, hd, hv⟩
    obtain ⟨od, I2⟩ := I1.lock (d := c') upd_same True.intro
    rw [upd_upd] at I2
    have ed : od.data = .fields vs := by
      obtain ⟨e, _⟩ := I2.hok c' _ upd_same
      rw [hoc] at e
      cases e
      exact hd
    have hsz2 : (upd (upd H P (.tbl (ps ++ #[rawInt pos.line, rawInt pos.col, .ref c']))) c' (.frz od (LamX.CodeO c' (X.env.qual ++ "<lambda>")))) h'.objs.size = none := I2.hok.fresh (Nat.le_refl _)
    have I3 := I2.laid (t' := tk) (a := h'.objs.size) (h' := h'.push (PySem.W.kla_obj "<lambda>" (X.env.qual ++ "<lambda>") params body scope (cloFrom X.env.cells scope.names []) ((X.mg "__name__").getD .none) c' ctv)) (fun b o e => Heap.get?_push_of_some _ e) (Nat.le_refl _) (any_ok (Heap.get?_push_size _ rfl))
    have cK : CodeK (upd (upd H P (.tbl (ps ++ #[rawInt pos.line, rawInt pos.col, .ref c']))) c' (.frz od (LamX.CodeO c' (X.env.qual ++ "<lambda>")))) c' (X.env.qual ++ "<lambda>") := ⟨od, vs, ed, upd_same⟩
    have eL : (ps ++ #[rawInt pos.line, rawInt pos.col, .ref c']).toList = ps.toList ++ [rawInt pos.line, rawInt pos.col, .ref c'] := by simp
    have up : ∀ b o, H b = some o → b ≠ P → (upd (upd H P (.tbl (ps ++ #[rawInt pos.line, rawInt pos.col, .ref c']))) c' (.frz od (LamX.CodeO c' (X.env.qual ++ "<lambda>")))) b = some o := fun b o e hb => by
      rw [upd_ne (ne_of_none e nC), upd_ne hb]
      exact e
    refine h h'.objs.size c' ((X.mg "__name__").getD .none) ctv _ _ I3 (I.hok.fresh hsz) hsz2 up ⟨_, by rw [upd_ne nPc, upd_same], by rw [eL]; exact PySem.TriplesOk_snoc _ _ _ _ ht, fun p' cv hcv => ?_⟩ cK
    rw [eL] at hcv
    rcases LamX.among_app _ ht hcv with z | z
    · obtain ⟨c0, e1, oc0, vs0, e2, e3⟩ := ha p' cv z
      exact ⟨c0, e1, oc0, vs0, e2, up _ _ e3 fun z => by rw [z, hP] at e3; cases e3⟩
    · exact ⟨c', z, cK⟩
  | some cv =>
    obtain ⟨c', e, hco⟩ := ha pos cv hc
    subst e
    refine PySem.W.kla_makeFunctionHit (mg := X.mg) (c := c) (P := P) (ps := ps) (closure_ok hfree) I.ok.glob (I.mod.glob.keeps I.bk) hcode (TB.code.keeps I.bk) hP' ht hc bP fun ctv h' tk hx hsz => ?_
    have I1 : Inv X pins σ H { s with heap := h', toks := tk } := I.kept hx
    have I3 := I1.laid (t' := tk) (a := h'.objs.size) (h' := h'.push (PySem.W.kla_obj "<lambda>" (X.env.qual ++ "<lambda>") params body scope (cloFrom X.env.cells scope.names []) ((X.mg "__name__").getD .none) c' ctv)) (fun b o e => Heap.get?_push_of_some _ e) (Nat.le_refl _) (any_ok (Heap.get?_push_size _ rfl))
    exact h h'.objs.size c' ((X.mg "__name__").getD .none) ctv H _ I3 (I.hok.fresh hsz) (I.hok.fresh hsz) (fun b o e _ => e) hT hco
end
/-- the lambda's making -/
def wLam (P : Addr) (t : LamT) : WE := ⟨fun _ μ Q _ => μ P = some (.tab t.q) ∧ ∀ a, μ a = none → Q (.ob a) (mset μ a (.lam t)), fun hQ _ h => ⟨h.1, fun a ha => hQ _ _ (h.2 a ha)⟩⟩
theorem wLam_run {P : Addr} {t : LamT} {ρ : Ev} {μ : Mu} {Q : PQ} {X : XQ} : (wLam P t).run ρ μ Q X = (μ P = some (.tab t.q) ∧ ∀ a, μ a = none → Q (.ob a) (mset μ a (.lam t))) := rfl
/-- a def's lambda, by its text -/
def lamOf (cl : List (Str × Addr)) (q : Str) (params : Arguments) (body : Expr) (scope : Scope) : LamT := ⟨q ++ "<lambda>", params, body, scope, cloFrom cl scope.names []⟩
theorem le_lam {X : Cx} {Wx : WX} {c P : Addr} {params : Arguments} {body : Expr} {scope : Scope} {pos : Pos} (TB : LamX.TabB X.base X.mg c P) (hcode : X.env.code = .ref c) (hdef : defaultsOf params X.env = ([], [])) (L : LamX.LamS X.env.scope scope) :
    LE X Wx (.Lambda params body scope pos) (wLam P (lamOf X.env.cells X.env.qual params body scope)) := ⟨fun pins s σ H Q I hq => by
  obtain ⟨ρ, μ, E, S, hP, h⟩ := hq
  refine lam_make3 I TB hcode (S.at_ P _ hP) hdef (L.has I.ok) fun f c' pm ctv H1 s' I1 hf hf1 up hT hC => ?_
  have F : Fr μ H (mset μ f (.lam (lamOf X.env.cells X.env.qual params body scope))) (upd H1 f (.frz (PySem.W.kla_obj "<lambda>" (X.env.qual ++ "<lambda>") params body scope (cloFrom X.env.cells scope.names []) pm c' ctv) (anyH f))) := fun b o e nt nm => by
    have hb : b ≠ f := ne_of_none e hf
    refine ⟨?_, by rw [mset_ne hb]; exact nm⟩
    rw [upd_ne hb]
    exact up b o e fun z => by
      rw [z, hP] at nm
      cases nm
  have cf : ∀ {c : Addr} {q : Str}, CodeK H1 c q → CodeK (upd H1 f (.frz (PySem.W.kla_obj "<lambda>" (X.env.qual ++ "<lambda>") params body scope (cloFrom X.env.cells scope.names []) pm c' ctv) (anyH f))) c q := fun {c q} ⟨oc, vs, e, k⟩ => ⟨oc, vs, e, by rw [upd_ne (ne_of_none k hf1)]; exact k⟩
  have S' : Sim X.K (mset μ f (.lam (lamOf X.env.cells X.env.qual params body scope))) (upd H1 f (.frz (PySem.W.kla_obj "<lambda>" (X.env.qual ++ "<lambda>") params body scope (cloFrom X.env.cells scope.names []) pm c' ctv) (anyH f))) := ⟨fun a o e => by
    by_cases ha : a = f
    · subst ha
      rw [mset_same] at e
      cases e
      exact ⟨pm, c', ctv, upd_same, cf hC⟩
    · rw [mset_ne ha] at e
      by_cases hp : a = P
      · subst hp
        rw [hP] at e
        cases e
        obtain ⟨ps, e1, e2, e3⟩ := hT
        refine ⟨ps, by rw [upd_ne ha]; exact e1, e2, fun pos cv z => ?_⟩
        obtain ⟨c0, ec, kc⟩ := e3 pos cv z
        exact ⟨c0, ec, cf kc⟩
      · exact (S.at_ a o e).keep S F fun x q => by rw [upd_ne ha]; exact up a x q hp⟩
  exact ⟨.ref f, _, I1, rfl, h f (S.free hf) _ _ F S' rfl⟩⟩
end Sq

/-! try .. except x as n, the error kept behind the suite. -/
namespace Sq
open PySem PySem.Spec PyProof.Rows L2
/-- an object that is not of the entry's heap is tracked from now on -/
theorem inv_track {X : Cx} {pins : List (Addr × Obj)} {σ : L2.St} {H : Hp} {s : Shared} {a : Addr} {o : HO} (I : Inv X pins σ H s) (h0 : X.s_0.heap.get? a = none) (hn : H a = none) (hL : a ≠ X.env.locals) (hc : ∀ x c, X.env.cells.lookup x = some c → c ≠ a)
    (hp : ∀ p ∈ X.pn ++ pins, p.1 ≠ a) (new : ObjOk X.prog X.w (upd H a o) s.heap a o) : Inv X pins σ (upd H a o) s := by
  have ne : ∀ b u, H b = some u → b ≠ a := fun b u e => ne_of_none e hn
  have up : ∀ b u, H b = some u → upd H a o b = some u := fun b u e => by rw [upd_ne (ne b u e)]; exact e
  refine ⟨I.ok, I.os, I.bare, ⟨I.base.keep, I.base.slot, fun b u e n hx => ?_, I.base.there, fun b xs e => up _ _ (I.base.tups b xs e), fun b u v e => up _ _ (I.base.frzs b u v e), fun b ps e => ?_⟩, I.loc, I.cell, ?_, fun x c e => ?_, fun p hp' => ?_, fun b u e => ?_, I.len⟩
  · rw [upd_ne (fun z => by rw [z, h0] at e; cases e)]
    exact I.base.free b u e n hx
  · obtain ⟨m, q⟩ := I.base.tbls b ps e
    exact ⟨m, up _ _ q⟩
  · rw [upd_ne (Ne.symm hL)]
    exact I.free
  · rw [upd_ne (hc x c e)]
    exact I.freeC x c e
  · obtain ⟨e, n, r⟩ := I.pin p hp'
    exact ⟨e, by rw [upd_ne (hp p hp')]; exact n, r⟩
  · by_cases hb : b = a
    · subst hb
      rw [upd_same] at e
      cases e
      exact new
    · rw [upd_ne hb] at e
      exact (I.hok b u e).stay (fun _ _ _ q => q) (fun c q => up _ _ q) fun c _ q => up _ _ q
/-- what the clause wishes: the error is kept at a -/
def wAsT (K : PySem.W.Frag) (c : Value) (i : Nat) (ts : Addr → Value → Option Addr → TS) (Wout : WX) (D : Ends) : WX := fun cls d σ H =>
  ∃ b, PySem.W.exmOne K cls c = some b ∧ (b = true → ∃ (C dx : Addr), cls = .ref C ∧ d = some dx ∧ ∀ a, H a = none → ts a cls d ({ nx := fun σ' H' => H' a = none → D.nx (σ'.set i none) (upd H' a (ExcO a C dx)), rt := fun v H' => H' a = none → D.rt v (upd H' a (ExcO a C dx)), bk := fun σ' H' => H' a = none → D.bk (σ'.set i none) (upd H' a (ExcO a C dx)), ct := fun σ' H' => H' a = none → D.ct (σ'.set i none) (upd H' a (ExcO a C dx)) } : Ends) (σ.set i (some (.ref a))) H) ∧
    (b = false → Wout cls d σ H)
section
variable {X : Cx} {x n : Str} {c : Value} {i : Nat} {body suite : List Stmt} {b₀ : Stmt} {np pos pos' : Pos} {tb : WX → TS} {ts : Addr → Value → Option Addr → TS} {Wout : WX}
theorem ps_try_asT (hs : X.stack = X.env :: X.outer) (hf : X.env.frame = some X.env.locals) (hN : X.N.Nodup) (hi : X.N[i]? = some n) (hln : X.env.kindOf n = some .local) (hc : Names X x c) (tk : Takes X Wout) (hex : X.ex = [])
    (hb : ∀ (W : WX) (pn : List (Addr × Obj)) (xe : Value → Shared → Prop), Takes (X.tr pn xe) W → PassesOwn (model X.prog X.w) X.A X.env xe → PSs (X.tr pn xe) body (tb W))
    (hsu : ∀ (a : Addr) (oe : Obj) (cls : Value) (d : Option Addr) (pn : List (Addr × Obj)), PSs (X.suite a ((a, oe) :: pn)) (b₀ :: suite) (ts a cls d)) :
    PS X (.Try body [.ExceptHandler (some (.Name x np)) (some n) (b₀ :: suite) pos'] [] [] pos) (fun D σ H => tb (wAsT X.K c i ts Wout D) D σ H) := by
  refine ⟨fun pins s σ H D I h => ?_⟩
  have ok := I.ok
  have hfr : X.A.frames = some (X.env :: X.outer) := by rw [ok.frames, hs]
  have hloc : Loc X.env.scope n := .inl hln
  refine wpAny_Try_except ?_
  refine wpAny_mono ((hb (wAsT X.K c i ts Wout D) (X.pn ++ pins) (fun e s₁ => wpAny (model X.prog X.w) X.A (noteFrame e X.env) (fun _ s₂ => wpAny (model X.prog X.w) X.A (setFlight e none) (fun _ s₃ =>
    wpAny (model X.prog X.w) X.A (handleBy e X.env [.ExceptHandler (some (.Name x np)) (some n) (b₀ :: suite) pos']) (SP X pins D) X.xe s₃) X.xe s₂) X.xe s₁) (fun u s' xx => ?_) PassesOwn.looking).run [] s σ H D (I.toTry _) h) (fun f s1 hsp => ?_) (fun e s1 he => he)
  · obtain ⟨a, B, sI, pins', σ', H', cls, d, rfl, J', nb, up, sky, na, os, ag, b, hb1, hyes, hno⟩ := xx
    have J : Inv X pins σ' H' sI := J'.ofTry ok
    have sky' : Sky B (X.env :: X.outer) a (Zc cls d) X.env.locals s'.heap := by rw [← hs]; exact sky
    show wpAny (model X.prog X.w) X.A (noteFrame (.ref a) X.env) _ _ _
    refine Sky.land Zc.steady hfr hf sky' fun h3 fl3 up3 => ?_
    have J3 : Inv X pins σ' H' { s' with heap := h3 } := J.landed nb fl3.1 (up.trans up3) os ag
    obtain ⟨oe3, vs3, he3, hz3, hd3⟩ := fl3.there
    have notFr : ∀ {h : Heap} {o : Obj} {vs : Array Value}, h.FunFrames B (X.env :: X.outer) → h.get? a = some o → o.data = .fields vs → a ∉ frs (X.env :: X.outer) := fun {h o vs} ff e dd hm => by
      obtain ⟨_, o', e', hnf⟩ := ff.mem hm
      rw [e] at e'; cases e'
      exact hnf _ dd
    have nfr := notFr fl3.2.2.1 he3 hd3
    have nL : a ≠ X.env.locals := fun z => nfr (List.mem_filterMap.mpr ⟨X.env, List.mem_cons_self, by rw [hf, z]⟩)
    have nF : a ∉ X.fs := fun hm => by
      obtain ⟨e, he, q⟩ := List.mem_filterMap.mp hm
      exact nfr (List.mem_filterMap.mpr ⟨e, List.mem_cons_of_mem _ he, q⟩)
    have S3 := J3.suite he3 hd3 na nL nF
    -- a is new
    have aB : B.get? a = none := fl3.2.1
    have nst : ∀ b, b ≠ X.env.locals → b ∉ X.fs → b ∉ frs X.stack := fun b h1 h2 hm => (List.mem_cons.mp (J.stkSub b hm)).elim h1 h2
    have a0 : X.s_0.heap.get? a = none := by
      cases z : X.s_0.heap.get? a with
      | none => rfl
      | some o =>
        obtain ⟨o', e'⟩ := J.base.there a o z (fun hx => by rw [hex] at hx; cases hx)
        have q := nb a o' e' (nst a nL nF)
        rw [aB] at q
        cases q
    have apin : ∀ p ∈ X.pn ++ pins, p.1 ≠ a := fun p hp z => by
      obtain ⟨e, _, n1, n2, _⟩ := J.pin p hp
      have q := nb p.1 p.2 e (nst _ n1 n2)
      rw [z, aB] at q
      cases q
    refine wpAny_handleBy_cons (codeAny_handlers_test ?_) (by intro q; cases q)
    have LT : PySem.W.Looks (model X.prog X.w) h3 (typeOf (.ref a)) cls := fun A Q E s k q => wpAny_typeOf_ref (k _ _ he3) (by rw [hz3.1]; exact q)
    have LM := PySem.W.exm_one (M := model X.prog X.w) (J3.kIn) LT hb1
    have test : ∀ {Q : Value → Shared → Prop} {E : Value → Shared → Prop}, Q c { s' with heap := h3 } → wpAny (model X.prog X.w) (X.A.mark (some (.ref a))) (eval (.Name x np) X.env) Q E { s' with heap := h3 } := fun {Q E} q => by
      obtain ⟨hg, hdbg, hm | ⟨hm, hv, hnn⟩⟩ := hc
      · exact ld_glob (X := X.suite a ((a, oe3) :: (X.pn ++ pins))) S3 hg hm q hdbg
      · exact ld_blt (X := X.suite a ((a, oe3) :: (X.pn ++ pins))) S3 hg hm hv q hnn hdbg
    refine test (LM.here ?_)
    cases b with
    | true =>
      obtain ⟨C, dx, ec, ed, hyes⟩ := hyes rfl
      subst ec ed
      refine codeAny_handlers_suite_as ?_
      refine HandSPX.lands_againZ fl3 fun h4 fl4 up4 => ?_
      have J4 : Inv X pins σ' H' { s' with heap := h4 } := J.landed nb fl4.1 ((up.trans up3).trans up4) os ag
      obtain ⟨oe4, vs4, he4, hz4, hd4⟩ := fl4.there
      have S4 := J4.suite he4 hd4 na nL nF
      refine store_ok (X := X.suite a ((a, oe4) :: (X.pn ++ pins))) (v := .ref a) S4 hN hi hloc rfl (fun s5 S5 => ?_) (.inr hln)
      refine wpAny_mono ((hsu a oe4 (.ref C) (some dx) (X.pn ++ pins)).run [] s5 _ H' _ S5 (hyes a na)) (fun f s6 hsp => ?_) (fun _ _ z => False.elim z)
      have end_ : ∀ {σ6 : L2.St} {H6 : Hp} {Q : Shared → Prop}, Inv (X.suite a ((a, oe4) :: (X.pn ++ pins))) [] σ6 H6 s6 → (∀ s7, H6 a = none → Inv X pins (σ6.set i none) (upd H6 a (ExcO a C dx)) s7 → Q s7) →
          wpAny (model X.prog X.w) X.A (do bindName X.env n .none; unbindBehindTheSuite X.env n pos') (fun _ s7 => Q s7) X.xe s6 := fun {σ6 H6 Q} S6 hq => by
        have J6 : Inv X ((a, oe4) :: pins) σ6 H6 s6 := ⟨ok, S6.os, S6.bare, S6.base, S6.loc, S6.cell, S6.free, S6.freeC, fun p hp => S6.pin p (by
          show p ∈ (a, oe4) :: (X.pn ++ pins) ++ []
          simp only [List.mem_append, List.mem_cons, List.append_nil] at hp ⊢
          grind), S6.hok, S6.len⟩
        refine gone_ok J6 hN hi hln fun s7 J7 => ?_
        obtain ⟨e7, n7, _⟩ := J7.pin (a, oe4) (by simp)
        have J8 : Inv X pins (σ6.set i none) H6 s7 := J7.pins_of fun p hp => J7.pin p (by simp [hp])
        refine hq s7 n7 (inv_track J8 a0 n7 nL (fun y c0 e0 z => ?_) apin ⟨⟨oe4, vs4, e7, hz4.1, hz4.2, hd4⟩, ⟨_, e7⟩, fun h1 h2 ⟨oe, vs, k1, k2⟩ st => ⟨oe, vs, st _ k1, k2⟩⟩)
        obtain ⟨v0, o0, k1, k2⟩ := J8.cell y c0 e0
        rw [z] at k1
        have e7 : s7.heap.get? a = some oe4 := e7
        rw [e7] at k1
        cases k1
        rw [hd4] at k2
        cases k2
      cases f with
      | next =>
        obtain ⟨σ6, H6, S6, q6⟩ := hsp
        exact end_ S6 fun s7 n7 J7 => ⟨_, _, J7, q6 n7⟩
      | brk =>
        obtain ⟨σ6, H6, S6, q6⟩ := hsp
        exact end_ S6 fun s7 n7 J7 => ⟨_, _, J7, q6 n7⟩
      | cont =>
        obtain ⟨σ6, H6, S6, q6⟩ := hsp
        exact end_ S6 fun s7 n7 J7 => ⟨_, _, J7, q6 n7⟩
      | ret u =>
        obtain ⟨v6, σ6, H6, S6, r6, q6⟩ := hsp
        exact end_ S6 fun s7 n7 J7 => ⟨_, _, _, J7, r6, q6 n7⟩
    | false =>
      show wpAny _ X.A (handleBy (.ref a) X.env []) _ _ _
      refine wpAny_handleBy_nil ?_
      obtain ⟨k1, k2, k3, oe, vs, T, oT, ts', he, hz, hd, h1, hr⟩ := id fl3
      unfold PySem.passOn
      refine wpAny_bind (wpAny_field he hd h1 ?_)
      rw [if_neg (show ¬ ((Value.ref T == Value.none) = true) from by simp)]
      have fin : wpAny (model X.prog X.w) X.A (setFlight (.ref a) X.env.frame) (fun _ s4 => wpAny (model X.prog X.w) X.A (throw (.ref a) : Sem Flow) (SP X pins D) X.xe s4) X.xe { s' with heap := h3 } := by
        rw [hf]
        refine HandSPX.setFlight_upZ fl3 fun h4 hh4 up4 => wpAny_throw (tk _ _ ?_)
        exact ⟨a, B, sI, pins, σ', H', cls, d, rfl, J, nb, (up.trans up3).trans up4, .inr (.inr (by rw [hs]; exact hh4)), na, os, ag, hno rfl⟩
      first
        | exact wpAny_bind (wpAny_pure (wpAny_bind fin))
        | exact wpAny_bind fin
  · cases f with
    | next =>
      obtain ⟨σ', H', J', q⟩ := hsp
      exact wpAny_execs_nil ⟨σ', H', J'.ofTry ok, q⟩
    | brk =>
      obtain ⟨σ', H', J', q⟩ := hsp
      exact ⟨σ', H', J'.ofTry ok, q⟩
    | cont =>
      obtain ⟨σ', H', J', q⟩ := hsp
      exact ⟨σ', H', J'.ofTry ok, q⟩
    | ret u =>
      obtain ⟨v, σ', H', J', r, q⟩ := hsp
      exact ⟨v, σ', H', J'.ofTry ok, r, q⟩
end

theorem sim_exc {K : PySem.W.Frag} {μ : Mu} {H : Hp} {a C dx : Addr} {d : D} {v : V} (S : Sim K μ H) (ha : H a = none) (hd : H dx = some (.xd [("value", v)])) (r : Rp K H d v) : Fr μ H (mset μ a (.exc C d)) (upd H a (ExcO a C dx)) ∧ Sim K (mset μ a (.exc C d)) (upd H a (ExcO a C dx)) := by
  have F : Fr μ H (mset μ a (.exc C d)) (upd H a (ExcO a C dx)) := fr_new ha
  refine ⟨F, ⟨fun b o e => ?_⟩⟩
  by_cases hb : b = a
  · subst hb
    rw [mset_same] at e
    cases e
    exact ⟨dx, v, upd_same, by rw [upd_ne (ne_of_none hd ha)]; exact hd, Rp.keep S F d r⟩
  · rw [mset_ne hb] at e
    exact (S.at_ b o e).keep S F fun x q => by rw [upd_ne hb]; exact q
/-- what is wanted behind the suite, the error (of the class C, of the value d) kept at a -/
def suiteD (i : Nat) (a C : Addr) (d : Sq.D) (D : PD) : PD := ⟨fun ρ2 μ2 => D.nx (ρ2.set i none) (mset μ2 a (.exc C d)), fun v μ2 => D.rt v (mset μ2 a (.exc C d)), fun ρ2 μ2 => D.bk (ρ2.set i none) (mset μ2 a (.exc C d)), fun ρ2 μ2 => D.ct (ρ2.set i none) (mset μ2 a (.exc C d)), fun _ _ _ _ => False⟩
theorem suiteD_le {i : Nat} {a C : Addr} {d : Sq.D} {D D' : PD} (h : D.le D') : (suiteD i a C d D).le (suiteD i a C d D') := ⟨fun _ _ q => h.nx _ _ q, fun _ _ q => h.rt _ _ q, fun _ _ q => h.bk _ _ q, fun _ _ q => h.ct _ _ q, fun _ _ _ _ q => q⟩
/-- what is wanted behind the try's body -/
def tryD (isSq : Addr → Option Bool) (i : Nat) (ws : WS) (D : PD) : PD := ⟨D.nx, D.rt, D.bk, D.ct, fun ρ' C d μ' => ∃ r, isSq C = some r ∧ (r = true → ∀ a, μ' a = none → ws.run (suiteD i a C d D) (ρ'.set i (some (.ob a))) μ') ∧ (r = false → D.ex ρ' C d μ')⟩
theorem tryD_le {isSq : Addr → Option Bool} {i : Nat} {ws : WS} {D D' : PD} (h : D.le D') : (tryD isSq i ws D).le (tryD isSq i ws D') :=
  ⟨h.nx, h.rt, h.bk, h.ct, fun ρ' C d μ' ⟨r, e, k1, k2⟩ => ⟨r, e, fun hr a ha => ws.mono (suiteD_le h) (k1 hr a ha), fun hr => h.ex _ _ _ _ (k2 hr)⟩⟩
/-- try: b / except CS as n: s -/
def wTry (isSq : Addr → Option Bool) (i : Nat) (wb ws : WS) : WS := ⟨fun D ρ μ => wb.run (tryD isSq i ws D) ρ μ, fun h q => wb.mono (tryD_le h) q⟩
theorem wTry_run {isSq : Addr → Option Bool} {i : Nat} {wb ws : WS} {D : PD} {ρ : Ev} {μ : Mu} : (wTry isSq i wb ws).run D ρ μ = wb.run (tryD isSq i ws D) ρ μ := rfl
section
variable {X : Cx} {Wx : WX} {x n : Str} {CS : Addr} {i : Nat} {body suite : List Stmt} {b₀ : Stmt} {np pos pos' : Pos} {isSq : Addr → Option Bool} {wb ws : WS}
theorem ls_try (hs : X.stack = X.env :: X.outer) (hf : X.env.frame = some X.env.locals) (hN : X.N.Nodup) (hi : X.N[i]? = some n) (hln : X.env.kindOf n = some .local) (hc : Names X x (.ref CS)) (tk : Takes X Wx) (hex : X.ex = [])
    (hsq : ∀ C b, isSq C = some b → PySem.W.exmOne X.K (.ref C) (.ref CS) = some b)
    (hb : ∀ (W : WX) (pn : List (Addr × Obj)) (xe : Value → Shared → Prop), Takes (X.tr pn xe) W → PassesOwn (model X.prog X.w) X.A X.env xe → LSs (X.tr pn xe) W body wb)
    (hsu : ∀ (a : Addr) (oe : Obj) (pn : List (Addr × Obj)), LSs (X.suite a ((a, oe) :: pn)) (fun _ _ _ _ => False) (b₀ :: suite) ws) :
    LS X Wx (.Try body [.ExceptHandler (some (.Name x np)) (some n) (b₀ :: suite) pos'] [] [] pos) (wTry isSq i wb ws) := by
  refine PS.weak (ps_try_asT (c := .ref CS) (i := i) (tb := fun W => lS X.K W wb) (ts := fun _ _ _ => lS X.K (fun _ _ _ _ => False) ws) (Wout := Wx) hs hf hN hi hln hc tk hex hb (fun a oe cls d pn => hsu a oe pn)) fun D σ H ⟨ρ, μ, E, S, h⟩ => ?_
  refine ⟨ρ, μ, E, S, wb.mono (D := tryD isSq i ws (outD X.K Wx μ H D)) ⟨fun _ _ q => q, fun _ _ q => q, fun _ _ q => q, fun _ _ q => q, fun ρ' C d μ' q => ?_⟩ h⟩
  obtain ⟨r, e, k1, k2⟩ := q
  intro σ' dx v H' F' S' E' hdx rv
  refine ⟨r, hsq C r e, fun hr => ⟨C, dx, rfl, rfl, fun a ha => ?_⟩, fun hr => k2 hr σ' dx v H' F' S' E' hdx rv⟩
  refine ⟨ρ'.set i (some (.ob a)), μ', E'.set (show Rp X.K H' (.ob a) (.ref a) from rfl) i, S', ws.mono ?_ (k1 hr a (S'.free ha))⟩
  have nx : ∀ {μ2 : Mu} {H2 : Hp}, Fr μ' H' μ2 H2 → Sim X.K μ2 H2 → H2 a = none → Fr μ H (mset μ2 a (.exc C d)) (upd H2 a (ExcO a C dx)) ∧ Sim X.K (mset μ2 a (.exc C d)) (upd H2 a (ExcO a C dx)) := fun {μ2 H2} F2 S2 n2 => by
    have q := sim_exc (C := C) S2 n2 (F2 dx _ hdx (fun _ z => by cases z) (S'.notTup hdx rfl)).1 (Rp.keep S' F2 d rv)
    exact ⟨(F'.trans F2).trans q.1, q.2⟩
  have ev : ∀ {ρ2 : Ev} {σ2 : L2.St} {μ2 : Mu} {H2 : Hp}, Sim X.K μ2 H2 → H2 a = none → EnvR X.K H2 ρ2 σ2 → EnvR X.K (upd H2 a (ExcO a C dx)) (ρ2.set i none) (σ2.set i none) := fun {ρ2 σ2 μ2 H2} S2 n2 E2 => (E2.keep S2 (fr_tup n2)).wipe i none
  refine ⟨fun ρ2 μ2 q σ2 H2 F2 S2 E2 n2 => ?_, fun u μ2 q v2 H2 F2 S2 r2 n2 => ?_, fun ρ2 μ2 q σ2 H2 F2 S2 E2 n2 => ?_, fun ρ2 μ2 q σ2 H2 F2 S2 E2 n2 => ?_, fun _ _ _ _ z => z.elim⟩
  · exact q _ _ (nx F2 S2 n2).1 (nx F2 S2 n2).2 (ev S2 n2 E2)
  · exact q _ _ (nx F2 S2 n2).1 (nx F2 S2 n2).2 (Rp.keep S2 (fr_tup n2) u r2)
  · exact q _ _ (nx F2 S2 n2).1 (nx F2 S2 n2).2 (ev S2 n2 E2)
  · exact q _ _ (nx F2 S2 n2).1 (nx F2 S2 n2).2 (ev S2 n2 E2)
end
end Sq

/-! raise X(v). -/
namespace Sq
open PySem PySem.Spec PyProof.Rows L2
/-- the class at C, of the name x, may be raised with a value -/
structure ErrD (P : Program) (w : World) (K : PySem.W.Frag) (mg : Str → Option Value) (base : Heap) (x : Str) (C : Addr) : Prop where
  at_ : mg x = some (.ref C)
  ok : ∃ (D f : Addr) (fd : FuncData), ErrC P K mg C D f ∧ FnOk P w K mg base C8.CX0 1 f fd ["self", "value"] (spInit P K mg D f) ∧ Binds K fd ["self", "value"] []
def wRaise (C : Addr) (a : WE) : WS := ⟨fun D ρ μ => a.run ρ μ (fun d μ1 => D.ex ρ C d μ1) (D.ex ρ), fun h q => a.mono (fun _ _ q => h.ex _ _ _ _ q) (fun _ _ _ q => h.ex _ _ _ _ q) q⟩
theorem wRaise_run {C : Addr} {a : WE} {D : PD} {ρ : Ev} {μ : Mu} : (wRaise C a).run D ρ μ = a.run ρ μ (fun d μ1 => D.ex ρ C d μ1) (D.ex ρ) := rfl
section
variable {X : Cx} {Wx : WX}
theorem ls_raise {x : Str} {C : Addr} {e : Expr} {wa : WE} {p pos pos' : Pos} {k : Nat} (T : ErrD X.prog X.w X.K X.mg X.base x C) (hc : X.calm = true) (tk : Takes X Wx) (ha : LAs X Wx [e] [wa]) (hr : Room k X.A) (hk : 2 ≤ k := by decide) (hg : Gl X x := by rfl)
    (hdb : (x == ("__debug__" : Str)) = false := by decide) (he : starEach (e :: []) X.env = (false, eval e X.env) :: starEach [] X.env := by rfl) (hpl : (backTo pos (starEach [] X.env)).any (·.1) = false := by rfl) :
    LS X Wx (.Raise (some (.Call (.Name x p) [e] [] pos)) none pos') (wRaise C wa) := by
  obtain ⟨D0, f, fd, EC, FO, hb⟩ := T.ok
  refine PS.weak (ps_raise hc tk (pmk_oex (k := 1) (dvs := []) EC.ox EC.iC EC.tI FO (hr.mono hk) hb .nil C8.pass0 hg T.at_ ha hdb he hpl)) fun D σ H ⟨ρ, μ, E, S, h⟩ => ?_
  refine lW.bind (w := wArgs [wa]) (Q := fun ds μ1 => ∃ d, ds = [d] ∧ OutXE X.K Wx μ H ρ C d μ1) (X := OutXE X.K Wx μ H ρ) E S (wa.mono (fun d μ1 q => ⟨d, rfl, q⟩) (fun _ _ _ q => q) h) (fun ds μ1 vs H1 F1 S1 E1 r1 q => ?_) fun C' d' μ' q => OutXE.x S E q
  obtain ⟨d, rfl, q⟩ := q
  obtain ⟨v, rfl, rv⟩ := rps1 r1
  refine ⟨(show 1 ≤ 1000 by decide), fun a ha => ⟨a, C, v, rfl, EC, upd_same, fun dd hd hne => ⟨rfl, dd, [("value", v)], upd_same, ?_, ?_, ?_⟩⟩⟩
  · rw [upd_ne hne, upd_same]
  · rw [upd_ne hne] at hd
    exact hd
  · rw [upd_ne hne] at hd
    have eq : upd (del (upd (upd (upd H1 a (exo a C none)) dd (exd dd [("value", v)])) a (exo a C (some dd))) a) dd (.xd [("value", v)]) = upd H1 dd (.xd [("value", v)]) := by
      funext b
      by_cases hbd : b = dd
      · rw [hbd, upd_same, upd_same]
      · rw [upd_ne hbd, upd_ne hbd]
        by_cases hba : b = a
        · rw [hba, del_same, ha]
        · rw [del_ne hba, upd_ne hba, upd_ne hbd, upd_ne hba]
    rw [eq]
    exact q σ dd v _ (F1.trans (fr_tup hd)) (sim_tup S1 hd) (E1.keep S1 (fr_tup hd)) upd_same (Rp.keep S1 (fr_tup hd) d rv)
end
end Sq

/-! _law_heard(call): the lambda's body runs, an error is kept. -/
namespace Sq
open PySem PySem.Spec PyProof.Rows L2
/-- the cells that the lambda t holds tell the maker's names as σ has them -/
structure CloOk (t : LamT) (N : List Str) (σ : L2.St) (H : Hp) (h : Heap) : Prop where
  inj : ∀ x y c, t.clo.lookup x = some c → t.clo.lookup y = some c → x = y
  has : ∀ y ∈ t.scope.names, y.2 = .free → ∃ c, t.clo.lookup y.1 = some c
  kind : t.scope.kind = .function
  co : t.scope.isCoroutine = false
  gen : t.scope.isGenerator = false
  own : ∀ y ∈ t.scope.names, y.2 ≠ .local ∧ y.2 ≠ .cell
  free : ∀ y c, t.clo.lookup y = some c → H c = none
  cell : ∀ y c, t.clo.lookup y = some c → ∃ v, h.IsCell c v
  val : ∀ y c, t.clo.lookup y = some c → ∀ (i : Nat) v, N[i]? = some y → σ[i]? = some (some v) → ∃ u, RelV v u ∧ h.IsCell c (some u)
/-- from the maker's own context -/
theorem clo_of {X : Cx} {pins : List (Addr × Obj)} {σ : L2.St} {H : Hp} {s : Shared} {params : Arguments} {body : Expr} {scope : Scope} (I : Inv X pins σ H s) (L : LamX.LamS X.env.scope scope) : CloOk (lamOf X.env.cells X.env.qual params body scope) X.N σ H s.heap := by
  have hfree := L.has I.ok
  have cm : ∀ {y c}, (cloFrom X.env.cells scope.names []).lookup y = some c → (y, NameKind.free) ∈ scope.names ∧ X.env.cells.lookup y = some c := fun {y c} e => by
    rcases cloFrom_mem (PySem.mem_of_lookup e) with hm | ⟨h1, h2⟩
    · cases hm
    · obtain ⟨c1, hc⟩ := hfree _ h1 rfl
      have hc : X.env.cells.lookup y = some c1 := hc
      have e2 : c = c1 := by rw [h2, hc] <;> rfl
      rw [e2]
      exact ⟨h1, hc⟩
  refine ⟨fun x y c e1 e2 => I.ok.inj x y c (cm e1).2 (cm e2).2, fun y hy e => ?_, L.kind, L.co, L.gen, L.own, fun y c e => I.freeC y c (cm e).2, fun y c e => I.cell y c (cm e).2, fun y c e i v e1 e2 => ?_⟩
  · obtain ⟨y1, y2⟩ := y
    have e : y2 = .free := e
    subst e
    exact mem_lookup (cloFrom_has (cells := X.env.cells) (acc := []) hy)
  · obtain ⟨hy, ec⟩ := cm e
    obtain ⟨m, hn, hl⟩ := I.loc
    have hk := L.free _ hy rfl
    have hvis : Vis X.env.scope y := hk.elim (fun k => .inr (.inl k)) (fun k => .inr (.inr k))
    obtain ⟨u, r, q⟩ := hl i y v e1 e2 hvis
    rcases q with ⟨k', _⟩ | ⟨_, c3, e', z⟩
    · have k' : X.env.scope.names.lookup y = some .local := k'
      rcases hk with k2 | k2 <;> rw [show X.env.scope.names.lookup y = _ from k2] at k' <;> cases k'
    · rw [ec] at e'
      cases e'
      exact ⟨u, r, z⟩
theorem CloOk.un {t : LamT} {N : List Str} {σ : L2.St} {fs ex : List Addr} {H H' : Hp} {h h' : Heap} (k : CloOk t N σ H h) (u : Un fs ex H H' h h') (hx : ∀ y c, t.clo.lookup y = some c → c ∉ ex) : CloOk t N σ H' h' := by
  have cellK : ∀ {c : Addr} {v : Option Value}, H c = none → c ∉ ex → h.IsCell c v → h'.IsCell c v := fun {c v} n nx ⟨o, ho, hd⟩ => by
    obtain ⟨sl, q⟩ := u.any ho n nx
    exact ⟨_, q, hd⟩
  refine ⟨k.inj, k.has, k.kind, k.co, k.gen, k.own, fun y c e => ?_, fun y c e => ?_, fun y c e i v e1 e2 => ?_⟩
  · obtain ⟨v, o, ho, hd⟩ := k.cell y c e
    exact u.free c o ho (k.free y c e) (hx y c e)
  · obtain ⟨v, z⟩ := k.cell y c e
    exact ⟨v, cellK (k.free y c e) (hx y c e) z⟩
  · obtain ⟨v', r, z⟩ := k.val y c e i v e1 e2
    exact ⟨v', r, cellK (k.free y c e) (hx y c e) z⟩
theorem CloOk.kept {t : LamT} {N : List Str} {σ : L2.St} {H : Hp} {h h' : Heap} (k : CloOk t N σ H h) (kp : ∀ b o, h.get? b = some o → h'.get? b = some o) : CloOk t N σ H h' := k.un (fs := []) (ex := []) (Un.kept kp) fun _ _ _ z => nomatch z
/-- another state that tells no more -/
theorem CloOk.weak {t : LamT} {N : List Str} {σ σ' : L2.St} {H : Hp} {h : Heap} (k : CloOk t N σ H h) (w : ∀ (i : Nat) (v : V), σ'[i]? = some (some v) → σ[i]? = some (some v)) : CloOk t N σ' H h :=
  ⟨k.inj, k.has, k.kind, k.co, k.gen, k.own, k.free, k.cell, fun y c e i v e1 e2 => k.val y c e i v e1 (w i v e2)⟩
abbrev lamE (t : LamT) (L f c' : Addr) : Env := PySem.W.envX t.q t.scope L f (.ref c') t.clo
/-- the context of the lambda's body, entered at s from the frames outer; N: the maker's names -/
def lamC (X : Cx) (N : List Str) (A : Around) (outer : List Env) (s : Shared) (H : Hp) (E : XK) (t : LamT) (f c' : Addr) : Cx where
  prog := X.prog
  w := X.w
  K := X.K
  mg := X.mg
  base := X.base
  A := A.deeper (lamE t s.heap.objs.size f c')
  N := N
  s_0 := s
  H_0 := H
  env := lamE t s.heap.objs.size f c'
  outer := outer
  stack := lamE t s.heap.objs.size f c' :: outer
  ex := []
  fn := fun _ => false
  calm := true
  pn := []
  xe := fun e s' => wpAny (model X.prog X.w) (A.deeper (lamE t s.heap.objs.size f c')) (leaving (lamE t s.heap.objs.size f c') e) (fun _ s'' => L2.CX X.prog X.w outer H s E e s'') (fun e' s'' => L2.CX X.prog X.w outer H s E e' s'') s'
section
variable {X : Cx} {N : List Str} {σ : L2.St} {t : LamT}
theorem lamC_start {A : Around} {outer : List Env} {E : XK} {f c' : Addr} {H : Hp} {s : Shared} {h₁ : Heap} {tk : Nat} (k : CloOk t N σ H s.heap) (hl : σ.length = N.length) (e0 : Env0 X.prog X.w X.K X.mg X.base A outer s H) (hd : A.handled = none)
    (hns : h₁.Ns s.heap.objs.size fun y => ([] : List (Str × Value)).reverse.lookup y) (kp : ∀ b o, s.heap.get? b = some o → h₁.get? b = some o) : Inv (lamC X N A outer s H E t f c') [] σ H { s with heap := h₁, toks := tk } := by
  have k1 := k.kept kp
  have noA : ∀ b : Addr, b ∉ (lamC X N A outer s H E t f c').ex := fun b z => absurd (show b ∈ ([] : List Addr) from z) (by simp)
  refine ⟨⟨e0.mod, k.kind, rfl, rfl, Nat.le_refl _, k.inj, fun y hy => ?_, fun y c z _ => ?_, fun _ => hd, Around.frames_deeper e0.frames, .inr ⟨rfl, rfl⟩, fun b z => absurd z (noA b), e0.bs, e0.bsz, fun b _ _ => noA b, fun b z => absurd z (noA b), e0.funs, e0.frf⟩,
    rfl, e0.bare, Un.kept kp, ⟨_, hns, fun i y v e1 e2 e3 => ?_⟩, fun y c e => k1.cell y c e, e0.hok.fresh (Nat.le_refl _), fun y c e => k1.free y c e, fun q hq => absurd (show q ∈ ([] : List (Addr × Obj)) ++ [] from hq) (by simp), e0.hok.kept kp, hl⟩
  · have hy : t.scope.names.lookup y = some .cell ∨ t.scope.names.lookup y = some .free := hy
    rcases hy with hy | hy
    · exact absurd rfl (k.own _ (PySem.mem_of_lookup hy)).2
    · exact k.has _ (PySem.mem_of_lookup hy) rfl
  · have z : false = true := z
    cases z
  · have e3 : Vis t.scope y := e3
    rcases e3 with q | q | q
    · exact absurd rfl (k.own _ (PySem.mem_of_lookup q)).1
    · exact absurd rfl (k.own _ (PySem.mem_of_lookup q)).2
    · obtain ⟨c, ec⟩ := k.has _ (PySem.mem_of_lookup q) rfl
      obtain ⟨u, r, z⟩ := k1.val y c ec i v e1 e2
      exact ⟨u, r, .inr ⟨.inr q, c, ec, z⟩⟩
/-- the lambda f = t, called with nothing -/
theorem lam_codes {A : Around} {outer : List Env} {E : XK} {f c' : Addr} {H : Hp} {s : Shared} {pm ctv : Value} {Q : VK} {tb : TE} (k : CloOk t N σ H s.heap) (hl : σ.length = N.length) (e0 : Env0 X.prog X.w X.K X.mg X.base A outer s H) (hd : A.handled = none) (hdep : A.depth < recursionLimit)
    (hf : s.heap.get? f = some (PySem.W.kla_obj "<lambda>" t.q t.params t.body t.scope t.clo pm c' ctv)) (hc : ∃ (oc : Obj) (vs : Array Value) (tk : Tok), s.heap.get? c' = some oc ∧ oc.data = .fields vs ∧ vs[1]? = some (.str t.q tk))
    (hbind : bindArgs (PySem.W.kla_fn "<lambda>" t.q t.params t.body t.scope t.clo pm (.ref c') ctv) ⟨[], []⟩ = pure []) (hnl : s.heap.NoLimit)
    (hbody : PE (lamC X N A outer s H E t f c') t.body tb) (ht : tb σ H Q) : codeAny (model X.prog X.w) A (.call (.ref f) ⟨[], []⟩) (CR (L2.CX X.prog X.w) outer X.prog X.w H s Q E) s := by
  obtain ⟨oc, vs, tk, hoc, hdc, hvc⟩ := hc
  refine PySem.W.kla_callFunE hdep hf rfl k.co k.gen rfl ⟨c', oc, vs, tk, rfl, hoc, hdc, hvc⟩ ?_
  rw [hbind]
  refine wpAny_pure (wpAny_newFunctionEnv (fun y hy => (k.own y hy).2) (fun y hy => absurd hy (by simp)) (fun h₁ hns hsb => ⟨hnl.fresh _ hsb, ?_⟩) k.kind)
  show codeAny _ _ (.expr t.body (lamE t s.heap.objs.size f c')) _ _
  have kp : ∀ b o, s.heap.get? b = some o → h₁.get? b = some o := fun b o e => hsb.extBut b o (Nat.ne_of_lt (Heap.lt_size e)) (Heap.get?_push_of_some _ e)
  have J := lamC_start (X := X) (E := E) (f := f) (c' := c') (tk := s.toks + ([] : List (Str × Value)).length) k hl e0 hd hns kp
  refine PySem.W.kla_codeExpr (wpAny_mono (hbody.run [] _ _ H Q J ht) (fun v s' hq => ?_) fun e s' hq => hq)
  obtain ⟨w', H', J', rv, q⟩ := hq
  exact ⟨w', H', J'.os, J'.bare, J'.base, J'.hok, rv, q⟩
end

theorem tupK_un {K : PySem.W.Frag} {fs ex : List Addr} {H H' : Hp} {h h' : Heap} (u : Un fs ex H H' h h') : TupK K H H' := ⟨fun p vs q => by
  rcases q with (q | ⟨o, q⟩) | q
  · exact .inl (.inl (u.tups _ _ q))
  · exact .inl (.inr ⟨o, u.frzs _ _ _ q⟩)
  · exact .inr q, fun p vs q => by
  rcases q with ⟨o, q⟩ | q
  · exact .inl ⟨o, u.frzs _ _ _ q⟩
  · exact .inr q⟩
/-- call(), the lambda f being the value of the name i; ρ0: what the maker's names are -/
def wAct (i : Nat) (f : Addr) (ρ0 : Ev) (w : WE) : WE := ⟨fun ρ μ Q X => ρ[i]? = some (some (.ob f)) ∧ w.run ρ0 μ Q X, fun hQ hX h => ⟨h.1, w.mono hQ hX h.2⟩⟩
theorem wAct_run {i : Nat} {f : Addr} {ρ0 : Ev} {w : WE} {ρ : Ev} {μ : Mu} {Q : PQ} {X : XQ} : (wAct i f ρ0 w).run ρ μ Q X = (ρ[i]? = some (some (.ob f)) ∧ w.run ρ0 μ Q X) := rfl
/-- the lambda t's body means w, wherever it is called -/
def LamB (X : Cx) (N : List Str) (t : LamT) (k : Nat) (w : WE) : Prop := ∀ (A : Around) (outer : List Env) (s : Shared) (H : Hp) (E : XK) (f c' : Addr), A.guards = some [] → Room k (A.deeper (lamE t s.heap.objs.size f c')) → LE (lamC X N A outer s H E t f c') (fun cls d _ H' => E cls d H') t.body w
section
variable {X : Cx} {N : List Str} {σ : L2.St} {t : LamT} {H : Hp} {s : Shared}
theorem le_act {Ng : List Str} {qg : Str} {sg : Scope} {g f c' : Addr} {cdg pm ctv : Value} {k i : Nat} {a : Str} {pn : List (Addr × Obj)} {xe : Value → Shared → Prop} {W : WX} {ρ0 : Ev} {w : WE} {p1 p2 : Pos}
    (hk : CloOk t N σ H s.heap) (hl : σ.length = N.length) (hf : H f = some (.frz (PySem.W.kla_obj "<lambda>" t.q t.params t.body t.scope t.clo pm c' ctv) (anyH f))) (hC : CodeK H c' t.q) (E0 : EnvR X.K H ρ0 σ)
    (hbind : bindArgs (PySem.W.kla_fn "<lambda>" t.q t.params t.body t.scope t.clo pm (.ref c') ctv) ⟨[], []⟩ = pure [])
    (tk : Takes ((cxOf C8.CX0 X.prog X.w X.K X.mg X.base Ng qg sg g cdg X.A X.stack s H C8.E0).tr pn xe) W) (hgd : X.A.guards = some []) (hr : Room (k + 1) (X.A.deeper (envOfC qg sg s.heap.objs.size g cdg)))
    (hbody : LamB X N t k w) (hN : Ng[i]? = some a) (hv : Vis sg a) (hd : (a == ("__debug__" : Str)) = false := by decide) (hcd : (a == ("__classdict__" : Str)) = false := by decide) :
    LE ((cxOf C8.CX0 X.prog X.w X.K X.mg X.base Ng qg sg g cdg X.A X.stack s H C8.E0).tr pn xe) W (.Call (.Name a p1) [] [] p2) (wAct i f ρ0 w) := by
  refine ⟨fun pinsZ sZ σZ HZ Q IZ h => ?_⟩
  obtain ⟨ρg, μ, Eg, S, hi, h⟩ := h
  obtain ⟨v, hσ, rv⟩ := Eg.get hi
  obtain rfl : v = .ref f := rv
  refine wpAny_Call_Name_kw (thn ((pe_var (pos := p1) (i := i) hN hv hd hcd).run pinsZ sZ σZ HZ (fun v H1 => v = .ref f ∧ H1 = HZ) IZ ⟨.ref f, hσ, rfl, rfl⟩) fun u s1 ⟨v, H1, I1, r1, q1⟩ => ?_)
  obtain ⟨ev, eH⟩ := q1
  subst ev
  rw [eH] at I1
  obtain rfl : u = Value.ref f := r1
  have un : Un (frs X.stack) [] H HZ s.heap s1.heap := I1.base
  obtain ⟨of1, _⟩ := I1.hok f _ (un.frzs _ _ _ hf)
  refine PySem.W.callWith_F0 ⟨_, _, _, _, of1⟩ ?_
  obtain ⟨oc, vs, _, hC⟩ := hC
  have hc1 := (I1.hok c' _ (un.frzs _ _ _ hC)).2.1
  have k1 := hk.un un fun _ _ _ z => nomatch z
  have rc := lam_codes (X := X) (E := fun cls d H' => W cls d σZ H') (Q := Q) (tb := lE X.K (fun cls d _ H' => W cls d σZ H') w) k1 hl I1.env0 hr.hd hr.depth of1 hc1 hbind I1.nolimit (hbody _ _ s1 HZ _ f c' hgd (hr.deeper _)) ⟨ρ0, μ, E0.keepT (tupK_un un), S, h⟩
  refine wpAny_call (codeAny_mono rc fun r s' hq => ?_)
  cases r with
  | error e => exact tk e s' (XE.of_call I1 (fun _ _ _ h => h) hq)
  | ok fl =>
    cases fl with
    | ret u => exact I1.after hq
    | next => exact False.elim hq
    | brk => exact False.elim hq
    | cont => exact False.elim hq
end
end Sq

/-! The harness's _law_heard. -/
namespace Sq
open PySem PySem.Spec PyProof.Rows L2
/-- its text, whatever the positions -/
def heardBody (p1 p2 p3 p4 p5 p6 p7 p8 p9 p10 p11 p12 p13 p14 p15 p16 p17 p18 p19 p20 p21 : Pos) : List Stmt :=
  [.Assign [.Tuple [.Name "caught" p1, .Name "gave" p2] 0 p3] (.Tuple [.Constant .none 0 p4, .Constant .none 0 p5] 0 p6) p7,
   .Try [.Assign [.Name "gave" p8] (.Call (.Name "call" p9) [] [] p10) p11] [.ExceptHandler (some (.Name "SquareError" p12)) (some "error") [.Assign [.Name "caught" p13] (.Name "error" p14) p15] p16] [] [] p17,
   .Return (some (.Tuple [.Name "caught" p18, .Name "gave" p19] 0 p20)) p21]
abbrev heardN : List Str := ["call", "caught", "gave", "error"]
/-- its names -/
structure HeardS (sg : Scope) : Prop where
  call : sg.names.lookup ("call" : Str) = some .local
  caught : sg.names.lookup ("caught" : Str) = some .local
  gave : sg.names.lookup ("gave" : Str) = some .local
  error : sg.names.lookup ("error" : Str) = some .local
  sq : sg.names.lookup ("SquareError" : Str) = some .globalImplicit
/-- what its body does -/
def heardW (isSq : Addr → Option Bool) (wa : WE) : WS := wSeq (wAsg (wTup [wC .non, wC .non]) (gT [gN 1, gN 2])) (wSeq (wTry isSq 3 (wSet 2 wa) (wSet 1 (wVar 3))) (wRet (wTup [wVar 1, wVar 2])))
theorem heard_body {p1 p2 p3 p4 p5 p6 p7 p8 p9 p10 p11 p12 p13 p14 p15 p16 p17 p18 p19 p20 p21 : Pos} {X : Cx} {Wx : WX} {sg : Scope} {CS : Addr} {isSq : Addr → Option Bool} {wa : WE} (hsc : X.env.scope = sg) (S : HeardS sg) (hN : X.N = heardN) (hs : X.stack = X.env :: X.outer) (hf : X.env.frame = some X.env.locals)
    (hc : X.calm = true) (hfn : X.fn = fun _ => true) (hm : X.mg "SquareError" = some (.ref CS)) (tk : Takes X Wx) (hex : X.ex = []) (hsq : ∀ C b, isSq C = some b → PySem.W.exmOne X.K (.ref C) (.ref CS) = some b)
    (hw : swappedStores [.Tuple [.Name "caught" p1, .Name "gave" p2] 0 p3] (.Tuple [.Constant .none 0 p4, .Constant .none 0 p5] 0 p6) X.env = pure none)
    (act : ∀ (W : WX) (pn : List (Addr × Obj)) (xe : Value → Shared → Prop), Takes (X.tr pn xe) W → LE (X.tr pn xe) W (.Call (.Name "call" p9) [] [] p10) wa) :
    LSs X Wx (heardBody p1 p2 p3 p4 p5 p6 p7 p8 p9 p10 p11 p12 p13 p14 p15 p16 p17 p18 p19 p20 p21) (heardW isSq wa) := by
  obtain ⟨prog, w, K, mg, base, A, N, s_0, H_0, env, outer, stack, ex, fn, calm, pn, xe⟩ := X
  dsimp only at hN hs hf hc hfn hex hsc hm
  subst hN hc hfn hex hsc
  have nd : heardN.Nodup := by decide
  have v1 : env.scope.names.lookup ("caught" : Str) = some .local := S.caught
  have v2 : env.scope.names.lookup ("gave" : Str) = some .local := S.gave
  have v3 : env.scope.names.lookup ("error" : Str) = some .local := S.error
  refine lss_cons (ls_asg (le_tup (la_cons le_non (la_cons le_non la_nil))) (lg_tup (lgs_cons (lg_name 1 nd (hx := .inl v1)) (lgs_cons (lg_name 2 nd (hx := .inl v2)) lgs_nil))) (hw := hw)) (lss_cons (ls_try (CS := CS) (n := "error") hs hf nd rfl S.error ⟨S.sq, by decide, .inl hm⟩ tk rfl hsq (fun W pn xe tk _ => ?_) (fun a oe pn => ?_)) (lss_one (ls_ret (le_tup (la_cons (le_var 1 (hv := .inl v1)) (la_cons (le_var 2 (hv := .inl v2)) la_nil))))))
  · exact lss_one (ls_set 2 nd (act W pn xe tk) (hx := .inl v2))
  · exact lss_one (ls_set 1 nd (le_var 3 (hv := .inl v3)) (hx := .inl v1))

/-- what _law_heard makes of a lambda that means w -/
def heardQ (isSq : Addr → Option Bool) (w : WE) (ρ : Ev) (μ : Mu) (Q : PQ) : Prop := w.run ρ μ (fun d μ1 => Q (.tup [.non, d]) μ1) (fun C d μ1 => isSq C = some true ∧ ∀ a, μ1 a = none → Q (.tup [.ob a, .non]) (mset μ1 a (.exc C d)))
theorem heardQ_mono {isSq : Addr → Option Bool} {w : WE} {ρ : Ev} {μ : Mu} {Q Q' : PQ} (hQ : ∀ d μ', Q d μ' → Q' d μ') (h : heardQ isSq w ρ μ Q) : heardQ isSq w ρ μ Q' := w.mono (fun _ _ q => hQ _ _ q) (fun _ _ _ q => ⟨q.1, fun a ha => hQ _ _ (q.2 a ha)⟩) h
/-- what the text says of _law_heard -/
structure HeardD (P : Program) (w : World) (K : PySem.W.Frag) (mg : Str → Option Value) (base : Heap) (isSq : Addr → Option Bool) : Prop where
  ex : ∃ (g CS : Addr) (fd : FuncData) (st : Stmt) (p1 p2 p3 p4 p5 p6 p7 p8 p9 p10 p11 p12 p13 p14 p15 p16 p17 p18 p19 p20 p21 : Pos), Fun K "_law_heard" "_law_heard" st g fd ∧ FnScope heardN ["call"] (defScope st) ∧ HeardS (defScope st) ∧
    defBody st = heardBody p1 p2 p3 p4 p5 p6 p7 p8 p9 p10 p11 p12 p13 p14 p15 p16 p17 p18 p19 p20 p21 ∧
    (∀ env : Env, env.scope = defScope st → swappedStores [.Tuple [.Name "caught" p1, .Name "gave" p2] 0 p3] (.Tuple [.Constant .none 0 p4, .Constant .none 0 p5] 0 p6) env = pure none) ∧
    mg "_law_heard" = some (.ref g) ∧ PySem.W.keepIn K (.ref g) = true ∧ Binds K fd ["call"] [] ∧ mg "SquareError" = some (.ref CS) ∧ (∀ C b, isSq C = some b → PySem.W.exmOne K (.ref C) (.ref CS) = some b)
section
variable {X : Cx} {Wx : WX} {isSq : Addr → Option Bool}
theorem heard_run {pins : List (Addr × Obj)} {σ' σ : L2.St} {H : Hp} {s : Shared} {N : List Str} {t : LamT} {f : Addr} {ρ : Ev} {μ : Mu} {Q : VK} {w : WE} {k : Nat} (T : HeardD X.prog X.w X.K X.mg X.base isSq) (I : Inv X pins σ' H s) (hk : CloOk t N σ H s.heap) (hl : σ.length = N.length) (S : Sim X.K μ H) (hf : μ f = some (.lam t)) (E0 : EnvR X.K H ρ σ)
    (hbind : ∀ (pm cv ctv : Value), bindArgs (PySem.W.kla_fn "<lambda>" t.q t.params t.body t.scope t.clo pm cv ctv) ⟨[], []⟩ = pure []) (hgd : X.A.guards = some []) (hr : Room (k + 2) X.A) (hbody : LamB X N t k w) (hq : heardQ isSq w ρ μ (Out (Rp X.K) X.K μ H Q)) :
    ∃ g : Addr, X.mg "_law_heard" = some (.ref g) ∧ PySem.W.keepIn X.K (.ref g) = true ∧ codeAny (model X.prog X.w) X.A (.call (.ref g) ⟨[.ref f], []⟩) (CR C8.CX0 X.stack X.prog X.w H s Q C8.E0) s := by
  obtain ⟨g, CS, fd, st, p1, p2, p3, p4, p5, p6, p7, p8, p9, p10, p11, p12, p13, p14, p15, p16, p17, p18, p19, p20, p21, FU, Sg, HS, hbd, hw, hmg, hkeep, hb, hmS, hsq⟩ := T.ex
  refine ⟨g, hmg, hkeep, ?_⟩
  obtain ⟨oc, od, kV, doc, pm, an, cdv, ct, osl, efd, lk, hcd⟩ := FU.ex
  subst efd
  obtain ⟨pm', c', ctv, e1, e2⟩ := S.at_ f _ hf
  refine LamX.run_ofS (N := heardN) (ps := ["call"]) (us := [.ref f]) (vs := [.ref f]) (CX := C8.CX0) (E := C8.E0) lk hcd Sg hr I.env0 (hb s [.ref f] I.kIn rfl) (.cons rfl .nil) rfl fun hr' => ⟨lS X.K (fun _ _ _ _ => False) (heardW isSq (wAct 0 f ρ w)), ?_, ?_⟩
  · rw [hbd]
    exact heard_body (X := cxOf C8.CX0 X.prog X.w X.K X.mg X.base heardN "_law_heard" (defScope st) g cdv X.A X.stack s H C8.E0) (CS := CS) rfl HS rfl rfl rfl rfl rfl hmS LamX.takes0 rfl hsq (hw _ rfl)
      fun W pn xe tk => le_act hk hl e1 e2 E0 (hbind _ _ _) tk hgd hr' hbody rfl (.inl HS.call)
  · refine ⟨[some (.ob f), none, none, none], μ, ?_, S, ?_⟩
    · exact ⟨some (.ref f), _, rfl, fun d q => by cases q; exact ⟨.ref f, rfl, rfl⟩, EnvR.nones 3⟩
    · refine ⟨rfl, ?_⟩
      rw [runGs_cons, gN_run, runGs_cons, gN_run, runGs_nil]
      refine ⟨rfl, w.mono (fun d μ1 q => ?_) (fun C d μ1 q => ?_) hq⟩
      · exact q
      · exact ⟨true, q.1, fun _ a ha => q.2 a ha, fun z => nomatch z⟩
/-- _law_heard(a), a being one of the lambdas of L; own: names that the lambdas do not see -/
def wHeard (isSq : Addr → Option Bool) (own : List Nat) (L : List (LamT × WE)) (a : WE) : WE := ⟨fun ρ μ Q X => a.run ρ μ (fun d μ1 => ∃ f t w, d = .ob f ∧ μ1 f = some (.lam t) ∧ (t, w) ∈ L ∧ heardQ isSq w (wipeE ρ own) μ1 Q) X,
  fun hQ hX h => a.mono (fun _ _ ⟨f, t, w, e1, e2, e3, q⟩ => ⟨f, t, w, e1, e2, e3, heardQ_mono hQ q⟩) hX h⟩
theorem wHeard_run {own : List Nat} {L : List (LamT × WE)} {a : WE} {ρ : Ev} {μ : Mu} {Q : PQ} {X : XQ} : (wHeard isSq own L a).run ρ μ Q X = a.run ρ μ (fun d μ1 => ∃ f t w, d = .ob f ∧ μ1 f = some (.lam t) ∧ (t, w) ∈ L ∧ heardQ isSq w (wipeE ρ own) μ1 Q) X := rfl
/-- the lambda t, of the meaning w, may be called from the context X -/
structure LamIn (X : Cx) (N : List Str) (k : Nat) (own : List Nat) (G : L2.St → Prop) (t : LamT) (w : WE) : Prop where
  body : LamB X N t k w
  bind : ∀ (pm cv ctv : Value), bindArgs (PySem.W.kla_fn "<lambda>" t.q t.params t.body t.scope t.clo pm cv ctv) ⟨[], []⟩ = pure []
  clo : ∀ (pins : List (Addr × Obj)) (σ : L2.St) (H : Hp) (s : Shared), G σ → Inv X pins σ H s → ∃ σm : L2.St, CloOk t N σm H s.heap ∧ σm.length = N.length ∧ ∀ ρ, EnvR X.K H ρ σ → EnvR X.K H (wipeE ρ own) σm
/-- an expression, where the state is as G says -/
def LEg (G : L2.St → Prop) (X : Cx) (Wx : WX) (e : Expr) (w : WE) : Prop := PE X e (fun σ H Q => G σ ∧ lE X.K Wx w σ H Q)
theorem LEg.le {G : L2.St → Prop} {e : Expr} {w : WE} (h : LEg G X Wx e w) (hG : ∀ σ, G σ) : LE X Wx e w := PE.weak h fun σ H Q q => ⟨hG σ, q⟩
theorem LE.g {G : L2.St → Prop} {e : Expr} {w : WE} (h : LE X Wx e w) : LEg G X Wx e w := PE.weak h fun σ H Q q => q.2
theorem leg_heard {G : L2.St → Prop} {N : List Str} {own : List Nat} {L : List (LamT × WE)} {k : Nat} {e : Expr} {wa : WE} {p pos : Pos} (T : HeardD X.prog X.w X.K X.mg X.base isSq) (hL : ∀ q ∈ L, LamIn X N k own G q.1 q.2) (ha : LAs X Wx [e] [wa]) (hgd : X.A.guards = some []) (hr : Room (k + 2) X.A) (hg : Gl X "_law_heard" := by rfl)
    (he : starEach (e :: []) X.env = (false, eval e X.env) :: starEach [] X.env := by rfl) (hpl : (backTo pos (starEach [] X.env)).any (·.1) = false := by rfl) : LEg G X Wx (.Call (.Name "_law_heard" p) [e] [] pos) (wHeard isSq own L wa) := by
  have T' := T
  obtain ⟨g, CS, fd, st, p1, p2, p3, p4, p5, p6, p7, p8, p9, p10, p11, p12, p13, p14, p15, p16, p17, p18, p19, p20, p21, FU, Sg, HS, hbd, hw, hmg, hkeep, hb, hmS, hsq⟩ := T.ex
  refine ⟨fun pins s σ H Q I ⟨hG, ρ, μ, E, S, h⟩ => wpAny_Call_Name_kw (ld_glob I hg hmg (PySem.W.callWith_K (h₀ := X.base) I.ok.mod.kin hkeep (thn (ha.run pos pins s σ H
    (fun vs H1 => ∃ f t w μ1, vs = [.ref f] ∧ Fr μ H μ1 H1 ∧ Sim X.K μ1 H1 ∧ EnvR X.K H1 ρ σ ∧ μ1 f = some (.lam t) ∧ (t, w) ∈ L ∧ heardQ isSq w (wipeE ρ own) μ1 (Out (Rp X.K) X.K μ H Q)) I ?_) fun us s1 ⟨vs, H1, I1, r, f, t, w, μ1, ev, F1, S1, E1, e2, e3, q⟩ => ⟨I1.kIn, ?_⟩) he hpl) (by decide))⟩
  · refine lW.bind (w := wArgs [wa]) (Q := fun ds μ1 => ∃ d, ds = [d] ∧ ∃ f t w, d = .ob f ∧ μ1 f = some (.lam t) ∧ (t, w) ∈ L ∧ heardQ isSq w (wipeE ρ own) μ1 (Out (Rp X.K) X.K μ H Q)) (X := OutX X.K Wx σ μ H) E S (wa.mono (fun d μ1 q => ⟨d, rfl, q⟩) (fun _ _ _ q => q) h) (fun ds μ1 vs H1 F1 S1 E1 r1 q => ?_) fun _ _ _ q => q
    obtain ⟨d, rfl, f, t, w, rfl, e2, e3, q⟩ := q
    obtain ⟨v, rfl, rv⟩ := rps1 r1
    obtain rfl : v = .ref f := rv
    exact ⟨f, t, w, μ1, rfl, F1, S1, E1, e2, e3, q⟩
  · subst ev
    have LI := hL _ e3
    obtain ⟨σm, k1, k2, k3⟩ := LI.clo pins σ H1 s1 hG I1
    obtain ⟨g', hg', _, rc⟩ := heard_run (Q := Q) T' I1 k1 k2 S1 e2 (k3 ρ E1) LI.bind hgd hr LI.body (heardQ_mono (fun _ _ q => q.trans F1) q)
    rw [hmg] at hg'
    cases hg'
    obtain ⟨u, rfl, ru⟩ : ∃ u, us = [u] ∧ RelV (.ref f) u := by
      cases r with
      | cons r1 r2 =>
        cases r2
        exact ⟨_, rfl, r1⟩
    obtain rfl : u = Value.ref f := ru
    refine wpAny_call (codeAny_mono rc fun r s2 hq => ?_)
    cases r with
    | error e => exact (show False from hq).elim
    | ok fl =>
      cases fl with
      | ret u => exact I1.after hq
      | next => exact False.elim hq
      | brk => exact False.elim hq
      | cont => exact False.elim hq
theorem le_heard {N : List Str} {own : List Nat} {L : List (LamT × WE)} {k : Nat} {e : Expr} {wa : WE} {p pos : Pos} (T : HeardD X.prog X.w X.K X.mg X.base isSq) (hL : ∀ q ∈ L, LamIn X N k own (fun _ => True) q.1 q.2) (ha : LAs X Wx [e] [wa]) (hgd : X.A.guards = some []) (hr : Room (k + 2) X.A) (hg : Gl X "_law_heard" := by rfl)
    (he : starEach (e :: []) X.env = (false, eval e X.env) :: starEach [] X.env := by rfl) (hpl : (backTo pos (starEach [] X.env)).any (·.1) = false := by rfl) : LE X Wx (.Call (.Name "_law_heard" p) [e] [] pos) (wHeard isSq own L wa) :=
  (leg_heard T hL ha hgd hr hg he hpl).le fun _ => trivial
/-- the maker's own context -/
theorem lamIn_own {params : Arguments} {body : Expr} {scope : Scope} {k : Nat} {w : WE} (L : LamX.LamS X.env.scope scope) (hb : LamB X X.N (lamOf X.env.cells X.env.qual params body scope) k w)
    (hbind : ∀ (q : Str) (cl : List (Str × Addr)) (pm cv ctv : Value), bindArgs (PySem.W.kla_fn "<lambda>" q params body scope cl pm cv ctv) ⟨[], []⟩ = pure []) : LamIn X X.N k [] (fun _ => True) (lamOf X.env.cells X.env.qual params body scope) w :=
  ⟨hb, fun pm cv ctv => hbind _ _ _ _ _, fun pins σ H s _ I => ⟨σ, clo_of I L, I.len, fun ρ E => E⟩⟩
end
end Sq

/-! [_law_heard(call)[0] for call in calls]. -/
namespace Sq
open PySem PySem.Spec PyProof.Rows L2
section
variable {X : Cx}
/-- a list comprehension's block, its element told where the block starts -/
theorem lc_coreI {pins : List (Addr × Obj)} {s : Shared} {σ : L2.St} {H : Hp} {Q : VK} {elt tg iter : Expr} {ifs : List Expr} {scope : Scope} {own : List (Str × Nat)} {pos pos' : Pos} {wi : TI} {g : TG} {tt : TT} {te : TE} {use : Option (Value → Sem Unit)} {Qf : Value → Shared → Prop}
    (hc : X.calm = true) (hN : X.N.Nodup) (I : Inv X pins σ H s) (hi : PI X tg iter wi) (ok : BlkOk X.N X.env.scope scope own)
    (hg : ∀ (s : Shared) (H : Hp) (C : Addr) (cl : List (Str × Addr)) (fp : List Addr), PG (X.blk s H scope (compEnvC scope cl C X.env) fp) tg g) (ht : ∀ (s : Shared) (H : Hp) (C : Addr) (cl : List (Str × Addr)) (fp : List Addr), PTs (X.blk s H scope (compEnvC scope cl C X.env) fp) ifs tt)
    (he : ∀ (s : Shared) (H : Hp) (C : Addr) (cl : List (Str × Addr)) (fp : List Addr), Inv X pins σ H s → (∀ b ∈ fp, FpOk X pins H b) → PE (X.blk s H scope (compEnvC scope cl C X.env) fp) elt te) (hs : ∀ x, foldedSetIterable iter X.env x = pure x)
    (h : tLc wi g tt te (own.map (·.2)) σ H Q)
    (hRR : ∀ D C s' m H', Inv X pins σ H' s' → Q (.ref D) H' → s'.heap.Ns C m → FpOk X pins H' C → compPost (model X.prog X.w) X.A X.xe use Qf (.ref D) C (.ok .next) s') :
    wpAny (model X.prog X.w) X.A (comprehension (.ListComp elt [⟨tg, iter, ifs, 0⟩] scope pos) scope X.env pos' (newList []) false (eval iter X.env) use) Qf X.xe s := by
  have hfree : ∀ y ∈ scope.names, y.2 = .free → ∃ c, X.env.cells.lookup y.1 = some c := fun y hy e => by
    rcases ok.free y hy e with k | k
    · exact I.ok.has _ (.inl k)
    · exact I.ok.has _ (.inr k)
  refine wpAny_comprehension_free (use := use) rfl hs (closure_ok hfree) ok.kind (fun y hy e => by rw [ok.uniq y hy, e])
    (thn (hi.run pins s σ H _ I h) fun xv s1 hx => thn hx fun itv s2 h2 => ?_)
  obtain ⟨it, fp, tn, J, H2, e, I2, T, st2, f2, q⟩ := h2
  subst e
  refine wpAny_newObj_type (newEnv_comp ?_) (by show 0 ≤ sizeLine; decide)
  generalize hD : s2.heap.objs.size = D
  have hDn : H2 D = none := I2.hok.fresh (Nat.le_of_eq hD)
  obtain ⟨W, ⟨m0, w0⟩, turn⟩ := q D hDn
  -- the new list
  generalize hs3 : ({ s2 with heap := s2.heap.push { cls := .type "list", data := .seq ([] : List Value).toArray } } : Shared) = s3
  have I3 : Inv X pins σ (upd H2 D (.lst [])) s3 := by
    rw [← hs3]
    refine I2.laid (t' := s2.toks) (fun b o e => Heap.get?_push_of_some _ e) (Nat.le_of_eq hD) ⟨Nat.zero_le _, [], 0, .nil, ?_⟩
    rw [← hD]
    exact Heap.get?_push_size _ rfl
  have h3 : s3.heap = s2.heap.push { cls := .type "list", data := .seq ([] : List Value).toArray } := by rw [← hs3]
  have sz : ∀ b ∈ fp, b < s2.heap.objs.size := fun b hb => by
    obtain ⟨o, e, _⟩ := T.obj _ _ st2 b hb
    exact Heap.lt_size e
  have f3 : ∀ b ∈ fp, FpOk X pins (upd H2 D (.lst [])) b ∧ b < s3.heap.objs.size := fun b hb => by
    have hlt := sz b hb
    refine ⟨⟨?_, (f2 b hb).2⟩, by rw [h3, Heap.size_push]; exact Nat.lt_succ_of_lt hlt⟩
    rw [upd_ne (by rw [← hD]; exact Nat.ne_of_lt hlt)]
    exact (f2 b hb).1
  have st3 : tn 0 s3.heap := T.keep _ _ _ st2 fun b _ o e => by rw [h3]; exact Heap.get?_push_of_some _ e
  have I4 := block_start I3 ok hN f3
  have pg := hg s3 (upd H2 D (.lst [])) s3.heap.objs.size (cellsFrom (s3.heap.objs.size + 1) scope.names (cloFrom X.env.cells scope.names [])) fp
  have pt := ht s3 (upd H2 D (.lst [])) s3.heap.objs.size (cellsFrom (s3.heap.objs.size + 1) scope.names (cloFrom X.env.cells scope.names [])) fp
  have pe := he s3 (upd H2 D (.lst [])) s3.heap.objs.size (cellsFrom (s3.heap.objs.size + 1) scope.names (cloFrom X.env.cells scope.names [])) fp I3 fun b hb => (f3 b hb).1
  show codeAny _ _ (.compStart (.ListComp elt [⟨tg, iter, ifs, 0⟩] scope pos) 0 (.ref it) (.ref D) (compEnvC scope (cellsFrom (s3.heap.objs.size + 1) scope.names (cloFrom X.env.cells scope.names [])) s3.heap.objs.size X.env)) (compPost (model X.prog X.w) X.A X.xe use Qf (.ref D) s3.heap.objs.size) { s3 with heap := pushCells (s3.heap.push { cls := .type "dict", data := .dict #[] }) scope.names }
  have nfp : ∀ b ∈ fp, (upd H2 D (.lst [])) b = none := fun b hb => (f3 b hb).1.1
  generalize hce : compEnvC scope (cellsFrom (s3.heap.objs.size + 1) scope.names (cloFrom X.env.cells scope.names [])) s3.heap.objs.size X.env = ce at I4 pg pt pe ⊢
  have cL : ce.locals = s3.heap.objs.size := by subst hce; rfl
  generalize hH3 : upd H2 D (.lst []) = H3 at I3 I4 pg pt pe w0 nfp f3
  generalize hs4 : ({ s3 with heap := pushCells (s3.heap.push { cls := .type "dict", data := .dict #[] }) scope.names } : Shared) = s4 at I4 ⊢
  have st4 : tn 0 s4.heap := T.keep _ _ _ st3 fun b _ o e => by rw [← hs4]; exact pushCells_keeps _ _ _ _ (Heap.get?_push_of_some _ e)
  have stat : ∀ {σ' : L2.St} {H' : Hp} {s' : Shared}, Inv (X.blk s3 H3 scope ce fp) [] σ' H' s' → (∀ b ∈ fp, H' b = none) → ∀ b ∈ fp, FpOk (X.blk s3 H3 scope ce fp) [] H' b := fun {σ' H' s'} I' hn b hb =>
    ⟨hn b hb, (I'.ok.exf b hb).1, I'.ok.exfs b hb, .inl hb, fun x c e => (I'.ok.exf b hb).2 x c e, fun p hp => absurd (show p ∈ ([] : List (Addr × Obj)) ++ [] from hp) (by simp)⟩
  have loop : codeAny (model X.prog X.w) X.A (.compLoop (.ListComp elt [⟨tg, iter, ifs, 0⟩] scope pos) 0 (.ref it) (.ref D) ce) (compPost (model X.prog X.w) X.A X.xe use Qf (.ref D) s3.heap.objs.size) s4 := by
    refine compLoop_any (fun n s' => ∃ i H', Inv (X.blk s3 H3 scope ce fp) [] (wipe σ (own.map (·.2))) H' s' ∧ tn i s'.heap ∧ (∀ b ∈ fp, H' b = none) ∧ W i n H') ?_ m0 ⟨0, H3, I4, st4, nfp, w0⟩
    rintro n s5 ⟨i, H5, I5, st5, n5, w5⟩
    rcases turn i n H5 w5 with ⟨stop, qq⟩ | ⟨go, Nx, hNx, step⟩
    · have td := T.done (X.blk s3 H3 scope ce fp) rfl rfl rfl hc i [] s5 _ H5 (fun _ _ => False) I5 (stat I5 n5) st5 stop
      refine thnF td fun r s6 ⟨hr, I6⟩ => ?_
      subst hr
      -- back in the def's context
      have I7 : Inv X pins σ H5 s6 := I3.call' (ch := fp) I6.os I6.base I6.hok I6.bare fun b hb => ⟨(f3 b hb).1.2.2.2.1, (f3 b hb).1.2.1, (f3 b hb).1.2.2.2.2.1, (f3 b hb).1.2.2.2.2.2⟩
      have nC : H5 s3.heap.objs.size = none := by
        have z : H5 ce.locals = none := I6.free
        rw [cL] at z
        exact z
      obtain ⟨m, hn, _⟩ := I6.loc
      have hn : s6.heap.Ns ce.locals m := hn
      rw [cL] at hn
      exact hRR D s3.heap.objs.size s6 m H5 I7 qq hn (I3.fpOk (Nat.le_refl _) nC)
    · have ti := T.item (X.blk s3 H3 scope ce fp) rfl rfl rfl hc i [] s5 _ H5 (fun _ _ => False) I5 (stat I5 n5) st5 go
      refine thnF ti fun r s6 ⟨u, hr, h6⟩ => ?_
      subst hr
      refine thnF h6 fun _ s7 ⟨x, H7, I7, r7, y7, st7, n7⟩ => ?_
      have I7' := I7.pinned (stat I7 n7) (T.obj _ _ st7)
      refine thnF (pg.run _ s7 _ H7 x u _ I7' r7 (step x H7 y7)) fun _ s8 ⟨σ8, H8, I8, hw8, q8⟩ => ?_
      refine thnF (pt.run _ s8 σ8 H8 _ I8 q8) fun b s9 ⟨H9, I9, q9⟩ => ?_
      -- the turn's end
      have fin : ∀ {s' : Shared} {H' : Hp}, Inv (X.blk s3 H3 scope ce fp) ([] ++ pinsAt fp s7.heap) σ8 H' s' → Nx H' → ∃ m, m < n ∧ ∃ i H', Inv (X.blk s3 H3 scope ce fp) [] (wipe σ (own.map (·.2))) H' s' ∧ tn i s'.heap ∧ (∀ b ∈ fp, H' b = none) ∧ W i m H' := fun {s' H'} I' nx => by
        obtain ⟨m', hm, w'⟩ := hNx H' nx
        have pin' : ∀ b ∈ fp, ∀ o, s7.heap.get? b = some o → s'.heap.get? b = some o ∧ H' b = none := fun b hb o e =>
          let z := I'.pin (b, o) (List.mem_append_right _ (List.mem_append_right _ (mem_pinsAt hb e)))
          ⟨z.1, z.2.1⟩
        have hl : (wipe σ (own.map (·.2))).length = σ8.length := by rw [← hw8, wipe_length]
        refine ⟨m', hm, i + 1, H', (I'.unpinned (pins := [])).weak hl (fun j v e => ?_), T.keep _ _ _ st7 fun b hb o e => (pin' b hb o e).1, fun b hb => ?_, w'⟩
        · rw [← hw8] at e
          exact (wipe_some e).1
        · obtain ⟨o, e, _⟩ := T.obj _ _ st7 b hb
          exact (pin' b hb o e).2
      cases b with
      | false =>
        simp only [Bool.false_eq_true, if_false] at q9 ⊢
        exact fin I9 q9
      | true =>
        simp only [if_true] at q9 ⊢
        refine thnF (pe.run _ s9 σ8 H9 _ I9 q9) fun z s10 ⟨yv, H10, I10, r10, acc, hD10, hz10, nx⟩ => ?_
        exact app_ok (X := X.blk s3 H3 scope ce fp) I10 hD10 hz10 r10 fun s11 I11 => fin I11 nx
  exact codeAny_compStart_list loop (T.self X.A 0 _ _ _ st4 loop)
theorem pe_lcI {elt tg iter : Expr} {ifs : List Expr} {scope : Scope} {own : List (Str × Nat)} {pos : Pos} {wi : TI} {g : TG} {tt : TT} {te : L2.St → TE} (hc : X.calm = true) (hN : X.N.Nodup) (hi : PI X tg iter wi) (ok : BlkOk X.N X.env.scope scope own)
    (hg : ∀ (s : Shared) (H : Hp) (C : Addr) (cl : List (Str × Addr)) (fp : List Addr), PG (X.blk s H scope (compEnvC scope cl C X.env) fp) tg g) (ht : ∀ (s : Shared) (H : Hp) (C : Addr) (cl : List (Str × Addr)) (fp : List Addr), PTs (X.blk s H scope (compEnvC scope cl C X.env) fp) ifs tt)
    (he : ∀ (pins : List (Addr × Obj)) (σ : L2.St) (s : Shared) (H : Hp) (C : Addr) (cl : List (Str × Addr)) (fp : List Addr), Inv X pins σ H s → (∀ b ∈ fp, FpOk X pins H b) → PE (X.blk s H scope (compEnvC scope cl C X.env) fp) elt (te σ)) (hs : ∀ x, foldedSetIterable iter X.env x = pure x) :
    PE X (.ListComp elt [⟨tg, iter, ifs, 0⟩] scope pos) (fun σ H Q => tLc wi g tt (te σ) (own.map (·.2)) σ H Q) := by
  refine ⟨fun pins s σ H Q I h => ?_⟩
  rw [eval_ListComp]
  refine lc_coreI hc hN I hi ok hg ht (fun s H C cl fp I f => he pins σ s H C cl fp I f) hs h fun D C s' m H' I' q hn f => ⟨m, hn, fun h'' sb => ?_⟩
  obtain ⟨f0, f1, f2, f3, f4, f5⟩ := f
  exact ⟨.ref D, H', I'.turned (t' := s'.toks) (fun b o hb e => (sb.2 b hb).trans e) f0 f1 f3 f4 f5, rfl, q⟩
theorem ps_setLcI {i : Nat} {y : Str} {py : Pos} {elt tg iter : Expr} {ifs : List Expr} {scope : Scope} {own : List (Str × Nat)} {pos spos : Pos} {wi : TI} {g : TG} {tt : TT} {te : L2.St → TE} (hc : X.calm = true) (hN : X.N.Nodup) (hy : X.N[i]? = some y) (hyl : X.env.scope.names.lookup y = some .local)
    (hsw : swapsWith (.ListComp elt [⟨tg, iter, ifs, 0⟩] scope pos) (some (.Name y py)) spos.line X.env = pure true) (hi : PI X tg iter wi) (ok : BlkOk X.N X.env.scope scope own)
    (hg : ∀ (s : Shared) (H : Hp) (C : Addr) (cl : List (Str × Addr)) (fp : List Addr), PG (X.blk s H scope (compEnvC scope cl C X.env) fp) tg g) (ht : ∀ (s : Shared) (H : Hp) (C : Addr) (cl : List (Str × Addr)) (fp : List Addr), PTs (X.blk s H scope (compEnvC scope cl C X.env) fp) ifs tt)
    (he : ∀ (pins : List (Addr × Obj)) (σ : L2.St) (s : Shared) (H : Hp) (C : Addr) (cl : List (Str × Addr)) (fp : List Addr), Inv X pins σ H s → (∀ b ∈ fp, FpOk X pins H b) → PE (X.blk s H scope (compEnvC scope cl C X.env) fp) elt (te σ)) (hs : ∀ x, foldedSetIterable iter X.env x = pure x) :
    PS X (.Assign [.Name y py] (.ListComp elt [⟨tg, iter, ifs, 0⟩] scope pos) spos) (fun D σ H => tLc wi g tt (te σ) (own.map (·.2)) σ H fun x H1 => gName i x σ H1 D.nx) := by
  refine ⟨fun pins s σ H D I h => ?_⟩
  rw [exec_Assign_Name_used _ _ _ _ hsw]
  refine wpAny_bind (wpAny_standAt (wpAny_bind ?_))
  show wpAny _ X.A (do let _ ← comprehension (.ListComp elt [⟨tg, iter, ifs, 0⟩] scope pos) scope X.env (firstIterPos [⟨tg, iter, ifs, 0⟩] pos) (newList []) false (eval iter X.env) (some (assign (.Name y py) X.env))) _ _ s
  refine wpAny_bind (thn (lc_coreI (Qf := fun _ s' => SP X pins D .next s') hc hN I hi ok hg ht (fun s H C cl fp I f => he pins σ s H C cl fp I f) hs h fun L C s' m H' I' q hn f => ?_) fun _ s' hq => wpAny_pure (wpAny_pure hq))
  show wpAny _ _ (assign (.Name y py) X.env (.ref L)) _ _ _
  refine wpAny_assign_Name (store_ok2 (v := V.ref L) I' hN hy (.inl hyl) rfl (fun s2 I2 ⟨a, sb, ha⟩ => ?_) (.inr hyl))
  obtain ⟨f0, f1, f2, f3, f4, f5⟩ := f
  have haC : C ≠ a := by
    rcases ha with z | z
    · rw [z]; exact f1
    · exact fun e => f4 y a z e.symm
  refine ⟨m, hn.sameBut sb haC, fun h3 sb3 => ?_⟩
  exact ⟨_, H', I2.turned (t' := s2.toks) (fun b o hb e => (sb3.2 b hb).trans e) f0 f1 f3 f4 f5, q⟩
end
section
variable {X : Cx} {Wx : WX}
theorem le_lcI {elt tg iter : Expr} {ifs : List Expr} {scope : Scope} {own : List (Str × Nat)} {pos : Pos} {wi : WI} {t : CT} {tt : WT} {te : WE} (hN : X.N.Nodup) (hi : LI X Wx tg iter wi) (ok : BlkOk X.N X.env.scope scope own) (hv : own.map (·.2) = t.slots)
    (hg : ∀ (s : Shared) (H : Hp) (C : Addr) (cl : List (Str × Addr)) (fp : List Addr), PG (X.blk s H scope (compEnvC scope cl C X.env) fp) tg (t.tg X.K)) (ht : ∀ (s : Shared) (H : Hp) (C : Addr) (cl : List (Str × Addr)) (fp : List Addr), LPs (X.blk s H scope (compEnvC scope cl C X.env) fp) ifs tt)
    (he : ∀ (pins : List (Addr × Obj)) (σ : L2.St) (s : Shared) (H : Hp) (C : Addr) (cl : List (Str × Addr)) (fp : List Addr), Inv X pins σ H s → (∀ b ∈ fp, FpOk X pins H b) → LEg (fun σ2 => wipe σ2 (own.map (·.2)) = wipe σ (own.map (·.2))) (X.blk s H scope (compEnvC scope cl C X.env) fp) W0 elt te)
    (hc : X.calm = true := by rfl) (hs : ∀ x, foldedSetIterable iter X.env x = pure x := by intro _; rfl) :
    LE X Wx (.ListComp elt [⟨tg, iter, ifs, 0⟩] scope pos) (wLc wi t tt te) := PE.weak (pe_lcI (tt := lT X.K W0 tt) (te := fun σ σ2 H2 Q2 => wipe σ2 (own.map (·.2)) = wipe σ (own.map (·.2)) ∧ lE X.K W0 te σ2 H2 Q2) hc hN hi ok hg ht he hs) (wLc_t (P := fun σ σ2 => wipe σ2 (own.map (·.2)) = wipe σ (own.map (·.2))) hv fun _ _ e => e)
theorem ls_setLcI (i : Nat) {y : Str} {py : Pos} {elt tg iter : Expr} {ifs : List Expr} {scope : Scope} {own : List (Str × Nat)} {pos spos : Pos} {wi : WI} {t : CT} {tt : WT} {te : WE} (hN : X.N.Nodup) (hi : LI X Wx tg iter wi) (ok : BlkOk X.N X.env.scope scope own) (hv : own.map (·.2) = t.slots)
    (hg : ∀ (s : Shared) (H : Hp) (C : Addr) (cl : List (Str × Addr)) (fp : List Addr), PG (X.blk s H scope (compEnvC scope cl C X.env) fp) tg (t.tg X.K)) (ht : ∀ (s : Shared) (H : Hp) (C : Addr) (cl : List (Str × Addr)) (fp : List Addr), LPs (X.blk s H scope (compEnvC scope cl C X.env) fp) ifs tt)
    (he : ∀ (pins : List (Addr × Obj)) (σ : L2.St) (s : Shared) (H : Hp) (C : Addr) (cl : List (Str × Addr)) (fp : List Addr), Inv X pins σ H s → (∀ b ∈ fp, FpOk X pins H b) → LEg (fun σ2 => wipe σ2 (own.map (·.2)) = wipe σ (own.map (·.2))) (X.blk s H scope (compEnvC scope cl C X.env) fp) W0 elt te)
    (hsw : swapsWith (.ListComp elt [⟨tg, iter, ifs, 0⟩] scope pos) (some (.Name y py)) spos.line X.env = pure true := by exact sw_true rfl rfl rfl (by decide +kernel)) (hy : X.N[i]? = some y := by rfl) (hyl : X.env.scope.names.lookup y = some .local := by rfl) (hc : X.calm = true := by rfl) (hs : ∀ x, foldedSetIterable iter X.env x = pure x := by intro _; rfl) :
    LS X Wx (.Assign [.Name y py] (.ListComp elt [⟨tg, iter, ifs, 0⟩] scope pos) spos) (wSet i (wLc wi t tt te)) := PS.weak (ps_setLcI (tt := lT X.K W0 tt) (te := fun σ σ2 H2 Q2 => wipe σ2 (own.map (·.2)) = wipe σ (own.map (·.2)) ∧ lE X.K W0 te σ2 H2 Q2) hc hN hy hyl hsw hi ok hg ht he hs) fun D σ H h => by
  obtain ⟨ρ, μ, E, S, h⟩ := h
  refine wLc_t (Wx := Wx) (P := fun σ σ2 => wipe σ2 (own.map (·.2)) = wipe σ (own.map (·.2))) hv (fun _ _ e => e) σ H _ ⟨ρ, μ, E, S, ?_⟩
  exact (wLc wi t tt te).mono (Q := fun d μ1 => OutS X.K μ H D.nx (ρ.set i (some d)) μ1) (fun x μ1 q v H1 F1 S1 r1 => q _ _ F1 S1 ((E.keep S F1).set r1 i)) (fun _ _ _ q => OutXE.x S E q) h
/-- what is told of some names alone -/
theorem EnvR.unwipe {K : PySem.W.Frag} {H : Hp} : ∀ {ρ : Ev} {σ τ : L2.St} (vs : List Nat), EnvR K H (wipeE ρ vs) σ → L2.wipe σ vs = L2.wipe τ vs → EnvR K H (wipeE ρ vs) τ := by
  have get : ∀ (vs : List Nat) (ρ : Ev) (j : Nat), j ∈ vs → ∀ d, (wipeE ρ vs)[j]? ≠ some (some d) := by
    intro vs
    induction vs with
    | nil => intro ρ j h; cases h
    | cons v vs ih =>
      intro ρ j h d e
      unfold wipeE at e
      by_cases hj : v = j
      · subst hj
        by_cases hl : v < (wipeE ρ vs).length
        · rw [List.getElem?_set_self hl] at e; cases e
        · rw [List.getElem?_eq_none (by rw [List.length_set]; omega)] at e; cases e
      · rw [List.getElem?_set_ne hj] at e
        exact ih ρ j ((List.mem_cons.mp h).resolve_left fun z => hj z.symm) d e
  have mk : ∀ {ρ : Ev} {τ : L2.St}, ρ.length = τ.length → (∀ (j : Nat) d, ρ[j]? = some (some d) → ∃ v, τ[j]? = some (some v) ∧ Rp K H d v) → EnvR K H ρ τ := by
    intro ρ
    induction ρ with
    | nil =>
      intro τ hl _
      exact List.eq_nil_of_length_eq_zero hl.symm
    | cons e ρ ih =>
      intro τ hl h
      cases τ with
      | nil => cases hl
      | cons s τ =>
        unfold EnvR
        refine ⟨s, τ, rfl, fun d q => ?_, ih (by simpa using hl) fun j d q => ?_⟩
        · obtain ⟨v, h1, h2⟩ := h 0 d (by rw [q]; rfl)
          exact ⟨v, by simpa using h1, h2⟩
        · obtain ⟨v, h1, h2⟩ := h (j + 1) d (by simpa using q)
          exact ⟨v, by simpa using h1, h2⟩
  have len : ∀ {ρ : Ev} {σ : L2.St}, EnvR K H ρ σ → ρ.length = σ.length := by
    intro ρ
    induction ρ with
    | nil => intro σ h; unfold EnvR at h; subst h; rfl
    | cons e ρ ih =>
      intro σ h
      unfold EnvR at h
      obtain ⟨s, σ', rfl, _, b⟩ := h
      simp [ih b]
  intro ρ σ τ vs E w
  refine mk ?_ fun j d q => ?_
  · rw [len E, ← wipe_length σ vs, w, wipe_length]
  · have hj : j ∉ vs := fun hj => get vs ρ j hj d q
    obtain ⟨v, h1, h2⟩ := E.get q
    refine ⟨v, ?_, h2⟩
    have e1 : (L2.wipe σ vs)[j]? = (L2.wipe τ vs)[j]? := by rw [w]
    rw [wipe_get, wipe_get, if_neg hj, if_neg hj] at e1
    rw [← e1]; exact h1
/-- the lambda's cells are the maker's -/
theorem clo_maker {cl : List (Str × Addr)} {scope : Scope} {y : Str} {c : Addr} (hfree : ∀ y ∈ scope.names, y.2 = .free → ∃ c, cl.lookup y.1 = some c) (e : (cloFrom cl scope.names []).lookup y = some c) : cl.lookup y = some c := by
  rcases cloFrom_mem (PySem.mem_of_lookup e) with hm | ⟨h1, h2⟩
  · cases hm
  · obtain ⟨c1, hc⟩ := hfree _ h1 rfl
    have hc : cl.lookup y = some c1 := hc
    have e2 : c = c1 := by rw [h2, hc] <;> rfl
    rw [e2]
    exact hc
/-- from the block of a comprehension -/
theorem lamIn_blk {pins : List (Addr × Obj)} {σ : L2.St} {s : Shared} {H : Hp} {fp : List Addr} {bs : Scope} {ce : Env} {params : Arguments} {body : Expr} {scope : Scope} {k : Nat} {w : WE} {own : List Nat} (I : Inv X pins σ H s) (f : ∀ b ∈ fp, FpOk X pins H b) (L : LamX.LamS X.env.scope scope)
    (hb : LamB X X.N (lamOf X.env.cells X.env.qual params body scope) k w)
    (hbind : ∀ (q : Str) (cl : List (Str × Addr)) (pm cv ctv : Value), bindArgs (PySem.W.kla_fn "<lambda>" q params body scope cl pm cv ctv) ⟨[], []⟩ = pure []) : LamIn (X.blk s H bs ce fp) X.N k own (fun σ2 => wipe σ2 own = wipe σ own) (lamOf X.env.cells X.env.qual params body scope) w := by
  refine ⟨hb, fun pm cv ctv => hbind _ _ _ _ _, fun pins' σ2 H' s' hG I' => ⟨σ, ?_, I.len, fun ρ E => ?_⟩⟩
  · have c0 := clo_of (params := params) (body := body) I L
    refine c0.un I'.base fun y c e hc => ?_
    exact (f c hc).2.2.2.2.1 y c (clo_maker (L.has I.ok) e) rfl
  · exact EnvR.unwipe own (wipe_env E own) (by rw [wipe_wipe]; exact hG)
/-- _law_heard(e)[0] where the state is as G says -/
theorem leg_heard0 {G : L2.St → Prop} {e b : Expr} {w wb : WE} {pos : Pos} (h : LEg G X Wx e w) (hb : LE X Wx b wb) (hs : PlainIx b := by exact fun _ _ => rfl) : LEg G X Wx (.Subscript e b pos) (wOp gIx w wb) := by
  obtain ⟨r, h1, h2⟩ := ix_d (X := X)
  exact PE.weak (pe_ix h1 h hb hs) fun σ H Q ⟨g, q⟩ => ⟨g, wOp_t (f := fun _ _ => pure .none) h2 σ H Q q⟩
end
end Sq

/-! Errors looked at, dict displays, repr of odd values, t[::-1], texts. -/
namespace Sq
open PySem PySem.Spec PyProof.Rows L2

/-! ### isinstance of an error -/
def rIsX (K : PySem.W.Frag) : List V → Hp → VK → Prop := fun xs H Q => ∃ (a C dx : Addr) (c v : V) (u : Value) (b : Bool), xs = [.ref a, c] ∧ ClsV c u ∧ H a = some (ExcO a C dx) ∧ H dx = some (.xd [("value", v)]) ∧ L2.ExcC K C ∧ PySem.W.kitOne K (.ref C) u = some b ∧ Q (.bl b) H
theorem call_isX {X : Cx} : CallR X (.builtin "isinstance") (rIsX X.K) := by
  intro pins s σ H xs us Q I r h
  obtain ⟨a, C, dx, c, v, u, b, rfl, k, ha, ea, T, e, q⟩ := h
  obtain ⟨u1, u2, rfl, r1, r2⟩ := vals2 r
  have e2 := k.eq r2
  subst e2
  obtain rfl : u1 = Value.ref a := r1
  obtain ⟨⟨oe, vs, h1, h2, h3, h4⟩, _⟩ := I.hok a _ ha
  have hx : ObjOk X.prog X.w H s.heap dx (.xd [("value", v)]) := I.hok dx _ ea
  obtain ⟨mA, hns, hr⟩ := hx
  obtain ⟨od, ho, hl⟩ := lookIn_ns hns
  have J : PySem.W.InstAt s.heap a oe C (some od) := ⟨h1, h2, by unfold PySem.W.notCls; rw [h4] <;> rfl, by rw [h3]; exact ho⟩
  have hcl : (PySem.W.clsIn X.K C).isSome = true := by
    obtain ⟨cd, hc, _⟩ := PySem.W.any_some T.hd
    rw [hc]; rfl
  exact PySem.W.kia_one (PySem.W.kitx_exc hcl T.hg T.hk T.hs T.ha T.hn T.ht T.hm) I.kIn J e (fun z => nomatch z) fun tk => ⟨.bl b, H, I.kept (t' := tk) fun _ _ z => z, rfl, q⟩
def wIsX (isX : Addr → Option Bool) (a : WE) : WE := ⟨fun ρ μ Q X => a.run ρ μ (fun d μ1 => ∃ p C v b, d = .ob p ∧ μ1 p = some (.exc C v) ∧ isX C = some b ∧ Q (.bl b) μ1) X,
  fun hQ hX h => a.mono (fun d μ1 ⟨p, C, v, b, e1, e2, e3, q⟩ => ⟨p, C, v, b, e1, e2, e3, hQ _ _ q⟩) hX h⟩
theorem wIsX_run {isX : Addr → Option Bool} {a : WE} {ρ : Ev} {μ : Mu} {Q : PQ} {X : XQ} : (wIsX isX a).run ρ μ Q X = a.run ρ μ (fun d μ1 => ∃ p C v b, d = .ob p ∧ μ1 p = some (.exc C v) ∧ isX C = some b ∧ Q (.bl b) μ1) X := rfl
/-- the class of the name x, asked of errors -/
structure IsXD (K : PySem.W.Frag) (mg : Str → Option Value) (x : Str) (isX : Addr → Option Bool) : Prop where
  ex : ∃ CX, mg x = some (.ref CX) ∧ ∀ C b, isX C = some b → L2.ExcC K C ∧ PySem.W.kitOne K (.ref C) (.ref CX) = some b
section
variable {X : Cx} {Wx : WX}
theorem le_isx {isX : Addr → Option Bool} {a : Expr} {wa : WE} {x : Str} {p p2 pos : Pos} (T : IsXD X.K X.mg x isX) (hm : X.mg "isinstance" = none) (ha : LE X Wx a wa)
    (hg : Gl X "isinstance" := by rfl) (hgT : Gl X x := by rfl) (hdb : (x == ("__debug__" : Str)) = false := by decide)
    (hs : starEach (a :: [.Name x p2]) X.env = (false, eval a X.env) :: starEach [.Name x p2] X.env := by rfl) (hs2 : starEach (.Name x p2 :: []) X.env = (false, eval (.Name x p2) X.env) :: starEach [] X.env := by rfl)
    (hpl : (backTo pos (starEach [.Name x p2] X.env)).any (·.1) = false := by rfl) : LE X Wx (.Call (.Name "isinstance" p) [a, .Name x p2] [] pos) (wIsX isX wa) := by
  obtain ⟨CX, hx, hT⟩ := T.ex
  refine PE.weak (pe_callB call_isX hg hm (by decide +kernel) (pa_cons ha (pa_cons (pe_glob hgT hx (show RelV (.ref CX) (.ref CX) from rfl) hdb) pa_nil hs2) hs) (by decide) (by decide) hs hpl) fun σ H Q ⟨ρ, μ, E, S, h⟩ => ?_
  refine lW.bind E S h (fun d μ1 v H1 F1 S1 E1 r1 h1 => ?_) fun _ _ _ h => h
  obtain ⟨p, C, v', b, rfl, e2, e3, q⟩ := h1
  obtain ⟨dx, v0, k1, k2, k3⟩ := S1.at_ p _ e2
  obtain rfl : v = .ref p := r1
  exact ⟨p, C, dx, .ref CX, v0, .ref CX, b, rfl, .own CX, k1, k2, (hT C b e3).1, (hT C b e3).2, q _ _ F1 S1 rfl⟩

/-! ### e.value -/
theorem pe_value {e : Expr} {te : TE} {pos : Pos} (he : PE X e te) (hb : attributeBase e "value" X.env (eval e X.env) = eval e X.env := by rfl) :
    PE X (.Attribute e "value" pos) (fun σ H Q => te σ H fun x H1 => ∃ (a C dx : Addr) (v : V), x = .ref a ∧ H1 a = some (ExcO a C dx) ∧ H1 dx = some (.xd [("value", v)]) ∧ L2.ExcC X.K C ∧ PySem.W.findIn X.K (.ref C) "value" = some none ∧ Q v H1) := by
  refine ⟨fun pins s σ H Q I h => ?_⟩
  refine attr_of hb (thn (he.run pins s σ H _ I h) fun u s1 hh => ?_)
  obtain ⟨x, H1, I1, rx, a, C, dx, v, ex, ha, ea, T, hno, q⟩ := hh
  subst ex
  obtain rfl : u = Value.ref a := rx
  obtain ⟨⟨oe, vs, h1, h2, h3, h4⟩, _⟩ := I1.hok a _ ha
  have hx : ObjOk X.prog X.w H1 s1.heap dx (.xd [("value", v)]) := I1.hok dx _ ea
  obtain ⟨mA, hns, hr⟩ := hx
  obtain ⟨od, ho, hl⟩ := lookIn_ns hns
  obtain ⟨u, hu, ru⟩ := RelO.some_of (v := v) (o := mA "value") (hr "value")
  have J : PySem.W.InstAt s1.heap a oe C (some od) := ⟨h1, h2, by unfold PySem.W.notCls; rw [h4] <;> rfl, by rw [h3]; exact ho⟩
  exact HandSPX.exc_get I1.kIn J T.hg T.hk T.hs (PySem.W.findObj_own T.hd hno rfl (by rw [hl, hu])) (handed_of ru) ⟨v, H1, I1.tok _, ru, q⟩
/-- the errors of the classes that isE tells have a value -/
def ErrsD (K : PySem.W.Frag) (isE : Addr → Option Bool) : Prop := ∀ C b, isE C = some b → L2.ExcC K C ∧ PySem.W.findIn K (.ref C) "value" = some none
def wVal (isE : Addr → Option Bool) (a : WE) : WE := ⟨fun ρ μ Q X => a.run ρ μ (fun d μ1 => ∃ p C v b, d = .ob p ∧ μ1 p = some (.exc C v) ∧ isE C = some b ∧ Q v μ1) X,
  fun hQ hX h => a.mono (fun d μ1 ⟨p, C, v, b, e1, e2, e3, q⟩ => ⟨p, C, v, b, e1, e2, e3, hQ _ _ q⟩) hX h⟩
theorem wVal_run {isE : Addr → Option Bool} {a : WE} {ρ : Ev} {μ : Mu} {Q : PQ} {X : XQ} : (wVal isE a).run ρ μ Q X = a.run ρ μ (fun d μ1 => ∃ p C v b, d = .ob p ∧ μ1 p = some (.exc C v) ∧ isE C = some b ∧ Q v μ1) X := rfl
theorem le_value {isE : Addr → Option Bool} {e : Expr} {w : WE} {pos : Pos} (T : ErrsD X.K isE) (he : LE X Wx e w) (hb : attributeBase e "value" X.env (eval e X.env) = eval e X.env := by rfl) : LE X Wx (.Attribute e "value" pos) (wVal isE w) :=
  PE.weak (pe_value he hb) fun σ H Q ⟨ρ, μ, E, S, h⟩ => by
    refine lW.bind E S h (fun d μ1 v H1 F1 S1 E1 r1 h1 => ?_) fun _ _ _ h => h
    obtain ⟨p, C, v', b, rfl, e2, e3, q⟩ := h1
    obtain ⟨dx, v0, k1, k2, k3⟩ := S1.at_ p _ e2
    obtain rfl : v = .ref p := r1
    exact ⟨p, C, dx, v0, rfl, k1, k2, (T C b e3).1, (T C b e3).2, q _ _ F1 S1 k3⟩

/-! ### dicts -/
theorem sim_dct {K : PySem.W.Frag} {μ : Mu} {H : Hp} {p : Addr} {ks : List Key} {ds : List D} {vs : List V} (S : Sim K μ H) (hp : H p = none) (hl : ks.length = ds.length) (r : Rps K H ds vs) : Sim K (mset μ p (.dct ks ds)) (upd H p (.dK (ks.zip vs))) := ⟨fun a u e => by
  have F : Fr μ H (mset μ p (.dct ks ds)) (upd H p (.dK (ks.zip vs))) := fr_new hp
  by_cases ha : a = p
  · subst ha
    rw [mset_same] at e; cases e
    exact ⟨vs, upd_same, hl, Rps.keep S F ds r⟩
  · rw [mset_ne ha] at e
    exact (S.at_ a u e).keep S F fun x q => by rw [upd_ne ha]; exact q⟩
def wDct (ks : List Key) (ds : List D) : WE := ⟨fun _ μ Q _ => ∀ p, μ p = none → Q (.ob p) (mset μ p (.dct ks ds)), fun hQ _ h p hp => hQ _ _ (h p hp)⟩
theorem wDct_run {ks : List Key} {ds : List D} {ρ : Ev} {μ : Mu} {Q : PQ} {X : XQ} : (wDct ks ds).run ρ μ Q X = ∀ p, μ p = none → Q (.ob p) (mset μ p (.dct ks ds)) := rfl
theorem le_dct0 {pos : Pos} : LE X Wx (.Dict [] [] pos) (wDct [] []) := PE.weak pe_dnewK fun σ H Q ⟨ρ, μ, E, S, h⟩ p hp => h p (S.free hp) _ _ (fr_new hp) (sim_dct (ks := []) (vs := []) S hp rfl rfl) rfl
theorem le_dct1 {k : Str} {i : Int} {j1 j2} {p1 p2 pos : Pos} : LE X Wx (.Dict [some (.Constant (.str k) j1 p1)] [.Constant (.int i) j2 p2] pos) (wDct [.inr k] [.int i]) :=
  PE.weak (pe_disp (pps_cons pe_str pe_int pps_nil) rfl rfl (fun z => nomatch z) (show 1 ≤ 15 by decide)) fun σ H Q ⟨ρ, μ, E, S, h⟩ p hp => by
    refine ⟨upd_same, [(.inr k, .int i)], rfl, (show 1 ≤ 15 by decide), ?_⟩
    rw [upd_upd]
    exact h p (S.free hp) _ _ (fr_new hp) (sim_dct (ks := [.inr k]) (ds := [.int i]) (vs := [.int i]) S hp rfl ⟨_, _, rfl, rfl, rfl⟩) rfl
end

/-! ### repr of data with a dict -/
def keyPy : Key → PyData
  | .inl i => .int i
  | .inr x => .str x
def dctPy (ks : List Key) (ns : List Int) : PyData := .dict ((ks.map keyPy).zip (ns.map PyData.int))
mutual
inductive Dv (K : PySem.W.Frag) (H : Hp) : V → PyData → Prop
  | non : Dv K H .non .none
  | bl (b : Bool) : Dv K H (.bl b) (.bool b)
  | int (i : Int) : Dv K H (.int i) (.int i)
  | str (x : Str) : Dv K H (.str x) (.str x)
  | dct {a : Addr} {ks : List Key} {ns : List Int} : H a = some (.dK (ks.zip (ns.map V.int))) → Dv K H (.ref a) (dctPy ks ns)
  | tup {a : Addr} {xs : List V} {ds : List PyData} : SqT K H a xs → DvAll K H xs ds → Dv K H (.ref a) (.tuple ds)
inductive DvAll (K : PySem.W.Frag) (H : Hp) : List V → List PyData → Prop
  | nil : DvAll K H [] []
  | cons {v : V} {vs : List V} {d : PyData} {ds : List PyData} : Dv K H v d → DvAll K H vs ds → DvAll K H (v :: vs) (d :: ds)
end
theorem pairs_ints {h : Heap} : ∀ {ks : List Key} {ns : List Int} {vs : List (Key × Value)}, KV (ks.zip (ns.map V.int)) vs → PyProof.V.PairsRead h keyPy vs ((ks.map keyPy).zip (ns.map PyData.int)) []
  | [], _, _, r => by simp at r; cases r; exact .nil
  | _ :: _, [], _, r => by simp at r; cases r; exact .nil
  | k :: ks, n :: ns, _, r => by
    simp only [List.map_cons, List.zip_cons_cons] at r ⊢
    cases r with
    | @cons p q ps qs h1 h2 =>
      obtain ⟨q1, q2⟩ := q
      obtain ⟨e, t, e2⟩ := h1
      dsimp only at e e2
      subst e e2
      exact .cons (as := []) (bs := []) (Reads.int n t) (pairs_ints h2)
section
variable {X : Cx} {pins : List (Addr × Obj)} {σ : L2.St} {H : Hp} {s : Shared}
mutual
theorem Dv.reads (I : Inv X pins σ H s) : ∀ {d : PyData} {v : V} {u : Value}, Dv X.K H v d → RelV v u → ∃ as, Reads s.heap u d as ∧ sysModules ∉ as
  | _, _, _, .non, r => by cases r; exact ⟨_, Reads.none, by simp⟩
  | _, _, _, .bl b, r => by cases r; exact ⟨_, Reads.bool b, by simp⟩
  | _, _, _, .int i, r => by obtain ⟨t, rfl⟩ := r; exact ⟨_, Reads.int i t, by simp⟩
  | _, _, _, .str x, r => by obtain ⟨t, rfl⟩ := r; exact ⟨_, Reads.str x t, by simp⟩
  | _, _, _, .dct (a := a) e, r => by
    cases r
    obtain ⟨_, hd, vs, rv, dd⟩ := dk_of I.hok e
    refine ⟨_, PyProof.V.reads_dictOf (knd := mixKind X.prog X.w) (fun k key hk => ?_) dd (pairs_ints rv), ?_⟩
    · rcases keyIs_shape hk with ⟨i, t, rfl, rfl⟩ | ⟨x, t, rfl, rfl⟩
      · exact Reads.int i t
      · exact Reads.str x t
    · have := beq_eq_false_iff_ne.mp hd
      simp only [List.mem_cons, List.not_mem_nil, or_false]
      exact fun z => this z.symm
  | _, _, _, .tup hs ha, r => by
    cases r
    obtain ⟨its, rv, ⟨o, ho, hc, n, hd⟩, _⟩ := I.tuple hs
    obtain ⟨as, hr, hn⟩ := DvAll.reads I ha rv
    exact ⟨_, Reads.tuple ho hc hd hr, hn⟩
theorem DvAll.reads (I : Inv X pins σ H s) : ∀ {ds : List PyData} {vs : List V} {us : List Value}, DvAll X.K H vs ds → Vals vs us → ∃ as, ReadsAll s.heap us ds as ∧ sysModules ∉ as
  | _, _, _, .nil, r => by cases r; exact ⟨_, ReadsAll.nil, by simp⟩
  | _, _, _, .cons h1 h2, r => by
    cases r with
    | cons r1 r2 =>
      obtain ⟨as, q1, n1⟩ := Dv.reads I h1 r1
      obtain ⟨bs, q2, n2⟩ := DvAll.reads I h2 r2
      exact ⟨_, ReadsAll.cons q1 q2, by rw [List.mem_append]; exact fun z => z.elim n1 n2⟩
end
end
mutual
inductive DDp (μ : Mu) : D → PyData → Prop
  | non : DDp μ .non .none
  | bl (b : Bool) : DDp μ (.bl b) (.bool b)
  | int (i : Int) : DDp μ (.int i) (.int i)
  | str (x : Str) : DDp μ (.str x) (.str x)
  | dct {a : Addr} {ks : List Key} {ns : List Int} : μ a = some (.dct ks (ns.map D.int)) → DDp μ (.ob a) (dctPy ks ns)
  | tup {ds : List D} {ps : List PyData} : DDps μ ds ps → DDp μ (.tup ds) (.tuple ps)
inductive DDps (μ : Mu) : List D → List PyData → Prop
  | nil : DDps μ [] []
  | cons {d : D} {ds : List D} {p : PyData} {ps : List PyData} : DDp μ d p → DDps μ ds ps → DDps μ (d :: ds) (p :: ps)
end
mutual
theorem DDp.dv {K : PySem.W.Frag} {μ : Mu} {H : Hp} (S : Sim K μ H) : ∀ {p : PyData} {d : D} {v : V}, DDp μ d p → Rp K H d v → Dv K H v p
  | _, _, _, .non, r => by rw [rp_non r]; exact .non
  | _, _, _, .bl b, r => by rw [rp_bl r]; exact .bl b
  | _, _, _, .int i, r => by rw [rp_int r]; exact .int i
  | _, _, _, .str x, r => by rw [rp_str r]; exact .str x
  | _, _, _, .dct e, r => by
    rw [rp_ob r]
    obtain ⟨vs, h1, hl, q⟩ := S.at_ _ _ e
    rw [Rps.ints q] at h1
    exact .dct h1
  | _, _, _, .tup h, r => by
    obtain ⟨p, vs, rfl, t, q⟩ := rp_tup r
    exact .tup t (DDps.dv S h q)
theorem DDps.dv {K : PySem.W.Frag} {μ : Mu} {H : Hp} (S : Sim K μ H) : ∀ {ps : List PyData} {ds : List D} {vs : List V}, DDps μ ds ps → Rps K H ds vs → DvAll K H vs ps
  | _, _, _, .nil, r => by unfold Rps at r; subst r; exact .nil
  | _, _, _, .cons a b, r => by
    unfold Rps at r
    obtain ⟨w, ws, rfl, r1, r2⟩ := r
    exact .cons (DDp.dv S a r1) (DDps.dv S b r2)
end
/-- repr -/
def fReprX (x : D) (μ : Mu) (Q : PQ) : Prop := fRepr x μ Q ∨ ∃ d, DDp μ x d ∧ d.depth ≤ 60 ∧ d.showable = true ∧ d.shown.length ≤ sizeLine ∧ Q (.str d.shown) μ
def gReprX : GN := g1 fReprX fun {x μ Q Q'} hQ h => by
  rcases h with ⟨d, h1, h2, h3, h4, q⟩ | ⟨d, h1, h2, h3, h4, q⟩
  · exact .inl ⟨d, h1, h2, h3, h4, hQ _ _ q⟩
  · exact .inr ⟨d, h1, h2, h3, h4, hQ _ _ q⟩
theorem gReprX_run {x : D} {μ : Mu} {Q : PQ} : gReprX.run [x] μ Q = fReprX x μ Q := rfl
section
variable {X : Cx}
def rReprX (K : PySem.W.Frag) : List V → Hp → VK → Prop := fun vs H Q => ∃ (x : V) (d : PyData), vs = [x] ∧ Dv K H x d ∧ d.depth ≤ 60 ∧ d.showable = true ∧ d.shown.length ≤ sizeLine ∧ Q (.str d.shown) H
theorem cr_reprX (hg : X.A.guards = some []) (hu : X.A.units + 65 < cLine) : CallR X (.builtin "repr") (rReprX X.K) := by
  intro pins s σ H vs us Q I r h
  obtain ⟨x, d, rfl, hd, hdep, hsh, hln, q⟩ := h
  cases r with
  | cons r1 r2 =>
    cases r2
    rename_i u
    obtain ⟨as, rd, hn⟩ := Dv.reads I hd r1
    cases hd with
    | non => cases rd; exact PySem.P.repr_of_none ⟨.str _, H, I.tok _, ⟨_, rfl⟩, q⟩
    | bl b => cases rd; exact PySem.P.repr_of_bool ⟨.str _, H, I.tok _, ⟨_, rfl⟩, q⟩
    | int i =>
      cases rd
      exact PySem.P.repr_of_int (by simpa [PyData.showable] using hsh) ⟨.str _, H, I.tok _, ⟨_, rfl⟩, q⟩
    | str z =>
      cases rd
      exact PySem.P.repr_of_str ⟨.str _, H, I.tok _, ⟨_, rfl⟩, q⟩ hln
    | dct a1 =>
      cases r1
      exact repr_of_reads' rd hsh (fun _ => hn) hg (by omega) (fun _ _ e => e) (fun h' u tk hk => ⟨.str _, H, I.kept hk, ⟨_, rfl⟩, q⟩) hln
    | tup a1 a2 =>
      cases r1
      exact repr_of_reads' rd hsh (fun _ => hn) hg (by omega) (fun _ _ e => e) (fun h' u tk hk => ⟨.str _, H, I.kept hk, ⟨_, rfl⟩, q⟩) hln
theorem cd_reprX (hg : X.A.guards = some []) (hu : X.A.units + 65 < cLine) : CallD X (.builtin "repr") gReprX := cd1 ((cr_repr hg hu).or (cr_reprX hg hu)) (fun _ _ _ => rfl) fun x μ H v Q S R q => by
  rcases q with ⟨d, h1, h2, h3, h4, q⟩ | ⟨d, h1, h2, h3, h4, q⟩
  · exact .inl ⟨v, d, rfl, h1.dp S R, h2, h3, h4, q _ _ (Fr.refl μ H) S rfl⟩
  · exact .inr ⟨v, d, rfl, h1.dv S R, h2, h3, h4, q _ _ (Fr.refl μ H) S rfl⟩
end
end Sq

/-! t[::-1], str, upper. -/
namespace Sq
open PySem PySem.Spec PyProof.Rows L2
section
variable {prog : Program} {w : World} {A : Around} {E : Value → Shared → Prop} {s : Shared}
theorem back_adjust (n : Nat) : Builtin.Slice.sliceAdjust none none (-1) (n : Int) = ((n : Int) - 1, -1) := by
  unfold Builtin.Slice.sliceAdjust
  have h : ((-1 : Int) < 0) := by decide
  simp only [h, if_true]
theorem back_places (n : Nat) : Builtin.Slice.slicePlaces ((n : Int) - 1) (-1) (-1) = n := by
  unfold Builtin.Slice.slicePlaces
  have h : ¬ ((-1 : Int) > 0) := by decide
  have e : (-(-1 : Int)) = 1 := by decide
  simp only [h, if_false, e, Int.ediv_one]
  split <;> omega
theorem back_applied {sl : Addr} {t : Tok} {n : Nat} {Q : Int × Int × Nat → Shared → Prop} (hs : s.heap.IsSliceOf sl .none .none (.int (-1) t)) (h : Q ((n : Int) - 1, -1, n) s) :
    wpAny (model prog w) A (Builtin.Slice.sliceApplied (.ref sl) (pure (n : Int))) Q E s := by
  obtain ⟨os, hos, hcs, hds⟩ := id hs
  unfold Builtin.Slice.sliceApplied Builtin.Slice.sliceFields
  refine wpAny_bind (wpAny_bind (wpAny_field hos hds (x := .none) rfl (wpAny_bind (wpAny_field hos hds (x := .none) rfl (wpAny_bind (wpAny_field hos hds (x := .int (-1) t) rfl (wpAny_pure ?_)))))))
  refine wpAny_bind (HT.slicePart_ (.int (-1) t) ?_)
  show wpAny _ _ (if ((-1 : Int) == 0) = true then _ else _) _ _ s
  rw [if_neg (by decide)]
  refine wpAny_bind (HT.slicePart_ .none (wpAny_bind (HT.slicePart_ .none (wpAny_bind (wpAny_pure ?_)))))
  show wpAny _ _ (match Builtin.Slice.sliceAdjust none none (-1) (n : Int) with | (lo, hi) => pure (lo, (-1 : Int), Builtin.Slice.slicePlaces lo hi (-1))) _ _ s
  rw [back_adjust n]
  show wpAny _ _ (pure ((n : Int) - 1, (-1 : Int), Builtin.Slice.slicePlaces ((n : Int) - 1) (-1) (-1))) _ _ s
  rw [back_places]
  exact wpAny_pure h
theorem filterMap_same {α β : Type} {f g : α → Option β} : ∀ {l : List α}, (∀ x ∈ l, f x = g x) → l.filterMap f = l.filterMap g
  | [], _ => rfl
  | x :: l, h => by
    rw [List.filterMap_cons, List.filterMap_cons, h x List.mem_cons_self, filterMap_same fun y hy => h y (List.mem_cons_of_mem _ hy)]
theorem back_pick (xs : Array Value) : ((List.range xs.size).filterMap fun (m : Nat) => xs[((xs.size : Int) - 1 + (m : Int) * (-1)).toNat]?).toArray = xs.toList.reverse.toArray := by
  congr 1
  apply List.ext_getElem?
  intro i
  have e : (List.range xs.size).filterMap (fun (m : Nat) => xs[((xs.size : Int) - 1 + (m : Int) * (-1)).toNat]?) = (List.range xs.size).map (fun m => xs.toList.getD (xs.size - 1 - m) .none) := by
    rw [← List.filterMap_eq_map]
    refine filterMap_same fun m hm => ?_
    have hm := List.mem_range.mp hm
    have e1 : ((xs.size : Int) - 1 + (m : Int) * (-1)).toNat = xs.size - 1 - m := by omega
    rw [e1]
    have h2 : xs.size - 1 - m < xs.size := by omega
    simp [List.getD, h2]
  rw [e]
  by_cases hi : i < xs.size
  · rw [List.getElem?_reverse (by simpa using hi)]
    simp only [List.getElem?_map, List.getElem?_range hi, Option.map_some, Array.length_toList]
    have h2 : xs.size - 1 - i < xs.size := by omega
    simp [List.getD, h2]
  · rw [List.getElem?_eq_none (by simpa using hi), List.getElem?_eq_none (by simpa using hi)]
theorem getItem_back {t sl : Addr} {items : Array Value} {tk : Tok} {Q : Value → Shared → Prop} (ht : IsTup s.heap t items) (hs : s.heap.IsSliceOf sl .none .none (.int (-1) tk))
    (h : Q (.ref s.heap.objs.size) { s with heap := s.heap.push { cls := .type "tuple", data := .seq items.toList.reverse.toArray } }) (hsz : items.size ≤ sizeLine) : wpAny (model prog w) A (getItem (.ref t) (.ref sl)) Q E s := by
  have htake : sizeOk (.seq items.toList.reverse.toArray) := by
    show items.toList.reverse.toArray.size ≤ sizeLine
    rw [List.size_toArray, List.length_reverse, Array.length_toList]
    exact hsz
  obtain ⟨os, hos, hcs, hds⟩ := id hs
  have hTs : s.TypeIs (.ref sl) "slice" := ⟨os, hos, hcs⟩
  unfold getItem
  try with_reducible refine wpAny_holding ?_
  first | refine wpAny_bind (wpAny_pure ?_) | skip
  refine wpAny_bind (wpAny_sequenceKey ht.typeIs (by decide) ?_)
  refine wpAny_bind (wpAny_callSpecial?_slot (name := Str.ofString "__getitem__") ht.typeIs PyProof.Rows.slot_tuple_getitem
    (wpAny_call_entry PyProof.Rows.slot_tuple_getitem ht.typeIs entry_tuple_getitem ?_ (args_tuple_getitem _ _)))
  show wpAny _ _ (Builtin.Tuple.tupleItemsOf (.ref t) >>= _) _ _ s
  refine wpAny_bind (tupleItemsOf_ ht ?_)
  refine wpAny_bind (wpAny_typeOf hTs ?_)
  rw [if_pos (by decide)]
  refine wpAny_bind (back_applied (n := items.size) hs ?_)
  have hno : ¬ ((((items.size : Int) - 1) == 0 && (-1 : Int) == 1 && items.size == items.size) = true) := by
    intro q
    rw [Bool.and_eq_true, Bool.and_eq_true] at q
    exact absurd (eq_of_beq q.1.2) (by decide)
  show wpAny _ _ (if ((((items.size : Int) - 1) == 0 && (-1 : Int) == 1 && items.size == items.size) = true) then _ else _) _ _ s
  rw [if_neg hno, back_pick]
  first
    | exact wpAny_bind (m := Builtin.Tuple.tupleExact _) (wpAny_newObj_type (wpAny_pure ⟨_, rfl, wpAny_pure h⟩) htake)
    | exact wpAny_bind (m := Builtin.Tuple.tupleExact _) (wpAny_newObj_type (wpAny_bind (wpAny_pure (wpAny_pure ⟨_, rfl, wpAny_pure h⟩))) htake)
    | exact wpAny_bind (wpAny_bind (m := Builtin.Tuple.tupleExact _) (wpAny_newObj_type (wpAny_pure (wpAny_pure ⟨_, rfl, wpAny_pure h⟩)) htake))
    | exact wpAny_bind (wpAny_bind (m := Builtin.Tuple.tupleExact _) (wpAny_newObj_type (wpAny_pure ⟨_, rfl, wpAny_pure h⟩) htake))
end
section
variable {X : Cx} {Wx : WX}
theorem pe_back {e : Expr} {te : TE} {k : Nat} {p1 p2 p3 pos : Pos} (he : PE X e te) : PE X (.Subscript e (.Slice none none (some (.UnaryOp .USub (.Constant (.int 1) k p1) p2)) p3) pos)
    (fun σ H Q => te σ H fun x H1 => ∃ a xs, x = .ref a ∧ SqT X.K H1 a xs ∧ ∀ p, H1 p = none → Q (.ref p) (upd H1 p (.tup xs.reverse))) := by
  refine ⟨fun pins s σ H Q I h => ?_⟩
  refine Subscript_ (thn (he.run pins s σ H _ I h) fun v s1 ⟨x, H1, I1, r1, q1⟩ => ?_)
  obtain ⟨a, xs, ex, hx, q⟩ := q1
  subst ex
  cases r1
  have hst : PO X (some (.UnaryOp .USub (.Constant (.int 1) k p1) p2)) (tPart (tUn (rU fun i => .int (-i)) (tC (.int 1)))) := po_some (pe_un un_neg pe_int)
  refine wpAny_Slice (thn (po_none.run pins s1 σ H1 (fun o H2 => o = none ∧ H2 = H1) I1 ⟨rfl, rfl⟩) fun vl s2 ⟨l, H2, I2, pl, el, e2⟩ => ?_)
  subst el e2
  refine thn (po_none.run pins s2 σ H2 (fun o H3 => o = none ∧ H3 = H2) I2 ⟨rfl, rfl⟩) fun vu s3 ⟨u, H3, I3, pu, eu, e3⟩ => ?_
  subst eu e3
  refine thn (hst.run pins s3 σ H3 (fun o H4 => o = some (-1) ∧ H4 = H3) I3 ⟨1, rfl, -1, rfl, rfl, rfl⟩) fun vs s4 ⟨o, H4, I4, ps, eo, e4⟩ => ?_
  subst eo e4
  cases pl
  cases pu
  cases ps with
  | int i tk =>
    have I5 : Inv X pins σ H4 { s4 with heap := s4.heap.push { cls := .type "slice", data := .fields #[.none, .none, .int (-1) tk] } } := I4.kept (t' := s4.toks) fun b ob q => Heap.get?_push_of_some _ q
    obtain ⟨its, r, ht, hz⟩ := I5.tuple hx
    have hlen := r.length
    show wpAny (model X.prog X.w) X.A (subscriptTail e (.Slice none none (some (.UnaryOp .USub (.Constant (.int 1) k p1) p2)) p3) (.ref a) (.ref s4.heap.objs.size)) (EP X pins σ Q) X.xe { s4 with heap := s4.heap.push { cls := .type "slice", data := .fields #[.none, .none, .int (-1) tk] } }
    refine tail_any (ops := [.ref a, .ref s4.heap.objs.size]) ht.typeIs PyProof.Rows.slot_tuple_getitem.lookup ?_ (by with_unfolding_all rfl)
    refine getItem_back ht (Heap.IsSliceOf.new _ .none .none (.int (-1) tk)) ?_ (by rw [List.size_toArray]; omega)
    refine ⟨.ref _, _, I5.laid (t' := s4.toks) (o := .tup xs.reverse) (fun b ob q => Heap.get?_push_of_some _ q) (Nat.le_refl _) ?_, rfl, q _ (I5.hok.fresh (Nat.le_refl _))⟩
    exact ⟨by rw [List.length_reverse]; exact hz, _, r.reverse, IsTup.new _ _⟩
theorem Rps.rev {K : PySem.W.Frag} {H : Hp} : ∀ {ds : List D} {vs : List V}, Rps K H ds vs → Rps K H ds.reverse vs.reverse
  | [], _, h => by unfold Rps at h; subst h; exact rfl
  | d :: ds, _, h => by
    unfold Rps at h
    obtain ⟨w, ws, rfl, a, b⟩ := h
    rw [List.reverse_cons, List.reverse_cons]
    exact (Rps.rev b).append (by unfold Rps; exact ⟨_, _, rfl, a, rfl⟩)
/-- t[::-1] -/
def wBack (a : WE) : WE := ⟨fun ρ μ Q X => a.run ρ μ (fun d μ1 => ∃ ds, d = .tup ds ∧ Q (.tup ds.reverse) μ1) X, fun hQ hX h => a.mono (fun _ _ ⟨ds, e, q⟩ => ⟨ds, e, hQ _ _ q⟩) hX h⟩
theorem wBack_run {a : WE} {ρ : Ev} {μ : Mu} {Q : PQ} {X : XQ} : (wBack a).run ρ μ Q X = a.run ρ μ (fun d μ1 => ∃ ds, d = .tup ds ∧ Q (.tup ds.reverse) μ1) X := rfl
theorem le_back {e : Expr} {w : WE} {k : Nat} {p1 p2 p3 pos : Pos} (he : LE X Wx e w) : LE X Wx (.Subscript e (.Slice none none (some (.UnaryOp .USub (.Constant (.int 1) k p1) p2)) p3) pos) (wBack w) :=
  PE.weak (pe_back he) fun σ H Q ⟨ρ, μ, E, S, h⟩ => by
    refine lW.bind E S h (fun d μ1 v H1 F1 S1 E1 r1 h1 => ?_) fun _ _ _ h => h
    obtain ⟨ds, rfl, q⟩ := h1
    obtain ⟨p, vs, rfl, t, r⟩ := rp_tup r1
    exact ⟨p, vs, rfl, t, out_tup S1 r.rev (q.trans F1)⟩
/-- str -/
def fStr (x : D) (μ : Mu) (Q : PQ) : Prop := match x with
  | .int i => i.natAbs.log2 < 1920 ∧ Q (.str (Str.ofString (toString i))) μ
  | .str s => Q (.str s) μ
  | _ => False
theorem fStr_int {i : Int} {μ : Mu} {Q : PQ} : fStr (.int i) μ Q = (i.natAbs.log2 < 1920 ∧ Q (.str (Str.ofString (toString i))) μ) := rfl
theorem fStr_str {s : Str} {μ : Mu} {Q : PQ} : fStr (.str s) μ Q = Q (.str s) μ := rfl
def gStr : GN := g1 fStr fun {x μ Q Q'} hQ h => by
  cases x <;> first | exact ⟨h.1, hQ _ _ h.2⟩ | exact hQ _ _ h | exact h
theorem gStr_run {x : D} {μ : Mu} {Q : PQ} : gStr.run [x] μ Q = fStr x μ Q := rfl
theorem cd_str : CallD X (.type "str") gStr := cd1 (call_str_int.or SkE.call_str_str) (fun _ _ _ => rfl) fun x μ H v Q S R q => by
  cases x <;> first
    | exact q.elim
    | (rw [rp_int R]; exact .inl ⟨_, rfl, q.1, q.2 _ _ (Fr.refl μ H) S rfl⟩)
    | (rw [rp_str R]; exact .inr ⟨_, rfl, (show Out (Rp X.K) X.K μ H Q _ μ from q) _ _ (Fr.refl μ H) S rfl⟩)
/-- .upper() -/
def wUpper (a : WE) : WE := ⟨fun ρ μ Q X => a.run ρ μ (fun d μ1 => ∃ s, d = .str s ∧ s.length ≤ 5592405 ∧ Q (.str (Txt.upper s)) μ1) X, fun hQ hX h => a.mono (fun _ _ ⟨s, e, h, q⟩ => ⟨s, e, h, hQ _ _ q⟩) hX h⟩
theorem wUpper_run {a : WE} {ρ : Ev} {μ : Mu} {Q : PQ} {X : XQ} : (wUpper a).run ρ μ Q X = a.run ρ μ (fun d μ1 => ∃ s, d = .str s ∧ s.length ≤ 5592405 ∧ Q (.str (Txt.upper s)) μ1) X := rfl
theorem le_upper {o : Expr} {w : WE} {apos pos : Pos} (ho : LE X Wx o w) (hbase : attributeBase o "upper" X.env (eval o X.env) = eval o X.env := by rfl) (hline : (apos.endLine == pos.line) = true := by rfl) :
    LE X Wx (.Call (.Attribute o "upper" apos) [] [] pos) (wUpper w) := PE.weak (pe_upper ho hbase hline) fun σ H Q ⟨ρ, μ, E, S, h⟩ => by
  refine lW.bind E S h (fun d μ1 v H1 F1 S1 E1 r1 h1 => ?_) fun _ _ _ h => h
  obtain ⟨s, rfl, hl, q⟩ := h1
  rw [rp_str r1]
  exact ⟨⟨s, rfl⟩, s, rfl, rfl, hl, q _ _ F1 S1 rfl⟩
end
end Sq

/-! The law's end with tables of code objects; defs that make lambdas. -/
namespace Sq
open PySem PySem.Spec PyProof.Rows L2
/-- the tables alone -/
def muT (cs : List (Addr × Addr)) (qs : Addr → Str) : Mu := fun b => if b ∈ cs.map (·.2) then some (.tab (qs b)) else none
theorem muT_at {cs : List (Addr × Addr)} {qs : Addr → Str} {p : Addr × Addr} (h : p ∈ cs) : muT cs qs p.2 = some (.tab (qs p.2)) := if_pos (List.mem_map.mpr ⟨p, h, rfl⟩)
theorem law_goT {P : Program} {w : World} {K : PySem.W.Frag} {mg mb : Str → Option Value} {k : Nat} {fa a : Addr} {cs : List (Addr × Addr)} {qs : Addr → Str} {fd : FuncData} {x : Str} {S : SpD} {t : Shared} {vs : List Value} {ns : List Int}
    (hK : K.In t.heap) (hG : t.heap.Ns mainGlobals mg) (hB : t.heap.Ns builtinsNs mb) (hBB : ∀ z : Str, z ≠ "__name__" → mb z = bootBuiltins z) (hL : t.heap.NoLimit) (hgen : t.gens = #[])
    (hT : ∀ p ∈ cs, t.heap.get? p.2 = some { cls := .none, data := .fields #[] }) (nT : ∀ p ∈ cs, K.lookup p.2 = none) (C : ∀ p ∈ cs, PySem.W.CodeHd t.heap p.1 p.2)
    (hbm : ∃ (bm : Addr) (ob : Obj), mg "__builtins__" = some (.ref bm) ∧ bm ≠ builtinsNs ∧ t.heap.get? bm = some ob ∧ ob.cls = .type "module" ∧ ob.dict = some builtinsNs ∧ ob.data = .plain)
    (hobj : t.heap.get? a = some { cls := .type "list", data := .seq vs.toArray }) (hints : IntsAre vs ns) (hz : ns.length ≤ sizeLine) (hroom : Room k callerA)
    (F : ∀ base : Heap, K.In base → base.Ns mainGlobals mg → (∀ p ∈ cs, LamX.TabB base mg p.1 p.2) → RunOk P w K mg base k fa fd [x] (spOf K 1 S)) (hbd : ∀ (s : Shared) (u : Value), BindsTo s fd ⟨[u], []⟩ [(x, u)])
    (hS : S.run [.rls (ns.map D.int)] (muT cs qs) (fun d _ => d = .bl true) XF) :
    codeAny (model P w) callerA (.call (.ref fa) ⟨[.ref a], []⟩) (fun r s' => r = .ok (.ret (.bool true)) ∧ OldK t.heap s'.heap ∧ s'.os = t.os ∧ AllBare s'.gens) t := by
  have hV := L2.vals_ints hints
  have hlen := hints.length
  have isT : ∀ b : Addr, b ∈ cs.map (·.2) → t.heap.get? b = some { cls := .none, data := .fields #[] } := fun b hb => by
    obtain ⟨p, hp, e⟩ := List.mem_map.mp hb
    rw [← e]
    exact hT p hp
  have aT : a ∉ cs.map (·.2) := fun z => by
    have q := isT a z
    rw [hobj] at q
    have z' : Data.seq vs.toArray _ = Data.fields #[] := congrArg Obj.data (Option.some.inj q)
    cases z'
  have memT : ∀ p ∈ cs, p.2 ∈ cs.map (·.2) := fun p hp => List.mem_map.mpr ⟨p, hp, rfl⟩
  suffices go : ∀ H : Hp, (∀ b, b ∈ cs.map (·.2) → H b = some (.tbl #[])) → (∀ b, H b = none ∨ b ∈ cs.map (·.2) ∨ (b = a ∧ K.lookup a = none ∧ ∃ o xs, H b = some (.frz o (.lst xs)))) → SqR K H a (ns.map V.int) → HOk P w H t.heap →
      codeAny (model P w) callerA (.call (.ref fa) ⟨[.ref a], []⟩) (fun r s' => r = .ok (.ret (.bool true)) ∧ OldK t.heap s'.heap ∧ s'.os = t.os ∧ AllBare s'.gens) t by
    cases e : K.lookup a with
    | some o =>
      have e' := hK a o e
      rw [hobj] at e'; cases e'
      refine go (fun b => if b ∈ cs.map (·.2) then some (.tbl #[]) else none) (fun b hb => if_pos hb) (fun b => ?_) (.inr ⟨_, vs.toArray, _, e, rfl, rfl, rfl, by rw [List.size_toArray, hlen]; exact hz, by simpa using hV⟩) fun b u z => ?_
      · by_cases hb : b ∈ cs.map (·.2)
        · exact .inr (.inl hb)
        · exact .inl (if_neg hb)
      · by_cases hb : b ∈ cs.map (·.2)
        · have z' := (if_pos hb).symm.trans z
          cases z'
          exact isT b hb
        · exact nomatch (if_neg hb).symm.trans z
    | none =>
      refine go (fun b => if b = a then some (.frz { cls := .type "list", data := .seq vs.toArray } (.lst (ns.map V.int))) else if b ∈ cs.map (·.2) then some (.tbl #[]) else none)
        (fun b hb => (if_neg (show ¬ b = a from fun z => aT (by rw [← z]; exact hb))).trans (if_pos hb)) (fun b => ?_) (.inl ⟨_, if_pos rfl⟩) fun b u z => ?_
      · by_cases q : b = a
        · exact .inr (.inr ⟨q, e, _, _, if_pos q⟩)
        · by_cases hb : b ∈ cs.map (·.2)
          · exact .inr (.inl hb)
          · exact .inl ((if_neg q).trans (if_neg hb))
      · by_cases q : b = a
        · have z2 := (if_pos q).symm.trans z
          cases z2
          subst q
          exact ⟨hobj, by rw [List.length_map]; exact hz, vs, _, hV, hobj⟩
        · have z1 := (if_neg q).symm.trans z
          by_cases hb : b ∈ cs.map (·.2)
          · have z' := (if_pos hb).symm.trans z1
            cases z'
            exact isT b hb
          · exact nomatch (if_neg hb).symm.trans z1
  intro H tab one seq hok
  have free : ∀ {b : Addr} {o : Obj}, t.heap.get? b = some o → (b = a → K.lookup a = none → False) → b ∉ cs.map (·.2) → (hidT t.heap H).get? b = some o := fun {b o} e n nt => hidT_get e (by
    rcases one b with z | z | ⟨z1, z2, _⟩
    · exact z
    · exact absurd z nt
    · exact (n z1 z2).elim)
  have notT : ∀ {b : Addr} {o : Obj}, t.heap.get? b = some o → o ≠ { cls := .none, data := .fields #[] } → b ∉ cs.map (·.2) := fun {b o} e h hb => by
    rw [isT b hb] at e
    exact h (Option.some.inj e).symm
  have inB : K.In (hidT t.heap H) := fun b o e => free (hK b o e) (fun z1 z2 => by
    subst z1
    rw [e] at z2; cases z2) fun hb => by
      obtain ⟨p, hp, ep⟩ := List.mem_map.mp hb
      rw [← ep, nT p hp] at e
      cases e
  have nsB : ∀ {b : Addr} {m : Str → Option Value}, t.heap.Ns b m → (hidT t.heap H).Ns b m := fun {b m} ⟨o, es, ep, e, d, r⟩ => ⟨o, es, ep, free e (fun z1 _ => by
    subst z1
    rw [hobj] at e; cases e
    have d2 : Data.seq vs.toArray _ = Data.dict es ep := d
    cases d2) (notT e fun z => by rw [z] at d; cases d), d, r⟩
  have md : Mod K mg (hidT t.heap H) := ⟨inB, nsB hG, ⟨mb, nsB hB, hBB⟩, by
    obtain ⟨mc, c1, c2⟩ := hL
    exact ⟨mc, nsB c1, c2⟩⟩
  have TB : ∀ p ∈ cs, LamX.TabB (hidT t.heap H) mg p.1 p.2 := fun p hp => by
    have hTp := hT p hp
    refine ⟨?_, ?_, fun z => ?_⟩
    · obtain ⟨o, us, file, tf, flags, tg, inF, text, tt, e1, r1, r2, r3, r4, r5, r6, r7, r8, hne⟩ := C p hp
      refine ⟨o, us, file, tf, flags, tg, inF, text, tt, free e1 (fun z1 _ => ?_) (notT e1 fun z => ?_), r1, r2, r3, r4, r5, r6, r7, r8, hne⟩
      · rw [z1, hobj] at e1
        cases e1
        cases r2
      · rw [z] at r1
        cases r1
    · obtain ⟨bm, ob, b1, b2, b3, b4, b5, b6⟩ := hbm
      have nG : bm ≠ mainGlobals := fun q => by
        obtain ⟨o, es, ep, e, hd, _⟩ := hG
        rw [q, e] at b3
        cases b3
        rw [hd] at b6
        cases b6
      have nP : bm ≠ p.2 := fun q => by
        rw [q, hTp] at b3
        cases b3
        cases b6
      refine ⟨bm, ob, b1, b2, nG, nP, free b3 (fun z1 _ => ?_) (notT b3 fun z => ?_), b4, b5, b6⟩
      · rw [z1, hobj] at b3
        cases b3
        cases b6
      · rw [z] at b6
        cases b6
    · obtain ⟨o, es, ep, e, hd, _⟩ := hG
      rw [z, hTp] at e
      cases e
      cases hd
  have en : Env0 P w K mg (hidT t.heap H) callerA [] t H := ⟨rfl, md, fun b o e => of_hidT e, Nat.le_of_eq (hidT_size _ _), trivial, fun b hb => absurd (show b ∈ ([] : List Addr) from hb) (by simp), hok, .of_eq hgen⟩
  have S0 : Sim K (muT cs qs) H := ⟨fun b o e => by
    unfold muT at e
    split at e
    · rename_i hb
      cases e
      exact ⟨#[], tab b hb, trivial, fun pos cv z => by simp [codeAmong] at z⟩
    · cases e⟩
  have R0 : Rps K H [.rls (ns.map D.int)] [.ref a] := by
    unfold Rps
    refine ⟨_, _, rfl, ?_, rfl⟩
    unfold Rp
    exact ⟨a, _, rfl, seq, Rps.of_ints ns⟩
  have sp0 : spOf K 1 S [.ref a] H (fun v _ => v = .bl true) (fun _ _ _ => False) := ⟨rfl, _, _, R0, S0, S.mono (fun d μ' q v H' _ _ r => by
    subst q
    exact r) (fun _ _ _ q => q.elim) hS⟩
  refine codeAny_mono (F _ inB (nsB hG) TB callerA [] t H ⟨[.ref a], []⟩ [.ref a] [.ref a] _ _ rfl hroom en (hbd t (.ref a)) (.cons rfl .nil) sp0) fun r s' h => ?_
  match r, h with
  | .error e, ⟨_, _, _, _, _, _, _, _, _, _, _, _, z⟩ => exact z.elim
  | .ok .next, h => exact False.elim h
  | .ok .brk, h => exact False.elim h
  | .ok .cont, h => exact False.elim h
  | .ok (.ret u), ⟨v, H', e1, e2, un, ok2, rv, q⟩ =>
    have q2 : v = .bl true := q
    subst q2
    obtain rfl : u = Value.bool true := rv
    have key : ∀ b o, b ∉ cs.map (·.2) → t.heap.get? b = some o → s'.heap.get? b = some o := fun b o nb e => by
      rcases one b with z | z | ⟨_, _, ob, xs, z⟩
      · exact un.keep b o e z (fun y => absurd (show b ∈ ([] : List Addr) from y) (by simp)) (by simp)
      · exact absurd z nb
      · obtain ⟨a1, _⟩ := hok b _ z
        obtain ⟨a2, _⟩ := ok2 b _ (un.frzs b ob _ z)
        rw [e] at a1; cases a1
        exact a2
    have grown : ∀ p ∈ cs, ∃ more : Array Value, s'.heap.get? p.2 = some { cls := .none, data := .fields more } := fun p hp => by
      obtain ⟨more, z⟩ := un.tbls p.2 #[] (tab p.2 (memT p hp))
      exact ⟨_, ok2 p.2 _ z⟩
    refine ⟨rfl, ⟨fun b o e => ?_, fun b o e => ?_⟩, e1, e2⟩
    · by_cases hb : b ∈ cs.map (·.2)
      · obtain ⟨p, hp, ep⟩ := List.mem_map.mp hb
        obtain ⟨more, hm⟩ := grown p hp
        rw [← ep] at e ⊢
        rw [hT p hp] at e
        cases e
        exact .inr (.inl ⟨((C p hp).tab (hT p hp)).isCodeTable, rfl, #[], more, rfl, by rw [Array.empty_append]; exact hm⟩)
      · exact .inl (key b o hb e)
    · by_cases hb : b ∈ cs.map (·.2)
      · obtain ⟨p, hp, ep⟩ := List.mem_map.mp hb
        obtain ⟨more, hm⟩ := grown p hp
        rw [← ep]
        exact ⟨_, hm⟩
      · exact ⟨o, key b o hb e⟩
/-- the row's walk, from the promise of the law's def; ts: the tables of the defs that make lambdas -/
theorem law_walkT {l : PySem.W.OpenLaw} {q : Program} {loose : List Str} {XP : (Str → Option Value) → Heap → Prop} {YP : World → Heap → Prop} {d : DefRec} {K : Params → PySem.W.Frag} {x : Str} {ts : List Addr} (k : Nat)
    (hn : l.most = some 63) (hdf : d.params.defaults = []) (hk : k ≤ 90)
    (hY : ∀ (w : World) (h : Heap), YP w h → (K w.params).In h) (hT : ∀ (w : World) (h : Heap), YP w h → ∀ P ∈ ts, h.get? P = some (PySem.W.tabObj #[]))
    (F : ∀ (w : World) (mg : Str → Option Value) (fa : Addr) (h : Heap), (K w.params).In h → h.Ns mainGlobals mg → mg d.name = some (.ref fa) →
      ∃ (fd : FuncData) (cs : List (Addr × Addr)) (qs : Addr → Str) (S : SpD), (∀ p ∈ cs, p.2 ∈ ts ∧ (K w.params).lookup p.2 = none ∧ PySem.W.codeHdIn (K w.params) p.1 p.2 = true) ∧ (∀ (s : Shared) (u : Value), BindsTo s fd ⟨[u], []⟩ [(x, u)]) ∧
        (∀ ns : List Int, ns.length ≤ 63 → (∀ z ∈ ns, Builtin.Int.intBits z ≤ 1048576) → S.run [.rls (ns.map D.int)] (muT cs qs) (fun d _ => d = .bl true) XF) ∧
        ∀ base : Heap, (K w.params).In base → base.Ns mainGlobals mg → (∀ p ∈ cs, LamX.TabB base mg p.1 p.2) → RunOk l.prog w (K w.params) mg base k fa fd [x] (spOf (K w.params) 1 S)) :
    PySem.W.WalkO q loose XP YP l.row.toRowW d [] (fun f vs => PySem.call f vs) := by
  refine Att.attach_callB hn hdf fun w s₀ s₁ mg mb fa o pm cd doc a vs ns G Y ho hd hcd hmg hobj hints hlen hbits hg => ?_
  have KX := hY w _ Y
  obtain ⟨fd, cs, qs, S, hcs, hb, hS, hF⟩ := F w mg fa _ KX G.T.g hmg
  refine law_goT KX G.T.g G.T.b G.T.builtins G.T.nolimit hg (fun p hp => hT w _ Y p.2 (hcs p hp).1) (fun p hp => (hcs p hp).2.1) (fun p hp => PySem.W.codeHd_of_K KX (hcs p hp).2.2) G.T.bmain hobj hints (Nat.le_trans hlen (by rw [sizeLine_eq]; decide)) ?_ hF hb (hS ns hlen hbits)
  exact L2.Room.mono (k := 90) ⟨rfl, by decide, by decide⟩ hk
/-- a def that makes lambdas: its body's walk and reading, cl being its frame's cells -/
theorem fn_okL {P : Program} {w : World} {K : PySem.W.Frag} {mg : Str → Option Value} {base : Heap} {x : Str} {st : Stmt} {f c : Addr} {fd : FuncData} {N ps : List Str} {ms : List Nat} {k : Nat} {Sd : SpD} (F : Fun K x x st f fd) (hcode : fd.code = .ref c) (S : FnScope N ps (defScope st)) (hm : mg x = some (.ref f)) (hb : Binds K fd ps []) (hkb : ∀ n ∈ ms, KB K fd ps n) (wb : List (Str × Addr) → WS)
    (hder : ∀ (A : Around) (outer : List Env) (s : Shared) (H : Hp) (E : XK), A.guards = some [] → Room k (A.deeper (envOfC x (defScope st) s.heap.objs.size f (.ref c))) → LSs (cxOf (L2.CX P w) P w K mg base N x (defScope st) f (.ref c) A outer s H E) (wxE E) (defBody st) (wb (envOfC x (defScope st) s.heap.objs.size f (.ref c)).cells))
    (hread : ∀ (cl : List (Str × Addr)) (ds : List D) (μ : Mu) (Q : PQ) (X : XQ), ds.length = ps.length → Sd.run ds μ Q X → (wb cl).run (bodyD Q X) (ev0 N.length ds) μ) : FnD P w K mg base (k + 1) x ps ms Sd := by
  obtain ⟨oc, od, kV, doc, pm, an, cdv, ct, osl, efd, lk, hcd⟩ := F.ex
  refine ⟨f, fd, fun A outer s H args us vs Q E hg hr e0 hbd r hsp => ?_, hm, F.kp, hb, hkb⟩
  subst efd
  obtain rfl : cdv = .ref c := hcode
  refine LamX.run_ofS (N := N) lk hcd S hr e0 hbd r hsp.1 fun hr' => ⟨_, hder A outer s H E hg hr', ?_⟩
  obtain ⟨hl, ds, μ, R, Sm, q⟩ := hsp
  have hd : ds.length = ps.length := by rw [← R.length]; exact hl
  refine ⟨ev0 N.length ds, μ, ?_, Sm, (wb _).mono (D := bodyD (Out (Rp K) K μ H Q) (OutE K μ H E)) ⟨?_, fun d μ' h => SubQ.out h, fun _ _ z => z.elim, fun _ _ z => z.elim, ?_⟩ (hread _ ds μ _ _ hd q)⟩
  · unfold ev0 L2.start
    rw [R.length]
    exact EnvR.start R
  · exact fun ρ μ' h σ' H' F' S' E' => SubQ.out h .non H' F' S' rfl
  · rintro ρ C d μ' ⟨μ'', s, q⟩ σ' dx v H' F' S' E' e r
    exact q dx v H' (sub_fr s F') (sub_sim s S') e r

/-! ### parts of a text -/
def noE : Expr := .Constant .none 0 ⟨0, 0, 0, 0⟩
def noS : Stmt := .Pass ⟨0, 0, 0, 0⟩
def stB : Stmt → List Stmt
  | .For _ _ b _ _ => b
  | .While _ b _ _ => b
  | .If _ b _ _ => b
  | _ => []
def stO : Stmt → List Stmt
  | .If _ _ b _ => b
  | _ => []
def stV : Stmt → Expr
  | .Assign _ v _ => v
  | .Expr v _ => v
  | .Return (some v) _ => v
  | .If t _ _ _ => t
  | _ => noE
def exA : Expr → List Expr
  | .Call _ as _ _ => as
  | .List es _ => es
  | .Tuple es _ _ => es
  | .BoolOp _ es _ => es
  | .Compare _ _ es _ => es
  | _ => []
def ex1 : Expr → Expr
  | .Subscript e _ _ => e
  | .Attribute e _ _ => e
  | .UnaryOp _ e _ => e
  | .BinOp e _ _ _ => e
  | .Compare e _ _ _ => e
  | .IfExp _ e _ _ => e
  | _ => noE
def ex2 : Expr → Expr
  | .BinOp _ _ e _ => e
  | .IfExp _ _ e _ => e
  | _ => noE
def nthS (l : List Stmt) (n : Nat) : Stmt := l.getD n noS
def nthE (l : List Expr) (n : Nat) : Expr := l.getD n noE
def lamP : Expr → Arguments
  | .Lambda a _ _ _ => a
  | _ => default
def lamB : Expr → Expr
  | .Lambda _ b _ _ => b
  | _ => noE
def lamSc : Expr → Scope
  | .Lambda _ _ s _ => s
  | _ => default
end Sq

/-! The facts of the errors' classes, from the written part. -/
namespace Sq
open PySem PySem.Spec PyProof.Rows L2
def clB : Stmt → List Stmt
  | .ClassDef _ _ _ b _ _ _ _ _ _ _ => b
  | _ => []
/-- the class x, an error of the program's own: C its class, D the first of them, f the __init__ -/
structure ClsK (K : PySem.W.Frag) (x : Str) (C D f : Addr) (nm q : Str) (N : Addr) (bs bm : List Value) (sn : List Str) (sub : List Value) (ab : Bool) (col : Option Bool) (dd : Option Addr) (k0 k1 k2 k3 k5 : Option Value) : Prop where
  a : PySem.W.nsIn K mainGlobals x = some (some (.ref C))
  l : K.lookup C = some (excClassObj nm q C N bs bm true sn sub ab col dd k0 k1 k2 k3 k5 "ValueError.__new__")
  vb : PySem.HandSPX.refsVE bm = true
  sa : PySem.W.findIn K (.ref C) "__setattr__" = some (some (.builtin "object.__setattr__"))
  exC : PySem.W.subIn K (.ref C) (.type "BaseException") = some true
  tyC : PySem.W.typeIn K (.ref C) = some (.type "type")
  kC : PySem.W.keepIn K (.ref C) = true
  iC : PySem.W.findIn K (.ref C) "__init__" = some (some (.ref f))
  nV : PySem.W.findIn K (.ref C) "value" = some none
  sup : PySem.W.ks_superIn K C D "__init__" = some (some (.builtin "ValueError.__init__"))
  ve : PySem.W.subIn K (.ref C) (.type "ValueError") = some true
  mro : PySem.W.mroIn K C (.ref D) = some true
  hg : PySem.W.findIn K (.ref C) "__getattribute__" = some (some (.builtin "BaseException.__getattribute__"))
  hk : PySem.W.findIn K (.ref C) "__getattr__" = some none
  hd : PySem.W.hasDictIn K C = true
  ha : PySem.W.findIn K (.ref C) "__class__" = some (some (.builtin "object.__class__"))
  hm : PySem.W.mroIn K C (.type "object") = some true
  sD : PySem.W.subIn K (.ref C) (.ref D) = some true
  me : PySem.W.kitOne K (.ref C) (.ref C) = some true
/-- what holds of all of them -/
structure AllK (K : PySem.W.Frag) (D f : Addr) (cdD : ClassData) : Prop where
  tI : PySem.W.typeIn K (.ref f) = some (.type "function")
  opq : PySem.W.nsIn K cStatics "thirdparty.any" = some none
  isD : PySem.W.clsIn K D = some cdD
  hn : PySem.W.specialIn K (.builtin "object.__class__") "__get__" = some (some (.builtin "getset_descriptor.__get__"))
  ht : PySem.W.takesIn K (.builtin "object.__class__") = some true
/-- the def __init__ -/
structure InitK (K : PySem.W.Frag) (st : Stmt) (qual : Str) (D f cc cda : Addr) (oc kV doc pm ct : Value) (od an : Option Addr) (osl : Array (Option Value)) (cl : Value) (cld : Option Addr) (csl : Array (Option Value)) (ccl : Value) (cdd : Option Addr) (vs : Array Value) (ccs : Array (Option Value)) (file : Str) (tf : Tok) : Prop where
  l : K.lookup f = some ⟨oc, od, .func (PySem.W.ksFn "__init__" qual (defArgs st) (defBody st) (defScope st) .none kV doc pm an (.ref cda) ct cc), osl⟩
  cell : K.lookup cc = some ⟨cl, cld, .cell (some (.ref D)), csl⟩
  code : K.lookup cda = some ⟨ccl, cdd, .fields vs, ccs⟩
  fl : vs[2]? = some (.str file tf)
  hcd : PySem.W.codeIn K (.ref cda) qual = true
section
variable {P : Program} {w : World} {K : PySem.W.Frag} {mg : Str → Option Value} {base h : Heap} {x : Str} {C D f : Addr} {nm q : Str} {N : Addr} {bs bm : List Value} {sn : List Str} {sub : List Value} {ab : Bool} {col : Option Bool} {dd : Option Addr} {k0 k1 k2 k3 k5 : Option Value} {cdD : ClassData}
  {st : Stmt} {qual : Str} {cc cda : Addr} {oc kV doc pm ct : Value} {od an : Option Addr} {osl : Array (Option Value)} {cl : Value} {cld : Option Addr} {csl : Array (Option Value)} {ccl : Value} {cdd : Option Addr} {vs : Array Value} {ccs : Array (Option Value)} {file : Str} {tf : Tok}
theorem ClsK.exc (k : ClsK K x C D f nm q N bs bm sn sub ab col dd k0 k1 k2 k3 k5) (A : AllK K D f cdD) : L2.ExcC K C := ⟨k.hg, k.hk, k.exC, k.hd, k.ha, A.hn, A.ht, k.hm⟩
theorem ClsK.err (k : ClsK K x C D f nm q N bs bm sn sub ab col dd k0 k1 k2 k3 k5) (A : AllK K D f cdD) : ErrC P K mg C D f :=
  ⟨⟨⟨nm, q, N, bs, bm, sn, sub, ab, col, dd, k0, k1, k2, k3, k5, k.l, k.vb⟩, k.sa, k.exC, k.tyC, k.kC⟩, k.iC, A.tI, k.nV, k.sup, k.ve, A.opq, k.mro, ⟨cdD, A.isD⟩⟩
theorem ClsK.exm (k : ClsK K x C D f nm q N bs bm sn sub ab col dd k0 k1 k2 k3 k5) {S : Addr} {y : Str} {nm' q' : Str} {N' : Addr} {bs' bm' : List Value} {sn' : List Str} {sub' : List Value} {ab' : Bool} {col' : Option Bool} {dd' : Option Addr} {j0 j1 j2 j3 j5 : Option Value} (r : ClsK K y D D f nm' q' N' bs' bm' sn' sub' ab' col' dd' j0 j1 j2 j3 j5) :
    PySem.W.exmOne K (.ref C) (.ref D) = some true := PySem.W.exm_ref r.exC r.hd r.tyC k.sD
/-- the class may be raised -/
theorem errD_mk {p1 p2 p3 p4 p5 p6 p7 p8 p9 p10 : Pos} {ar : Arg} (X : K.In h) (G : h.Ns mainGlobals mg) (k : ClsK K x C D f nm q N bs bm sn sub ab col dd k0 k1 k2 k3 k5) (A : AllK K D f cdD) (I : InitK K st qual D f cc cda oc kV doc pm ct od an osl cl cld csl ccl cdd vs ccs file tf)
    (hs : PySem.W.nsIn K mainGlobals "super" = some none) (hb : defBody st = initBody p1 p2 p3 p4 p5 p6 p7 p8 p9 p10) (hfile : ((P.main.file : Str) == file) = true) (htop : (P.main.scope.names.lookup ("super" : Str)).isSome = false) (S : InitS (defScope st)) (hp : ((defArgs st).posonlyargs ++ (defArgs st).args).head? = some ar) (har : ar.arg = "self") (hl : (p3.endLine == p5.line) = true)
    (hbd : ∀ (dV kV doc pm cdv ct : Value) (an : Option Addr) (cc : Addr) (a b : Value), bindArgs (PySem.W.ksFn "__init__" qual (defArgs st) (initBody p1 p2 p3 p4 p5 p6 p7 p8 p9 p10) (defScope st) .none kV doc pm an cdv ct cc) ⟨[a, b], []⟩ = pure [(("self" : Str), a), (("value" : Str), b)]) : ErrD P w K mg base x C := by
  obtain ⟨l, cell, code, fl, hcd⟩ := I
  rw [hb] at l
  refine ⟨PySem.W.mg_of X G k.a, D, f, _, k.err A, init_ok (p1 := p1) (p2 := p2) (p3 := p3) (p4 := p4) (p5 := p5) (p6 := p6) (p7 := p7) (p8 := p8) (p9 := p9) (p10 := p10) ⟨⟨_, _, _, l⟩, ⟨_, _, _, cell⟩, ⟨_, _, _, _, _, _, code, fl, hfile⟩, hcd, htop⟩ S hp har (PySem.W.mg_none_of X G hs) hl, ?_⟩
  intro s us _ hu
  match us, hu with
  | [a, b], _ => exact .of_eq (hbd .none kV doc pm (.ref cda) ct an cc a b)
end
end Sq

/-! Values of any kind. -/
namespace Sq
open PySem PySem.Spec PyProof.Rows L2
def oneC (C : Addr) : Addr → Option Bool := fun x => if x = C then some true else none
theorem oneC_same (C : Addr) : oneC C C = some true := if_pos rfl
theorem oneC_inv {C x : Addr} {b : Bool} (h : oneC C x = some b) : x = C ∧ b = true := by
  unfold oneC at h
  split at h
  · cases h; exact ⟨by assumption, rfl⟩
  · cases h
/-- small data without addresses: k bounds the depth, n how long it is shown -/
structure SmD (k n : Nat) (d : D) : Prop where
  pure : pureD d = true
  lay : (encD d).canLay0 = true
  dep : (encD d).depth ≤ k
  shw : (encD d).showable = true
  len : (encD d).shown.length ≤ n
theorem SmD.mono {k n k' n' : Nat} {d : D} (h : SmD k n d) (hk : k ≤ k') (hn : n ≤ n') : SmD k' n' d := ⟨h.pure, h.lay, Nat.le_trans h.dep hk, h.shw, Nat.le_trans h.len hn⟩
theorem SmD.non : SmD 0 4 .non := ⟨rfl, rfl, by decide, rfl, by decide⟩
theorem SmD.bl (b : Bool) : SmD 0 5 (.bl b) := by cases b <;> exact ⟨rfl, rfl, by decide, rfl, by decide⟩
theorem SmD.int {i : Int} (h : smallI i) : SmD 0 31 (.int i) := ⟨rfl, rfl, by unfold encD PyData.depth; exact Nat.le_refl _, lit_show (d := .int i) (by unfold litI; exact h), shown_int h.abs⟩
theorem SmD.str {x : Str} {m : Nat} (h : PyData.strOk x = true) (hl : x.length ≤ m) : SmD 0 (10 * m + 2) (.str x) := by
  refine ⟨rfl, by unfold encD PyData.canLay0; exact h, by unfold encD PyData.depth; exact Nat.le_refl _, rfl, ?_⟩
  have e : (encD (.str x)).shown = reprText x := by unfold encD PyData.shown; rfl
  rw [e]
  have h2 : ∀ c ∈ x.cps.toList, c < 16 ^ 8 := fun c hc => by
    unfold PyData.strOk at h
    rw [← Array.all_toList] at h
    have q : c < 0x110000 := of_decide_eq_true (List.all_eq_true.mp h c hc)
    exact Nat.lt_of_lt_of_le q (by decide)
  have := StrLaws.reprText_len x h2
  omega
theorem smd_tup {k n : Nat} {ds : List D} (h : ∀ d ∈ ds, SmD k n d) : SmD (k + 1) ((n + 2) * ds.length + 3) (.tup ds) := by
  refine ⟨?_, ?_, ?_, ?_, shown_tups fun d hd => (h d hd).len⟩
  · unfold pureD
    rw [pureDs_all, List.all_eq_true]
    exact fun d hd => (h d hd).pure
  · unfold encD PyData.canLay0
    rw [encDs_map]
    have : ∀ es : List D, (∀ d ∈ es, SmD k n d) → PyData.canLayAll0 (es.map encD) = true := by
      intro es
      induction es with
      | nil => intro _; rfl
      | cons e es ih =>
        intro q
        rw [List.map_cons]
        unfold PyData.canLayAll0
        rw [(q e List.mem_cons_self).lay, ih fun d hd => q d (List.mem_cons_of_mem _ hd)]; rfl
    exact this ds h
  · have q := depthAll_le (n := k) fun d hd => (h d hd).dep
    unfold encD PyData.depth
    omega
  · unfold encD PyData.showable
    rw [encDs_map]
    have : ∀ es : List D, (∀ d ∈ es, SmD k n d) → PyData.showableAll (es.map encD) = true := by
      intro es
      induction es with
      | nil => intro _; rfl
      | cons e es ih =>
        intro q
        rw [List.map_cons]
        unfold PyData.showableAll
        rw [(q e List.mem_cons_self).shw, ih fun d hd => q d (List.mem_cons_of_mem _ hd)]; rfl
    exact this ds h
theorem SmD.shaped {k n : Nat} {d : D} (h : SmD k n d) (hk : k ≤ 60) : SeqAt.shaped (encD d) = true := by
  unfold SeqAt.shaped
  rw [h.lay, decide_eq_true (Nat.le_trans h.dep (by omega))]; rfl
theorem SmD.repr {k n : Nat} {d : D} {μ : Mu} {Q : PQ} (h : SmD k n d) (hk : k ≤ 60) (hn : n ≤ 16000000) (q : Q (.str (encD d).shown) μ) : fReprX d μ Q :=
  .inl ⟨_, pure_dpy h.pure, h.shaped hk, h.shw, Nat.le_trans h.len (small_size hn), q⟩
/-- each isinstance of it has an answer -/
def Seen (μ : Mu) (d : D) : Prop := ∀ t, ∃ b, isA t d μ = some b
theorem seen_pure {μ : Mu} {d : D} (h : pureD d = true) : Seen μ d := fun t => by
  cases d <;> first
    | exact ⟨_, rfl⟩
    | (unfold pureD at h; cases h)
/-- an int that is no bool -/
def isI : D → Bool
  | .int _ => true
  | _ => false
def isBl : D → Bool
  | .bl _ => true
  | _ => false
def isTup : D → Bool
  | .tup _ => true
  | _ => false
theorem Seen.cases {μ : Mu} {d : D} (h : Seen μ d) : (∃ i, d = .int i) ∨ (∃ b, d = .bl b) ∨ (isI d = false ∧ isBl d = false ∧ isA .int d μ = some false ∧ isA .bool d μ = some false) := by
  cases d with
  | int i => exact .inl ⟨i, rfl⟩
  | bl b => exact .inr (.inl ⟨b, rfl⟩)
  | non => exact .inr (.inr ⟨rfl, rfl, rfl, rfl⟩)
  | str x => exact .inr (.inr ⟨rfl, rfl, rfl, rfl⟩)
  | tup ds => exact .inr (.inr ⟨rfl, rfl, rfl, rfl⟩)
  | rls ds => obtain ⟨b, e⟩ := h .int; cases e
  | ob a =>
    refine .inr (.inr ⟨rfl, rfl, ?_, ?_⟩)
    · obtain ⟨b, e⟩ := h .int
      unfold isA at e ⊢
      dsimp only at e ⊢
      split at e <;> first | rfl | cases e
    · obtain ⟨b, e⟩ := h .bool
      unfold isA at e ⊢
      dsimp only at e ⊢
      split at e <;> first | rfl | cases e
theorem Seen.tup {μ : Mu} {d : D} (h : Seen μ d) : (∃ ds, d = .tup ds) ∨ (isTup d = false ∧ isA .tuple d μ = some false) := by
  cases d with
  | tup ds => exact .inl ⟨ds, rfl⟩
  | int i => exact .inr ⟨rfl, rfl⟩
  | bl b => exact .inr ⟨rfl, rfl⟩
  | non => exact .inr ⟨rfl, rfl⟩
  | str x => exact .inr ⟨rfl, rfl⟩
  | rls ds => obtain ⟨b, e⟩ := h .int; cases e
  | ob a =>
    refine .inr ⟨rfl, ?_⟩
    obtain ⟨b, e⟩ := h .tuple
    unfold isA at e ⊢
    dsimp only at e ⊢
    split at e <;> first | rfl | cases e
/-- it and its parts -/
structure Seen2 (μ : Mu) (d : D) : Prop where
  self : Seen μ d
  parts : ∀ ds, d = .tup ds → ds.length ≤ 100000 ∧ ∀ x ∈ ds, Seen μ x
theorem pure_part {ds : List D} (h : pureD (.tup ds) = true) : ∀ x ∈ ds, pureD x = true := by
  unfold pureD at h
  rw [pureDs_all, List.all_eq_true] at h
  exact h
/-- a value that is tried: small data, a list of such, a small dict -/
inductive Val (μ : Mu) (p : Addr) : D → Prop
  | sm {d : D} : SmD 20 10000 d → (∀ ds, d = .tup ds → ds.length ≤ 1000) → Val μ p d
  | lst {a : Addr} {ds : List D} : μ a = some (.lst ds) → a ≠ p → (∀ d ∈ ds, SmD 20 10000 d) → ds.length ≤ 1000 → Val μ p (.ob a)
  | dct {a : Addr} {ks : List Key} {ns : List Int} : μ a = some (.dct ks (ns.map D.int)) → a ≠ p → (dctPy ks ns).depth ≤ 60 → (dctPy ks ns).showable = true → (dctPy ks ns).shown.length ≤ sizeLine → Val μ p (.ob a)
theorem Val.keep {μ μ' : Mu} {p : Addr} {d : D} (h : Val μ p d) (k : ∀ b o, b ≠ p → μ b = some o → μ' b = some o) : Val μ' p d := by
  cases h with
  | sm h h2 => exact .sm h h2
  | lst e n h h2 => exact .lst (k _ _ n e) n h h2
  | dct e n h1 h2 h3 => exact .dct (k _ _ n e) n h1 h2 h3
theorem Val.seen {μ : Mu} {p : Addr} {d : D} (h : Val μ p d) : Seen2 μ d := by
  cases h with
  | sm h h2 => exact ⟨seen_pure h.pure, fun ds e => ⟨Nat.le_trans (h2 ds e) (by decide), fun x hx => seen_pure (pure_part (e ▸ h.pure) x hx)⟩⟩
  | lst e n h h2 => exact ⟨fun t => ⟨_, by unfold isA; dsimp only; rw [e]⟩, fun ds z => nomatch z⟩
  | dct e n h1 h2 h3 => exact ⟨fun t => ⟨_, by unfold isA; dsimp only; rw [e]⟩, fun ds z => nomatch z⟩
/-- what it is shown as, now and later -/
theorem Val.repr {μ : Mu} {p : Addr} {d : D} (h : Val μ p d) : ∃ t : Str, ∀ μ', (∀ b o, b ≠ p → μ b = some o → μ' b = some o) → ∀ Q : PQ, Q (.str t) μ' → fReprX d μ' Q := by
  cases h with
  | sm h h2 => exact ⟨_, fun μ' k Q q => h.repr (by decide) (by decide) q⟩
  | @lst a ds e n h h2 =>
    refine ⟨(PyData.list (encDs ds)).shown, fun μ' k Q q => .inl ⟨_, .lst (k _ _ n e) ?_, ?_, ?_, ?_, q⟩⟩
    · refine pure_dpys ?_
      rw [pureDs_all, List.all_eq_true]
      exact fun x hx => (h x hx).pure
    · have t := smd_tup h
      have t1 := t.lay
      have t2 := t.dep
      unfold encD PyData.canLay0 at t1
      unfold encD PyData.depth at t2
      unfold SeqAt.shaped PyData.canLay0 PyData.depth
      rw [t1, decide_eq_true (by omega)]; rfl
    · have t1 := (smd_tup h).shw
      unfold encD PyData.showable at t1
      unfold PyData.showable
      exact t1
    · have e : (PyData.list (encDs ds)).shown = listText (PyData.shownAll (encDs ds)) := by unfold PyData.shown; rfl
      rw [e]
      refine small_size ?_
      rw [listText_eq_join, Str.length_append, Str.length_append]
      have h1 : (("[" : Str)).length = 1 := rfl
      have h3 : (("]" : Str)).length = 1 := rfl
      have h4 : (Str.join ", " (PyData.shownAll (encDs ds))).length ≤ piled (PyData.shownAll (encDs ds)) := by
        by_cases z : PyData.shownAll (encDs ds) = []
        · rw [z]; decide
        · have := join_length_add _ z
          omega
      have h5 := piled_le (n := 10000) (ts := PyData.shownAll (encDs ds)) (by
        rw [shownAll_map, encDs_map]
        intro t ht
        obtain ⟨p, hp, rfl⟩ := List.mem_map.mp ht
        obtain ⟨d, hd, rfl⟩ := List.mem_map.mp hp
        exact (h d hd).len)
      have h6 : (PyData.shownAll (encDs ds)).length = ds.length := by rw [shownAll_map, encDs_map, List.length_map, List.length_map]
      rw [h6] at h5
      have h7 : (10000 + 2) * ds.length ≤ (10000 + 2) * 1000 := Nat.mul_le_mul_left _ h2
      omega
  | dct e n h1 h2 h3 => exact ⟨_, fun μ' k Q q => .inr ⟨_, .dct (k _ _ n e), h1, h2, h3, q⟩⟩
def wholesB : D → Bool
  | .tup ds => ds.all isI
  | _ => false
theorem isI_inv {d : D} (h : isI d = true) : ∃ i, d = .int i := by
  cases d <;> first | exact ⟨_, rfl⟩ | cases h
theorem wholes_ints : ∀ {ds : List D}, ds.all isI = true → ∃ ns : List Int, ds = ns.map D.int
  | [], _ => ⟨[], rfl⟩
  | d :: ds, h => by
    rw [List.all_cons, Bool.and_eq_true] at h
    obtain ⟨i, rfl⟩ := isI_inv h.1
    obtain ⟨ns, rfl⟩ := wholes_ints h.2
    exact ⟨i :: ns, rfl⟩
def leB (m : Int) : D → Bool
  | .int i => decide ((if i < 0 then -i else i) ≤ m)
  | _ => false
def intsB (k m : Int) : D → Bool
  | .tup ds => ds.all isI && (decide ((ds.length : Int) = k) && ds.all (leB m))
  | _ => false
theorem notTup_whole {d : D} (h : isTup d = false) : wholesB d = false := by
  cases d <;> first | rfl | cases h
theorem notTup_ints {k m : Int} {d : D} (h : isTup d = false) : intsB k m d = false := by
  cases d <;> first | rfl | cases h
def inB (lo hi : Int) : D → Bool
  | .int i => decide (lo ≤ i ∧ i ≤ hi)
  | _ => false
theorem notI_in {lo hi : Int} {d : D} (h : isI d = false) : inB lo hi d = false := by
  cases d <;> first | rfl | cases h
end Sq

/-! For readings of _law_heard and what is told of errors. -/
namespace Sq
open PySem PySem.Spec PyProof.Rows L2
theorem PotX.free {n : Nat} {μ0 μ : Mu} {p l : Addr} (h : PotX n μ0 μ p) (k : μ l = none) : μ0 l = none ∧ l ≠ p := by
  have hp : l ≠ p := fun z => h.1.ne k z.symm
  refine ⟨?_, hp⟩
  cases e : μ0 l with
  | none => rfl
  | some o => rw [h.2 l o hp e] at k; cases k
theorem PotX.keep {n : Nat} {μ0 μ : Mu} {p b : Addr} {o : O} (h : PotX n μ0 μ p) (hb : b ≠ p) (e : μ0 b = some o) : μ b = some o := h.2 b o hb e
theorem PotAt.neTab {n : Nat} {μ : Mu} {p P : Addr} {q : Str} (h : PotAt n μ p) (e : μ P = some (.tab q)) : P ≠ p := fun z => by
  obtain ⟨x, y, w, e2, _⟩ := h
  rw [z, e2] at e
  cases e
theorem PotAt.neExc {n : Nat} {μ : Mu} {p P C : Addr} {d : D} (h : PotAt n μ p) (e : μ P = some (.exc C d)) : P ≠ p := fun z => by
  obtain ⟨x, y, w, e2, _⟩ := h
  rw [z, e2] at e
  cases e
theorem PotAt.neLam {n : Nat} {μ : Mu} {p P : Addr} {t : LamT} (h : PotAt n μ p) (e : μ P = some (.lam t)) : P ≠ p := fun z => by
  obtain ⟨x, y, w, e2, _⟩ := h
  rw [z, e2] at e
  cases e
/-- an error is caught -/
theorem heard_bad {isSq : Addr → Option Bool} {w : WE} {ρ : Ev} {μ : Mu} {C : Addr} {d : D} {Q : PQ} (h : ∀ (Q : PQ) (X : XQ), X C d μ → w.run ρ μ Q X) (hC : isSq C = some true) (q : ∀ a, μ a = none → Q (.tup [.ob a, .non]) (mset μ a (.exc C d))) : heardQ isSq w ρ μ Q :=
  h _ _ ⟨hC, q⟩
theorem ix0 {x y : D} {μ : Mu} {Q : PQ} (h : Q x μ) : gIx.run (.tup [x, y]) (.int 0) μ Q := by
  rw [gIx_tup, atI_0]
  exact h
/-- _law_heard(lambda: ..)[0] where an error comes -/
theorem heard1_bad {isSq : Addr → Option Bool} {L : List (LamT × WE)} {P : Addr} {t : LamT} {w : WE} {ρ : Ev} {μ0 μ : Mu} {n : Nat} {p C : Addr} {d : D} {Q : PQ} {X : XQ} (hx : PotX n μ0 μ p) (hP : μ P = some (.tab t.q)) (hw : (t, w) ∈ L) (hC : isSq C = some true)
    (h : ∀ μ' (Q : PQ) (X : XQ), PotX n μ μ' p → X C d μ' → w.run ρ μ' Q X) (q : ∀ a μ', PotX n μ0 μ' p → PotX n μ μ' p → μ' a = some (.exc C d) → Q (.ob a) μ') : (wOp gIx (wHeard isSq [] L (wLam P t)) (wC (.int 0))).run ρ μ Q X := by
  rw [wOp_run, wHeard_run, wLam_run]
  refine ⟨hP, fun f hf => ⟨f, t, w, rfl, mset_same _ _ _, hw, ?_⟩⟩
  have x1 : PotX n μ (mset μ f (.lam t)) p := (PotX.refl hx.1).new hf
  refine heard_bad (fun Q X k => h _ Q X x1 k) hC fun a ha => ?_
  rw [wC_run]
  exact ix0 (q a _ ((hx.new hf).new ha) (x1.new ha) (mset_same _ _ _))
/-- _law_heard(lambda: ..)[0] where none comes -/
theorem heard1_good {isSq : Addr → Option Bool} {L : List (LamT × WE)} {P : Addr} {t : LamT} {w : WE} {ρ : Ev} {μ0 μ : Mu} {n : Nat} {p : Addr} {r : D} {Q : PQ} {X : XQ} (hx : PotX n μ0 μ p) (hP : μ P = some (.tab t.q)) (hw : (t, w) ∈ L)
    (h : ∀ μ' (Q : PQ) (X : XQ), PotX n μ μ' p → Q r μ' → w.run ρ μ' Q X) (q : ∀ μ', PotX n μ0 μ' p → PotX n μ μ' p → Q .non μ') : (wOp gIx (wHeard isSq [] L (wLam P t)) (wC (.int 0))).run ρ μ Q X := by
  rw [wOp_run, wHeard_run, wLam_run]
  refine ⟨hP, fun f hf => ⟨f, t, w, rfl, mset_same _ _ _, hw, ?_⟩⟩
  have x1 : PotX n μ (mset μ f (.lam t)) p := (PotX.refl hx.1).new hf
  refine h _ _ _ x1 ?_
  dsimp only
  rw [wC_run]
  exact ix0 (q _ (hx.new hf) x1)
/-- the lambdas at fs are ts -/
def LamsAt (μ : Mu) : List Addr → List LamT → Prop
  | [], [] => True
  | f :: fs, t :: ts => μ f = some (.lam t) ∧ LamsAt μ fs ts
  | _, _ => False
theorem LamsAt.keep {n : Nat} {μ μ' : Mu} {p : Addr} (k : ∀ b t, μ b = some (.lam t) → μ' b = some (.lam t)) : ∀ {fs : List Addr} {ts : List LamT}, LamsAt μ fs ts → LamsAt μ' fs ts
  | [], [], _ => trivial
  | _ :: _, _ :: _, ⟨a, b⟩ => ⟨k _ _ a, LamsAt.keep (n := n) (p := p) k b⟩
  | [], _ :: _, h => h.elim
  | _ :: _, [], h => h.elim
theorem LamsAt.snoc {μ : Mu} {f : Addr} {t : LamT} (e : μ f = some (.lam t)) : ∀ {fs : List Addr} {ts : List LamT}, LamsAt μ fs ts → LamsAt μ (fs ++ [f]) (ts ++ [t])
  | [], [], _ => ⟨e, trivial⟩
  | _ :: _, _ :: _, ⟨a, b⟩ => ⟨a, LamsAt.snoc e b⟩
  | [], _ :: _, h => h.elim
  | _ :: _, [], h => h.elim
theorem LamsAt.len {μ : Mu} : ∀ {fs : List Addr} {ts : List LamT}, LamsAt μ fs ts → fs.length = ts.length
  | [], [], _ => rfl
  | _ :: _, _ :: _, ⟨_, b⟩ => by rw [List.length_cons, List.length_cons, LamsAt.len b]
  | [], _ :: _, h => h.elim
  | _ :: _, [], h => h.elim
theorem LamsAt.get {μ : Mu} : ∀ {fs : List Addr} {ts : List LamT} {i : Nat} {f : Addr}, LamsAt μ fs ts → fs[i]? = some f → ∃ t, ts[i]? = some t ∧ μ f = some (.lam t)
  | _ :: _, _ :: _, 0, f, ⟨a, _⟩, e => by cases e; exact ⟨_, rfl, a⟩
  | _ :: _, _ :: _, i + 1, f, ⟨_, b⟩, e => by
    obtain ⟨t, h1, h2⟩ := LamsAt.get (i := i) b (by simpa using e)
    exact ⟨t, by simpa using h1, h2⟩
  | [], [], _, _, _, e => by simp at e
  | [], _ :: _, _, _, h, _ => h.elim
  | _ :: _, [], _, _, h, _ => h.elim
/-- the list at l holds lambdas ts -/
def Calls (μ : Mu) (l : Addr) (ts : List LamT) : Prop := ∃ fs, μ l = some (.lst (fs.map D.ob)) ∧ LamsAt μ fs ts
/-- calls = [lambda: ..] -/
theorem calls_new {P : Addr} {t : LamT} {n : Nat} {μ0 μ : Mu} {p : Addr} {ρ : Ev} {E : PD} {i : Nat} (hx : PotX n μ0 μ p) (hP : μ P = some (.tab t.q)) (h : ∀ l μ', μ0 l = none → l ≠ p → PotX n μ0 μ' p → PotX n μ μ' p → Calls μ' l [t] → E.nx (ρ.set i (some (.ob l))) μ') :
    (wSet i (wLst [wLam P t])).run E ρ μ := by
  rw [wSet_run, wLst_run, runAll_cons, wLam_run]
  refine ⟨hP, fun f hf => ?_⟩
  rw [runAll_nil]
  intro l hl
  have x1 := hx.new (o := .lam t) hf
  obtain ⟨f1, f2⟩ := x1.free hl
  exact h l _ f1 f2 (x1.new hl) (((PotX.refl hx.1).new hf).new hl) ⟨[f], mset_same _ _ _, at_new (mset_same _ _ _) hl, trivial⟩
/-- calls.append(lambda: ..) -/
theorem calls_add {P l : Addr} {t : LamT} {ts : List LamT} {n : Nat} {μ0 μ : Mu} {p : Addr} {ρ : Ev} {E : PD} {i : Nat} (hx : PotX n μ0 μ p) (hl0 : μ0 l = none) (hlp : l ≠ p) (hc : Calls μ l ts) (hP : μ P = some (.tab t.q)) (hi : ρ[i]? = some (some (.ob l))) (hlen : ts.length < 1000)
    (h : ∀ μ', PotX n μ0 μ' p → Calls μ' l (ts ++ [t]) → E.nx ρ μ') : (wExpr (wMt gAppend (wVar i) [wLam P t])).run E ρ μ := by
  obtain ⟨fs, e, k⟩ := hc
  rw [wExpr_run, wMt_run, wVar_run, hi]
  refine onLst_mk e ?_
  rw [runAll_cons, wLam_run]
  refine ⟨hP, fun f hf => ?_⟩
  rw [runAll_nil]
  have e1 := at_new (o := .lam t) e hf
  refine onLst_mk e1 ?_
  rw [gAppend_run, fAppend_run]
  have hfl : f ≠ l := fun z => by rw [z, e] at hf; cases hf
  refine ⟨Nat.lt_of_lt_of_le (by rw [List.length_map, k.len]; exact hlen) (small_size (by decide)), h _ ((hx.new hf).set hl0 hlp) ⟨fs ++ [f], ?_, ?_⟩⟩
  · rw [mset_same, List.map_append]; rfl
  · refine LamsAt.snoc (by rw [mset_ne hfl]; exact mset_same _ _ _) (k.keep (n := n) (p := p) fun b u hb => ?_)
    have hbl : b ≠ l := fun z => by rw [z, e] at hb; cases hb
    rw [mset_ne hbl]
    exact at_new hb hf
/-- told = [_law_heard(call)[0] for call in calls], an error each time -/
theorem heard_all {isSq : Addr → Option Bool} {L : List (LamT × WE)} {l : Addr} {ts : List LamT} {n : Nat} {μ0 μ : Mu} {p C : Addr} {d : D} {ρ : Ev} {E : PD} {i c k : Nat} (hx : PotX n μ0 μ p) (hlp : l ≠ p) (hc : Calls μ l ts) (hi : ρ[c]? = some (some (.ob l))) (hk : k < ρ.length) (hck : c ≠ k) (hlen : ts.length < 1000) (hC : isSq C = some true)
    (hw : ∀ t ∈ ts, ∃ w, (t, w) ∈ L ∧ ∀ μ' (Q : PQ) (X : XQ), PotX n μ μ' p → X C d μ' → w.run (ρ.set k none) μ' Q X)
    (h : ∀ l5 acc μ', PotX n μ0 μ' p → PotX n μ μ' p → μ' l5 = some (.lst acc) → acc.length = ts.length → (∀ x ∈ acc, ∃ a, x = .ob a ∧ μ' a = some (.exc C d)) → E.nx (ρ.set i (some (.ob l5))) μ') :
    (wSet i (wLc (wSeqI (wVar c)) (CT.one k) wYes (wOp gIx (wHeard isSq [k] L (wVar k)) (wC (.int 0))))).run E ρ μ := by
  obtain ⟨fs, e, la⟩ := hc
  rw [wSet_run, wLc_run, wSeqI_run, wVar_run, hi]
  dsimp only
  rw [fSeq_ob, e]
  dsimp only
  have hl2 : (fs.map D.ob).length = ts.length := by rw [List.length_map, la.len]
  refine ⟨small_size (by rw [hl2]; omega), ?_⟩
  have wk : wipeE ρ (CT.one k).slots = ρ.set k none := rfl
  rw [wk]
  refine lcG_by (fun j acc μ' => PotX n μ0 μ' p ∧ PotX n μ μ' p ∧ μ' l = some (.lst (fs.map D.ob)) ∧ acc.length = j ∧ ∀ x ∈ acc, ∃ a, x = .ob a ∧ μ' a = some (.exc C d)) (fun _ _ _ _ z => z.2.2.1) ?_ ?_ ⟨hx, .refl hx.1, e, rfl, fun _ z => nomatch z⟩
  · rintro j x acc μ1 hj ⟨x1, x2, e1, hacc, hex⟩
    obtain ⟨f, hf, rfl⟩ : ∃ f, fs[j]? = some f ∧ x = .ob f := by
      rw [List.getElem?_map] at hj
      cases q : fs[j]? with
      | none => rw [q] at hj; cases hj
      | some f => rw [q] at hj; cases hj; exact ⟨f, rfl, rfl⟩
    obtain ⟨t, ht, hft⟩ := la.get hf
    obtain ⟨w, hwL, hrun⟩ := hw t (List.mem_of_getElem? ht)
    refine ⟨_, rfl, ?_⟩
    rw [wYes_run, if_pos rfl, wOp_run, wHeard_run, wVar_run]
    have g1 : ((ρ.set k none).set k (some (D.ob f)))[k]? = some (some (D.ob f)) := by rw [List.getElem?_set_self (by rw [List.length_set]; exact hk)]
    rw [g1]
    have g2 : wipeE ((ρ.set k none).set k (some (D.ob f))) [k] = ρ.set k none := by
      show ((ρ.set k none).set k (some (D.ob f))).set k none = _
      rw [List.set_set, List.set_set]
    have f1 : μ1 f = some (.lam t) := x2.keep (hx.1.neLam hft) hft
    refine ⟨f, t, w, rfl, f1, hwL, ?_⟩
    rw [g2]
    refine heard_bad (fun Q X z => hrun _ Q X x2 z) hC fun a ha => ?_
    rw [wC_run]
    refine ix0 ⟨x1.new ha, x2.new ha, at_new e1 ha, by rw [List.length_append, hacc]; rfl, fun y hy => ?_⟩
    rcases List.mem_append.mp hy with hy | hy
    · obtain ⟨b, rfl, hb⟩ := hex y hy
      exact ⟨b, rfl, at_new hb ha⟩
    · simp only [List.mem_cons, List.not_mem_nil, or_false] at hy
      subst hy
      exact ⟨a, rfl, mset_same _ _ _⟩
  · rintro acc μ1 ⟨x1, x2, e1, hacc, hex⟩ q hq
    refine h q acc _ (x1.new hq) (x2.new hq) (mset_same _ _ _) (by rw [hacc, hl2]) fun y hy => ?_
    obtain ⟨b, rfl, hb⟩ := hex y hy
    exact ⟨b, rfl, at_new hb hq⟩
/-- [isinstance(caught, C) and repr(caught.value) == repr(value) for caught in told] -/
theorem told_all {isE : Addr → Option Bool} {C : Addr} {b : Bool} {d : D} {i v : Nat} {chk : Mu → Prop} {k : List D → Mu → Prop} {acc : List D} {ρ : Ev} {μ : Mu} {p : Addr} (hE : isE C = some b) (ht : ∀ x ∈ acc, ∃ a, x = .ob a ∧ μ a = some (.exc C d)) (hd : Val μ p d) (hi : i < ρ.length) (hv : ρ[v]? = some (some d)) (hne : v ≠ i)
    (hc : chk μ) (h : k (acc.map fun _ => .bl true) μ) : lcG (CT.one i) wYes (wAndV (wIsX (oneC C) (wVar i)) (wOp gEq (wB gReprX [wVal isE (wVar i)]) (wB gReprX [wVar v]))) chk acc [] ρ μ k := by
  refine lcG_map (fun _ => .bl true) hc (fun x hx => ⟨_, rfl, ?_⟩) h
  obtain ⟨a, rfl, ha⟩ := ht x hx
  have g1 : (ρ.set i (some (D.ob a)))[i]? = some (some (D.ob a)) := by rw [List.getElem?_set_self hi]
  have g2 : (ρ.set i (some (D.ob a)))[v]? = some (some d) := by rw [List.getElem?_set_ne (Ne.symm hne)]; exact hv
  rw [wAndV_run, wIsX_run, wVar_run, g1]
  refine ⟨a, C, d, true, rfl, ha, oneC_same C, ?_⟩
  rw [onBl_bl, if_pos rfl, wOp_run, wB_run, runAll_cons, wVal_run, wVar_run, g1]
  refine ⟨a, C, d, b, rfl, ha, hE, ?_⟩
  rw [runAll_nil, gReprX_run]
  obtain ⟨t, T⟩ := hd.repr
  refine T μ (fun _ _ _ e => e) _ ?_
  rw [wB_run, runAll_cons, wVar_run, g2]
  dsimp only
  rw [runAll_nil, gReprX_run]
  refine T μ (fun _ _ _ e => e) _ ?_
  rw [gEq_run, EqB_str, decide_eq_true rfl]
  exact ⟨rfl, rfl⟩
/-- if not all([isinstance(caught, C) and repr(caught.value) == repr(value) for caught in told]): .. -/
theorem told_check {isE : Addr → Option Bool} {C : Addr} {b : Bool} {d : D} {i v c n : Nat} {A : WS} {E : PD} {acc : List D} {ρ : Ev} {μ0 μ : Mu} {p l : Addr} (hx : PotX n μ0 μ p) (hE : isE C = some b) (hc : ρ[c]? = some (some (.ob l))) (hl : μ l = some (.lst acc)) (hlen : acc.length ≤ 1000) (ht : ∀ x ∈ acc, ∃ a, x = .ob a ∧ μ a = some (.exc C d)) (hd : Val μ p d) (hi : i < ρ.length) (hv : ρ[v]? = some (some d)) (hne : v ≠ i) (hci : c ≠ i)
    (h : ∀ μ', PotX n μ0 μ' p → PotX n μ μ' p → E.nx ρ μ') : (wIf (wNotT (wTB (wB gAll [wLc (wSeqI (wVar c)) (CT.one i) wYes (wAndV (wIsX (oneC C) (wVar i)) (wOp gEq (wB gReprX [wVal isE (wVar i)]) (wB gReprX [wVar v])))]))) A wNext).run E ρ μ := by
  rw [wIf_run, wNotT_run, wTB_run, wB_run, runAll_cons, wLc_run, wSeqI_run, wVar_run, hc]
  dsimp only
  rw [fSeq_ob, hl]
  dsimp only
  have wk : wipeE ρ (CT.one i).slots = ρ.set i none := rfl
  rw [wk]
  refine ⟨small_size (by omega), told_all (d := d) (ρ := ρ.set i none) hE ht hd (by rw [List.length_set]; exact hi) (by rw [List.getElem?_set_ne (Ne.symm hne)]; exact hv) hne hl fun q hq => ?_⟩
  rw [runAll_nil, gAll_run]
  refine ⟨q, acc.map fun _ => true, rfl, by rw [mset_same, List.map_map]; rfl, ?_⟩
  dsimp only
  rw [onBl_bl, show (acc.map fun _ => true).all id = true by simp]
  rw [if_neg (by decide), wNext_run]
  exact h _ (hx.new hq) ((PotX.refl hx.1).new hq)
/-- all([..]) as a value -/
theorem told_value {isE : Addr → Option Bool} {C : Addr} {b : Bool} {d : D} {i v c n : Nat} {Q : PQ} {X : XQ} {acc : List D} {ρ : Ev} {μ0 μ : Mu} {p l : Addr} (hx : PotX n μ0 μ p) (hE : isE C = some b) (hc : ρ[c]? = some (some (.ob l))) (hl : μ l = some (.lst acc)) (hlen : acc.length ≤ 1000) (ht : ∀ x ∈ acc, ∃ a, x = .ob a ∧ μ a = some (.exc C d)) (hd : Val μ p d) (hi : i < ρ.length) (hv : ρ[v]? = some (some d)) (hne : v ≠ i) (hci : c ≠ i)
    (h : ∀ μ', PotX n μ0 μ' p → PotX n μ μ' p → Q (.bl true) μ') : (wB gAll [wLc (wSeqI (wVar c)) (CT.one i) wYes (wAndV (wIsX (oneC C) (wVar i)) (wOp gEq (wB gReprX [wVal isE (wVar i)]) (wB gReprX [wVar v])))]).run ρ μ Q X := by
  rw [wB_run, runAll_cons, wLc_run, wSeqI_run, wVar_run, hc]
  dsimp only
  rw [fSeq_ob, hl]
  dsimp only
  have wk : wipeE ρ (CT.one i).slots = ρ.set i none := rfl
  rw [wk]
  refine ⟨small_size (by omega), told_all (d := d) (ρ := ρ.set i none) hE ht hd (by rw [List.length_set]; exact hi) (by rw [List.getElem?_set_ne (Ne.symm hne)]; exact hv) hne hl fun q hq => ?_⟩
  rw [runAll_nil, gAll_run]
  refine ⟨q, acc.map fun _ => true, rfl, by rw [mset_same, List.map_map]; rfl, ?_⟩
  rw [show (acc.map fun _ => true).all id = true by simp]
  exact h _ (hx.new hq) ((PotX.refl hx.1).new hq)
/-- the list at l holds m errors, of the class C, of the value d -/
def Told (μ : Mu) (C : Addr) (d : D) (l : Addr) (m : Nat) : Prop := ∃ acc, μ l = some (.lst acc) ∧ acc.length = m ∧ ∀ x ∈ acc, ∃ a, x = .ob a ∧ μ a = some (.exc C d)
/-- the list at l holds m things -/
def Some1 (μ : Mu) (l : Addr) (m : Nat) : Prop := ∃ acc, μ l = some (.lst acc) ∧ acc.length = m
section
variable {isSq : Addr → Option Bool} {L : List (LamT × WE)} {P : Addr} {t : LamT} {w : WE} {ρ : Ev} {μ0 μ : Mu} {n m i : Nat} {p C l : Addr} {d r : D} {E : PD}
/-- told = [_law_heard(lambda: ..)[0]] -/
theorem told_new_bad (hx : PotX n μ0 μ p) (hP : μ P = some (.tab t.q)) (hw : (t, w) ∈ L) (hC : isSq C = some true) (h : ∀ μ' (Q : PQ) (X : XQ), PotX n μ μ' p → X C d μ' → w.run ρ μ' Q X)
    (q : ∀ l μ', μ0 l = none → l ≠ p → PotX n μ0 μ' p → PotX n μ μ' p → Told μ' C d l 1 → E.nx (ρ.set i (some (.ob l))) μ') : (wSet i (wLst [wOp gIx (wHeard isSq [] L (wLam P t)) (wC (.int 0))])).run E ρ μ := by
  rw [wSet_run, wLst_run, runAll_cons]
  refine heard1_bad hx hP hw hC h fun a μ1 x1 x2 e => ?_
  rw [runAll_nil]
  intro l hl
  obtain ⟨f1, f2⟩ := x1.free hl
  refine q l _ f1 f2 (x1.new hl) (x2.new hl) ⟨[.ob a], mset_same _ _ _, rfl, fun x hx => ?_⟩
  simp only [List.mem_cons, List.not_mem_nil, or_false] at hx
  subst hx
  exact ⟨a, rfl, at_new e hl⟩
theorem told_new_good (hx : PotX n μ0 μ p) (hP : μ P = some (.tab t.q)) (hw : (t, w) ∈ L) (h : ∀ μ' (Q : PQ) (X : XQ), PotX n μ μ' p → Q r μ' → w.run ρ μ' Q X)
    (q : ∀ l μ', μ0 l = none → l ≠ p → PotX n μ0 μ' p → PotX n μ μ' p → Some1 μ' l 1 → E.nx (ρ.set i (some (.ob l))) μ') : (wSet i (wLst [wOp gIx (wHeard isSq [] L (wLam P t)) (wC (.int 0))])).run E ρ μ := by
  rw [wSet_run, wLst_run, runAll_cons]
  refine heard1_good hx hP hw h fun μ1 x1 x2 => ?_
  rw [runAll_nil]
  intro l hl
  obtain ⟨f1, f2⟩ := x1.free hl
  exact q l _ f1 f2 (x1.new hl) (x2.new hl) ⟨[.non], mset_same _ _ _, rfl⟩
/-- told.append(_law_heard(lambda: ..)[0]) -/
theorem told_add_bad (hx : PotX n μ0 μ p) (hl0 : μ0 l = none) (hlp : l ≠ p) (ht : Told μ C d l m) (hi : ρ[i]? = some (some (.ob l))) (hm : m < 1000) (hP : μ P = some (.tab t.q)) (hw : (t, w) ∈ L) (hC : isSq C = some true) (h : ∀ μ' (Q : PQ) (X : XQ), PotX n μ μ' p → X C d μ' → w.run ρ μ' Q X)
    (q : ∀ μ', PotX n μ0 μ' p → Told μ' C d l (m + 1) → E.nx ρ μ') : (wExpr (wMt gAppend (wVar i) [wOp gIx (wHeard isSq [] L (wLam P t)) (wC (.int 0))])).run E ρ μ := by
  obtain ⟨acc, e, hlen, hex⟩ := ht
  rw [wExpr_run, wMt_run, wVar_run, hi]
  refine onLst_mk e ?_
  rw [runAll_cons]
  refine heard1_bad hx hP hw hC h fun a μ1 x1 x2 ea => ?_
  rw [runAll_nil]
  have e1 : μ1 l = some (.lst acc) := x2.keep hlp e
  refine onLst_mk e1 ?_
  rw [gAppend_run, fAppend_run]
  refine ⟨Nat.lt_of_lt_of_le (by rw [hlen]; exact hm) (small_size (by decide)), q _ (x1.set hl0 hlp) ⟨acc ++ [.ob a], mset_same _ _ _, by rw [List.length_append, hlen]; rfl, fun x hm' => ?_⟩⟩
  rcases List.mem_append.mp hm' with hm' | hm'
  · obtain ⟨b, rfl, hb⟩ := hex x hm'
    have hb1 := x2.keep (hx.1.neExc hb) hb
    exact ⟨b, rfl, by rw [mset_ne (fun z => by rw [z, e1] at hb1; cases hb1)]; exact hb1⟩
  · simp only [List.mem_cons, List.not_mem_nil, or_false] at hm'
    subst hm'
    exact ⟨a, rfl, by rw [mset_ne (fun z => by rw [z, e1] at ea; cases ea)]; exact ea⟩
theorem told_add_good (hx : PotX n μ0 μ p) (hl0 : μ0 l = none) (hlp : l ≠ p) (ht : Some1 μ l m) (hi : ρ[i]? = some (some (.ob l))) (hm : m < 1000) (hP : μ P = some (.tab t.q)) (hw : (t, w) ∈ L) (h : ∀ μ' (Q : PQ) (X : XQ), PotX n μ μ' p → Q r μ' → w.run ρ μ' Q X)
    (q : ∀ μ', PotX n μ0 μ' p → Some1 μ' l (m + 1) → E.nx ρ μ') : (wExpr (wMt gAppend (wVar i) [wOp gIx (wHeard isSq [] L (wLam P t)) (wC (.int 0))])).run E ρ μ := by
  obtain ⟨acc, e, hlen⟩ := ht
  rw [wExpr_run, wMt_run, wVar_run, hi]
  refine onLst_mk e ?_
  rw [runAll_cons]
  refine heard1_good hx hP hw h fun μ1 x1 x2 => ?_
  rw [runAll_nil]
  have e1 : μ1 l = some (.lst acc) := x2.keep hlp e
  refine onLst_mk e1 ?_
  rw [gAppend_run, fAppend_run]
  exact ⟨Nat.lt_of_lt_of_le (by rw [hlen]; exact hm) (small_size (by decide)), q _ (x1.set hl0 hlp) ⟨acc ++ [.non], mset_same _ _ _, by rw [List.length_append, hlen]; rfl⟩⟩
end
end Sq

/-! Values that are tried, at any depth; values that are bent. -/
namespace Sq
open PySem PySem.Spec PyProof.Rows L2
/-- none, a bool, a small int, a short text -/
inductive Lf : D → Prop
  | non : Lf .non
  | bl (b : Bool) : Lf (.bl b)
  | int {i : Int} : smallI i → Lf (.int i)
  | str {x : Str} : PyData.strOk x = true → x.length ≤ 60 → Lf (.str x)
/-- such, in tuples up to a depth -/
def Pu : Nat → D → Prop
  | 0, d => Lf d
  | k + 1, d => Lf d ∨ ∃ ds, d = .tup ds ∧ ds.length ≤ 25 ∧ ∀ x ∈ ds, Pu k x
theorem Lf.sm {d : D} (h : Lf d) : SmD 0 602 d := by
  cases h with
  | non => exact SmD.non.mono (by decide) (by decide)
  | bl b => exact (SmD.bl b).mono (by decide) (by decide)
  | int h => exact (SmD.int h).mono (by decide) (by decide)
  | str h h2 => exact SmD.str h h2
theorem Lf.pu {d : D} (h : Lf d) : ∀ k, Pu k d
  | 0 => h
  | _ + 1 => .inl h
theorem Lf.notTup {d : D} (h : Lf d) : isTup d = false := by cases h <;> rfl
theorem Pu.tup {k : Nat} {ds : List D} (h : ∀ x ∈ ds, Pu k x) (hl : ds.length ≤ 25) : Pu (k + 1) (.tup ds) := .inr ⟨ds, rfl, hl, h⟩
theorem Pu.up : ∀ {k : Nat} {d : D}, Pu k d → Pu (k + 1) d
  | 0, _, h => .inl h
  | _ + 1, _, .inl h => .inl h
  | _ + 1, _, .inr ⟨ds, e, hl, h⟩ => .inr ⟨ds, e, hl, fun x hx => (h x hx).up⟩
def puN : Nat → Nat
  | 0 => 602
  | k + 1 => (puN k + 2) * 25 + 3
theorem Pu.sm : ∀ {k : Nat} {d : D}, Pu k d → SmD k (puN k) d
  | 0, _, h => Lf.sm h
  | k + 1, _, .inl h => (Lf.sm h).mono (Nat.zero_le _) (by
      have : ∀ n, 602 ≤ puN n := fun n => by
        induction n with
        | zero => exact Nat.le_refl _
        | succ n ih => unfold puN; omega
      exact this _)
  | k + 1, _, .inr ⟨ds, e, hl, h⟩ => by
    subst e
    refine (smd_tup fun x hx => (h x hx).sm).mono (Nat.le_refl _) ?_
    show _ ≤ (puN k + 2) * 25 + 3
    have := Nat.mul_le_mul_left (puN k + 2) hl
    omega
theorem Pu.pure {k : Nat} {d : D} (h : Pu k d) : pureD d = true := h.sm.pure
/-- a list or a dict of the store, not the pot -/
inductive Ob1 (μ : Mu) (p : Addr) : D → Prop
  | lst {a : Addr} {ds : List D} : μ a = some (.lst ds) → a ≠ p → Ob1 μ p (.ob a)
  | dct {a : Addr} {ks : List Key} {ds : List D} : μ a = some (.dct ks ds) → a ≠ p → Ob1 μ p (.ob a)
theorem Ob1.keep {μ μ' : Mu} {p : Addr} {d : D} (h : Ob1 μ p d) (k : ∀ b o, b ≠ p → μ b = some o → μ' b = some o) : Ob1 μ' p d := by
  cases h with
  | lst e n => exact .lst (k _ _ n e) n
  | dct e n => exact .dct (k _ _ n e) n
theorem Ob1.seen {μ : Mu} {p : Addr} {d : D} (h : Ob1 μ p d) : Seen μ d := by
  cases h with
  | lst e n => exact fun t => ⟨_, by unfold isA; dsimp only; rw [e]⟩
  | dct e n => exact fun t => ⟨_, by unfold isA; dsimp only; rw [e]⟩
/-- a value that is tried: at the top and n deep there may be lists and dicts -/
def VP (μ : Mu) (p : Addr) : Nat → D → Prop
  | 0, d => Pu 2 d
  | n + 1, d => Lf d ∨ Ob1 μ p d ∨ ∃ ds, d = .tup ds ∧ ds.length ≤ 25 ∧ ∀ x ∈ ds, VP μ p n x
section
variable {μ μ' : Mu} {p : Addr}
theorem Lf.vp {d : D} (h : Lf d) : ∀ n, VP μ p n d
  | 0 => .inl h
  | _ + 1 => .inl h
theorem VP.tup {n : Nat} {ds : List D} (h : ∀ x ∈ ds, VP μ p n x) (hl : ds.length ≤ 25) : VP μ p (n + 1) (.tup ds) := .inr (.inr ⟨ds, rfl, hl, h⟩)
theorem VP.up : ∀ {n : Nat} {d : D}, VP μ p n d → VP μ p (n + 1) d
  | 0, _, .inl h => .inl h
  | 0, _, .inr ⟨ds, e, hl, h⟩ => .inr (.inr ⟨ds, e, hl, fun x hx => (h x hx).up⟩)
  | _ + 1, _, .inl h => .inl h
  | _ + 1, _, .inr (.inl h) => .inr (.inl h)
  | _ + 1, _, .inr (.inr ⟨ds, e, hl, h⟩) => .inr (.inr ⟨ds, e, hl, fun x hx => (h x hx).up⟩)
theorem VP.mono {n m : Nat} {d : D} (h : VP μ p n d) (hn : n ≤ m) : VP μ p m d := by
  induction m with
  | zero => obtain rfl : n = 0 := by omega
            exact h
  | succ m ih =>
    rcases Nat.lt_or_ge n (m + 1) with g | g
    · exact (ih (by omega)).up
    · obtain rfl : n = m + 1 := by omega
      exact h
theorem VP.keep (k : ∀ b o, b ≠ p → μ b = some o → μ' b = some o) : ∀ {n : Nat} {d : D}, VP μ p n d → VP μ' p n d
  | 0, _, h => h
  | _ + 1, _, .inl h => .inl h
  | _ + 1, _, .inr (.inl h) => .inr (.inl (h.keep k))
  | _ + 1, _, .inr (.inr ⟨ds, e, hl, h⟩) => .inr (.inr ⟨ds, e, hl, fun x hx => VP.keep k (h x hx)⟩)
theorem VP.seen : ∀ {n : Nat} {d : D}, VP μ p n d → Seen μ d
  | 0, _, h => seen_pure h.pure
  | _ + 1, _, .inl h => seen_pure h.sm.pure
  | _ + 1, _, .inr (.inl h) => h.seen
  | _ + 1, _, .inr (.inr ⟨_, e, _, _⟩) => fun t => by subst e; exact ⟨_, rfl⟩
theorem VP.parts {n : Nat} {ds : List D} (h : VP μ p (n + 1) (.tup ds)) : ds.length ≤ 25 ∧ ∀ x ∈ ds, VP μ p n x := by
  rcases h with h | h | ⟨es, e, hl, h⟩
  · exact absurd h.notTup (fun z => nomatch z)
  · cases h
  · cases e; exact ⟨hl, h⟩
theorem VP.parts0 {ds : List D} (h : VP μ p 0 (.tup ds)) : ds.length ≤ 25 ∧ ∀ x ∈ ds, Pu 1 x := by
  rcases h with h | ⟨es, e, hl, h⟩
  · exact absurd h.notTup (fun z => nomatch z)
  · cases e; exact ⟨hl, h⟩
theorem VP.seen2 {n : Nat} {d : D} (h : VP μ p n d) : Seen2 μ d := by
  refine ⟨h.seen, fun ds e => ?_⟩
  subst e
  have := h.up.parts
  exact ⟨by omega, fun x hx => (this.2 x hx).seen⟩
end
/-- a text that may be bent -/
def StrG (x : Str) : Bool := PyData.strOk x && decide (x.length ≤ 30) && PyData.strOk (Txt.upper x) && decide ((Txt.upper x).length ≤ 60) && PyData.strOk (L2.cutS x (some 1) none) && decide ((L2.cutS x (some 1) none).length ≤ 30) && PyData.strOk (x ++ "a") && decide ((x ++ "a").length ≤ 31)
/-- data that may be bent, less than n deep -/
def Bn : Nat → D → Prop
  | 0, _ => False
  | n + 1, d => (∃ i, d = .int i ∧ -10 ^ 20 ≤ i ∧ i ≤ 10 ^ 20) ∨ (∃ x, d = .str x ∧ StrG x = true) ∨ (∃ b, d = .bl b) ∨ ∃ ds, d = .tup ds ∧ ds ≠ [] ∧ ds.length ≤ 10 ∧ ∀ x ∈ ds, Bn n x
theorem StrG.lf {x : Str} (h : StrG x = true) : Lf (.str x) ∧ Lf (.str (Txt.upper x)) ∧ Lf (.str (L2.cutS x (some 1) none)) ∧ Lf (.str (x ++ "a")) := by
  unfold StrG at h
  simp only [Bool.and_eq_true, decide_eq_true_eq] at h
  obtain ⟨⟨⟨⟨⟨⟨⟨h1, h2⟩, h3⟩, h4⟩, h5⟩, h6⟩, h7⟩, h8⟩ := h
  exact ⟨.str h1 (by omega), .str h3 h4, .str h5 (by omega), .str h7 (by omega)⟩
theorem StrG.len {x : Str} (h : StrG x = true) : x.length ≤ 30 := by
  unfold StrG at h
  simp only [Bool.and_eq_true, decide_eq_true_eq] at h
  exact h.1.1.1.1.1.1.2
theorem lf_int {i : Int} (h1 : -10 ^ 30 < i) (h2 : i < 10 ^ 30) : Lf (.int i) := .int ⟨h1, h2⟩
theorem Bn.vp {μ : Mu} {p : Addr} : ∀ {n : Nat} {d : D}, Bn (n + 1) d → VP μ p n d
  | n, _, .inl ⟨i, e, h1, h2⟩ => e ▸ (lf_int (by omega) (by omega)).vp n
  | n, _, .inr (.inl ⟨x, e, h⟩) => e ▸ (StrG.lf h).1.vp n
  | n, _, .inr (.inr (.inl ⟨b, e⟩)) => e ▸ (Lf.bl b).vp n
  | 0, _, .inr (.inr (.inr ⟨ds, e, h1, h2, h3⟩)) => by
    cases ds with
    | nil => exact absurd rfl h1
    | cons d ds => exact (h3 d List.mem_cons_self).elim
  | n + 1, _, .inr (.inr (.inr ⟨ds, e, h1, h2, h3⟩)) => by
    subst e
    exact .tup (fun x hx => (h3 x hx).vp) (by omega)
/-- the rest of such a tuple -/
theorem bn_part {μ : Mu} {p : Addr} {n : Nat} {ds : List D} (h : ∀ x ∈ ds, Bn (n + 1) x) (hl : ds.length ≤ 10) (lo hi : Option Int) : (cutD ds lo hi).length ≤ 10 ∧ ∀ x ∈ cutD ds lo hi, VP μ p n x := by
  refine ⟨?_, fun x hx => (h x (List.mem_of_mem_drop (List.mem_of_mem_take hx))).vp⟩
  unfold cutD
  rw [List.length_take, List.length_drop]
  omega
theorem bn_none {ds : List D} (h : ∀ x ∈ ds, Bn 0 x) : ds = [] := by
  cases ds with
  | nil => rfl
  | cons d ds => exact (h d List.mem_cons_self).elim
/-- turn and least are such texts -/
theorem strG_turn : StrG "turn" = true := by decide +kernel
theorem strG_least : StrG "least" = true := by decide +kernel
theorem bn_int {i : Int} (n : Nat) (h1 : -10 ^ 20 ≤ i) (h2 : i ≤ 10 ^ 20) : Bn (n + 1) (.int i) := .inl ⟨i, rfl, h1, h2⟩
theorem bn_str {x : Str} (n : Nat) (h : StrG x = true) : Bn (n + 1) (.str x) := .inr (.inl ⟨x, rfl, h⟩)
theorem bn_tup {n : Nat} {ds : List D} (h : ∀ x ∈ ds, Bn n x) (h1 : ds ≠ []) (h2 : ds.length ≤ 10) : Bn (n + 1) (.tup ds) := .inr (.inr (.inr ⟨ds, rfl, h1, h2, h⟩))
end Sq

/-! sorted(set(xs)) of a list of ints; zip; stars in displays. -/
namespace Sq
open PySem PySem.Spec PyProof.Rows L2
/-- the object of an empty set -/
abbrev oSet (w : World) : Obj := { cls := .type "set", dict := none, data := .set #[] 0 (.fresh 0 0 (!w.params.followText "set-order")) }
section
variable {P : Program} {w : World} {A : Around} {E : Value → Shared → Prop} {s : Shared}
/-- set(xs), xs a list of ints -/
theorem set_of_list {l : Addr} {items : Array Value} (ns : List Int) {Q : Value → Shared → Prop} (hh : A.handled = none) (hl : s.heap.IsList l items) (hit : IntsAre items.toList ns) (hb : ns.length + 1 < scanBound)
    (h : ∀ (h' : Heap) (tk c : Nat), SetR w h' s.heap.objs.size (fun j => decide (j ∈ ns)) c → c ≤ ns.length → (∀ b o, s.heap.get? b = some o → h'.get? b = some o) → Q (.ref s.heap.objs.size) { s with heap := h', toks := tk }) :
    wpAny (model P w) A (call (.type "set") [.ref l]) Q E s := by
  have cnt : items.size = ns.length := by have := IntsAre.length hit; rwa [Array.length_toList] at this
  have L := F.called_set
  obtain ⟨_, _, hmro⟩ := L.mro
  have hm1 := L.made; have hm2 := L.sub; have hm3 := L.notType; have hm4 := L.canCreate
  have hct := F.typeCall_set_1 (.ref l)
  refine wpAny_call (codeAny_of_tree ?_); show wpAny _ _ (callAny (.type "set") _) _ _ _
  refine wpAny_pure ⟨Code.quiet_builtin _ (by decide +kernel), codeAny_builtin F.entry_type_call ?_⟩; rw [Around.under_plain (weight_type_call_type "set" [.ref l] []) rfl]
  repeat (any_goals (first | assumption | wp_step))
  refine codeAny_mono (code_set_led1 (.ref l) (E := E) (Q₁ := fun x s1 => x = .ref s.heap.objs.size ∧ s1 = { s with heap := s.heap.push (oSet w) }) ⟨rfl, rfl⟩) fun r s1 hr => ?_
  match r, hr with
  | .error _, hr => exact hr
  | .ok .next, hr => exact hr.elim
  | .ok .brk, hr => exact hr.elim
  | .ok .cont, hr => exact hr.elim
  | .ok (.ret x), ⟨e1, e2⟩ =>
    subst e1; subst e2
    have g0 : (s.heap.push (oSet w)).get? s.heap.objs.size = some (oSet w) := Heap.get?_push_size _ rfl
    have tS : Shared.TypeIs { s with heap := s.heap.push (oSet w) } (.ref s.heap.objs.size) "set" := ⟨_, g0, rfl⟩
    have i1 := L.init.lookup; have i2 := L.init.bind (.ref s.heap.objs.size)
    repeat (any_goals (first | assumption | wp_step))
    refine codeAny_mono (codeAny_call_builtin (R := wants (fun r s2 => r = .none ∧ ∃ h' tk c, s2 = { s with heap := h', toks := tk } ∧ SetR w h' s.heap.objs.size (fun j => decide (j ∈ ns)) c ∧ c ≤ ns.length ∧ ∀ b o, s.heap.get? b = some o → h'.get? b = some o) E)
      L.init.plain F.entry_set_init (check_set_init_1 tS ?_)) fun r2 s2 hr2 => ?_
    rotate_left
    · match r2, hr2 with
      | .error _, hr2 => exact hr2
      | .ok .next, hr2 => exact hr2.elim
      | .ok .brk, hr2 => exact hr2.elim
      | .ok .cont, hr2 => exact hr2.elim
      | .ok (.ret _), ⟨e3, h', tk, c, e4, a1, a2, a3⟩ =>
        subst e3; subst e4
        repeat (any_goals (first | assumption | wp_step))
        exact h _ _ _ a1 a2 a3
    obtain ⟨⟨oc, od, dt, osl⟩, hol, hcl, nl, hdl⟩ := hl
    simp only at hcl hdl; subst hcl; subst hdl
    have hlt := Heap.lt_size hol
    have hol' : (s.heap.push (oSet w)).get? l = some { cls := .type "list", dict := od, data := .seq items nl, slots := osl } := Heap.get?_push_of_some _ hol
    have b1 := F.sub_list_set; have b2 := F.sub_list_frozenset
    have b3 : (Value.type "list" == Value.type "dict") = false := by decide
    have hl1 : (s.heap.push (oSet w)).IsList l items := ⟨_, hol', rfl, nl, rfl⟩
    unfold Builtin.«set.__init__» noKeywords Builtin.Frozenset.updateFrom
    generalize hPI : pyIter = PI
    wp_walk
    subst hPI
    refine wpAny_pyIter_list hl1 ?_; refine wpAny_bind (wpAny_runValue ?_)
    have n1 : l ≠ (s.heap.push (oSet w)).objs.size := by rw [Heap.size_push]; exact Nat.ne_of_lt (Nat.lt_succ_of_lt hlt)
    have n2 : s.heap.objs.size ∉ [(s.heap.push (oSet w)).objs.size, l] := fun z => by
      rw [Heap.size_push] at z
      rcases List.mem_cons.mp z with z | z
      · exact Nat.ne_of_lt (Nat.lt_succ_self _) z
      · exact Nat.ne_of_gt hlt (List.mem_singleton.mp z)
    have hh3 : A.in1.in1.in1.handled = none := by simp [hh]
    refine set_update_ints ((Walks.list hh3 _ l n1 items).toS) s.heap.objs.size n2 ns cnt hb (fun i v hv => ?_) (items.size - 0) 0 _ (by omega) (Nat.zero_le _) ⟨⟨_, Heap.get?_push_size _ rfl, rfl, rfl⟩, (hl1.push _)⟩ ⟨0, Nat.le_refl 0, setR_new_at (Heap.get?_push_of_some _ g0)⟩ ?_
    · have hi : i < ns.length := by rw [← cnt]; exact (Array.getElem?_eq_some_iff.mp hv).1
      obtain ⟨t, e⟩ := PyProof.Rows.IntsAre.int_at hit i v (by rw [Array.getElem?_toList]; exact hv)
      exact ⟨ns[i], t, List.getElem?_eq_getElem hi, by rw [e, List.getD_eq_getElem?_getD, List.getElem?_eq_getElem hi]; rfl⟩
    · rintro ⟨h', g2, d', tk', os'⟩ c' hm hc' hS'
      obtain rfl : g2 = s.gens := hm.gens
      obtain rfl : d' = s.drawn := hm.drawn
      obtain rfl : os' = s.os := hm.os
      show wpAny _ _ _ _ _ _
      refine wpAny_pure ?_
      show wpAny _ _ (ret Value.none) _ _ _
      rw [cnt] at hc'
      refine wpAny_pure ⟨rfl, h', tk', c', rfl, hS', hc', fun b o e => hm.heap b o ?_ (Heap.get?_push_of_some _ (Heap.get?_push_of_some _ e))⟩
      have hb0 := Heap.lt_size e
      intro z
      rw [Heap.size_push] at z
      rcases List.mem_cons.mp z with z | z
      · exact Nat.ne_of_lt hb0 z
      · exact Nat.ne_of_lt (Nat.lt_succ_of_lt hb0) (List.mem_singleton.mp z)
/-- sorted(a set of ints), of any size -/
theorem sorted_of_set {a : Addr} {S : Int → Bool} {n : Nat} {Q : Value → Shared → Prop} (R : SetR w s.heap a S n) (hh : A.handled = none) (hz : n ≤ sizeLine)
    (hQ : ∀ s' p (out : Array Value) (c : Nat) (ns : List Int), (∀ b o, s.heap.get? b = some o → s'.heap.get? b = some o) → s'.gens = s.gens → s'.os = s.os → s.heap.objs.size ≤ p →
      s'.heap.get? p = some (seqObj "list" out c) → IntsAre out.toList ns → ns.Pairwise (· < ·) → (∀ k, k ∈ ns ↔ S k = true) → ns.length = n → Q (.ref p) s') : wpAny (model P w) A (call (.builtin "sorted") [.ref a]) Q E s := by
  obtain ⟨o, es, ep, t, ho, hex, hd, g, nd, hm, hb, hf, hn, hr, hl⟩ := R
  refine Calls.call_function_entry kind_sorted plain_sorted entry_sorted (args_sorted1 _) ?_
  unfold Builtin.«sorted»
  refine wpAny_bind (m := checkCount "sorted" 1 1 _) (wpAny_pure ?_); refine wpAny_bind (collect_set (A := A.in1) hh ⟨o, ho, hex.1, hd⟩ hf hb hr hl fun s1 vs k1 hz1 g1 o1 pm => ?_)
  have hvl : vs.length = n := by rw [pm.length_eq, List.length_map, Array.length_toList]; exact hn
  have are : ∀ v ∈ vs, ∃ e ∈ es.toList, v = e.2 := fun v hv => by obtain ⟨e, h1, h2⟩ := List.mem_map.mp (pm.mem_iff.mp hv); exact ⟨e, h1, h2.symm⟩
  have hI : IntsAre vs (vs.map SrtO.iv) := SrtO.ints_iv fun v hv => by
    obtain ⟨e, he, rfl⟩ := are v hv
    obtain ⟨k, tk, h1, _⟩ := g e he
    exact ⟨k, tk, h1⟩
  have pk : (vs.map SrtO.iv).Perm (es.toList.map keyOf) := by
    refine (pm.map SrtO.iv).trans ?_
    rw [List.map_map]
    refine List.Perm.of_eq (List.map_congr_left fun e he => ?_)
    obtain ⟨k, tk, h1, h2⟩ := g e he
    show SrtO.iv e.2 = keyOf e
    unfold keyOf
    rw [h1]; rfl
  refine wpAny_bind (wpAny_newList ?_ (by rw [hvl]; exact hz))
  have hoL : (s1.heap.push (seqObj "list" vs.toArray 0)).get? s1.heap.objs.size = some (seqObj "list" vs.toArray 0) := Heap.get?_push_size _ rfl
  refine wpAny_bind (wpAny_holding (wpAny_call_entry slot_list_sort ⟨_, hoL, rfl⟩ entry_list_sort (SrtO.list_sort_ord SrtO.swo_int hoL (by rw [hvl]; exact hz) (fun h2 => SrtO.ints_sortable hI h2) fun out b1 b2 => ⟨_, rfl, ?_⟩) (args_list_sort _)))
  obtain ⟨q1, q2, q3⟩ := SrtO.ints_out hI b1 b2
  obtain ⟨c, hc⟩ := sortedHeap_at (vs := vs) (out := out.toArray) hoL
  have pn : (out.map SrtO.iv).Perm (es.toList.map keyOf) := q2.trans pk
  refine wpAny_pure ⟨_, rfl, hQ _ s1.heap.objs.size out.toArray c _ (fun b u e => ?_) g1 o1 hz1 hc q1 (lt_of_le_nodup _ q3 (pn.nodup_iff.mpr nd)) (fun k => by rw [pn.mem_iff, ← hm k]) (by rw [pn.length_eq, List.length_map, Array.length_toList]; exact hn)⟩
  have q := k1 b u e
  have hlt := Heap.lt_size q
  show (sortedHeap (s1.heap.push (seqObj "list" vs.toArray 0)) s1.heap.objs.size vs out.toArray).get? b = some u
  rw [sortedHeap_old (Nat.ne_of_lt hlt) (by rw [size_push']; exact Nat.lt_succ_of_lt hlt)]; exact Heap.get?_push_of_some _ q
end
/-- sorted(set(xs)) -/
def tSortSet (K : PySem.W.Frag) (ta : TE) : TE := fun σ H Q => ta σ H fun x H1 => ∃ (l : Addr) (ns : List Int), x = .ref l ∧ SqL K H1 l (ns.map V.int) ∧ ns.length ≤ 4000 ∧
  ∀ (ns' : List Int) (p : Addr), ns'.Pairwise (· < ·) → (∀ k, k ∈ ns' ↔ k ∈ ns) → H1 p = none → Q (.ref p) (upd H1 p (.lst (ns'.map V.int)))
section
variable {X : Cx} {Wx : WX}
theorem pe_sortSet {a : Expr} {ta : TE} {p p2 q pos : Pos} (hg : Gl X "sorted") (hm : X.mg "sorted" = none) (hg2 : Gl X "set") (hm2 : X.mg "set" = none) (ha : PE X a ta) (hc : X.calm = true := by rfl)
    (na : starEach [a] X.env = (false, eval a X.env) :: starEach [] X.env := by rfl) : PE X (.Call (.Name "sorted" p) [.Call (.Name "set" p2) [a] [] q] [] pos) (tSortSet X.K ta) := by
  refine ⟨fun pins s σ H Q I h => ?_⟩
  refine Call_ (ld_blt I hg hm (show bootBuiltins "sorted" = some (.builtin "sorted") by decide +kernel) ?_)
  refine PyProof.Rows.callWith_builtin1 (PyProof.Rows.args_cons ?_ rfl) rfl rfl; refine Call_ (ld_blt I hg2 hm2 boot_set ?_)
  refine PyProof.Rows.callWith_type1 (PyProof.Rows.args_cons (thn (ha.run pins s σ H _ I h) fun v s1 ⟨x, H1, I1, r1, q1⟩ => PyProof.Rows.args_nil ?_) na) na rfl
  obtain ⟨l, ns, rfl, hq, hl, q1⟩ := q1
  cases r1
  obtain ⟨its, r, pl, hz⟩ := I1.list hq
  refine set_of_list ns (I1.ok.hd hc) pl.isList (by simpa using RZ.intsAre_vals r) (by unfold scanBound; omega) fun h' tk c hS hcl hk => ?_
  refine PyProof.Rows.args_nil ?_
  have I2 : Inv X pins σ H1 { s1 with heap := h', toks := tk } := I1.kept fun b o e => hk b o e
  refine sorted_of_set hS (I1.ok.hd hc) (Nat.le_trans (Nat.le_trans hcl hl) (small_size (by decide))) fun s' p out c2 ns' k g o hp hg hi hs hmm hln => ?_
  have hlen : (ns'.map V.int).length ≤ sizeLine := by rw [List.length_map, hln]; exact Nat.le_trans (Nat.le_trans hcl hl) (small_size (by decide))
  have hn : H1 p = none := I2.hok.fresh hp
  have J : Inv X pins σ (upd H1 p (.lst (ns'.map V.int))) { ({ s1 with heap := h', toks := tk } : Shared) with heap := s'.heap, gens := s'.gens, drawn := s'.drawn, toks := s'.toks } :=
    I2.call (ch := []) (Un.laid k hp hn) (I2.hok.laid k hp ⟨hlen, out.toList, c2, vals_of_ints hi, hg⟩) (by rw [g]; exact I2.bare) (fun _ z => nomatch z)
  have e : s' = { s1 with heap := s'.heap, gens := s'.gens, drawn := s'.drawn, toks := s'.toks } := by cases s'; cases s1; cases o; rfl
  rw [e]
  exact ⟨.ref p, _, J, rfl, q1 ns' p hs (fun k => by rw [hmm k, decide_eq_true_eq]) hn⟩
/-- the ints of a list of the store -/
def intsAt (μ : Mu) (d : D) (ns : List Int) : Prop := ∃ a, d = .ob a ∧ μ a = some (.lst (ns.map D.int))
def wSortSet (a : WE) : WE := ⟨fun ρ μ Q X => a.run ρ μ (fun d μ1 => ∃ ns : List Int, intsAt μ1 d ns ∧ ns.length ≤ 4000 ∧ ∀ (ns' : List Int) (p : Addr), ns'.Pairwise (· < ·) → (∀ k, k ∈ ns' ↔ k ∈ ns) → μ1 p = none → Q (.ob p) (mset μ1 p (.lst (ns'.map D.int)))) X,
  fun hQ hX h => a.mono (fun _ _ ⟨ns, h1, h2, h3⟩ => ⟨ns, h1, h2, fun ns' p a b c => hQ _ _ (h3 ns' p a b c)⟩) hX h⟩
theorem wSortSet_run {a : WE} {ρ : Ev} {μ : Mu} {Q : PQ} {X : XQ} : (wSortSet a).run ρ μ Q X = a.run ρ μ (fun d μ1 => ∃ ns : List Int, intsAt μ1 d ns ∧ ns.length ≤ 4000 ∧ ∀ (ns' : List Int) (p : Addr), ns'.Pairwise (· < ·) → (∀ k, k ∈ ns' ↔ k ∈ ns) → μ1 p = none → Q (.ob p) (mset μ1 p (.lst (ns'.map D.int)))) X := rfl
theorem le_sortSet {a : Expr} {w : WE} {p p2 q pos : Pos} (hm : X.mg "sorted" = none) (hm2 : X.mg "set" = none) (ha : LE X Wx a w) (hg : Gl X "sorted" := by rfl) (hg2 : Gl X "set" := by rfl) (hc : X.calm = true := by rfl)
    (na : starEach [a] X.env = (false, eval a X.env) :: starEach [] X.env := by rfl) : LE X Wx (.Call (.Name "sorted" p) [.Call (.Name "set" p2) [a] [] q] [] pos) (wSortSet w) := PE.weak (pe_sortSet hg hm hg2 hm2 ha hc na) fun σ H Q ⟨ρ, μ, E, S, h⟩ => by
  refine lW.bind E S h (fun x μ1 v H1 F1 S1 E1 r1 h1 => ?_) fun _ _ _ h => h
  obtain ⟨ns, ⟨a, rfl, e⟩, hl, q⟩ := h1
  obtain ⟨vs, h2, r⟩ := S1.lst e
  rw [Rps.ints r] at h2
  refine ⟨a, ns, rp_ob r1, SqL.of h2, hl, fun ns' p g1 g2 g3 => ?_⟩
  have F2 : Fr μ1 H1 (mset μ1 p (.lst (ns'.map D.int))) (upd H1 p (.lst (ns'.map V.int))) := fr_new g3
  exact (q ns' p g1 g2 (S1.free g3)) (.ref p) _ (F1.trans F2) (sim_lst S1 F2 (Rps.of_ints ns')) rfl
end
end Sq

/-! zip; stars in displays. -/
namespace Sq
open PySem PySem.Spec PyProof.Rows L2
def pairD (x y : D) : D := .tup [x, y]
theorem zip_get {xs ys : List D} {i : Nat} {d : D} (h : (List.zipWith pairD xs ys)[i]? = some d) : ∃ x y, xs[i]? = some x ∧ ys[i]? = some y ∧ d = pairD x y := by
  rw [List.getElem?_zipWith] at h
  cases e1 : xs[i]? with
  | none => rw [e1] at h; cases h
  | some x =>
    cases e2 : ys[i]? with
    | none => rw [e1, e2] at h; cases h
    | some y => rw [e1, e2] at h; cases h; exact ⟨x, y, rfl, rfl, rfl⟩
theorem rps_pair {K : PySem.W.Frag} {H : Hp} {x y : D} {v u : V} (a : Rp K H x v) (b : Rp K H y u) : Rps K H [x, y] [v, u] := by
  unfold Rps
  refine ⟨_, _, rfl, a, ?_⟩
  unfold Rps
  exact ⟨_, _, rfl, b, rfl⟩
theorem itOk_zipT {K : PySem.W.Frag} {μ : Mu} {H : Hp} {p q : Addr} {vs us : List V} {ds es : List D} (S : Sim K μ H) (t : SqT K H p vs) (r : Rps K H ds vs) (t2 : SqT K H q us) (r2 : Rps K H es us) : ItOk K μ H (RZ.ItzT K p q) (List.zipWith pairD ds es) (fun _ => True) where
  stop := fun μ' H' F S' _ => ⟨vs, us, sqT_keep S F t, sqT_keep S F t2, by
    rw [List.length_zipWith, r.length, r2.length]; omega⟩
  go := fun i d μ' H' e F S' _ => by
    obtain ⟨x, y, h1, h2, _⟩ := zip_get e
    obtain ⟨v, g1, _⟩ := r.get h1
    obtain ⟨u, g2, _⟩ := r2.get h2
    exact ⟨vs, us, v, u, sqT_keep S F t, sqT_keep S F t2, g1, g2⟩
  yld := fun i d μ' H' z H2 e F S' _ y => by
    obtain ⟨x, y', h1, h2, rfl⟩ := zip_get e
    obtain ⟨T, a, b, rfl, hT, rfl, k1, k2⟩ := y
    obtain ⟨v, g1, q1⟩ := (Rps.keep S F ds r).get h1
    obtain ⟨u, g2, q2⟩ := (Rps.keep S F es r2).get h2
    have e1 := k1 vs (sqT_keep S F t)
    rw [g1] at e1; cases e1
    have e2 := k2 us (sqT_keep S F t2)
    rw [g2] at e2; cases e2
    exact ⟨fr_tup hT, sim_tup S' hT, rp_mk (SqT.of upd_same) (Rps.keep S' (fr_tup hT) _ (rps_pair q1 q2))⟩
theorem itOk_zipL {K : PySem.W.Frag} {μ : Mu} {H : Hp} {a b : Addr} {ds es : List D} : ItOk K μ H (Itz K a b) (List.zipWith pairD ds es) (fun μ' => μ' a = some (.lst ds) ∧ μ' b = some (.lst es)) where
  stop := fun μ' H' F S' c => by
    obtain ⟨vs, h1, r⟩ := S'.lst c.1
    obtain ⟨us, h2, r2⟩ := S'.lst c.2
    exact ⟨vs, us, SqL.of h1, SqL.of h2, by rw [List.length_zipWith, r.length, r2.length]; omega⟩
  go := fun i d μ' H' e F S' c => by
    obtain ⟨vs, h1, r⟩ := S'.lst c.1
    obtain ⟨us, h2, r2⟩ := S'.lst c.2
    obtain ⟨x, y, z1, z2, _⟩ := zip_get e
    obtain ⟨v, g1, _⟩ := r.get z1
    obtain ⟨u, g2, _⟩ := r2.get z2
    exact ⟨vs, us, v, u, SqL.of h1, SqL.of h2, g1, g2⟩
  yld := fun i d μ' H' z H2 e F S' c y => by
    obtain ⟨x, y', z1, z2, rfl⟩ := zip_get e
    obtain ⟨T, p, q, rfl, hT, rfl, k1, k2⟩ := y
    obtain ⟨vs, h1, r⟩ := S'.lst c.1
    obtain ⟨us, h2, r2⟩ := S'.lst c.2
    obtain ⟨v, g1, q1⟩ := r.get z1
    obtain ⟨u, g2, q2⟩ := r2.get z2
    have e1 := k1 vs (SqL.of h1)
    rw [g1] at e1; cases e1
    have e2 := k2 us (SqL.of h2)
    rw [g2] at e2; cases e2
    exact ⟨fr_tup hT, sim_tup S' hT, rp_mk (SqT.of upd_same) (Rps.keep S' (fr_tup hT) _ (rps_pair q1 q2))⟩
def fZip (x y : D) (μ : Mu) (Q : List D → (Mu → Prop) → Mu → Prop) : Prop := match x, y with
  | .tup xs, .tup ys => Q (List.zipWith pairD xs ys) (fun _ => True) μ
  | .ob a, .ob b => (match μ a, μ b with | some (.lst xs), some (.lst ys) => Q (List.zipWith pairD xs ys) (fun μ' => μ' a = some (.lst xs) ∧ μ' b = some (.lst ys)) μ | _, _ => False)
  | _, _ => False
theorem fZip_tup {xs ys : List D} {μ : Mu} {Q : List D → (Mu → Prop) → Mu → Prop} : fZip (.tup xs) (.tup ys) μ Q = Q (List.zipWith pairD xs ys) (fun _ => True) μ := rfl
theorem fZip_ob {a b : Addr} {μ : Mu} {Q : List D → (Mu → Prop) → Mu → Prop} : fZip (.ob a) (.ob b) μ Q = (match μ a, μ b with | some (.lst xs), some (.lst ys) => Q (List.zipWith pairD xs ys) (fun μ' => μ' a = some (.lst xs) ∧ μ' b = some (.lst ys)) μ | _, _ => False) := rfl
theorem fZip_inv {x y : D} {μ : Mu} {Q : List D → (Mu → Prop) → Mu → Prop} (h : fZip x y μ Q) : (∃ xs ys, x = .tup xs ∧ y = .tup ys ∧ Q (List.zipWith pairD xs ys) (fun _ => True) μ) ∨
    ∃ a b xs ys, x = .ob a ∧ y = .ob b ∧ μ a = some (.lst xs) ∧ μ b = some (.lst ys) ∧ Q (List.zipWith pairD xs ys) (fun μ' => μ' a = some (.lst xs) ∧ μ' b = some (.lst ys)) μ := by
  unfold fZip at h
  split at h
  · exact .inl ⟨_, _, rfl, rfl, h⟩
  · split at h
    · exact .inr ⟨_, _, _, _, rfl, rfl, by assumption, by assumption, h⟩
    · exact h.elim
  · exact h.elim
theorem fZip_mono {x y : D} {μ : Mu} {Q Q' : List D → (Mu → Prop) → Mu → Prop} (hQ : ∀ ds chk μ', Q ds chk μ' → Q' ds chk μ') (h : fZip x y μ Q) : fZip x y μ Q' := by
  rcases fZip_inv h with ⟨xs, ys, rfl, rfl, q⟩ | ⟨a, b, xs, ys, rfl, rfl, e1, e2, q⟩
  · exact hQ _ _ _ q
  · rw [fZip_ob, e1, e2]; exact hQ _ _ _ q
def wZip (a b : WE) : WI := ⟨fun ρ μ Q X => a.run ρ μ (fun x μ1 => b.run ρ μ1 (fun y μ2 => fZip x y μ2 Q) X) X, fun hQ hX h => a.mono (fun _ _ h => b.mono (fun _ _ h => fZip_mono hQ h) hX h) hX h⟩
theorem wZip_run {a b : WE} {ρ : Ev} {μ : Mu} {Q : List D → (Mu → Prop) → Mu → Prop} {X : XQ} : (wZip a b).run ρ μ Q X = a.run ρ μ (fun x μ1 => b.run ρ μ1 (fun y μ2 => fZip x y μ2 Q) X) X := rfl
section
variable {X : Cx} {Wx : WX}
theorem li_zip {e e2 : Expr} {w w2 : WE} {p pos tpos : Pos} {elts : List Expr} {kk : Nat} (hm : X.mg "zip" = none) (ha : LAs X Wx [e, e2] [w, w2]) (hg : Gl X "zip" := by rfl)
    (hs : starEach [e, e2] X.env = (false, eval e X.env) :: starEach [e2] X.env := by rfl) (hpl : (backTo pos (starEach [e2] X.env)).any (·.1) = false := by rfl) : LI X Wx (.Tuple elts kk tpos) (.Call (.Name "zip" p) [e, e2] [] pos) (wZip w w2) :=
  PI.weak (RZ.pi_zipA hg hm ha hs hpl) fun σ H R ⟨ρ, μ, E, S, h⟩ => by
    refine lW.bind (w := wArgs [w, w2]) E S (Q := fun ds μ1 => ∃ x y, ds = [x, y] ∧ fZip x y μ1 fun ds chk μ2 => ∀ J H2, Fr μ H μ2 H2 → Sim X.K μ2 H2 → ItOk X.K μ2 H2 J ds chk → R J H2) (X := OutX X.K Wx σ μ H) ?_ (fun xs μ1 vs H1 F1 S1 E1 r1 h1 => ?_) fun _ _ _ h => h
    · show w.run ρ μ _ _
      exact w.mono (fun x μ1 h => w2.mono (fun y μ2 h => ⟨x, y, rfl, h⟩) (fun _ _ _ h => h) h) (fun _ _ _ h => h) h
    · obtain ⟨x, y, rfl, h2⟩ := h1
      obtain ⟨v, u, rfl, r, r'⟩ := rps2 r1
      rcases fZip_inv h2 with ⟨xs, ys, rfl, rfl, q⟩ | ⟨a, b, xs, ys, rfl, rfl, e1, e2, q⟩
      · obtain ⟨p1, vs1, rfl, t1, g1⟩ := rp_tup r
        obtain ⟨p2, vs2, rfl, t2, g2⟩ := rp_tup r'
        exact ⟨p1, p2, vs1, vs2, rfl, .inr ⟨t1, t2, q _ H1 F1 S1 (itOk_zipT S1 t1 g1 t2 g2)⟩⟩
      · obtain ⟨vs1, h1, g1⟩ := S1.lst e1
        obtain ⟨vs2, h2, g2⟩ := S1.lst e2
        rw [rp_ob r, rp_ob r']
        exact ⟨a, b, vs1, vs2, rfl, .inl ⟨SqL.of h1, SqL.of h2, q _ H1 F1 S1 itOk_zipL⟩⟩
/-! ### stars -/
/-- the items of a tuple, of a list -/
def starQ (x : D) (μ : Mu) (Q : List D → Prop) : Prop := match x with
  | .tup ds => Q ds
  | .rls ds => Q ds
  | .ob a => (match μ a with | some (.lst ds) => Q ds | _ => False)
  | _ => False
theorem starQ_tup {ds : List D} {μ : Mu} {Q : List D → Prop} : starQ (.tup ds) μ Q = Q ds := rfl
theorem starQ_rls {ds : List D} {μ : Mu} {Q : List D → Prop} : starQ (.rls ds) μ Q = Q ds := rfl
theorem starQ_ob {a : Addr} {μ : Mu} {Q : List D → Prop} : starQ (.ob a) μ Q = (match μ a with | some (.lst ds) => Q ds | _ => False) := rfl
theorem starQ_mono {x : D} {μ : Mu} {Q Q' : List D → Prop} (hQ : ∀ ds, Q ds → Q' ds) (h : starQ x μ Q) : starQ x μ Q' := by
  cases x with
  | tup ds => exact hQ _ h
  | rls ds => exact hQ _ h
  | ob a =>
    rw [starQ_ob] at h ⊢
    split at h
    · exact hQ _ h
    · exact h.elim
  | _ => exact h
def runS : List (Bool × WE) → Ev → Mu → (List D → Mu → Prop) → XQ → Prop
  | [], _, μ, Q, _ => Q [] μ
  | (false, w) :: ws, ρ, μ, Q, X => w.run ρ μ (fun d μ1 => runS ws ρ μ1 (fun ds μ2 => Q (d :: ds) μ2) X) X
  | (true, w) :: ws, ρ, μ, Q, X => w.run ρ μ (fun d μ1 => starQ d μ1 fun es => runS ws ρ μ1 (fun ds μ2 => Q (es ++ ds) μ2) X) X
theorem runS_nil {ρ : Ev} {μ : Mu} {Q : List D → Mu → Prop} {X : XQ} : runS [] ρ μ Q X = Q [] μ := rfl
theorem runS_one {w : WE} {ws : List (Bool × WE)} {ρ : Ev} {μ : Mu} {Q : List D → Mu → Prop} {X : XQ} : runS ((false, w) :: ws) ρ μ Q X = w.run ρ μ (fun d μ1 => runS ws ρ μ1 (fun ds μ2 => Q (d :: ds) μ2) X) X := rfl
theorem runS_star {w : WE} {ws : List (Bool × WE)} {ρ : Ev} {μ : Mu} {Q : List D → Mu → Prop} {X : XQ} : runS ((true, w) :: ws) ρ μ Q X = w.run ρ μ (fun d μ1 => starQ d μ1 fun es => runS ws ρ μ1 (fun ds μ2 => Q (es ++ ds) μ2) X) X := rfl
theorem runS_mono : ∀ {ws : List (Bool × WE)} {ρ : Ev} {μ : Mu} {Q Q' : List D → Mu → Prop} {X X' : XQ}, (∀ d μ', Q d μ' → Q' d μ') → (∀ C d μ', X C d μ' → X' C d μ') → runS ws ρ μ Q X → runS ws ρ μ Q' X'
  | [], _, _, _, _, _, _, hQ, _, h => hQ _ _ h
  | (false, w) :: ws, _, _, _, _, _, _, hQ, hX, h => w.mono (fun _ _ h => runS_mono (ws := ws) (fun _ _ h => hQ _ _ h) hX h) hX h
  | (true, w) :: ws, _, _, _, _, _, _, hQ, hX, h => w.mono (fun _ _ h => starQ_mono (fun _ h => runS_mono (ws := ws) (fun _ _ h => hQ _ _ h) hX h) h) hX h
def wArgsS (ws : List (Bool × WE)) : WA := ⟨runS ws, runS_mono⟩
def LAS (X : Cx) (Wx : WX) (es : List Expr) (ws : List (Bool × WE)) : Prop := PA X es (lA X.K Wx (wArgsS ws))
theorem las_nil : LAS X Wx [] [] := PA.weak pa_nil fun σ H Q ⟨ρ, μ, E, S, h⟩ => (show Out (Rps X.K) X.K μ H Q [] μ from h) _ _ (Fr.refl μ H) S rfl
theorem las_one {e : Expr} {es : List Expr} {w : WE} {ws : List (Bool × WE)} (ha : LE X Wx e w) (hr : LAS X Wx es ws) (hs : starEach (e :: es) X.env = (false, eval e X.env) :: starEach es X.env := by rfl) : LAS X Wx (e :: es) ((false, w) :: ws) :=
  PA.weak (pa_cons ha hr hs) fun σ H Q ⟨ρ, μ, E, S, h⟩ => by
    refine lW.bind (w := w) E S h (fun x μ1 v H1 F1 S1 E1 r1 h1 => ?_) fun _ _ _ h => h
    refine lW.bind (w := wArgsS ws) E1 S1 h1 (fun xs μ2 vs H2 F2 S2 E2 r2 h2 => ?_) fun _ _ _ h => h.trans F1
    exact h2 _ _ (F1.trans F2) S2 (by unfold Rps; exact ⟨_, _, rfl, Rp.keep S1 F2 x r1, r2⟩)
theorem las_star {e : Expr} {p : Pos} {es : List Expr} {w : WE} {ws : List (Bool × WE)} (ha : LE X Wx e w) (hr : LAS X Wx es ws) (hs : starEach (.Starred e p :: es) X.env = (true, eval e X.env) :: starEach es X.env := by rfl) : LAS X Wx (.Starred e p :: es) ((true, w) :: ws) :=
  PA.weak (StX.pa_star (te := lE X.K Wx w) (t := lA X.K Wx (wArgsS ws)) ha hr hs) fun σ H Q ⟨ρ, μ, E, S, h⟩ => by
    refine lW.bind (w := w) E S h (fun x μ1 v H1 F1 S1 E1 r1 h1 => ?_) fun _ _ _ h => h
    have fin : ∀ (ds : List D) (vs : List V), Rps X.K H1 ds vs → runS ws ρ μ1 (fun es μ2 => Out (Rps X.K) X.K μ H Q (ds ++ es) μ2) (OutX X.K Wx σ μ H) → lA X.K Wx (wArgsS ws) σ H1 fun ys H2 => Q (vs ++ ys) H2 := fun ds vs r h => by
      refine lW.bind (w := wArgsS ws) E1 S1 h (fun xs μ2 us H2 F2 S2 E2 r2 h2 => ?_) fun _ _ _ h => h.trans F1
      exact h2 _ _ (F1.trans F2) S2 (Rps.append (Rps.keep S1 F2 ds r) r2)
    cases x with
    | tup ds =>
      obtain ⟨q, vs, rfl, t, r⟩ := rp_tup r1
      exact ⟨q, vs, rfl, .inl t, fin ds vs r h1⟩
    | rls ds =>
      obtain ⟨q, vs, rfl, t, r⟩ := rp_rls r1
      exact ⟨q, vs, rfl, .inr t.l, fin ds vs r h1⟩
    | ob a =>
      rw [starQ_ob] at h1
      split at h1
      · rename_i ds e
        obtain ⟨vs, h2, r⟩ := S1.lst e
        exact ⟨a, vs, rp_ob r1, .inr (SqL.of h2), fin ds vs r h1⟩
      · exact h1.elim
    | _ => exact h1.elim
def wTupS (ws : List (Bool × WE)) : WE := ⟨fun ρ μ Q X => runS ws ρ μ (fun ds μ1 => ds.length ≤ sizeLine ∧ Q (.tup ds) μ1) X, fun hQ hX h => runS_mono (fun _ _ h => ⟨h.1, hQ _ _ h.2⟩) hX h⟩
def wLstS (ws : List (Bool × WE)) : WE := ⟨fun ρ μ Q X => runS ws ρ μ (fun ds μ1 => ds.length ≤ sizeLine ∧ ∀ p, μ1 p = none → Q (.ob p) (mset μ1 p (.lst ds))) X, fun hQ hX h => runS_mono (fun _ _ h => ⟨h.1, fun p hp => hQ _ _ (h.2 p hp)⟩) hX h⟩
theorem wTupS_run {ws : List (Bool × WE)} {ρ : Ev} {μ : Mu} {Q : PQ} {X : XQ} : (wTupS ws).run ρ μ Q X = runS ws ρ μ (fun ds μ1 => ds.length ≤ sizeLine ∧ Q (.tup ds) μ1) X := rfl
theorem wLstS_run {ws : List (Bool × WE)} {ρ : Ev} {μ : Mu} {Q : PQ} {X : XQ} : (wLstS ws).run ρ μ Q X = runS ws ρ μ (fun ds μ1 => ds.length ≤ sizeLine ∧ ∀ p, μ1 p = none → Q (.ob p) (mset μ1 p (.lst ds))) X := rfl
theorem le_tupS {es : List Expr} {x1 pos} {ws : List (Bool × WE)} (h : LAS X Wx es ws) : LE X Wx (.Tuple es x1 pos) (wTupS ws) := PE.weak (pe_tup h) fun σ H Q ⟨ρ, μ, E, S, h⟩ => by
  refine lW.bind (w := wArgsS ws) E S h (fun xs μ1 vs H1 F1 S1 E1 r1 h1 => ⟨?_, ?_⟩) fun _ _ _ h => h
  · rw [r1.length]; exact h1.1
  · exact out_tup S1 r1 ((show Out (Rp X.K) X.K μ H Q _ _ from h1.2).trans F1)
theorem le_lstS {es : List Expr} {pos} {ws : List (Bool × WE)} (h : LAS X Wx es ws) : LE X Wx (.List es pos) (wLstS ws) := PE.weak (pe_lst h) fun σ H Q ⟨ρ, μ, E, S, h⟩ => by
  refine lW.bind (w := wArgsS ws) E S h (fun xs μ1 vs H1 F1 S1 E1 r1 h1 => ⟨?_, ?_⟩) fun _ _ _ h => h
  · rw [r1.length]; exact h1.1
  · exact out_lst S1 r1 fun p hp => (show Out (Rp X.K) X.K μ H Q _ _ from h1.2 p hp).trans F1
end
end Sq

/-! sorted lists of ints. -/
namespace Sq
open PySem PySem.Spec PyProof.Rows L2
theorem leD_int (i j : Int) : leD (.int i) (.int j) = decide (i ≤ j) := by
  show (!PySem.W.dataLt (encD (.int j)) (encD (.int i))) = _
  have e : PySem.W.dataLt (encD (.int j)) (encD (.int i)) = decide (j < i) := by
    unfold encD
    exact PySem.W.dataLt_int j i
  rw [e]
  by_cases h : j < i
  · rw [decide_eq_true h, decide_eq_false (by omega)]; rfl
  · rw [decide_eq_false h, decide_eq_true (by omega)]; rfl
theorem sortOk_intL (ns : List Int) : SortOk (ns.map D.int) := by
  refine ⟨fun d hd => ?_, ?_, .inr fun e he => ?_, fun d hd => ?_⟩
  · obtain ⟨i, _, rfl⟩ := List.mem_map.mp hd
    rfl
  · intro e he e' he'
    obtain ⟨d, hd, rfl⟩ := List.mem_map.mp he
    obtain ⟨d', hd', rfl⟩ := List.mem_map.mp he'
    obtain ⟨i, _, rfl⟩ := List.mem_map.mp hd
    obtain ⟨j, _, rfl⟩ := List.mem_map.mp hd'
    simp [encD, PySem.W.alike]
  · obtain ⟨d, hd, rfl⟩ := List.mem_map.mp he
    obtain ⟨i, _, rfl⟩ := List.mem_map.mp hd
    exact ⟨(fun z => nomatch z), fun xs z => nomatch z⟩
  · obtain ⟨i, _, rfl⟩ := List.mem_map.mp hd
    unfold encD PyData.depth
    exact Nat.zero_le _
/-- sorted, ints -/
theorem sort_intL (ns : List Int) : ∃ ms : List Int, (ns.map D.int).mergeSort leD = ms.map D.int ∧ ms.Perm ns ∧ ms.Pairwise (· ≤ ·) := by
  refine ⟨ns.mergeSort (fun a b => decide (a ≤ b)), ?_, List.mergeSort_perm _ _, ?_⟩
  · exact (List.map_mergeSort fun a _ b _ => (leD_int a b).symm).symm
  · have := List.pairwise_mergeSort (le := fun a b : Int => decide (a ≤ b)) (fun a b c h1 h2 => by
      have := of_decide_eq_true h1
      have := of_decide_eq_true h2
      exact decide_eq_true (by omega)) (fun a b => by
      rw [Bool.or_eq_true, decide_eq_true_eq, decide_eq_true_eq]
      omega) ns
    exact this.imp fun h => of_decide_eq_true h
/-- ascending, each once: one list for the things in it -/
theorem asc_uniq : ∀ {l m : List Int}, l.Pairwise (· < ·) → m.Pairwise (· < ·) → (∀ k, k ∈ l ↔ k ∈ m) → l = m
  | [], [], _, _, _ => rfl
  | [], y :: m, _, _, h => absurd ((h y).mpr List.mem_cons_self) (by simp)
  | x :: l, [], _, _, h => absurd ((h x).mp List.mem_cons_self) (by simp)
  | x :: l, y :: m, hl, hm, h => by
    obtain ⟨a1, a2⟩ := List.pairwise_cons.mp hl
    obtain ⟨b1, b2⟩ := List.pairwise_cons.mp hm
    have e : x = y := by
      rcases List.mem_cons.mp ((h x).mp List.mem_cons_self) with e | e
      · exact e
      · rcases List.mem_cons.mp ((h y).mpr List.mem_cons_self) with g | g
        · exact g.symm
        · have := a1 y g
          have := b1 x e
          omega
    subst e
    refine congrArg _ (asc_uniq a2 b2 fun k => ?_)
    constructor
    · intro hk
      have := a1 k hk
      rcases List.mem_cons.mp ((h k).mp (List.mem_cons_of_mem _ hk)) with e | e
      · omega
      · exact e
    · intro hk
      have := b1 k hk
      rcases List.mem_cons.mp ((h k).mpr (List.mem_cons_of_mem _ hk)) with e | e
      · omega
      · exact e
theorem asc_of_nodup {l : List Int} (h : l.Pairwise (· ≤ ·)) (hn : l.Nodup) : l.Pairwise (· < ·) := L2.lt_of_le_nodup l h hn
end Sq

/-! is None, is not None; min of a tuple of ints. -/
namespace Sq
open PySem PySem.Spec PyProof.Rows L2
def isNon : D → Bool
  | .non => true
  | _ => false
def gIsN : G2 := ⟨fun x y μ Q => y = .non ∧ Q (.bl (isNon x)) μ, fun hQ h => ⟨h.1, hQ _ _ h.2⟩⟩
def gNotN : G2 := ⟨fun x y μ Q => y = .non ∧ Q (.bl (!isNon x)) μ, fun hQ h => ⟨h.1, hQ _ _ h.2⟩⟩
theorem gIsN_run {x : D} {μ : Mu} {Q : PQ} : gIsN.run x .non μ Q = Q (.bl (isNon x)) μ := by
  apply propext; exact ⟨fun h => h.2, fun h => ⟨rfl, h⟩⟩
theorem gNotN_run {x : D} {μ : Mu} {Q : PQ} : gNotN.run x .non μ Q = Q (.bl (!isNon x)) μ := by
  apply propext; exact ⟨fun h => h.2, fun h => ⟨rfl, h⟩⟩
theorem isNon_rp {K : PySem.W.Frag} {H : Hp} {x : D} {v : V} (R : Rp K H x v) : decide (v = .non) = isNon x := by
  cases x with
  | non => have : v = .non := R; rw [this]; rfl
  | bl b => have : v = .bl b := R; rw [this]; exact decide_eq_false fun z => nomatch z
  | int i => have : v = .int i := R; rw [this]; exact decide_eq_false fun z => nomatch z
  | str s => have : v = .str s := R; rw [this]; exact decide_eq_false fun z => nomatch z
  | tup ds => obtain ⟨p, vs, rfl, _⟩ := rp_tup R; exact decide_eq_false fun z => nomatch z
  | ob a => have : v = .ref a := R; rw [this]; exact decide_eq_false fun z => nomatch z
  | rls ds => obtain ⟨p, vs, rfl, _⟩ := rp_rls R; exact decide_eq_false fun z => nomatch z
section
variable {X : Cx}
theorem od_isN : OpD X (compareOp .Is) gIsN := ⟨_, op_isN, fun x y μ H vx vy Q S R1 R2 ⟨e, q⟩ => by
  subst e
  have : vy = .non := R2
  exact ⟨this, by rw [isNon_rp R1]; exact q _ _ (Fr.refl μ H) S rfl⟩⟩
theorem od_notN : OpD X (compareOp .IsNot) gNotN := ⟨_, op_notN, fun x y μ H vx vy Q S R1 R2 ⟨e, q⟩ => by
  subst e
  have : vy = .non := R2
  exact ⟨this, by rw [isNon_rp R1]; exact q _ _ (Fr.refl μ H) S rfl⟩⟩
end
/-! ### min of a tuple -/
section
variable {prog : Program} {w : World} {A : Around} {E : Value → Shared → Prop} {s : Shared} {l : Addr} {xs : Array (Int × Tok)}
theorem iter_intTup {Q : Value → Shared → Prop} (hl : s.heap.IsTuple l (intItems xs))
    (h : ∀ s₂ : Shared, s₂ = { s with heap := s.heap.push { cls := .type "tuple_iterator", data := .fields #[.ref l, .int 0 0] } } →
      (s₂.heap.IsTupleIter s.heap.objs.size l 0 ∧ s₂.heap.IsTuple l (intItems xs)) → (∀ b ∈ [s.heap.objs.size, l], b < s₂.heap.objs.size) → l ≠ s.heap.objs.size → Q (.ref s.heap.objs.size) s₂) :
    wpAny (model prog w) A (pyIter (.ref l)) Q E s := by
  have hlt : l < s.heap.objs.size := by obtain ⟨_, e, _⟩ := hl; exact Heap.lt_size e
  refine wpAny_pyIter_tuple hl (h _ rfl ⟨⟨_, Heap.get?_push_size _ rfl, rfl, rfl⟩, hl.push _⟩ (fun b hb => ?_) (Nat.ne_of_lt hlt))
  show b < (s.heap.push _).objs.size
  rw [Heap.size_push]
  rcases List.mem_cons.mp hb with rfl | hb
  · exact Nat.lt_succ_self _
  · rcases List.mem_cons.mp hb with rfl | hb
    · exact Nat.lt_succ_of_lt hlt
    · cases hb
theorem old_keptT {h' : Heap} (hk : ∀ b o, b ∉ [s.heap.objs.size] → (s.heap.push { cls := .type "tuple_iterator", data := .fields #[.ref l, .int 0 0] }).get? b = some o → h'.get? b = some o) :
    ∀ b o, s.heap.get? b = some o → h'.get? b = some o := fun b o e => by
  refine hk b o (fun hm => ?_) (Heap.get?_push_of_some _ e)
  rcases List.mem_cons.mp hm with e1 | hm
  · exact absurd (e1 ▸ Heap.lt_size e) (Nat.lt_irrefl _)
  · cases hm
theorem min_intTup {Q : Value → Shared → Prop} (hh : A.handled = none) (hl : s.heap.IsTuple l (intItems xs)) (hne : 0 < xs.size)
    (h : ∀ v h' tk, (intItems xs)[argBest (fun i j => decide (numAt xs i < numAt xs j)) (xs.size - 1)]? = some v → (∀ b o, s.heap.get? b = some o → h'.get? b = some o) → Q v { s with heap := h', toks := tk }) :
    wpAny (model prog w) A (call (.builtin "min") [.ref l]) Q E s := by
  refine call_min_walk (iter_intTup hl fun s₂ e st hfp hlI => ?_)
  subst e
  refine ⟨_, _, _, _, _, _, _, rfl, Walks.tuple (A := A.in1) hh _ l hlI (intItems xs), st, hfp, by simpa [intItems] using hne, CmpOf.ints_lt (numAt xs) (fun _ _ => intItems_at), fun v h' tk hP hk => ?_⟩
  exact h v h' tk (by simpa [intItems] using hP) (old_keptT hk)
theorem min_rawT {its : List Value} {ns : List Int} {Q : Value → Shared → Prop} (hh : A.handled = none) (hl : s.heap.IsTuple l its.toArray) (hi : IntsAre its ns) (hne : 0 < ns.length)
    (h : ∀ h' tk M t', (∀ b o, s.heap.get? b = some o → h'.get? b = some o) → M ∈ ns → (∀ a, a ∈ ns → M ≤ a) → Q (.int M t') { s with heap := h', toks := tk }) : wpAny (model prog w) A (call (.builtin "min") [.ref l]) Q E s := by
  obtain ⟨xs, e⟩ := hi.allInts.items
  have hn : numsOf (intItems xs).toList = ns := by rw [← e]; exact hi.numsOf
  rw [nums_intItems] at hn
  subst hn
  rw [e] at hl
  have hsz : 0 < xs.size := by simpa using hne
  refine min_intTup hh hl hsz fun v h' tk hv hk => ?_
  obtain ⟨t, rfl⟩ := intItems_at hv
  obtain ⟨h1, h2⟩ := argBest_lt (numAt xs) (xs.size - 1)
  refine h h' tk _ t hk ?_ fun a ha => ?_
  · rw [numAt_eq]; exact PySem.getD_mem (by rw [List.length_map, Array.length_toList]; omega)
  · obtain ⟨j, hj, rfl⟩ := mem_getD ha
    rw [List.length_map, Array.length_toList] at hj
    rw [← numAt_eq]; exact h2 j (by omega)
end
section
variable {X : Cx}
def rMinT (K : PySem.W.Frag) : List V → Hp → VK → Prop := fun vs H Q => ∃ (a : Addr) (ns : List Int), vs = [V.ref a] ∧ SqT K H a (ns.map V.int) ∧ 0 < ns.length ∧ ∀ m, m ∈ ns → (∀ y, y ∈ ns → m ≤ y) → Q (.int m) H
theorem cr_minT (hc : X.calm = true) : CallR X (.builtin "min") (rMinT X.K) := by
  intro pins s σ H vs us Q I r h
  obtain ⟨a, ns, rfl, hs, hne, q⟩ := h
  obtain ⟨its, rv, hl, _⟩ := I.tuple hs
  rw [Vals.ref1 r]
  exact min_rawT (I.ok.hd hc) hl rv.ints hne fun h' tk m t' hk h1 h2 => ⟨.int _, H, I.kept hk, ⟨_, rfl⟩, q m h1 h2⟩
/-- min of a tuple of two ints -/
def fMinT (x : D) (μ : Mu) (Q : PQ) : Prop := ∃ i j : Int, x = t2 i j ∧ Q (.int (if j < i then j else i)) μ
def gMinT : GN := g1 fMinT fun {_ _ _ _} hQ z => by obtain ⟨i, j, e, q⟩ := z; exact ⟨i, j, e, hQ _ _ q⟩
theorem gMinT_run {x : D} {μ : Mu} {Q : PQ} : gMinT.run [x] μ Q = fMinT x μ Q := rfl
theorem fMinT_run {i j : Int} {μ : Mu} {Q : PQ} : fMinT (t2 i j) μ Q = Q (.int (if j < i then j else i)) μ := by
  apply propext
  constructor
  · rintro ⟨i', j', e, q⟩; cases e; exact q
  · intro q; exact ⟨i, j, rfl, q⟩
theorem cd_minT (hc : X.calm = true) : CallD X (.builtin "min") gMinT := cd1 (cr_minT hc) (fun _ _ _ => rfl) fun x μ H v Q S R ⟨i, j, e, q⟩ => by
  subst e
  obtain ⟨p, vs, rfl, h1, h2⟩ := rp_tup R
  have ev : vs = [.int i, .int j] := by
    unfold Rps at h2
    obtain ⟨w, ws, rfl, a, b⟩ := h2
    unfold Rps at b
    obtain ⟨w2, ws2, rfl, a2, b2⟩ := b
    unfold Rps at b2
    subst b2
    have e1 : w = .int i := a
    have e2 : w2 = .int j := a2
    rw [e1, e2]
  subst ev
  refine ⟨p, [i, j], rfl, h1, by simp, fun m hm hl => ?_⟩
  have : m = if j < i then j else i := by
    have a1 := hl i (by simp)
    have a2 := hl j (by simp)
    simp only [List.mem_cons, List.not_mem_nil, or_false] at hm
    split <;> rcases hm with rfl | rfl <;> omega
  rw [this]
  exact q _ _ (Fr.refl μ H) S rfl
end
/-! ### xs[::-1] of a list -/
section
variable {X : Cx} {Wx : WX}
def wBackL (a : WE) : WE := ⟨fun ρ μ Q X => a.run ρ μ (fun d μ1 => ∃ (b : Addr) (ds : List D), d = .ob b ∧ μ1 b = some (.lst ds) ∧ ∀ p, μ1 p = none → Q (.ob p) (mset μ1 p (.lst ds.reverse))) X, fun hQ hX h => a.mono (fun _ _ ⟨b, ds, e, g, q⟩ => ⟨b, ds, e, g, fun p hp => hQ _ _ (q p hp)⟩) hX h⟩
theorem wBackL_run {a : WE} {ρ : Ev} {μ : Mu} {Q : PQ} {X : XQ} : (wBackL a).run ρ μ Q X = a.run ρ μ (fun d μ1 => ∃ (b : Addr) (ds : List D), d = .ob b ∧ μ1 b = some (.lst ds) ∧ ∀ p, μ1 p = none → Q (.ob p) (mset μ1 p (.lst ds.reverse))) X := rfl
theorem le_backL {e : Expr} {w : WE} {k : Nat} {p1 p2 p3 pos : Pos} (he : LE X Wx e w) : LE X Wx (.Subscript e (.Slice none none (some (.UnaryOp .USub (.Constant (.int 1) k p1) p2)) p3) pos) (wBackL w) :=
  PE.weak (pe_revL he) fun σ H Q ⟨ρ, μ, E, S, h⟩ => by
    refine lW.bind E S h (fun d μ1 v H1 F1 S1 E1 r1 h1 => ?_) fun _ _ _ h => h
    obtain ⟨b, ds, rfl, g, q⟩ := h1
    obtain ⟨vs, hv, r⟩ := S1.lst g
    exact ⟨b, vs, rp_ob r1, SqL.of hv, out_lst S1 r.rev fun p hp => (q p hp).trans F1⟩
end
end Sq

/-! xs.index(y), min of a list of data, a tuple again and again. -/
namespace Sq
open PySem PySem.Spec PyProof.Rows L2
/-! ### xs.index(y) -/
def fIndex (a : Addr) (xs ds : List D) (μ : Mu) (Q : PQ) : Prop := ∃ (y : D) (j : Nat), ds = [y] ∧ (∀ d ∈ xs, okD d = true) ∧ okD y = true ∧ xs[j]? = some y ∧ (∀ m, m < j → xs[m]? ≠ some y) ∧ Q (.int (j : Nat)) μ
def gIndex : GM := ⟨fIndex, fun {a xs ds μ Q Q'} hQ h => by
  obtain ⟨y, j, h1, h2, h3, h4, h5, q⟩ := h
  exact ⟨y, j, h1, h2, h3, h4, h5, hQ _ _ q⟩⟩
theorem encDs_get : ∀ {xs : List D} {m : Nat}, (encDs xs)[m]? = (xs[m]?).map encD := fun {xs m} => by rw [encDs_map, List.getElem?_map]
section
variable {X : Cx} {Wx : WX}
theorem md_index (hu : X.A.units + 65 < cLine) : MtD X "list.index" gIndex := ⟨rIndexD X.K, mt_indexD hu, fun a xs ds μ H vs Q S ea R h => by
  obtain ⟨y, j, rfl, hx, hy, hj, hno, q⟩ := h
  obtain ⟨v, rfl, r⟩ := rps1 R
  obtain ⟨p1, s1⟩ := dpy_lst ea hx
  have py := pure_dpy (μ := μ) (plain_pure (okD.p hy))
  refine ⟨a, v, encD y, encDs xs, j, encD y, rfl, rfl, p1.dp S (show Rp X.K H (.ob a) (.ref a) from rfl), py.dp S r, s1, okD.shaped hy, ?_, (plain_eqv (okD.p hy) (okD.p hy)).mpr rfl, fun m z hm hz => ?_, q _ _ (Fr.refl μ H) S rfl⟩
  · rw [encDs_get, hj]; rfl
  · rw [encDs_get] at hz
    cases e : xs[m]? with
    | none => rw [e] at hz; cases hz
    | some d =>
      rw [e] at hz
      cases hz
      rw [Bool.eq_false_iff]
      intro z
      have := (plain_eqv (okD.p (hx d (List.mem_of_getElem? e))) (okD.p hy)).mp z
      subst this
      exact hno m hm e⟩
theorem le_index {o e : Expr} {apos cpos : Pos} {wo we : WE} (hu : X.A.units + 65 < cLine) (ho : LE X Wx o wo) (ha : LAs X Wx [e] [we])
    (hb : ∀ {to : TE} {t : TA} {r : V → List V → Hp → VK → Prop}, MtR X "list.index" r → PE X o to → PA X [e] t → PE X (.Call (.Attribute o "index" apos) [e] [] cpos) (tBM X.K "list" r to t) := by exact fun h1 h2 h3 => pe_bm PySem.F.plainAttrs_list PySem.F.slot_list_index PySem.F.type_list_index h1 h2 h3) : LE X Wx (.Call (.Attribute o "index" apos) [e] [] cpos) (wMt gIndex wo [we]) :=
  le_mt PySem.F.slot_list_index PySem.F.type_list_index (md_index hu) ho ha hb
end
/-! ### min of a list -/
def MinOk (ds : List D) : Prop := (∀ d ∈ ds, okD d = true) ∧ PySem.W.AlikeAll (encDs ds)
def fMinL (x : D) (μ : Mu) (Q : PQ) : Prop := ∃ (a : Addr) (f : D) (fs : List D), x = .ob a ∧ μ a = some (.lst (f :: fs)) ∧ MinOk (f :: fs) ∧ ∀ d, d ∈ f :: fs → encD d = PySem.W.minD (encD f) (encDs fs) → Q d μ
def gMinL : GN := g1 fMinL fun {_ _ _ _} hQ z => by obtain ⟨a, f, fs, e, h1, h2, q⟩ := z; exact ⟨a, f, fs, e, h1, h2, fun d h3 h4 => hQ _ _ (q d h3 h4)⟩
theorem gMinL_run {x : D} {μ : Mu} {Q : PQ} : gMinL.run [x] μ Q = fMinL x μ Q := rfl
section
variable {X : Cx}
def rMinLD (K : PySem.W.Frag) : List V → Hp → VK → Prop := fun vs H Q => ∃ (a : Addr) (xs : List V) (f : D) (fs : List D) (μ : Mu), vs = [V.ref a] ∧ H a = some (.lst xs) ∧ Sim K μ H ∧ Rps K H (f :: fs) xs ∧ MinOk (f :: fs) ∧
  ∀ d v, d ∈ f :: fs → encD d = PySem.W.minD (encD f) (encDs fs) → Rp K H d v → Q v H
theorem each_at {P : Value → D → Prop} : ∀ {us : List Value} {ds : List D}, PySem.W.EachIs P us ds → ∀ {i : Nat} {u : Value}, us[i]? = some u → ∃ d, ds[i]? = some d ∧ P u d
  | _, _, .nil, _, _, h => by simp at h
  | _, _, .cons a t, 0, _, h => by cases h; exact ⟨_, rfl, a⟩
  | _, _, .cons a t, i + 1, _, h => by
    obtain ⟨d, h1, h2⟩ := each_at t (i := i) (by simpa using h)
    exact ⟨d, by simpa using h1, h2⟩
theorem reads_each {h : Heap} : ∀ {us : List Value} {ds : List D}, PySem.W.EachIs (fun u d => ∃ as, Reads h u (encD d) as) us ds → ∃ as, ReadsAll h us (encDs ds) as
  | _, _, .nil => ⟨_, .nil⟩
  | _, _, .cons ⟨as, r⟩ t => by
    obtain ⟨bs, r2⟩ := reads_each t
    exact ⟨_, .cons r r2⟩
theorem min_list_at {prog : Program} {w : World} {A : Around} {E : Value → Shared → Prop} {s : Shared} {l : Addr} {vs : Array Value} {x : PyData} {xs : List PyData} {as : List Addr} {Q : Value → Shared → Prop} (hh : A.handled = none) (hl : s.heap.IsList l vs) (hr : ReadsAll s.heap vs.toList (x :: xs) as) (ha : PySem.W.AlikeAll (x :: xs)) (hu : A.units + 1 + PyData.depthAll (x :: xs) < cLine)
    (h : ∀ (i : Nat) v h' tk, vs[i]? = some v → (x :: xs).getD i PyData.none = PySem.W.minD x xs → (∀ b o, s.heap.get? b = some o → h'.get? b = some o) → Q v { s with heap := h', toks := tk }) :
    wpAny (model prog w) A (call (.builtin "min") [.ref l]) Q E s := by
  have hn : vs.size = xs.length + 1 := PySem.W.readsAll_len hr
  refine call_min_walkH (PySem.W.iter_listW (A := A.in1) hh hl fun s₂ e W st hfp hw hk => ?_)
  refine ⟨_, _, _, _, _, _, _, s.heap, _, rfl, W, st, hfp, by omega, hw, hk, PySem.W.cmpIn_lt (A := A.in1) hr ha (by show A.units + 1 + _ < _; exact hu), fun v s' hP m => ?_⟩
  obtain ⟨h', tk, rfl, hk'⟩ := PySem.W.moved_old e rfl m
  have e1 : vs.size - 1 = xs.length := by omega
  have e2 := (PySem.W.argBest_fold PySem.W.dataLt PyData.none x xs xs.length (Nat.le_refl _)).2
  rw [List.take_length] at e2
  rw [e1] at hP
  exact h _ v h' tk hP e2 hk'
theorem cr_minLD (hc : X.calm = true) (hu : X.A.units + 65 < cLine) : CallR X (.builtin "min") (rMinLD X.K) := by
  intro pins s σ H vs us Q I r h
  obtain ⟨a, xs, f, fs, μ, rfl, ha, S, R, ok, q⟩ := h
  obtain ⟨its, rv, hl, hz⟩ := I.list (SqL.of ha)
  rw [Vals.ref1 r]
  obtain ⟨h1, h2⟩ := rps_each (K := X.K) I S R rv fun d hd => plain_pure (okD.p (ok.1 d hd))
  obtain ⟨as, hr⟩ := reads_each h1
  have hd : PyData.depthAll (encDs (f :: fs)) ≤ 60 := depthAll_le fun d hd => okD.d (ok.1 d hd)
  refine min_list_at (x := encD f) (xs := encDs fs) (I.ok.hd hc) hl.isList (show ReadsAll s.heap its (encDs (f :: fs)) as from hr) ok.2 (show X.A.units + 1 + PyData.depthAll (encDs (f :: fs)) < cLine by omega) fun i v h' tk hv hm hk => ?_
  obtain ⟨d, e1, v', rel, rp⟩ := each_at h2 (i := i) (u := v) (by simpa using hv)
  have ed : encD d = PySem.W.minD (encD f) (encDs fs) := by
    rw [← hm]
    have : (encDs (f :: fs))[i]? = some (encD d) := by rw [encDs_get, e1]; rfl
    rw [List.getD_eq_getElem?_getD, show (encD f :: encDs fs)[i]? = some (encD d) from this]; rfl
  exact ⟨v', H, I.kept hk, rel, q d v' (List.mem_of_getElem? e1) ed rp⟩
theorem cd_minL (hc : X.calm = true) (hu : X.A.units + 65 < cLine) : CallD X (.builtin "min") gMinL := cd1 (cr_minLD hc hu) (fun _ _ _ => rfl) fun x μ H v Q S R ⟨a, f, fs, e, ea, ok, q⟩ => by
  subst e
  rw [rp_ob R]
  obtain ⟨vs, h1, r⟩ := S.lst ea
  exact ⟨a, vs, f, fs, μ, rfl, h1, S, r, ok, fun d v hd he rp => q d hd he _ _ (Fr.refl μ H) S rp⟩
end
/-! ### a tuple again and again -/
def gRepT : G2 := ⟨fun x y μ Q => ∃ (ds : List D) (k : Int), x = .tup ds ∧ y = .int k ∧ ds ≠ [] ∧ 2 ≤ k ∧ k ≤ 1000 ∧ ds.length ≤ 1000 ∧ Q (.tup (List.replicate k.toNat ds).flatten) μ, fun hQ h => by
  obtain ⟨ds, k, h1, h2, h3, h4, h5, h6, q⟩ := h
  exact ⟨ds, k, h1, h2, h3, h4, h5, h6, hQ _ _ q⟩⟩
section
variable {X : Cx}
theorem od_repT : OpD X (binaryOp .Mult) gRepT := ⟨_, op_repT, fun x y μ H vx vy Q S rx ry q => by
  obtain ⟨ds, k, rfl, rfl, h3, h4, h5, h6, q⟩ := q
  obtain ⟨p, vs, rfl, h1, h2⟩ := rp_tup rx
  have hk : vy = .int k := ry
  refine ⟨p, k, vs, rfl, hk, h1, (fun e => ?_), h4, h5, by rw [h2.length]; exact h6, fun p' hp' => out_tup S (h2.rep k.toNat) q p' hp'⟩
  subst e
  exact h3 (List.length_eq_zero_iff.mp h2.length.symm)⟩
end
end Sq

/-! Values that are tried, with great ints or long tuples: how long they are shown is bounded part by part. -/
namespace Sq
open PySem PySem.Spec PyProof.Rows L2
/-- the store without the pot -/
def mdel (μ : Mu) (p : Addr) : Mu := fun b => if b = p then none else μ b
theorem mdel_ne {μ : Mu} {p b : Addr} (h : b ≠ p) : mdel μ p b = μ b := if_neg h
theorem mdel_some {μ : Mu} {p b : Addr} {o : O} (h : mdel μ p b = some o) : b ≠ p ∧ μ b = some o := by
  unfold mdel at h
  split at h
  · cases h
  · exact ⟨by assumption, h⟩
mutual
theorem DPy.up {μ μ' : Mu} (k : ∀ b o, μ b = some o → μ' b = some o) : ∀ {e : PyData} {d : D}, DPy μ d e → DPy μ' d e
  | _, _, .non => .non
  | _, _, .bl b => .bl b
  | _, _, .int i => .int i
  | _, _, .str x => .str x
  | _, _, .tup h => .tup (DPys.up k h)
  | _, _, .lst e h => .lst (k _ _ e) (DPys.up k h)
theorem DPys.up {μ μ' : Mu} (k : ∀ b o, μ b = some o → μ' b = some o) : ∀ {es : List PyData} {ds : List D}, DPys μ ds es → DPys μ' ds es
  | _, _, .nil => .nil
  | _, _, .cons a t => .cons (DPy.up k a) (DPys.up k t)
end
mutual
/-- no dicts, ints of less than k bits, texts that may be shown -/
def okE (k : Nat) : PyData → Prop
  | .none => True | .bool _ => True
  | .int i => i.natAbs < 2 ^ k
  | .str x => PyData.strOk x = true
  | .list xs => okEs k xs | .tuple xs => okEs k xs
  | .dict _ => False
def okEs (k : Nat) : List PyData → Prop
  | [] => True
  | x :: xs => okE k x ∧ okEs k xs
end
mutual
/-- how long it is shown at most -/
def wt : PyData → Nat
  | .none => 4 | .bool _ => 5
  | .int i => (toString i).length
  | .str x => (reprText x).length
  | .list xs => wts xs + 3 | .tuple xs => wts xs + 3
  | .dict _ => 0
def wts : List PyData → Nat
  | [] => 0
  | x :: xs => wt x + 2 + wts xs
end
theorem okEs_app {k : Nat} : ∀ {xs ys : List PyData}, okEs k (xs ++ ys) ↔ okEs k xs ∧ okEs k ys
  | [], ys => ⟨fun h => ⟨trivial, h⟩, fun h => h.2⟩
  | x :: xs, ys => by
    rw [List.cons_append]
    show okE k x ∧ okEs k (xs ++ ys) ↔ (okE k x ∧ okEs k xs) ∧ okEs k ys
    rw [okEs_app]
    exact ⟨fun ⟨a, b, c⟩ => ⟨⟨a, b⟩, c⟩, fun ⟨⟨a, b⟩, c⟩ => ⟨a, b, c⟩⟩
theorem wts_app : ∀ {xs ys : List PyData}, wts (xs ++ ys) = wts xs + wts ys
  | [], ys => by rw [List.nil_append]; show _ = 0 + _; omega
  | x :: xs, ys => by
    rw [List.cons_append]
    show wt x + 2 + wts (xs ++ ys) = wt x + 2 + wts xs + wts ys
    rw [wts_app]; omega
theorem dep_app : ∀ {xs ys : List PyData}, PyData.depthAll (xs ++ ys) = max (PyData.depthAll xs) (PyData.depthAll ys)
  | [], ys => by rw [List.nil_append]; show _ = max 0 _; omega
  | x :: xs, ys => by
    rw [List.cons_append]
    show max (PyData.depth x) (PyData.depthAll (xs ++ ys)) = max (max (PyData.depth x) (PyData.depthAll xs)) (PyData.depthAll ys)
    rw [dep_app]; omega
mutual
theorem okE_lay {k : Nat} : ∀ {e : PyData}, okE k e → e.canLay0 = true
  | .none, _ => rfl
  | .bool _, _ => rfl
  | .int _, _ => rfl
  | .str x, h => h
  | .list xs, h => okEs_lay (xs := xs) h
  | .tuple xs, h => okEs_lay (xs := xs) h
  | .dict _, h => h.elim
theorem okEs_lay {k : Nat} : ∀ {xs : List PyData}, okEs k xs → PyData.canLayAll0 xs = true
  | [], _ => rfl
  | x :: xs, ⟨a, b⟩ => by
    show (x.canLay0 && PyData.canLayAll0 xs) = true
    rw [okE_lay a, okEs_lay b]; rfl
end
mutual
theorem okE_shw {k : Nat} (hk : k ≤ 1920) : ∀ {e : PyData}, okE k e → e.showable = true
  | .none, _ => rfl
  | .bool _, _ => rfl
  | .int i, h => by
    show decide (i.natAbs.log2 < 1920) = true
    refine decide_eq_true ?_
    by_cases h0 : i.natAbs = 0
    · rw [h0]; decide
    · rw [Nat.log2_lt h0]
      exact Nat.lt_of_lt_of_le h (Nat.pow_le_pow_right (by decide) hk)
  | .str x, h => rfl
  | .list xs, h => okEs_shw (xs := xs) hk h
  | .tuple xs, h => okEs_shw (xs := xs) hk h
  | .dict _, h => h.elim
theorem okEs_shw {k : Nat} (hk : k ≤ 1920) : ∀ {xs : List PyData}, okEs k xs → PyData.showableAll xs = true
  | [], _ => rfl
  | x :: xs, ⟨a, b⟩ => by
    show (x.showable && PyData.showableAll xs) = true
    rw [okE_shw hk a, okEs_shw hk b]; rfl
end
mutual
theorem shown_wt {k : Nat} : ∀ {e : PyData}, okE k e → e.shown.length ≤ wt e
  | .none, _ => by decide
  | .bool b, _ => by cases b <;> decide
  | .int i, _ => by
    show (Str.ofString (toString i)).length ≤ (toString i).length
    rw [PySem.ofString_length]
    exact Nat.le_refl _
  | .str x, _ => Nat.le_refl _
  | .list xs, h => by
    show (listText (PyData.shownAll xs)).length ≤ wts xs + 3
    have := shown_wts (xs := xs) h
    have h2 : (listText (PyData.shownAll xs)).length ≤ piled (PyData.shownAll xs) + 3 := by
      have h1 := listText_len_le (PyData.shownAll xs)
      have h2 : ∀ ts : List Str, (ts.map (·.length)).sum + 2 * ts.length = piled ts := fun ts => by
        induction ts with
        | nil => rfl
        | cons t ts ih => rw [piled_cons, List.map_cons, List.sum_cons, List.length_cons]; omega
      have := h2 (PyData.shownAll xs)
      omega
    omega
  | .tuple xs, h => by
    show (tupleText (PyData.shownAll xs)).length ≤ wts xs + 3
    have := shown_wts (xs := xs) h
    have := tupleText_len (PyData.shownAll xs)
    omega
  | .dict _, h => h.elim
theorem shown_wts {k : Nat} : ∀ {xs : List PyData}, okEs k xs → piled (PyData.shownAll xs) ≤ wts xs
  | [], _ => by decide
  | x :: xs, ⟨a, b⟩ => by
    show piled (x.shown :: PyData.shownAll xs) ≤ wt x + 2 + wts xs
    rw [piled_cons]
    have := shown_wt a
    have := shown_wts b
    omega
end
mutual
theorem okE_mono {k k' : Nat} (hk : k ≤ k') : ∀ {e : PyData}, okE k e → okE k' e
  | .none, _ => trivial
  | .bool _, _ => trivial
  | .int i, h => Nat.lt_of_lt_of_le h (Nat.pow_le_pow_right (by decide) hk)
  | .str x, h => h
  | .list xs, h => okEs_mono (xs := xs) hk h
  | .tuple xs, h => okEs_mono (xs := xs) hk h
  | .dict _, h => h.elim
theorem okEs_mono {k k' : Nat} (hk : k ≤ k') : ∀ {xs : List PyData}, okEs k xs → okEs k' xs
  | [], _ => trivial
  | x :: xs, ⟨a, b⟩ => ⟨okE_mono hk a, okEs_mono hk b⟩
end
/-- a value that is tried: k bits, n deep, shown with at most c signs -/
def Tv (k n c : Nat) (μ : Mu) (p : Addr) (d : D) : Prop := ∃ e, DPy (mdel μ p) d e ∧ okE k e ∧ e.depth ≤ n ∧ wt e ≤ c
def Ts (k n c : Nat) (μ : Mu) (p : Addr) (ds : List D) : Prop := ∃ es, DPys (mdel μ p) ds es ∧ okEs k es ∧ PyData.depthAll es ≤ n ∧ wts es ≤ c
section
variable {k n c : Nat} {μ μ' : Mu} {p : Addr}
theorem Tv.mono {k' n' c' : Nat} {d : D} (h : Tv k n c μ p d) (hk : k ≤ k') (hn : n ≤ n') (hc : c ≤ c') : Tv k' n' c' μ p d := by
  obtain ⟨e, a, b, x, y⟩ := h
  exact ⟨e, a, okE_mono hk b, Nat.le_trans x hn, Nat.le_trans y hc⟩
theorem Ts.mono {k' n' c' : Nat} {ds : List D} (h : Ts k n c μ p ds) (hk : k ≤ k') (hn : n ≤ n') (hc : c ≤ c') : Ts k' n' c' μ p ds := by
  obtain ⟨e, a, b, x, y⟩ := h
  exact ⟨e, a, okEs_mono hk b, Nat.le_trans x hn, Nat.le_trans y hc⟩
theorem mdel_keep (x : ∀ b o, b ≠ p → μ b = some o → μ' b = some o) : ∀ b o, mdel μ p b = some o → mdel μ' p b = some o := fun b o h => by
  obtain ⟨h1, h2⟩ := mdel_some h
  rw [mdel_ne h1]; exact x b o h1 h2
theorem Tv.keep {d : D} (h : Tv k n c μ p d) (x : ∀ b o, b ≠ p → μ b = some o → μ' b = some o) : Tv k n c μ' p d := by
  obtain ⟨e, a, b, u, v⟩ := h
  exact ⟨e, a.up (mdel_keep x), b, u, v⟩
theorem Ts.keep {ds : List D} (h : Ts k n c μ p ds) (x : ∀ b o, b ≠ p → μ b = some o → μ' b = some o) : Ts k n c μ' p ds := by
  obtain ⟨e, a, b, u, v⟩ := h
  exact ⟨e, a.up (mdel_keep x), b, u, v⟩
theorem Ts.nil : Ts k n 0 μ p [] := ⟨[], .nil, trivial, Nat.zero_le _, Nat.le_refl _⟩
theorem Ts.cons {a b : Nat} {x : D} {ds : List D} (h : Tv k n a μ p x) (t : Ts k n b μ p ds) : Ts k n (a + 2 + b) μ p (x :: ds) := by
  obtain ⟨e, h1, h2, h3, h4⟩ := h
  obtain ⟨es, t1, t2, t3, t4⟩ := t
  exact ⟨e :: es, .cons h1 t1, ⟨h2, t2⟩, Nat.max_le.mpr ⟨h3, t3⟩, by show wt e + 2 + wts es ≤ _; omega⟩
theorem Ts.uncons {x : D} {ds : List D} (h : Ts k n c μ p (x :: ds)) : ∃ a b, Tv k n a μ p x ∧ Ts k n b μ p ds ∧ a + 2 + b ≤ c := by
  obtain ⟨es, h1, h2, h3, h4⟩ := h
  cases h1 with
  | cons a t =>
    rename_i e es
    have h3' : max (PyData.depth e) (PyData.depthAll es) ≤ n := h3
    exact ⟨wt e, wts es, ⟨e, a, h2.1, by omega, Nat.le_refl _⟩, ⟨es, t, h2.2, by omega, Nat.le_refl _⟩, h4⟩
theorem Ts.app {a b : Nat} : ∀ {xs ys : List D} {a : Nat}, Ts k n a μ p xs → Ts k n b μ p ys → Ts k n (a + b) μ p (xs ++ ys)
  | [], ys, a, _, h => h.mono (Nat.le_refl _) (Nat.le_refl _) (by omega)
  | x :: xs, ys, a, h, h' => by
    obtain ⟨u, v, h1, h2, h3⟩ := h.uncons
    exact (Ts.cons h1 (Ts.app (a := 0) h2 h')).mono (Nat.le_refl _) (Nat.le_refl _) (by omega)
theorem Ts.split : ∀ {xs ys : List D} {c : Nat}, Ts k n c μ p (xs ++ ys) → ∃ a b, Ts k n a μ p xs ∧ Ts k n b μ p ys ∧ a + b ≤ c
  | [], ys, c, h => ⟨0, c, Ts.nil, h, by omega⟩
  | x :: xs, ys, c, h => by
    obtain ⟨u, v, h1, h2, h3⟩ := h.uncons
    obtain ⟨a, b, h4, h5, h6⟩ := Ts.split h2
    exact ⟨u + 2 + a, b, Ts.cons h1 h4, h5, by omega⟩
theorem Ts.rev : ∀ {xs : List D} {c : Nat}, Ts k n c μ p xs → Ts k n c μ p xs.reverse
  | [], _, h => h
  | x :: xs, c, h => by
    obtain ⟨u, v, h1, h2, h3⟩ := h.uncons
    rw [List.reverse_cons]
    exact (Ts.app (a := 0) (Ts.rev h2) (Ts.cons h1 Ts.nil)).mono (Nat.le_refl _) (Nat.le_refl _) (by omega)
theorem Ts.take {xs : List D} (h : Ts k n c μ p xs) (i : Nat) : Ts k n c μ p (xs.take i) := by
  rw [← List.take_append_drop i xs] at h
  obtain ⟨a, b, h1, h2, h3⟩ := h.split
  exact h1.mono (Nat.le_refl _) (Nat.le_refl _) (by omega)
theorem Ts.drop {xs : List D} (h : Ts k n c μ p xs) (i : Nat) : Ts k n c μ p (xs.drop i) := by
  rw [← List.take_append_drop i xs] at h
  obtain ⟨a, b, h1, h2, h3⟩ := h.split
  exact h2.mono (Nat.le_refl _) (Nat.le_refl _) (by omega)
theorem Ts.cut {xs : List D} (h : Ts k n c μ p xs) (lo hi : Option Int) : Ts k n c μ p (cutD xs lo hi) := by
  unfold cutD
  exact (h.drop _).take _
theorem Ts.mem {xs : List D} (h : Ts k n c μ p xs) {x : D} (hx : x ∈ xs) : Tv k n c μ p x := by
  obtain ⟨s, t, rfl⟩ := List.append_of_mem hx
  obtain ⟨a, b, _, h2, h3⟩ := h.split
  obtain ⟨u, v, h4, _, h5⟩ := h2.uncons
  exact h4.mono (Nat.le_refl _) (Nat.le_refl _) (by omega)
/-- one thing otherwise -/
theorem Ts.at_ {xs : List D} (h : Ts k n c μ p xs) {i : Nat} {x : D} (hx : xs[i]? = some x) : ∃ a b, Tv k n a μ p x ∧ a + 2 + b ≤ c ∧ Ts k n b μ p (xs.take i ++ xs.drop (i + 1)) ∧ (∀ {k' n' a' : Nat} {μ' : Mu} {y : D}, k ≤ k' → n ≤ n' → (∀ b o, b ≠ p → μ b = some o → μ' b = some o) → Tv k' n' a' μ' p y → Ts k' n' (a' + 2 + b) μ' p (xs.take i ++ [y] ++ xs.drop (i + 1))) := by
  obtain ⟨hi, e⟩ := List.getElem?_eq_some_iff.mp hx
  have e2 : xs = xs.take i ++ x :: xs.drop (i + 1) := by
    rw [← e, List.getElem_cons_drop, List.take_append_drop]
  rw [e2] at h
  obtain ⟨a, b, h1, h2, h3⟩ := h.split
  obtain ⟨u, v, h4, h5, h6⟩ := h2.uncons
  refine ⟨u, a + v, h4, by omega, Ts.app (a := 0) h1 h5, fun hk hn x hy => ?_⟩
  rw [List.append_assoc]
  exact (Ts.app (a := 0) ((h1.mono hk hn (Nat.le_refl _)).keep x) (Ts.cons hy ((h5.mono hk hn (Nat.le_refl _)).keep x))).mono (Nat.le_refl _) (Nat.le_refl _) (by omega)
theorem Ts.len {xs : List D} : ∀ {c : Nat}, Ts k n c μ p xs → 2 * xs.length ≤ c := by
  induction xs with
  | nil => intro c _; exact Nat.zero_le _
  | cons x xs ih =>
    intro c h
    obtain ⟨u, v, _, h2, h3⟩ := h.uncons
    have := ih h2
    rw [List.length_cons]; omega
theorem Ts.tup {xs : List D} (h : Ts k n c μ p xs) : Tv k (n + 1) (c + 3) μ p (.tup xs) := by
  obtain ⟨es, h1, h2, h3, h4⟩ := h
  exact ⟨.tuple es, .tup h1, h2, by show PyData.depthAll es + 1 ≤ _; omega, by show wts es + 3 ≤ _; omega⟩
theorem Ts.lst {xs : List D} {a : Addr} (h : Ts k n c μ p xs) (e : μ a = some (.lst xs)) (ha : a ≠ p) : Tv k (n + 1) (c + 3) μ p (.ob a) := by
  obtain ⟨es, h1, h2, h3, h4⟩ := h
  exact ⟨.list es, .lst (by rw [mdel_ne ha]; exact e) h1, h2, by show PyData.depthAll es + 1 ≤ _; omega, by show wts es + 3 ≤ _; omega⟩
theorem Tv.parts {xs : List D} (h : Tv k n c μ p (.tup xs)) : ∃ m b, n = m + 1 ∧ b + 3 ≤ c ∧ Ts k m b μ p xs := by
  obtain ⟨e, h1, h2, h3, h4⟩ := h
  cases h1 with
  | tup h1 =>
    rename_i es
    have h3' : PyData.depthAll es + 1 ≤ n := h3
    exact ⟨n - 1, wts es, by omega, h4, es, h1, h2, by omega, Nat.le_refl _⟩
theorem Tv.dpy {d : D} (h : Tv k n c μ p d) : ∃ e, DPy μ d e ∧ okE k e ∧ e.depth ≤ n ∧ wt e ≤ c := by
  obtain ⟨e, a, b, u, v⟩ := h
  exact ⟨e, a.up fun b o z => (mdel_some z).2, b, u, v⟩
theorem Tv.seen {d : D} (h : Tv k n c μ p d) : Seen μ d := by
  obtain ⟨e, a, _⟩ := h.dpy
  cases a with
  | lst e _ => exact fun t => ⟨_, by unfold isA; dsimp only; rw [e]⟩
  | _ => exact fun t => ⟨_, rfl⟩
theorem Tv.seen2 {d : D} (h : Tv k n c μ p d) (hc : c ≤ 200000) : Seen2 μ d := by
  refine ⟨h.seen, fun ds e => ?_⟩
  subst e
  obtain ⟨m, b, h1, h2, h3⟩ := h.parts
  have := h3.len
  exact ⟨by omega, fun x hx => (h3.mem hx).seen⟩
theorem Tv.repr {d : D} (h : Tv k n c μ p d) (hk : k ≤ 1920) (hn : n ≤ 60) (hc : c ≤ 16000000) : ∃ e, DPy (mdel μ p) d e ∧ okE k e ∧ ∀ μ', (∀ b o, b ≠ p → μ b = some o → μ' b = some o) → ∀ Q : PQ, Q (.str e.shown) μ' → fReprX d μ' Q := by
  obtain ⟨e, a, b, u, v⟩ := h
  refine ⟨e, a, b, fun μ' x Q q => .inl ⟨e, a.up fun b o z => ?_, ?_, okE_shw hk b, Nat.le_trans (shown_wt b) (Nat.le_trans v (small_size hc)), q⟩⟩
  · obtain ⟨z1, z2⟩ := mdel_some z
    exact x b o z1 z2
  · unfold SeqAt.shaped
    rw [okE_lay b, decide_eq_true (Nat.le_trans u (by omega))]; rfl
/-! ### leaves -/
theorem tv_non : Tv k n 4 μ p .non := ⟨.none, .non, trivial, Nat.zero_le _, Nat.le_refl _⟩
theorem tv_bl (b : Bool) : Tv k n 5 μ p (.bl b) := ⟨.bool b, .bl b, trivial, Nat.zero_le _, Nat.le_refl _⟩
theorem tv_int {i : Int} (h : i.natAbs < 2 ^ k) : Tv k n (toString i).length μ p (.int i) := ⟨.int i, .int i, h, Nat.zero_le _, Nat.le_refl _⟩
theorem tv_str {x : Str} (h : PyData.strOk x = true) : Tv k n (10 * x.length + 2) μ p (.str x) := by
  refine ⟨.str x, .str x, h, Nat.zero_le _, ?_⟩
  have h2 : ∀ c ∈ x.cps.toList, c < 16 ^ 8 := fun c hc => by
    unfold PyData.strOk at h
    rw [← Array.all_toList] at h
    have q : c < 0x110000 := of_decide_eq_true (List.all_eq_true.mp h c hc)
    exact Nat.lt_of_lt_of_le q (by decide)
  have := StrLaws.reprText_len x h2
  show (reprText x).length ≤ _
  omega
end
end Sq

/-! What is shown as ints and tuples of ints is such. -/
namespace Sq
open PySem PySem.Spec PyProof.Rows L2
/-- the signs of a text -/
def ch (x : Str) : List Nat := x.cps.toList
theorem ch_app (x y : Str) : ch (x ++ y) = ch x ++ ch y := by
  show (x.cps ++ y.cps).toList = _
  rw [Array.toList_append]; rfl
theorem ch_of (s : String) : ch (Str.ofString s) = s.toList.map Char.toNat := by
  unfold ch
  rw [PySem.Str.ofString_eq_toList]
/-- a sign of an int -/
def dg (c : Nat) : Prop := c = 45 ∨ (48 ≤ c ∧ c ≤ 57)
/-- what follows a thing in a tuple -/
def Tm (s : List Nat) : Prop := s = [] ∨ ∃ t, s = 44 :: t ∨ s = 41 :: t
theorem Tm.nd {c : Nat} {t : List Nat} (h : Tm (c :: t)) : ¬dg c := by
  rcases h with h | ⟨t', h | h⟩
  · cases h
  · cases h; unfold dg; omega
  · cases h; unfold dg; omega
theorem pre_dg : ∀ {a b s t : List Nat}, (∀ c ∈ a, dg c) → (∀ c ∈ b, dg c) → Tm s → Tm t → a ++ s = b ++ t → a = b ∧ s = t
  | [], [], s, t, _, _, _, _, e => ⟨rfl, e⟩
  | [], y :: b, s, t, _, hb, hs, _, e => by
    rw [List.nil_append, List.cons_append] at e
    subst e
    exact absurd (hb y List.mem_cons_self) hs.nd
  | x :: a, [], s, t, ha, _, _, ht, e => by
    rw [List.nil_append, List.cons_append] at e
    subst e
    exact absurd (ha x List.mem_cons_self) ht.nd
  | x :: a, y :: b, s, t, ha, hb, hs, ht, e => by
    rw [List.cons_append, List.cons_append] at e
    cases List.cons.inj e with
    | intro e1 e2 =>
      obtain ⟨h1, h2⟩ := pre_dg (fun c hc => ha c (List.mem_cons_of_mem _ hc)) (fun c hc => hb c (List.mem_cons_of_mem _ hc)) hs ht e2
      exact ⟨by rw [e1, h1], h2⟩
theorem dg_int (i : Int) : ∀ c ∈ ch (Str.ofString (toString i)), dg c := fun c hc => by
  rw [ch_of] at hc
  obtain ⟨x, hx, rfl⟩ := List.mem_map.mp hc
  rcases int_sign i x hx with h | h
  · exact .inr (digit_range h)
  · subst h; exact .inl rfl
theorem ch_inj {s t : String} (h : ch (Str.ofString s) = ch (Str.ofString t)) : s = t := by
  rw [ch_of, ch_of] at h
  have inj : ∀ a b : Char, a.toNat = b.toNat → a = b := fun a b e => Char.ext (UInt32.toNat_inj.mp e)
  have : ∀ l m : List Char, l.map Char.toNat = m.map Char.toNat → l = m := by
    intro l
    induction l with
    | nil => intro m e; cases m with
      | nil => rfl
      | cons _ _ => cases e
    | cons x l ih =>
      intro m e
      cases m with
      | nil => cases e
      | cons y m =>
        rw [List.map_cons, List.map_cons] at e
        cases List.cons.inj e with
        | intro e1 e2 => rw [inj x y e1, ih m e2]
  exact String.toList_inj.mp (this _ _ h)
theorem int_ne (i : Int) : ch (Str.ofString (toString i)) ≠ [] := fun e => by
  rw [ch_of] at e
  have h1 : (toString i).toList = [] := List.map_eq_nil_iff.mp e
  have h2 : toString i = "" := String.toList_inj.mp (by rw [h1]; rfl)
  have h3 : 0 < (toString i).length := by
    cases i with
    | ofNat m => exact Nat.length_repr_pos
    | negSucc m =>
      have e : toString (Int.negSucc m) = "-" ++ Nat.repr (m + 1) := rfl
      rw [e, String.length_append]
      have : ("-" : String).length = 1 := rfl
      omega
  rw [h2] at h3
  exact absurd h3 (by decide)
mutual
/-- ints, tuples of such -/
def tiE : PyData → Prop
  | .int _ => True
  | .tuple xs => tiEs xs
  | _ => False
def tiEs : List PyData → Prop
  | [] => True
  | x :: xs => tiE x ∧ tiEs xs
end
/-- the things behind the first one -/
def tl : List Str → List Nat
  | [] => []
  | x :: xs => 44 :: 32 :: ch x ++ tl xs
theorem ch_join : ∀ (x : Str) (xs : List Str), ch (Str.join ", " (x :: xs)) = ch x ++ tl xs
  | x, [] => by show ch x = ch x ++ []; rw [List.append_nil]
  | x, y :: ys => by
    show ch (x ++ ", " ++ Str.join ", " (y :: ys)) = _
    rw [ch_app, ch_app, ch_join y ys]
    have : ch ", " = [44, 32] := rfl
    rw [this]
    show (ch x ++ [44, 32]) ++ (ch y ++ tl ys) = ch x ++ (44 :: 32 :: ch y ++ tl ys)
    simp
/-- the end of a tuple of so many -/
def cl (n : Nat) : List Nat := if n = 1 then [44, 41] else [41]
theorem ch_tuple (ts : List Str) : ch (tupleText ts) = 40 :: (match ts with | [] => [] | x :: xs => ch x ++ tl xs) ++ cl ts.length := by
  unfold tupleText
  rw [ch_app, ch_app]
  have e1 : ch ("(" : Str) = [40] := rfl
  rw [e1]
  have e2 : ch (Str.ofString (if (ts.length == 1) = true then ",)" else ")")) = cl ts.length := by
    unfold cl
    by_cases h : ts.length = 1
    · rw [if_pos h, if_pos (beq_iff_eq.mpr h)]; rfl
    · rw [if_neg h, if_neg (fun z => h (beq_iff_eq.mp z))]; rfl
  rw [e2]
  cases ts with
  | nil => rfl
  | cons x xs => rw [ch_join]; rfl
theorem cl_tm (n : Nat) (s : List Nat) : Tm (cl n ++ s) := by
  unfold cl
  split
  · exact .inr ⟨_, .inl rfl⟩
  · exact .inr ⟨_, .inr rfl⟩
theorem tl_tm (xs : List Str) (n : Nat) (s : List Nat) : Tm (tl xs ++ (cl n ++ s)) := by
  cases xs with
  | nil => exact cl_tm n s
  | cons x xs => exact .inr ⟨_, .inl rfl⟩
/-- with what a thing begins -/
def hd (e : PyData) (c : Nat) : Prop := match e with
  | .none => c = 78 | .bool _ => c = 84 ∨ c = 70 | .int _ => dg c | .str _ => c = 39 ∨ c = 34
  | .list _ => c = 91 | .tuple _ => c = 40 | .dict _ => True
theorem quote_or (x : Str) : reprQuote x = 39 ∨ reprQuote x = 34 := by
  unfold reprQuote
  split <;> simp
theorem textFrom_head : ∀ (ts : List Str) (k : Nat) (acc : Str), ∃ t, ch (textFrom k acc ts) = ch acc ++ t
  | [], k, acc => ⟨[], by rw [List.append_nil]; rfl⟩
  | x :: ts, k, acc => by
    obtain ⟨t, h⟩ := textFrom_head ts (k + 1) (acc ++ (if k > 0 then ", " else "" : String) ++ x)
    refine ⟨ch (Str.ofString (if k > 0 then ", " else "")) ++ (ch x ++ t), ?_⟩
    show ch (textFrom (k + 1) (acc ++ (if k > 0 then ", " else "" : String) ++ x) ts) = _
    rw [h, ch_app, ch_app, List.append_assoc, List.append_assoc]
theorem head_of {k : Nat} {e : PyData} (h : okE k e) : ∃ c t, ch e.shown = c :: t ∧ hd e c := by
  cases e with
  | none => exact ⟨78, _, rfl, rfl⟩
  | bool b => cases b; exact ⟨70, _, rfl, .inr rfl⟩; exact ⟨84, _, rfl, .inl rfl⟩
  | int i =>
    have e1 : ch (PyData.int i).shown = ch (Str.ofString (toString i)) := rfl
    cases hc : ch (Str.ofString (toString i)) with
    | nil => exact absurd hc (int_ne i)
    | cons c t => exact ⟨c, t, by rw [e1, hc], dg_int i c (by rw [hc]; exact List.mem_cons_self)⟩
  | str x =>
    have e1 : ch (PyData.str x).shown = ch (reprText x) := rfl
    have : ∃ t, ch (reprText x) = reprQuote x :: t := by
      unfold reprText ch
      have key : ∀ (l : List Nat) (acc : Array Nat), ∃ t, (l.foldl (fun out c => out ++ (Builtin.Str.reprChar (reprQuote x) c).toArray) acc).toList = acc.toList ++ t := by
        intro l
        induction l with
        | nil => intro acc; exact ⟨[], by simp⟩
        | cons c l ih =>
          intro acc
          obtain ⟨t, h⟩ := ih (acc ++ (Builtin.Str.reprChar (reprQuote x) c).toArray)
          exact ⟨_, by rw [List.foldl_cons, h, Array.toList_append, List.append_assoc]⟩
      obtain ⟨t, h⟩ := key x.cps.toList #[reprQuote x]
      refine ⟨t ++ [reprQuote x], ?_⟩
      rw [Array.toList_push, ← Array.foldl_toList, h]
      rfl
    obtain ⟨t, ht⟩ := this
    exact ⟨_, t, by rw [e1, ht], quote_or x⟩
  | list xs =>
    have e1 : ch (PyData.list xs).shown = ch (listText (PyData.shownAll xs)) := rfl
    obtain ⟨t, ht⟩ := textFrom_head (PyData.shownAll xs) 0 "["
    refine ⟨91, t ++ ch "]", ?_, rfl⟩
    rw [e1]
    unfold listText
    rw [ch_app, ht]; rfl
  | tuple xs =>
    have e1 : ch (PyData.tuple xs).shown = ch (tupleText (PyData.shownAll xs)) := rfl
    exact ⟨40, _, by rw [e1, ch_tuple]; rfl, rfl⟩
  | dict _ => exact h.elim
theorem shownAll_len : ∀ xs : List PyData, (PyData.shownAll xs).length = xs.length := fun xs => by rw [shownAll_map, List.length_map]
mutual
theorem shown_inj {k : Nat} : ∀ (r : PyData), tiE r → ∀ {e : PyData} {s t : List Nat}, okE k e → Tm s → Tm t → ch e.shown ++ s = ch r.shown ++ t → e = r ∧ s = t
  | .int i, _, e, s, t, he, hs, ht, q => by
    obtain ⟨c, u, hc, hh⟩ := head_of he
    have q' : ch e.shown ++ s = ch (Str.ofString (toString i)) ++ t := q
    have hd1 : dg c := by
      cases hi : ch (Str.ofString (toString i)) with
      | nil => exact absurd hi (int_ne i)
      | cons c' u' =>
        rw [hc, hi, List.cons_append, List.cons_append] at q'
        have := (List.cons.inj q').1
        subst this
        exact dg_int i c (by rw [hi]; exact List.mem_cons_self)
    cases e with
    | int j =>
      have q2 : ch (Str.ofString (toString j)) ++ s = ch (Str.ofString (toString i)) ++ t := q'
      obtain ⟨h1, h2⟩ := pre_dg (dg_int j) (dg_int i) hs ht q2
      have : j = i := Int.repr_inj.mp (ch_inj h1)
      exact ⟨by rw [this], h2⟩
    | none => exfalso; have : c = 78 := hh; unfold dg at hd1; omega
    | bool b => exfalso; have : c = 84 ∨ c = 70 := hh; unfold dg at hd1; omega
    | str x => exfalso; have : c = 39 ∨ c = 34 := hh; unfold dg at hd1; omega
    | list x => exfalso; have : c = 91 := hh; unfold dg at hd1; omega
    | tuple x => exfalso; have : c = 40 := hh; unfold dg at hd1; omega
    | dict x => exact he.elim
  | .tuple rs, hr, e, s, t, he, hs, ht, q => by
    obtain ⟨c, u, hc, hh⟩ := head_of he
    have q' : ch e.shown ++ s = ch (tupleText (PyData.shownAll rs)) ++ t := q
    rw [ch_tuple] at q'
    have hd1 : c = 40 := by
      rw [hc, List.cons_append] at q'
      exact (List.cons.inj q').1
    cases e with
    | tuple es =>
      have q2 : ch (tupleText (PyData.shownAll es)) ++ s = 40 :: (match PyData.shownAll rs with | [] => [] | x :: xs => ch x ++ tl xs) ++ cl (PyData.shownAll rs).length ++ t := q'
      rw [ch_tuple] at q2
      have q3 := (List.cons.inj (show 40 :: ((match PyData.shownAll es with | [] => [] | x :: xs => ch x ++ tl xs) ++ (cl (PyData.shownAll es).length ++ s)) = 40 :: ((match PyData.shownAll rs with | [] => [] | x :: xs => ch x ++ tl xs) ++ (cl (PyData.shownAll rs).length ++ t)) by simpa using q2)).2
      rw [shownAll_len, shownAll_len] at q3
      cases rs with
      | nil =>
        cases es with
        | nil =>
          have : cl 0 ++ s = cl 0 ++ t := q3
          exact ⟨rfl, List.append_cancel_left this⟩
        | cons e es =>
          exfalso
          obtain ⟨c', u', hc', hh'⟩ := head_of he.1
          have : (ch e.shown ++ tl (PyData.shownAll es)) ++ (cl (es.length + 1) ++ s) = 41 :: t := q3
          rw [hc'] at this
          have := (List.cons.inj this).1
          subst this
          cases e with
          | none => exact absurd hh' (by show ¬(41 = 78); decide)
          | bool b => exact absurd hh' (by show ¬(41 = 84 ∨ 41 = 70); decide)
          | int j => exact absurd hh' (by show ¬dg 41; unfold dg; omega)
          | str x => exact absurd hh' (by show ¬(41 = 39 ∨ 41 = 34); decide)
          | list x => exact absurd hh' (by show ¬(41 = 91); decide)
          | tuple x => exact absurd hh' (by show ¬(41 = 40); decide)
          | dict x => exact he.1.elim
      | cons r rs =>
        cases es with
        | nil =>
          exfalso
          obtain ⟨c', u', hc', hh'⟩ := head_r r hr.1
          have : 41 :: s = (ch r.shown ++ tl (PyData.shownAll rs)) ++ (cl (rs.length + 1) ++ t) := q3
          rw [hc'] at this
          have := (List.cons.inj this).1
          subst this
          unfold dg at hh'
          omega
        | cons e es =>
          have q4 : ch e.shown ++ (tl (PyData.shownAll es) ++ (cl (es.length + 1) ++ s)) = ch r.shown ++ (tl (PyData.shownAll rs) ++ (cl (rs.length + 1) ++ t)) := by
            have : (ch e.shown ++ tl (PyData.shownAll es)) ++ (cl (es.length + 1) ++ s) = (ch r.shown ++ tl (PyData.shownAll rs)) ++ (cl (rs.length + 1) ++ t) := q3
            rw [List.append_assoc, List.append_assoc] at this
            exact this
          obtain ⟨h1, h2⟩ := shown_inj r hr.1 he.1 (tl_tm _ _ _) (tl_tm _ _ _) q4
          obtain ⟨h3, h4⟩ := shown_injs rs hr.2 he.2 h2
          subst h1 h3
          exact ⟨rfl, List.append_cancel_left h4⟩
    | none => exfalso; have : c = 78 := hh; omega
    | bool b => exfalso; have : c = 84 ∨ c = 70 := hh; omega
    | str x => exfalso; have : c = 39 ∨ c = 34 := hh; omega
    | list x => exfalso; have : c = 91 := hh; omega
    | int x => exfalso; have : dg c := hh; unfold dg at this; omega
    | dict x => exact he.elim
theorem shown_injs {k : Nat} : ∀ (rs : List PyData), tiEs rs → ∀ {es : List PyData} {n m : Nat} {s t : List Nat}, okEs k es → tl (PyData.shownAll es) ++ (cl n ++ s) = tl (PyData.shownAll rs) ++ (cl m ++ t) → es = rs ∧ cl n ++ s = cl m ++ t
  | [], _, [], _, _, _, _, _, q => ⟨rfl, q⟩
  | [], _, e :: es, n, m, s, t, _, q => by
    exfalso
    have q2 : 44 :: 32 :: (ch e.shown ++ tl (PyData.shownAll es)) ++ (cl n ++ s) = cl m ++ t := q
    unfold cl at q2
    split at q2
    all_goals (split at q2 <;> simp at q2)
  | r :: rs, _, [], n, m, s, t, _, q => by
    exfalso
    have q2 : cl n ++ s = 44 :: 32 :: (ch r.shown ++ tl (PyData.shownAll rs)) ++ (cl m ++ t) := q
    unfold cl at q2
    split at q2
    all_goals (split at q2 <;> simp at q2)
  | r :: rs, hr, e :: es, n, m, s, t, he, q => by
    have q2 : 44 :: 32 :: (ch e.shown ++ (tl (PyData.shownAll es) ++ (cl n ++ s))) = 44 :: 32 :: (ch r.shown ++ (tl (PyData.shownAll rs) ++ (cl m ++ t))) := by
      have : 44 :: 32 :: (ch e.shown ++ tl (PyData.shownAll es)) ++ (cl n ++ s) = 44 :: 32 :: (ch r.shown ++ tl (PyData.shownAll rs)) ++ (cl m ++ t) := q
      simpa using this
    have q3 := (List.cons.inj (List.cons.inj q2).2).2
    obtain ⟨h1, h2⟩ := shown_inj r hr.1 he.1 (tl_tm _ _ _) (tl_tm _ _ _) q3
    obtain ⟨h3, h4⟩ := shown_injs rs hr.2 he.2 h2
    exact ⟨by rw [h1, h3], h4⟩
theorem head_r : ∀ (r : PyData), tiE r → ∃ c t, ch r.shown = c :: t ∧ (dg c ∨ c = 40)
  | .int i, _ => by
    cases hi : ch (Str.ofString (toString i)) with
    | nil => exact absurd hi (int_ne i)
    | cons c t => exact ⟨c, t, hi, .inl (dg_int i c (by rw [hi]; exact List.mem_cons_self))⟩
  | .tuple rs, _ => ⟨40, _, by
      have e1 : ch (PyData.tuple rs).shown = ch (tupleText (PyData.shownAll rs)) := rfl
      rw [e1, ch_tuple]; rfl, .inr rfl⟩
end
mutual
/-- ints, tuples of such -/
def tiD : D → Prop
  | .int _ => True
  | .tup ds => tiDs ds
  | _ => False
def tiDs : List D → Prop
  | [] => True
  | d :: ds => tiD d ∧ tiDs ds
end
mutual
theorem tiD.e : ∀ {d : D}, tiD d → tiE (encD d)
  | .int _, _ => trivial
  | .tup ds, h => by unfold encD; exact tiDs.e (ds := ds) h
theorem tiDs.e : ∀ {ds : List D}, tiDs ds → tiEs (encDs ds)
  | [], _ => trivial
  | d :: ds, ⟨a, b⟩ => by unfold encDs; exact ⟨tiD.e a, tiDs.e b⟩
end
mutual
theorem dpy_ti {μ : Mu} : ∀ {r v : D} {e : PyData}, tiD r → DPy μ v e → e = encD r → v = r
  | .int i, v, _, _, h, q => by
    unfold encD at q
    cases h <;> cases q
    rfl
  | .tup ds, v, _, hr, h, q => by
    unfold encD at q
    cases h with
    | tup h =>
      cases q
      rw [dpys_ti (rs := ds) hr h rfl]
    | non => cases q
    | bl => cases q
    | int => cases q
    | str => cases q
    | lst _ _ => cases q
theorem dpys_ti {μ : Mu} : ∀ {rs vs : List D} {es : List PyData}, tiDs rs → DPys μ vs es → es = encDs rs → vs = rs
  | [], vs, _, _, h, q => by
    unfold encDs at q
    subst q
    cases h
    rfl
  | r :: rs, vs, _, hr, h, q => by
    unfold encDs at q
    subst q
    cases h with
    | cons a t => rw [dpy_ti hr.1 a rfl, dpys_ti hr.2 t rfl]
end
/-- what is shown as r, is r -/
theorem same_shown {k : Nat} {μ : Mu} {v r : D} {e : PyData} (hr : tiD r) (h : DPy μ v e) (he : okE k e) (q : e.shown = (encD r).shown) : v = r := by
  obtain ⟨h1, _⟩ := shown_inj (encD r) hr.e he (.inl rfl) (.inl rfl) (show ch e.shown ++ [] = ch (encD r).shown ++ [] by rw [q])
  exact dpy_ti hr h h1
end Sq
namespace Sq
open PySem PySem.Spec PyProof.Rows L2
mutual
/-- its texts may be bent, no tuple in it is empty -/
def StrsG : D → Prop
  | .str x => StrG x = true
  | .tup ds => ds ≠ [] ∧ StrsGs ds
  | _ => True
def StrsGs : List D → Prop
  | [] => True
  | d :: ds => StrsG d ∧ StrsGs ds
end
end Sq
namespace Sq
open PySem PySem.Spec PyProof.Rows L2
/-- a comprehension's scope without free names -/
theorem nofree {scope sc : Scope} (h : ∀ y ∈ scope.names, y.2 ≠ NameKind.free) : ∀ y ∈ scope.names, y.2 = .free → sc.names.lookup y.1 = some .cell ∨ sc.names.lookup y.1 = some .free := fun y hy hf => absurd hf (h y hy)
end Sq

/-! zip of a tuple and a list. -/
namespace Sq
open PySem PySem.Spec PyProof.Rows L2
/-- the tuple at a, the list at b -/
def ItzM (K : PySem.W.Frag) (a b : Addr) : It where
  go := fun i H => ∃ xs ys, ∃ x y : V, SqT K H a xs ∧ SqL K H b ys ∧ xs[i]? = some x ∧ ys[i]? = some y
  yld := fun i H v H' => ∃ T, ∃ x y : V, v = .ref T ∧ H T = none ∧ H' = upd H T (.tup [x, y]) ∧ (∀ us, SqT K H a us → us[i]? = some x) ∧ ∀ us, SqL K H b us → us[i]? = some y
  stop := fun i H => ∃ xs ys, SqT K H a xs ∧ SqL K H b ys ∧ i ≤ xs.length ∧ i ≤ ys.length ∧ (i = xs.length ∨ i = ys.length)
/-- where such a zip stands -/
def ZmAt (z TI TO i1 i2 a b : Addr) (i : Nat) (h : Heap) : Prop := IsZip h z TI TO .none ∧ IsTupOf2 h TI (.ref i1) (.ref i2) ∧ (∃ u v, IsTupOf2 h TO u v) ∧ h.IsTupleIter i1 a i ∧ h.IsListIter i2 b i
theorem zm_sep {z TI TO i1 i2 a b : Addr} (D : ZipApart z TI TO i1 i2 a b) : ZipSep2 z TI TO i1 i2 [i1, a] [i2, b] where
  TIz := D.TIz
  TOz := D.TOz
  TITO := D.TITO
  TIi1 := D.TIi1
  mem1 := List.mem_cons_self
  zf1 := fun q => by
    simp only [List.mem_cons, List.not_mem_nil, or_false] at q
    exact q.elim (fun e => D.i1z e.symm) fun e => D.l1z e.symm
  Tf1 := fun q => by
    simp only [List.mem_cons, List.not_mem_nil, or_false] at q
    exact q.elim (fun e => D.TOi1 e) fun e => D.l1TO e.symm
  TIi2 := D.TIi2
  mem2 := List.mem_cons_self
  zf2 := fun q => by
    simp only [List.mem_cons, List.not_mem_nil, or_false] at q
    exact q.elim (fun e => D.i2z e.symm) fun e => D.l2z e.symm
  Tf2 := fun q => by
    simp only [List.mem_cons, List.not_mem_nil, or_false] at q
    exact q.elim (fun e => D.TOi2 e) fun e => D.l2TO e.symm
  sep1_2 := fun q => by
    simp only [List.mem_cons, List.not_mem_nil, or_false] at q
    exact q.elim (fun e => D.i12 e) fun e => D.l2i1 e.symm
  sep2_1 := fun q => by
    simp only [List.mem_cons, List.not_mem_nil, or_false] at q
    exact q.elim (fun e => D.i12 e.symm) fun e => D.l1i2 e.symm
theorem in5 {c z TI TO i1 i2 : Addr} (h : c ∈ [z, TI, TO, i1, i2]) : c = z ∨ c = TI ∨ c = TO ∨ c = i1 ∨ c = i2 := by
  simpa only [List.mem_cons, List.not_mem_nil, or_false] using h
theorem zm_live {z TI TO i1 i2 a b : Addr} {i : Nat} {h : Heap} (st : ZmAt z TI TO i1 i2 a b i h) {c : Addr} (hc : c ∈ [z, TI, TO, i1, i2]) : ∃ o, h.get? c = some o ∧ ∀ v, o.data ≠ .cell v := by
  obtain ⟨s1, s2, ⟨u, v, s3⟩, ⟨o1, s4, _, d1⟩, o2, s5, _, d2⟩ := st
  rcases in5 hc with e | e | e | e | e
  · subst e; exact ⟨_, s1, fun _ q => nomatch q⟩
  · subst e; exact ⟨_, s2, fun _ q => nomatch q⟩
  · subst e; exact ⟨_, s3, fun _ q => nomatch q⟩
  · subst e; exact ⟨o1, s4, fun _ q => by rw [d1] at q; cases q⟩
  · subst e; exact ⟨o2, s5, fun _ q => by rw [d2] at q; cases q⟩
theorem out5 {c z TI TO i1 i2 : Addr} (h : c ∉ [z, TI, TO, i1, i2]) : c ≠ z ∧ c ≠ TI ∧ c ≠ TO ∧ c ≠ i1 ∧ c ≠ i2 := by
  simp only [List.mem_cons, List.not_mem_nil, or_false, not_or] at h
  exact h
theorem turn_zipM {P : Program} {w : World} {K : PySem.W.Frag} {tg : Expr} {elts : List Expr} {kk : Nat} {tpos : Pos} (htg : tg = .Tuple elts kk tpos) {a b z TI TO i1 i2 : Addr} (D : ZipApart z TI TO i1 i2 a b) : Turn P w K tg (ItzM K a b) [z, TI, TO, i1, i2] z (ZmAt z TI TO i1 i2 a b) where
  mem := List.mem_cons_self
  obj := fun i h st c hc => zm_live st hc
  keep := fun i h h' ⟨s1, s2, ⟨u, v, s3⟩, s4, s5⟩ k => ⟨k z (by simp) _ s1, k TI (by simp) _ s2, ⟨u, v, k TO (by simp) _ s3⟩, s4.at fun o e => k i1 (by simp) o e, s5.at fun o e => k i2 (by simp) o e⟩
  item := by
    subst htg
    intro X hP hw hK hc i pins s σ H E I hf st hg
    subst hP hw hK
    obtain ⟨xs, ys, x, y, qx, qy, ex, ey⟩ := hg
    obtain ⟨its1, r1, p1, _⟩ := I.tuple qx
    obtain ⟨its2, r2, p2, _⟩ := I.list qy
    obtain ⟨u1, hu1, ru1⟩ := r1.get ex
    obtain ⟨u2, hu2, ru2⟩ := r2.get ey
    have lt1 := (List.getElem?_eq_some_iff.mp hu1).1
    have lt2 := (List.getElem?_eq_some_iff.mp hu2).1
    have live := fun c (hc : c ∈ [z, TI, TO, i1, i2]) => zm_live st hc
    have ltc : ∀ c ∈ [z, TI, TO, i1, i2], c < s.heap.objs.size := fun c hc => by
      obtain ⟨o, ho, _⟩ := live c hc
      exact Heap.lt_size ho
    obtain ⟨s1, s2, ⟨v1, v2, s3⟩, s4, s5⟩ := st
    have S := zm_sep D
    have D1 := Draws.tuple (prog := X.prog) (w := X.w) (A := X.A.in1) (I.ok.hd hc) i1 a D.l1i1 its1.toArray
    have D2 := Draws.list (prog := X.prog) (w := X.w) (A := X.A.in1) (I.ok.hd hc) i2 b D.l2i2 its2.toArray
    refine wpAny_pyNext_zipD2_item S D1 D2 s1 s2 s3 ⟨s4, show s.heap.IsTuple a its1.toArray from p1⟩ ⟨s5, p2.isList⟩ (by simpa using lt1) (by simpa using lt2) fun x1 x2 h' tk y1 y2 b1 b2 d1 d2 b5 b6 hk => ?_
    have e1 : x1 = u1 := by
      have : its1[i]? = some x1 := by simpa using y1
      rw [hu1] at this
      exact (Option.some.inj this).symm
    have e2 : x2 = u2 := by
      have : its2[i]? = some x2 := by simpa using y2
      rw [hu2] at this
      exact (Option.some.inj this).symm
    subst e1 e2
    refine ⟨_, rfl, wpAny_letOwnedTupleGo_zip (s := { s with heap := h', toks := tk }) b1 fun h2 z2 sb => ?_⟩
    have hT2 : h2.get? s.heap.objs.size = some { cls := .type "tuple", data := .seq #[x1, x2] } := (sb.2 _ (Nat.ne_of_gt (ltc z (by simp)))).trans b5
    have new : ObjOk X.prog X.w (upd H s.heap.objs.size (.tup [x, y])) h2 s.heap.objs.size (.tup [x, y]) := ⟨by show 2 ≤ sizeLine; decide, [x1, x2], .cons ru1 (.cons ru2 .nil), ⟨_, hT2, rfl, _, rfl⟩⟩
    have I2 : Inv X pins σ (upd H s.heap.objs.size (.tup [x, y])) { s with heap := h2, toks := tk } := I.turnedNew (t' := tk) (ch := [z, TI, TO, i1, i2]) (fun c o hb q => by
      obtain ⟨n1, n2, n3, n4, n5⟩ := out5 hb
      exact (sb.2 c n1).trans (hk c o n1 n3 n4 n5 q)) hf (Nat.le_refl _) new
    refine ⟨.ref s.heap.objs.size, _, I2, rfl, ⟨_, x, y, rfl, I.hok.fresh (Nat.le_refl _), rfl, fun us hus => ?_, fun us hus => ?_⟩, ⟨z2, ?_, ⟨x1, x2, ?_⟩, ?_, ?_⟩, fun c hcm => ?_⟩
    · rw [I.tuple_inj hus qx]; exact ex
    · rw [I.list_inj hus qy]; exact ey
    · exact (sb.2 _ D.TIz).trans (hk _ _ D.TIz D.TITO D.TIi1 D.TIi2 s2)
    · exact (sb.2 _ D.TOz).trans b2
    · exact d1.1.at fun o q => (sb.2 _ D.i1z).trans q
    · exact d2.1.at fun o q => (sb.2 _ D.i2z).trans q
    · rw [upd_ne (Nat.ne_of_lt (ltc c hcm))]
      exact (hf c hcm).1
  done := by
    intro X hP hw hK hc i pins s σ H E I hf st hg
    subst hP hw hK
    obtain ⟨xs, ys, qx, qy, l1, l2, hend⟩ := hg
    obtain ⟨its1, r1, p1, _⟩ := I.tuple qx
    obtain ⟨its2, r2, p2, _⟩ := I.list qy
    have n1 := r1.length
    have n2 := r2.length
    obtain ⟨s1, s2, ⟨v1, v2, s3⟩, s4, s5⟩ := st
    have S := zm_sep D
    have D1 := Draws.tuple (prog := X.prog) (w := X.w) (A := X.A.in1) (I.ok.hd hc) i1 a D.l1i1 its1.toArray
    have D2 := Draws.list (prog := X.prog) (w := X.w) (A := X.A.in1) (I.ok.hd hc) i2 b D.l2i2 its2.toArray
    have z1 : its1.toArray.size = its1.length := by simp
    have z2 : its2.toArray.size = its2.length := by simp
    refine wpAny_pyNext_zipD2_end S D1 D2 s1 s2 s3 ⟨s4, show s.heap.IsTuple a its1.toArray from p1⟩ ⟨s5, p2.isList⟩ (by omega) (by omega) (by omega) fun h' tk hk => ⟨rfl, I.turnedL (t' := tk) (ch := [z, TI, TO, i1, i2]) (fun c o hb q => ?_) hf⟩
    obtain ⟨n1, n2, n3, n4, n5⟩ := out5 hb
    exact hk c o n1 n3 n4 n5 q
  self := fun A i s Q E st h => wpAny_pyIter_zip st.1 h
def iZipM (K : PySem.W.Frag) (ta : TA) : TI := fun σ H R => ta σ H fun vs H1 => ∃ a b xs ys, vs = [.ref a, .ref b] ∧ SqT K H1 a xs ∧ SqL K H1 b ys ∧ R (ItzM K a b) H1
theorem pi_zipM {X : Cx} {e e2 : Expr} {ta : TA} {p pos tpos : Pos} {elts : List Expr} {kk : Nat} (hg : Gl X "zip") (hm : X.mg "zip" = none) (ha : PA X [e, e2] ta) (hs : starEach [e, e2] X.env = (false, eval e X.env) :: starEach [e2] X.env := by rfl) (hpl : (backTo pos (starEach [e2] X.env)).any (·.1) = false := by rfl) : PI X (.Tuple elts kk tpos) (.Call (.Name "zip" p) [e, e2] [] pos) (iZipM X.K ta) := by
  refine ⟨fun pins s σ H R I h => ?_⟩
  refine Call_ (ld_blt I hg hm PyProof.Rows.boot_zip (PyProof.Rows.callWith_type1 (thn (ha.run pos pins s σ H _ I h) fun us s1 ⟨vs, H1, I1, r1, q1⟩ => ?_) hs hpl))
  obtain ⟨a, b, xs, ys, ev, qx, qy, q⟩ := q1
  subst ev
  cases r1 with
  | cons r rr =>
    cases rr with
    | cons r' rr =>
      cases rr
      cases r
      cases r'
      obtain ⟨its1, k1, p1, _⟩ := I1.tuple qx
      obtain ⟨its2, k2, p2, _⟩ := I1.list qy
      have la : a < s1.heap.objs.size := by
        obtain ⟨o, ho, _⟩ := p1
        exact Heap.lt_size ho
      have lb : b < s1.heap.objs.size := p2.lt
      refine zip_begins2 (begins_tuple a its1.toArray) (begins_list b its2.toArray) (show s1.heap.IsTuple a its1.toArray from p1) p2.isList fun h' hz hTI hTO g1 g2 hsz hk => wpAny_pyIter_zip hz ?_
      have I2 : Inv X pins σ H1 { s1 with heap := h' } := I1.kept (t' := s1.toks) hk
      refine ⟨s1.heap.objs.size + 4, [s1.heap.objs.size + 4, s1.heap.objs.size + 2, s1.heap.objs.size + 3, s1.heap.objs.size, s1.heap.objs.size + 1], _, _, H1, rfl, I2, turn_zipM rfl (PySem.W.ktu_apart s1.heap.objs.size a b la lb), ⟨hz, hTI, ⟨_, _, hTO⟩, ⟨_, g1, rfl, rfl⟩, ⟨_, g2, rfl, rfl⟩⟩, fun c hcm => ?_, q⟩
      have hle : s1.heap.objs.size ≤ c := by
        rcases in5 hcm with e | e | e | e | e <;> rw [e]
        · exact Nat.le_add_right _ _
        · exact Nat.le_add_right _ _
        · exact Nat.le_add_right _ _
        · exact Nat.le_refl _
        · exact Nat.le_add_right _ _
      exact I1.fpOk hle (I1.hok.fresh hle)
theorem itOk_zipM {K : PySem.W.Frag} {μ : Mu} {H : Hp} {p b : Addr} {vs : List V} {ds es : List D} (S : Sim K μ H) (t : SqT K H p vs) (r : Rps K H ds vs) : ItOk K μ H (ItzM K p b) (List.zipWith pairD ds es) (fun μ' => μ' b = some (.lst es)) where
  stop := fun μ' H' F S' c => by
    obtain ⟨us, h2, r2⟩ := S'.lst c
    refine ⟨vs, us, sqT_keep S F t, SqL.of h2, ?_⟩
    have := r.length
    have := r2.length
    rw [List.length_zipWith]
    omega
  go := fun i d μ' H' e F S' c => by
    obtain ⟨us, h2, r2⟩ := S'.lst c
    obtain ⟨x, y, z1, z2, _⟩ := zip_get e
    obtain ⟨v, g1, _⟩ := r.get z1
    obtain ⟨u, g2, _⟩ := r2.get z2
    exact ⟨vs, us, v, u, sqT_keep S F t, SqL.of h2, g1, g2⟩
  yld := fun i d μ' H' z H2 e F S' c y => by
    obtain ⟨x, y', z1, z2, rfl⟩ := zip_get e
    obtain ⟨T, v', u', rfl, hT, rfl, k1, k2⟩ := y
    obtain ⟨us, h2, r2⟩ := S'.lst c
    obtain ⟨v, g1, q1⟩ := (Rps.keep S F ds r).get z1
    obtain ⟨u, g2, q2⟩ := r2.get z2
    have e1 := k1 vs (sqT_keep S F t)
    rw [g1] at e1; cases e1
    have e2 := k2 us (SqL.of h2)
    rw [g2] at e2; cases e2
    exact ⟨fr_tup hT, sim_tup S' hT, rp_mk (SqT.of upd_same) (Rps.keep S' (fr_tup hT) _ (rps_pair q1 q2))⟩
def fZipM (x y : D) (μ : Mu) (Q : List D → (Mu → Prop) → Mu → Prop) : Prop := ∃ xs b ys, x = .tup xs ∧ y = .ob b ∧ μ b = some (.lst ys) ∧ Q (List.zipWith pairD xs ys) (fun μ' => μ' b = some (.lst ys)) μ
def wZipM (a b : WE) : WI := ⟨fun ρ μ Q X => a.run ρ μ (fun x μ1 => b.run ρ μ1 (fun y μ2 => fZipM x y μ2 Q) X) X, fun hQ hX h => a.mono (fun _ _ h => b.mono (fun _ _ ⟨xs, b, ys, h1, h2, h3, h4⟩ => ⟨xs, b, ys, h1, h2, h3, hQ _ _ _ h4⟩) hX h) hX h⟩
theorem wZipM_run {a b : WE} {ρ : Ev} {μ : Mu} {Q : List D → (Mu → Prop) → Mu → Prop} {X : XQ} : (wZipM a b).run ρ μ Q X = a.run ρ μ (fun x μ1 => b.run ρ μ1 (fun y μ2 => fZipM x y μ2 Q) X) X := rfl
section
variable {X : Cx} {Wx : WX}
theorem li_zipM {e e2 : Expr} {w w2 : WE} {p pos tpos : Pos} {elts : List Expr} {kk : Nat} (hm : X.mg "zip" = none) (ha : LAs X Wx [e, e2] [w, w2]) (hg : Gl X "zip" := by rfl) (hs : starEach [e, e2] X.env = (false, eval e X.env) :: starEach [e2] X.env := by rfl) (hpl : (backTo pos (starEach [e2] X.env)).any (·.1) = false := by rfl) : LI X Wx (.Tuple elts kk tpos) (.Call (.Name "zip" p) [e, e2] [] pos) (wZipM w w2) :=
  PI.weak (pi_zipM hg hm ha hs hpl) fun σ H R ⟨ρ, μ, E, S, h⟩ => by
    refine lW.bind (w := wArgs [w, w2]) E S (Q := fun ds μ1 => ∃ x y, ds = [x, y] ∧ fZipM x y μ1 fun ds chk μ2 => ∀ J H2, Fr μ H μ2 H2 → Sim X.K μ2 H2 → ItOk X.K μ2 H2 J ds chk → R J H2) (X := OutX X.K Wx σ μ H) ?_ (fun xs μ1 vs H1 F1 S1 E1 r1 h1 => ?_) fun _ _ _ h => h
    · show w.run ρ μ _ _
      exact w.mono (fun x μ1 h => w2.mono (fun y μ2 h => ⟨x, y, rfl, h⟩) (fun _ _ _ h => h) h) (fun _ _ _ h => h) h
    · obtain ⟨x, y, rfl, xs, b, ys, rfl, rfl, e1, q⟩ := h1
      obtain ⟨v, u, rfl, r, r'⟩ := rps2 r1
      obtain ⟨p1, vs1, rfl, t1, g1⟩ := rp_tup r
      obtain ⟨vs2, h2, g2⟩ := S1.lst e1
      rw [rp_ob r']
      exact ⟨p1, b, vs1, vs2, rfl, t1, SqL.of h2, q _ H1 F1 S1 (itOk_zipM S1 t1 g1)⟩
end
end Sq

/-! list(range(..)) by steps; comprehensions over two sources. -/
namespace Sq
open PySem PySem.Spec PyProof.Rows L2
/-! ### list(range(i, j, c)) -/
def stepV (i c : Int) (n : Nat) : List V := (List.range n).map fun k => V.int (i + (k : Nat) * c)
def stepD (i c : Int) (n : Nat) : List D := (List.range n).map fun k => D.int (i + (k : Nat) * c)
theorem stepD_len (i c : Int) (n : Nat) : (stepD i c n).length = n := by unfold stepD; rw [List.length_map, List.length_range]
theorem vals_step {i c : Int} {n : Nat} {acc : Array Value} (h : ItemsOf (fun k v => ∃ t, v = .int (i + k * c) t) acc n) : Vals (stepV i c n) acc.toList := by
  have e : acc.toList.length = n := by rw [Array.length_toList]; exact h.1
  unfold stepV
  subst e
  refine vals_of_get acc.toList _ fun j u hj => ?_
  obtain ⟨t, rfl⟩ := h.2 j u (by rw [← hj, Array.getElem?_toList])
  exact ⟨t, rfl⟩
theorem rps_step {K : PySem.W.Frag} {H : Hp} (i c : Int) (n : Nat) : Rps K H (stepD i c n) (stepV i c n) := by
  have e1 : stepD i c n = ((List.range n).map fun k => i + (k : Nat) * c).map D.int := by unfold stepD; rw [List.map_map]; rfl
  have e2 : stepV i c n = ((List.range n).map fun k => i + (k : Nat) * c).map V.int := by unfold stepV; rw [List.map_map]; rfl
  rw [e1, e2]
  exact Rps.of_ints _
def tLstRg3 (ta : TA) : TE := fun σ H Q => ta σ H fun vs H1 => ∃ (i j c : Int) (n : Nat), vs = [.int i, .int j, .int c] ∧ L2.RgC i j c n ∧ n ≤ 2 ^ 24 ∧ ∀ q, H1 q = none → Q (.ref q) (upd H1 q (.lst (stepV i c n)))
section
variable {X : Cx} {Wx : WX}
theorem pe_listRg3 {a b c : Expr} {ta : TA} {p p2 pos pos2 : Pos} (hc : X.calm = true) (hg : Gl X "list") (hm : X.mg "list" = none) (hg2 : Gl X "range") (hm2 : X.mg "range" = none) (ha : PA X [a, b, c] ta)
    (hs : starEach [a, b, c] X.env = (false, eval a X.env) :: starEach [b, c] X.env) (hpl : (backTo pos2 (starEach [b, c] X.env)).any (·.1) = false)
    (nb : starEach [.Call (.Name "range" p2) [a, b, c] [] pos2] X.env = (false, eval (.Call (.Name "range" p2) [a, b, c] [] pos2) X.env) :: starEach [] X.env) : PE X (.Call (.Name "list" p) [.Call (.Name "range" p2) [a, b, c] [] pos2] [] pos) (tLstRg3 ta) := by
  refine ⟨fun pins s σ H Q I h => ?_⟩
  refine Call_ (ld_blt I hg hm boot_list (PyProof.Rows.callWith_type1 (args_cons ?_ nb) nb))
  refine Call_ (ld_blt I hg2 hm2 boot_range (PyProof.Rows.callWith_type1 (thn (ha.run pos2 pins s σ H _ I h) fun us s1 ⟨vs, H1, I1, r1, q1⟩ => ?_) hs hpl))
  obtain ⟨i, j, k, n, e, ⟨c0, c1, c2, c3⟩, hz, q⟩ := q1
  subst e
  cases r1 with
  | cons r rr =>
    cases rr with
    | cons r' rr =>
      cases rr with
      | cons r'' rr =>
        cases rr
        obtain ⟨t, rfl⟩ := r
        obtain ⟨t', rfl⟩ := r'
        obtain ⟨t'', rfl⟩ := r''
        refine call_range_3 c0 ?_ (.inl (PyProof.noPylong_small c1))
        refine args_nil ?_
        have I2 : Inv X pins σ H1 { s1 with heap := s1.heap.push { cls := .type "range", data := .fields #[.int i t, .int j t', .int k t''] } } := I1.kept (t' := s1.toks) fun b o e => Heap.get?_push_of_some _ e
        refine call_list_range (n := n) (I2.ok.hd hc) (IsRange.new ..) c2 c3 hz fun h' tk acc c' hk e' hi => ?_
        refine ⟨.ref _, upd H1 _ (.lst (stepV i k n)), I2.laid hk (Nat.le_refl _) (show ObjOk X.prog X.w _ _ _ (.lst (stepV i k n)) from ⟨?_, acc.toList, c', vals_step hi, ?_⟩), rfl, q _ (I2.hok.fresh (Nat.le_refl _))⟩
        · unfold stepV
          rw [List.length_map, List.length_range, sizeLine_eq]; omega
        · rw [Array.toArray_toList]; exact e'
/-- the numbers from i on, below j, by steps of c -/
def Stp (i j c : Int) (n : Nat) : Prop := 0 ≤ i ∧ i < j ∧ j < 1099511627776 ∧ 0 < c ∧ c < 1073741824 ∧ (n : Int) = (j - i - 1) / c + 1 ∧ n ≤ 16777216
theorem Stp.rg {i j c : Int} {n : Nat} (h : Stp i j c n) : L2.RgC i j c n := by
  obtain ⟨h1, h2, h3, h4, h5, h6, h7⟩ := h
  have e : Builtin.Range.rangeSize i j c = (n : Int) := by
    unfold Builtin.Range.rangeSize
    rw [if_pos h4, if_pos h2, h6]
  refine ⟨by omega, by omega, ?_, e⟩
  unfold Builtin.Range.small
  rw [e]
  simp only [Builtin.Range.rangeFitsLong, Bool.and_eq_true, Bool.or_eq_true, decide_eq_true_eq, beq_iff_eq]
  rw [if_pos h4]
  refine ⟨by omega, .inr ?_⟩
  rw [Bool.and_eq_true, decide_eq_true_eq, decide_eq_true_eq]
  omega
def wLstRg3 (a b c : WE) : WE := ⟨fun ρ μ Q X => a.run ρ μ (fun x μ1 => b.run ρ μ1 (fun y μ2 => c.run ρ μ2 (fun z μ3 => ∃ (i j k : Int) (n : Nat), x = .int i ∧ y = .int j ∧ z = .int k ∧ Stp i j k n ∧ ∀ p, μ3 p = none → Q (.ob p) (mset μ3 p (.lst (stepD i k n)))) X) X) X,
  fun hQ hX h => a.mono (fun _ _ h => b.mono (fun _ _ h => c.mono (fun _ _ ⟨i, j, k, n, h1, h2, h3, h4, q⟩ => ⟨i, j, k, n, h1, h2, h3, h4, fun p hp => hQ _ _ (q p hp)⟩) hX h) hX h) hX h⟩
theorem wLstRg3_run {a b c : WE} {ρ : Ev} {μ : Mu} {Q : PQ} {X : XQ} : (wLstRg3 a b c).run ρ μ Q X = a.run ρ μ (fun x μ1 => b.run ρ μ1 (fun y μ2 => c.run ρ μ2 (fun z μ3 => ∃ (i j k : Int) (n : Nat), x = .int i ∧ y = .int j ∧ z = .int k ∧ Stp i j k n ∧ ∀ p, μ3 p = none → Q (.ob p) (mset μ3 p (.lst (stepD i k n)))) X) X) X := rfl
theorem le_listRg3 {a b c : Expr} {wa wb wc : WE} {p p2 pos pos2 : Pos} (hm : X.mg "list" = none) (hm2 : X.mg "range" = none) (ha : LAs X Wx [a, b, c] [wa, wb, wc]) (hg : Gl X "list" := by rfl) (hg2 : Gl X "range" := by rfl) (hc : X.calm = true := by rfl)
    (hs : starEach [a, b, c] X.env = (false, eval a X.env) :: starEach [b, c] X.env := by rfl) (hpl : (backTo pos2 (starEach [b, c] X.env)).any (·.1) = false := by rfl)
    (nb : starEach [.Call (.Name "range" p2) [a, b, c] [] pos2] X.env = (false, eval (.Call (.Name "range" p2) [a, b, c] [] pos2) X.env) :: starEach [] X.env := by rfl) : LE X Wx (.Call (.Name "list" p) [.Call (.Name "range" p2) [a, b, c] [] pos2] [] pos) (wLstRg3 wa wb wc) :=
  PE.weak (pe_listRg3 hc hg hm hg2 hm2 ha hs hpl nb) fun σ H Q ⟨ρ, μ, E, S, h⟩ => by
    refine lW.bind (w := wArgs [wa, wb, wc]) E S (Q := fun ds μ1 => ∃ (i j k : Int) (n : Nat), ds = [.int i, .int j, .int k] ∧ Stp i j k n ∧ ∀ p, μ1 p = none → Out (Rp X.K) X.K μ H Q (.ob p) (mset μ1 p (.lst (stepD i k n)))) (X := OutX X.K Wx σ μ H) ?_ (fun xs μ1 vs H1 F1 S1 E1 r1 h1 => ?_) fun _ _ _ h => h
    · show wa.run ρ μ _ _
      refine wa.mono (fun x μ1 h => wb.mono (fun y μ2 h => wc.mono (fun z μ3 h => ?_) (fun _ _ _ h => h) h) (fun _ _ _ h => h) h) (fun _ _ _ h => h) h
      obtain ⟨i, j, k, n, rfl, rfl, rfl, h4, q⟩ := h
      exact ⟨i, j, k, n, rfl, h4, q⟩
    · obtain ⟨i, j, k, n, rfl, hst, q⟩ := h1
      have ev : vs = [.int i, .int j, .int k] := by
        have := r1
        unfold Rps at this
        obtain ⟨v1, us, rfl, a1, this⟩ := this
        unfold Rps at this
        obtain ⟨v2, us, rfl, a2, this⟩ := this
        unfold Rps at this
        obtain ⟨v3, us, rfl, a3, this⟩ := this
        unfold Rps at this
        subst this
        have b1 : v1 = .int i := a1
        have b2 : v2 = .int j := a2
        have b3 : v3 = .int k := a3
        rw [b1, b2, b3]
      exact ⟨i, j, k, n, ev, hst.rg, by have := hst.2.2.2.2.2.2; exact this, out_lst S1 (rps_step i k n) fun p hp => (q p hp).trans F1⟩
end
/-! ### [elt for .. in .. for .. in ..] -/
theorem wipe_sub {σ : L2.St} {us vs : List Nat} (h : ∀ i ∈ us, i ∈ vs) : wipe (wipe σ us) vs = wipe σ vs := by
  apply List.ext_getElem?
  intro j
  rw [wipe_get, wipe_get, wipe_get, wipe_length]
  split
  · rfl
  · rename_i g
    rw [if_neg fun z => g (h j z)]
/-- the inner source: each item's element is put to the list at p -/
def lc2I (p : Addr) (t2 : CT) (te : WE) (chk : Mu → Prop) : List D → Ev → Mu → (Mu → Prop) → Prop
  | [], _, μ, k => chk μ ∧ k μ
  | e :: es, ρ, μ, k => chk μ ∧ (match t2.set e ρ with
    | some ρ2 => te.run ρ2 μ (fun y μ2 => ∃ acc, μ2 p = some (.lst acc) ∧ acc.length < sizeLine ∧ lc2I p t2 te chk es ρ (mset μ2 p (.lst (acc ++ [y]))) k) XF
    | none => False)
def lc2G (p : Addr) (t1 : CT) (wi1 : WI) (t2 : CT) (te : WE) (chk : Mu → Prop) : List D → Ev → Mu → (Mu → Prop) → Prop
  | [], _, μ, k => chk μ ∧ k μ
  | d :: ds, ρ, μ, k => chk μ ∧ (match t1.set d ρ with
    | some ρ1 => wi1.run ρ1 μ (fun es chk1 μ1 => lc2I p t2 te chk1 es (wipeE ρ1 t2.slots) μ1 fun μ2 => lc2G p t1 wi1 t2 te chk ds ρ μ2 k) XF
    | none => False)
theorem lc2I_mono {p : Addr} {t2 : CT} {te : WE} {chk : Mu → Prop} {k k' : Mu → Prop} (hk : ∀ μ, k μ → k' μ) : ∀ {es : List D} {ρ : Ev} {μ : Mu}, lc2I p t2 te chk es ρ μ k → lc2I p t2 te chk es ρ μ k'
  | [], _, _, h => ⟨h.1, hk _ h.2⟩
  | e :: es, ρ, μ, h => by
    refine ⟨h.1, ?_⟩
    have h2 := h.2
    revert h2
    cases t2.set e ρ with
    | none => exact id
    | some ρ2 => exact fun h2 => te.mono (fun y μ2 ⟨acc, g1, g2, q⟩ => ⟨acc, g1, g2, lc2I_mono hk q⟩) (fun _ _ _ q => q) h2
theorem lc2G_mono {p : Addr} {t1 : CT} {wi1 : WI} {t2 : CT} {te : WE} {chk : Mu → Prop} {k k' : Mu → Prop} (hk : ∀ μ, k μ → k' μ) : ∀ {ds : List D} {ρ : Ev} {μ : Mu}, lc2G p t1 wi1 t2 te chk ds ρ μ k → lc2G p t1 wi1 t2 te chk ds ρ μ k'
  | [], _, _, h => ⟨h.1, hk _ h.2⟩
  | d :: ds, ρ, μ, h => by
    refine ⟨h.1, ?_⟩
    have h2 := h.2
    revert h2
    cases t1.set d ρ with
    | none => exact id
    | some ρ1 => exact fun h2 => wi1.mono (fun es chk1 μ1 q => lc2I_mono (fun μ2 q => lc2G_mono hk q) q) (fun _ _ _ q => q) h2
def wLc2 (wi : WI) (t1 : CT) (wi1 : WI) (t2 : CT) (vs : List Nat) (te : WE) : WE := ⟨fun ρ μ Q X => wi.run ρ μ (fun ds chk μ1 => ∀ p, μ1 p = none → lc2G p t1 wi1 t2 te chk ds (wipeE ρ vs) (mset μ1 p (.lst [])) fun μ2 => Q (.ob p) μ2) X,
  fun hQ hX h => wi.mono (fun _ _ _ q p hp => lc2G_mono (fun _ q => hQ _ _ q) (q p hp)) hX h⟩
theorem wLc2_run {wi : WI} {t1 : CT} {wi1 : WI} {t2 : CT} {vs : List Nat} {te : WE} {ρ : Ev} {μ : Mu} {Q : PQ} {X : XQ} : (wLc2 wi t1 wi1 t2 vs te).run ρ μ Q X = wi.run ρ μ (fun ds chk μ1 => ∀ p, μ1 p = none → lc2G p t1 wi1 t2 te chk ds (wipeE ρ vs) (mset μ1 p (.lst [])) fun μ2 => Q (.ob p) μ2) X := rfl
theorem sim_push {K : PySem.W.Frag} {μ : Mu} {H : Hp} {a : Addr} {ds : List D} {y : D} {v : V} (S : Sim K μ H) (h : μ a = some (.lst ds)) (r : Rp K H y v) : ∃ vs, H a = some (.lst vs) ∧ vs.length = ds.length ∧ Sim K (mset μ a (.lst (ds ++ [y]))) (upd H a (.lst (vs ++ [v]))) := by
  obtain ⟨vs, e, rs⟩ := S.at_ a _ h
  exact ⟨vs, e, rs.length, sim_lst S (fr_set h) (rs.append (by unfold Rps; exact ⟨_, _, rfl, r, rfl⟩))⟩
section
variable {X : Cx} {Wx : WX}
/-- a source, for HandS -/
def tWI (K : PySem.W.Frag) (Wx : WX) (wi : WI) : TI := fun σ H R => ∃ ρ μ, EnvR K H ρ σ ∧ Sim K μ H ∧ wi.run ρ μ (fun ds chk μ1 => ∀ J H1, Fr μ H μ1 H1 → Sim K μ1 H1 → ItOk K μ1 H1 J ds chk → R J H1) (OutX K Wx σ μ H)
theorem wLc2_t {wi wi1 : WI} {t1 t2 : CT} {te : WE} {vs : List Nat} (h1 : ∀ i ∈ t1.slots, i ∈ vs) (h2 : ∀ i ∈ t2.slots, i ∈ vs) : ∀ σ H Q, lE X.K Wx (wLc2 wi t1 wi1 t2 vs te) σ H Q →
    tLc2 (tWI X.K Wx wi) (t1.tg X.K) (lT X.K W0 wYes) (tWI X.K W0 wi1) (t2.tg X.K) (lT X.K W0 wYes) (lE X.K W0 te) vs t2.slots σ H Q := fun σ H Q ⟨ρ, μ, E, S, h⟩ => by
  refine ⟨ρ, μ, E, S, wi.mono (fun ds chk μ1 q J H1 F1 S1 ok D hD => ?_) (fun _ _ _ q => q) h⟩
  have nD : μ1 D = none := S1.free hD
  have Ew : EnvR X.K H1 (wipeE ρ vs) (wipe σ vs) := wipe_env (E.keep S F1) _
  have F0 : Fr μ1 H1 (mset μ1 D (.lst [])) (upd H1 D (.lst [])) := fr_new hD
  refine ⟨fun i m H' => ∃ μ', i + m = ds.length ∧ Sim X.K μ' H' ∧ Fr μ1 H1 μ' H' ∧ lc2G D t1 wi1 t2 te chk (ds.drop i) (wipeE ρ vs) μ' fun μ2 => Out (Rp X.K) X.K μ H Q (.ob D) μ2,
    ⟨ds.length, mset μ1 D (.lst []), by omega, sim_lst S1 F0 rfl, F0, by rw [List.drop_zero]; exact q D nD⟩, ?_⟩
  rintro i m H2 ⟨μ2, hm, S2, F2, q2⟩
  by_cases hlt : i < ds.length
  rotate_left
  · have e : i = ds.length := by omega
    subst e
    rw [List.drop_length] at q2
    obtain ⟨hchk, q2⟩ := q2
    exact .inl ⟨ok.stop μ2 H2 F2 S2 hchk, q2 (.ref D) H2 (F1.trans F2) S2 rfl⟩
  rw [List.drop_eq_getElem_cons hlt] at q2
  obtain ⟨hchk, q2⟩ := q2
  have hd : ds[i]? = some ds[i] := by simp [hlt]
  refine .inr ⟨ok.go i _ μ2 H2 hd F2 S2 hchk, fun H' => ∃ m', m' < m ∧ ∃ μ', i + 1 + m' = ds.length ∧ Sim X.K μ' H' ∧ Fr μ1 H1 μ' H' ∧ lc2G D t1 wi1 t2 te chk (ds.drop (i + 1)) (wipeE ρ vs) μ' fun μ2 => Out (Rp X.K) X.K μ H Q (.ob D) μ2, fun _ h => h, fun x H3 y => ?_⟩
  obtain ⟨F3, S3, r3⟩ := ok.yld i _ μ2 H2 x H3 hd F2 S2 hchk y
  have Ew3 : EnvR X.K H3 (wipeE ρ vs) (wipe σ vs) := (Ew.keep S1 F2).keep S2 F3
  cases hset : t1.set ds[i] (wipeE ρ vs) with
  | none => rw [hset] at q2; exact q2.elim
  | some ρ1 =>
    rw [hset] at q2
    refine CT.ok r3 Ew3 hset fun σ1 E1 ew => ?_
    have ew2 : wipe σ1 vs = wipe σ vs := by rw [← wipe_sub (σ := σ1) h1, ew, wipe_sub h1, wipe_wipe]
    refine ⟨ew2, ?_⟩
    refine lW.bind (w := wYes) E1 S3 (Q := fun b μ => b = true ∧ μ = μ2) (X := XF) ⟨rfl, rfl⟩ (fun b μ4 b' H4 F4 S4 E4 r4 q4 => ?_) fun _ _ _ z => z.elim
    obtain ⟨rfl, rfl⟩ := q4
    subst r4
    refine iteT ⟨ρ1, μ4, E4, S4, wi1.mono (fun es chk1 μ5 q5 J1 H5 F5 S5 ok1 => ?_) (fun _ _ _ z => z.elim) q2⟩
    have E5 : EnvR X.K H5 (wipeE ρ1 t2.slots) (wipe σ1 t2.slots) := wipe_env (E4.keep S4 F5) _
    have FF : Fr μ1 H1 μ5 H5 := F2.trans (F3.trans (F4.trans F5))
    refine ⟨fun j k H' => ∃ μ', j + k = es.length ∧ Sim X.K μ' H' ∧ Fr μ5 H5 μ' H' ∧ lc2I D t2 te chk1 (es.drop j) (wipeE ρ1 t2.slots) μ' fun μ2 => lc2G D t1 wi1 t2 te chk (ds.drop (i + 1)) (wipeE ρ vs) μ2 fun μ2 => Out (Rp X.K) X.K μ H Q (.ob D) μ2,
      ⟨es.length, μ5, by omega, S5, Fr.refl _ _, by rw [List.drop_zero]; exact q5⟩, ?_⟩
    rintro j k H6 ⟨μ6, hk, S6, F6, q6⟩
    by_cases hj : j < es.length
    rotate_left
    · have e : j = es.length := by omega
      subst e
      rw [List.drop_length] at q6
      obtain ⟨hchk1, q6⟩ := q6
      exact .inl ⟨ok1.stop μ6 H6 F6 S6 hchk1, m - 1, by omega, μ6, by omega, S6, FF.trans F6, q6⟩
    rw [List.drop_eq_getElem_cons hj] at q6
    obtain ⟨hchk1, q6⟩ := q6
    have he : es[j]? = some es[j] := by simp [hj]
    refine .inr ⟨ok1.go j _ μ6 H6 he F6 S6 hchk1, fun H' => ∃ k', k' < k ∧ ∃ μ', j + 1 + k' = es.length ∧ Sim X.K μ' H' ∧ Fr μ5 H5 μ' H' ∧ lc2I D t2 te chk1 (es.drop (j + 1)) (wipeE ρ1 t2.slots) μ' fun μ2 => lc2G D t1 wi1 t2 te chk (ds.drop (i + 1)) (wipeE ρ vs) μ2 fun μ2 => Out (Rp X.K) X.K μ H Q (.ob D) μ2, fun _ h => h, fun x H7 y => ?_⟩
    obtain ⟨F7, S7, r7⟩ := ok1.yld j _ μ6 H6 x H7 he F6 S6 hchk1 y
    have E7 : EnvR X.K H7 (wipeE ρ1 t2.slots) (wipe σ1 t2.slots) := (E5.keep S5 F6).keep S6 F7
    cases hset2 : t2.set es[j] (wipeE ρ1 t2.slots) with
    | none => rw [hset2] at q6; exact q6.elim
    | some ρ2 =>
      rw [hset2] at q6
      refine CT.ok r7 E7 hset2 fun σ3 E8 ew8 => ?_
      refine ⟨by rw [ew8, wipe_wipe], ?_⟩
      refine lW.bind (w := wYes) E8 S7 (Q := fun b μ => b = true ∧ μ = μ6) (X := XF) ⟨rfl, rfl⟩ (fun b μ8 b' H8 F8 S8 E9 r8 q8 => ?_) fun _ _ _ z => z.elim
      obtain ⟨rfl, rfl⟩ := q8
      subst r8
      refine iteT (lW.bind E9 S8 q6 (fun y μ9 v9 H9 F9 S9 E10 r9 q9 => ?_) fun _ _ _ z => z.elim)
      obtain ⟨acc, g1, g2, q9⟩ := q9
      obtain ⟨vacc, g3, g4, S10⟩ := sim_push S9 g1 r9
      exact ⟨vacc, g3, by rw [g4]; exact g2, k - 1, by omega, _, by omega, S10, F6.trans (F7.trans (F8.trans (F9.trans (fr_set g1)))), q9⟩
theorem le_lc2 {elt tg iter tg1 iter1 : Expr} {scope : Scope} {own : List (Str × Nat)} {pos : Pos} {wi wi1 : WI} {t1 t2 : CT} {te : WE} {vs : List Nat} (hN : X.N.Nodup) (hi : LI X Wx tg iter wi) (ok : BlkOk X.N X.env.scope scope own) (hv : own.map (·.2) = vs) (h1 : ∀ i ∈ t1.slots, i ∈ vs) (h2 : ∀ i ∈ t2.slots, i ∈ vs)
    (hg : ∀ (s : Shared) (H : Hp) (C : Addr) (cl : List (Str × Addr)) (fp : List Addr), PG (X.blk s H scope (compEnvC scope cl C X.env) fp) tg (t1.tg X.K))
    (hi1 : ∀ (s : Shared) (H : Hp) (C : Addr) (cl : List (Str × Addr)) (fp : List Addr), LI (X.blk s H scope (compEnvC scope cl C X.env) fp) W0 tg1 iter1 wi1)
    (hg1 : ∀ (s : Shared) (H : Hp) (C : Addr) (cl : List (Str × Addr)) (fp : List Addr), PG (X.blk s H scope (compEnvC scope cl C X.env) fp) tg1 (t2.tg X.K))
    (he : ∀ (s : Shared) (H : Hp) (C : Addr) (cl : List (Str × Addr)) (fp : List Addr), LE (X.blk s H scope (compEnvC scope cl C X.env) fp) W0 elt te) (hc : X.calm = true := by rfl) (hs : ∀ x, foldedSetIterable iter X.env x = pure x := by intro _; rfl) (hs1 : ∀ env x, foldedSetIterable iter1 env x = pure x := by intro _ _; rfl) :
    LE X Wx (.ListComp elt [⟨tg, iter, [], 0⟩, ⟨tg1, iter1, [], 0⟩] scope pos) (wLc2 wi t1 wi1 t2 vs te) := by
  subst hv
  exact PE.weak (pe_lc2 (wi := tWI X.K Wx wi) (wi1 := tWI X.K W0 wi1) (tt := lT X.K W0 wYes) (tt1 := lT X.K W0 wYes) (te := lE X.K W0 te) hc hN hi ok h2 hg (fun s H C cl fp => lps_nil) hi1 hg1 (fun s H C cl fp => lps_nil) he hs hs1) (wLc2_t h1 h2)
/-- name = [..] of a plain local name -/
theorem ls_setLc2 (i : Nat) {y : Str} {py : Pos} {elt tg iter tg1 iter1 : Expr} {scope : Scope} {own : List (Str × Nat)} {pos spos : Pos} {wi wi1 : WI} {t1 t2 : CT} {te : WE} {vs : List Nat} (hN : X.N.Nodup) (hi : LI X Wx tg iter wi) (ok : BlkOk X.N X.env.scope scope own) (hv : own.map (·.2) = vs) (h1 : ∀ i ∈ t1.slots, i ∈ vs) (h2 : ∀ i ∈ t2.slots, i ∈ vs)
    (hg : ∀ (s : Shared) (H : Hp) (C : Addr) (cl : List (Str × Addr)) (fp : List Addr), PG (X.blk s H scope (compEnvC scope cl C X.env) fp) tg (t1.tg X.K))
    (hi1 : ∀ (s : Shared) (H : Hp) (C : Addr) (cl : List (Str × Addr)) (fp : List Addr), LI (X.blk s H scope (compEnvC scope cl C X.env) fp) W0 tg1 iter1 wi1)
    (hg1 : ∀ (s : Shared) (H : Hp) (C : Addr) (cl : List (Str × Addr)) (fp : List Addr), PG (X.blk s H scope (compEnvC scope cl C X.env) fp) tg1 (t2.tg X.K))
    (he : ∀ (s : Shared) (H : Hp) (C : Addr) (cl : List (Str × Addr)) (fp : List Addr), LE (X.blk s H scope (compEnvC scope cl C X.env) fp) W0 elt te)
    (hsw : swapsWith (.ListComp elt [⟨tg, iter, [], 0⟩, ⟨tg1, iter1, [], 0⟩] scope pos) (some (.Name y py)) spos.line X.env = pure true := by exact sw_true rfl rfl rfl (by decide +kernel)) (hy : X.N[i]? = some y := by rfl) (hyl : X.env.scope.names.lookup y = some .local := by rfl) (hc : X.calm = true := by rfl) (hs : ∀ x, foldedSetIterable iter X.env x = pure x := by intro _; rfl) (hs1 : ∀ env x, foldedSetIterable iter1 env x = pure x := by intro _ _; rfl) :
    LS X Wx (.Assign [.Name y py] (.ListComp elt [⟨tg, iter, [], 0⟩, ⟨tg1, iter1, [], 0⟩] scope pos) spos) (wSet i (wLc2 wi t1 wi1 t2 vs te)) := by
  subst hv
  refine PS.weak (ps_setLc2 (wi := tWI X.K Wx wi) (wi1 := tWI X.K W0 wi1) (tt := lT X.K W0 wYes) (tt1 := lT X.K W0 wYes) (te := lE X.K W0 te) hc hN hy hyl hsw hi ok h2 hg (fun s H C cl fp => lps_nil) hi1 hg1 (fun s H C cl fp => lps_nil) he hs hs1) fun D σ H h => ?_
  obtain ⟨ρ, μ, E, S, h⟩ := h
  refine wLc2_t (Wx := Wx) h1 h2 σ H _ ⟨ρ, μ, E, S, ?_⟩
  exact (wLc2 wi t1 wi1 t2 _ te).mono (Q := fun d μ1 => OutS X.K μ H D.nx (ρ.set i (some d)) μ1) (fun x μ1 q v H1 F1 S1 r1 => q _ _ F1 S1 ((E.keep S F1).set r1 i)) (fun _ _ _ q => OutXE.x S E q) h
end
end Sq

/-! sorted(set(xs)) of a tuple of ints. -/
namespace Sq
open PySem PySem.Spec PyProof.Rows L2
section
variable {P : Program} {w : World} {A : Around} {E : Value → Shared → Prop} {s : Shared}
/-- set(xs), xs a tuple of ints -/
theorem set_of_tup {l : Addr} {items : Array Value} (ns : List Int) {Q : Value → Shared → Prop} (hh : A.handled = none) (hl : s.heap.IsTuple l items) (hit : IntsAre items.toList ns) (hb : ns.length + 1 < scanBound)
    (h : ∀ (h' : Heap) (tk c : Nat), SetR w h' s.heap.objs.size (fun j => decide (j ∈ ns)) c → c ≤ ns.length → (∀ b o, s.heap.get? b = some o → h'.get? b = some o) → Q (.ref s.heap.objs.size) { s with heap := h', toks := tk }) :
    wpAny (model P w) A (call (.type "set") [.ref l]) Q E s := by
  have cnt : items.size = ns.length := by have := IntsAre.length hit; rwa [Array.length_toList] at this
  have L := F.called_set
  obtain ⟨_, _, hmro⟩ := L.mro
  have hm1 := L.made; have hm2 := L.sub; have hm3 := L.notType; have hm4 := L.canCreate
  have hct := F.typeCall_set_1 (.ref l)
  refine wpAny_call (codeAny_of_tree ?_); show wpAny _ _ (callAny (.type "set") _) _ _ _
  refine wpAny_pure ⟨Code.quiet_builtin _ (by decide +kernel), codeAny_builtin F.entry_type_call ?_⟩; rw [Around.under_plain (weight_type_call_type "set" [.ref l] []) rfl]
  repeat (any_goals (first | assumption | wp_step))
  refine codeAny_mono (code_set_led1 (.ref l) (E := E) (Q₁ := fun x s1 => x = .ref s.heap.objs.size ∧ s1 = { s with heap := s.heap.push (oSet w) }) ⟨rfl, rfl⟩) fun r s1 hr => ?_
  match r, hr with
  | .error _, hr => exact hr
  | .ok .next, hr => exact hr.elim
  | .ok .brk, hr => exact hr.elim
  | .ok .cont, hr => exact hr.elim
  | .ok (.ret x), ⟨e1, e2⟩ =>
    subst e1; subst e2
    have g0 : (s.heap.push (oSet w)).get? s.heap.objs.size = some (oSet w) := Heap.get?_push_size _ rfl
    have tS : Shared.TypeIs { s with heap := s.heap.push (oSet w) } (.ref s.heap.objs.size) "set" := ⟨_, g0, rfl⟩
    have i1 := L.init.lookup; have i2 := L.init.bind (.ref s.heap.objs.size)
    repeat (any_goals (first | assumption | wp_step))
    refine codeAny_mono (codeAny_call_builtin (R := wants (fun r s2 => r = .none ∧ ∃ h' tk c, s2 = { s with heap := h', toks := tk } ∧ SetR w h' s.heap.objs.size (fun j => decide (j ∈ ns)) c ∧ c ≤ ns.length ∧ ∀ b o, s.heap.get? b = some o → h'.get? b = some o) E)
      L.init.plain F.entry_set_init (check_set_init_1 tS ?_)) fun r2 s2 hr2 => ?_
    rotate_left
    · match r2, hr2 with
      | .error _, hr2 => exact hr2
      | .ok .next, hr2 => exact hr2.elim
      | .ok .brk, hr2 => exact hr2.elim
      | .ok .cont, hr2 => exact hr2.elim
      | .ok (.ret _), ⟨e3, h', tk, c, e4, a1, a2, a3⟩ =>
        subst e3; subst e4
        repeat (any_goals (first | assumption | wp_step))
        exact h _ _ _ a1 a2 a3
    obtain ⟨⟨oc, od, dt, osl⟩, hol, hcl, nl, hdl⟩ := hl
    simp only at hcl hdl; subst hcl; subst hdl
    have hlt := Heap.lt_size hol
    have hol' : (s.heap.push (oSet w)).get? l = some { cls := .type "tuple", dict := od, data := .seq items nl, slots := osl } := Heap.get?_push_of_some _ hol
    have b1 := F.sub_tuple_set; have b2 := F.sub_tuple_frozenset
    have b3 : (Value.type "tuple" == Value.type "dict") = false := by decide
    have hl1 : (s.heap.push (oSet w)).IsTuple l items := ⟨_, hol', rfl, nl, rfl⟩
    unfold Builtin.«set.__init__» noKeywords Builtin.Frozenset.updateFrom
    generalize hPI : pyIter = PI
    wp_walk
    subst hPI
    refine wpAny_pyIter_tuple hl1 ?_; refine wpAny_bind (wpAny_runValue ?_)
    have n1 : l ≠ (s.heap.push (oSet w)).objs.size := by rw [Heap.size_push]; exact Nat.ne_of_lt (Nat.lt_succ_of_lt hlt)
    have n2 : s.heap.objs.size ∉ [(s.heap.push (oSet w)).objs.size, l] := fun z => by
      rw [Heap.size_push] at z
      rcases List.mem_cons.mp z with z | z
      · exact Nat.ne_of_lt (Nat.lt_succ_self _) z
      · exact Nat.ne_of_gt hlt (List.mem_singleton.mp z)
    have hh3 : A.in1.in1.in1.handled = none := by simp [hh]
    refine set_update_ints ((Walks.tuple hh3 _ l n1 items).toS) s.heap.objs.size n2 ns cnt hb (fun i v hv => ?_) (items.size - 0) 0 _ (by omega) (Nat.zero_le _) ⟨⟨_, Heap.get?_push_size _ rfl, rfl, rfl⟩, (hl1.push _)⟩ ⟨0, Nat.le_refl 0, setR_new_at (Heap.get?_push_of_some _ g0)⟩ ?_
    · have hi : i < ns.length := by rw [← cnt]; exact (Array.getElem?_eq_some_iff.mp hv).1
      obtain ⟨t, e⟩ := PyProof.Rows.IntsAre.int_at hit i v (by rw [Array.getElem?_toList]; exact hv)
      exact ⟨ns[i], t, List.getElem?_eq_getElem hi, by rw [e, List.getD_eq_getElem?_getD, List.getElem?_eq_getElem hi]; rfl⟩
    · rintro ⟨h', g2, d', tk', os'⟩ c' hm hc' hS'
      obtain rfl : g2 = s.gens := hm.gens
      obtain rfl : d' = s.drawn := hm.drawn
      obtain rfl : os' = s.os := hm.os
      show wpAny _ _ _ _ _ _
      refine wpAny_pure ?_
      show wpAny _ _ (ret Value.none) _ _ _
      rw [cnt] at hc'
      refine wpAny_pure ⟨rfl, h', tk', c', rfl, hS', hc', fun b o e => hm.heap b o ?_ (Heap.get?_push_of_some _ (Heap.get?_push_of_some _ e))⟩
      have hb0 := Heap.lt_size e
      intro z
      rw [Heap.size_push] at z
      rcases List.mem_cons.mp z with z | z
      · exact Nat.ne_of_lt hb0 z
      · exact Nat.ne_of_lt (Nat.lt_succ_of_lt hb0) (List.mem_singleton.mp z)
end
/-- sorted(set(xs)) of a tuple -/
def tSortSetT (K : PySem.W.Frag) (ta : TE) : TE := fun σ H Q => ta σ H fun x H1 => ∃ (l : Addr) (ns : List Int), x = .ref l ∧ SqT K H1 l (ns.map V.int) ∧ ns.length ≤ 4000 ∧
  ∀ (ns' : List Int) (p : Addr), ns'.Pairwise (· < ·) → (∀ k, k ∈ ns' ↔ k ∈ ns) → H1 p = none → Q (.ref p) (upd H1 p (.lst (ns'.map V.int)))
section
variable {X : Cx} {Wx : WX}
theorem pe_sortSetT {a : Expr} {ta : TE} {p p2 q pos : Pos} (hg : Gl X "sorted") (hm : X.mg "sorted" = none) (hg2 : Gl X "set") (hm2 : X.mg "set" = none) (ha : PE X a ta) (hc : X.calm = true := by rfl)
    (na : starEach [a] X.env = (false, eval a X.env) :: starEach [] X.env := by rfl) : PE X (.Call (.Name "sorted" p) [.Call (.Name "set" p2) [a] [] q] [] pos) (tSortSetT X.K ta) := by
  refine ⟨fun pins s σ H Q I h => ?_⟩
  refine Call_ (ld_blt I hg hm (show bootBuiltins "sorted" = some (.builtin "sorted") by decide +kernel) ?_)
  refine PyProof.Rows.callWith_builtin1 (PyProof.Rows.args_cons ?_ rfl) rfl rfl; refine Call_ (ld_blt I hg2 hm2 boot_set ?_)
  refine PyProof.Rows.callWith_type1 (PyProof.Rows.args_cons (thn (ha.run pins s σ H _ I h) fun v s1 ⟨x, H1, I1, r1, q1⟩ => PyProof.Rows.args_nil ?_) na) na rfl
  obtain ⟨l, ns, rfl, hq, hl, q1⟩ := q1
  cases r1
  obtain ⟨its, r, pl, hz⟩ := I1.tuple hq
  refine set_of_tup ns (I1.ok.hd hc) (show s1.heap.IsTuple l its.toArray from pl) (by simpa using RZ.intsAre_vals r) (by unfold scanBound; omega) fun h' tk c hS hcl hk => ?_
  refine PyProof.Rows.args_nil ?_
  have I2 : Inv X pins σ H1 { s1 with heap := h', toks := tk } := I1.kept fun b o e => hk b o e
  refine sorted_of_set hS (I1.ok.hd hc) (Nat.le_trans (Nat.le_trans hcl hl) (small_size (by decide))) fun s' p out c2 ns' k g o hp hg hi hs hmm hln => ?_
  have hlen : (ns'.map V.int).length ≤ sizeLine := by rw [List.length_map, hln]; exact Nat.le_trans (Nat.le_trans hcl hl) (small_size (by decide))
  have hn : H1 p = none := I2.hok.fresh hp
  have J : Inv X pins σ (upd H1 p (.lst (ns'.map V.int))) { ({ s1 with heap := h', toks := tk } : Shared) with heap := s'.heap, gens := s'.gens, drawn := s'.drawn, toks := s'.toks } :=
    I2.call (ch := []) (Un.laid k hp hn) (I2.hok.laid k hp ⟨hlen, out.toList, c2, vals_of_ints hi, hg⟩) (by rw [g]; exact I2.bare) (fun _ z => nomatch z)
  have e : s' = { s1 with heap := s'.heap, gens := s'.gens, drawn := s'.drawn, toks := s'.toks } := by cases s'; cases s1; cases o; rfl
  rw [e]
  exact ⟨.ref p, _, J, rfl, q1 ns' p hs (fun k => by rw [hmm k, decide_eq_true_eq]) hn⟩
def wSortSetT (a : WE) : WE := ⟨fun ρ μ Q X => a.run ρ μ (fun d μ1 => ∃ ns : List Int, d = .tup (ns.map D.int) ∧ ns.length ≤ 4000 ∧ ∀ (ns' : List Int) (p : Addr), ns'.Pairwise (· < ·) → (∀ k, k ∈ ns' ↔ k ∈ ns) → μ1 p = none → Q (.ob p) (mset μ1 p (.lst (ns'.map D.int)))) X,
  fun hQ hX h => a.mono (fun _ _ ⟨ns, h1, h2, h3⟩ => ⟨ns, h1, h2, fun ns' p a b c => hQ _ _ (h3 ns' p a b c)⟩) hX h⟩
theorem wSortSetT_run {a : WE} {ρ : Ev} {μ : Mu} {Q : PQ} {X : XQ} : (wSortSetT a).run ρ μ Q X = a.run ρ μ (fun d μ1 => ∃ ns : List Int, d = .tup (ns.map D.int) ∧ ns.length ≤ 4000 ∧ ∀ (ns' : List Int) (p : Addr), ns'.Pairwise (· < ·) → (∀ k, k ∈ ns' ↔ k ∈ ns) → μ1 p = none → Q (.ob p) (mset μ1 p (.lst (ns'.map D.int)))) X := rfl
theorem le_sortSetT {a : Expr} {w : WE} {p p2 q pos : Pos} (hm : X.mg "sorted" = none) (hm2 : X.mg "set" = none) (ha : LE X Wx a w) (hg : Gl X "sorted" := by rfl) (hg2 : Gl X "set" := by rfl) (hc : X.calm = true := by rfl)
    (na : starEach [a] X.env = (false, eval a X.env) :: starEach [] X.env := by rfl) : LE X Wx (.Call (.Name "sorted" p) [.Call (.Name "set" p2) [a] [] q] [] pos) (wSortSetT w) := PE.weak (pe_sortSetT hg hm hg2 hm2 ha hc na) fun σ H Q ⟨ρ, μ, E, S, h⟩ => by
  refine lW.bind E S h (fun x μ1 v H1 F1 S1 E1 r1 h1 => ?_) fun _ _ _ h => h
  obtain ⟨ns, rfl, hl, q⟩ := h1
  obtain ⟨a, vs, rfl, h2, r⟩ := rp_tup r1
  rw [Rps.ints r] at h2
  refine ⟨a, ns, rfl, h2, hl, fun ns' p g1 g2 g3 => ?_⟩
  have F2 : Fr μ1 H1 (mset μ1 p (.lst (ns'.map D.int))) (upd H1 p (.lst (ns'.map V.int))) := fr_new g3
  exact (q ns' p g1 g2 (S1.free g3)) (.ref p) _ (F1.trans F2) (sim_lst S1 F2 (Rps.of_ints ns')) rfl
end
end Sq

/-! Comprehensions over two sources that leave the store alone; sorted lists of naturals. -/
namespace Sq
open PySem PySem.Spec PyProof.Rows L2
theorem lc2I_map {p : Addr} {t2 : CT} {te : WE} {chk : Mu → Prop} {ρ : Ev} {μ : Mu} {k : Mu → Prop} (g : D → D) (hc : ∀ a, chk (mset μ p (.lst a))) : ∀ {es acc : List D},
    (∀ e ∈ es, ∃ ρ2, t2.set e ρ = some ρ2 ∧ ∀ a, te.run ρ2 (mset μ p (.lst a)) (fun y μ2 => μ2 = mset μ p (.lst a) ∧ y = g e) XF) → acc.length + es.length ≤ sizeLine → k (mset μ p (.lst (acc ++ es.map g))) → lc2I p t2 te chk es ρ (mset μ p (.lst acc)) k
  | [], acc, _, _, h => ⟨hc _, by simpa using h⟩
  | e :: es, acc, hs, hl, h => by
    obtain ⟨ρ2, e1, q⟩ := hs e List.mem_cons_self
    refine ⟨hc _, ?_⟩
    rw [e1]
    refine te.mono (fun y μ2 ⟨r1, r2⟩ => ?_) (fun _ _ _ q => q) (q acc)
    subst r1 r2
    rw [List.length_cons] at hl
    refine ⟨acc, mset_same _ _ _, by omega, ?_⟩
    rw [mset_mset]
    refine lc2I_map g hc (fun d hd => hs d (List.mem_cons_of_mem _ hd)) (by rw [List.length_append, List.length_singleton]; omega) ?_
    rw [List.append_assoc]
    exact h
theorem lc2G_map {p : Addr} {t1 t2 : CT} {wi1 : WI} {te : WE} {chk : Mu → Prop} {ρ : Ev} {μ : Mu} {k : Mu → Prop} (es : D → List D) (g : D → D → D) (hc : ∀ a, chk (mset μ p (.lst a))) : ∀ {ds acc : List D},
    (∀ d ∈ ds, ∃ ρ1, t1.set d ρ = some ρ1 ∧ (∀ a, wi1.run ρ1 (mset μ p (.lst a)) (fun es' chk1 μ1 => es' = es d ∧ μ1 = mset μ p (.lst a) ∧ ∀ b, chk1 (mset μ p (.lst b))) XF) ∧ ∀ e ∈ es d, ∃ ρ2, t2.set e (wipeE ρ1 t2.slots) = some ρ2 ∧ ∀ a, te.run ρ2 (mset μ p (.lst a)) (fun y μ2 => μ2 = mset μ p (.lst a) ∧ y = g d e) XF) →
    acc.length + (ds.flatMap fun d => (es d).map (g d)).length ≤ sizeLine → k (mset μ p (.lst (acc ++ ds.flatMap fun d => (es d).map (g d)))) → lc2G p t1 wi1 t2 te chk ds ρ (mset μ p (.lst acc)) k
  | [], acc, _, _, h => ⟨hc _, by simpa using h⟩
  | d :: ds, acc, hs, hl, h => by
    obtain ⟨ρ1, e1, q1, q2⟩ := hs d List.mem_cons_self
    refine ⟨hc _, ?_⟩
    rw [e1]
    refine wi1.mono (fun es' chk1 μ1 ⟨r1, r2, r3⟩ => ?_) (fun _ _ _ q => q) (q1 acc)
    subst r1 r2
    rw [List.flatMap_cons, List.length_append, List.length_map] at hl
    refine lc2I_map (g d) r3 q2 (by omega) ?_
    refine lc2G_map es g hc (fun d hd => hs d (List.mem_cons_of_mem _ hd)) (by rw [List.length_append, List.length_map]; omega) ?_
    rw [List.flatMap_cons, ← List.append_assoc] at h
    exact h
/-- sorted, naturals -/
theorem sort_natL (xs : List Nat) : SortOk (xs.map fun x : Nat => D.int (x : Int)) ∧ ∃ R : List Nat, (xs.map fun x : Nat => D.int (x : Int)).mergeSort leD = R.map (fun x : Nat => D.int (x : Int)) ∧ R.Perm xs ∧ R.Pairwise (· ≤ ·) := by
  have e : ∀ l : List Nat, (l.map fun x : Nat => D.int (x : Int)) = (l.map fun x : Nat => (x : Int)).map D.int := fun l => by rw [List.map_map]; rfl
  rw [e]
  refine ⟨sortOk_intL _, ?_⟩
  obtain ⟨ms, h1, h2, h3⟩ := sort_intL (xs.map fun x : Nat => (x : Int))
  have hn : ∀ m ∈ ms, 0 ≤ m := fun m hm => by
    obtain ⟨x, _, rfl⟩ := List.mem_map.mp (h2.mem_iff.mp hm)
    omega
  have back : (ms.map Int.toNat).map (fun x : Nat => (x : Int)) = ms := by
    rw [List.map_map]
    conv => rhs; rw [← List.map_id ms]
    exact List.map_congr_left fun m hm => Int.toNat_of_nonneg (hn m hm)
  refine ⟨ms.map Int.toNat, by rw [h1, e, back], ?_, ?_⟩
  · have := h2.map Int.toNat
    rw [List.map_map] at this
    have e2 : (xs.map (Int.toNat ∘ fun x : Nat => (x : Int))) = xs := by
      conv => rhs; rw [← List.map_id xs]
      exact List.map_congr_left fun m _ => Int.toNat_natCast m
    rwa [e2] at this
  · rw [List.pairwise_map]
    exact h3.imp fun h => by omega
theorem nasc_of_nodup {l : List Nat} (h : l.Pairwise (· ≤ ·)) (hn : l.Nodup) : l.Pairwise (· < ·) := by
  rw [List.Nodup] at hn
  exact List.Pairwise.imp (fun ⟨a, b⟩ => by omega) (h.and hn)
end Sq

/-! Dicts by ints: y in d, d[y] = v. -/
namespace Sq
open PySem PySem.Spec PyProof.Rows L2
def inK (ks : List Key) (k : Key) : Bool := ks.any fun j => decide (j = k)
theorem inK_iff {ks : List Key} {k : Key} : inK ks k = true ↔ k ∈ ks := by
  unfold inK
  rw [List.any_eq_true]
  constructor
  · rintro ⟨j, h, e⟩
    rw [← of_decide_eq_true e]; exact h
  · intro h
    exact ⟨k, h, decide_eq_true rfl⟩
def putKs (ks : List Key) (k : Key) : List Key := if inK ks k = true then ks else ks ++ [k]
def putDs {α : Type} (ks : List Key) (ds : List α) (k : Key) (d : α) : List α := if inK ks k = true then List.zipWith (fun j x => if j = k then d else x) ks ds else ds ++ [d]
theorem any_zip {α : Type} (k : Key) : ∀ (ks : List Key) (vs : List α), ks.length = vs.length → ((ks.zip vs).any fun kv => decide (kv.1 = k)) = inK ks k
  | [], [], _ => rfl
  | j :: ks, v :: vs, h => by
    rw [List.zip_cons_cons, List.any_cons, any_zip k ks vs (by simpa using h)]
    rfl
  | [], _ :: _, h => by cases h
  | _ :: _, [], h => by cases h
theorem put_zip {k : Key} {v : V} : ∀ {ks : List Key} {vs : List V}, ks.length = vs.length → putK (ks.zip vs) k v = (putKs ks k).zip (putDs ks vs k v) := fun {ks vs} h => by
  unfold putK putKs putDs
  rw [any_zip k ks vs h]
  by_cases hk : inK ks k = true
  · rw [if_pos hk, if_pos hk, if_pos hk]
    clear hk
    induction ks generalizing vs with
    | nil => rfl
    | cons j ks ih =>
      cases vs with
      | nil => cases h
      | cons x vs =>
        rw [List.zip_cons_cons, List.map_cons, List.zipWith_cons_cons, List.zip_cons_cons, ih (by simpa using h)]
        congr 1
        show (if j = k then (j, v) else (j, x)) = (j, if j = k then v else x)
        split <;> rfl
  · rw [if_neg hk, if_neg hk, if_neg hk, List.zip_append h]
    rfl
theorem put_len {α : Type} {ks : List Key} {ds : List α} {k : Key} {d : α} (h : ks.length = ds.length) : (putKs ks k).length = (putDs ks ds k d).length := by
  unfold putKs putDs
  split
  · rw [List.length_zipWith]; omega
  · rw [List.length_append, List.length_append, h]; rfl
theorem rps_zipW {K : PySem.W.Frag} {H : Hp} {k : Key} {d : D} {v : V} (r : Rp K H d v) : ∀ {ks : List Key} {ds : List D} {vs : List V}, Rps K H ds vs → Rps K H (List.zipWith (fun j x => if j = k then d else x) ks ds) (List.zipWith (fun j x => if j = k then v else x) ks vs)
  | [], _, _, _ => by simp [Rps]
  | _ :: _, [], _, h => by unfold Rps at h; subst h; simp [Rps]
  | j :: ks, x :: ds, _, h => by
    unfold Rps at h
    obtain ⟨w, ws, rfl, a, b⟩ := h
    rw [List.zipWith_cons_cons, List.zipWith_cons_cons]
    unfold Rps
    refine ⟨_, _, rfl, ?_, rps_zipW r b⟩
    by_cases e : j = k
    · rw [if_pos e, if_pos e]; exact r
    · rw [if_neg e, if_neg e]; exact a
theorem rps_put {K : PySem.W.Frag} {H : Hp} {k : Key} {d : D} {v : V} {ks : List Key} {ds : List D} {vs : List V} (r : Rp K H d v) (h : Rps K H ds vs) : Rps K H (putDs ks ds k d) (putDs ks vs k v) := by
  unfold putDs
  split
  · exact rps_zipW r h
  · exact h.append (by unfold Rps; exact ⟨_, _, rfl, r, rfl⟩)
/-! ### y in d -/
def gInK : G2 := ⟨fun x y μ Q => ∃ (i : Int) (a : Addr) (ks : List Key) (ds : List D), x = .int i ∧ y = .ob a ∧ μ a = some (.dct ks ds) ∧ Q (.bl (inK ks (.inl i))) μ, fun hQ ⟨i, a, ks, ds, h1, h2, h3, q⟩ => ⟨i, a, ks, ds, h1, h2, h3, hQ _ _ q⟩⟩
theorem gInK_run {x y : D} {μ : Mu} {Q : PQ} : gInK.run x y μ Q = ∃ (i : Int) (a : Addr) (ks : List Key) (ds : List D), x = .int i ∧ y = .ob a ∧ μ a = some (.dct ks ds) ∧ Q (.bl (inK ks (.inl i))) μ := rfl
def rInK : R2 := fun x y H Q => ∃ a o, y = .ref a ∧ DGet H a x o ∧ Q (.bl o.isSome) H
section
variable {X : Cx} {Wx : WX}
theorem op_inK (hu : X.A.units + 1 < cLine) : OpR X (compareOp .In) rInK := by
  intro pins s σ H x y v u Q I rx ry h
  obtain ⟨a, o, rfl, g, q⟩ := h
  obtain rfl : u = Value.ref a := ry
  exact d_in hu I g rx fun s' I' => ⟨.bl o.isSome, H, I', rfl, q⟩
theorem od_inK (hu : X.A.units + 65 < cLine) : OpD X (compareOp .In) gInK := ⟨_, op_inK (by omega), fun x y μ H vx vy Q S rx ry q => by
  obtain ⟨i, a, ks, ds, rfl, rfl, h3, q⟩ := q
  rw [rp_int rx, rp_ob ry]
  obtain ⟨vs, e, hl, r⟩ := S.at_ a _ h3
  refine ⟨a, _, rfl, DGet.k (k := .inl i) e, ?_⟩
  rw [← valV_any, any_zip _ _ _ (by rw [hl, r.length])]
  exact q _ _ (Fr.refl μ H) S rfl⟩
/-! ### d[y] = v -/
theorem sim_put {K : PySem.W.Frag} {μ : Mu} {H : Hp} (S : Sim K μ H) {p : Addr} {ks : List Key} {ds : List D} {vs : List V} (F : Fr μ H (mset μ p (.dct ks ds)) (upd H p (.dK (ks.zip vs)))) (hl : ks.length = ds.length) (r : Rps K H ds vs) : Sim K (mset μ p (.dct ks ds)) (upd H p (.dK (ks.zip vs))) := ⟨fun a u e => by
  by_cases ha : a = p
  · subst ha
    rw [mset_same] at e; cases e
    exact ⟨vs, upd_same, hl, Rps.keep S F ds r⟩
  · rw [mset_ne ha] at e
    exact (S.at_ a u e).keep S F fun x q => by rw [upd_ne ha]; exact q⟩
def sIxK (o i d : D) (μ : Mu) (Q : Mu → Prop) : Prop := ∃ (a : Addr) (k : Int) (ks : List Key) (ds : List D), o = .ob a ∧ i = .int k ∧ μ a = some (.dct ks ds) ∧ ks.length < 16000000 ∧ Q (mset μ a (.dct (putKs ks (.inl k)) (putDs ks ds (.inl k) d)))
def gSK (wo wi : WE) : WG := ⟨fun d ρ μ Q X => wo.run ρ μ (fun o μ1 => wi.run ρ μ1 (fun i μ2 => sIxK o i d μ2 fun μ3 => Q ρ μ3) (X ρ)) (X ρ), fun {d ρ μ Q Q' X X'} hQ hX q => wo.mono (fun _ _ q => wi.mono (fun _ _ ⟨a, k, ks, ds, h1, h2, h3, h4, q⟩ => ⟨a, k, ks, ds, h1, h2, h3, h4, hQ _ _ q⟩) (fun _ _ _ q => hX _ _ _ _ q) q) (fun _ _ _ q => hX _ _ _ _ q) q⟩
theorem gSK_run {wo wi : WE} {d : D} {ρ : Ev} {μ : Mu} {Q : Ev → Mu → Prop} {X : Ev → XQ} : (gSK wo wi).run d ρ μ Q X = wo.run ρ μ (fun o μ1 => wi.run ρ μ1 (fun i μ2 => sIxK o i d μ2 fun μ3 => Q ρ μ3) (X ρ)) (X ρ) := rfl
theorem lg_subK (hu : X.A.units + 65 < cLine) {o i : Expr} {pos : Pos} {wo wi : WE} (ho : LE X Wx o wo) (hi : LE X Wx i wi)
    (ha : ∀ v, assign (.Subscript o i pos) X.env v = (do
      let ov ← holding [v] (eval o X.env)
      let iv ← holding [v, ov] (eval i X.env)
      standAt pos
      holding [v, ov, iv] (setItem ov iv v)
      release [v, ov, iv] []) := by intro _; rfl) : LG X Wx (.Subscript o i pos) (gSK wo wi) := PG.weak (pg_sub ho hi (set_dict (by omega)) ha) fun v σ H Q ⟨ρ, μ, d, E, S, R, h⟩ => by
  refine lW.bind E S h (fun x μ1 vo H1 F1 S1 E1 r1 h1 => ?_) fun _ _ _ h => OutXE.x S E h
  refine lW.bind E1 S1 h1 (fun y μ2 vi H2 F2 S2 E2 r2 h2 => ?_) fun _ _ _ h => OutX.trans F1 (OutXE.x S E h)
  obtain ⟨a, k, ks, ds, rfl, rfl, e1, e2, q⟩ := h2
  obtain ⟨vs, h3, hl, r3⟩ := S2.at_ a _ e1
  have R2 : Rp X.K H2 d v := Rp.keep S1 F2 d (Rp.keep S F1 d R)
  have F3 : Fr μ2 H2 (mset μ2 a (.dct (putKs ks (.inl k)) (putDs ks ds (.inl k) d))) (upd H2 a (.dK ((putKs ks (.inl k)).zip (putDs ks vs (.inl k) v)))) := fr_set e1
  have hz : (ks.zip vs).length < sizeLine := by
    rw [List.length_zip, r3.length]
    exact Nat.lt_of_le_of_lt (Nat.min_le_left _ _) (Nat.lt_of_lt_of_le e2 sizeBig)
  have P := DPut.k (k := .inl k) (v := v) h3 hz
  rw [put_zip (by rw [hl, r3.length])] at P
  refine ⟨a, _, rp_ob r1, ?_, q _ _ (F1.trans (F2.trans F3)) (sim_put S2 F3 (put_len hl) (rps_put R2 r3)) (E2.keep S2 F3)⟩
  rw [rp_int r2]
  exact P
end
end Sq

/-! A list is unpacked. -/
namespace Sq
open PySem PySem.Spec PyProof.Rows L2
def gTL (gs : List WG) : WG := ⟨fun d ρ μ Q X => ∃ a ds, d = .ob a ∧ μ a = some (.lst ds) ∧ ds.length = gs.length ∧ runGs gs ds ρ μ Q X, fun hQ hX ⟨a, ds, h1, h2, h3, q⟩ => ⟨a, ds, h1, h2, h3, runGs_mono hQ hX q⟩⟩
theorem gTL_run {gs : List WG} {d : D} {ρ : Ev} {μ : Mu} {Q : Ev → Mu → Prop} {X : Ev → XQ} : (gTL gs).run d ρ μ Q X = ∃ a ds, d = .ob a ∧ μ a = some (.lst ds) ∧ ds.length = gs.length ∧ runGs gs ds ρ μ Q X := rfl
section
variable {X : Cx} {Wx : WX}
theorem lg_tupL {es : List Expr} {k : Nat} {pos : Pos} {gs : List WG} (h : LGs X Wx es gs) (hc : X.calm = true := by rfl) (hn : (assignEach es X.env).length = gs.length := by rfl) (hst : (assignEach es X.env).findIdx? (·.1) = none := by rfl) : LG X Wx (.Tuple es k pos) (gTL gs) :=
  PG.weak (pg_lst (n := gs.length) hc h hn hst) fun v σ H Q ⟨ρ, μ, d, E, S, R, h⟩ => by
    obtain ⟨a, ds, rfl, e, hl, q⟩ := h
    obtain ⟨vs, h1, r⟩ := S.lst e
    exact ⟨a, vs, rp_ob R, SqL.of h1, by rw [r.length, hl], ρ, μ, _, E, S, r, q⟩
end
end Sq

/-! Primes, factors, dividers. -/
namespace NT
def PrimeN (p : Nat) : Prop := 2 ≤ p ∧ ∀ d, 2 ≤ d → d * d ≤ p → p % d ≠ 0
theorem prime_div {p d : Nat} (h : PrimeN p) (hd : d ∣ p) : d = 1 ∨ d = p := by
  obtain ⟨q, rfl⟩ := hd
  have hp := h.1
  rcases Nat.lt_or_ge d 2 with g | g
  · have : d ≠ 0 := fun z => by rw [z, Nat.zero_mul] at hp; omega
    exact .inl (by omega)
  · rcases Nat.lt_or_ge q 2 with k | k
    · have : q ≠ 0 := fun z => by rw [z, Nat.mul_zero] at hp; omega
      have : q = 1 := by omega
      exact .inr (by rw [this, Nat.mul_one])
    · exfalso
      rcases Nat.le_total d q with c | c
      · exact h.2 d g (Nat.mul_le_mul_left d c) (Nat.mul_mod_right d q)
      · exact h.2 q k (Nat.mul_le_mul_right q c) (Nat.mul_mod_left d q)
theorem prime_cop {p k : Nat} (h : PrimeN p) (h1 : 1 ≤ k) (h2 : k < p) : Nat.gcd k p = 1 := by
  rcases prime_div h (Nat.gcd_dvd_right k p) with g | g
  · exact g
  · have := Nat.le_of_dvd (by omega) (Nat.gcd_dvd_left k p)
    omega
/-- a product of powers -/
def fprod : List (Nat × Nat) → Nat
  | [] => 1
  | z :: L => z.1 ^ z.2 * fprod L
/-- the primes of n, ascending, so many times -/
structure FacS (n : Nat) (L : List (Nat × Nat)) : Prop where
  prod : fprod L = n
  ok : ∀ z ∈ L, PrimeN z.1 ∧ 1 ≤ z.2
  asc : L.Pairwise fun a b => a.1 < b.1
theorem fprod_append (L M : List (Nat × Nat)) : fprod (L ++ M) = fprod L * fprod M := by
  induction L with
  | nil => simp [fprod]
  | cons z L ih => simp [fprod, ih, Nat.mul_assoc]
theorem fprod_one (z : Nat × Nat) : fprod [z] = z.1 ^ z.2 := by simp [fprod]
/-- what is found, and what is left -/
structure Half (n rest step : Nat) (L : List (Nat × Nat)) : Prop where
  prod : fprod L * rest = n
  pos : 1 ≤ rest
  two : 2 ≤ step
  none : ∀ d, 2 ≤ d → d < step → rest % d ≠ 0
  ok : ∀ z ∈ L, PrimeN z.1 ∧ 1 ≤ z.2 ∧ z.1 < step
  asc : L.Pairwise fun a b => a.1 < b.1
theorem half0 {n : Nat} (h : 1 ≤ n) : Half n n 2 [] := ⟨by simp [fprod], h, Nat.le_refl _, (fun d h1 h2 => by omega), (fun _ z => nomatch z), List.Pairwise.nil⟩
theorem mod_of_dvd {a d : Nat} (h : d ∣ a) : a % d = 0 := Nat.mod_eq_zero_of_dvd h
theorem half_prime {n rest step : Nat} {L : List (Nat × Nat)} (h : Half n rest step L) (hz : rest % step = 0) : PrimeN step := by
  refine ⟨h.two, fun d h1 h2 he => ?_⟩
  have hd : d < step := by
    rcases Nat.lt_or_ge d step with g | g
    · exact g
    · have := Nat.mul_le_mul g g
      have : step * 2 ≤ step * step := Nat.mul_le_mul_left step h.two
      have h0 := h.two
      have := Nat.mul_le_mul_left d h1
      have g2 : d * 2 ≤ d * d := Nat.mul_le_mul_left d h1
      omega
  exact h.none d h1 hd (mod_of_dvd (Nat.dvd_trans (Nat.dvd_of_mod_eq_zero he) (Nat.dvd_of_mod_eq_zero hz)))
theorem half_rest {n rest step : Nat} {L : List (Nat × Nat)} (h : Half n rest step L) (hz : rest % step ≠ 0) : Half n rest (step + 1) L :=
  ⟨h.prod, h.pos, by have := h.two; omega, fun d h1 h2 => by
    rcases Nat.lt_or_ge d step with g | g
    · exact h.none d h1 g
    · obtain rfl : d = step := by omega
      exact hz, fun z hz => ⟨(h.ok z hz).1, (h.ok z hz).2.1, by have := (h.ok z hz).2.2; omega⟩, h.asc⟩
theorem half_strip {n rest step t rest' : Nat} {L : List (Nat × Nat)} (h : Half n rest step L) (he : rest = step ^ t * rest') (ht : 1 ≤ t) (hz : rest' % step ≠ 0) : Half n rest' (step + 1) (L ++ [(step, t)]) := by
  have hp : PrimeN step := half_prime h (by
    rw [he]
    obtain ⟨u, rfl⟩ : ∃ u, t = u + 1 := ⟨t - 1, by omega⟩
    rw [Nat.pow_succ, Nat.mul_comm _ step, Nat.mul_assoc]
    exact Nat.mul_mod_right step _)
  have hr : 1 ≤ rest' := by
    rcases Nat.eq_zero_or_pos rest' with g | g
    · rw [g] at hz; exact absurd (Nat.zero_mod step) hz
    · exact g
  refine ⟨?_, hr, by have := h.two; omega, fun d h1 h2 => ?_, fun z hz' => ?_, ?_⟩
  · rw [fprod_append, fprod_one, Nat.mul_assoc, ← he]; exact h.prod
  · rcases Nat.lt_or_ge d step with g | g
    · intro e
      refine h.none d h1 g (mod_of_dvd ?_)
      rw [he]
      exact Nat.dvd_trans (Nat.dvd_of_mod_eq_zero e) (Nat.dvd_mul_left _ _)
    · obtain rfl : d = step := by omega
      exact hz
  · rcases List.mem_append.mp hz' with g | g
    · exact ⟨(h.ok z g).1, (h.ok z g).2.1, by have := (h.ok z g).2.2; omega⟩
    · rw [List.mem_singleton.mp g]
      exact ⟨hp, ht, Nat.lt_succ_self _⟩
  · refine List.pairwise_append.mpr ⟨h.asc, List.pairwise_singleton _ _, fun a ha b hb => ?_⟩
    rw [List.mem_singleton.mp hb]
    exact (h.ok a ha).2.2
theorem half_skip {n rest step : Nat} {L : List (Nat × Nat)} (h : Half n rest (step + 1) L) (ho : step % 2 = 1) (h3 : 3 ≤ step) : Half n rest (step + 2) L :=
  half_rest h fun e => h.none 2 (Nat.le_refl _) (by omega) (mod_of_dvd (Nat.dvd_trans ⟨(step + 1) / 2, by omega⟩ (Nat.dvd_of_mod_eq_zero e)))
theorem half_end {n rest step : Nat} {L : List (Nat × Nat)} (h : Half n rest step L) (hlt : rest < step * step) : FacS n (if 1 < rest then L ++ [(rest, 1)] else L) := by
  by_cases h1 : 1 < rest
  · rw [if_pos h1]
    have hs : step ≤ rest := by
      rcases Nat.lt_or_ge rest step with g | g
      · exact absurd (Nat.mod_self rest) (h.none rest h1 g)
      · exact g
    have hp : PrimeN rest := ⟨h1, fun d g1 g2 => h.none d g1 (by
      rcases Nat.lt_or_ge d step with g | g
      · exact g
      · have := Nat.mul_le_mul g g
        omega)⟩
    refine ⟨?_, fun z hz => ?_, ?_⟩
    · rw [fprod_append, fprod_one, Nat.pow_one]; exact h.prod
    · rcases List.mem_append.mp hz with g | g
      · exact ⟨(h.ok z g).1, (h.ok z g).2.1⟩
      · rw [List.mem_singleton.mp g]; exact ⟨hp, Nat.le_refl _⟩
    · refine List.pairwise_append.mpr ⟨h.asc, List.pairwise_singleton _ _, fun a ha b hb => ?_⟩
      rw [List.mem_singleton.mp hb]
      have := (h.ok a ha).2.2
      show a.1 < rest
      omega
  · rw [if_neg h1]
    have e : rest = 1 := by have := h.pos; omega
    refine ⟨by have := h.prod; rw [e, Nat.mul_one] at this; exact this, fun z hz => ⟨(h.ok z hz).1, (h.ok z hz).2.1⟩, h.asc⟩
theorem fprod_pos : ∀ {L : List (Nat × Nat)}, (∀ z ∈ L, PrimeN z.1 ∧ 1 ≤ z.2) → 1 ≤ fprod L
  | [], _ => Nat.le_refl _
  | z :: L, h => by
    unfold fprod
    have h1 := (h z List.mem_cons_self).1.1
    have h2 : 0 < z.1 ^ z.2 := Nat.pow_pos (by omega)
    exact Nat.mul_pos h2 (fprod_pos fun y hy => h y (List.mem_cons_of_mem _ hy))
/-- the factors of a prime -/
theorem fac_prime {n : Nat} {L : List (Nat × Nat)} (h : FacS n L) (hn : PrimeN n) : L = [(n, 1)] := by
  have h2 := hn.1
  match L, h with
  | [], h => have := h.prod; simp [fprod] at this; omega
  | z :: L, h =>
    have hz := h.ok z List.mem_cons_self
    have hL := fprod_pos fun y hy => h.ok y (List.mem_cons_of_mem _ hy)
    have hp := h.prod
    unfold fprod at hp
    obtain ⟨t, ht⟩ : ∃ t, z.2 = t + 1 := ⟨z.2 - 1, by omega⟩
    have hdv : z.1 ∣ n := by
      rw [← hp, ht, Nat.pow_succ]
      exact Nat.dvd_trans (Nat.dvd_mul_left _ _) (Nat.dvd_mul_right _ _)
    have hz1 : z.1 = n := by
      rcases prime_div hn hdv with g | g
      · have := hz.1.1; omega
      · exact g
    have hpow : 1 ≤ n ^ t := Nat.pow_pos (by omega)
    rw [hz1, ht, Nat.pow_succ, Nat.mul_assoc, Nat.mul_comm n, ← Nat.mul_assoc] at hp
    have hq : n ^ t * fprod L = 1 := by
      have : n ^ t * fprod L * n = 1 * n := by rw [hp, Nat.one_mul]
      exact Nat.eq_of_mul_eq_mul_right (by omega) this
    have e1 : fprod L = 1 := Nat.eq_one_of_mul_eq_one_left hq
    have e2 : n ^ t = 1 := Nat.eq_one_of_mul_eq_one_right hq
    have ht0 : t = 0 := by
      rcases Nat.eq_zero_or_pos t with g | g
      · exact g
      · have : n ^ 1 ≤ n ^ t := Nat.pow_le_pow_right (by omega) g
        rw [Nat.pow_one] at this
        omega
    have hnil : L = [] := by
      match L, e1, h with
      | [], _, _ => rfl
      | y :: M, e1, h =>
        exfalso
        have hy := h.ok y (List.mem_cons_of_mem _ List.mem_cons_self)
        have hM := fprod_pos fun x hx => h.ok x (List.mem_cons_of_mem _ (List.mem_cons_of_mem _ hx))
        unfold fprod at e1
        have : y.1 ^ y.2 = 1 := Nat.eq_one_of_mul_eq_one_right e1
        have g : y.1 ^ 1 ≤ y.1 ^ y.2 := Nat.pow_le_pow_right (by have := hy.1.1; omega) hy.2
        rw [Nat.pow_one] at g
        have := hy.1.1
        omega
    rw [hnil]
    have : z = (n, 1) := Prod.ext hz1 (by rw [ht, ht0])
    rw [this]
theorem prime_euclid {p a b : Nat} (h : PrimeN p) (hd : p ∣ a * b) : p ∣ a ∨ p ∣ b := by
  by_cases g : p ∣ a
  · exact .inl g
  · right
    have : Nat.Coprime p a := by
      have h1 := Nat.gcd_dvd_left p a
      rcases prime_div h h1 with e | e
      · exact e
      · exact absurd (by rw [← e]; exact Nat.gcd_dvd_right p a) g
    exact this.dvd_of_dvd_mul_left hd
theorem prime_pow {p a : Nat} (h : PrimeN p) : ∀ {t : Nat}, p ∣ a ^ t → p ∣ a
  | 0, hd => by
    rw [Nat.pow_zero] at hd
    have := Nat.le_of_dvd (by decide) hd
    have := h.1
    omega
  | t + 1, hd => by
    rw [Nat.pow_succ] at hd
    rcases prime_euclid h hd with g | g
    · exact prime_pow h g
    · exact g
theorem prime_eq {p q : Nat} (h : PrimeN p) (k : PrimeN q) (hd : p ∣ q) : p = q := by
  rcases prime_div k hd with e | e
  · have := h.1; omega
  · exact e
theorem dvd_fprod : ∀ {L : List (Nat × Nat)} {z : Nat × Nat}, z ∈ L → z.1 ^ z.2 ∣ fprod L
  | y :: L, z, h => by
    unfold fprod
    rcases List.mem_cons.mp h with rfl | h
    · exact Nat.dvd_mul_right _ _
    · exact Nat.dvd_trans (dvd_fprod h) (Nat.dvd_mul_left _ _)
/-- a prime that goes in is one of them -/
theorem prime_in {p : Nat} (h : PrimeN p) : ∀ {L : List (Nat × Nat)}, (∀ z ∈ L, PrimeN z.1 ∧ 1 ≤ z.2) → p ∣ fprod L → ∃ z ∈ L, z.1 = p
  | [], _, hd => by
    have := Nat.le_of_dvd (show 0 < fprod [] by decide) hd
    have h1 := h.1
    simp [fprod] at this
    omega
  | y :: L, ok, hd => by
    unfold fprod at hd
    rcases prime_euclid h hd with g | g
    · exact ⟨y, List.mem_cons_self, (prime_eq h (ok y List.mem_cons_self).1 (prime_pow h g)).symm⟩
    · obtain ⟨z, hz, e⟩ := prime_in h (fun z hz => ok z (List.mem_cons_of_mem _ hz)) g
      exact ⟨z, List.mem_cons_of_mem _ hz, e⟩
theorem pow_inj_cop {p m n : Nat} (hp : PrimeN p) (hm : ¬ p ∣ m) (hn : ¬ p ∣ n) : ∀ {s t : Nat}, p ^ s * m = p ^ t * n → s = t ∧ m = n
  | 0, 0, e => ⟨rfl, by simpa using e⟩
  | 0, t + 1, e => by
    exfalso
    rw [Nat.pow_zero, Nat.one_mul, Nat.pow_succ, Nat.mul_comm _ p, Nat.mul_assoc] at e
    exact hm ⟨_, e⟩
  | s + 1, 0, e => by
    exfalso
    rw [Nat.pow_zero, Nat.one_mul, Nat.pow_succ, Nat.mul_comm _ p, Nat.mul_assoc] at e
    exact hn ⟨_, e.symm⟩
  | s + 1, t + 1, e => by
    rw [Nat.pow_succ, Nat.pow_succ, Nat.mul_comm _ p, Nat.mul_comm _ p, Nat.mul_assoc, Nat.mul_assoc] at e
    have := hp.1
    obtain ⟨e1, e2⟩ := pow_inj_cop hp hm hn (Nat.eq_of_mul_eq_mul_left (by omega) e)
    exact ⟨by omega, e2⟩
theorem not_in_rest {z : Nat × Nat} {L : List (Nat × Nat)} (ok : ∀ y ∈ z :: L, PrimeN y.1 ∧ 1 ≤ y.2) (asc : (z :: L).Pairwise fun a b => a.1 < b.1) : ¬ z.1 ∣ fprod L := fun hd => by
  obtain ⟨y, hy, e⟩ := prime_in (ok z List.mem_cons_self).1 (fun y hy => ok y (List.mem_cons_of_mem _ hy)) hd
  have := (List.pairwise_cons.mp asc).1 y hy
  omega
/-- factors are told in one way alone -/
theorem fac_uniq' : ∀ {L M : List (Nat × Nat)}, (∀ z ∈ L, PrimeN z.1 ∧ 1 ≤ z.2) → (L.Pairwise fun a b => a.1 < b.1) → (∀ z ∈ M, PrimeN z.1 ∧ 1 ≤ z.2) → (M.Pairwise fun a b => a.1 < b.1) → fprod L = fprod M → L = M
  | [], [], _, _, _, _, _ => rfl
  | [], y :: M, _, _, okM, _, e => by
    exfalso
    have h := okM y List.mem_cons_self
    have : y.1 ^ y.2 ∣ fprod [] := by rw [e]; exact dvd_fprod List.mem_cons_self
    have := Nat.le_of_dvd (by decide) (Nat.dvd_trans (Nat.pow_dvd_pow y.1 h.2) this)
    simp [fprod] at this
    have := h.1.1
    omega
  | z :: L, [], okL, _, _, _, e => by
    exfalso
    have h := okL z List.mem_cons_self
    have : z.1 ^ z.2 ∣ fprod [] := by rw [← e]; exact dvd_fprod List.mem_cons_self
    have := Nat.le_of_dvd (by decide) (Nat.dvd_trans (Nat.pow_dvd_pow z.1 h.2) this)
    simp [fprod] at this
    have := h.1.1
    omega
  | z :: L, y :: M, okL, aL, okM, aM, e => by
    have hz := okL z List.mem_cons_self
    have hy := okM y List.mem_cons_self
    have zin : z.1 ∣ fprod (y :: M) := by
      rw [← e]
      refine Nat.dvd_trans ?_ (dvd_fprod List.mem_cons_self)
      have := Nat.pow_dvd_pow z.1 hz.2
      rwa [Nat.pow_one] at this
    have yin : y.1 ∣ fprod (z :: L) := by
      rw [e]
      refine Nat.dvd_trans ?_ (dvd_fprod List.mem_cons_self)
      have := Nat.pow_dvd_pow y.1 hy.2
      rwa [Nat.pow_one] at this
    obtain ⟨u, hu, eu⟩ := prime_in hz.1 okM zin
    obtain ⟨v, hv, ev⟩ := prime_in hy.1 okL yin
    have l1 : y.1 ≤ z.1 := by
      rcases List.mem_cons.mp hu with rfl | hu
      · omega
      · have := (List.pairwise_cons.mp aM).1 u hu; omega
    have l2 : z.1 ≤ y.1 := by
      rcases List.mem_cons.mp hv with rfl | hv
      · omega
      · have := (List.pairwise_cons.mp aL).1 v hv; omega
    have ep : z.1 = y.1 := Nat.le_antisymm l2 l1
    have n1 := not_in_rest okL aL
    have n2 := not_in_rest okM aM
    unfold fprod at e
    rw [← ep] at e n2
    obtain ⟨e1, e2⟩ := pow_inj_cop hz.1 n1 n2 e
    rw [fac_uniq' (fun x hx => okL x (List.mem_cons_of_mem _ hx)) (List.pairwise_cons.mp aL).2 (fun x hx => okM x (List.mem_cons_of_mem _ hx)) (List.pairwise_cons.mp aM).2 e2]
    rw [show z = y from Prod.ext ep e1]
theorem fac_uniq {n : Nat} {L M : List (Nat × Nat)} (h : FacS n L) (k : FacS n M) : L = M := fac_uniq' h.ok h.asc k.ok k.asc (h.prod.trans k.prod.symm)
/-! ### dividers -/
/-- the dividers found so far, one prime more -/
def dstep (F : List Nat) (z : Nat × Nat) : List Nat := F ++ (List.range z.2).flatMap fun j => F.map (· * z.1 ^ (j + 1))
def divs (L : List (Nat × Nat)) : List Nat := L.foldl dstep [1]
theorem mem_dstep {F : List Nat} {z : Nat × Nat} {d : Nat} : d ∈ dstep F z ↔ ∃ f ∈ F, ∃ j, j ≤ z.2 ∧ d = f * z.1 ^ j := by
  unfold dstep
  rw [List.mem_append, List.mem_flatMap]
  constructor
  · rintro (h | ⟨j, hj, h⟩)
    · exact ⟨d, h, 0, Nat.zero_le _, by simp⟩
    · obtain ⟨f, hf, rfl⟩ := List.mem_map.mp h
      exact ⟨f, hf, j + 1, List.mem_range.mp hj, rfl⟩
  · rintro ⟨f, hf, j, hj, rfl⟩
    cases j with
    | zero => left; simpa using hf
    | succ j => exact .inr ⟨j, List.mem_range.mpr hj, List.mem_map.mpr ⟨f, hf, rfl⟩⟩
/-- dividers of m times a prime's power -/
theorem dvd_mul_pow {p m : Nat} (hp : PrimeN p) (hm : ¬ p ∣ m) : ∀ {t d : Nat}, d ∣ m * p ^ t ↔ ∃ f, f ∣ m ∧ ∃ j, j ≤ t ∧ d = f * p ^ j := by
  intro t
  induction t with
  | zero =>
    intro d
    rw [Nat.pow_zero, Nat.mul_one]
    constructor
    · exact fun h => ⟨d, h, 0, Nat.le_refl _, by simp⟩
    · rintro ⟨f, hf, j, hj, rfl⟩
      obtain rfl : j = 0 := by omega
      simpa using hf
  | succ t ih =>
    intro d
    constructor
    · intro h
      by_cases g : p ∣ d
      · obtain ⟨d', rfl⟩ := g
        have h' : d' ∣ m * p ^ t := by
          rw [Nat.pow_succ, ← Nat.mul_assoc, Nat.mul_comm _ p] at h
          exact Nat.dvd_of_mul_dvd_mul_left (by have := hp.1; omega) h
        obtain ⟨f, hf, j, hj, rfl⟩ := ih.mp h'
        exact ⟨f, hf, j + 1, by omega, by rw [Nat.pow_succ, Nat.mul_comm p, Nat.mul_assoc]⟩
      · have hc : Nat.Coprime d p := by
          have h1 := Nat.gcd_dvd_right d p
          rcases prime_div hp h1 with e | e
          · exact e
          · exact absurd (by rw [← e]; exact Nat.gcd_dvd_left d p) g
        rw [Nat.pow_succ, ← Nat.mul_assoc] at h
        obtain ⟨f, hf, j, hj, rfl⟩ := ih.mp (hc.dvd_of_dvd_mul_right h)
        exact ⟨f, hf, j, by omega, rfl⟩
    · rintro ⟨f, hf, j, hj, rfl⟩
      exact Nat.mul_dvd_mul hf (Nat.pow_dvd_pow p hj)
theorem divs_snoc (L : List (Nat × Nat)) (z : Nat × Nat) : divs (L ++ [z]) = dstep (divs L) z := by unfold divs; rw [List.foldl_append]; rfl
theorem snoc_cop {L : List (Nat × Nat)} {z : Nat × Nat} (ok : ∀ y ∈ L ++ [z], PrimeN y.1 ∧ 1 ≤ y.2) (asc : (L ++ [z]).Pairwise fun a b => a.1 < b.1) : ¬ z.1 ∣ fprod L := fun hd => by
  obtain ⟨y, hy, e⟩ := prime_in (ok z (by simp)).1 (fun y hy => ok y (List.mem_append_left _ hy)) hd
  have := (List.pairwise_append.mp asc).2.2 y hy z (by simp)
  omega
theorem asc_init {L : List (Nat × Nat)} {z : Nat × Nat} (asc : (L ++ [z]).Pairwise fun a b => a.1 < b.1) : L.Pairwise fun a b => a.1 < b.1 := (List.pairwise_append.mp asc).1
theorem rev_ind {α : Type} {P : List α → Prop} (h0 : P []) (hs : ∀ L z, P L → P (L ++ [z])) (L : List α) : P L := by
  rw [← List.reverse_reverse L]
  induction L.reverse with
  | nil => exact h0
  | cons z M ih => rw [List.reverse_cons]; exact hs _ _ ih
theorem mem_divs (L : List (Nat × Nat)) : (∀ z ∈ L, PrimeN z.1 ∧ 1 ≤ z.2) → (L.Pairwise fun a b => a.1 < b.1) → ∀ {d : Nat}, d ∈ divs L ↔ d ∣ fprod L := by
  refine rev_ind (P := fun L => (∀ z ∈ L, PrimeN z.1 ∧ 1 ≤ z.2) → (L.Pairwise fun a b => a.1 < b.1) → ∀ {d : Nat}, d ∈ divs L ↔ d ∣ fprod L) ?_ ?_ L
  · intro _ _ d
    simp [divs, fprod]
  · intro L z ih ok asc d
    rw [divs_snoc, mem_dstep, fprod_append, fprod_one, dvd_mul_pow (ok z (by simp)).1 (snoc_cop ok asc)]
    have ih := fun {d : Nat} => ih (fun y hy => ok y (List.mem_append_left _ hy)) (asc_init asc) (d := d)
    constructor
    · rintro ⟨f, hf, r⟩
      exact ⟨f, ih.mp hf, r⟩
    · rintro ⟨f, hf, r⟩
      exact ⟨f, ih.mpr hf, r⟩
theorem divs_nodup (L : List (Nat × Nat)) : (∀ z ∈ L, PrimeN z.1 ∧ 1 ≤ z.2) → (L.Pairwise fun a b => a.1 < b.1) → (divs L).Nodup := by
  refine rev_ind (P := fun L => (∀ z ∈ L, PrimeN z.1 ∧ 1 ≤ z.2) → (L.Pairwise fun a b => a.1 < b.1) → (divs L).Nodup) ?_ ?_ L
  · intro _ _; simp [divs]
  · intro L z ih ok asc
    have okL := fun y hy => ok y (List.mem_append_left _ hy)
    have ih := ih okL (asc_init asc)
    have hp := (ok z (by simp)).1
    have cop : ∀ f ∈ divs L, ¬ z.1 ∣ f := fun f hf h => snoc_cop ok asc (Nat.dvd_trans h ((mem_divs L okL (asc_init asc)).mp hf))
    have inj : ∀ {f g : Nat} {i j : Nat}, f ∈ divs L → g ∈ divs L → f * z.1 ^ i = g * z.1 ^ j → i = j ∧ f = g := fun hf hg e => pow_inj_cop hp (cop _ hf) (cop _ hg) (by rw [Nat.mul_comm, e, Nat.mul_comm])
    have p0 : 0 < z.1 := by have := hp.1; omega
    have nm : ∀ i, ((divs L).map (· * z.1 ^ i)).Nodup := fun i => by
      refine List.Pairwise.map _ (fun a b hab e => hab ?_) ih
      exact Nat.eq_of_mul_eq_mul_right (Nat.pow_pos p0) e
    rw [divs_snoc]
    unfold dstep
    rw [List.nodup_append]
    refine ⟨ih, ?_, ?_⟩
    · generalize z.2 = n
      induction n with
      | zero => simp
      | succ n ihn =>
        rw [List.range_succ, List.flatMap_append, List.nodup_append]
        refine ⟨ihn, by simpa using nm (n + 1), ?_⟩
        intro a ha b hb e
        subst e
        obtain ⟨j, hj, ha⟩ := List.mem_flatMap.mp ha
        obtain ⟨f, hf, e1⟩ := List.mem_map.mp ha
        simp only [List.flatMap_cons, List.flatMap_nil, List.append_nil] at hb
        obtain ⟨g, hg, e2⟩ := List.mem_map.mp hb
        have := (inj hf hg (e1.trans e2.symm)).1
        have := List.mem_range.mp hj
        omega
    · intro a ha b hb e
      subst e
      obtain ⟨j, hj, hb⟩ := List.mem_flatMap.mp hb
      obtain ⟨g, hg, e2⟩ := List.mem_map.mp hb
      have := (inj (i := 0) (j := j + 1) ha hg (by rw [Nat.pow_zero, Nat.mul_one]; exact e2.symm)).1
      omega
/-- how many at most -/
def dnum : List (Nat × Nat) → Nat
  | [] => 1
  | z :: L => (z.2 + 1) * dnum L
theorem dnum_append (L M : List (Nat × Nat)) : dnum (L ++ M) = dnum L * dnum M := by
  induction L with
  | nil => simp [dnum]
  | cons z L ih => simp [dnum, ih, Nat.mul_assoc]
theorem dstep_len (F : List Nat) (z : Nat × Nat) : (dstep F z).length = (z.2 + 1) * F.length := by
  unfold dstep
  rw [List.length_append]
  have : ∀ n, ((List.range n).flatMap fun j => F.map (· * z.1 ^ (j + 1))).length = n * F.length := fun n => by
    induction n with
    | zero => simp
    | succ n ih => rw [List.range_succ, List.flatMap_append, List.length_append, ih]; simp [Nat.succ_mul]
  rw [this, Nat.succ_mul, Nat.add_comm]
theorem divs_len (L : List (Nat × Nat)) : (divs L).length = dnum L := by
  refine rev_ind (P := fun L => (divs L).length = dnum L) rfl ?_ L
  intro L z ih
  rw [divs_snoc, dstep_len, ih, dnum_append]
  simp [dnum, Nat.mul_comm]
theorem sq_pow2 : ∀ t : Nat, (t + 1) * (t + 1) ≤ 3 * 2 ^ t
  | 0 => by decide
  | 1 => by decide
  | 2 => by decide
  | t + 3 => by
    have := sq_pow2 (t + 2)
    rw [Nat.pow_succ]
    have e : (t + 3 + 1) * (t + 3 + 1) + (t * t) + 2 * t ≤ 2 * ((t + 2 + 1) * (t + 2 + 1)) := by
      have : (t + 3 + 1) * (t + 3 + 1) = t * t + 8 * t + 16 := by grind
      have : (t + 2 + 1) * (t + 2 + 1) = t * t + 6 * t + 9 := by grind
      omega
    omega
theorem sq_pow3 : ∀ t : Nat, (t + 1) * (t + 1) ≤ 2 * 3 ^ t
  | 0 => by decide
  | 1 => by decide
  | t + 2 => by
    have := sq_pow3 (t + 1)
    rw [Nat.pow_succ]
    have : (t + 2 + 1) * (t + 2 + 1) = t * t + 6 * t + 9 := by grind
    have : (t + 1 + 1) * (t + 1 + 1) = t * t + 4 * t + 4 := by grind
    omega
theorem sq_pow4 : ∀ t : Nat, (t + 1) * (t + 1) ≤ 4 ^ t
  | 0 => by decide
  | 1 => by decide
  | t + 2 => by
    have := sq_pow4 (t + 1)
    rw [Nat.pow_succ]
    have : (t + 2 + 1) * (t + 2 + 1) = t * t + 6 * t + 9 := by grind
    have : (t + 1 + 1) * (t + 1 + 1) = t * t + 4 * t + 4 := by grind
    omega
def dcap (b : Nat) : Nat := if b < 2 then 6 else if b < 3 then 2 else 1
theorem dnum_sq : ∀ {L : List (Nat × Nat)} (b : Nat), (∀ z ∈ L, b < z.1) → 1 ≤ b → (L.Pairwise fun a b => a.1 < b.1) → dnum L * dnum L ≤ dcap b * fprod L
  | [], b, _, _, _ => by
    simp [dnum, fprod]
    unfold dcap
    split
    · omega
    · split <;> omega
  | z :: L, b, h, hb, asc => by
    obtain ⟨a1, a2⟩ := List.pairwise_cons.mp asc
    have hz := h z List.mem_cons_self
    have ih := dnum_sq (L := L) z.1 a1 (by omega) a2
    unfold dnum fprod
    have e : (z.2 + 1) * dnum L * ((z.2 + 1) * dnum L) = (z.2 + 1) * (z.2 + 1) * (dnum L * dnum L) := by grind
    have key : (z.2 + 1) * (z.2 + 1) * dcap z.1 ≤ dcap b * z.1 ^ z.2 := by
      unfold dcap
      by_cases h2 : z.1 = 2
      · rw [h2, if_neg (by decide), if_pos (by decide), if_pos (by omega)]
        have := sq_pow2 z.2
        omega
      · by_cases h3 : z.1 = 3
        · rw [h3, if_neg (by decide), if_neg (by decide)]
          have := sq_pow3 z.2
          split
          · omega
          · rw [if_pos (by omega)]; omega
        · rw [if_neg (by omega), if_neg (by omega)]
          have := sq_pow4 z.2
          have h4 : 4 ^ z.2 ≤ z.1 ^ z.2 := Nat.pow_le_pow_left (by omega) _
          have : 1 * z.1 ^ z.2 ≤ (if b < 2 then 6 else if b < 3 then 2 else 1) * z.1 ^ z.2 := Nat.mul_le_mul_right _ (by split; decide; split <;> decide)
          omega
    calc (z.2 + 1) * dnum L * ((z.2 + 1) * dnum L) = (z.2 + 1) * (z.2 + 1) * (dnum L * dnum L) := e
      _ ≤ (z.2 + 1) * (z.2 + 1) * (dcap z.1 * fprod L) := Nat.mul_le_mul_left _ ih
      _ = (z.2 + 1) * (z.2 + 1) * dcap z.1 * fprod L := by rw [Nat.mul_assoc, Nat.mul_assoc, Nat.mul_assoc]
      _ ≤ dcap b * z.1 ^ z.2 * fprod L := Nat.mul_le_mul_right _ key
      _ = dcap b * (z.1 ^ z.2 * fprod L) := by rw [Nat.mul_assoc]
theorem dnum_le {L : List (Nat × Nat)} (ok : ∀ z ∈ L, PrimeN z.1 ∧ 1 ≤ z.2) (asc : L.Pairwise fun a b => a.1 < b.1) (h : fprod L ≤ 1000000000000) : dnum L ≤ 3000000 := by
  have := dnum_sq (L := L) 1 (fun z hz => (ok z hz).1.1) (by decide) asc
  have e : dcap 1 = 6 := rfl
  rw [e] at this
  rcases Nat.lt_or_ge 3000000 (dnum L) with g | g
  · have := Nat.mul_le_mul g g
    omega
  · exact g
end NT

/-! k01: a symbol by halves (how many of a, 2 a, .. lie in the upper half), for all odd numbers: multiplied tops, twos, turning about. -/
namespace Sym
/-- f 1 + .. + f m -/
def sm (f : Nat → Nat) : Nat → Nat
  | 0 => 0
  | m + 1 => sm f m + f (m + 1)
theorem sm_congr {f g : Nat → Nat} : ∀ {m : Nat}, (∀ k, 1 ≤ k → k ≤ m → f k = g k) → sm f m = sm g m
  | 0, _ => rfl
  | m + 1, h => by unfold sm; rw [sm_congr (m := m) fun k h1 h2 => h k h1 (by omega), h (m + 1) (by omega) (Nat.le_refl _)]
theorem sm_add (f g : Nat → Nat) : ∀ m, sm (fun k => f k + g k) m = sm f m + sm g m
  | 0 => rfl
  | m + 1 => by unfold sm; rw [sm_add f g m]; omega
theorem sm_mul (c : Nat) (f : Nat → Nat) : ∀ m, sm (fun k => c * f k) m = c * sm f m
  | 0 => rfl
  | m + 1 => by unfold sm; rw [sm_mul c f m, Nat.mul_add]
theorem sm_const (c : Nat) : ∀ m, sm (fun _ => c) m = m * c
  | 0 => by simp [sm]
  | m + 1 => by unfold sm; rw [sm_const c m, Nat.succ_mul]
theorem sm_mod {f g : Nat → Nat} : ∀ {m : Nat}, (∀ k, 1 ≤ k → k ≤ m → f k % 2 = g k % 2) → sm f m % 2 = sm g m % 2
  | 0, _ => rfl
  | m + 1, h => by
    unfold sm
    have h1 := sm_mod (m := m) fun k h1 h2 => h k h1 (by omega)
    have h2 := h (m + 1) (by omega) (Nat.le_refl _)
    omega
theorem sm_swap (g : Nat → Nat → Nat) (m' : Nat) : ∀ m, sm (fun k => sm (fun j => g k j) m') m = sm (fun j => sm (fun k => g k j) m) m'
  | 0 => by
    have : sm (fun j => sm (fun k => g k j) 0) m' = sm (fun _ => 0) m' := sm_congr fun _ _ _ => rfl
    rw [this, sm_const]; rfl
  | m + 1 => by
    have e : sm (fun j => sm (fun k => g k j) (m + 1)) m' = sm (fun j => sm (fun k => g k j) m + g (m + 1) j) m' := sm_congr fun _ _ _ => rfl
    rw [e, sm_add]
    show sm (fun k => sm (fun j => g k j) m') m + sm (fun j => g (m + 1) j) m' = _
    rw [sm_swap g m' m]
/-- as a list's sum -/
def ones (m : Nat) : List Nat := (List.range m).map (· + 1)
theorem sm_list (f : Nat → Nat) : ∀ m, sm f m = ((ones m).map f).sum
  | 0 => rfl
  | m + 1 => by
    unfold sm
    rw [sm_list f m]
    unfold ones
    rw [List.range_succ, List.map_append, List.map_append, List.sum_append]
    simp
theorem mem_ones {m k : Nat} : k ∈ ones m ↔ 1 ≤ k ∧ k ≤ m := by
  unfold ones
  rw [List.mem_map]
  constructor
  · rintro ⟨i, hi, rfl⟩
    have := List.mem_range.mp hi
    omega
  · rintro ⟨h1, h2⟩
    exact ⟨k - 1, List.mem_range.mpr (by omega), by omega⟩
theorem ones_nodup (m : Nat) : (ones m).Nodup := by
  unfold ones
  rw [List.Nodup, List.pairwise_map]
  exact List.nodup_range.imp fun h e => h (by omega)
theorem ones_len (m : Nat) : (ones m).length = m := by unfold ones; simp
theorem perm_sum {l l' : List Nat} (h : l.Perm l') : l.sum = l'.sum := by
  induction h with
  | nil => rfl
  | cons x _ ih => simp [ih]
  | swap x y l => simp; omega
  | trans _ _ h1 h2 => rw [h1, h2]
/-- as many different ones out of as many: all -/
theorem perm_of_sub : ∀ {l m : List Nat}, l.Nodup → (∀ x ∈ l, x ∈ m) → l.length = m.length → l.Perm m
  | [], m, _, _, h => by
    cases m with
    | nil => exact .nil
    | cons => simp at h
  | x :: l, m, hn, hs, h => by
    have hx := hs x List.mem_cons_self
    have hp := List.perm_cons_erase hx
    have hn' := List.nodup_cons.mp hn
    refine .trans (.cons x (perm_of_sub hn'.2 (fun y hy => ?_) ?_)) hp.symm
    · have hne : y ≠ x := fun e => hn'.1 (e ▸ hy)
      exact (List.mem_erase_of_ne hne).mpr (hs y (List.mem_cons_of_mem _ hy))
    · have := hp.length_eq
      rw [List.length_cons] at this h
      omega
/-- a k lies in the upper half -/
def up (a n k : Nat) : Nat := if n / 2 < a * k % n then 1 else 0
/-- its rest, or what lacks to n -/
def hf (a n k : Nat) : Nat := if n / 2 < a * k % n then n - a * k % n else a * k % n
theorem rest_pos {a n k : Nat} (hc : Nat.gcd a n = 1) (h1 : 1 ≤ k) (h2 : k ≤ n / 2) : 0 < a * k % n := by
  rcases Nat.eq_zero_or_pos (a * k % n) with h | h
  · have d : n ∣ a * k := Nat.dvd_of_mod_eq_zero h
    have d2 : n ∣ k := Nat.Coprime.dvd_of_dvd_mul_left (k := n) (m := a) (n := k) (by rw [Nat.Coprime, Nat.gcd_comm]; exact hc) d
    have := Nat.le_of_dvd (by omega) d2
    omega
  · exact h
theorem hf_mem {a n k : Nat} (ho : n % 2 = 1) (hc : Nat.gcd a n = 1) (h1 : 1 ≤ k) (h2 : k ≤ n / 2) : 1 ≤ hf a n k ∧ hf a n k ≤ n / 2 := by
  have h3 := rest_pos hc h1 h2
  have h4 := Nat.mod_lt (a * k) (show 0 < n by omega)
  unfold hf
  split <;> omega
theorem hf_inj {a n k k' : Nat} (ho : n % 2 = 1) (hc : Nat.gcd a n = 1) (h1 : 1 ≤ k) (h2 : k ≤ n / 2) (h3 : 1 ≤ k') (h4 : k' ≤ n / 2) (e : hf a n k = hf a n k') : k = k' := by
  have hn : 0 < n := by omega
  have r1 := Nat.mod_lt (a * k) hn
  have r2 := Nat.mod_lt (a * k') hn
  have p1 := rest_pos hc h1 h2
  have p2 := rest_pos hc h3 h4
  have cp : ∀ {x : Nat}, n ∣ a * x → n ∣ x := fun d => Nat.Coprime.dvd_of_dvd_mul_left (by rw [Nat.Coprime, Nat.gcd_comm]; exact hc) d
  have same : ∀ {x y : Nat}, x ≤ y → y ≤ n / 2 → a * x % n = a * y % n → x = y := fun {x y} hxy hy he => by
    have d : n ∣ a * y - a * x := Nat.dvd_of_mod_eq_zero (Nat.sub_mod_eq_zero_of_mod_eq he.symm)
    rw [← Nat.mul_sub] at d
    have d2 := cp d
    rcases Nat.eq_zero_or_pos (y - x) with h | h
    · omega
    · have := Nat.le_of_dvd h d2
      omega
  have sum : a * k % n + a * k' % n = n → False := fun he => by
    have d : n ∣ a * k + a * k' := by
      refine Nat.dvd_of_mod_eq_zero ?_
      rw [Nat.add_mod, he, Nat.mod_self]
    rw [← Nat.mul_add] at d
    have := Nat.le_of_dvd (by omega) (cp d)
    omega
  unfold hf at e
  have eq : a * k % n = a * k' % n := by
    split at e <;> split at e
    · omega
    · exact (sum (by omega)).elim
    · exact (sum (by omega)).elim
    · exact e
  rcases Nat.le_total k k' with h | h
  · exact same h h4 eq
  · exact (same h h2 eq.symm).symm
theorem hf_perm {a n : Nat} (ho : n % 2 = 1) (hc : Nat.gcd a n = 1) : ((ones (n / 2)).map (hf a n)).Perm (ones (n / 2)) := by
  refine perm_of_sub ?_ ?_ (by rw [List.length_map])
  · rw [List.Nodup, List.pairwise_map]
    refine List.Pairwise.imp_of_mem (fun {x y} hx hy hne e => hne ?_) (ones_nodup _)
    obtain ⟨a1, a2⟩ := mem_ones.mp hx
    obtain ⟨b1, b2⟩ := mem_ones.mp hy
    exact hf_inj ho hc a1 a2 b1 b2 e
  · intro x hx
    obtain ⟨k, hk, rfl⟩ := List.mem_map.mp hx
    obtain ⟨k1, k2⟩ := mem_ones.mp hk
    exact mem_ones.mpr (hf_mem ho hc k1 k2)
theorem sm_hf {a n : Nat} (ho : n % 2 = 1) (hc : Nat.gcd a n = 1) (f : Nat → Nat) : sm (fun k => f (hf a n k)) (n / 2) = sm f (n / 2) := by
  rw [sm_list, sm_list]
  have := (hf_perm ho hc).map f
  rw [List.map_map] at this
  exact perm_sum this
/-- how many lie in the upper half -/
def cnt (a n : Nat) : Nat := sm (up a n) (n / 2)
theorem up_mul {a b n k : Nat} (ho : n % 2 = 1) (ha : Nat.gcd a n = 1) (hb : Nat.gcd b n = 1) (h1 : 1 ≤ k) (h2 : k ≤ n / 2) : up (a * b) n k % 2 = (up b n k + up a n (hf b n k)) % 2 := by
  have hn : 0 < n := by omega
  have hm := hf_mem ho hb h1 h2
  have ra := rest_pos ha hm.1 hm.2
  have e : a * b * k % n = a * (b * k % n) % n := by rw [Nat.mul_assoc, Nat.mul_mod a (b * k % n), Nat.mod_mod, ← Nat.mul_mod]
  have hr := Nat.mod_lt (b * k) hn
  have hs := Nat.mod_lt (a * hf b n k) hn
  have hx := Nat.mod_lt (a * (b * k % n)) hn
  unfold up
  rw [e]
  by_cases hu : n / 2 < b * k % n
  · have hf' : hf b n k = n - b * k % n := by unfold hf; rw [if_pos hu]
    rw [hf'] at ra hs ⊢
    have hz : (a * (n - b * k % n) + a * (b * k % n)) % n = 0 := by
      rw [← Nat.mul_add, Nat.sub_add_cancel (Nat.le_of_lt hr)]
      exact Nat.mul_mod_left a n
    rw [Nat.add_mod] at hz
    have hz2 : a * (n - b * k % n) % n + a * (b * k % n) % n = n := by
      have d := Nat.dvd_of_mod_eq_zero hz
      obtain ⟨c, hc⟩ := d
      have : c = 1 := by
        rcases Nat.lt_or_ge c 1 with g | g
        · have : c = 0 := by omega
          rw [this] at hc; omega
        · rcases Nat.lt_or_ge 1 c with g2 | g2
          · have := Nat.mul_le_mul_left n g2
            omega
          · omega
      rw [this, Nat.mul_one] at hc
      exact hc
    rw [if_pos hu]
    split <;> split <;> omega
  · have hf' : hf b n k = b * k % n := by unfold hf; rw [if_neg hu]
    rw [hf', if_neg hu, Nat.zero_add]
theorem cnt_mul {a b n : Nat} (ho : n % 2 = 1) (ha : Nat.gcd a n = 1) (hb : Nat.gcd b n = 1) : cnt (a * b) n % 2 = (cnt a n + cnt b n) % 2 := by
  unfold cnt
  rw [sm_mod (g := fun k => up b n k + up a n (hf b n k)) fun k h1 h2 => up_mul ho ha hb h1 h2, sm_add, sm_hf ho hb (up a n)]
  omega
/-- how often n goes into a, 2 a, .., all together -/
def fl (a n : Nat) : Nat := sm (fun k => a * k / n) (n / 2)
theorem cnt_fl {a n : Nat} (ho : n % 2 = 1) (ha2 : a % 2 = 1) (ha : Nat.gcd a n = 1) : cnt a n % 2 = fl a n % 2 := by
  have hn : 0 < n := by omega
  have e1 : sm (fun k => a * k) (n / 2) = sm (fun k => n * (a * k / n) + a * k % n) (n / 2) := sm_congr fun k _ _ => (Nat.div_add_mod (a * k) n).symm
  rw [sm_add, sm_mul n (fun k => a * k / n), sm_mul a (fun k => k)] at e1
  have e2 : sm (fun k => a * k % n) (n / 2) % 2 = sm (fun k => hf a n k + up a n k) (n / 2) % 2 := sm_mod fun k h1 h2 => by
    have := Nat.mod_lt (a * k) hn
    unfold hf up
    split <;> omega
  rw [sm_add, sm_hf ho ha (fun k => k)] at e2
  have e3 : (a * sm (fun k => k) (n / 2)) % 2 = sm (fun k => k) (n / 2) % 2 := by rw [Nat.mul_mod, ha2, Nat.one_mul, Nat.mod_mod]
  have e4 : (n * sm (fun k => a * k / n) (n / 2)) % 2 = fl a n % 2 := by rw [Nat.mul_mod, ho, Nat.one_mul, Nat.mod_mod]; rfl
  show sm (up a n) (n / 2) % 2 = _
  omega
/-- how many multiples of n are up to x -/
theorem count_div {n x : Nat} (hn : 0 < n) : ∀ m, sm (fun j => if j * n ≤ x then 1 else 0) m = min m (x / n)
  | 0 => by simp [sm]
  | m + 1 => by
    unfold sm
    rw [count_div hn m]
    have : (m + 1) * n ≤ x ↔ m + 1 ≤ x / n := (Nat.le_div_iff_mul_le hn).symm
    split <;> omega
theorem fl_as {a n : Nat} (hn : n % 2 = 1) (ha : a % 2 = 1) : fl a n = sm (fun k => sm (fun j => if j * n ≤ a * k then 1 else 0) (a / 2)) (n / 2) := by
  unfold fl
  refine sm_congr fun k h1 h2 => ?_
  rw [count_div (by omega)]
  have : a * k / n ≤ a / 2 := by
    rw [Nat.div_le_iff_le_mul (by omega)]
    have g : a * k ≤ a * (n / 2) := Nat.mul_le_mul_left a h2
    have g2 : 2 * (a * (n / 2)) + a = a * n := by
      have : n = 2 * (n / 2) + 1 := by omega
      conv => rhs; rw [this]
      rw [Nat.mul_add, Nat.mul_one, Nat.mul_left_comm]
    have g3 : 2 * (a / 2 * n) + n = a * n := by
      have : a = 2 * (a / 2) + 1 := by omega
      conv => rhs; rw [this]
      rw [Nat.add_mul, Nat.one_mul, Nat.mul_assoc]
    omega
  omega
theorem fl_both {a n : Nat} (hn : n % 2 = 1) (ha : a % 2 = 1) (hc : Nat.gcd a n = 1) : fl a n + fl n a = n / 2 * (a / 2) := by
  rw [fl_as hn ha, fl_as ha hn, sm_swap (fun k j => if j * a ≤ n * k then 1 else 0), ← sm_add]
  have : sm (fun k => sm (fun j => if j * n ≤ a * k then 1 else 0) (a / 2) + sm (fun j => if k * a ≤ n * j then 1 else 0) (a / 2)) (n / 2) = sm (fun _ => a / 2) (n / 2) := by
    refine sm_congr fun k h1 h2 => ?_
    rw [← sm_add]
    have e : sm (fun j => (if j * n ≤ a * k then 1 else 0) + if k * a ≤ n * j then 1 else 0) (a / 2) = sm (fun _ => 1) (a / 2) := by
      refine sm_congr fun j g1 g2 => ?_
      have c1 : k * a = a * k := Nat.mul_comm _ _
      have c2 : n * j = j * n := Nat.mul_comm _ _
      have ne : j * n ≠ a * k := fun e => by
        have d : n ∣ a * k := ⟨j, by rw [← e, Nat.mul_comm]⟩
        have d2 : n ∣ k := Nat.Coprime.dvd_of_dvd_mul_left (by rw [Nat.Coprime, Nat.gcd_comm]; exact hc) d
        have := Nat.le_of_dvd (by omega) d2
        omega
      rw [c1, c2]
      split <;> split <;> omega
    rw [e, sm_const]; omega
  rw [this, sm_const]
/-- turning about -/
theorem cnt_turn {a n : Nat} (hn : n % 2 = 1) (ha : a % 2 = 1) (hc : Nat.gcd a n = 1) : (cnt a n + cnt n a) % 2 = (n / 2 * (a / 2)) % 2 := by
  have h1 := cnt_fl hn ha hc
  have h2 := cnt_fl ha hn (by rw [Nat.gcd_comm]; exact hc)
  have h3 := fl_both hn ha hc
  omega
/-- two -/
theorem cnt_two {n : Nat} (ho : n % 2 = 1) : cnt 2 n = n / 2 - n / 4 := by
  unfold cnt
  have e : sm (up 2 n) (n / 2) = sm (fun k => if n / 4 < k then 1 else 0) (n / 2) := sm_congr fun k h1 h2 => by
    unfold up
    have : 2 * k % n = 2 * k := Nat.mod_eq_of_lt (by omega)
    rw [this]
    split <;> split <;> omega
  rw [e]
  have g : ∀ m, sm (fun k => if n / 4 < k then 1 else 0) m = m - n / 4 := by
    intro m
    induction m with
    | zero => simp [sm]
    | succ m ih => unfold sm; rw [ih]; split <;> omega
  exact g _
theorem cnt_rest (a n : Nat) : cnt (a % n) n = cnt a n := by
  unfold cnt
  refine sm_congr fun k _ _ => ?_
  unfold up
  rw [Nat.mod_mul_mod]
/-- the symbol -/
def sg (c : Nat) : Int := if c % 2 = 0 then 1 else -1
theorem sg_add {a b c : Nat} (h : a % 2 = (b + c) % 2) : sg a = sg b * sg c := by
  unfold sg
  split <;> split <;> split <;> first | rfl | omega
def jac (a n : Nat) : Int := bif Nat.beq (Nat.gcd a n) 1 then sg (cnt a n) else 0
theorem jac_c {a n : Nat} (h : Nat.gcd a n = 1) : jac a n = sg (cnt a n) := by
  unfold jac
  rw [h]; rfl
theorem jac_n {a n : Nat} (h : Nat.gcd a n ≠ 1) : jac a n = 0 := by
  unfold jac
  have : Nat.beq (Nat.gcd a n) 1 = false := by
    rw [← Bool.not_eq_true, Nat.beq_eq]
    exact h
  rw [this]; rfl
theorem jac_rest (a n : Nat) : jac (a % n) n = jac a n := by
  have e : Nat.gcd (a % n) n = Nat.gcd a n := by rw [← Nat.gcd_rec, Nat.gcd_comm n a]
  by_cases h : Nat.gcd a n = 1
  · rw [jac_c h, jac_c (e.trans h), cnt_rest]
  · rw [jac_n h, jac_n (fun z => h (e.symm.trans z))]
theorem jac_mul {a b n : Nat} (ho : n % 2 = 1) : jac (a * b) n = jac a n * jac b n := by
  by_cases ha : Nat.gcd a n = 1
  · by_cases hb : Nat.gcd b n = 1
    · rw [jac_c ha, jac_c hb, jac_c (Nat.Coprime.mul_left (k := n) ha hb)]
      exact sg_add (cnt_mul ho ha hb)
    · rw [jac_n hb, jac_n, Int.mul_zero]
      exact fun h => hb (Nat.Coprime.coprime_mul_left (k := a) (m := b) (n := n) h)
  · rw [jac_n ha, jac_n, Int.zero_mul]
    exact fun h => ha (Nat.Coprime.coprime_mul_right (m := a) (k := b) (n := n) (by rw [Nat.Coprime, Nat.mul_comm]; first | exact h | (rw [Nat.mul_comm]; exact h)))
theorem jac_two {n : Nat} (ho : n % 2 = 1) : jac 2 n = if n % 8 = 3 ∨ n % 8 = 5 then -1 else 1 := by
  have hc : Nat.gcd 2 n = 1 := by
    rw [Nat.gcd_rec, ho]; rfl
  rw [jac_c hc, cnt_two ho]
  unfold sg
  split <;> split <;> first | rfl | omega
theorem jac_one (n : Nat) : jac 1 n = 1 := by
  rw [jac_c (Nat.gcd_one_left n)]
  have : cnt 1 n = 0 := by
    unfold cnt
    have e : sm (up 1 n) (n / 2) = sm (fun _ => 0) (n / 2) := sm_congr fun k h1 h2 => by
      unfold up
      rw [Nat.one_mul, Nat.mod_eq_of_lt (by omega), if_neg (by omega)]
    rw [e, sm_const]; rfl
  rw [this]; rfl
theorem jac_by_one (a : Nat) : jac a 1 = 1 := by
  rw [jac_c (Nat.gcd_one_right a)]; rfl
theorem jac_zero {n : Nat} (h : n ≠ 1) : jac 0 n = 0 := jac_n (by rw [Nat.gcd_zero_left]; exact h)
theorem jac_turn {a n : Nat} (hn : n % 2 = 1) (ha : a % 2 = 1) : jac a n = (if a % 4 = 3 ∧ n % 4 = 3 then -1 else 1) * jac n a := by
  by_cases hc : Nat.gcd a n = 1
  · rw [jac_c hc, jac_c (a := n) (n := a) (by rw [Nat.gcd_comm]; exact hc)]
    have h := cnt_turn hn ha hc
    have par : (n / 2 * (a / 2)) % 2 = if a % 4 = 3 ∧ n % 4 = 3 then 1 else 0 := by
      rw [Nat.mul_mod]
      by_cases g1 : n % 4 = 3
      · have h1 : n / 2 % 2 = 1 := by omega
        by_cases g2 : a % 4 = 3
        · have h2 : a / 2 % 2 = 1 := by omega
          rw [if_pos ⟨g2, g1⟩, h1, h2]
        · have h2 : a / 2 % 2 = 0 := by omega
          rw [if_neg (fun z => g2 z.1), h1, h2]
      · have h1 : n / 2 % 2 = 0 := by omega
        rw [if_neg (fun z => g1 z.2), h1, Nat.zero_mul]
    rw [par] at h
    by_cases g : a % 4 = 3 ∧ n % 4 = 3
    · rw [if_pos g] at h ⊢
      unfold sg
      split <;> split <;> first | rfl | omega
    · rw [if_neg g] at h ⊢
      unfold sg
      split <;> split <;> first | rfl | omega
  · rw [jac_n hc, jac_n (a := n) (n := a) (fun h => hc (by rw [Nat.gcd_comm]; exact h)), Int.mul_zero]
/-- bottoms multiplied -/
theorem jac_bottoms {a m n : Nat} (hm : m % 2 = 1) (hn : n % 2 = 1) : jac a (m * n) = jac a m * jac a n := by
  have hmn : m * n % 2 = 1 := by rw [Nat.mul_mod, hm, hn]
  have odd : ∀ {b : Nat}, b % 2 = 1 → jac b (m * n) = jac b m * jac b n := fun {b} hb => by
    rw [jac_turn hmn hb, jac_mul hb, jac_turn hm hb, jac_turn hn hb]
    have h4 : m * n % 4 = (m % 4) * (n % 4) % 4 := Nat.mul_mod _ _ _
    have m4 : m % 4 = 1 ∨ m % 4 = 3 := by omega
    have n4 : n % 4 = 1 ∨ n % 4 = 3 := by omega
    by_cases hb4 : b % 4 = 3
    · rcases m4 with m4 | m4 <;> rcases n4 with n4 | n4 <;> rw [m4, n4] at h4
      · rw [if_neg (by omega), if_neg (by omega), if_neg (by omega), Int.one_mul, Int.one_mul, Int.one_mul]
      · rw [if_pos (by omega), if_neg (by omega), if_pos (by omega), Int.one_mul, Int.neg_mul, Int.one_mul, Int.neg_mul, Int.one_mul, Int.mul_neg]
      · rw [if_pos (by omega), if_pos (by omega), if_neg (by omega), Int.one_mul, Int.neg_mul, Int.one_mul, Int.neg_mul, Int.one_mul, Int.neg_mul]
      · rw [if_neg (by omega), if_pos (by omega), if_pos (by omega)]; simp only [Int.neg_mul, Int.one_mul, Int.mul_neg, Int.neg_neg]
    · rw [if_neg (by omega), if_neg (by omega), if_neg (by omega), Int.one_mul, Int.one_mul, Int.one_mul]
  rcases Nat.mod_two_eq_zero_or_one a with ha | ha
  · have h := odd (b := a + m * n) (by omega)
    have r1 : jac (a + m * n) (m * n) = jac a (m * n) := by rw [← jac_rest (a + m * n), Nat.add_mod_right, jac_rest]
    have r2 : jac (a + m * n) m = jac a m := by rw [← jac_rest (a + m * n), Nat.add_mul_mod_self_left, jac_rest]
    have r3 : jac (a + m * n) n = jac a n := by rw [← jac_rest (a + m * n), Nat.add_mul_mod_self_right, jac_rest]
    rw [r1, r2, r3] at h
    exact h
  · exact odd ha
end Sym

/-! k01: primes; the symbol by a prime is the half power (Gauss); factors. -/
namespace Sym
def PrimeN (p : Nat) : Prop := 2 ≤ p ∧ ∀ d, 2 ≤ d → d * d ≤ p → p % d ≠ 0
theorem prime_div {p d : Nat} (h : PrimeN p) (hd : d ∣ p) : d = 1 ∨ d = p := by
  obtain ⟨q, rfl⟩ := hd
  have hp := h.1
  rcases Nat.lt_or_ge d 2 with g | g
  · have : d ≠ 0 := fun z => by rw [z, Nat.zero_mul] at hp; omega
    exact .inl (by omega)
  · rcases Nat.lt_or_ge q 2 with k | k
    · have : q ≠ 0 := fun z => by rw [z, Nat.mul_zero] at hp; omega
      have : q = 1 := by omega
      exact .inr (by rw [this, Nat.mul_one])
    · exfalso
      rcases Nat.le_total d q with c | c
      · exact h.2 d g (Nat.mul_le_mul_left d c) (Nat.mul_mod_right d q)
      · exact h.2 q k (Nat.mul_le_mul_right q c) (Nat.mul_mod_left d q)
theorem prime_cop {p k : Nat} (h : PrimeN p) (h1 : 1 ≤ k) (h2 : k < p) : Nat.gcd k p = 1 := by
  rcases prime_div h (Nat.gcd_dvd_right k p) with g | g
  · exact g
  · have := Nat.le_of_dvd (by omega) (Nat.gcd_dvd_left k p)
    omega
/-- f 1 · .. · f m -/
def pm (f : Nat → Int) : Nat → Int
  | 0 => 1
  | m + 1 => pm f m * f (m + 1)
theorem pm_mul (f g : Nat → Int) : ∀ m, pm (fun k => f k * g k) m = pm f m * pm g m
  | 0 => rfl
  | m + 1 => by
    unfold pm
    rw [pm_mul f g m]
    simp only [Int.mul_assoc, Int.mul_left_comm (g _)]
    rw [Int.mul_left_comm (pm g m)]
theorem pm_const (c : Int) : ∀ m, pm (fun _ => c) m = c ^ m
  | 0 => (Int.pow_zero c).symm
  | m + 1 => by unfold pm; rw [pm_const c m, Int.pow_succ]
theorem pm_congr {f g : Nat → Int} : ∀ {m : Nat}, (∀ k, 1 ≤ k → k ≤ m → f k = g k) → pm f m = pm g m
  | 0, _ => rfl
  | m + 1, h => by unfold pm; rw [pm_congr (m := m) fun k h1 h2 => h k h1 (by omega), h (m + 1) (by omega) (Nat.le_refl _)]
/-- alike by n -/
theorem pm_mod {f g : Nat → Int} {n : Int} : ∀ {m : Nat}, (∀ k, 1 ≤ k → k ≤ m → n ∣ f k - g k) → n ∣ pm f m - pm g m
  | 0, _ => ⟨0, by simp [pm]⟩
  | m + 1, h => by
    unfold pm
    obtain ⟨a, ha⟩ := pm_mod (m := m) fun k h1 h2 => h k h1 (by omega)
    obtain ⟨b, hb⟩ := h (m + 1) (by omega) (Nat.le_refl _)
    refine ⟨a * f (m + 1) + pm g m * b, ?_⟩
    have e1 : pm f m = pm g m + n * a := by omega
    have e2 : f (m + 1) = g (m + 1) + n * b := by omega
    rw [e1, e2]
    grind
def prodL : List Int → Int
  | [] => 1
  | x :: l => x * prodL l
theorem prodL_append (l m : List Int) : prodL (l ++ m) = prodL l * prodL m := by
  induction l with
  | nil => simp [prodL]
  | cons x l ih => simp [prodL, ih, Int.mul_assoc]
theorem prodL_perm {l m : List Int} (h : l.Perm m) : prodL l = prodL m := by
  induction h with
  | nil => rfl
  | cons x _ ih => simp [prodL, ih]
  | swap x y l => simp only [prodL]; rw [Int.mul_left_comm]
  | trans _ _ h1 h2 => rw [h1, h2]
theorem pm_list (f : Nat → Int) : ∀ m, pm f m = prodL ((ones m).map f)
  | 0 => rfl
  | m + 1 => by
    unfold pm
    rw [pm_list f m]
    unfold ones
    rw [List.range_succ, List.map_append, List.map_append, prodL_append]
    simp [prodL]
theorem pm_hf {a n : Nat} (ho : n % 2 = 1) (hc : Nat.gcd a n = 1) (f : Nat → Int) : pm (fun k => f (hf a n k)) (n / 2) = pm f (n / 2) := by
  rw [pm_list, pm_list]
  have := (hf_perm ho hc).map f
  rw [List.map_map] at this
  exact prodL_perm this
theorem pm_sg (u : Nat → Nat) (h : ∀ k, u k ≤ 1) : ∀ m, pm (fun k => if u k = 1 then -1 else 1) m = sg (sm u m)
  | 0 => rfl
  | m + 1 => by
    unfold pm sm
    rw [pm_sg u h m]
    have := h (m + 1)
    unfold sg
    split <;> split <;> split <;> first | rfl | omega
/-- a number without a part in common goes out -/
theorem cop_pm {p : Nat} (h : PrimeN p) : ∀ {m : Nat} {x : Int}, m < p → (p : Int) ∣ pm (fun k => (k : Int)) m * x → (p : Int) ∣ x
  | 0, x, _, hd => by simpa [pm] using hd
  | m + 1, x, hm, hd => by
    unfold pm at hd
    rw [Int.mul_assoc] at hd
    have h1 := cop_pm h (m := m) (by omega) hd
    have h2 : p ∣ (m + 1) * x.natAbs := by
      have := Int.natAbs_dvd_natAbs.mpr h1
      rw [Int.natAbs_mul] at this
      exact this
    have h3 : p ∣ x.natAbs := Nat.Coprime.dvd_of_dvd_mul_left (by rw [Nat.Coprime, Nat.gcd_comm]; exact prime_cop h (by omega) hm) h2
    exact Int.natAbs_dvd_natAbs.mp (by rw [Int.natAbs_natCast]; exact h3)
/-- Gauss: the half power is the symbol -/
theorem gauss {p r : Nat} (h : PrimeN p) (ho : p % 2 = 1) (hc : Nat.gcd r p = 1) : (p : Int) ∣ (r : Int) ^ (p / 2) - sg (cnt r p) := by
  have hp := h.1
  refine cop_pm h (m := p / 2) (by omega) ?_
  have e1 : (p : Int) ∣ pm (fun k => (r : Int) * (k : Int)) (p / 2) - pm (fun k => (if up r p k = 1 then -1 else 1) * ((hf r p k : Nat) : Int)) (p / 2) := by
    refine pm_mod fun k h1 h2 => ?_
    have hm := Nat.mod_lt (r * k) (show 0 < p by omega)
    have hd := Nat.div_add_mod (r * k) p
    have hd2 : (p : Int) * ((r * k / p : Nat) : Int) + ((r * k % p : Nat) : Int) = (r : Int) * (k : Int) := by
      rw [← Int.natCast_mul, ← Int.natCast_mul, ← Int.natCast_add, hd]
    unfold up hf
    by_cases g : p / 2 < r * k % p
    · rw [if_pos g, if_pos rfl, if_pos g]
      refine ⟨((r * k / p : Nat) : Int) + 1, ?_⟩
      rw [Int.ofNat_sub (Nat.le_of_lt hm), Int.mul_add, Int.mul_one]
      omega
    · rw [if_neg g, if_neg (by decide), if_neg g]
      refine ⟨((r * k / p : Nat) : Int), ?_⟩
      omega
  rw [pm_mul, pm_mul, pm_const, pm_hf ho hc (fun k => (k : Int)), pm_sg (up r p) (fun k => by unfold up; split <;> omega)] at e1
  have e : pm (fun k => (k : Int)) (p / 2) * ((r : Int) ^ (p / 2) - sg (cnt r p)) = (r : Int) ^ (p / 2) * pm (fun k => (k : Int)) (p / 2) - sg (sm (up r p) (p / 2)) * pm (fun k => (k : Int)) (p / 2) := by
    show _ * (_ - sg (sm (up r p) (p / 2))) = _
    rw [Int.mul_sub, Int.mul_comm, Int.mul_comm (pm _ _) (sg _)]
  rw [e]
  exact e1
/-- by the half power -/
def legP (r p : Nat) : Int := if r = 0 then 0 else if r ^ (p / 2) % p = 1 then 1 else -1
theorem jac_legP {p r : Nat} (h : PrimeN p) (ho : p % 2 = 1) (hr : r < p) : jac r p = legP r p := by
  have hp := h.1
  unfold legP
  by_cases h0 : r = 0
  · subst h0
    rw [if_pos rfl, jac_zero (by omega)]
  · have hc := prime_cop h (by omega) hr
    rw [if_neg h0, jac_c hc]
    obtain ⟨q, hq⟩ := gauss h ho hc
    have hq : ((r ^ (p / 2) : Nat) : Int) - sg (cnt r p) = (p : Int) * q := by rw [Int.natCast_pow]; exact hq
    have hd := Nat.div_add_mod (r ^ (p / 2)) p
    have hm := Nat.mod_lt (r ^ (p / 2)) (show 0 < p by omega)
    have hd2 : (p : Int) * ((r ^ (p / 2) / p : Nat) : Int) + ((r ^ (p / 2) % p : Nat) : Int) = ((r ^ (p / 2) : Nat) : Int) := by
      rw [← Int.natCast_mul, ← Int.natCast_add, hd]
    generalize r ^ (p / 2) % p = m at *
    generalize ((r ^ (p / 2) / p : Nat) : Int) = D at *
    generalize ((r ^ (p / 2) : Nat) : Int) = R at *
    have key : (p : Int) * (q - D) = (m : Int) - sg (cnt r p) := by rw [Int.mul_sub]; omega
    have small : ∀ z : Int, (p : Int) * z = (m : Int) - sg (cnt r p) → z = 0 ∨ z = 1 := fun z hz => by
      have s1 : sg (cnt r p) = 1 ∨ sg (cnt r p) = -1 := by unfold sg; split; exact .inl rfl; exact .inr rfl
      rcases Int.lt_or_le z 0 with g | g
      · have := Int.mul_le_mul_of_nonneg_left (show z ≤ -1 by omega) (show 0 ≤ (p : Int) by omega)
        omega
      · rcases Int.lt_or_le 1 z with g2 | g2
        · have := Int.mul_le_mul_of_nonneg_left (show 2 ≤ z by omega) (show 0 ≤ (p : Int) by omega)
          omega
        · omega
    have s1 : sg (cnt r p) = 1 ∨ sg (cnt r p) = -1 := by unfold sg; split; exact .inl rfl; exact .inr rfl
    rcases small _ key with z | z <;> rw [z] at key <;> rcases s1 with s1 | s1 <;> rw [s1] at key ⊢
    · rw [if_pos (by omega)]
    · omega
    · omega
    · rw [if_neg (by omega)]
end Sym

/-! Roots by a prime: half powers, Fermat, a rest without a root, Tonelli's steps. -/
namespace NT
theorem to_sym {p : Nat} (h : PrimeN p) : Sym.PrimeN p := h
theorem odd_of {p : Nat} (h : PrimeN p) (h3 : 3 ≤ p) : p % 2 = 1 := by
  rcases Nat.mod_two_eq_zero_or_one p with e | e
  · have := h.2 2 (by decide) (by
      rcases Nat.lt_or_ge p 4 with g | g
      · have : p = 3 := by omega
        subst this
        cases e
      · exact g)
    exact absurd e this
  · exact e
/-- the half power is 1 or -1 -/
theorem half_pow {p r : Nat} (h : PrimeN p) (h3 : 3 ≤ p) (hr : ¬ p ∣ r) : r ^ (p / 2) % p = 1 ∨ r ^ (p / 2) % p = p - 1 := by
  have ho := odd_of h h3
  have hc : Nat.gcd r p = 1 := by
    rcases prime_div h (Nat.gcd_dvd_right r p) with e | e
    · exact e
    · exact absurd (e ▸ Nat.gcd_dvd_left r p) hr
  have g := Sym.gauss (to_sym h) ho hc
  have hm := Nat.mod_lt (r ^ (p / 2)) (show 0 < p by omega)
  have hd := Nat.div_add_mod (r ^ (p / 2)) p
  obtain ⟨k, hk⟩ := g
  have e : (r : Int) ^ (p / 2) = ((r ^ (p / 2) : Nat) : Int) := (Int.natCast_pow _ _).symm
  rw [e] at hk
  have e2 : ((r ^ (p / 2) : Nat) : Int) = (p : Int) * ((r ^ (p / 2) / p : Nat) : Int) + ((r ^ (p / 2) % p : Nat) : Int) := by
    rw [← Int.natCast_mul, ← Int.natCast_add, hd]
  rw [e2] at hk
  generalize ((r ^ (p / 2) / p : Nat) : Int) = u at *
  generalize r ^ (p / 2) % p = v at *
  have e3 : (p : Int) * (k - u) = (p : Int) * k - (p : Int) * u := Int.mul_sub ..
  unfold Sym.sg at hk
  split at hk
  · left
    have e4 : (p : Int) * (k - u) = (v : Int) - 1 := by omega
    have b1 : k - u = 0 := by
      rcases Int.lt_or_le (k - u) 1 with z | z
      · rcases Int.lt_or_le (k - u) 0 with y | y
        · have := Int.mul_le_mul_of_nonneg_left (show k - u ≤ -1 by omega) (show 0 ≤ (p : Int) by omega)
          omega
        · omega
      · have := Int.mul_le_mul_of_nonneg_left z (show 0 ≤ (p : Int) by omega)
        omega
    rw [b1] at e4
    omega
  · right
    have e4 : (p : Int) * (k - u) = (v : Int) + 1 := by omega
    have b1 : k - u = 1 := by
      rcases Int.lt_or_le (k - u) 2 with z | z
      · rcases Int.lt_or_le (k - u) 1 with y | y
        · have := Int.mul_le_mul_of_nonneg_left (show k - u ≤ 0 by omega) (show 0 ≤ (p : Int) by omega)
          omega
        · omega
      · have := Int.mul_le_mul_of_nonneg_left z (show 0 ≤ (p : Int) by omega)
        omega
    rw [b1] at e4
    omega
theorem prime_not_one {p : Nat} (h : PrimeN p) : ¬ p ∣ 1 := fun z => by
  have := Nat.le_of_dvd (by decide) z
  have := h.1
  omega
/-- a square's half power -/
theorem half_sq {p x : Nat} (h : PrimeN p) (h3 : 3 ≤ p) (hx : ¬ p ∣ x) : (x * x) ^ (p / 2) % p = 1 := by
  have e : (x * x) ^ (p / 2) = x ^ (p / 2) * x ^ (p / 2) := Nat.mul_pow ..
  rw [e, Nat.mul_mod]
  rcases half_pow h h3 hx with z | z
  · rw [z]; exact Nat.mod_eq_of_lt (by omega)
  · rw [z]
    have e2 : (p - 1) * (p - 1) = p * (p - 2) + 1 := by
      obtain ⟨q, rfl⟩ : ∃ q, p = q + 2 := ⟨p - 2, by omega⟩
      show (q + 1) * (q + 1) = (q + 2) * q + 1
      grind
    rw [e2, Nat.mul_add_mod]
    exact Nat.mod_eq_of_lt (by omega)
theorem sq_one {p x : Nat} (h : PrimeN p) (hx : x < p) (e : x * x % p = 1) : x = 1 ∨ x = p - 1 := by
  have hp := h.1
  have x1 : 1 ≤ x := by
    rcases Nat.eq_zero_or_pos x with z | z
    · subst z
      simp at e
    · exact z
  have hd : p ∣ (x - 1) * (x + 1) := by
    have e2 : (x - 1) * (x + 1) = x * x - 1 := by
      obtain ⟨y, rfl⟩ : ∃ y, x = y + 1 := ⟨x - 1, by omega⟩
      have : (y + 1) * (y + 1) = y * (y + 1 + 1) + 1 := by grind
      rw [this]
      simp
    rw [e2]
    have := Nat.div_add_mod (x * x) p
    exact ⟨x * x / p, by omega⟩
  rcases prime_euclid h hd with z | z
  · left
    rcases Nat.eq_zero_or_pos (x - 1) with y | y
    · omega
    · have := Nat.le_of_dvd y z
      omega
  · right
    have := Nat.le_of_dvd (by omega) z
    omega
/-! ### a rest without a root -/
def pev (c : List Int) (x : Int) : Int := match c with
  | [] => 0
  | a :: l => a + x * pev l x
def quo : List Int → Int → List Int
  | [], _ => []
  | [_], _ => []
  | _ :: b :: l, r => pev (b :: l) r :: quo (b :: l) r
theorem quo_pev : ∀ (c : List Int) (r x : Int), pev c x - pev c r = (x - r) * pev (quo c r) x
  | [], r, x => by simp [pev, quo]
  | [a], r, x => by simp [pev, quo]
  | a :: b :: l, r, x => by
    have ih := quo_pev (b :: l) r x
    have e1 : pev (a :: b :: l) x = a + x * pev (b :: l) x := rfl
    have e2 : pev (a :: b :: l) r = a + r * pev (b :: l) r := rfl
    have e3 : pev (quo (a :: b :: l) r) x = pev (b :: l) r + x * pev (quo (b :: l) r) x := rfl
    rw [e1, e2, e3]
    generalize pev (b :: l) x = u at *
    generalize pev (b :: l) r = v at *
    generalize pev (quo (b :: l) r) x = w at *
    have : u = v + (x - r) * w := by omega
    subst this
    grind
theorem quo_len : ∀ (c : List Int) (r : Int), (quo c r).length = c.length - 1
  | [], _ => rfl
  | [_], _ => rfl
  | a :: b :: l, r => by
    have := quo_len (b :: l) r
    show (quo (b :: l) r).length + 1 = _
    rw [this]
    simp
theorem quo_last : ∀ (c : List Int) (r : Int), 2 ≤ c.length → (quo c r).getLast? = c.getLast?
  | [], _, h => by simp at h
  | [_], _, h => by simp at h
  | [a, b], r, _ => by simp [quo, pev]
  | a :: b :: d :: l, r, _ => by
    have := quo_last (b :: d :: l) r (by simp)
    show (pev (b :: d :: l) r :: quo (b :: d :: l) r).getLast? = _
    have e : quo (b :: d :: l) r = pev (d :: l) r :: quo (d :: l) r := rfl
    rw [e] at this ⊢
    rw [List.getLast?_cons_cons, this]
    rfl
/-- a polynomial has no more roots than its degree, by a prime -/
theorem roots_le {p : Nat} (h : PrimeN p) : ∀ (n : Nat) (c : List Int) (rs : List Int), c.length = n + 1 → (∀ a, c.getLast? = some a → ¬ (p : Int) ∣ a) → (∀ r ∈ rs, (p : Int) ∣ pev c r) → rs.Pairwise (fun x y => ¬ (p : Int) ∣ y - x) → rs.length ≤ n
  | 0, c, rs, hc, hl, hr, _ => by
    match c, hc with
    | [a], _ =>
      match rs with
      | [] => exact Nat.le_refl _
      | r :: _ =>
        have := hr r List.mem_cons_self
        have e : pev [a] r = a := by simp [pev]
        rw [e] at this
        exact absurd this (hl a rfl)
  | n + 1, c, rs, hc, hl, hr, hn => by
    match rs with
    | [] => exact Nat.zero_le _
    | r :: rs =>
      have hq := quo_len c r
      have := roots_le h n (quo c r) rs (by rw [hq, hc]; omega) (fun a e => hl a (by rw [← quo_last c r (by omega)]; exact e)) (fun x hx => by
        have h1 := hr x (List.mem_cons_of_mem _ hx)
        have h2 := hr r List.mem_cons_self
        have h3 : (p : Int) ∣ (x - r) * pev (quo c r) x := by rw [← quo_pev]; exact Int.dvd_sub h1 h2
        have h4 := (List.pairwise_cons.mp hn).1 x hx
        have h5 : p ∣ (x - r).natAbs * (pev (quo c r) x).natAbs := by rw [← Int.natAbs_mul]; exact Int.ofNat_dvd_left.mp h3
        rcases prime_euclid h h5 with z | z
        · exact absurd (Int.ofNat_dvd_left.mpr z) h4
        · exact Int.ofNat_dvd_left.mpr z) (List.pairwise_cons.mp hn).2
      rw [List.length_cons]
      omega
theorem pev_pow : ∀ (n : Nat) (x : Int), pev (List.replicate n 0 ++ [1]) x = x ^ n
  | 0, x => by simp [pev]
  | n + 1, x => by
    have := pev_pow n x
    show 0 + x * pev (List.replicate n 0 ++ [1]) x = _
    rw [this, Int.pow_succ, Int.zero_add, Int.mul_comm]
theorem non_root {p : Nat} (h : PrimeN p) (h3 : 3 ≤ p) : ∃ a, 2 ≤ a ∧ a < p ∧ a ^ (p / 2) % p = p - 1 := by
  have ho := odd_of h h3
  apply Classical.byContradiction
  intro hno
  have all : ∀ a, 1 ≤ a → a < p → a ^ (p / 2) % p = 1 := fun a h1 h2 => by
    rcases Nat.lt_or_ge a 2 with g | g
    · have : a = 1 := by omega
      subst this
      rw [Nat.one_pow]
      exact Nat.mod_eq_of_lt (by omega)
    · rcases half_pow (r := a) h h3 (fun z => by have := Nat.le_of_dvd (by omega) z; omega) with z | z
      · exact z
      · exact absurd ⟨a, g, h2, z⟩ hno
  obtain ⟨m, hm⟩ : ∃ m, p / 2 = m + 1 := ⟨p / 2 - 1, by omega⟩
  have := roots_le h (m + 1) (-1 :: (List.replicate m 0 ++ [1])) ((List.range (p - 1)).map fun i => ((i + 1 : Nat) : Int)) (by simp) (fun a e => by
    rw [List.getLast?_cons, List.getLast?_append] at e
    simp at e
    subst e
    exact fun z => prime_not_one h (Int.natCast_dvd_natCast.mp z)) (fun r hr => by
    obtain ⟨i, hi, rfl⟩ := List.mem_map.mp hr
    have hi := List.mem_range.mp hi
    have e : pev (-1 :: (List.replicate m 0 ++ [1])) ((i + 1 : Nat) : Int) = ((i + 1 : Nat) : Int) ^ (m + 1) - 1 := by
      show -1 + _ * pev (List.replicate m 0 ++ [1]) _ = _
      rw [pev_pow, Int.pow_succ, Int.mul_comm]
      omega
    rw [e, ← hm, ← Int.natCast_pow]
    have a1 := all (i + 1) (by omega) (by omega)
    have hd := Nat.div_add_mod ((i + 1) ^ (p / 2)) p
    refine ⟨(((i + 1) ^ (p / 2) / p : Nat) : Int), ?_⟩
    rw [← Int.natCast_mul]
    omega) (by
    rw [List.pairwise_map]
    refine List.Pairwise.imp_of_mem (fun {a b} ha hb hab => ?_) (List.pairwise_lt_range (n := p - 1))
    have ha := List.mem_range.mp ha
    have hb := List.mem_range.mp hb
    intro z
    have := Int.le_of_dvd (by omega) z
    omega)
  rw [List.length_map, List.length_range] at this
  omega
end NT

/-! Roots by a prime, by its powers; rests put together. -/
namespace NT
theorem mod_pow (a k m : Nat) : (a % m) ^ k % m = a ^ k % m := (Nat.pow_mod a k m).symm
theorem mul_mod_l (a b m : Nat) : (a % m) * b % m = a * b % m := by rw [Nat.mul_mod, Nat.mod_mod, ← Nat.mul_mod]
theorem mul_mod_r (a b m : Nat) : a * (b % m) % m = a * b % m := by rw [Nat.mul_mod, Nat.mod_mod, ← Nat.mul_mod]
/-- Tonelli's state -/
structure Ton (p n here step rest tw : Nat) : Prop where
  h : here * here % p = n * rest % p
  r : rest ^ 2 ^ (tw - 1) % p = 1
  s : step ^ 2 ^ (tw - 1) % p = p - 1
  t : 1 ≤ tw
  lh : here < p
  ls : step < p
  lr : rest < p
theorem half_split {p o t : Nat} (ho : o % 2 = 1) (he : p - 1 = o * 2 ^ t) (hp : p % 2 = 1) (h3 : 3 ≤ p) : 1 ≤ t ∧ p / 2 = o * 2 ^ (t - 1) := by
  have ht : 1 ≤ t := by
    rcases Nat.eq_zero_or_pos t with z | z
    · subst z
      omega
    · exact z
  refine ⟨ht, ?_⟩
  obtain ⟨u, rfl⟩ : ∃ u, t = u + 1 := ⟨t - 1, by omega⟩
  rw [Nat.pow_succ, ← Nat.mul_assoc] at he
  show _ = o * 2 ^ u
  omega
theorem ton0 {p n z o t : Nat} (h : PrimeN p) (h3 : 3 ≤ p) (ho : o % 2 = 1) (he : p - 1 = o * 2 ^ t) (hn : n ^ (p / 2) % p = 1) (hz : z ^ (p / 2) % p = p - 1) : Ton p n (n ^ ((o + 1) / 2) % p) (z ^ o % p) (n ^ o % p) t := by
  obtain ⟨ht, e⟩ := half_split ho he (odd_of h h3) h3
  have hp : 0 < p := by omega
  refine ⟨?_, ?_, ?_, ht, Nat.mod_lt _ hp, Nat.mod_lt _ hp, Nat.mod_lt _ hp⟩
  · rw [← Nat.mul_mod, mul_mod_r, ← Nat.pow_add, Nat.mul_comm n, ← Nat.pow_succ]
    congr 2
    omega
  · rw [mod_pow, ← Nat.pow_mul, ← e]; exact hn
  · rw [mod_pow, ← Nat.pow_mul, ← e]; exact hz
theorem neg_sq {p : Nat} (h3 : 3 ≤ p) : (p - 1) * (p - 1) % p = 1 := by
  have e2 : (p - 1) * (p - 1) = p * (p - 2) + 1 := by
    obtain ⟨q, rfl⟩ : ∃ q, p = q + 2 := ⟨p - 2, by omega⟩
    show (q + 1) * (q + 1) = (q + 2) * q + 1
    grind
  rw [e2, Nat.mul_add_mod]
  exact Nat.mod_eq_of_lt (by omega)
theorem ton_many {p n here step rest tw many : Nat} (k : Ton p n here step rest tw) (hm : ∀ j, j < many → rest ^ 2 ^ j % p ≠ 1) : many ≤ tw - 1 := by
  rcases Nat.lt_or_ge (tw - 1) many with g | g
  · exact absurd k.r (hm _ g)
  · exact g
theorem ton_step {p n here step rest tw many : Nat} (h : PrimeN p) (h3 : 3 ≤ p) (k : Ton p n here step rest tw) (h1 : 1 ≤ many) (h2 : many ≤ tw - 1) (hm : rest ^ 2 ^ many % p = 1) (hn : rest ^ 2 ^ (many - 1) % p ≠ 1) :
    Ton p n (here * (step ^ 2 ^ (tw - many - 1) % p) % p) ((step ^ 2 ^ (tw - many - 1) % p) * (step ^ 2 ^ (tw - many - 1) % p) % p) (rest * (step ^ 2 ^ (tw - many - 1) % p) * (step ^ 2 ^ (tw - many - 1) % p) % p) many := by
  have hp : 0 < p := by omega
  obtain ⟨u, rfl⟩ : ∃ u, many = u + 1 := ⟨many - 1, by omega⟩
  have hn' : rest ^ 2 ^ u % p ≠ 1 := hn
  have e1 : rest ^ 2 ^ u % p = p - 1 := by
    rcases sq_one h (Nat.mod_lt (rest ^ 2 ^ u) hp) (by rw [← Nat.mul_mod, ← Nat.pow_add, ← Nat.mul_two, ← Nat.pow_succ]; exact hm) with z | z
    · exact absurd z hn'
    · exact z
  have e2 : (step ^ 2 ^ (tw - (u + 1) - 1)) ^ 2 ^ (u + 1) % p = p - 1 := by
    rw [← Nat.pow_mul, ← Nat.pow_add, show tw - (u + 1) - 1 + (u + 1) = tw - 1 by omega]
    exact k.s
  generalize hg : step ^ 2 ^ (tw - (u + 1) - 1) = m at *
  have e3 : (m * m) ^ 2 ^ u % p = p - 1 := by
    rw [Nat.mul_pow, ← Nat.pow_add, ← Nat.mul_two, ← Nat.pow_succ]
    exact e2
  refine ⟨?_, ?_, ?_, by omega, Nat.mod_lt _ hp, Nat.mod_lt _ hp, Nat.mod_lt _ hp⟩
  · rw [← Nat.mul_mod, mul_mod_r n]
    have f1 : here * (m % p) * (here * (m % p)) = here * here * ((m % p) * (m % p)) := by grind
    have f2 : n * (rest * (m % p) * (m % p)) = n * rest * ((m % p) * (m % p)) := by grind
    rw [f1, f2, Nat.mul_mod, k.h, ← Nat.mul_mod]
  · show _ ^ 2 ^ u % p = 1
    rw [mod_pow, show rest * (m % p) * (m % p) = rest * ((m % p) * (m % p)) from Nat.mul_assoc .., Nat.mul_pow, Nat.mul_mod, e1]
    have f : ((m % p) * (m % p)) ^ 2 ^ u % p = p - 1 := by rw [← mod_pow, ← Nat.mul_mod, mod_pow]; exact e3
    rw [f]
    exact neg_sq h3
  · show _ ^ 2 ^ u % p = p - 1
    rw [mod_pow, ← mod_pow, ← Nat.mul_mod, mod_pow]
    exact e3
theorem ton_end {p n here step tw : Nat} (k : Ton p n here step 1 tw) : here * here % p = n % p := by
  have := k.h
  rw [Nat.mul_one] at this
  exact this
/-! ### by powers -/
def IsR (n : Int) (m x : Nat) : Prop := (m : Int) ∣ (x : Int) * x - n
/-- all roots, ascending -/
structure AllR (n : Int) (m : Nat) (L : List Nat) : Prop where
  asc : L.Pairwise (· < ·)
  mem : ∀ x, x ∈ L ↔ x < m ∧ IsR n m x
theorem nasc_uniq : ∀ {L M : List Nat}, L.Pairwise (· < ·) → M.Pairwise (· < ·) → (∀ x, x ∈ L ↔ x ∈ M) → L = M
  | [], [], _, _, _ => rfl
  | [], y :: M, _, _, h => absurd ((h y).mpr List.mem_cons_self) (fun z => nomatch z)
  | x :: L, [], _, _, h => absurd ((h x).mp List.mem_cons_self) (fun z => nomatch z)
  | x :: L, y :: M, hL, hM, h => by
    have h1 := List.pairwise_cons.mp hL
    have h2 := List.pairwise_cons.mp hM
    have e : x = y := by
      rcases List.mem_cons.mp ((h x).mp List.mem_cons_self) with z | z
      · exact z
      · rcases List.mem_cons.mp ((h y).mpr List.mem_cons_self) with w | w
        · exact w.symm
        · have := h2.1 x z
          have := h1.1 y w
          omega
    subst e
    rw [nasc_uniq h1.2 h2.2 fun z => ⟨fun hz => ?_, fun hz => ?_⟩]
    · rcases List.mem_cons.mp ((h z).mp (List.mem_cons_of_mem _ hz)) with w | w
      · have := h1.1 z hz; omega
      · exact w
    · rcases List.mem_cons.mp ((h z).mpr (List.mem_cons_of_mem _ hz)) with w | w
      · have := h2.1 z hz; omega
      · exact w
theorem AllR.uniq {n : Int} {m : Nat} {L M : List Nat} (h : AllR n m L) (k : AllR n m M) : L = M := nasc_uniq h.asc k.asc fun x => (h.mem x).trans (k.mem x).symm
theorem hensel {p k : Nat} {n x v : Int} (hk : 1 ≤ k) (h : ((p ^ k : Nat) : Int) ∣ x * x - n) (hv : ((p ^ (k + 1) : Nat) : Int) ∣ 2 * x * v - 1) : ((p ^ (k + 1) : Nat) : Int) ∣ (x - (x * x - n) * v) * (x - (x * x - n) * v) - n := by
  obtain ⟨a, ha⟩ := h
  obtain ⟨b, hb⟩ := hv
  have e1 : ((p ^ (k + 1) : Nat) : Int) = ((p ^ k : Nat) : Int) * (p : Int) := by rw [Nat.pow_succ, Int.natCast_mul]
  have e2 : ((p ^ k : Nat) : Int) = (p : Int) * ((p ^ (k - 1) : Nat) : Int) := by
    obtain ⟨u, rfl⟩ : ∃ u, k = u + 1 := ⟨k - 1, by omega⟩
    rw [Nat.pow_succ, Int.natCast_mul, Int.mul_comm]; rfl
  have e3 : (x - (x * x - n) * v) * (x - (x * x - n) * v) - n = (x * x - n) * -(2 * x * v - 1) + (x * x - n) * (x * x - n) * (v * v) := by grind
  rw [e3]
  refine Int.dvd_add ⟨(x * x - n) * -b, ?_⟩ ⟨((p ^ (k - 1) : Nat) : Int) * (a * a) * (v * v), ?_⟩
  · rw [hb]; grind
  · rw [ha, e1]
    have : ((p ^ k : Nat) : Int) * a * (((p ^ k : Nat) : Int) * a) = ((p ^ k : Nat) : Int) * ((p : Int) * ((p ^ (k - 1) : Nat) : Int)) * (a * a) := by rw [← e2]; grind
    rw [this]; grind
theorem cop_pow {p a k : Nat} (h : PrimeN p) (ha : ¬ p ∣ a) : Nat.Coprime (p ^ k) a := by
  refine Nat.Coprime.pow_left k ?_
  rcases prime_div h (Nat.gcd_dvd_left p a) with e | e
  · exact e
  · exact absurd (e ▸ Nat.gcd_dvd_right p a) ha
theorem cop_div {p k : Nat} {a b : Int} (h : PrimeN p) (ha : ¬ (p : Int) ∣ a) (hd : ((p ^ k : Nat) : Int) ∣ a * b) : ((p ^ k : Nat) : Int) ∣ b := by
  rw [Int.ofNat_dvd_left] at hd ⊢
  rw [Int.natAbs_mul] at hd
  exact (cop_pow h (fun z => ha (Int.ofNat_dvd_left.mpr z))).dvd_of_dvd_mul_left hd
theorem dvd_of_pow {p k : Nat} {a : Int} (hk : 1 ≤ k) (h : ((p ^ k : Nat) : Int) ∣ a) : (p : Int) ∣ a := by
  obtain ⟨u, rfl⟩ : ∃ u, k = u + 1 := ⟨k - 1, by omega⟩
  rw [Nat.pow_succ, Int.natCast_mul] at h
  exact Int.dvd_trans ⟨_, Int.mul_comm _ _⟩ h
theorem prime_int {p : Nat} {a b : Int} (h : PrimeN p) (hd : (p : Int) ∣ a * b) : (p : Int) ∣ a ∨ (p : Int) ∣ b := by
  rw [Int.ofNat_dvd_left, Int.natAbs_mul] at hd
  exact (prime_euclid h hd).imp Int.ofNat_dvd_left.mpr Int.ofNat_dvd_left.mpr
/-- two roots by an odd prime's power: alike, or each other's opposite -/
theorem two_roots {p k : Nat} {n x y : Int} (h : PrimeN p) (h3 : 3 ≤ p) (hk : 1 ≤ k) (hn : ¬ (p : Int) ∣ n) (hx : ((p ^ k : Nat) : Int) ∣ x * x - n) (hy : ((p ^ k : Nat) : Int) ∣ y * y - n) : ((p ^ k : Nat) : Int) ∣ y - x ∨ ((p ^ k : Nat) : Int) ∣ y + x := by
  have e : (y - x) * (y + x) = (y * y - n) - (x * x - n) := by grind
  have hd : ((p ^ k : Nat) : Int) ∣ (y - x) * (y + x) := by rw [e]; exact Int.dvd_sub hy hx
  by_cases g : (p : Int) ∣ y - x
  · refine .inl (cop_div h (a := y + x) (fun z => ?_) (by rw [Int.mul_comm]; exact hd))
    have d2 : (p : Int) ∣ 2 * y := by
      have := Int.dvd_add g z
      rw [show y - x + (y + x) = 2 * y by omega] at this
      exact this
    have hy1 : (p : Int) ∣ y := by
      rcases prime_int h d2 with w | w
      · have := Int.le_of_dvd (by decide) w
        omega
      · exact w
    refine hn ?_
    have h4 := dvd_of_pow hk hy
    have := Int.dvd_sub (Int.dvd_mul_of_dvd_left hy1 (c := y)) h4
    rw [show y * y - (y * y - n) = n by omega] at this
    exact this
  · exact .inr (cop_div h g hd)
theorem odd_all {p k x : Nat} {n : Int} (h : PrimeN p) (h3 : 3 ≤ p) (hk : 1 ≤ k) (hn : ¬ (p : Int) ∣ n) (hx : x < p ^ k) (hr : IsR n (p ^ k) x) : AllR n (p ^ k) (if x < p ^ k - x then [x, p ^ k - x] else [p ^ k - x, x]) := by
  have hp := odd_of h h3
  have x0 : x ≠ 0 := fun z => by
    subst z
    refine hn ?_
    have := dvd_of_pow hk hr
    simp at this
    exact this
  have hodd : p ^ k % 2 = 1 := by rw [Nat.pow_mod, hp, Nat.one_pow]
  have hneg : IsR n (p ^ k) (p ^ k - x) := by
    unfold IsR at *
    obtain ⟨c, hc⟩ := hr
    rw [Int.ofNat_sub (Nat.le_of_lt hx)]
    generalize ((p ^ k : Nat) : Int) = m at *
    refine ⟨c + m - 2 * x, ?_⟩
    have : (m - (x : Int)) * (m - x) - n = ((x : Int) * x - n) + m * (m - 2 * x) := by grind
    rw [this, hc]; grind
  have mem : ∀ y, y < p ^ k ∧ IsR n (p ^ k) y ↔ y = x ∨ y = p ^ k - x := fun y => by
    constructor
    · rintro ⟨h1, h2⟩
      rcases two_roots h h3 hk hn hr h2 with z | z
      · obtain ⟨c, hc⟩ := z
        left
        generalize p ^ k = m at *
        rcases Int.lt_or_le c 0 with g | g
        · have := Int.mul_le_mul_of_nonneg_left (show c ≤ -1 by omega) (show 0 ≤ (m : Int) by omega)
          omega
        · rcases Int.lt_or_le 0 c with g2 | g2
          · have := Int.mul_le_mul_of_nonneg_left (show 1 ≤ c by omega) (show 0 ≤ (m : Int) by omega)
            omega
          · have : c = 0 := by omega
            subst this
            omega
      · obtain ⟨c, hc⟩ := z
        right
        generalize p ^ k = m at *
        rcases Int.lt_or_le c 1 with g | g
        · have := Int.mul_le_mul_of_nonneg_left (show c ≤ 0 by omega) (show 0 ≤ (m : Int) by omega)
          omega
        · rcases Int.lt_or_le 1 c with g2 | g2
          · have := Int.mul_le_mul_of_nonneg_left (show 2 ≤ c by omega) (show 0 ≤ (m : Int) by omega)
            omega
          · have : c = 1 := by omega
            subst this
            omega
    · rintro (rfl | rfl)
      · exact ⟨hx, hr⟩
      · exact ⟨by omega, hneg⟩
  split
  · rename_i g
    exact ⟨by simp; exact g, fun y => by rw [mem]; simp⟩
  · rename_i g
    exact ⟨by simp; omega, fun y => by rw [mem]; simp; exact Or.comm⟩
end NT

/-! The symbol at all places: its formula, products, an even number of bad places. -/
namespace Hil
open NT
/-! ### how often a prime goes into an int -/
structure Par (p : Nat) (a : Int) (t : Nat) (u : Int) : Prop where
  e : a = ((p ^ t : Nat) : Int) * u
  n : ¬ (p : Int) ∣ u
theorem par_ex {p : Nat} (hp : 2 ≤ p) : ∀ (n : Nat) (a : Int), a.natAbs = n → a ≠ 0 → ∃ t u, Par p a t u := by
  intro n
  induction n using Nat.strongRecOn with
  | _ n ih =>
    intro a ha h0
    by_cases hd : (p : Int) ∣ a
    · obtain ⟨b, rfl⟩ := hd
      have hb : b ≠ 0 := fun e => h0 (by rw [e, Int.mul_zero])
      have h1 : b.natAbs < n := by
        rw [← ha, Int.natAbs_mul, Int.natAbs_natCast]
        have : 0 < b.natAbs := by omega
        have := Nat.mul_le_mul_right b.natAbs hp
        omega
      obtain ⟨t, u, k⟩ := ih _ h1 b rfl hb
      refine ⟨t + 1, u, ?_, k.n⟩
      rw [Nat.pow_succ, Int.natCast_mul, Int.mul_comm ((p ^ t : Nat) : Int), Int.mul_assoc, ← k.e]
    · exact ⟨0, a, by simp, hd⟩
theorem par_uniq {p : Nat} {a : Int} {t s : Nat} {u v : Int} (hp : PrimeN p) (h : Par p a t u) (k : Par p a s v) : t = s ∧ u = v := by
  have hp0 : (0 : Int) < (p : Int) := by have := hp.1; omega
  have nd : ∀ {w : Int}, ¬ (p : Int) ∣ w → ¬ p ∣ w.natAbs := fun h k => h (Int.ofNat_dvd_left.mpr k)
  have e : ((p ^ t : Nat) : Int) * u = ((p ^ s : Nat) : Int) * v := by rw [← h.e, k.e]
  have e2 : p ^ t * u.natAbs = p ^ s * v.natAbs := by
    have := congrArg Int.natAbs e
    rwa [Int.natAbs_mul, Int.natAbs_mul, Int.natAbs_natCast, Int.natAbs_natCast] at this
  obtain ⟨e3, _⟩ := pow_inj_cop hp (nd h.n) (nd k.n) e2
  subst e3
  have hpt : (0 : Int) < ((p ^ t : Nat) : Int) := by
    have : 0 < p ^ t := Nat.pow_pos (by omega)
    omega
  exact ⟨rfl, Int.eq_of_mul_eq_mul_left (by omega) e⟩
theorem par_mul {p : Nat} {a b : Int} {t s : Nat} {u v : Int} (hp : PrimeN p) (h : Par p a t u) (k : Par p b s v) : Par p (a * b) (t + s) (u * v) := by
  refine ⟨?_, fun hd => ?_⟩
  · rw [h.e, k.e, Nat.pow_add, Int.natCast_mul]; grind
  · rcases prime_int hp hd with g | g
    · exact h.n g
    · exact k.n g
/-! ### signs -/
def sgI (n : Int) : Int := if n % 2 = 0 then 1 else -1
theorem sgI_add (m n : Int) : sgI (m + n) = sgI m * sgI n := by
  unfold sgI
  split <;> split <;> split <;> first | rfl | omega
theorem sgI_cases (n : Int) : sgI n = 1 ∨ sgI n = -1 := by unfold sgI; split; exact .inl rfl; exact .inr rfl
theorem sgI_even {n : Int} (h : n % 2 = 0) : sgI n = 1 := if_pos h
theorem sgI_congr {m n : Int} (h : m % 2 = n % 2) : sgI m = sgI n := by unfold sgI; rw [h]
/-- the symbol by an odd prime, of any int -/
def js (a : Int) (p : Nat) : Int := Sym.jac (a % (p : Int)).toNat p
theorem rest_nat (a : Int) {p : Nat} (hp : 0 < p) : (((a % (p : Int)).toNat : Nat) : Int) = a % p := Int.toNat_of_nonneg (Int.emod_nonneg _ (by omega))
theorem js_mul {p : Nat} (ho : p % 2 = 1) (a b : Int) : js (a * b) p = js a p * js b p := by
  have hp : 0 < p := by omega
  unfold js
  rw [← Sym.jac_mul ho, ← Sym.jac_rest ((a % (p : Int)).toNat * (b % (p : Int)).toNat) p]
  congr 1
  have h1 := rest_nat (a * b) hp
  have h2 := rest_nat a hp
  have h3 := rest_nat b hp
  have : (((a * b % (p : Int)).toNat : Nat) : Int) = (((a % (p : Int)).toNat * (b % (p : Int)).toNat % p : Nat) : Int) := by
    rw [h1, Int.natCast_emod, Int.natCast_mul, h2, h3]
    exact Int.mul_emod _ _ _
  omega
theorem js_unit {p : Nat} {u : Int} (hp : PrimeN p) (hu : ¬ (p : Int) ∣ u) : js u p = 1 ∨ js u p = -1 := by
  have h0 : 0 < p := by have := hp.1; omega
  unfold js
  have hc : Nat.gcd (u % (p : Int)).toNat p = 1 := by
    refine prime_cop hp ?_ ?_
    · have := rest_nat u h0
      have h1 := Int.emod_nonneg u (b := (p : Int)) (by omega)
      rcases Nat.eq_zero_or_pos (u % (p : Int)).toNat with g | g
      · exact absurd (Int.dvd_of_emod_eq_zero (show u % (p : Int) = 0 by omega)) hu
      · exact g
    · have := rest_nat u h0
      have := Int.emod_lt_of_pos u (b := (p : Int)) (by omega)
      omega
  rw [Sym.jac_c hc]
  unfold Sym.sg
  split
  · exact .inl rfl
  · exact .inr rfl
theorem js_one (p : Nat) (h : 2 ≤ p) : js 1 p = 1 := by
  unfold js
  have : ((1 : Int) % (p : Int)).toNat = 1 := by rw [Int.emod_eq_of_lt (by decide) (by omega)]; rfl
  rw [this]
  exact Sym.jac_one p
theorem cnt_neg {n : Nat} (ho : n % 2 = 1) (h3 : 3 ≤ n) : Sym.cnt (n - 1) n = n / 2 := by
  unfold Sym.cnt
  have : Sym.sm (Sym.up (n - 1) n) (n / 2) = Sym.sm (fun _ => 1) (n / 2) := by
    refine Sym.sm_congr fun k h1 h2 => ?_
    unfold Sym.up
    have e : (n - 1) * k % n = n - k := by
      have : (n - 1) * k = n * (k - 1) + (n - k) := by
        obtain ⟨m, rfl⟩ : ∃ m, k = m + 1 := ⟨k - 1, by omega⟩
        obtain ⟨q, rfl⟩ : ∃ q, n = q + 1 := ⟨n - 1, by omega⟩
        show q * (m + 1) = (q + 1) * m + (q + 1 - (m + 1))
        rw [Nat.mul_succ, Nat.succ_mul]; omega
      rw [this, Nat.mul_add_mod, Nat.mod_eq_of_lt (by omega)]
    rw [e, if_pos (by omega)]
  rw [this, Sym.sm_const]
  omega
theorem js_neg {p : Nat} (hp : PrimeN p) (h3 : 3 ≤ p) : js (-1) p = sgI ((p / 2 : Nat) : Int) := by
  have ho := odd_of hp h3
  unfold js
  have : ((-1 : Int) % (p : Int)).toNat = p - 1 := by
    have : (-1 : Int) % (p : Int) = (p : Int) - 1 := by
      have h := Int.add_emod_right (-1) (p : Int)
      have e : (-1 : Int) + p = (p : Int) - 1 := by omega
      rw [← h, e]
      exact Int.emod_eq_of_lt (by omega) (by omega)
    omega
  rw [this, Sym.jac_c (prime_cop hp (by omega) (by omega)), cnt_neg ho h3]
  unfold Sym.sg sgI
  split <;> split <;> first | rfl | omega
def pw (x : Int) (t : Nat) : Int := if t % 2 = 1 then x else 1
theorem pw_mul (x y : Int) (t : Nat) : pw (x * y) t = pw x t * pw y t := by unfold pw; split <;> simp
theorem pw_add {x : Int} (h : x = 1 ∨ x = -1) (s t : Nat) : pw x (s + t) = pw x s * pw x t := by
  unfold pw
  rcases h with rfl | rfl <;> split <;> split <;> split <;> first | rfl | omega
theorem pw_one (t : Nat) : pw 1 t = 1 := by unfold pw; split <;> rfl
/-! ### at 2 -/
def e4 (u : Int) : Int := (u - 1) / 2
def e8 (u : Int) : Int := if u % 8 = 3 ∨ u % 8 = 5 then 1 else 0
theorem odd_m {u : Int} (h : ¬ ((2 : Nat) : Int) ∣ u) : u % 2 = 1 := by omega
theorem e4_mod {u v : Int} (hu : u % 2 = 1) (hv : v % 2 = 1) : e4 (u * v) % 2 = (e4 u + e4 v) % 2 := by
  unfold e4
  obtain ⟨a, rfl⟩ : ∃ a, u = 2 * a + 1 := ⟨u / 2, by omega⟩
  obtain ⟨b, rfl⟩ : ∃ b, v = 2 * b + 1 := ⟨v / 2, by omega⟩
  have : (2 * a + 1) * (2 * b + 1) = 4 * (a * b) + 2 * a + 2 * b + 1 := by grind
  rw [this]
  omega
theorem e8_mod {u v : Int} (hu : u % 2 = 1) (hv : v % 2 = 1) : e8 (u * v) % 2 = (e8 u + e8 v) % 2 := by
  unfold e8
  have h := Int.mul_emod u v 8
  have h1 : u % 8 = 1 ∨ u % 8 = 3 ∨ u % 8 = 5 ∨ u % 8 = 7 := by omega
  have h2 : v % 8 = 1 ∨ v % 8 = 3 ∨ v % 8 = 5 ∨ v % 8 = 7 := by omega
  rcases h1 with h1 | h1 | h1 | h1 <;> rcases h2 with h2 | h2 | h2 | h2 <;> rw [h1, h2] at h <;> rw [h, h1, h2] <;> decide
def H2 (t : Nat) (u : Int) (s : Nat) (v : Int) : Int := sgI (e4 u * e4 v + t * e8 v + s * e8 u)
def Hp (p t : Nat) (u : Int) (s : Nat) (v : Int) : Int := sgI ((t * s * (p / 2) : Nat) : Int) * (pw (js v p) t * pw (js u p) s)
theorem mod_mul2 {a b c : Int} (h : a % 2 = b % 2) : (c * a) % 2 = (c * b) % 2 := by rw [Int.mul_emod, h, ← Int.mul_emod]
theorem H2_mul {t s s' : Nat} {u v v' : Int} (hv : v % 2 = 1) (hv' : v' % 2 = 1) : H2 t u (s + s') (v * v') = H2 t u s v * H2 t u s' v' := by
  unfold H2
  rw [← sgI_add]
  refine sgI_congr ?_
  have a := mod_mul2 (c := e4 u) (e4_mod hv hv')
  have b := mod_mul2 (c := (t : Int)) (e8_mod hv hv')
  have c : e4 u * (e4 v + e4 v') = e4 u * e4 v + e4 u * e4 v' := Int.mul_add _ _ _
  have d : (t : Int) * (e8 v + e8 v') = t * e8 v + t * e8 v' := Int.mul_add _ _ _
  have e : ((s + s' : Nat) : Int) * e8 u = s * e8 u + s' * e8 u := by rw [Int.natCast_add, Int.add_mul]
  rw [c] at a
  rw [d] at b
  rw [e]
  generalize e4 u * e4 (v * v') = x1 at *
  generalize (t : Int) * e8 (v * v') = x2 at *
  generalize e4 u * e4 v = x3 at *
  generalize e4 u * e4 v' = x4 at *
  generalize (t : Int) * e8 v = x5 at *
  generalize (t : Int) * e8 v' = x6 at *
  generalize (s : Int) * e8 u = x7 at *
  generalize (s' : Int) * e8 u = x8 at *
  omega
theorem H2_comm (t s : Nat) (u v : Int) : H2 t u s v = H2 s v t u := by
  unfold H2
  congr 1
  rw [Int.mul_comm (e4 u)]; omega
theorem Hp_comm (p t s : Nat) (u v : Int) : Hp p t u s v = Hp p s v t u := by
  unfold Hp
  rw [Nat.mul_comm t s, Int.mul_comm (pw (js v p) t)]
theorem Hp_mul {p t s s' : Nat} {u v v' : Int} (hp : PrimeN p) (h3 : 3 ≤ p) (hu : ¬ (p : Int) ∣ u) : Hp p t u (s + s') (v * v') = Hp p t u s v * Hp p t u s' v' := by
  have ho := odd_of hp h3
  unfold Hp
  have e : ((t * (s + s') * (p / 2) : Nat) : Int) = ((t * s * (p / 2) : Nat) : Int) + ((t * s' * (p / 2) : Nat) : Int) := by
    rw [← Int.natCast_add, Nat.mul_add, Nat.add_mul]
  rw [e, sgI_add, js_mul ho, pw_mul, pw_add (js_unit hp hu)]
  grind
/-! ### at any place -/
noncomputable def vl (p : Nat) (a : Int) : Nat := open Classical in if h : ∃ t u, Par p a t u then h.choose else 0
noncomputable def un (p : Nat) (a : Int) : Int := open Classical in if h : ∃ u, Par p a (vl p a) u then h.choose else 0
theorem vl_par {p : Nat} {a : Int} (hp : PrimeN p) (h : a ≠ 0) : Par p a (vl p a) (un p a) := by
  have h1 : ∃ t u, Par p a t u := par_ex hp.1 _ a rfl h
  have h2 : ∃ u, Par p a (vl p a) u := by
    unfold vl
    rw [dif_pos h1]
    exact h1.choose_spec
  unfold un
  rw [dif_pos h2]
  exact h2.choose_spec
theorem vl_eq {p : Nat} {a : Int} {t : Nat} {u : Int} (hp : PrimeN p) (h : Par p a t u) : vl p a = t ∧ un p a = u := by
  have h0 : a ≠ 0 := fun e => by
    have := h.e
    rw [e] at this
    have hp0 : 0 < p ^ t := Nat.pow_pos (by have := hp.1; omega)
    rcases Int.mul_eq_zero.mp this.symm with g | g
    · omega
    · exact h.n (by rw [g]; exact Int.dvd_zero _)
  exact par_uniq hp (vl_par hp h0) h
noncomputable def hil (a b : Int) (p : Nat) : Int :=
  if p = 0 then (if a < 0 ∧ b < 0 then -1 else 1) else if p = 2 then H2 (vl 2 a) (un 2 a) (vl 2 b) (un 2 b) else Hp p (vl p a) (un p a) (vl p b) (un p b)
/-- a place -/
def Pl (p : Nat) : Prop := p = 0 ∨ PrimeN p
theorem Pl.c {p : Nat} (h : Pl p) : p = 0 ∨ p = 2 ∨ (PrimeN p ∧ 3 ≤ p) := by
  rcases h with h | h
  · exact .inl h
  · have := h.1
    by_cases e : p = 2
    · exact .inr (.inl e)
    · exact .inr (.inr ⟨h, by omega⟩)
theorem pr2 : PrimeN 2 := ⟨by decide, fun d h1 h2 => by have := Nat.mul_le_mul h1 h1; omega⟩
theorem hil0 (a b : Int) : hil a b 0 = if a < 0 ∧ b < 0 then -1 else 1 := by unfold hil; rw [if_pos rfl]
theorem hil2 (a b : Int) : hil a b 2 = H2 (vl 2 a) (un 2 a) (vl 2 b) (un 2 b) := by unfold hil; rw [if_neg (by decide), if_pos rfl]
theorem hilp (a b : Int) {p : Nat} (h : 3 ≤ p) : hil a b p = Hp p (vl p a) (un p a) (vl p b) (un p b) := by unfold hil; rw [if_neg (by omega), if_neg (by omega)]
theorem hil_comm (a b : Int) (p : Nat) : hil a b p = hil b a p := by
  unfold hil
  split
  · simp only [and_comm]
  · split
    · exact H2_comm _ _ _ _
    · exact Hp_comm _ _ _ _ _
theorem hil_mul {a b c : Int} {p : Nat} (hp : Pl p) (ha : a ≠ 0) (hb : b ≠ 0) (hc : c ≠ 0) : hil a (b * c) p = hil a b p * hil a c p := by
  rcases hp.c with rfl | rfl | ⟨hp, h3⟩
  · rw [hil0, hil0, hil0]
    rcases Int.lt_or_gt_of_ne hb with g1 | g1 <;> rcases Int.lt_or_gt_of_ne hc with g2 | g2
    · have := Int.mul_pos_of_neg_of_neg g1 g2
      by_cases h : a < 0
      · rw [if_neg (by omega), if_pos ⟨h, g1⟩, if_pos ⟨h, g2⟩]; rfl
      · rw [if_neg (by omega), if_neg (by omega), if_neg (by omega)]; rfl
    · have := Int.mul_neg_of_neg_of_pos g1 g2
      by_cases h : a < 0
      · rw [if_pos ⟨h, this⟩, if_pos ⟨h, g1⟩, if_neg (by omega)]; rfl
      · rw [if_neg (by omega), if_neg (by omega), if_neg (by omega)]; rfl
    · have := Int.mul_neg_of_pos_of_neg g1 g2
      by_cases h : a < 0
      · rw [if_pos ⟨h, this⟩, if_neg (by omega), if_pos ⟨h, g2⟩]; rfl
      · rw [if_neg (by omega), if_neg (by omega), if_neg (by omega)]; rfl
    · have := Int.mul_pos g1 g2
      rw [if_neg (by omega), if_neg (by omega), if_neg (by omega)]; rfl
  · have kb := vl_par pr2 hb
    have kc := vl_par pr2 hc
    obtain ⟨e1, e2⟩ := vl_eq pr2 (par_mul pr2 kb kc)
    rw [hil2, hil2, hil2, e1, e2]
    exact H2_mul (odd_m kb.n) (odd_m kc.n)
  · have ka := vl_par hp ha
    obtain ⟨e1, e2⟩ := vl_eq hp (par_mul hp (vl_par hp hb) (vl_par hp hc))
    rw [hilp _ _ h3, hilp _ _ h3, hilp _ _ h3, e1, e2]
    exact Hp_mul hp h3 ka.n
theorem hil_cases (a b : Int) {p : Nat} (hp : Pl p) (ha : a ≠ 0) (hb : b ≠ 0) : hil a b p = 1 ∨ hil a b p = -1 := by
  rcases hp.c with rfl | rfl | ⟨hp, h3⟩
  · rw [hil0]; split; exact .inr rfl; exact .inl rfl
  · rw [hil2]; exact sgI_cases _
  · rw [hilp _ _ h3]
    unfold Hp
    have pc : ∀ {x : Int} (t : Nat), (x = 1 ∨ x = -1) → pw x t = 1 ∨ pw x t = -1 := fun t h => by unfold pw; split; exact h; exact .inl rfl
    rcases sgI_cases ((vl p a * vl p b * (p / 2) : Nat) : Int) with h1 | h1 <;> rcases pc (vl p a) (js_unit hp (vl_par hp hb).n) with h2 | h2 <;> rcases pc (vl p b) (js_unit hp (vl_par hp ha).n) with h3 | h3 <;> rw [h1, h2, h3] <;> decide
theorem hil_sq {a b w : Int} {p : Nat} (hp : Pl p) (ha : a ≠ 0) (hb : b ≠ 0) (hw : w ≠ 0) : hil a (b * w * w) p = hil a b p := by
  rw [hil_mul hp ha (Int.mul_ne_zero hb hw) hw, hil_mul hp ha hb hw, Int.mul_assoc]
  rcases hil_cases a w hp ha hw with h | h <;> rw [h] <;> omega
/-- one with -one -/
theorem hil_neg {a : Int} {p : Nat} (hp : Pl p) (ha : a ≠ 0) : hil a (-a) p = 1 := by
  rcases hp.c with rfl | rfl | ⟨hp, h3⟩
  · rw [hil0, if_neg (by omega)]
  · have k := vl_par pr2 ha
    have k2 : Par 2 (-a) (vl 2 a) (-un 2 a) := ⟨by rw [Int.mul_neg, ← k.e], fun h => k.n (Int.dvd_neg.mp h)⟩
    obtain ⟨e1, e2⟩ := vl_eq pr2 k2
    have ho := odd_m k.n
    rw [hil2, e1, e2]
    unfold H2
    refine sgI_even ?_
    generalize un 2 a = u at *
    have h8 : e8 (-u) = e8 u := by
      unfold e8
      have : (u % 8 = 3 ∨ u % 8 = 5) ↔ ((-u) % 8 = 3 ∨ (-u) % 8 = 5) := by omega
      by_cases g : u % 8 = 3 ∨ u % 8 = 5
      · rw [if_pos g, if_pos (this.mp g)]
      · rw [if_neg g, if_neg (fun z => g (this.mpr z))]
    rw [h8]
    have h4 : e4 u * e4 (-u) % 2 = 0 := by
      rw [Int.mul_emod]
      unfold e4
      rcases (show (u - 1) / 2 % 2 = 0 ∨ (-u - 1) / 2 % 2 = 0 by omega) with g | g <;> rw [g] <;> simp
    omega
  · have ho := odd_of hp h3
    have k := vl_par hp ha
    have k2 : Par p (-a) (vl p a) (-un p a) := ⟨by rw [Int.mul_neg, ← k.e], fun h => k.n (Int.dvd_neg.mp h)⟩
    obtain ⟨e1, e2⟩ := vl_eq hp k2
    rw [hilp _ _ h3, e1, e2]
    unfold Hp
    generalize vl p a = t at *
    have hu := js_unit hp k.n
    have e : js (-un p a) p = js (-1) p * js (un p a) p := by rw [← js_mul ho]; congr 1; omega
    rw [e, pw_mul, js_neg hp h3]
    generalize js (un p a) p = x at *
    have hx : pw x t * pw x t = 1 := by unfold pw; rcases hu with rfl | rfl <;> split <;> rfl
    rw [Int.mul_assoc, hx, Int.mul_one]
    unfold pw
    by_cases h : t % 2 = 1
    · rw [if_pos h]
      have : sgI ((t * t * (p / 2) : Nat) : Int) = sgI ((p / 2 : Nat) : Int) := by
        refine sgI_congr ?_
        have : t * t * (p / 2) % 2 = (p / 2) % 2 := by
          rw [Nat.mul_mod, Nat.mul_mod t t, h]; simp
        omega
      rw [this]
      rcases sgI_cases ((p / 2 : Nat) : Int) with g | g <;> rw [g] <;> rfl
    · rw [if_neg h, Int.mul_one]
      refine sgI_even ?_
      have : t * t * (p / 2) % 2 = 0 := by
        rw [Nat.mul_mod, Nat.mul_mod t t, show t % 2 = 0 by omega]; simp
      omega
theorem hil_free {a b : Int} {p : Nat} (hp : Pl p) (ha : a ≠ 0) (hb : b ≠ 0) : hil a b p = hil a (-a * b) p := by
  rw [hil_mul hp ha (by omega) hb, hil_neg hp ha, Int.one_mul]
theorem hil_one {a : Int} {p : Nat} (hp : Pl p) (ha : a ≠ 0) : hil a 1 p = 1 := by
  have h := hil_mul hp ha (b := 1) (c := 1) (by decide) (by decide)
  rw [Int.mul_one] at h
  rcases hil_cases a 1 hp ha (by decide) with g | g
  · exact g
  · rw [g] at h; omega
/-- both without the prime -/
theorem hil_out {a b : Int} {p : Nat} (hp : PrimeN p) (h3 : 3 ≤ p) (ha : ¬ (p : Int) ∣ a) (hb : ¬ (p : Int) ∣ b) : hil a b p = 1 := by
  obtain ⟨e1, e2⟩ := vl_eq hp (show Par p a 0 a from ⟨by simp, ha⟩)
  obtain ⟨e3, e4⟩ := vl_eq hp (show Par p b 0 b from ⟨by simp, hb⟩)
  rw [hilp _ _ h3, e1, e2, e3, e4]
  unfold Hp pw
  simp [sgI]
/-! ### all places together -/
noncomputable def prodH (a b : Int) : List Nat → Int
  | [] => 1
  | p :: S => hil a b p * prodH a b S
theorem prodH_mul {a b c : Int} (ha : a ≠ 0) (hb : b ≠ 0) (hc : c ≠ 0) : ∀ {S : List Nat}, (∀ p ∈ S, Pl p) → prodH a (b * c) S = prodH a b S * prodH a c S
  | [], _ => rfl
  | p :: S, h => by
    show hil a (b * c) p * prodH a (b * c) S = hil a b p * prodH a b S * (hil a c p * prodH a c S)
    rw [hil_mul (h p List.mem_cons_self) ha hb hc, prodH_mul ha hb hc fun q hq => h q (List.mem_cons_of_mem _ hq)]
    grind
theorem prodH_comm (a b : Int) : ∀ S, prodH a b S = prodH b a S
  | [] => rfl
  | p :: S => by show hil a b p * prodH a b S = hil b a p * prodH b a S; rw [hil_comm, prodH_comm a b S]
theorem prodH_ones {a b : Int} : ∀ {S : List Nat}, (∀ p ∈ S, hil a b p = 1) → prodH a b S = 1
  | [], _ => rfl
  | p :: S, h => by
    show hil a b p * prodH a b S = 1
    rw [h p List.mem_cons_self, prodH_ones fun q hq => h q (List.mem_cons_of_mem _ hq)]; rfl
theorem prodH_at {a b : Int} {q : Nat} : ∀ {S : List Nat}, S.Nodup → q ∈ S → (∀ p ∈ S, p ≠ q → hil a b p = 1) → prodH a b S = hil a b q
  | p :: S, hn, hq, h => by
    have h1 := List.nodup_cons.mp hn
    show hil a b p * prodH a b S = _
    rcases List.mem_cons.mp hq with e | hq
    · subst e
      rw [prodH_ones fun x hx => h x (List.mem_cons_of_mem _ hx) fun e => h1.1 (e ▸ hx), Int.mul_one]
    · have : p ≠ q := fun e => h1.1 (e ▸ hq)
      rw [h p List.mem_cons_self this, prodH_at h1.2 hq fun x hx => h x (List.mem_cons_of_mem _ hx), Int.one_mul]
theorem prodH_two {a b : Int} {q r : Nat} (hqr : q ≠ r) : ∀ {S : List Nat}, S.Nodup → q ∈ S → r ∈ S → (∀ p ∈ S, p ≠ q → p ≠ r → hil a b p = 1) → prodH a b S = hil a b q * hil a b r
  | p :: S, hn, hq, hr, h => by
    have h1 := List.nodup_cons.mp hn
    show hil a b p * prodH a b S = _
    by_cases e : p = q
    · subst e
      have hr' : r ∈ S := (List.mem_cons.mp hr).resolve_left fun e => hqr e.symm
      rw [prodH_at h1.2 hr' fun x hx hxr => h x (List.mem_cons_of_mem _ hx) (fun e => h1.1 (e ▸ hx)) hxr]
    · by_cases e2 : p = r
      · subst e2
        have hq' : q ∈ S := (List.mem_cons.mp hq).resolve_left fun e => hqr e
        rw [prodH_at h1.2 hq' fun x hx hxq => h x (List.mem_cons_of_mem _ hx) hxq fun e => h1.1 (e ▸ hx), Int.mul_comm]
      · have hq' : q ∈ S := (List.mem_cons.mp hq).resolve_left fun z => e z.symm
        have hr' : r ∈ S := (List.mem_cons.mp hr).resolve_left fun z => e2 z.symm
        rw [h p List.mem_cons_self e e2, prodH_two hqr h1.2 hq' hr' fun x hx => h x (List.mem_cons_of_mem _ hx), Int.one_mul]
/-- odd primes, each once, with all that go into both -/
structure Plc (S : List Nat) (a b : Int) : Prop where
  nd : S.Nodup
  ok : ∀ p ∈ S, PrimeN p ∧ 3 ≤ p
  all : ∀ p, PrimeN p → 3 ≤ p → ((p : Int) ∣ a ∨ (p : Int) ∣ b) → p ∈ S
def AllOne (S : List Nat) (a b : Int) : Prop := hil a b 0 * hil a b 2 * prodH a b S = 1
theorem allOne_mul {S : List Nat} {a b c : Int} (hS : ∀ p ∈ S, PrimeN p ∧ 3 ≤ p) (ha : a ≠ 0) (hb : b ≠ 0) (hc : c ≠ 0) (h1 : AllOne S a b) (h2 : AllOne S a c) : AllOne S a (b * c) := by
  unfold AllOne at *
  rw [hil_mul (.inl rfl) ha hb hc, hil_mul (.inr pr2) ha hb hc, prodH_mul ha hb hc fun p hp => .inr (hS p hp).1]
  generalize hil a b 0 = x1 at *
  generalize hil a b 2 = x2 at *
  generalize prodH a b S = x3 at *
  generalize hil a c 0 = y1 at *
  generalize hil a c 2 = y2 at *
  generalize prodH a c S = y3 at *
  have : x1 * y1 * (x2 * y2) * (x3 * y3) = (x1 * x2 * x3) * (y1 * y2 * y3) := by grind
  rw [this, h1, h2]; rfl
theorem allOne_comm {S : List Nat} {a b : Int} (h : AllOne S a b) : AllOne S b a := by
  unfold AllOne at *
  rw [hil_comm b a, hil_comm b a, prodH_comm b a]; exact h
end Hil

/-! All places together: one. -/
namespace Hil
open NT
inductive Gen : Int → Prop
  | neg : Gen (-1)
  | two : Gen 2
  | odd {q : Nat} : PrimeN q → 3 ≤ q → Gen (q : Int)
theorem par0 {p : Nat} {a : Int} (h : ¬ (p : Int) ∣ a) : Par p a 0 a := ⟨by simp, h⟩
theorem par1 {p : Nat} (h : 2 ≤ p) : Par p (p : Int) 1 1 := ⟨by simp, fun k => by
  have := Int.le_of_dvd (by decide) k; omega⟩
theorem nd_one {p : Nat} (h : 2 ≤ p) : ¬ (p : Int) ∣ 1 := fun k => by have := Int.le_of_dvd (by decide) k; omega
theorem nd_neg {p : Nat} (h : 2 ≤ p) : ¬ (p : Int) ∣ -1 := fun k => nd_one h (by have := Int.dvd_neg.mpr k; simpa using this)
theorem nd_two {p : Nat} (h : 3 ≤ p) : ¬ (p : Int) ∣ 2 := fun k => by have := Int.le_of_dvd (by decide) k; omega
theorem nd_pr {p q : Nat} (h : PrimeN p) (k : PrimeN q) (hne : p ≠ q) : ¬ (p : Int) ∣ (q : Int) := fun d => hne (prime_eq h k (Int.natCast_dvd_natCast.mp d))
theorem e4_odd {q : Nat} (h : q % 2 = 1) : e4 (q : Int) = ((q / 2 : Nat) : Int) := by unfold e4; omega
theorem sq_sg (n : Int) : sgI n * sgI n = 1 := by rcases sgI_cases n with h | h <;> rw [h] <;> rfl
theorem js_nat (a p : Nat) : js (a : Int) p = Sym.jac a p := by
  unfold js
  rw [← Int.natCast_emod, Int.toNat_natCast, Sym.jac_rest]
theorem hp_l {p : Nat} {u v : Int} : Hp p 0 u 1 v = js u p := by unfold Hp pw; simp [sgI]
theorem hp_r {p : Nat} {u v : Int} : Hp p 1 u 0 v = js v p := by unfold Hp pw; simp [sgI]
/-- a number without p, a prime p -/
theorem hil_l {p : Nat} {a : Int} (hp : PrimeN p) (h3 : 3 ≤ p) (ha : ¬ (p : Int) ∣ a) : hil a (p : Int) p = js a p := by
  obtain ⟨e1, e2⟩ := vl_eq hp (par0 ha)
  obtain ⟨e3, e4⟩ := vl_eq hp (par1 hp.1)
  rw [hilp _ _ h3, e1, e2, e3, e4, hp_l]
theorem two_at {a b : Int} (ha : ¬ (2 : Int) ∣ a) (hb : ¬ (2 : Int) ∣ b) : hil a b 2 = sgI (e4 a * e4 b) := by
  obtain ⟨e1, e2⟩ := vl_eq pr2 (par0 (p := 2) ha)
  obtain ⟨e3, e4⟩ := vl_eq pr2 (par0 (p := 2) hb)
  rw [hil2, e1, e2, e3, e4]
  unfold H2
  simp
theorem two_two {a : Int} (ha : ¬ (2 : Int) ∣ a) : hil a 2 2 = sgI (e8 a) := by
  obtain ⟨e1, e2⟩ := vl_eq pr2 (par0 (p := 2) ha)
  obtain ⟨e3, e4'⟩ := vl_eq pr2 (show Par 2 2 1 1 from par1 (by decide))
  rw [hil2, e1, e2, e3, e4']
  unfold H2
  simp [e4]
theorem sg_jac {q : Nat} (h : q % 2 = 1) : sgI (e8 (q : Int)) = Sym.jac 2 q := by
  rw [Sym.jac_two h]
  unfold e8
  by_cases g : q % 8 = 3 ∨ q % 8 = 5
  · rw [if_pos g, if_pos (by omega)]; rfl
  · rw [if_neg g, if_neg (by omega)]; rfl
theorem pos_sign {a b : Int} (h : 0 < a ∨ 0 < b) : hil a b 0 = 1 := by rw [hil0, if_neg (by omega)]
theorem gen_neg {S : List Nat} {b : Int} (hb : Gen b) (h : Plc S (-1) b) : AllOne S (-1) b := by
  unfold AllOne
  have n2 : ¬ (2 : Int) ∣ -1 := nd_neg (p := 2) (by decide)
  cases hb with
  | neg =>
    rw [prodH_ones fun p hp => hil_out (h.ok p hp).1 (h.ok p hp).2 (nd_neg (h.ok p hp).1.1) (nd_neg (h.ok p hp).1.1), two_at n2 n2, hil0]
    decide
  | two =>
    rw [prodH_ones fun p hp => hil_out (h.ok p hp).1 (h.ok p hp).2 (nd_neg (h.ok p hp).1.1) (nd_two (h.ok p hp).2), two_two n2, hil0]
    decide
  | @odd q hq h3 =>
    have ho := odd_of hq h3
    rw [prodH_at h.nd (h.all q hq h3 (.inr (Int.dvd_refl _))) fun p hp hne => hil_out (h.ok p hp).1 (h.ok p hp).2 (nd_neg (h.ok p hp).1.1) (nd_pr (h.ok p hp).1 hq hne),
      hil_l hq h3 (nd_neg hq.1), js_neg hq h3, two_at n2 (by omega), pos_sign (.inr (by omega)), Int.one_mul]
    have : sgI (e4 (-1) * e4 (q : Int)) = sgI ((q / 2 : Nat) : Int) := by
      rw [e4_odd ho]
      refine sgI_congr ?_
      have : e4 (-1) = -1 := by decide
      rw [this]; omega
    rw [this]
    exact sq_sg _
theorem gen_two {S : List Nat} {b : Int} (hb : Gen b) (h : Plc S 2 b) : AllOne S 2 b := by
  cases hb with
  | neg => exact allOne_comm (gen_neg .two ⟨h.nd, h.ok, fun p a b c => h.all p a b c.symm⟩)
  | two =>
    unfold AllOne
    rw [prodH_ones fun p hp => hil_out (h.ok p hp).1 (h.ok p hp).2 (nd_two (h.ok p hp).2) (nd_two (h.ok p hp).2), pos_sign (.inl (by decide))]
    obtain ⟨e3, e4'⟩ := vl_eq pr2 (show Par 2 2 1 1 from par1 (by decide))
    rw [hil2, e3, e4']
    decide
  | @odd q hq h3 =>
    have ho := odd_of hq h3
    unfold AllOne
    rw [prodH_at h.nd (h.all q hq h3 (.inr (Int.dvd_refl _))) fun p hp hne => hil_out (h.ok p hp).1 (h.ok p hp).2 (nd_two (h.ok p hp).2) (nd_pr (h.ok p hp).1 hq hne),
      hil_l hq h3 (nd_two h3), hil_comm 2 q 2, two_two (by omega), pos_sign (.inl (by decide)), Int.one_mul, sg_jac ho]
    have : js 2 q = Sym.jac 2 q := js_nat 2 q
    rw [this, ← sg_jac ho]
    exact sq_sg _
theorem gen_gen {S : List Nat} {a b : Int} (ha : Gen a) (hb : Gen b) (h : Plc S a b) : AllOne S a b := by
  have hc : Plc S b a := ⟨h.nd, h.ok, fun p x y c => h.all p x y c.symm⟩
  cases ha with
  | neg => exact gen_neg hb h
  | two => exact gen_two hb h
  | @odd q hq q3 =>
    cases hb with
    | neg => exact allOne_comm (gen_neg (.odd hq q3) hc)
    | two => exact allOne_comm (gen_two (.odd hq q3) hc)
    | @odd r hr r3 =>
      have qo := odd_of hq q3
      have ro := odd_of hr r3
      unfold AllOne
      rw [two_at (by omega) (by omega), pos_sign (.inl (by omega)), Int.one_mul, e4_odd qo, e4_odd ro]
      by_cases e : q = r
      · subst e
        rw [prodH_at h.nd (h.all q hq q3 (.inr (Int.dvd_refl _))) fun p hp hne => hil_out (h.ok p hp).1 (h.ok p hp).2 (nd_pr (h.ok p hp).1 hq hne) (nd_pr (h.ok p hp).1 hq hne)]
        obtain ⟨e3, e4⟩ := vl_eq hq (par1 hq.1)
        rw [hilp _ _ q3, e3, e4]
        unfold Hp
        rw [js_one q hq.1, pw_one]
        have : sgI (((q / 2 : Nat) : Int) * ((q / 2 : Nat) : Int)) = sgI ((1 * 1 * (q / 2) : Nat) : Int) := by
          refine sgI_congr ?_
          rw [Nat.one_mul, Int.mul_emod]
          rcases (show ((q / 2 : Nat) : Int) % 2 = 0 ∨ ((q / 2 : Nat) : Int) % 2 = 1 by omega) with g | g <;> rw [g] <;> rfl
        rw [this, Int.mul_one, Int.mul_one]
        exact sq_sg _
      · rw [prodH_two e h.nd (h.all q hq q3 (.inl (Int.dvd_refl _))) (h.all r hr r3 (.inr (Int.dvd_refl _))) fun p hp h1 h2 => hil_out (h.ok p hp).1 (h.ok p hp).2 (nd_pr (h.ok p hp).1 hq h1) (nd_pr (h.ok p hp).1 hr h2)]
        have nq := nd_pr hq hr e
        have nr := nd_pr hr hq fun z => e z.symm
        rw [hil_comm q r q, hil_l hq q3 nq, hil_l hr r3 nr, js_nat, js_nat]
        have t := Sym.jac_turn (a := r) (n := q) qo ro
        rw [t]
        have ju : Sym.jac q r = 1 ∨ Sym.jac q r = -1 := by have := js_unit hr nr; rwa [js_nat] at this
        have : sgI (((q / 2 : Nat) : Int) * ((r / 2 : Nat) : Int)) = if r % 4 = 3 ∧ q % 4 = 3 then -1 else 1 := by
          unfold sgI
          rw [Int.mul_emod]
          by_cases g : r % 4 = 3 ∧ q % 4 = 3
          · rw [if_pos g, show ((q / 2 : Nat) : Int) % 2 = 1 by omega, show ((r / 2 : Nat) : Int) % 2 = 1 by omega]; rfl
          · rw [if_neg g]
            rcases (show ((q / 2 : Nat) : Int) % 2 = 0 ∨ ((r / 2 : Nat) : Int) % 2 = 0 by omega) with z | z <;> rw [z] <;> simp
        rw [this]
        generalize (if r % 4 = 3 ∧ q % 4 = 3 then (-1 : Int) else 1) = s at *
        have hs : s = 1 ∨ s = -1 := by rw [← this]; exact sgI_cases _
        rcases hs with rfl | rfl <;> rcases ju with j | j <;> rw [j] <;> rfl
theorem prime_div_ex : ∀ n : Nat, 2 ≤ n → ∃ q, PrimeN q ∧ q ∣ n := by
  intro n
  induction n using Nat.strongRecOn with
  | _ n ih =>
    intro h
    by_cases hp : ∀ d, 2 ≤ d → d * d ≤ n → n % d ≠ 0
    · exact ⟨n, ⟨h, hp⟩, Nat.dvd_refl n⟩
    · simp only [Classical.not_forall] at hp
      obtain ⟨d, h1, h2, h3⟩ := hp
      have h3 : n % d = 0 := Decidable.not_not.mp h3
      have hlt : d < n := by
        have := Nat.mul_le_mul_left d h1
        omega
      obtain ⟨q, k1, k2⟩ := ih d hlt h1
      exact ⟨q, k1, Nat.dvd_trans k2 (Nat.dvd_of_mod_eq_zero h3)⟩
theorem gen_pr {q : Nat} (h : PrimeN q) : Gen (q : Int) := by
  by_cases e : q = 2
  · subst e; exact .two
  · exact .odd h (by have := h.1; omega)
theorem gen_ne {g : Int} (h : Gen g) : g ≠ 0 := by
  cases h with
  | neg => decide
  | two => decide
  | odd h h3 => omega
/-- by products of primes, of both signs -/
theorem by_primes {P : Int → Prop} (h1 : P 1) (hn : P (-1)) (hm : ∀ (q : Nat) (c : Int), PrimeN q → c ≠ 0 → P c → P ((q : Int) * c)) : ∀ (n : Nat) (b : Int), b.natAbs = n → b ≠ 0 → P b := by
  intro n
  induction n using Nat.strongRecOn with
  | _ n ih =>
    intro b hb h0
    by_cases e : n = 1
    · rcases (show b = 1 ∨ b = -1 by omega) with rfl | rfl
      · exact h1
      · exact hn
    · obtain ⟨q, hq, hd⟩ := prime_div_ex n (by omega)
      have hd' : (q : Int) ∣ b := Int.ofNat_dvd_left.mpr (by rw [hb]; exact hd)
      obtain ⟨c, rfl⟩ := hd'
      have hc : c ≠ 0 := fun e => h0 (by rw [e, Int.mul_zero])
      refine hm q c hq hc (ih c.natAbs ?_ c rfl hc)
      rw [← hb, Int.natAbs_mul, Int.natAbs_natCast]
      have := Nat.mul_le_mul_right c.natAbs hq.1
      omega
theorem all_one {S : List Nat} {a b : Int} (ha : a ≠ 0) (hb : b ≠ 0) (h : Plc S a b) : AllOne S a b := by
  have ones : ∀ {a : Int}, a ≠ 0 → (∀ p ∈ S, PrimeN p ∧ 3 ≤ p) → AllOne S a 1 := fun {a} ha ok => by
    unfold AllOne
    rw [hil_one (.inl rfl) ha, hil_one (.inr pr2) ha, prodH_ones fun p hp => hil_one (.inr (ok p hp).1) ha]; rfl
  have gen : ∀ {g : Int}, Gen g → ∀ (b : Int), b ≠ 0 → Plc S g b → AllOne S g b := fun {g} hg b hb => by
    refine by_primes (P := fun b => Plc S g b → AllOne S g b) (fun h => ones (gen_ne hg) h.ok) (fun h => gen_gen hg .neg h) (fun q c hq hc ih h => ?_) _ b rfl hb
    refine allOne_mul h.ok (gen_ne hg) (gen_ne (gen_pr hq)) hc (gen_gen hg (gen_pr hq) ⟨h.nd, h.ok, fun p x y z => h.all p x y (z.imp id fun z => Int.dvd_trans z (Int.dvd_mul_right _ _))⟩) (ih ⟨h.nd, h.ok, fun p x y z => h.all p x y (z.imp id fun z => Int.dvd_trans z (Int.dvd_mul_left _ _))⟩)
  refine by_primes (P := fun a => Plc S a b → AllOne S a b) (fun h => allOne_comm (ones hb h.ok)) (fun h => gen .neg b hb h) (fun q c hq hc ih h => ?_) _ a rfl ha h
  refine allOne_comm (allOne_mul h.ok hb (gen_ne (gen_pr hq)) hc (allOne_comm (gen (gen_pr hq) b hb ⟨h.nd, h.ok, fun p x y z => h.all p x y (z.imp (fun z => Int.dvd_trans z (Int.dvd_mul_right _ _)) id)⟩)) (allOne_comm (ih ⟨h.nd, h.ok, fun p x y z => h.all p x y (z.imp (fun z => Int.dvd_trans z (Int.dvd_mul_left _ _)) id)⟩)))
/-- how many places are bad -/
theorem even_bad {a b : Int} : ∀ {S : List Nat}, (∀ p ∈ S, hil a b p = 1 ∨ hil a b p = -1) → prodH a b S = if (S.filter fun p => decide (hil a b p = -1)).length % 2 = 0 then 1 else -1
  | [], _ => rfl
  | p :: S, h => by
    show hil a b p * prodH a b S = _
    rw [even_bad fun q hq => h q (List.mem_cons_of_mem _ hq), List.filter_cons]
    rcases h p List.mem_cons_self with g | g
    · rw [g, if_neg (show ¬ (decide ((1 : Int) = -1) = true) by decide), Int.one_mul]
    · rw [g, if_pos (show decide ((-1 : Int) = -1) = true by decide), List.length_cons]
      split <;> split <;> first | rfl | omega
theorem bad_even {a b : Int} {S : List Nat} (ha : a ≠ 0) (hb : b ≠ 0) (h : Plc S a b) : ((0 :: 2 :: S).filter fun p => decide (hil a b p = -1)).length % 2 = 0 := by
  have h1 := all_one ha hb h
  have h2 : prodH a b (0 :: 2 :: S) = 1 := by
    unfold AllOne at h1
    show hil a b 0 * (hil a b 2 * prodH a b S) = 1
    rw [← Int.mul_assoc]; exact h1
  rw [even_bad fun p hp => hil_cases a b (by
    rcases List.mem_cons.mp hp with rfl | hp
    · exact .inl rfl
    rcases List.mem_cons.mp hp with rfl | hp
    · exact .inr pr2
    exact .inr (h.ok p hp).1) ha hb] at h2
  split at h2
  · assumption
  · cases h2
end Hil

/-! The own look for x, y, z by a power of a prime. -/
namespace Hil
open NT
/-- x, y, z, not all multiples -/
def Look (a b : Int) (p w : Nat) : Prop := ∃ x y z : Nat, x < w ∧ y < w ∧ z < w ∧ (a * x * x + b * y * y) % (w : Int) = ((z * z % w : Nat) : Int) ∧ (z % p ≠ 0 ∨ x % p ≠ 0 ∨ y % p ≠ 0)
def lookB (an bn w : Nat) (L : List (Nat × Bool)) (lone every : Nat) : Bool := L.any fun s => L.any fun t => (lone.testBit ((an * s.1 + bn * t.1) % w)) || (every.testBit ((an * s.1 + bn * t.1) % w) && (s.2 || t.2))
/-- what is right of a list of squares, of their masks -/
structure SqOk (w p : Nat) (L : List (Nat × Bool)) (lone every : Nat) : Prop where
  a : ∀ x, x < w → (x * x % w, decide (x % p ≠ 0)) ∈ L
  b : ∀ s ∈ L, ∃ x, x < w ∧ x * x % w = s.1 ∧ decide (x % p ≠ 0) = s.2
  c : ∀ r, r < w → (lone.testBit r = true ↔ ∃ z, z < w ∧ z % p ≠ 0 ∧ z * z % w = r)
  d : ∀ r, r < w → (every.testBit r = true ↔ ∃ z, z < w ∧ z * z % w = r)
theorem look_iff {a b : Int} {p w : Nat} {L : List (Nat × Bool)} {lone every : Nat} (hw : 0 < w) (h : SqOk w p L lone every) : lookB (a % (w : Int)).toNat (b % (w : Int)).toNat w L lone every = true ↔ Look a b p w := by
  have ha : (((a % (w : Int)).toNat : Nat) : Int) = a % w := Int.toNat_of_nonneg (Int.emod_nonneg _ (by omega))
  have hb : (((b % (w : Int)).toNat : Nat) : Int) = b % w := Int.toNat_of_nonneg (Int.emod_nonneg _ (by omega))
  have key : ∀ x y : Nat, ((((a % (w : Int)).toNat * (x * x % w) + (b % (w : Int)).toNat * (y * y % w)) % w : Nat) : Int) = (a * x * x + b * y * y) % (w : Int) := fun x y => by
    rw [Int.natCast_emod, Int.natCast_add, Int.natCast_mul, Int.natCast_mul, ha, hb, Int.natCast_emod, Int.natCast_emod, Int.natCast_mul, Int.natCast_mul, Int.mul_assoc a, Int.mul_assoc b, Int.add_emod, ← Int.mul_emod, ← Int.mul_emod, ← Int.add_emod]
  unfold lookB Look
  simp only [List.any_eq_true, Bool.or_eq_true, Bool.and_eq_true]
  constructor
  · rintro ⟨s, hs, t, ht, hr⟩
    obtain ⟨x, hx, x1, x2⟩ := h.b s hs
    obtain ⟨y, hy, y1, y2⟩ := h.b t ht
    have k := key x y
    rw [x1, y1] at k
    have hlt := Nat.mod_lt ((a % (w : Int)).toNat * s.1 + (b % (w : Int)).toNat * t.1) hw
    rcases hr with hr | ⟨hr, hf⟩
    · obtain ⟨z, hz, z1, z2⟩ := (h.c _ hlt).mp hr
      exact ⟨x, y, z, hx, hy, hz, by rw [← k, z2], .inl z1⟩
    · obtain ⟨z, hz, z2⟩ := (h.d _ hlt).mp hr
      refine ⟨x, y, z, hx, hy, hz, by rw [← k, z2], ?_⟩
      rcases hf with hf | hf
      · rw [← x2] at hf; exact .inr (.inl (of_decide_eq_true hf))
      · rw [← y2] at hf; exact .inr (.inr (of_decide_eq_true hf))
  · rintro ⟨x, y, z, hx, hy, hz, e, hf⟩
    refine ⟨_, h.a x hx, _, h.a y hy, ?_⟩
    have k := key x y
    rw [e] at k
    have hlt := Nat.mod_lt ((a % (w : Int)).toNat * (x * x % w) + (b % (w : Int)).toNat * (y * y % w)) hw
    have k2 : ((a % (w : Int)).toNat * (x * x % w) + (b % (w : Int)).toNat * (y * y % w)) % w = z * z % w := by omega
    by_cases g : z % p = 0
    · refine .inr ⟨(h.d _ hlt).mpr ⟨z, hz, k2.symm⟩, ?_⟩
      rcases hf with f | f | f
      · exact absurd g f
      · exact .inl (decide_eq_true f)
      · exact .inr (decide_eq_true f)
    · exact .inl ((h.c _ hlt).mpr ⟨z, hz, g, k2.symm⟩)
def L64 : List (Nat × Bool) := [(0, false), (1, true), (4, false), (9, true), (16, false), (17, true), (25, true), (33, true), (36, false), (41, true), (49, true), (57, true)]
theorem ok64 : SqOk 64 2 L64 144680345676153346 144680414395695635 := by
  constructor
  · decide +kernel
  · intro s hs
    have : ∀ s ∈ L64, ((List.range 64).any fun x => decide (x * x % 64 = s.1) && (decide (decide (x % 2 ≠ 0) = s.2))) = true := by decide +kernel
    obtain ⟨x, hx, e⟩ := List.any_eq_true.mp (this s hs)
    rw [Bool.and_eq_true, decide_eq_true_eq, decide_eq_true_eq] at e
    exact ⟨x, List.mem_range.mp hx, e⟩
  · intro r hr
    have : ∀ r, r < 64 → Nat.testBit 144680345676153346 r = ((List.range 64).any fun z => decide (z % 2 ≠ 0) && decide (z * z % 64 = r)) := by decide +kernel
    rw [this r hr, List.any_eq_true]
    constructor
    · rintro ⟨z, hz, e⟩
      rw [Bool.and_eq_true, decide_eq_true_eq, decide_eq_true_eq] at e
      exact ⟨z, List.mem_range.mp hz, e⟩
    · rintro ⟨z, hz, e⟩
      exact ⟨z, List.mem_range.mpr hz, by rw [Bool.and_eq_true, decide_eq_true_eq, decide_eq_true_eq]; exact e⟩
  · intro r hr
    have : ∀ r, r < 64 → Nat.testBit 144680414395695635 r = ((List.range 64).any fun z => decide (z * z % 64 = r)) := by decide +kernel
    rw [this r hr, List.any_eq_true]
    constructor
    · rintro ⟨z, hz, e⟩
      exact ⟨z, List.mem_range.mp hz, of_decide_eq_true e⟩
    · rintro ⟨z, hz, e⟩
      exact ⟨z, List.mem_range.mpr hz, decide_eq_true e⟩
def L9 : List (Nat × Bool) := [(0, false), (1, true), (4, true), (7, true)]
theorem ok9 : SqOk 9 3 L9 146 147 := by
  constructor
  · decide +kernel
  · intro s hs
    have : ∀ s ∈ L9, ((List.range 9).any fun x => decide (x * x % 9 = s.1) && (decide (decide (x % 3 ≠ 0) = s.2))) = true := by decide +kernel
    obtain ⟨x, hx, e⟩ := List.any_eq_true.mp (this s hs)
    rw [Bool.and_eq_true, decide_eq_true_eq, decide_eq_true_eq] at e
    exact ⟨x, List.mem_range.mp hx, e⟩
  · intro r hr
    have : ∀ r, r < 9 → Nat.testBit 146 r = ((List.range 9).any fun z => decide (z % 3 ≠ 0) && decide (z * z % 9 = r)) := by decide +kernel
    rw [this r hr, List.any_eq_true]
    constructor
    · rintro ⟨z, hz, e⟩
      rw [Bool.and_eq_true, decide_eq_true_eq, decide_eq_true_eq] at e
      exact ⟨z, List.mem_range.mp hz, e⟩
    · rintro ⟨z, hz, e⟩
      exact ⟨z, List.mem_range.mpr hz, by rw [Bool.and_eq_true, decide_eq_true_eq, decide_eq_true_eq]; exact e⟩
  · intro r hr
    have : ∀ r, r < 9 → Nat.testBit 147 r = ((List.range 9).any fun z => decide (z * z % 9 = r)) := by decide +kernel
    rw [this r hr, List.any_eq_true]
    constructor
    · rintro ⟨z, hz, e⟩
      exact ⟨z, List.mem_range.mp hz, of_decide_eq_true e⟩
    · rintro ⟨z, hz, e⟩
      exact ⟨z, List.mem_range.mpr hz, decide_eq_true e⟩
def L27 : List (Nat × Bool) := [(0, false), (1, true), (4, true), (7, true), (9, false), (10, true), (13, true), (16, true), (19, true), (22, true), (25, true)]
theorem ok27 : SqOk 27 3 L27 38347922 38348435 := by
  constructor
  · decide +kernel
  · intro s hs
    have : ∀ s ∈ L27, ((List.range 27).any fun x => decide (x * x % 27 = s.1) && (decide (decide (x % 3 ≠ 0) = s.2))) = true := by decide +kernel
    obtain ⟨x, hx, e⟩ := List.any_eq_true.mp (this s hs)
    rw [Bool.and_eq_true, decide_eq_true_eq, decide_eq_true_eq] at e
    exact ⟨x, List.mem_range.mp hx, e⟩
  · intro r hr
    have : ∀ r, r < 27 → Nat.testBit 38347922 r = ((List.range 27).any fun z => decide (z % 3 ≠ 0) && decide (z * z % 27 = r)) := by decide +kernel
    rw [this r hr, List.any_eq_true]
    constructor
    · rintro ⟨z, hz, e⟩
      rw [Bool.and_eq_true, decide_eq_true_eq, decide_eq_true_eq] at e
      exact ⟨z, List.mem_range.mp hz, e⟩
    · rintro ⟨z, hz, e⟩
      exact ⟨z, List.mem_range.mpr hz, by rw [Bool.and_eq_true, decide_eq_true_eq, decide_eq_true_eq]; exact e⟩
  · intro r hr
    have : ∀ r, r < 27 → Nat.testBit 38348435 r = ((List.range 27).any fun z => decide (z * z % 27 = r)) := by decide +kernel
    rw [this r hr, List.any_eq_true]
    constructor
    · rintro ⟨z, hz, e⟩
      exact ⟨z, List.mem_range.mp hz, of_decide_eq_true e⟩
    · rintro ⟨z, hz, e⟩
      exact ⟨z, List.mem_range.mpr hz, decide_eq_true e⟩
def L25 : List (Nat × Bool) := [(0, false), (1, true), (4, true), (6, true), (9, true), (11, true), (14, true), (16, true), (19, true), (21, true), (24, true)]
theorem ok25 : SqOk 25 5 L25 19483218 19483219 := by
  constructor
  · decide +kernel
  · intro s hs
    have : ∀ s ∈ L25, ((List.range 25).any fun x => decide (x * x % 25 = s.1) && (decide (decide (x % 5 ≠ 0) = s.2))) = true := by decide +kernel
    obtain ⟨x, hx, e⟩ := List.any_eq_true.mp (this s hs)
    rw [Bool.and_eq_true, decide_eq_true_eq, decide_eq_true_eq] at e
    exact ⟨x, List.mem_range.mp hx, e⟩
  · intro r hr
    have : ∀ r, r < 25 → Nat.testBit 19483218 r = ((List.range 25).any fun z => decide (z % 5 ≠ 0) && decide (z * z % 25 = r)) := by decide +kernel
    rw [this r hr, List.any_eq_true]
    constructor
    · rintro ⟨z, hz, e⟩
      rw [Bool.and_eq_true, decide_eq_true_eq, decide_eq_true_eq] at e
      exact ⟨z, List.mem_range.mp hz, e⟩
    · rintro ⟨z, hz, e⟩
      exact ⟨z, List.mem_range.mpr hz, by rw [Bool.and_eq_true, decide_eq_true_eq, decide_eq_true_eq]; exact e⟩
  · intro r hr
    have : ∀ r, r < 25 → Nat.testBit 19483219 r = ((List.range 25).any fun z => decide (z * z % 25 = r)) := by decide +kernel
    rw [this r hr, List.any_eq_true]
    constructor
    · rintro ⟨z, hz, e⟩
      exact ⟨z, List.mem_range.mp hz, of_decide_eq_true e⟩
    · rintro ⟨z, hz, e⟩
      exact ⟨z, List.mem_range.mpr hz, decide_eq_true e⟩
def L125 : List (Nat × Bool) := [(0, false), (1, true), (4, true), (6, true), (9, true), (11, true), (14, true), (16, true), (19, true), (21, true), (24, true), (25, false), (26, true), (29, true), (31, true), (34, true), (36, true), (39, true), (41, true), (44, true), (46, true), (49, true), (51, true), (54, true), (56, true), (59, true), (61, true), (64, true), (66, true), (69, true), (71, true), (74, true), (76, true), (79, true), (81, true), (84, true), (86, true), (89, true), (91, true), (94, true), (96, true), (99, true), (100, false), (101, true), (104, true), (106, true), (109, true), (111, true), (114, true), (116, true), (119, true), (121, true), (124, true)]
theorem ok125 : SqOk 125 5 L125 24697913728132630412664286023273499218 24697914995783230640893687520010259027 := by
  constructor
  · decide +kernel
  · intro s hs
    have : ∀ s ∈ L125, ((List.range 125).any fun x => decide (x * x % 125 = s.1) && (decide (decide (x % 5 ≠ 0) = s.2))) = true := by decide +kernel
    obtain ⟨x, hx, e⟩ := List.any_eq_true.mp (this s hs)
    rw [Bool.and_eq_true, decide_eq_true_eq, decide_eq_true_eq] at e
    exact ⟨x, List.mem_range.mp hx, e⟩
  · intro r hr
    have : ∀ r, r < 125 → Nat.testBit 24697913728132630412664286023273499218 r = ((List.range 125).any fun z => decide (z % 5 ≠ 0) && decide (z * z % 125 = r)) := by decide +kernel
    rw [this r hr, List.any_eq_true]
    constructor
    · rintro ⟨z, hz, e⟩
      rw [Bool.and_eq_true, decide_eq_true_eq, decide_eq_true_eq] at e
      exact ⟨z, List.mem_range.mp hz, e⟩
    · rintro ⟨z, hz, e⟩
      exact ⟨z, List.mem_range.mpr hz, by rw [Bool.and_eq_true, decide_eq_true_eq, decide_eq_true_eq]; exact e⟩
  · intro r hr
    have : ∀ r, r < 125 → Nat.testBit 24697914995783230640893687520010259027 r = ((List.range 125).any fun z => decide (z * z % 125 = r)) := by decide +kernel
    rw [this r hr, List.any_eq_true]
    constructor
    · rintro ⟨z, hz, e⟩
      exact ⟨z, List.mem_range.mp hz, of_decide_eq_true e⟩
    · rintro ⟨z, hz, e⟩
      exact ⟨z, List.mem_range.mpr hz, decide_eq_true e⟩
def freeL : List Int := [1, 2, 3, 5, 6, 7, 10, 11, 13, 14, 15, -1, -2, -3, -5, -6, -7, -10, -11, -13, -14, -15]
/-- of a number into which no square goes -/
def tC (p : Nat) (a : Int) : Nat := if a % (p : Int) = 0 then 1 else 0
def uC (p : Nat) (a : Int) : Int := if a % (p : Int) = 0 then a / (p : Int) else a
def hilC (a b : Int) (p : Nat) : Int := if p = 2 then H2 (tC 2 a) (uC 2 a) (tC 2 b) (uC 2 b) else Hp p (tC p a) (uC p a) (tC p b) (uC p b)
def wOf (a b : Int) (p : Nat) : Nat := if p = 2 then 64 else if a % (p : Int) = 0 ∧ b % (p : Int) = 0 then p * p * p else p * p
def lkB (a b : Int) (p : Nat) : Bool :=
  if p = 2 then lookB (a % 64).toNat (b % 64).toNat 64 L64 144680345676153346 144680414395695635
  else if a % (p : Int) = 0 ∧ b % (p : Int) = 0 then (if p = 3 then lookB (a % 27).toNat (b % 27).toNat 27 L27 38347922 38348435 else lookB (a % 125).toNat (b % 125).toNat 125 L125 24697913728132630412664286023273499218 24697914995783230640893687520010259027)
  else (if p = 3 then lookB (a % 9).toNat (b % 9).toNat 9 L9 146 147 else lookB (a % 25).toNat (b % 25).toNat 25 L25 19483218 19483219)
theorem sqf : ∀ a ∈ freeL, a ≠ 0 ∧ ∀ p ∈ [2, 3, 5], ¬ a % ((p : Nat) : Int) = 0 ∨ ¬ (a / (p : Int)) % (p : Int) = 0 := by decide +kernel
theorem chk2 : ∀ a ∈ freeL, ∀ b ∈ freeL, lkB a b 2 = decide (hilC a b 2 = 1) := by decide +kernel
theorem chk3 : ∀ a ∈ freeL, ∀ b ∈ freeL, lkB a b 3 = decide (hilC a b 3 = 1) := by decide +kernel
theorem chk5 : ∀ a ∈ freeL, ∀ b ∈ freeL, lkB a b 5 = decide (hilC a b 5 = 1) := by decide +kernel
theorem pr3 : PrimeN 3 := ⟨by decide, fun d h1 h2 => by have := Nat.mul_le_mul h1 h1; omega⟩
theorem pr5 : PrimeN 5 := ⟨by decide, fun d h1 h2 => by
  have : d < 3 := by
    rcases Nat.lt_or_ge d 3 with g | g
    · exact g
    · have := Nat.mul_le_mul g g; omega
  have : d = 2 := by omega
  subst this; decide⟩
theorem free_par {p : Nat} {a : Int} (hp : PrimeN p) (h : ¬ a % (p : Int) = 0 ∨ ¬ (a / (p : Int)) % (p : Int) = 0) : Par p a (tC p a) (uC p a) := by
  unfold tC uC
  by_cases g : a % (p : Int) = 0
  · rw [if_pos g, if_pos g]
    refine ⟨?_, fun k => ?_⟩
    · rw [Nat.pow_one]
      have := Int.mul_ediv_add_emod a p
      omega
    · rcases h with h | h
      · exact h g
      · exact h (Int.emod_eq_zero_of_dvd k)
  · rw [if_neg g, if_neg g]
    exact par0 fun k => g (Int.emod_eq_zero_of_dvd k)
theorem hil_free_eq {a b : Int} {p : Nat} (ha : a ∈ freeL) (hb : b ∈ freeL) (hp : p ∈ [2, 3, 5]) (hq : PrimeN p) : hil a b p = hilC a b p := by
  obtain ⟨e1, e2⟩ := vl_eq hq (free_par hq ((sqf a ha).2 p hp))
  obtain ⟨e3, e4⟩ := vl_eq hq (free_par hq ((sqf b hb).2 p hp))
  unfold hil hilC
  rw [if_neg (by have := hq.1; omega)]
  by_cases g : p = 2
  · subst g; rw [if_pos rfl, if_pos rfl, e1, e2, e3, e4]
  · rw [if_neg g, if_neg g, e1, e2, e3, e4]
theorem look_hil {a b : Int} {p : Nat} (ha : a ∈ freeL) (hb : b ∈ freeL) (hp : p ∈ [2, 3, 5]) : Look a b p (wOf a b p) ↔ hil a b p = 1 := by
  have hp' := hp
  simp only [List.mem_cons, List.not_mem_nil, or_false] at hp
  rcases hp with rfl | rfl | rfl
  · rw [hil_free_eq ha hb hp' pr2, ← decide_eq_true_eq (p := hilC a b 2 = 1), ← chk2 a ha b hb]
    exact (look_iff (by decide) ok64).symm
  · rw [hil_free_eq ha hb hp' pr3, ← decide_eq_true_eq (p := hilC a b 3 = 1), ← chk3 a ha b hb]
    unfold lkB wOf
    rw [if_neg (show ¬ (3 : Nat) = 2 by decide), if_neg (show ¬ (3 : Nat) = 2 by decide)]
    by_cases g : a % ((3 : Nat) : Int) = 0 ∧ b % ((3 : Nat) : Int) = 0
    · rw [if_pos g, if_pos g, if_pos rfl]; exact (look_iff (by decide) ok27).symm
    · rw [if_neg g, if_neg g, if_pos rfl]; exact (look_iff (by decide) ok9).symm
  · rw [hil_free_eq ha hb hp' pr5, ← decide_eq_true_eq (p := hilC a b 5 = 1), ← chk5 a ha b hb]
    unfold lkB wOf
    rw [if_neg (show ¬ (5 : Nat) = 2 by decide), if_neg (show ¬ (5 : Nat) = 2 by decide)]
    by_cases g : a % ((5 : Nat) : Int) = 0 ∧ b % ((5 : Nat) : Int) = 0
    · rw [if_pos g, if_pos g, if_neg (show ¬ (5 : Nat) = 3 by decide)]; exact (look_iff (by decide) ok125).symm
    · rw [if_neg g, if_neg g, if_neg (show ¬ (5 : Nat) = 3 by decide)]; exact (look_iff (by decide) ok25).symm
end Hil

/-! k02: the promises. -/
namespace K2
open PySem PySem.Spec PyProof.Rows L2 Sq NT
open Hil
/-- the addresses of the errors' classes, of the table of the def that makes lambdas -/
structure Ad where
  cBadInt : Addr
  cBadPrime : Addr
  P_law_right : Addr
def Ad.isE (Z : Ad) : Addr → Option Bool := fun x => if x = Z.cBadInt ∨ x = Z.cBadPrime then some true else none
def Ad.isSq (Z : Ad) : Addr → Option Bool := Z.isE
theorem Ad.eInt (Z : Ad) : Z.isE Z.cBadInt = some true := if_pos (.inl rfl)
theorem Ad.ePrime (Z : Ad) : Z.isE Z.cBadPrime = some true := if_pos (.inr rfl)
theorem Ad.isE_inv {Z : Ad} {C : Addr} {b : Bool} (h : Z.isE C = some b) : b = true ∧ (C = Z.cBadInt ∨ C = Z.cBadPrime) := by
  unfold Ad.isE at h
  split at h
  · cases h; exact ⟨rfl, by assumption⟩
  · cases h
def prD (z : Nat × Nat) : D := t2 (z.1 : Int) (z.2 : Int)
def natD (x : Nat) : D := .int (x : Int)
abbrev far12 : D → Bool := inB (-1000000000000) 1000000000000
def is0 : D → Bool
  | .int i => decide (i = 0)
  | _ => false
def live12 (d : D) : Bool := far12 d && !is0 d
def Lt (x : Int) : Prop := -1000000000000 ≤ x ∧ x ≤ 1000000000000
/-- the rest -/
def rs (a : Int) (n : Nat) : Nat := (a.fmod (n : Int)).toNat
def legP (r p : Nat) : Int := if r = 0 then 0 else if r ^ (p / 2) % p = 1 then 1 else -1
/-- a place up to 10 ** 12 -/
def PlD (d : D) (p : Nat) : Prop := d = natD p ∧ Pl p ∧ p ≤ 1000000000000
/-- the places of two ints, ascending -/
structure PlS (S : List Nat) (a b : Int) : Prop where
  asc : S.Pairwise (· < ·)
  mem : ∀ p, p ∈ S ↔ p = 0 ∨ p = 2 ∨ (PrimeN p ∧ ((p : Int) ∣ a ∨ (p : Int) ∣ b))
/-- the bad ones -/
structure BadS (B : List Nat) (a b : Int) : Prop where
  asc : B.Pairwise (· < ·)
  mem : ∀ p, p ∈ B ↔ (p = 0 ∨ p = 2 ∨ (PrimeN p ∧ ((p : Int) ∣ a ∨ (p : Int) ∣ b))) ∧ hil a b p = -1
def spX (P : List D → Mu → PQ → XQ → Prop) (m : ∀ {ds μ Q Q' X X'}, (∀ d μ', Q d μ' → Q' d μ') → (∀ C d μ', X C d μ' → X' C d μ') → P ds μ Q X → P ds μ Q' X') : SpD := ⟨P, m⟩
section
variable (Z : Ad)
def Sis_int : SpD := spQ (fun ds μ Q => ∃ d lo hi, ds = [d, .int lo, .int hi] ∧ Seen μ d ∧ Q (.bl (inB lo hi d)) μ) fun hQ ⟨d, lo, hi, h1, h2, h3⟩ => ⟨d, lo, hi, h1, h2, hQ _ _ h3⟩
def Slook_at_live : SpD := spX (fun ds μ Q X => ∃ d, ds = [d] ∧ Seen μ d ∧ (live12 d = false → X Z.cBadInt d μ) ∧ (live12 d = true → Q .non μ)) fun hQ hX ⟨d, h1, h2, h3, h4⟩ => ⟨d, h1, h2, fun z => hX _ _ _ (h3 z), fun z => hQ _ _ (h4 z)⟩
def Stold_factored : SpD := spQ (fun ds μ Q => ∃ n : Nat, ds = [.int (n : Int)] ∧ 1 ≤ n ∧ n ≤ 1000000000000 ∧ ∀ L p, FacS n L → μ p = none → Q (.ob p) (mset μ p (.lst (L.map prD)))) fun hQ ⟨n, h1, h2, h3, h4⟩ => ⟨n, h1, h2, h3, fun L p a b => hQ _ _ (h4 L p a b)⟩
def Stold_prime : SpD := spQ (fun ds μ Q => ∃ i : Int, ds = [.int i] ∧ Lt i ∧ ∀ b : Bool, (b = true ↔ ∃ n : Nat, i = n ∧ PrimeN n) → Q (.bl b) μ) fun hQ ⟨n, h1, h2, h3⟩ => ⟨n, h1, h2, fun b z => hQ _ _ (h3 b z)⟩
def Stold_power : SpD := spR fun ds r => ∃ (a : Int) (t m : Nat), ds = [.int a, .int (t : Int), .int (m : Int)] ∧ 1 ≤ m ∧ m ≤ 1000000000000 ∧ r = .int ((rs a m ^ t % m : Nat) : Int)
def Stold_legendre : SpD := spR fun ds r => ∃ (a : Int) (p : Nat), ds = [.int a, .int (p : Int)] ∧ 3 ≤ p ∧ p ≤ 1000000000000 ∧ p % 2 = 1 ∧ r = .int (legP (rs a p) p)
def Sparted : SpD := spQ (fun ds μ Q => ∃ (a : Int) (p : Nat), ds = [.int a, natD p] ∧ a ≠ 0 ∧ Lt a ∧ PrimeN p ∧ p ≤ 1000000000000 ∧ ∀ t u, Par p a t u → t ≤ 60 → Lt u → Q (t2 (t : Nat) u) μ) fun hQ ⟨a, p, h1, h2, h3, h4, h5, h6⟩ => ⟨a, p, h1, h2, h3, h4, h5, fun t u a b c => hQ _ _ (h6 t u a b c)⟩
def Stold_hilbert : SpD := spR fun ds r => ∃ (a b : Int) (p : Nat), ds = [.int a, .int b, natD p] ∧ a ≠ 0 ∧ b ≠ 0 ∧ Lt a ∧ Lt b ∧ Pl p ∧ p ≤ 1000000000000 ∧ r = .int (hil a b p)
def Seighth : SpD := spR fun ds r => ∃ u : Int, ds = [.int u] ∧ r = .int (e8 u)
def Slook_at_place : SpD := spX (fun ds μ Q X => ∃ d, ds = [d] ∧ Seen μ d ∧ (∀ p, PlD d p → Q .non μ) ∧ ((∀ p, ¬ PlD d p) → X Z.cBadPrime d μ)) fun hQ hX ⟨d, h1, h2, h3, h4⟩ => ⟨d, h1, h2, fun p z => hQ _ _ (h3 p z), fun z => hX _ _ _ (h4 z)⟩
def Shilbert : SpD := spX (fun ds μ Q X => ∃ d e f, ds = [d, e, f] ∧ Seen μ d ∧ Seen μ e ∧ Seen μ f ∧ ((live12 d = false ∧ X Z.cBadInt d μ) ∨ (live12 d = true ∧ live12 e = false ∧ X Z.cBadInt e μ) ∨ (live12 d = true ∧ live12 e = true ∧ (∀ p, ¬ PlD f p) ∧ X Z.cBadPrime f μ) ∨ ∃ (a b : Int) (p : Nat), d = .int a ∧ e = .int b ∧ f = natD p ∧ a ≠ 0 ∧ b ≠ 0 ∧ Lt a ∧ Lt b ∧ Pl p ∧ p ≤ 1000000000000 ∧ Q (.int (hil a b p)) μ))
  fun hQ hX ⟨d, e, f, h1, h2, h3, h4, h⟩ => ⟨d, e, f, h1, h2, h3, h4, h.elim (fun ⟨a, b⟩ => .inl ⟨a, hX _ _ _ b⟩) fun h => .inr (h.elim (fun ⟨a, b, c⟩ => .inl ⟨a, b, hX _ _ _ c⟩) fun h => .inr (h.elim (fun ⟨a, b, c, d⟩ => .inl ⟨a, b, c, hX _ _ _ d⟩) fun ⟨a, b, p, e1, e2, e3, e4, e5, e6, e7, e8, e9, q⟩ => .inr ⟨a, b, p, e1, e2, e3, e4, e5, e6, e7, e8, e9, hQ _ _ q⟩))⟩
def Splaces_of : SpD := spQ (fun ds μ Q => ∃ a b : Int, ds = [t2 a b] ∧ a ≠ 0 ∧ b ≠ 0 ∧ Lt a ∧ Lt b ∧ ∀ S l, PlS S a b → S.length ≤ 200 → μ l = none → Q (.ob l) (mset μ l (.lst (S.map natD)))) fun hQ ⟨a, b, h1, h2, h3, h4, h5, h6⟩ => ⟨a, b, h1, h2, h3, h4, h5, fun S l x y z => hQ _ _ (h6 S l x y z)⟩
def Sbad_places : SpD := spX (fun ds μ Q X => ∃ d e, ds = [d, e] ∧ Seen μ d ∧ Seen μ e ∧ ((live12 d = false ∧ X Z.cBadInt d μ) ∨ (live12 d = true ∧ live12 e = false ∧ X Z.cBadInt e μ) ∨ ∃ a b : Int, d = .int a ∧ e = .int b ∧ a ≠ 0 ∧ b ≠ 0 ∧ Lt a ∧ Lt b ∧ ∀ B, BadS B a b → Q (.tup (B.map natD)) μ))
  fun hQ hX ⟨d, e, h1, h2, h3, h⟩ => ⟨d, e, h1, h2, h3, h.elim (fun ⟨a, b⟩ => .inl ⟨a, hX _ _ _ b⟩) fun h => .inr (h.elim (fun ⟨a, b, c⟩ => .inl ⟨a, b, hX _ _ _ c⟩) fun ⟨a, b, e1, e2, e3, e4, e5, e6, q⟩ => .inr ⟨a, b, e1, e2, e3, e4, e5, e6, fun B k => hQ _ _ (q B k)⟩)⟩
def S_law_pot : SpD := spPot
def S_law_take : SpD := spTake
def S_law_of : SpD := spOfL
def S_law_cells : SpD := spCells
def S_law_factored : SpD := Stold_factored
def S_law_hilbert : SpD := spQ (fun ds μ Q => ∃ (a b : Int) (p : Nat), ds = [.int a, .int b, natD p] ∧ a ∈ freeL ∧ b ∈ freeL ∧ (p = 0 ∨ p ∈ [2, 3, 5]) ∧ Q (.int (hil a b p)) μ) fun hQ ⟨a, b, p, h1, h2, h3, h4, h5⟩ => ⟨a, b, p, h1, h2, h3, h4, hQ _ _ h5⟩
def S_law_free_drawn : SpD := spQ (fun ds μ Q => ∃ p n, ds = [.ob p] ∧ PotAt n μ p ∧ n + 2 ≤ 1000000 ∧ ∀ a μ', a ∈ freeL → PotX (n + 2) μ μ' p → Q (.int a) μ') fun hQ ⟨p, n, h1, h2, h3, h4⟩ => ⟨p, n, h1, h2, h3, fun a μ' x y => hQ _ _ (h4 a μ' x y)⟩
def S_law_live_drawn : SpD := spQ (fun ds μ Q => ∃ p n, ds = [.ob p, .int 900] ∧ PotAt n μ p ∧ n + 2 ≤ 1000000 ∧ ∀ a μ', a ≠ 0 → -900 ≤ a → a ≤ 900 → PotX (n + 2) μ μ' p → Q (.int a) μ') fun hQ ⟨p, n, h1, h2, h3, h4⟩ => ⟨p, n, h1, h2, h3, fun a μ' x y z w => hQ _ _ (h4 a μ' x y z w)⟩
abbrev qL : Str := ("_law_right.<locals>." : Str) ++ "<lambda>"
def S_law_right : SpD := spQ (fun ds μ Q => ∃ p, ds = [.ob p] ∧ PotAt 0 μ p ∧ μ Z.P_law_right = some (.tab qL) ∧ ∀ μ', PotTo 100000 μ μ' p → Q (.bl true) μ') fun hQ ⟨p, h1, h2, h3, h4⟩ => ⟨p, h1, h2, h3, fun μ' a => hQ _ _ (h4 μ' a)⟩
def Slaw : SpD := spQ (fun ds μ Q => ∃ ns : List Int, ds = [.rls (ns.map D.int)] ∧ ns.length ≤ 63 ∧ μ Z.P_law_right = some (.tab qL) ∧ Q (.bl true) μ) fun hQ ⟨ns, h1, h2, h3, h4⟩ => ⟨ns, h1, h2, h3, hQ _ _ h4⟩
end
end K2

set_option maxHeartbeats 8000000
/-! The walks, printed by gen2.py. -/
namespace K2
open PySem PySem.Spec PyProof.Rows L2 Sq
def top (i : Nat) : Stmt := PySem.Challenge.pw_squaresowed_k02_whole_symbols_at_all_pla.main.body.getD i (.Pass ⟨0, 0, 0, 0⟩)
/-- what the module says of the names -/
structure Txt (mg : Str → Option Value) : Prop where
  z_abs : mg "abs" = none
  z_all : mg "all" = none
  z_bool : mg "bool" = none
  z_int : mg "int" = none
  z_isinstance : mg "isinstance" = none
  z_len : mg "len" = none
  z_list : mg "list" = none
  z_max : mg "max" = none
  z_min : mg "min" = none
  z_range : mg "range" = none
  z_repr : mg "repr" = none
  z_set : mg "set" = none
  z_sorted : mg "sorted" = none
  z_sum : mg "sum" = none
  z_super : mg "super" = none
  z_tuple : mg "tuple" = none
  c_MOST_WHOLE : ∃ t, mg "MOST_WHOLE" = some (.int 1000000000000 t)
/-! ### is_int -/
abbrev sis_int : Stmt := top 5
abbrev Nis_int : List Str := ["value", "low", "high"]
theorem sc_is_int : FnScope Nis_int ["value", "low", "high"] (defScope sis_int) := ⟨rfl, rfl, rfl, by decide +kernel, rfl, by decide +kernel, by decide +kernel⟩
def wis_int (Z : Ad) : WS := wRet (wAndV (wIsi .int (wVar 0)) (wAndV (wNotV (wIsi .bool (wVar 0))) (wChainN (wVar 1) [(gLe, wVar 0), (gLe, wVar 2)])))
theorem der_is_int (Z : Ad) {P : Program} {w : World} {K : PySem.W.Frag} {mg : Str → Option Value} {base : Heap} {f : Addr} (T : Txt mg)  (cdv : Value) (A : Around) (outer : List Env) (s : Shared) (H : Hp) (E : XK) (hg : A.guards = some []) (hr : Room 0 (A.deeper (envOfC "is_int" (defScope sis_int) s.heap.objs.size f cdv))) :
    LSs (cxOf (L2.CX P w) P w K mg base Nis_int "is_int" (defScope sis_int) f cdv A outer s H E) (wxE E) (defBody sis_int) (wis_int Z) :=
  lss_one (ls_ret (le_and (le_isi (t := .int) T.z_isinstance T.z_int (by decide +kernel) (le_var 0)) (le_and (le_not (le_isi (t := .bool) T.z_isinstance T.z_bool (by decide +kernel) (le_var 0))) (le_one (le_chainN (le_var 1) (lch_cons od_le (le_var 0) (lch_last od_le (le_var 2))))))))
/-! ### told_factored -/
abbrev stold_factored : Stmt := top 8
abbrev Ntold_factored : List Str := ["number", "found", "rest", "step", "times"]
theorem sc_told_factored : FnScope Ntold_factored ["number"] (defScope stold_factored) := ⟨rfl, rfl, rfl, by decide +kernel, rfl, by decide +kernel, by decide +kernel⟩
def wtold_factored (Z : Ad) : WS := wSeq (wPar3 1 2 3 (wLst []) (wVar 0) (wC (.int 2))) (wSeq (wWhile (wTB (wOp gLe (wOp gMul (wVar 3) (wVar 3)) (wVar 2))) (wSeq (wSet 4 (wC (.int 0))) (wSeq (wWhile (wTB (wOp gEq (wOp gMod (wVar 2) (wVar 3)) (wC (.int 0)))) (wPar 2 4 (wOp gFdiv (wVar 2) (wVar 3)) (wOp gAdd (wVar 4) (wC (.int 1))))) (wSeq (wIf (wTB (wOp gGt (wVar 4) (wC (.int 0)))) (wExpr (wMt gAppend (wVar 1) [wTup [wVar 3, wVar 4]])) (wNext)) (wAug 3 gAddI (wIfE (wTB (wOp gEq (wVar 3) (wC (.int 2)))) (wC (.int 1)) (wC (.int 2)))))))) (wSeq (wIf (wTB (wOp gGt (wVar 2) (wC (.int 1)))) (wExpr (wMt gAppend (wVar 1) [wTup [wVar 2, wC (.int 1)]])) (wNext)) (wRet (wVar 1))))
theorem der_told_factored (Z : Ad) {P : Program} {w : World} {K : PySem.W.Frag} {mg : Str → Option Value} {base : Heap} {f : Addr} (T : Txt mg)  (cdv : Value) (A : Around) (outer : List Env) (s : Shared) (H : Hp) (E : XK) (hg : A.guards = some []) (hr : Room 0 (A.deeper (envOfC "told_factored" (defScope stold_factored) s.heap.objs.size f cdv))) :
    LSs (cxOf (L2.CX P w) P w K mg base Ntold_factored "told_factored" (defScope stold_factored) f cdv A outer s H E) (wxE E) (defBody stold_factored) (wtold_factored Z) :=
  lss_cons (ls_par3 1 2 3 sc_told_factored.nd (la_cons (le_lst (la_nil) (show 0 ≤ 1000 by decide)) (la_cons (le_var 0) (la_cons (le_int) (la_nil))))) (lss_cons (ls_while (passes_of rfl) (lt_cmp od_le (le_op od_mul (le_var 3) (le_var 3)) (le_var 2)) (lss_cons (ls_set 4 sc_told_factored.nd (le_int)) (lss_cons (ls_while (passes_of rfl) (lt_cmp (od_eq hr.units) (le_op od_mod (le_var 2) (le_var 3)) (le_int)) (lss_one (ls_par 2 4 sc_told_factored.nd (la_cons (le_op od_fdiv (le_var 2) (le_var 3)) (la_cons (le_op od_add (le_var 4) (le_int)) (la_nil)))))) (lss_cons (ls_if (lt_cmp od_gt (le_var 4) (le_int)) (lss_one (ls_expr (le_append (le_var 1) (la_cons (le_tup (la_cons (le_var 3) (la_cons (le_var 4) (la_nil))) (show 2 ≤ 1000 by decide)) (la_nil))))) (lss_nil)) (lss_one (ls_aug 3 sc_told_factored.nd od_iadd (le_ifE (lt_cmp (od_eq hr.units) (le_var 3) (le_int)) (le_int) (le_int)))))))) (lss_cons (ls_if (lt_cmp od_gt (le_var 2) (le_int)) (lss_one (ls_expr (le_append (le_var 1) (la_cons (le_tup (la_cons (le_var 2) (la_cons (le_int) (la_nil))) (show 2 ≤ 1000 by decide)) (la_nil))))) (lss_nil)) (lss_one (ls_ret (le_var 1)))))
/-! ### look_at_live -/
abbrev slook_at_live : Stmt := top 9
abbrev Nlook_at_live : List Str := ["number"]
theorem sc_look_at_live : FnScope Nlook_at_live ["number"] (defScope slook_at_live) := ⟨rfl, rfl, rfl, by decide +kernel, rfl, by decide +kernel, by decide +kernel⟩
def wlook_at_live (Z : Ad) : WS := wIf (wOrT (wNotT (wTB (wCall Sis_int [wVar 0, wNeg (wC (.int 1000000000000)), wC (.int 1000000000000)]))) (wTB (wOp gEq (wVar 0) (wC (.int 0))))) (wRaise Z.cBadInt (wVar 0)) (wNext)
theorem der_look_at_live (Z : Ad) {P : Program} {w : World} {K : PySem.W.Frag} {mg : Str → Option Value} {base : Heap} {f : Addr} (T : Txt mg) (F_is_int : FnD P w K mg base 1 "is_int" ["value", "low", "high"] [] Sis_int) (E_BadInt : ErrD P w K mg base "BadInt" Z.cBadInt) (cdv : Value) (A : Around) (outer : List Env) (s : Shared) (H : Hp) (E : XK) (hg : A.guards = some []) (hr : Room 2 (A.deeper (envOfC "look_at_live" (defScope slook_at_live) s.heap.objs.size f cdv))) :
    LSs (cxOf (L2.CX P w) P w K mg base Nlook_at_live "look_at_live" (defScope slook_at_live) f cdv A outer s H E) (wxE E) (defBody slook_at_live) (wlook_at_live Z) :=
  lss_one (ls_if ((lw_or (lt_not (lt_val (le_call F_is_int hg hr (takes_of rfl rfl rfl rfl) (la_cons (le_var 0) (la_cons (le_neg (le_globI T.c_MOST_WHOLE)) (la_cons (le_globI T.c_MOST_WHOLE) (la_nil))))))) (lw_or1 (lt_cmp (od_eq hr.units) (le_var 0) (le_int)))).lt) (lss_one (ls_raise E_BadInt rfl (takes_of rfl rfl rfl rfl) (la_cons (le_var 0) (la_nil)) hr)) (lss_nil))
/-! ### told_prime -/
abbrev stold_prime : Stmt := top 10
abbrev Ntold_prime : List Str := ["number"]
theorem sc_told_prime : FnScope Ntold_prime ["number"] (defScope stold_prime) := ⟨rfl, rfl, rfl, by decide +kernel, rfl, by decide +kernel, by decide +kernel⟩
def wtold_prime (Z : Ad) : WS := wRet (wAndV (wOp gGt (wVar 0) (wC (.int 1))) (wOp gEq (wCall Stold_factored [wVar 0]) (wLst [wTup [wVar 0, wC (.int 1)]])))
theorem der_told_prime (Z : Ad) {P : Program} {w : World} {K : PySem.W.Frag} {mg : Str → Option Value} {base : Heap} {f : Addr} (T : Txt mg) (F_told_factored : FnD P w K mg base 1 "told_factored" ["number"] [] Stold_factored) (cdv : Value) (A : Around) (outer : List Env) (s : Shared) (H : Hp) (E : XK) (hg : A.guards = some []) (hr : Room 1 (A.deeper (envOfC "told_prime" (defScope stold_prime) s.heap.objs.size f cdv))) :
    LSs (cxOf (L2.CX P w) P w K mg base Ntold_prime "told_prime" (defScope stold_prime) f cdv A outer s H E) (wxE E) (defBody stold_prime) (wtold_prime Z) :=
  lss_one (ls_ret (le_and (le_cmp od_gt (le_var 0) (le_int)) (le_one (le_cmp (od_eq hr.units) (le_call F_told_factored hg hr (takes_of rfl rfl rfl rfl) (la_cons (le_var 0) (la_nil))) (le_lst (la_cons (le_tup (la_cons (le_var 0) (la_cons (le_int) (la_nil))) (show 2 ≤ 1000 by decide)) (la_nil)) (show 1 ≤ 1000 by decide))))))
/-! ### told_power -/
abbrev stold_power : Stmt := top 11
abbrev Ntold_power : List Str := ["number", "times", "whole", "found", "power", "left"]
theorem sc_told_power : FnScope Ntold_power ["number", "times", "whole"] (defScope stold_power) := ⟨rfl, rfl, rfl, by decide +kernel, rfl, by decide +kernel, by decide +kernel⟩
def wtold_power (Z : Ad) : WS := wSeq (wPar3 3 4 5 (wOp gMod (wC (.int 1)) (wVar 2)) (wOp gMod (wVar 0) (wVar 2)) (wVar 1)) (wSeq (wWhile (wTB (wOp gGt (wVar 5) (wC (.int 0)))) (wSeq (wIf (wTB (wOp gEq (wOp gMod (wVar 5) (wC (.int 2))) (wC (.int 1)))) (wSet 3 (wOp gMod (wOp gMul (wVar 3) (wVar 4)) (wVar 2))) (wNext)) (wPar 4 5 (wOp gMod (wOp gMul (wVar 4) (wVar 4)) (wVar 2)) (wOp gFdiv (wVar 5) (wC (.int 2)))))) (wRet (wVar 3)))
theorem der_told_power (Z : Ad) {P : Program} {w : World} {K : PySem.W.Frag} {mg : Str → Option Value} {base : Heap} {f : Addr} (T : Txt mg)  (cdv : Value) (A : Around) (outer : List Env) (s : Shared) (H : Hp) (E : XK) (hg : A.guards = some []) (hr : Room 0 (A.deeper (envOfC "told_power" (defScope stold_power) s.heap.objs.size f cdv))) :
    LSs (cxOf (L2.CX P w) P w K mg base Ntold_power "told_power" (defScope stold_power) f cdv A outer s H E) (wxE E) (defBody stold_power) (wtold_power Z) :=
  lss_cons (ls_par3 3 4 5 sc_told_power.nd (la_cons (le_op od_mod (le_int) (le_var 2)) (la_cons (le_op od_mod (le_var 0) (le_var 2)) (la_cons (le_var 1) (la_nil))))) (lss_cons (ls_while (passes_of rfl) (lt_cmp od_gt (le_var 5) (le_int)) (lss_cons (ls_if (lt_cmp (od_eq hr.units) (le_op od_mod (le_var 5) (le_int)) (le_int)) (lss_one (ls_set 3 sc_told_power.nd (le_op od_mod (le_op od_mul (le_var 3) (le_var 4)) (le_var 2)))) (lss_nil)) (lss_one (ls_par 4 5 sc_told_power.nd (la_cons (le_op od_mod (le_op od_mul (le_var 4) (le_var 4)) (le_var 2)) (la_cons (le_op od_fdiv (le_var 5) (le_int)) (la_nil))))))) (lss_one (ls_ret (le_var 3))))
/-! ### told_legendre -/
abbrev stold_legendre : Stmt := top 13
abbrev Ntold_legendre : List Str := ["number", "prime"]
theorem sc_told_legendre : FnScope Ntold_legendre ["number", "prime"] (defScope stold_legendre) := ⟨rfl, rfl, rfl, by decide +kernel, rfl, by decide +kernel, by decide +kernel⟩
def wtold_legendre (Z : Ad) : WS := wSeq (wIf (wTB (wOp gEq (wOp gMod (wVar 0) (wVar 1)) (wC (.int 0)))) (wRet (wC (.int 0))) (wNext)) (wRet (wIfE (wTB (wOp gEq (wCall Stold_power [wVar 0, wOp gFdiv (wOp gSub (wVar 1) (wC (.int 1))) (wC (.int 2)), wVar 1]) (wC (.int 1)))) (wC (.int 1)) (wNeg (wC (.int 1)))))
theorem der_told_legendre (Z : Ad) {P : Program} {w : World} {K : PySem.W.Frag} {mg : Str → Option Value} {base : Heap} {f : Addr} (T : Txt mg) (F_told_power : FnD P w K mg base 1 "told_power" ["number", "times", "whole"] [] Stold_power) (cdv : Value) (A : Around) (outer : List Env) (s : Shared) (H : Hp) (E : XK) (hg : A.guards = some []) (hr : Room 1 (A.deeper (envOfC "told_legendre" (defScope stold_legendre) s.heap.objs.size f cdv))) :
    LSs (cxOf (L2.CX P w) P w K mg base Ntold_legendre "told_legendre" (defScope stold_legendre) f cdv A outer s H E) (wxE E) (defBody stold_legendre) (wtold_legendre Z) :=
  lss_cons (ls_if (lt_cmp (od_eq hr.units) (le_op od_mod (le_var 0) (le_var 1)) (le_int)) (lss_one (ls_ret (le_int))) (lss_nil)) (lss_one (ls_ret (le_ifE (lt_cmp (od_eq hr.units) (le_call F_told_power hg hr (takes_of rfl rfl rfl rfl) (la_cons (le_var 0) (la_cons (le_op od_fdiv (le_op od_sub (le_var 1) (le_int)) (le_int)) (la_cons (le_var 1) (la_nil))))) (le_int)) (le_int) (le_neg (le_int)))))
/-! ### parted -/
abbrev sparted : Stmt := top 14
abbrev Nparted : List Str := ["number", "prime", "times"]
theorem sc_parted : FnScope Nparted ["number", "prime"] (defScope sparted) := ⟨rfl, rfl, rfl, by decide +kernel, rfl, by decide +kernel, by decide +kernel⟩
def wparted (Z : Ad) : WS := wSeq (wSet 2 (wC (.int 0))) (wSeq (wWhile (wTB (wOp gEq (wOp gMod (wVar 0) (wVar 1)) (wC (.int 0)))) (wPar 0 2 (wOp gFdiv (wVar 0) (wVar 1)) (wOp gAdd (wVar 2) (wC (.int 1))))) (wRet (wTup [wVar 2, wVar 0])))
theorem der_parted (Z : Ad) {P : Program} {w : World} {K : PySem.W.Frag} {mg : Str → Option Value} {base : Heap} {f : Addr} (T : Txt mg)  (cdv : Value) (A : Around) (outer : List Env) (s : Shared) (H : Hp) (E : XK) (hg : A.guards = some []) (hr : Room 0 (A.deeper (envOfC "parted" (defScope sparted) s.heap.objs.size f cdv))) :
    LSs (cxOf (L2.CX P w) P w K mg base Nparted "parted" (defScope sparted) f cdv A outer s H E) (wxE E) (defBody sparted) (wparted Z) :=
  lss_cons (ls_set 2 sc_parted.nd (le_int)) (lss_cons (ls_while (passes_of rfl) (lt_cmp (od_eq hr.units) (le_op od_mod (le_var 0) (le_var 1)) (le_int)) (lss_one (ls_par 0 2 sc_parted.nd (la_cons (le_op od_fdiv (le_var 0) (le_var 1)) (la_cons (le_op od_add (le_var 2) (le_int)) (la_nil)))))) (lss_one (ls_ret (le_tup (la_cons (le_var 2) (la_cons (le_var 0) (la_nil))) (show 2 ≤ 1000 by decide)))))
/-! ### told_hilbert -/
abbrev stold_hilbert : Stmt := top 15
abbrev Ntold_hilbert : List Str := ["one", "other", "prime", "mine", "left", "its", "rest", "odd", "sign"]
theorem sc_told_hilbert : FnScope Ntold_hilbert ["one", "other", "prime"] (defScope stold_hilbert) := ⟨rfl, rfl, rfl, by decide +kernel, rfl, by decide +kernel, by decide +kernel⟩
def wtold_hilbert (Z : Ad) : WS := wSeq (wIf (wTB (wOp gEq (wVar 2) (wC (.int 0)))) (wRet (wIfE (wAndT (wTB (wOp gLt (wVar 0) (wC (.int 0)))) (wTB (wOp gLt (wVar 1) (wC (.int 0))))) (wNeg (wC (.int 1))) (wC (.int 1)))) (wNext)) (wSeq (wAsg (wCall Sparted [wVar 0, wVar 2]) (gT [gN 3, gN 4])) (wSeq (wAsg (wCall Sparted [wVar 1, wVar 2]) (gT [gN 5, gN 6])) (wSeq (wIf (wTB (wOp gEq (wVar 2) (wC (.int 2)))) (wSeq (wSet 7 (wOp gAdd (wOp gAdd (wOp gMul (wOp gFdiv (wOp gSub (wVar 4) (wC (.int 1))) (wC (.int 2))) (wOp gFdiv (wOp gSub (wVar 6) (wC (.int 1))) (wC (.int 2)))) (wOp gMul (wVar 3) (wCall Seighth [wVar 6]))) (wOp gMul (wVar 5) (wCall Seighth [wVar 4])))) (wRet (wIfE (wTB (wOp gEq (wOp gMod (wVar 7) (wC (.int 2))) (wC (.int 0)))) (wC (.int 1)) (wNeg (wC (.int 1)))))) (wNext)) (wSeq (wSet 8 (wIfE (wTB (wOp gEq (wOp gMod (wOp gMul (wOp gMul (wVar 3) (wVar 5)) (wOp gFdiv (wOp gSub (wVar 2) (wC (.int 1))) (wC (.int 2)))) (wC (.int 2))) (wC (.int 1)))) (wNeg (wC (.int 1))) (wC (.int 1)))) (wSeq (wIf (wTB (wOp gEq (wOp gMod (wVar 3) (wC (.int 2))) (wC (.int 1)))) (wSet 8 (wOp gMul (wVar 8) (wCall Stold_legendre [wVar 6, wVar 2]))) (wNext)) (wSeq (wIf (wTB (wOp gEq (wOp gMod (wVar 5) (wC (.int 2))) (wC (.int 1)))) (wSet 8 (wOp gMul (wVar 8) (wCall Stold_legendre [wVar 4, wVar 2]))) (wNext)) (wRet (wVar 8))))))))
theorem der_told_hilbert (Z : Ad) {P : Program} {w : World} {K : PySem.W.Frag} {mg : Str → Option Value} {base : Heap} {f : Addr} (T : Txt mg) (F_eighth : FnD P w K mg base 1 "eighth" ["odd"] [] Seighth) (F_parted : FnD P w K mg base 1 "parted" ["number", "prime"] [] Sparted) (F_told_legendre : FnD P w K mg base 2 "told_legendre" ["number", "prime"] [] Stold_legendre) (cdv : Value) (A : Around) (outer : List Env) (s : Shared) (H : Hp) (E : XK) (hg : A.guards = some []) (hr : Room 2 (A.deeper (envOfC "told_hilbert" (defScope stold_hilbert) s.heap.objs.size f cdv))) :
    LSs (cxOf (L2.CX P w) P w K mg base Ntold_hilbert "told_hilbert" (defScope stold_hilbert) f cdv A outer s H E) (wxE E) (defBody stold_hilbert) (wtold_hilbert Z) :=
  lss_cons (ls_if (lt_cmp (od_eq hr.units) (le_var 2) (le_int)) (lss_one (ls_ret (le_ifE ((lw_and (lt_cmp od_lt (le_var 0) (le_int)) (lw_and1 (lt_cmp od_lt (le_var 1) (le_int)))).lt) (le_neg (le_int)) (le_int)))) (lss_nil)) (lss_cons (ls_asg (le_call F_parted hg hr (takes_of rfl rfl rfl rfl) (la_cons (le_var 0) (la_cons (le_var 2) (la_nil)))) (lg_tup (lgs_cons (lg_name 3 sc_told_hilbert.nd) (lgs_cons (lg_name 4 sc_told_hilbert.nd) (lgs_nil))))) (lss_cons (ls_asg (le_call F_parted hg hr (takes_of rfl rfl rfl rfl) (la_cons (le_var 1) (la_cons (le_var 2) (la_nil)))) (lg_tup (lgs_cons (lg_name 5 sc_told_hilbert.nd) (lgs_cons (lg_name 6 sc_told_hilbert.nd) (lgs_nil))))) (lss_cons (ls_if (lt_cmp (od_eq hr.units) (le_var 2) (le_int)) (lss_cons (ls_set 7 sc_told_hilbert.nd (le_op od_add (le_op od_add (le_op od_mul (le_op od_fdiv (le_op od_sub (le_var 4) (le_int)) (le_int)) (le_op od_fdiv (le_op od_sub (le_var 6) (le_int)) (le_int))) (le_op od_mul (le_var 3) (le_call F_eighth hg hr (takes_of rfl rfl rfl rfl) (la_cons (le_var 6) (la_nil))))) (le_op od_mul (le_var 5) (le_call F_eighth hg hr (takes_of rfl rfl rfl rfl) (la_cons (le_var 4) (la_nil)))))) (lss_one (ls_ret (le_ifE (lt_cmp (od_eq hr.units) (le_op od_mod (le_var 7) (le_int)) (le_int)) (le_int) (le_neg (le_int)))))) (lss_nil)) (lss_cons (ls_set 8 sc_told_hilbert.nd (le_ifE (lt_cmp (od_eq hr.units) (le_op od_mod (le_op od_mul (le_op od_mul (le_var 3) (le_var 5)) (le_op od_fdiv (le_op od_sub (le_var 2) (le_int)) (le_int))) (le_int)) (le_int)) (le_neg (le_int)) (le_int))) (lss_cons (ls_if (lt_cmp (od_eq hr.units) (le_op od_mod (le_var 3) (le_int)) (le_int)) (lss_one (ls_set 8 sc_told_hilbert.nd (le_op od_mul (le_var 8) (le_call F_told_legendre hg hr (takes_of rfl rfl rfl rfl) (la_cons (le_var 6) (la_cons (le_var 2) (la_nil))))))) (lss_nil)) (lss_cons (ls_if (lt_cmp (od_eq hr.units) (le_op od_mod (le_var 5) (le_int)) (le_int)) (lss_one (ls_set 8 sc_told_hilbert.nd (le_op od_mul (le_var 8) (le_call F_told_legendre hg hr (takes_of rfl rfl rfl rfl) (la_cons (le_var 4) (la_cons (le_var 2) (la_nil))))))) (lss_nil)) (lss_one (ls_ret (le_var 8)))))))))
/-! ### eighth -/
abbrev seighth : Stmt := top 16
abbrev Neighth : List Str := ["odd"]
theorem sc_eighth : FnScope Neighth ["odd"] (defScope seighth) := ⟨rfl, rfl, rfl, by decide +kernel, rfl, by decide +kernel, by decide +kernel⟩
def weighth (Z : Ad) : WS := wRet (wB gInt [wOp gIn (wOp gMod (wVar 0) (wC (.int 8))) (wTup [wC (.int 3), wC (.int 5)])])
theorem der_eighth (Z : Ad) {P : Program} {w : World} {K : PySem.W.Frag} {mg : Str → Option Value} {base : Heap} {f : Addr} (T : Txt mg)  (cdv : Value) (A : Around) (outer : List Env) (s : Shared) (H : Hp) (E : XK) (hg : A.guards = some []) (hr : Room 0 (A.deeper (envOfC "eighth" (defScope seighth) s.heap.objs.size f cdv))) :
    LSs (cxOf (L2.CX P w) P w K mg base Neighth "eighth" (defScope seighth) f cdv A outer s H E) (wxE E) (defBody seighth) (weighth Z) :=
  lss_one (ls_ret (le_callTy cd_int T.z_int (by decide +kernel) (la_cons (le_cmp (od_in (u65 hr)) (le_op od_mod (le_var 0) (le_int)) (le_tup (la_cons (le_int) (la_cons (le_int) (la_nil))) (show 2 ≤ 1000 by decide))) (la_nil))))
/-! ### look_at_place -/
abbrev slook_at_place : Stmt := top 17
abbrev Nlook_at_place : List Str := ["prime"]
theorem sc_look_at_place : FnScope Nlook_at_place ["prime"] (defScope slook_at_place) := ⟨rfl, rfl, rfl, by decide +kernel, rfl, by decide +kernel, by decide +kernel⟩
def wlook_at_place (Z : Ad) : WS := wIf (wOrT (wNotT (wTB (wCall Sis_int [wVar 0, wC (.int 0), wC (.int 1000000000000)]))) (wAndT (wTB (wOp gNe (wVar 0) (wC (.int 0)))) (wNotT (wTB (wCall Stold_prime [wVar 0]))))) (wRaise Z.cBadPrime (wVar 0)) (wNext)
theorem der_look_at_place (Z : Ad) {P : Program} {w : World} {K : PySem.W.Frag} {mg : Str → Option Value} {base : Heap} {f : Addr} (T : Txt mg) (F_is_int : FnD P w K mg base 1 "is_int" ["value", "low", "high"] [] Sis_int) (F_told_prime : FnD P w K mg base 2 "told_prime" ["number"] [] Stold_prime) (E_BadPrime : ErrD P w K mg base "BadPrime" Z.cBadPrime) (cdv : Value) (A : Around) (outer : List Env) (s : Shared) (H : Hp) (E : XK) (hg : A.guards = some []) (hr : Room 2 (A.deeper (envOfC "look_at_place" (defScope slook_at_place) s.heap.objs.size f cdv))) :
    LSs (cxOf (L2.CX P w) P w K mg base Nlook_at_place "look_at_place" (defScope slook_at_place) f cdv A outer s H E) (wxE E) (defBody slook_at_place) (wlook_at_place Z) :=
  lss_one (ls_if ((lw_or (lt_not (lt_val (le_call F_is_int hg hr (takes_of rfl rfl rfl rfl) (la_cons (le_var 0) (la_cons (le_int) (la_cons (le_globI T.c_MOST_WHOLE) (la_nil))))))) (lw_or1 ((lw_and (lt_cmp (od_ne hr.units) (le_var 0) (le_int)) (lw_and1 (lt_not (lt_val (le_call F_told_prime hg hr (takes_of rfl rfl rfl rfl) (la_cons (le_var 0) (la_nil))))))).lt))).lt) (lss_one (ls_raise E_BadPrime rfl (takes_of rfl rfl rfl rfl) (la_cons (le_var 0) (la_nil)) hr)) (lss_nil))
/-! ### hilbert -/
abbrev shilbert : Stmt := top 18
abbrev Nhilbert : List Str := ["one", "other", "prime"]
theorem sc_hilbert : FnScope Nhilbert ["one", "other", "prime"] (defScope shilbert) := ⟨rfl, rfl, rfl, by decide +kernel, rfl, by decide +kernel, by decide +kernel⟩
def whilbert (Z : Ad) : WS := wSeq (wExpr (wCall (Slook_at_live Z) [wVar 0])) (wSeq (wExpr (wCall (Slook_at_live Z) [wVar 1])) (wSeq (wExpr (wCall (Slook_at_place Z) [wVar 2])) (wRet (wCall Stold_hilbert [wVar 0, wVar 1, wVar 2]))))
theorem der_hilbert (Z : Ad) {P : Program} {w : World} {K : PySem.W.Frag} {mg : Str → Option Value} {base : Heap} {f : Addr} (T : Txt mg) (F_look_at_live : FnD P w K mg base 3 "look_at_live" ["number"] [] (Slook_at_live Z)) (F_look_at_place : FnD P w K mg base 3 "look_at_place" ["prime"] [] (Slook_at_place Z)) (F_told_hilbert : FnD P w K mg base 3 "told_hilbert" ["one", "other", "prime"] [] Stold_hilbert) (cdv : Value) (A : Around) (outer : List Env) (s : Shared) (H : Hp) (E : XK) (hg : A.guards = some []) (hr : Room 3 (A.deeper (envOfC "hilbert" (defScope shilbert) s.heap.objs.size f cdv))) :
    LSs (cxOf (L2.CX P w) P w K mg base Nhilbert "hilbert" (defScope shilbert) f cdv A outer s H E) (wxE E) (defBody shilbert) (whilbert Z) :=
  lss_cons (ls_expr (le_call F_look_at_live hg hr (takes_of rfl rfl rfl rfl) (la_cons (le_var 0) (la_nil)))) (lss_cons (ls_expr (le_call F_look_at_live hg hr (takes_of rfl rfl rfl rfl) (la_cons (le_var 1) (la_nil)))) (lss_cons (ls_expr (le_call F_look_at_place hg hr (takes_of rfl rfl rfl rfl) (la_cons (le_var 2) (la_nil)))) (lss_one (ls_ret (le_call F_told_hilbert hg hr (takes_of rfl rfl rfl rfl) (la_cons (le_var 0) (la_cons (le_var 1) (la_cons (le_var 2) (la_nil)))))))))
/-! ### places_of -/
abbrev splaces_of : Stmt := top 19
abbrev Nplaces_of : List Str := ["numbers", "found", "number", "prime", "times"]
theorem sc_places_of : FnScope Nplaces_of ["numbers"] (defScope splaces_of) := ⟨rfl, rfl, rfl, by decide +kernel, rfl, by decide +kernel, by decide +kernel⟩
def wplaces_of (Z : Ad) : WS := wSeq (wSet 1 (wLst [wC (.int 0), wC (.int 2)])) (wSeq (wFor (wSeqI (wVar 0)) (gN 2) (wExpr (wMt gExtend (wVar 1) [wLc (wSeqI (wCall Stold_factored [wB gAbs [wVar 2]])) (CT.many [3, 4]) (wYes) (wVar 3)]))) (wRet (wSortSet (wVar 1))))
theorem der_places_of (Z : Ad) {P : Program} {w : World} {K : PySem.W.Frag} {mg : Str → Option Value} {base : Heap} {f : Addr} (T : Txt mg) (F_told_factored : FnD P w K mg base 1 "told_factored" ["number"] [] Stold_factored) (cdv : Value) (A : Around) (outer : List Env) (s : Shared) (H : Hp) (E : XK) (hg : A.guards = some []) (hr : Room 1 (A.deeper (envOfC "places_of" (defScope splaces_of) s.heap.objs.size f cdv))) :
    LSs (cxOf (L2.CX P w) P w K mg base Nplaces_of "places_of" (defScope splaces_of) f cdv A outer s H E) (wxE E) (defBody splaces_of) (wplaces_of Z) :=
  lss_cons (ls_set 1 sc_places_of.nd (le_lst (la_cons (le_int) (la_cons (le_int) (la_nil))) (show 2 ≤ 1000 by decide))) (lss_cons (ls_for (passes_of rfl) (li_seq (le_var 0)) (lg_name 2 sc_places_of.nd) (lss_one (ls_expr (le_extend (le_var 1) (la_cons (le_lc sc_places_of.nd (li_seq (le_call F_told_factored hg hr (takes_of rfl rfl rfl rfl) (la_cons (le_callB cd_abs T.z_abs (by decide +kernel) (la_cons (le_var 2) (la_nil))) (la_nil)))) (ok := by show BlkOk Nplaces_of (defScope splaces_of) _ _; exact ⟨rfl, by decide +kernel, by decide +kernel, by decide +kernel, by decide +kernel⟩) (own := [("prime", 3), ("times", 4)]) (hv := rfl) (hg := (fun _ _ _ _ _ => pg_many (pgn_cons 3 sc_places_of.nd (pgn_cons 4 sc_places_of.nd (pgn_nil))))) (ht := (fun _ _ _ _ _ => lps_nil)) (he := (fun _ _ _ _ _ => le_var 3))) (la_nil)))))) (lss_one (ls_ret (le_sortSet T.z_sorted T.z_set (le_var 1)))))
/-! ### bad_places -/
abbrev sbad_places : Stmt := top 20
abbrev Nbad_places : List Str := ["one", "other", "prime"]
theorem sc_bad_places : FnScope Nbad_places ["one", "other"] (defScope sbad_places) := ⟨rfl, rfl, rfl, by decide +kernel, rfl, by decide +kernel, by decide +kernel⟩
def wbad_places (Z : Ad) : WS := wSeq (wExpr (wCall (Slook_at_live Z) [wVar 0])) (wSeq (wExpr (wCall (Slook_at_live Z) [wVar 1])) (wRet (wB gTuple [wLc (wSeqI (wCall Splaces_of [wTup [wVar 0, wVar 1]])) (CT.one 2) (wTB (wOp gEq (wCall Stold_hilbert [wVar 0, wVar 1, wVar 2]) (wNeg (wC (.int 1))))) (wVar 2)])))
theorem der_bad_places (Z : Ad) {P : Program} {w : World} {K : PySem.W.Frag} {mg : Str → Option Value} {base : Heap} {f : Addr} (T : Txt mg) (F_look_at_live : FnD P w K mg base 3 "look_at_live" ["number"] [] (Slook_at_live Z)) (F_places_of : FnD P w K mg base 2 "places_of" ["numbers"] [] Splaces_of) (F_told_hilbert : FnD P w K mg base 3 "told_hilbert" ["one", "other", "prime"] [] Stold_hilbert) (cdv : Value) (A : Around) (outer : List Env) (s : Shared) (H : Hp) (E : XK) (hg : A.guards = some []) (hr : Room 3 (A.deeper (envOfC "bad_places" (defScope sbad_places) s.heap.objs.size f cdv))) :
    LSs (cxOf (L2.CX P w) P w K mg base Nbad_places "bad_places" (defScope sbad_places) f cdv A outer s H E) (wxE E) (defBody sbad_places) (wbad_places Z) :=
  lss_cons (ls_expr (le_call F_look_at_live hg hr (takes_of rfl rfl rfl rfl) (la_cons (le_var 0) (la_nil)))) (lss_cons (ls_expr (le_call F_look_at_live hg hr (takes_of rfl rfl rfl rfl) (la_cons (le_var 1) (la_nil)))) (lss_one (ls_ret (le_callTy cd_tuple T.z_tuple (by decide +kernel) (la_cons (le_lc sc_bad_places.nd (li_seq (le_call F_places_of hg hr (takes_of rfl rfl rfl rfl) (la_cons (le_tup (la_cons (le_var 0) (la_cons (le_var 1) (la_nil))) (show 2 ≤ 1000 by decide)) (la_nil)))) (ok := by show BlkOk Nbad_places (defScope sbad_places) _ _; exact ⟨rfl, by decide +kernel, by decide +kernel, by decide +kernel, by decide +kernel⟩) (own := [("prime", 2)]) (hv := rfl) (hg := (fun _ _ _ _ _ => pg_one 2 sc_bad_places.nd)) (ht := (fun _ _ _ _ _ => lps_one (lt_cmp (od_eq hr.units) (le_call F_told_hilbert hg hr LamX.takes0 (la_cons (le_var 0) (la_cons (le_var 1) (la_cons (le_var 2) (la_nil))))) (le_neg (le_int))))) (he := (fun _ _ _ _ _ => le_var 2))) (la_nil))))))
/-! ### _law_pot -/
abbrev s_law_pot : Stmt := top 22
abbrev N_law_pot : List Str := ["script", "place", "cell", "own", "small"]
theorem sc__law_pot : FnScope N_law_pot ["script", "place"] (defScope s_law_pot) := ⟨rfl, rfl, rfl, by decide +kernel, rfl, by decide +kernel, by decide +kernel⟩
def w_law_pot (Z : Ad) : WS := wSeq (wSet 2 (wIfE (wTB (wOp gLt (wVar 1) (wB gLen [wVar 0]))) (wOp gIx (wVar 0) (wVar 1)) (wOp gAdd (wOp gAdd (wOp gMod (wB gInt [wB gSum [wSl (wVar 0) (wNoP) (wPart (wC (.int 1)))]]) (wC (.int 1000303))) (wOp gMul (wC (.int 5231)) (wVar 1))) (wC (.int 3671))))) (wSeq (wSet 3 (wOp gMul (wOp gMod (wB gInt [wB gAbs [wVar 2]]) (wOp gPowW (wOp gPowW (wC (.int 10)) (wC (.int 60))) (wC (.int 5)))) (wB gInt [wOp gGe (wB gAbs [wVar 2]) (wOp gPowW (wC (.int 10)) (wC (.int 18)))]))) (wSeq (wSet 4 (wOp gMod (wB gInt [wVar 2]) (wC (.int 2305843009213693951)))) (wRet (wLst [wVar 3, wOp gMod (wB gInt [wOp gAdd (wOp gAdd (wOp gMul (wVar 4) (wC (.int 68213))) (wOp gMul (wOp gMul (wC (.int 11057)) (wVar 1)) (wVar 1))) (wC (.int 3019))]) (wC (.int 2305843009213693921)), wC (.int 0)]))))
theorem der__law_pot (Z : Ad) {P : Program} {w : World} {K : PySem.W.Frag} {mg : Str → Option Value} {base : Heap} {f : Addr} (T : Txt mg)  (cdv : Value) (A : Around) (outer : List Env) (s : Shared) (H : Hp) (E : XK) (hg : A.guards = some []) (hr : Room 0 (A.deeper (envOfC "_law_pot" (defScope s_law_pot) s.heap.objs.size f cdv))) :
    LSs (cxOf (L2.CX P w) P w K mg base N_law_pot "_law_pot" (defScope s_law_pot) f cdv A outer s H E) (wxE E) (defBody s_law_pot) (w_law_pot Z) :=
  lss_cons (ls_set 2 sc__law_pot.nd (le_ifE (lt_cmp od_lt (le_var 1) (le_callB cd_len T.z_len (by decide +kernel) (la_cons (le_var 0) (la_nil)))) (le_ix (le_var 0) (le_var 1)) (le_op od_add (le_op od_add (le_op od_mod (le_callTy cd_int T.z_int (by decide +kernel) (la_cons (le_callB (cd_sum rfl) T.z_sum (by decide +kernel) (la_cons (le_sl (le_var 0) (lo_none) (lo_some (le_int))) (la_nil))) (la_nil))) (le_int)) (le_op od_mul (le_int) (le_var 1))) (le_int)))) (lss_cons (ls_set 3 sc__law_pot.nd (le_op od_mul (le_op od_mod (le_callTy cd_int T.z_int (by decide +kernel) (la_cons (le_callB cd_abs T.z_abs (by decide +kernel) (la_cons (le_var 2) (la_nil))) (la_nil))) (le_op od_powW (le_op od_powW (le_int) (le_int)) (le_int))) (le_callTy cd_int T.z_int (by decide +kernel) (la_cons (le_cmp od_ge (le_callB cd_abs T.z_abs (by decide +kernel) (la_cons (le_var 2) (la_nil))) (le_op od_powW (le_int) (le_int))) (la_nil))))) (lss_cons (ls_set 4 sc__law_pot.nd (le_op od_mod (le_callTy cd_int T.z_int (by decide +kernel) (la_cons (le_var 2) (la_nil))) (le_int))) (lss_one (ls_ret (le_lst (la_cons (le_var 3) (la_cons (le_op od_mod (le_callTy cd_int T.z_int (by decide +kernel) (la_cons (le_op od_add (le_op od_add (le_op od_mul (le_var 4) (le_int)) (le_op od_mul (le_op od_mul (le_int) (le_var 1)) (le_var 1))) (le_int)) (la_nil))) (le_int)) (la_cons (le_int) (la_nil)))) (show 3 ≤ 1000 by decide))))))
/-! ### _law_take -/
abbrev s_law_take : Stmt := top 23
abbrev N_law_take : List Str := ["pot", "upto", "digit", "prime", "blend"]
theorem sc__law_take : FnScope N_law_take ["pot", "upto"] (defScope s_law_take) := ⟨rfl, rfl, rfl, by decide +kernel, rfl, by decide +kernel, by decide +kernel⟩
def w_law_take (Z : Ad) : WS := wSeq (wIf (wTB (wOp gGt (wOp gIx (wVar 0) (wC (.int 0))) (wC (.int 0)))) (wSeq (wSet 2 (wOp gMod (wB gInt [wOp gIx (wVar 0) (wC (.int 0))]) (wVar 1))) (wSeq (wAsg (wOp gFdiv (wOp gIx (wVar 0) (wC (.int 0))) (wVar 1)) (gS (wVar 0) (wC (.int 0)))) (wRet (wVar 2)))) (wNext)) (wSeq (wAsg (wOp gAdd (wOp gIx (wVar 0) (wC (.int 2))) (wC (.int 1))) (gS (wVar 0) (wC (.int 2)))) (wSeq (wSet 3 (wOp gIx (wLst [wC (.int 2147483647), wC (.int 2147483629), wC (.int 2147483587), wC (.int 2147483579), wC (.int 2147483563)]) (wOp gMod (wB gInt [wOp gIx (wVar 0) (wC (.int 2))]) (wC (.int 5))))) (wSeq (wSet 4 (wOp gMod (wB gInt [wOp gPowW (wB gInt [wOp gAdd (wOp gAdd (wOp gIx (wVar 0) (wC (.int 1))) (wOp gMul (wOp gMul (wC (.int 97213)) (wOp gIx (wVar 0) (wC (.int 2)))) (wOp gIx (wVar 0) (wC (.int 2))))) (wC (.int 3671))]) (wC (.int 3))]) (wVar 3))) (wSeq (wSet 4 (wOp gMod (wB gInt [wOp gMul (wVar 4) (wOp gAdd (wOp gMod (wB gInt [wVar 4]) (wC (.int 13711))) (wOp gMul (wC (.int 431)) (wOp gIx (wVar 0) (wC (.int 2)))))]) (wC (.int 2305843009213693907)))) (wRet (wOp gMod (wB gInt [wOp gFdiv (wVar 4) (wC (.int 233))]) (wVar 1)))))))
theorem der__law_take (Z : Ad) {P : Program} {w : World} {K : PySem.W.Frag} {mg : Str → Option Value} {base : Heap} {f : Addr} (T : Txt mg)  (cdv : Value) (A : Around) (outer : List Env) (s : Shared) (H : Hp) (E : XK) (hg : A.guards = some []) (hr : Room 0 (A.deeper (envOfC "_law_take" (defScope s_law_take) s.heap.objs.size f cdv))) :
    LSs (cxOf (L2.CX P w) P w K mg base N_law_take "_law_take" (defScope s_law_take) f cdv A outer s H E) (wxE E) (defBody s_law_take) (w_law_take Z) :=
  lss_cons (ls_if (lt_cmp od_gt (le_ix (le_var 0) (le_int)) (le_int)) (lss_cons (ls_set 2 sc__law_take.nd (le_op od_mod (le_callTy cd_int T.z_int (by decide +kernel) (la_cons (le_ix (le_var 0) (le_int)) (la_nil))) (le_var 1))) (lss_cons (ls_asg (le_op od_fdiv (le_ix (le_var 0) (le_int)) (le_var 1)) (lg_sub (le_var 0) (le_int))) (lss_one (ls_ret (le_var 2))))) (lss_nil)) (lss_cons (ls_asg (le_op od_add (le_ix (le_var 0) (le_int)) (le_int)) (lg_sub (le_var 0) (le_int))) (lss_cons (ls_set 3 sc__law_take.nd (le_ix (le_lst (la_cons (le_int) (la_cons (le_int) (la_cons (le_int) (la_cons (le_int) (la_cons (le_int) (la_nil)))))) (show 5 ≤ 1000 by decide)) (le_op od_mod (le_callTy cd_int T.z_int (by decide +kernel) (la_cons (le_ix (le_var 0) (le_int)) (la_nil))) (le_int)))) (lss_cons (ls_set 4 sc__law_take.nd (le_op od_mod (le_callTy cd_int T.z_int (by decide +kernel) (la_cons (le_op od_powW (le_callTy cd_int T.z_int (by decide +kernel) (la_cons (le_op od_add (le_op od_add (le_ix (le_var 0) (le_int)) (le_op od_mul (le_op od_mul (le_int) (le_ix (le_var 0) (le_int))) (le_ix (le_var 0) (le_int)))) (le_int)) (la_nil))) (le_int)) (la_nil))) (le_var 3))) (lss_cons (ls_set 4 sc__law_take.nd (le_op od_mod (le_callTy cd_int T.z_int (by decide +kernel) (la_cons (le_op od_mul (le_var 4) (le_op od_add (le_op od_mod (le_callTy cd_int T.z_int (by decide +kernel) (la_cons (le_var 4) (la_nil))) (le_int)) (le_op od_mul (le_int) (le_ix (le_var 0) (le_int))))) (la_nil))) (le_int))) (lss_one (ls_ret (le_op od_mod (le_callTy cd_int T.z_int (by decide +kernel) (la_cons (le_op od_fdiv (le_var 4) (le_int)) (la_nil))) (le_var 1))))))))
/-! ### _law_of -/
abbrev s_law_of : Stmt := top 24
abbrev N_law_of : List Str := ["pot", "some"]
theorem sc__law_of : FnScope N_law_of ["pot", "some"] (defScope s_law_of) := ⟨rfl, rfl, rfl, by decide +kernel, rfl, by decide +kernel, by decide +kernel⟩
def w_law_of (Z : Ad) : WS := wRet (wOp gIx (wVar 1) (wCall S_law_take [wVar 0, wB gLen [wVar 1]]))
theorem der__law_of (Z : Ad) {P : Program} {w : World} {K : PySem.W.Frag} {mg : Str → Option Value} {base : Heap} {f : Addr} (T : Txt mg) (F__law_take : FnD P w K mg base 1 "_law_take" ["pot", "upto"] [] S_law_take) (cdv : Value) (A : Around) (outer : List Env) (s : Shared) (H : Hp) (E : XK) (hg : A.guards = some []) (hr : Room 1 (A.deeper (envOfC "_law_of" (defScope s_law_of) s.heap.objs.size f cdv))) :
    LSs (cxOf (L2.CX P w) P w K mg base N_law_of "_law_of" (defScope s_law_of) f cdv A outer s H E) (wxE E) (defBody s_law_of) (w_law_of Z) :=
  lss_one (ls_ret (le_ix (le_var 1) (le_call F__law_take hg hr (takes_of rfl rfl rfl rfl) (la_cons (le_var 0) (la_cons (le_callB cd_len T.z_len (by decide +kernel) (la_cons (le_var 1) (la_nil))) (la_nil))))))
/-! ### _law_cells -/
abbrev s_law_cells : Stmt := top 25
abbrev N_law_cells : List Str := ["script", "most"]
theorem sc__law_cells : FnScope N_law_cells ["script", "most"] (defScope s_law_cells) := ⟨rfl, rfl, rfl, by decide +kernel, rfl, by decide +kernel, by decide +kernel⟩
def w_law_cells (Z : Ad) : WS := wRet (wLstRg1 (wB gMax2 [wC (.int 1), wB gMin2 [wVar 1, wB gLen [wVar 0]]]))
theorem der__law_cells (Z : Ad) {P : Program} {w : World} {K : PySem.W.Frag} {mg : Str → Option Value} {base : Heap} {f : Addr} (T : Txt mg)  (cdv : Value) (A : Around) (outer : List Env) (s : Shared) (H : Hp) (E : XK) (hg : A.guards = some []) (hr : Room 0 (A.deeper (envOfC "_law_cells" (defScope s_law_cells) s.heap.objs.size f cdv))) :
    LSs (cxOf (L2.CX P w) P w K mg base N_law_cells "_law_cells" (defScope s_law_cells) f cdv A outer s H E) (wxE E) (defBody s_law_cells) (w_law_cells Z) :=
  lss_one (ls_ret (le_listRg1 T.z_list T.z_range (le_callB (cd_max2 rfl) T.z_max (by decide +kernel) (la_cons (le_int) (la_cons (le_callB (cd_min2 rfl) T.z_min (by decide +kernel) (la_cons (le_var 1) (la_cons (le_callB cd_len T.z_len (by decide +kernel) (la_cons (le_var 0) (la_nil))) (la_nil)))) (la_nil))))))
/-! ### _law_factored -/
abbrev s_law_factored : Stmt := top 27
abbrev N_law_factored : List Str := ["number", "found", "rest", "step", "times"]
theorem sc__law_factored : FnScope N_law_factored ["number"] (defScope s_law_factored) := ⟨rfl, rfl, rfl, by decide +kernel, rfl, by decide +kernel, by decide +kernel⟩
def w_law_factored (Z : Ad) : WS := wSeq (wPar3 1 2 3 (wLst []) (wVar 0) (wC (.int 2))) (wSeq (wWhile (wTB (wOp gLe (wOp gMul (wVar 3) (wVar 3)) (wVar 2))) (wSeq (wSet 4 (wC (.int 0))) (wSeq (wWhile (wTB (wOp gEq (wOp gMod (wVar 2) (wVar 3)) (wC (.int 0)))) (wPar 2 4 (wOp gFdiv (wVar 2) (wVar 3)) (wOp gAdd (wVar 4) (wC (.int 1))))) (wSeq (wSet 1 (wOp gAdd (wVar 1) (wOp gMul (wLst [wTup [wVar 3, wVar 4]]) (wB gInt [wOp gGt (wVar 4) (wC (.int 0))])))) (wSet 3 (wOp gAdd (wVar 3) (wC (.int 1)))))))) (wRet (wOp gAdd (wVar 1) (wOp gMul (wLst [wTup [wVar 2, wC (.int 1)]]) (wB gInt [wOp gGt (wVar 2) (wC (.int 1))])))))
theorem der__law_factored (Z : Ad) {P : Program} {w : World} {K : PySem.W.Frag} {mg : Str → Option Value} {base : Heap} {f : Addr} (T : Txt mg)  (cdv : Value) (A : Around) (outer : List Env) (s : Shared) (H : Hp) (E : XK) (hg : A.guards = some []) (hr : Room 0 (A.deeper (envOfC "_law_factored" (defScope s_law_factored) s.heap.objs.size f cdv))) :
    LSs (cxOf (L2.CX P w) P w K mg base N_law_factored "_law_factored" (defScope s_law_factored) f cdv A outer s H E) (wxE E) (defBody s_law_factored) (w_law_factored Z) :=
  lss_cons (ls_par3 1 2 3 sc__law_factored.nd (la_cons (le_lst (la_nil) (show 0 ≤ 1000 by decide)) (la_cons (le_var 0) (la_cons (le_int) (la_nil))))) (lss_cons (ls_while (passes_of rfl) (lt_cmp od_le (le_op od_mul (le_var 3) (le_var 3)) (le_var 2)) (lss_cons (ls_set 4 sc__law_factored.nd (le_int)) (lss_cons (ls_while (passes_of rfl) (lt_cmp (od_eq hr.units) (le_op od_mod (le_var 2) (le_var 3)) (le_int)) (lss_one (ls_par 2 4 sc__law_factored.nd (la_cons (le_op od_fdiv (le_var 2) (le_var 3)) (la_cons (le_op od_add (le_var 4) (le_int)) (la_nil)))))) (lss_cons (ls_set 1 sc__law_factored.nd (le_op od_add (le_var 1) (le_op od_mul (le_lst (la_cons (le_tup (la_cons (le_var 3) (la_cons (le_var 4) (la_nil))) (show 2 ≤ 1000 by decide)) (la_nil)) (show 1 ≤ 1000 by decide)) (le_callTy cd_int T.z_int (by decide +kernel) (la_cons (le_cmp od_gt (le_var 4) (le_int)) (la_nil)))))) (lss_one (ls_set 3 sc__law_factored.nd (le_op od_add (le_var 3) (le_int)))))))) (lss_one (ls_ret (le_op od_add (le_var 1) (le_op od_mul (le_lst (la_cons (le_tup (la_cons (le_var 2) (la_cons (le_int) (la_nil))) (show 2 ≤ 1000 by decide)) (la_nil)) (show 1 ≤ 1000 by decide)) (le_callTy cd_int T.z_int (by decide +kernel) (la_cons (le_cmp od_gt (le_var 2) (le_int)) (la_nil))))))))
/-! ### _law_hilbert -/
abbrev s_law_hilbert : Stmt := top 28
abbrev N_law_hilbert : List Str := ["one", "other", "prime", "whole", "lone", "every", "z", "x", "y", "rest"]
theorem sc__law_hilbert : FnScope N_law_hilbert ["one", "other", "prime"] (defScope s_law_hilbert) := ⟨rfl, rfl, rfl, by decide +kernel, rfl, by decide +kernel, by decide +kernel⟩
def w_law_hilbert (Z : Ad) : WS := wSeq (wIf (wTB (wOp gEq (wVar 2) (wC (.int 0)))) (wRet (wIfE (wAndT (wTB (wOp gLt (wVar 0) (wC (.int 0)))) (wTB (wOp gLt (wVar 1) (wC (.int 0))))) (wNeg (wC (.int 1))) (wC (.int 1)))) (wNext)) (wSeq (wSet 3 (wIfE (wTB (wOp gEq (wVar 2) (wC (.int 2)))) (wC (.int 64)) (wIfE (wAndT (wTB (wOp gEq (wOp gMod (wVar 0) (wVar 2)) (wC (.int 0)))) (wTB (wOp gEq (wOp gMod (wVar 1) (wVar 2)) (wC (.int 0))))) (wOp gMul (wOp gMul (wVar 2) (wVar 2)) (wVar 2)) (wOp gMul (wVar 2) (wVar 2))))) (wSeq (wPar 4 5 (wDct [] []) (wDct [] [])) (wSeq (wFor (wRng1 (wVar 3)) (gN 6) (wSeq (wAsg (wC (.bl true)) (gSK (wVar 5) (wOp gMod (wOp gMul (wVar 6) (wVar 6)) (wVar 3)))) (wIf (wTB (wOp gNe (wOp gMod (wVar 6) (wVar 2)) (wC (.int 0)))) (wAsg (wC (.bl true)) (gSK (wVar 4) (wOp gMod (wOp gMul (wVar 6) (wVar 6)) (wVar 3)))) (wNext)))) (wSeq (wFor (wRng1 (wVar 3)) (gN 7) (wFor (wRng1 (wVar 3)) (gN 8) (wSeq (wSet 9 (wOp gMod (wOp gAdd (wOp gMul (wOp gMul (wVar 0) (wVar 7)) (wVar 7)) (wOp gMul (wOp gMul (wVar 1) (wVar 8)) (wVar 8))) (wVar 3))) (wIf (wOrT (wTB (wOp gInK (wVar 9) (wVar 4))) (wAndT (wTB (wOp gInK (wVar 9) (wVar 5))) (wOrT (wTB (wOp gNe (wOp gMod (wVar 7) (wVar 2)) (wC (.int 0)))) (wTB (wOp gNe (wOp gMod (wVar 8) (wVar 2)) (wC (.int 0))))))) (wRet (wC (.int 1))) (wNext))))) (wRet (wNeg (wC (.int 1))))))))
theorem der__law_hilbert (Z : Ad) {P : Program} {w : World} {K : PySem.W.Frag} {mg : Str → Option Value} {base : Heap} {f : Addr} (T : Txt mg)  (cdv : Value) (A : Around) (outer : List Env) (s : Shared) (H : Hp) (E : XK) (hg : A.guards = some []) (hr : Room 0 (A.deeper (envOfC "_law_hilbert" (defScope s_law_hilbert) s.heap.objs.size f cdv))) :
    LSs (cxOf (L2.CX P w) P w K mg base N_law_hilbert "_law_hilbert" (defScope s_law_hilbert) f cdv A outer s H E) (wxE E) (defBody s_law_hilbert) (w_law_hilbert Z) :=
  lss_cons (ls_if (lt_cmp (od_eq hr.units) (le_var 2) (le_int)) (lss_one (ls_ret (le_ifE ((lw_and (lt_cmp od_lt (le_var 0) (le_int)) (lw_and1 (lt_cmp od_lt (le_var 1) (le_int)))).lt) (le_neg (le_int)) (le_int)))) (lss_nil)) (lss_cons (ls_set 3 sc__law_hilbert.nd (le_ifE (lt_cmp (od_eq hr.units) (le_var 2) (le_int)) (le_int) (le_ifE ((lw_and (lt_cmp (od_eq hr.units) (le_op od_mod (le_var 0) (le_var 2)) (le_int)) (lw_and1 (lt_cmp (od_eq hr.units) (le_op od_mod (le_var 1) (le_var 2)) (le_int)))).lt) (le_op od_mul (le_op od_mul (le_var 2) (le_var 2)) (le_var 2)) (le_op od_mul (le_var 2) (le_var 2))))) (lss_cons (ls_par 4 5 sc__law_hilbert.nd (la_cons (le_dct0) (la_cons (le_dct0) (la_nil)))) (lss_cons (ls_for (passes_of rfl) (li_rng1 T.z_range (la_cons (le_var 3) (la_nil))) (lg_name 6 sc__law_hilbert.nd) (lss_cons (ls_asg (le_bl) (lg_subK (u65 hr) (le_var 5) (le_op od_mod (le_op od_mul (le_var 6) (le_var 6)) (le_var 3)))) (lss_one (ls_if (lt_cmp (od_ne hr.units) (le_op od_mod (le_var 6) (le_var 2)) (le_int)) (lss_one (ls_asg (le_bl) (lg_subK (u65 hr) (le_var 4) (le_op od_mod (le_op od_mul (le_var 6) (le_var 6)) (le_var 3))))) (lss_nil))))) (lss_cons (ls_for (passes_of rfl) (li_rng1 T.z_range (la_cons (le_var 3) (la_nil))) (lg_name 7 sc__law_hilbert.nd) (lss_one (ls_for (passes_of rfl) (li_rng1 T.z_range (la_cons (le_var 3) (la_nil))) (lg_name 8 sc__law_hilbert.nd) (lss_cons (ls_set 9 sc__law_hilbert.nd (le_op od_mod (le_op od_add (le_op od_mul (le_op od_mul (le_var 0) (le_var 7)) (le_var 7)) (le_op od_mul (le_op od_mul (le_var 1) (le_var 8)) (le_var 8))) (le_var 3))) (lss_one (ls_if ((lw_or (lt_cmp (od_inK (u65 hr)) (le_var 9) (le_var 4)) (lw_or1 ((lw_and (lt_cmp (od_inK (u65 hr)) (le_var 9) (le_var 5)) (lw_and1 ((lw_or (lt_cmp (od_ne hr.units) (le_op od_mod (le_var 7) (le_var 2)) (le_int)) (lw_or1 (lt_cmp (od_ne hr.units) (le_op od_mod (le_var 8) (le_var 2)) (le_int)))).lt))).lt))).lt) (lss_one (ls_ret (le_int))) (lss_nil))))))) (lss_one (ls_ret (le_neg (le_int))))))))
/-! ### _law_free_drawn -/
abbrev s_law_free_drawn : Stmt := top 29
abbrev N_law_free_drawn : List Str := ["pot", "some"]
theorem sc__law_free_drawn : FnScope N_law_free_drawn ["pot"] (defScope s_law_free_drawn) := ⟨rfl, rfl, rfl, by decide +kernel, rfl, by decide +kernel, by decide +kernel⟩
def w_law_free_drawn (Z : Ad) : WS := wSeq (wSet 1 (wLst [wC (.int 1), wC (.int 2), wC (.int 3), wC (.int 5), wC (.int 6), wC (.int 7), wC (.int 10), wC (.int 11), wC (.int 13), wC (.int 14), wC (.int 15)])) (wRet (wOp gMul (wB gInt [wCall S_law_of [wVar 0, wVar 1]]) (wCall S_law_of [wVar 0, wLst [wC (.int 1), wNeg (wC (.int 1))]])))
theorem der__law_free_drawn (Z : Ad) {P : Program} {w : World} {K : PySem.W.Frag} {mg : Str → Option Value} {base : Heap} {f : Addr} (T : Txt mg) (F__law_of : FnD P w K mg base 2 "_law_of" ["pot", "some"] [] S_law_of) (cdv : Value) (A : Around) (outer : List Env) (s : Shared) (H : Hp) (E : XK) (hg : A.guards = some []) (hr : Room 2 (A.deeper (envOfC "_law_free_drawn" (defScope s_law_free_drawn) s.heap.objs.size f cdv))) :
    LSs (cxOf (L2.CX P w) P w K mg base N_law_free_drawn "_law_free_drawn" (defScope s_law_free_drawn) f cdv A outer s H E) (wxE E) (defBody s_law_free_drawn) (w_law_free_drawn Z) :=
  lss_cons (ls_set 1 sc__law_free_drawn.nd (le_lst (la_cons (le_int) (la_cons (le_int) (la_cons (le_int) (la_cons (le_int) (la_cons (le_int) (la_cons (le_int) (la_cons (le_int) (la_cons (le_int) (la_cons (le_int) (la_cons (le_int) (la_cons (le_int) (la_nil)))))))))))) (show 11 ≤ 1000 by decide))) (lss_one (ls_ret (le_op od_mul (le_callTy cd_int T.z_int (by decide +kernel) (la_cons (le_call F__law_of hg hr (takes_of rfl rfl rfl rfl) (la_cons (le_var 0) (la_cons (le_var 1) (la_nil)))) (la_nil))) (le_call F__law_of hg hr (takes_of rfl rfl rfl rfl) (la_cons (le_var 0) (la_cons (le_lst (la_cons (le_int) (la_cons (le_neg (le_int)) (la_nil))) (show 2 ≤ 1000 by decide)) (la_nil)))))))
/-! ### _law_live_drawn -/
abbrev s_law_live_drawn : Stmt := top 30
abbrev N_law_live_drawn : List Str := ["pot", "wide"]
theorem sc__law_live_drawn : FnScope N_law_live_drawn ["pot", "wide"] (defScope s_law_live_drawn) := ⟨rfl, rfl, rfl, by decide +kernel, rfl, by decide +kernel, by decide +kernel⟩
def w_law_live_drawn (Z : Ad) : WS := wRet (wOp gMul (wOp gAdd (wC (.int 1)) (wB gInt [wCall S_law_take [wVar 0, wVar 1]])) (wCall S_law_of [wVar 0, wLst [wC (.int 1), wNeg (wC (.int 1))]]))
theorem der__law_live_drawn (Z : Ad) {P : Program} {w : World} {K : PySem.W.Frag} {mg : Str → Option Value} {base : Heap} {f : Addr} (T : Txt mg) (F__law_of : FnD P w K mg base 2 "_law_of" ["pot", "some"] [] S_law_of) (F__law_take : FnD P w K mg base 1 "_law_take" ["pot", "upto"] [] S_law_take) (cdv : Value) (A : Around) (outer : List Env) (s : Shared) (H : Hp) (E : XK) (hg : A.guards = some []) (hr : Room 2 (A.deeper (envOfC "_law_live_drawn" (defScope s_law_live_drawn) s.heap.objs.size f cdv))) :
    LSs (cxOf (L2.CX P w) P w K mg base N_law_live_drawn "_law_live_drawn" (defScope s_law_live_drawn) f cdv A outer s H E) (wxE E) (defBody s_law_live_drawn) (w_law_live_drawn Z) :=
  lss_one (ls_ret (le_op od_mul (le_op od_add (le_int) (le_callTy cd_int T.z_int (by decide +kernel) (la_cons (le_call F__law_take hg hr (takes_of rfl rfl rfl rfl) (la_cons (le_var 0) (la_cons (le_var 1) (la_nil)))) (la_nil)))) (le_call F__law_of hg hr (takes_of rfl rfl rfl rfl) (la_cons (le_var 0) (la_cons (le_lst (la_cons (le_int) (la_cons (le_neg (le_int)) (la_nil))) (show 2 ≤ 1000 by decide)) (la_nil))))))
/-! ### _law_right -/
abbrev s_law_right : Stmt := top 31
abbrev N_law_right : List Str := ["pot", "lap", "one", "other", "prime", "due", "wide", "third", "places", "bad", "told", "caught", "odd", "turn", "times"]
theorem sc__law_right : FnScope N_law_right ["pot"] (defScope s_law_right) := ⟨rfl, rfl, rfl, by decide +kernel, rfl, by decide +kernel, by decide +kernel⟩
def lx_law_right_0 : Expr := (nthE (exA (ex1 (nthE (exA (stV (nthS (defBody s_law_right) 3))) 0))) 0)
def lam_law_right_0 (cl : List (Str × Addr)) : LamT := lamOf cl "_law_right.<locals>." (lamP lx_law_right_0) (lamB lx_law_right_0) (lamSc lx_law_right_0)
theorem lS_law_right_0 : LamX.LamS (defScope s_law_right) (lamSc lx_law_right_0) := LamX.lamS_by (by decide +kernel)
def wl_law_right_0 (Z : Ad) : WE := wCall (Shilbert Z) [wVar 12, wC .non, wC .non]
theorem lb_law_right_0 (Z : Ad) {X : Cx} (T : Txt X.mg) (F_hilbert : FnD X.prog X.w X.K X.mg X.base 4 "hilbert" ["one", "other", "prime"] [2] (Shilbert Z)) (cl : List (Str × Addr)) : LamB X N_law_right (lam_law_right_0 cl) 4 (wl_law_right_0 Z) := fun A outer s H E fa c hg hr =>
  show LE (lamC X N_law_right A outer s H E (lam_law_right_0 cl) fa c) (fun cls d _ H => E cls d H) (lamB lx_law_right_0) _ from le_call F_hilbert hg hr (takes_of rfl rfl rfl rfl) (la_cons (le_var 12) (la_cons (le_non) (la_cons (le_non) (la_nil))))
def lx_law_right_1 : Expr := (nthE (exA (ex1 (nthE (exA (stV (nthS (defBody s_law_right) 4))) 0))) 0)
def lam_law_right_1 (cl : List (Str × Addr)) : LamT := lamOf cl "_law_right.<locals>." (lamP lx_law_right_1) (lamB lx_law_right_1) (lamSc lx_law_right_1)
theorem lS_law_right_1 : LamX.LamS (defScope s_law_right) (lamSc lx_law_right_1) := LamX.lamS_by (by decide +kernel)
def wl_law_right_1 (Z : Ad) : WE := wCall (Shilbert Z) [wC (.int 1), wVar 12, wC .non]
theorem lb_law_right_1 (Z : Ad) {X : Cx} (T : Txt X.mg) (F_hilbert : FnD X.prog X.w X.K X.mg X.base 4 "hilbert" ["one", "other", "prime"] [2] (Shilbert Z)) (cl : List (Str × Addr)) : LamB X N_law_right (lam_law_right_1 cl) 4 (wl_law_right_1 Z) := fun A outer s H E fa c hg hr =>
  show LE (lamC X N_law_right A outer s H E (lam_law_right_1 cl) fa c) (fun cls d _ H => E cls d H) (lamB lx_law_right_1) _ from le_call F_hilbert hg hr (takes_of rfl rfl rfl rfl) (la_cons (le_int) (la_cons (le_var 12) (la_cons (le_non) (la_nil))))
def lx_law_right_2 : Expr := (nthE (exA (ex1 (nthE (exA (stV (nthS (defBody s_law_right) 5))) 0))) 0)
def lam_law_right_2 (cl : List (Str × Addr)) : LamT := lamOf cl "_law_right.<locals>." (lamP lx_law_right_2) (lamB lx_law_right_2) (lamSc lx_law_right_2)
theorem lS_law_right_2 : LamX.LamS (defScope s_law_right) (lamSc lx_law_right_2) := LamX.lamS_by (by decide +kernel)
def wl_law_right_2 (Z : Ad) : WE := wCall (Sbad_places Z) [wVar 12, wC .non]
theorem lb_law_right_2 (Z : Ad) {X : Cx} (T : Txt X.mg) (F_bad_places : FnD X.prog X.w X.K X.mg X.base 4 "bad_places" ["one", "other"] [1] (Sbad_places Z)) (cl : List (Str × Addr)) : LamB X N_law_right (lam_law_right_2 cl) 4 (wl_law_right_2 Z) := fun A outer s H E fa c hg hr =>
  show LE (lamC X N_law_right A outer s H E (lam_law_right_2 cl) fa c) (fun cls d _ H => E cls d H) (lamB lx_law_right_2) _ from le_call F_bad_places hg hr (takes_of rfl rfl rfl rfl) (la_cons (le_var 12) (la_cons (le_non) (la_nil)))
def lx_law_right_3 : Expr := (nthE (exA (ex1 (stV (nthS (defBody s_law_right) 8)))) 0)
def lam_law_right_3 (cl : List (Str × Addr)) : LamT := lamOf cl "_law_right.<locals>." (lamP lx_law_right_3) (lamB lx_law_right_3) (lamSc lx_law_right_3)
theorem lS_law_right_3 : LamX.LamS (defScope s_law_right) (lamSc lx_law_right_3) := LamX.lamS_by (by decide +kernel)
def wl_law_right_3 (Z : Ad) : WE := wCall (Shilbert Z) [wC (.int 1), wC (.int 1), wVar 12]
theorem lb_law_right_3 (Z : Ad) {X : Cx} (T : Txt X.mg) (F_hilbert : FnD X.prog X.w X.K X.mg X.base 4 "hilbert" ["one", "other", "prime"] [2] (Shilbert Z)) (cl : List (Str × Addr)) : LamB X N_law_right (lam_law_right_3 cl) 4 (wl_law_right_3 Z) := fun A outer s H E fa c hg hr =>
  show LE (lamC X N_law_right A outer s H E (lam_law_right_3 cl) fa c) (fun cls d _ H => E cls d H) (lamB lx_law_right_3) _ from le_call F_hilbert hg hr (takes_of rfl rfl rfl rfl) (la_cons (le_int) (la_cons (le_int) (la_cons (le_var 12) (la_nil))))
def LL_law_right (Z : Ad) (cl : List (Str × Addr)) : List (LamT × WE) := [(lam_law_right_0 cl, wl_law_right_0 Z), (lam_law_right_1 cl, wl_law_right_1 Z), (lam_law_right_2 cl, wl_law_right_2 Z), (lam_law_right_3 cl, wl_law_right_3 Z)]
theorem hO_law_right (Z : Ad) {X : Cx} (hN : X.N = N_law_right) (hsc : X.env.scope = defScope s_law_right) (hq : X.env.qual = "_law_right.<locals>.") (T : Txt X.mg) (F_bad_places : FnD X.prog X.w X.K X.mg X.base 4 "bad_places" ["one", "other"] [1] (Sbad_places Z)) (F_hilbert : FnD X.prog X.w X.K X.mg X.base 4 "hilbert" ["one", "other", "prime"] [2] (Shilbert Z)) : ∀ q ∈ LL_law_right Z X.env.cells, LamIn X X.N 4 [] (fun _ => True) q.1 q.2 := by
  unfold LL_law_right lam_law_right_0 lam_law_right_1 lam_law_right_2 lam_law_right_3
  rw [← hq]
  exact (List.forall_mem_cons.mpr ⟨lamIn_own (hsc ▸ lS_law_right_0) (by rw [hq, hN]; exact (lb_law_right_0 Z T F_hilbert _)) (fun _ _ _ _ _ => rfl), (List.forall_mem_cons.mpr ⟨lamIn_own (hsc ▸ lS_law_right_1) (by rw [hq, hN]; exact (lb_law_right_1 Z T F_hilbert _)) (fun _ _ _ _ _ => rfl), (List.forall_mem_cons.mpr ⟨lamIn_own (hsc ▸ lS_law_right_2) (by rw [hq, hN]; exact (lb_law_right_2 Z T F_bad_places _)) (fun _ _ _ _ _ => rfl), (List.forall_mem_cons.mpr ⟨lamIn_own (hsc ▸ lS_law_right_3) (by rw [hq, hN]; exact (lb_law_right_3 Z T F_hilbert _)) (fun _ _ _ _ _ => rfl), (fun _ h => nomatch h)⟩)⟩)⟩)⟩)
theorem hB_law_right (Z : Ad) {X : Cx} (hN : X.N = N_law_right) (hsc : X.env.scope = defScope s_law_right) (hq : X.env.qual = "_law_right.<locals>.") (T : Txt X.mg) (F_bad_places : FnD X.prog X.w X.K X.mg X.base 4 "bad_places" ["one", "other"] [1] (Sbad_places Z)) (F_hilbert : FnD X.prog X.w X.K X.mg X.base 4 "hilbert" ["one", "other", "prime"] [2] (Shilbert Z)) {own : List Nat} {pins : List (Addr × Obj)} {σ : L2.St} {s : Shared} {H : Hp} {bs : Scope} {ce : Env} {fp : List Addr} (I : Inv X pins σ H s) (f : ∀ b ∈ fp, FpOk X pins H b) : ∀ q ∈ LL_law_right Z X.env.cells, LamIn (X.blk s H bs ce fp) X.N 4 own (fun σ2 => wipe σ2 own = wipe σ own) q.1 q.2 := by
  unfold LL_law_right lam_law_right_0 lam_law_right_1 lam_law_right_2 lam_law_right_3
  rw [← hq]
  exact (List.forall_mem_cons.mpr ⟨lamIn_blk I f (hsc ▸ lS_law_right_0) (by rw [hq, hN]; exact (lb_law_right_0 Z T F_hilbert _)) (fun _ _ _ _ _ => rfl), (List.forall_mem_cons.mpr ⟨lamIn_blk I f (hsc ▸ lS_law_right_1) (by rw [hq, hN]; exact (lb_law_right_1 Z T F_hilbert _)) (fun _ _ _ _ _ => rfl), (List.forall_mem_cons.mpr ⟨lamIn_blk I f (hsc ▸ lS_law_right_2) (by rw [hq, hN]; exact (lb_law_right_2 Z T F_bad_places _)) (fun _ _ _ _ _ => rfl), (List.forall_mem_cons.mpr ⟨lamIn_blk I f (hsc ▸ lS_law_right_3) (by rw [hq, hN]; exact (lb_law_right_3 Z T F_hilbert _)) (fun _ _ _ _ _ => rfl), (fun _ h => nomatch h)⟩)⟩)⟩)⟩)
def w_law_right (Z : Ad) (cl : List (Str × Addr)) : WS := wSeq (wFor (wRng1 (wC (.int 2))) (gN 1) (wSeq (wAsg (wTup [wCall S_law_free_drawn [wVar 0], wCall S_law_free_drawn [wVar 0], wCall S_law_of [wVar 0, wLst [wC (.int 0), wC (.int 2), wC (.int 3), wC (.int 3), wC (.int 5)]]]) (gT [gN 2, gN 3, gN 4])) (wSeq (wSet 5 (wCall S_law_hilbert [wVar 2, wVar 3, wVar 4])) (wSeq (wIf (wTB (wOp gNe (wB gReprX [wCall (Shilbert Z) ([wVar 2, wVar 3] ++ [wVar 4])]) (wB gReprX [wVar 5]))) (wRet (wC (.bl false))) (wNext)) (wSeq (wSet 6 (wB gInt [wOp gAdd (wC (.int 1)) (wCall S_law_take [wVar 0, wC (.int 30)])])) (wIf (wOrT (wTB (wOp gNe (wCall (Shilbert Z) [wOp gMul (wOp gMul (wVar 2) (wVar 6)) (wVar 6), wVar 3, wVar 4]) (wVar 5))) (wTB (wOp gNe (wCall (Shilbert Z) [wVar 3, wVar 2, wVar 4]) (wVar 5)))) (wRet (wC (.bl false))) (wNext))))))) (wSeq (wFor (wRng1 (wC (.int 4))) (gN 1) (wSeq (wAsg (wLc (wRng1 (wC (.int 3))) (CT.one 13) (wYes) (wCall S_law_live_drawn [wVar 0, wC (.int 900)])) (gTL [gN 2, gN 3, gN 7])) (wSeq (wSet 8 (wOp gAdd (wLst [wC (.int 0), wC (.int 2)]) (wLc (wSeqI (wCall S_law_factored [wB gAbs [wOp gMul (wOp gMul (wVar 2) (wVar 3)) (wVar 7)]])) (CT.many [4, 14]) (wTB (wOp gGt (wVar 4) (wC (.int 2)))) (wVar 4)))) (wSeq (wSet 9 (wB gTuple [wLc (wSeqI (wVar 8)) (CT.one 4) (wTB (wOp gEq (wCall (Shilbert Z) [wVar 2, wVar 3, wVar 4]) (wNeg (wC (.int 1))))) (wVar 4)])) (wSeq (wIf (wOrT (wTB (wOp gNe (wB gReprX [wCall (Sbad_places Z) ([wVar 2] ++ [wVar 3])]) (wB gReprX [wVar 9]))) (wTB (wOp gNe (wOp gMod (wB gLen [wVar 9]) (wC (.int 2))) (wC (.int 0))))) (wRet (wC (.bl false))) (wNext)) (wFor (wSeqI (wVar 8)) (gN 4) (wSeq (wIf (wTB (wOp gNe (wCall (Shilbert Z) [wVar 2, wNeg (wVar 2), wVar 4]) (wC (.int 1)))) (wRet (wC (.bl false))) (wNext)) (wSeq (wIf (wTB (wOp gNe (wCall (Shilbert Z) [wVar 2, wOp gMul (wVar 3) (wVar 7), wVar 4]) (wOp gMul (wCall (Shilbert Z) [wVar 2, wVar 3, wVar 4]) (wCall (Shilbert Z) [wVar 2, wVar 7, wVar 4])))) (wRet (wC (.bl false))) (wNext)) (wIf (wTB (wOp gNe (wCall (Shilbert Z) [wVar 2, wVar 3, wVar 4]) (wCall (Shilbert Z) [wVar 2, wOp gMul (wNeg (wVar 2)) (wVar 3), wVar 4]))) (wRet (wC (.bl false))) (wNext)))))))))) (wSeq (wSet 12 (wCall S_law_of [wVar 0, wLst [wC (.int 0), wC .non, wC (.bl true), wC (.str "2"), wOp gAdd (wOp gPowW (wC (.int 10)) (wC (.int 12))) (wC (.int 1))]])) (wSeq (wSet 10 (wLst [wOp gIx (wHeard Z.isSq [] (LL_law_right Z cl) (wLam Z.P_law_right (lam_law_right_0 cl))) (wC (.int 0))])) (wSeq (wExpr (wMt gAppend (wVar 10) [wOp gIx (wHeard Z.isSq [] (LL_law_right Z cl) (wLam Z.P_law_right (lam_law_right_1 cl))) (wC (.int 0))])) (wSeq (wExpr (wMt gAppend (wVar 10) [wOp gIx (wHeard Z.isSq [] (LL_law_right Z cl) (wLam Z.P_law_right (lam_law_right_2 cl))) (wC (.int 0))])) (wSeq (wIf (wNotT (wTB (wB gAll [wLc (wSeqI (wVar 10)) (CT.one 11) (wYes) (wAndV (wIsX (oneC Z.cBadInt) (wVar 11)) (wOp gEq (wB gReprX [wVal Z.isE (wVar 11)]) (wB gReprX [wVar 12])))]))) (wRet (wC (.bl false))) (wNext)) (wSeq (wSet 12 (wCall S_law_of [wVar 0, wLst [wC (.int 1), wC (.int 4), wNeg (wC (.int 2)), wC .non, wC (.bl true), wC (.str "2"), wC (.int 9)]])) (wSeq (wSet 11 (wOp gIx (wHeard Z.isSq [] (LL_law_right Z cl) (wLam Z.P_law_right (lam_law_right_3 cl))) (wC (.int 0)))) (wRet (wAndV (wIsX (oneC Z.cBadPrime) (wVar 11)) (wOp gEq (wB gReprX [wVal Z.isE (wVar 11)]) (wB gReprX [wVar 12]))))))))))))
/-! ### law -/
abbrev slaw : Stmt := top 32
abbrev Nlaw : List Str := ["script", "at"]
theorem sc_law : FnScope Nlaw ["script"] (defScope slaw) := ⟨rfl, rfl, rfl, by decide +kernel, rfl, by decide +kernel, by decide +kernel⟩
def wlaw (Z : Ad) : WS := wRet (wB gAll [wLc (wSeqI (wCall S_law_cells [wVar 0, wC (.int 3)])) (CT.one 1) (wYes) (wCall (S_law_right Z) [wCall S_law_pot [wVar 0, wVar 1]])])
theorem der_law (Z : Ad) {P : Program} {w : World} {K : PySem.W.Frag} {mg : Str → Option Value} {base : Heap} {f : Addr} (T : Txt mg) (F__law_cells : FnD P w K mg base 1 "_law_cells" ["script", "most"] [] S_law_cells) (F__law_pot : FnD P w K mg base 1 "_law_pot" ["script", "place"] [] S_law_pot) (F__law_right : FnD P w K mg base 7 "_law_right" ["pot"] [] (S_law_right Z)) (cdv : Value) (A : Around) (outer : List Env) (s : Shared) (H : Hp) (E : XK) (hg : A.guards = some []) (hr : Room 7 (A.deeper (envOfC "law" (defScope slaw) s.heap.objs.size f cdv))) :
    LSs (cxOf (L2.CX P w) P w K mg base Nlaw "law" (defScope slaw) f cdv A outer s H E) (wxE E) (defBody slaw) (wlaw Z) :=
  lss_one (ls_ret (le_callB (cd_all rfl) T.z_all (by decide +kernel) (la_cons (le_lc sc_law.nd (li_seq (le_call F__law_cells hg hr (takes_of rfl rfl rfl rfl) (la_cons (le_var 0) (la_cons (le_int) (la_nil))))) (ok := by show BlkOk Nlaw (defScope slaw) _ _; exact ⟨rfl, by decide +kernel, by decide +kernel, by decide +kernel, by decide +kernel⟩) (own := [("at", 1)]) (hv := rfl) (hg := (fun _ _ _ _ _ => pg_one 1 sc_law.nd)) (ht := (fun _ _ _ _ _ => lps_nil)) (he := (fun _ _ _ _ _ => le_call F__law_right hg hr LamX.takes0 (la_cons (le_call F__law_pot hg hr LamX.takes0 (la_cons (le_var 0) (la_cons (le_var 1) (la_nil)))) (la_nil))))) (la_nil))))
end K2

/-! k02: readings picked. -/
namespace K2
open PySem PySem.Spec PyProof.Rows L2 Sq NT
open Hil
local macro_rules | `(tactic| walk_at "sq") => `(tactic| simp only [gInK_run, gSK_run, gTL_run, wZipM_run, wLstRg3_run, wLc2_run, wSortSetT_run, fList_tup, gIsN_run, gNotN_run, Sq.isNon, gMinT_run, fMinT_run, wZip_run, fZip_tup, wSortSet_run, wTupS_run, wLstS_run, runS_nil, runS_one, runS_star, starQ_tup, starQ_rls, starQ_ob, List.append_nil, fList_ob, wBack_run, wBackL_run, gStr_run, fStr_int, fStr_str, wUpper_run, wDct_run, gReprX_run, wIsX_run, wVal_run, wLam_run, wHeard_run, wRaise_run, wVar_run, wC_run, wOp_run, onBl_bl, gI_run, gAdd_int, gAdd_str, gAdd_tup, gMul_int, EqB_int, EqB_str, EqB_bl, gEq_run, gNe_run, wNeg_run, wNotV_run, wAndV_run, wOrV_run, wTB_run, wNotT_run, wAndT_run, wOrT_run, wIfE_run, runAll_nil, runAll_cons, wTup_run, wLst_run, gIx_tup, gIx_rls, gIx_str, gIx_ob, wB_run, fLen_tup, fLen_rls, fLen_str, fLen_ob, fAbs_int, fInt_int, fInt_bl, fTuple_tup, fTuple_ob, wIsi_run, wCall_run, wNext_run, wSeq_run, wBreak_run, wCont_run, wNever_run, wExpr_run, wRet_run, wRetN_run, wIf_run, gN_run, runGs_nil, runGs_cons, gT_run, gS_run, sIx_ob, wAsg_run, wSet_run, wPar_run, wPar3_run, wSeqI_run, fSeq_tup, fSeq_rls, fSeq_ob, wRng1_run, fRng1_int, wRng2_run, fRng2_int, wFor_run, wLc_run, wYes_run, onLst_ob, wMt_run, fAppend_run, fExtend_run, wAug_run, bodyD_nx, bodyD_rt, bodyD_ex, wNoP_run, onInt_int, wPart_run, fSl_tup, fSl_rls, fSl_str, fSl_ob, wSl_run, gIn_run, gNotIn_run, fSorted_ob, wLstRg1_run, wChainN_run, chainRun_last, chainRun_cons, spR_run,
  Sq.gSub, gFdiv, gMod, gLt, gLe, gGt, gGe, gAddI, gPowW, gLen_run, gAbs_run, gInt_run, gAll_run, gAny_run, gSum_run, gTuple_run, gList_run, gSorted_run, gRepr_run, gMax2_run, gMin2_run, gAppend_run, gExtend_run, CT.set_one, CT.set_many, CT.slots, setAll, wipeE, lcG_nil,
  List.getElem?_cons_zero, List.getElem?_cons_succ, List.getElem?_nil, Int.cast_ofNat_Int, List.set_cons_zero, List.set_cons_succ, List.length_cons, List.length_nil, ev0, List.map_cons, List.map_nil, List.cons_append, List.nil_append, List.replicate_succ, List.replicate_zero, Nat.reduceSub, Nat.reduceAdd, mset_same, decide_true, decide_false, if_true, if_false, ite_true, ite_false, Bool.false_eq_true, Bool.true_eq_false, reduceCtorEq, Bool.not_true, Bool.not_false, true_and, and_true, decide_eq_true_eq, Bool.not_eq_true', decide_eq_false_iff_not, ite_not, isA, atI_0, atI_1, atI_2, atI_3, atI_m4, ixN_0, ixN_1, ixN_30, ixN_31, ixN_32])
theorem fm_nat (a b : Nat) : ((a : Int).fmod (b : Int)) = ((a % b : Nat) : Int) := by
  rw [Int.fmod_eq_emod_of_nonneg _ (by omega)]; rfl
theorem fd_nat (a b : Nat) : ((a : Int).fdiv (b : Int)) = ((a / b : Nat) : Int) := by
  rw [Int.fdiv_eq_ediv_of_nonneg _ (by omega)]; rfl
theorem fm_nat2 (a : Nat) : ((a : Int).fmod 2) = ((a % 2 : Nat) : Int) := fm_nat a 2
theorem divOk_small {j : Int} (h0 : 0 < j) (h1 : j < 18446744073709551616) : DivOk j := ⟨by omega, by
  have : (18446744073709551616 : Nat) ≤ 2 ^ 9000 := Nat.le_trans (by decide : 18446744073709551616 ≤ 2 ^ 64) (Nat.pow_le_pow_right (by decide) (by decide))
  omega⟩
theorem divOk_wide {j : Int} (h0 : 0 < j) (h1 : j ≤ 1000000000000000000000000) : DivOk j := ⟨by omega, by
  have : (1000000000000000000000000 : Nat) ≤ 2 ^ 9000 := Nat.le_trans (by decide : 1000000000000000000000000 ≤ 2 ^ 80) (Nat.pow_le_pow_right (by decide) (by decide))
  omega⟩
theorem rd_is_int (Z : Ad) (ds : List D) (μ : Mu) (Q : PQ) (X : XQ) (hl : ds.length = 3) (h : Sis_int.run ds μ Q X) : (wis_int Z).run (bodyD Q X) (ev0 3 ds) μ := by
  obtain ⟨d, lo, hi, rfl, hs, q⟩ := h
  unfold wis_int
  rcases hs.cases with ⟨i, rfl⟩ | ⟨b, rfl⟩ | ⟨e1, e2, e3, e4⟩
  · walk_at "sq"
    have q : Q (.bl (decide (lo ≤ i ∧ i ≤ hi))) μ := q
    by_cases h1 : lo ≤ i
    · rw [if_pos h1]
      by_cases h2 : i ≤ hi
      · rw [decide_eq_true ⟨h1, h2⟩] at q; rw [decide_eq_true h2]; exact .of q
      · rw [decide_eq_false (fun z => h2 z.2)] at q; rw [decide_eq_false h2]; exact .of q
    · rw [if_neg h1]
      rw [decide_eq_false (fun z => h1 z.1)] at q; exact .of q
  · walk_at "sq"
    exact .of q
  · rw [notI_in e1] at q
    simp only [wRet_run, wAndV_run, wIsi_run, wVar_run, ev0, List.map_cons, List.cons_append, List.getElem?_cons_zero, e3]
    walk_at "sq"
    exact .of q
theorem iabs_nn (i : Int) : (if i < 0 then -i else i) = (i.natAbs : Int) := by split <;> omega
theorem here {μ μ2 : Mu} {l : Addr} {o : O} {Q : PQ} {d : D} (x : Ext μ μ2) (e : μ2 l = some o) (hl : μ l = none) (h : Q d (mset μ l o)) : SubQ Q d μ2 :=
  ⟨mset μ l o, fun b o' hb => by
    by_cases z : b = l
    · subst z; rw [mset_same] at hb; cases hb; exact e
    · rw [mset_ne z] at hb; exact x b o' hb, h⟩
theorem pow_fprod : ∀ {M : List (Nat × Nat)}, (∀ z ∈ M, PrimeN z.1 ∧ 1 ≤ z.2) → 2 ^ M.length ≤ fprod M
  | [], _ => Nat.le_refl _
  | z :: M, h => by
    have ih := pow_fprod fun y hy => h y (List.mem_cons_of_mem _ hy)
    have hz := h z List.mem_cons_self
    rw [List.length_cons, Nat.pow_succ]
    unfold fprod
    rw [Nat.mul_comm]
    refine Nat.mul_le_mul ?_ ih
    have : z.1 ^ 1 ≤ z.1 ^ z.2 := Nat.pow_le_pow_right (by have := hz.1.1; omega) hz.2
    rw [Nat.pow_one] at this
    have := hz.1.1
    omega
theorem pow_len {n : Nat} {M : List (Nat × Nat)} (h : ∀ z ∈ M, PrimeN z.1 ∧ 1 ≤ z.2) (h2 : fprod M ≤ n) (h3 : n ≤ 1000000000000) : M.length < 40 := by
  rcases Nat.lt_or_ge M.length 40 with g | g
  · exact g
  · have := Nat.pow_le_pow_right (show 0 < 2 by decide) g
    have e : 2 ^ 40 = 1099511627776 := by decide
    have := pow_fprod h
    omega
theorem fac_len {n : Nat} {M : List (Nat × Nat)} (h : FacS n M) (h3 : n ≤ 1000000000000) : M.length < 40 := pow_len h.ok (Nat.le_of_eq h.prod) h3
theorem rd_told_factored (Z : Ad) (ds : List D) (μ : Mu) (Q : PQ) (X : XQ) (hl : ds.length = 1) (h : Stold_factored.run ds μ Q X) : (wtold_factored Z).run (bodyD Q X) (ev0 5 ds) μ := by
  obtain ⟨n, rfl, hn, hn2, q⟩ := h
  unfold wtold_factored
  refine seq_by (fun ρ μ1 => ∃ l, ρ = [some (.int (n : Int)), some (.ob l), some (.int (n : Int)), some (.int 2), none] ∧ μ l = none ∧ Ext μ μ1 ∧ μ1 l = some (.lst [])) ?_ ?_
  · walk_at "sq"
    exact fun l hl => ⟨l, rfl, hl, (Ext.refl _).new hl, mset_same _ _ _⟩
  rintro ρ μ1 ⟨l, rfl, hl, e1, k1⟩
  refine seq_by (fun ρ μ2 => ∃ (rest step : Nat) (L : List (Nat × Nat)) (e4 : Option D), ρ = [some (.int (n : Int)), some (.ob l), some (.int (rest : Int)), some (.int (step : Int)), e4] ∧ Ext μ μ2 ∧ μ2 l = some (.lst (L.map prD)) ∧ Half n rest step L ∧ rest < step * step) ?_ ?_
  · refine wWhile_by (fun m ρ μ2 => ∃ (rest step : Nat) (L : List (Nat × Nat)) (e4 : Option D), ρ = [some (.int (n : Int)), some (.ob l), some (.int (rest : Int)), some (.int (step : Int)), e4] ∧ Ext μ μ2 ∧ μ2 l = some (.lst (L.map prD)) ∧ Half n rest step L ∧ (step = 2 ∨ step % 2 = 1) ∧ step ≤ 1000010 ∧ m = 2000000 - step) _ ⟨n, 2, [], none, rfl, e1, k1, half0 hn, .inl rfl, by decide, rfl⟩ ?_
    rintro m ρ μ2 ⟨rest, step, L, e4, rfl, x2, k2, hh, hodd, hsb, rfl⟩
    have hs2 := hh.two
    have hrn : rest ≤ n := by
      have := hh.prod
      have h1 := fprod_pos fun z hz => ⟨(hh.ok z hz).1, (hh.ok z hz).2.1⟩
      calc rest = 1 * rest := (Nat.one_mul _).symm
        _ ≤ fprod L * rest := Nat.mul_le_mul_right rest h1
        _ = n := this
    have hLlen : L.length < 40 := pow_len (fun z hz => ⟨(hh.ok z hz).1, (hh.ok z hz).2.1⟩) (by
      have := hh.prod
      calc fprod L = fprod L * 1 := (Nat.mul_one _).symm
        _ ≤ fprod L * rest := Nat.mul_le_mul_left _ hh.pos
        _ = n := this) hn2
    walk_at "sq"
    have hsq : ((step : Int) * (step : Int) ≤ (rest : Int)) ↔ step * step ≤ rest := by rw [← Int.natCast_mul]; exact Int.ofNat_le
    by_cases hc : step * step ≤ rest
    rotate_left
    · rw [if_neg (fun z => hc (hsq.mp z))]
      exact ⟨mulOk_l (by omega) (by omega), rest, step, L, _, rfl, x2, k2, hh, by omega⟩
    have hst : step ≤ 1000000 := by
      rcases Nat.lt_or_ge 1000000 step with g | g
      · have := Nat.mul_le_mul (show 1000001 ≤ step from g) (show 1000001 ≤ step from g)
        omega
      · exact g
    rw [if_pos (hsq.mpr hc)]
    refine ⟨mulOk_l (by omega) (by omega), ?_⟩
    refine wWhile_by (fun m ρ μ3 => μ3 = μ2 ∧ ∃ t rest' : Nat, ρ = [some (.int (n : Int)), some (.ob l), some (.int (rest' : Int)), some (.int (step : Int)), some (.int (t : Int))] ∧ rest = step ^ t * rest' ∧ rest' = m) _ ⟨rfl, 0, rest, rfl, by simp, rfl⟩ ?_
    rintro m ρ μ3 ⟨rfl, t, rest', rfl, he, rfl⟩
    have hr0 : 1 ≤ rest' := by
      rcases Nat.eq_zero_or_pos rest' with g | g
      · rw [g, Nat.mul_zero] at he
        have := hh.pos
        omega
      · exact g
    walk_at "sq"
    rw [fm_nat]
    refine ⟨by omega, ?_⟩
    have hz : (((rest' % step : Nat) : Int) = 0) ↔ rest' % step = 0 := by omega
    by_cases hd : rest' % step = 0
    · rw [if_pos (hz.mpr hd)]
      have hdm := Nat.div_add_mod rest' step
      rw [hd, Nat.add_zero] at hdm
      refine ⟨divOk_small (by omega) (by omega), _, ?_, t + 1, rest' / step, by rw [fd_nat]; rfl, ?_, rfl⟩
      · exact Nat.div_lt_self hr0 hs2
      · rw [Nat.pow_succ, Nat.mul_assoc, hdm]; exact he
    rw [if_neg (fun z => hd (hz.mp z))]
    have ht : ((0 : Int) < (t : Int)) ↔ 1 ≤ t := by omega
    have two : ((step : Int) = 2) ↔ step = 2 := by omega
    by_cases ht1 : 1 ≤ t
    · rw [if_pos (ht.mpr ht1)]
      have h2 := half_strip hh he ht1 hd
      rw [k2]
      dsimp only
      have k3 : some (O.lst (L.map prD ++ [.tup [.int (step : Int), .int (t : Int)]])) = some (O.lst ((L ++ [(step, t)]).map prD)) := by rw [List.map_append]; rfl
      refine ⟨Nat.lt_of_lt_of_le (show _ < 16000000 by rw [List.length_map]; omega) sizeBig, ?_⟩
      by_cases hs : step = 2
      · rw [if_pos (two.mpr hs)]
        exact ⟨_, by omega, rest', step + 1, _, _, rfl, x2.set hl, k3, h2, .inr (by omega), by omega, rfl⟩
      · rw [if_neg (fun z => hs (two.mp z))]
        exact ⟨_, by omega, rest', step + 2, _, _, rfl, x2.set hl, k3, half_skip h2 (by omega) (by omega), .inr (by omega), by omega, rfl⟩
    · have ht0 : t = 0 := by omega
      subst ht0
      have he' : rest = rest' := by rw [he]; simp
      subst he'
      have h2 := half_rest hh hd
      rw [if_neg (fun z => ht1 (ht.mp z))]
      by_cases hs : step = 2
      · rw [if_pos (two.mpr hs)]
        exact ⟨_, by omega, rest, step + 1, L, _, rfl, x2, k2, h2, .inr (by omega), by omega, rfl⟩
      · rw [if_neg (fun z => hs (two.mp z))]
        exact ⟨_, by omega, rest, step + 2, L, _, rfl, x2, k2, half_skip h2 (by omega) (by omega), .inr (by omega), by omega, rfl⟩
  rintro ρ μ2 ⟨rest, step, L, e4, rfl, x2, k2, hh, hlt⟩
  have fin := half_end hh hlt
  walk_at "sq"
  have h1 : ((1 : Int) < (rest : Int)) ↔ 1 < rest := by omega
  by_cases hr : 1 < rest
  · rw [if_pos hr] at fin
    rw [if_pos (h1.mpr hr), k2]
    have hlen := fac_len fin hn2
    rw [List.length_append] at hlen
    refine ⟨Nat.lt_of_lt_of_le (show _ < 16000000 by rw [List.length_map]; omega) sizeBig, ?_⟩
    refine here (x2.set hl) (mset_same _ _ _) hl ?_
    have e : L.map prD ++ [.tup [.int (rest : Int), .int 1]] = (L ++ [(rest, 1)]).map prD := by rw [List.map_append]; rfl
    rw [e]
    exact q _ l fin hl
  · rw [if_neg hr] at fin
    rw [if_neg (fun z => hr (h1.mp z))]
    exact here x2 k2 hl (q _ l fin hl)
theorem in_two {n i j : Int} {μ : Mu} {Q : Bool → Prop} (h : Q (decide (n = i ∨ n = j))) : InP (.int n) (t2 i j) μ Q := by
  refine ⟨.int n, [.int i, .int j], pure_dpy (d := .int n) rfl, .inr ⟨pure_dpy (d := t2 i j) rfl, by rfl⟩, rfl, ?_⟩
  have e : ([PyData.int i, PyData.int j].any fun z => PyData.eqv z (.int n)) = decide (n = i ∨ n = j) := by
    rw [Bool.eq_iff_iff]
    simp only [List.any_cons, List.any_nil, PyData.eqv, Bool.or_false, Bool.or_eq_true, beq_iff_eq, decide_eq_true_eq]
    omega
  rw [e]; exact h
theorem prD_inj {L M : List (Nat × Nat)} (h : L.map prD = M.map prD) : L = M := by
  refine List.map_inj_right (f := prD) (fun x y e => ?_) |>.mp h
  unfold prD t2 at e
  injection e with e
  injection e with e1 e
  injection e with e2 _
  injection e1 with e1
  injection e2 with e2
  exact Prod.ext (by omega) (by omega)
theorem prD_ok (L : List (Nat × Nat)) : ∀ d ∈ L.map prD, okD d = true := fun d hd => by
  obtain ⟨z, _, rfl⟩ := List.mem_map.mp hd
  exact okD_tupI [(z.1 : Int), (z.2 : Int)]
theorem inB_inv {lo hi : Int} {d : D} (h : inB lo hi d = true) : ∃ i, d = .int i := by
  cases d with
  | int i => exact ⟨i, rfl⟩
  | _ => cases h
theorem fdiv_bd {x y : Int} (hy : 0 < y) : y * x.fdiv y ≤ x ∧ x < y * x.fdiv y + y := by
  rw [Int.fdiv_eq_ediv_of_nonneg _ (Int.le_of_lt hy)]
  have h1 := Int.mul_ediv_add_emod x y
  have h2 := Int.emod_nonneg x (Int.ne_of_gt hy)
  have h3 := Int.emod_lt_of_pos x hy
  omega
theorem fmod_bd {x y : Int} (hy : 0 < y) : 0 ≤ x.fmod y ∧ x.fmod y < y := by
  rw [Int.fmod_eq_emod_of_nonneg _ (Int.le_of_lt hy)]
  exact ⟨Int.emod_nonneg x (Int.ne_of_gt hy), Int.emod_lt_of_pos x hy⟩
theorem fdiv_nn {x y : Int} (hx : 0 ≤ x) (hy : 0 < y) : 0 ≤ x.fdiv y := by
  rw [Int.fdiv_eq_ediv_of_nonneg _ (Int.le_of_lt hy)]
  exact Int.ediv_nonneg hx (Int.le_of_lt hy)
theorem bigM : (0 : Int) < (10 ^ Int.toNat 60) ^ Int.toNat 5 := by decide +kernel
theorem pw1 : CPowW 10 60 := ⟨by decide, 4, by decide, by decide⟩
theorem pw2 : CPowW (10 ^ Int.toNat 60) 5 := ⟨by decide, 200, by decide +kernel, by decide⟩
theorem pw3 : CPowW 10 18 := ⟨by decide, 4, by decide, by decide⟩
theorem sum_take1 {ns : List Int} : ∃ ms : List Int, Sq.cutD (ns.map D.int) none (some 1) = ms.map D.int := by
  unfold Sq.cutD
  rw [← List.map_drop, ← List.map_take]
  exact ⟨_, rfl⟩
theorem rd_law_pot (Z : Ad) (ds : List D) (μ : Mu) (Q : PQ) (X : XQ) (hl : ds.length = 2) (h : S_law_pot.run ds μ Q X) : (w_law_pot Z).run (bodyD Q X) (ev0 5 ds) μ := by
  obtain ⟨ns, k, rfl, hn, h0, h1, q⟩ := h
  unfold w_law_pot
  refine seq_by (fun ρ μ1 => ∃ v : Int, ρ = [some (.rls (ns.map D.int)), some (.int k), some (.int v), none, none] ∧ Ext μ μ1) ?_ ?_
  · walk_at "sq"
    rw [List.length_map]
    by_cases hk : k < (ns.length : Int)
    · rw [if_pos hk]
      obtain ⟨j, rfl⟩ := Int.eq_ofNat_of_zero_le h0
      have hj : j < ns.length := by omega
      rw [atI_nat (x := D.int ns[j]) (by rw [List.getElem?_map, List.getElem?_eq_getElem hj]; rfl)]
      exact ⟨_, rfl, Ext.refl _⟩
    · rw [if_neg hk]
      intro p hp
      obtain ⟨ms, e⟩ := sum_take1 (ns := ns)
      refine ⟨p, ms, rfl, by rw [mset_same, e], ?_⟩
      walk_at "sq"
      exact ⟨by decide, mulOk_l (by decide) (by decide), _, rfl, (Ext.refl _).new hp⟩
  rintro ρ μ1 ⟨v, rfl, e1⟩
  walk_at "sq"
  generalize hM : ((10 : Int) ^ Int.toNat 60) ^ Int.toNat 5 = M
  have hM0 : 0 < M := hM ▸ bigM
  generalize (if v < 0 then -v else v) = w
  have f1 := fmod_bd (x := w) hM0
  have f2 := fmod_bd (x := v.fmod 2305843009213693951 * 68213 + 11057 * k * k + 3019) (y := 2305843009213693921) (by decide)
  refine ⟨pw1, pw2, Int.ne_of_gt hM0, pw3, mulOk_r (by split <;> decide) (by split <;> decide), by decide, mulOk_r (by decide) (by decide), mulOk_l (by decide) (by decide), mulOk_r (by omega) (by omega), by decide, fun p hp => .new e1 hp fun p hp => q p _ hp (PotTo.of ?_ f2.1 (by omega) (by decide) (by decide))⟩
  split
  · rw [Int.mul_one]; exact f1.1
  · rw [Int.mul_zero]; exact Int.le_refl 0
theorem rd_law_take (Z : Ad) (ds : List D) (μ : Mu) (Q : PQ) (X : XQ) (hl : ds.length = 2) (h : S_law_take.run ds μ Q X) : (w_law_take Z).run (bodyD Q X) (ev0 5 ds) μ := by
  obtain ⟨p, u, n, rfl, ⟨x, y, z, hp, hx, hy, hy2, hz, hz2⟩, hn, h0, h1, q⟩ := h
  unfold w_law_take
  have hdu : DivOk u := divOk_wide h0 (by omega)
  refine seq_by (fun ρ μ1 => ρ = [some (.ob p), some (.int u), none, none, none] ∧ μ1 = μ) ?_ ?_
  · walk_at "sq"
    rw [hp]
    unfold potL
    walk_at "sq"
    by_cases hx0 : 0 < x
    · rw [if_pos hx0, hp]
      unfold potL
      walk_at "sq"
      refine ⟨Int.ne_of_gt h0, ?_⟩
      rw [hp]
      unfold potL
      walk_at "sq"
      refine ⟨hdu, ?_⟩
      rw [hp]
      unfold potL
      walk_at "sq"
      have f1 := fmod_bd (x := x) h0
      exact .of (q _ _ f1.1 f1.2 (PotTo.of (x := x.fdiv u) (y := y) (z := z) (fdiv_nn hx h0) hy hy2 hz (by omega)))
    · rw [if_neg hx0]
      trivial
  rintro ρ μ1 ⟨rfl, rfl⟩
  refine seq_by (fun ρ μ2 => ρ = [some (.ob p), some (.int u), none, none, none] ∧ μ2 = potS μ1 p x y (z + 1)) ?_ ?_
  · walk_at "sq"
    rw [hp]
    unfold potL
    walk_at "sq"
    rw [hp]
    unfold potL
    walk_at "sq"
    rfl
  rintro ρ μ2 ⟨rfl, rfl⟩
  have hpot : potS μ1 p x y (z + 1) p = some (.lst (potL x y (z + 1))) := mset_same _ _ _
  generalize hS : potS μ1 p x y (z + 1) = μ2
  rw [hS] at hpot
  refine seq_by (fun ρ μ3 => ∃ pr : Int, ρ = [some (.ob p), some (.int u), none, some (.int pr), none] ∧ 0 < pr ∧ pr ≤ 2147483647 ∧ Ext μ2 μ3) ?_ ?_
  · walk_at "sq"
    intro l hl
    rw [at_new hpot hl]
    unfold potL
    walk_at "sq"
    refine ⟨by decide, ?_⟩
    have f5 := fmod_bd (x := z + 1) (y := 5) (by decide)
    have hc : (z + 1).fmod 5 = 0 ∨ (z + 1).fmod 5 = 1 ∨ (z + 1).fmod 5 = 2 ∨ (z + 1).fmod 5 = 3 ∨ (z + 1).fmod 5 = 4 := by omega
    have e := (Ext.refl μ2).new (o := .lst [.int 2147483647, .int 2147483629, .int 2147483587, .int 2147483579, .int 2147483563]) hl
    rcases hc with hc | hc | hc | hc | hc <;> rw [hc] <;> exact ⟨_, rfl, by decide, by decide, e⟩
  rintro ρ μ3 ⟨pr, rfl, hpr, hpr2, e3⟩
  have hpot3 := e3 p _ hpot
  refine seq_by (fun ρ μ4 => ∃ b : Int, ρ = [some (.ob p), some (.int u), none, some (.int pr), some (.int b)] ∧ 0 ≤ b ∧ b < pr ∧ μ4 = μ3) ?_ ?_
  · walk_at "sq"
    rw [hpot3]
    unfold potL
    walk_at "sq"
    rw [hpot3]
    unfold potL
    walk_at "sq"
    have b1 := fmod_bd (x := (y + 97213 * (z + 1) * (z + 1) + 3671) ^ Int.toNat 3) hpr
    have zz : (z + 1) * (z + 1) ≤ 1000001 * 1000001 := Int.mul_le_mul (by omega) (by omega) (by omega) (by decide)
    have e : 97213 * (z + 1) * (z + 1) = 97213 * ((z + 1) * (z + 1)) := by rw [Int.mul_assoc]
    have zn : 0 ≤ (z + 1) * (z + 1) := Int.mul_nonneg (by omega) (by omega)
    have pw : CPowW (y + 97213 * (z + 1) * (z + 1) + 3671) 3 := ⟨by decide, 64, by omega, by decide⟩
    exact ⟨mulOk_l (by decide) (by decide), mulOk_r (by omega) (by omega), pw, Int.ne_of_gt hpr, _, rfl, b1.1, b1.2⟩
  rintro ρ μ4 ⟨b, rfl, hb, hb2, rfl⟩
  refine seq_by (fun ρ μ5 => ∃ b : Int, ρ = [some (.ob p), some (.int u), none, some (.int pr), some (.int b)] ∧ μ5 = μ4) ?_ ?_
  · walk_at "sq"
    rw [hpot3]
    unfold potL
    walk_at "sq"
    exact ⟨by decide, mulOk_l (by decide) (by decide), mulOk_l (by omega) (by omega), by decide, _, rfl⟩
  rintro ρ μ5 ⟨b', rfl, rfl⟩
  walk_at "sq"
  have f6 := fmod_bd (x := b'.fdiv 233) h0
  refine ⟨divOk_small (by decide) (by decide), Int.ne_of_gt h0, .ext (q _ _ f6.1 f6.2 ?_) e3⟩
  rw [← hS]
  exact PotTo.of hx hy hy2 (by omega) (by omega)
theorem rd_law_of (Z : Ad) (ds : List D) (μ : Mu) (Q : PQ) (X : XQ) (hl : ds.length = 2) (h : S_law_of.run ds μ Q X) : (w_law_of Z).run (bodyD Q X) (ev0 2 ds) μ := by
  obtain ⟨p, l, n, xs, rfl, hp, hn, hx, hne, hlen, hlp, q⟩ := h
  unfold w_law_of
  walk_at "sq"
  rw [hx]
  dsimp only
  have h0 : 0 < xs.length := List.length_pos_iff.mpr hne
  refine ⟨p, xs.length, n, rfl, hp, hn, by omega, by omega, fun d μ' d0 d1 k => ?_⟩
  walk_at "sq"
  rw [k.2 l hlp, hx]
  dsimp only
  obtain ⟨j, rfl⟩ := Int.eq_ofNat_of_zero_le d0
  have hj : j < xs.length := by omega
  rw [atI_nat (x := xs[j]) (by simp [hj])]
  exact .of (q _ _ (List.getElem_mem hj) k)
theorem rd_law_cells (Z : Ad) (ds : List D) (μ : Mu) (Q : PQ) (X : XQ) (hl : ds.length = 2) (h : S_law_cells.run ds μ Q X) : (w_law_cells Z).run (bodyD Q X) (ev0 2 ds) μ := by
  obtain ⟨ns, m, rfl, hn, h0, h1, q⟩ := h
  unfold w_law_cells
  walk_at "sq"
  rw [List.length_map]
  refine ⟨.of_le (by decide) ?_ (by decide) ?_, fun p hp => ?_⟩
  · split <;> split <;> omega
  · split <;> split <;> omega
  · refine .of (q p _ hp ?_)
    split <;> split <;> omega
theorem all_dec {α : Type} (xs : List α) (f : α → Bool) : (xs.map f).all id = xs.all f := by rw [List.all_map]; rfl
theorem le_sq {x : Int} (h : 0 ≤ x) : x ≤ x * x := by
  rcases Int.lt_or_le x 1 with g | g
  · have : x = 0 := by omega
    subst this; decide
  · have : x * 1 ≤ x * x := Int.mul_le_mul_of_nonneg_left g h
    omega
theorem sq_le {x y : Int} (hx : 0 ≤ x) (h : x ≤ y) : x * x ≤ y * y := Int.mul_le_mul h h hx (by omega)
theorem far_lt {i : Int} (h : far12 (.int i) = true) : Lt i := of_decide_eq_true (p := -1000000000000 ≤ i ∧ i ≤ 1000000000000) h
theorem far_mk {i : Int} (h : Lt i) : far12 (.int i) = true := decide_eq_true (p := -1000000000000 ≤ i ∧ i ≤ 1000000000000) h
theorem rd_told_prime (Z : Ad) (ds : List D) (μ : Mu) (Q : PQ) (X : XQ) (hl : ds.length = 1) (h : Stold_prime.run ds μ Q X) : (wtold_prime Z).run (bodyD Q X) (ev0 1 ds) μ := by
  obtain ⟨i, rfl, hn, q⟩ := h
  unfold wtold_prime
  walk_at "sq"
  by_cases hr : 1 < i
  · rw [if_pos hr]
    obtain ⟨n, rfl⟩ := Int.eq_ofNat_of_zero_le (show 0 ≤ i by omega)
    obtain ⟨g1, g2⟩ := hn
    refine ⟨n, rfl, by omega, by omega, fun L p hL hp => ?_⟩
    walk_at "sq"
    intro p2 hp2
    have e1 := at_new (o := .lst [.tup [.int (n : Int), .int 1]]) (mset_same μ p (.lst (L.map prD))) hp2
    refine EqB_lst e1 (mset_same _ _ _) (prD_ok L) (prD_ok [(n, 1)]) (fun e => ?_) fun e => ?_
    · have e : L = [(n, 1)] := prD_inj e
      exact .ext (q true ⟨fun _ => ⟨n, rfl, (hL.ok (n, 1) (by rw [e]; exact List.mem_singleton.mpr rfl)).1⟩, fun _ => rfl⟩) (((Ext.refl _).new hp).new hp2)
    · exact .ext (q false ⟨(fun z => nomatch z), fun ⟨m, em, z⟩ => absurd (by
        have : n = m := by omega
        subst this
        rw [fac_prime hL z]; rfl) e⟩) (((Ext.refl _).new hp).new hp2)
  · rw [if_neg hr]
    exact .of (q false ⟨(fun z => nomatch z), fun ⟨m, em, z⟩ => by have := z.1; omega⟩)
theorem prD_get {L : List (Nat × Nat)} {i : Nat} {d : D} (h : (L.map prD)[i]? = some d) : ∃ z, L[i]? = some z ∧ d = prD z := by
  rw [List.getElem?_map] at h
  cases e : L[i]? with
  | none => rw [e] at h; cases h
  | some z => rw [e] at h; cases h; exact ⟨z, rfl, rfl⟩
theorem fac_bd {n : Nat} {L : List (Nat × Nat)} (hL : FacS n L) (h1 : 1 ≤ n) (h2 : n ≤ 1000000000000) {z : Nat × Nat} (hm : z ∈ L) : z.1 ≤ n ∧ z.2 ≤ 1000000000000 ∧ z.2 < n + 1 ∧ 2 ^ z.2 ≤ n := by
  obtain ⟨hp, ht⟩ := hL.ok z hm
  have hd := dvd_fprod hm
  rw [hL.prod] at hd
  have hle := Nat.le_of_dvd (by omega) hd
  have h2p : 2 ^ z.2 ≤ z.1 ^ z.2 := Nat.pow_le_pow_left hp.1 _
  have hlt2 : z.2 < 2 ^ z.2 := Nat.lt_two_pow_self
  have hp1 : z.1 ^ 1 ≤ z.1 ^ z.2 := Nat.pow_le_pow_right (by have := hp.1; omega) ht
  rw [Nat.pow_one] at hp1
  omega
theorem rs_lt (a : Int) {n : Nat} (h : 0 < n) : rs a n < n := by
  unfold rs
  rw [Int.fmod_eq_emod_of_nonneg _ (by omega)]
  have h1 := Int.emod_nonneg a (b := (n : Int)) (by omega)
  have h2 := Int.emod_lt_of_pos a (b := (n : Int)) (by omega)
  omega
theorem rs_eq (a : Int) {n : Nat} (h : 0 < n) : ((rs a n : Nat) : Int) = a.fmod (n : Int) := by
  unfold rs
  rw [Int.fmod_eq_emod_of_nonneg _ (by omega)]
  have h1 := Int.emod_nonneg a (b := (n : Int)) (by omega)
  omega
theorem pow_even {f p l m : Nat} (h : l % 2 = 0) : f * (p * p % m) ^ (l / 2) % m = f * p ^ l % m := by
  have e : p ^ l = (p * p) ^ (l / 2) := by
    rw [← Nat.pow_two, ← Nat.pow_mul]
    congr 1; omega
  rw [e, Nat.mul_mod, ← Nat.pow_mod, ← Nat.mul_mod]
theorem pow_odd {f p l m : Nat} (h : l % 2 = 1) : (f * p % m) * (p * p % m) ^ (l / 2) % m = f * p ^ l % m := by
  have e : p ^ l = p * (p * p) ^ (l / 2) := by
    rw [← Nat.pow_two, ← Nat.pow_mul, Nat.mul_comm, ← Nat.pow_succ]
    congr 1; omega
  rw [e, ← Nat.mul_assoc, Nat.mul_mod, Nat.mod_mod, ← Nat.pow_mod, ← Nat.mul_mod]
theorem rd_told_power (Z : Ad) (ds : List D) (μ : Mu) (Q : PQ) (X : XQ) (hl : ds.length = 3) (h : Stold_power.run ds μ Q X) : (wtold_power Z).run (bodyD Q X) (ev0 6 ds) μ := by
  obtain ⟨r, ⟨a, t, m, rfl, hm, hm2, rfl⟩, q⟩ := h
  unfold wtold_power
  refine seq_by (fun ρ μ1 => ρ = [some (.int a), some (.int (t : Int)), some (.int (m : Int)), some (.int ((1 % m : Nat) : Int)), some (.int ((rs a m : Nat) : Int)), some (.int (t : Int))] ∧ μ1 = μ) ?_ ?_
  · walk_at "sq"
    have e1 := fm_nat 1 m
    have e2 := rs_eq a (n := m) (by omega)
    rw [e2, show Int.fmod 1 (m : Int) = ((1 % m : Nat) : Int) from e1]
    exact ⟨by omega, by omega, rfl⟩
  rintro ρ μ1 ⟨rfl, rfl⟩
  refine seq_by (fun ρ μ2 => μ2 = μ1 ∧ ∃ e1 e2 e4 e5, ρ = [e1, e2, e4, some (.int ((rs a m ^ t % m : Nat) : Int)), e5, some (.int 0)]) ?_ ?_
  · refine wWhile_by (fun k ρ μ2 => μ2 = μ1 ∧ ∃ f p l : Nat, ρ = [some (.int a), some (.int (t : Int)), some (.int (m : Int)), some (.int (f : Int)), some (.int (p : Int)), some (.int (l : Int))] ∧ f < m ∧ p < m ∧ f * p ^ l % m = rs a m ^ t % m ∧ l = k) _ ⟨rfl, 1 % m, rs a m, t, rfl, Nat.mod_lt _ (by omega), rs_lt a (by omega), by rw [Nat.mod_mul_mod, Nat.one_mul], rfl⟩ ?_
    rintro k ρ μ2 ⟨rfl, f, p, l, rfl, hf, hp, he, rfl⟩
    walk_at "sq"
    have d2 : DivOk 2 := divOk_small (by decide) (by decide)
    have e5 : ((f : Int) * (p : Int)).fmod (m : Int) = ((f * p % m : Nat) : Int) := by rw [← Int.natCast_mul, fm_nat]
    have e6 : ((p : Int) * (p : Int)).fmod (m : Int) = ((p * p % m : Nat) : Int) := by rw [← Int.natCast_mul, fm_nat]
    have e7 : (l : Int).fdiv 2 = ((l / 2 : Nat) : Int) := fd_nat l 2
    rw [e5, e6, e7, fm_nat2]
    by_cases hl0 : 0 < l
    · rw [if_pos (by omega)]
      refine ⟨by decide, ?_⟩
      by_cases h1 : l % 2 = 1
      · rw [if_pos (by omega)]
        exact ⟨mulOk_l (by omega) (by omega), by omega, mulOk_l (by omega) (by omega), by omega, d2, _, by omega, _, _, _, rfl, Nat.mod_lt _ (by omega), Nat.mod_lt _ (by omega), by rw [pow_odd h1, he], rfl⟩
      · rw [if_neg (by omega)]
        exact ⟨mulOk_l (by omega) (by omega), by omega, d2, _, by omega, _, _, _, rfl, hf, Nat.mod_lt _ (by omega), by rw [pow_even (by omega), he], rfl⟩
    · rw [if_neg (by omega)]
      have : l = 0 := by omega
      subst this
      rw [Nat.pow_zero, Nat.mul_one, Nat.mod_eq_of_lt hf] at he
      exact ⟨_, _, _, _, by rw [he]; rfl⟩
  rintro ρ μ2 ⟨rfl, e1, e2, e4, e5, rfl⟩
  walk_at "sq"
  exact .of q
theorem rd_told_legendre (Z : Ad) (ds : List D) (μ : Mu) (Q : PQ) (X : XQ) (hl : ds.length = 2) (h : Stold_legendre.run ds μ Q X) : (wtold_legendre Z).run (bodyD Q X) (ev0 2 ds) μ := by
  obtain ⟨r, ⟨a, p, rfl, h3, h4, ho, rfl⟩, q⟩ := h
  unfold wtold_legendre
  walk_at "sq"
  have e1 := rs_eq a (n := p) (by omega)
  rw [← e1]
  refine ⟨by omega, ?_⟩
  unfold legP at q
  by_cases h0 : rs a p = 0
  · rw [if_pos (by omega)]
    rw [if_pos h0] at q
    exact .of q
  · rw [if_neg (by omega)]
    rw [if_neg h0] at q
    have d2 : DivOk 2 := divOk_small (by decide) (by decide)
    have e2 : ((p : Int) - 1).fdiv 2 = ((p / 2 : Nat) : Int) := by
      rw [show ((p : Int) - 1) = ((p - 1 : Nat) : Int) by omega]
      have := fd_nat (p - 1) 2
      rw [show ((2 : Nat) : Int) = 2 from rfl] at this
      rw [this]
      congr 1; omega
    rw [e2]
    refine ⟨d2, _, ⟨a, p / 2, p, rfl, by omega, h4, rfl⟩, ?_⟩
    walk_at "sq"
    by_cases h1 : rs a p ^ (p / 2) % p = 1
    · rw [if_pos (by omega)]
      rw [if_pos h1] at q
      exact .of q
    · rw [if_neg (by omega)]
      rw [if_neg h1] at q
      exact .of q
theorem take_snoc {α : Type} {xs : List α} {i : Nat} {x : α} (h : xs[i]? = some x) : xs.take (i + 1) = xs.take i ++ [x] := by
  rw [List.take_add_one, h]; rfl
theorem repr_ints {l : List Int} {μ : Mu} {Q : PQ} (h : ∀ k ∈ l, -10 ^ 30 < k ∧ k < 10 ^ 30) (hl : l.length ≤ 400000) (q : Q (.str (encD (.tup (l.map D.int))).shown) μ) : fReprX (.tup (l.map D.int)) μ Q := by
  have g := smd_tup (k := 0) (n := 31) (ds := l.map D.int) fun d hd => by
    obtain ⟨i, hi, rfl⟩ := List.mem_map.mp hd
    exact SmD.int ⟨(h i hi).1, (h i hi).2⟩
  exact g.repr (by decide) (by rw [List.length_map]; omega) q
theorem nats_ints (l : List Nat) : l.map natD = (l.map fun x : Nat => (x : Int)).map D.int := by rw [List.map_map]; rfl
theorem okD_nat (l : List Nat) : okD (.tup (l.map natD)) = true := by rw [nats_ints]; exact okD_tupI _
theorem repr_nats {l : List Nat} {μ : Mu} {Q : PQ} (h : ∀ k ∈ l, k ≤ 1000000000000) (hl : l.length ≤ 400000) (q : Q (.str (encD (.tup (l.map natD))).shown) μ) : fReprX (.tup (l.map natD)) μ Q := by
  rw [nats_ints] at q ⊢
  refine repr_ints (fun k hk => ?_) (by rw [List.length_map]; exact hl) q
  obtain ⟨x, hx, rfl⟩ := List.mem_map.mp hk
  have := h x hx
  omega
theorem tabKeep {n m : Nat} {μ μ' : Mu} {p P : Addr} {q : Str} (h : PotX n μ μ' p) (hp : PotAt m μ p) (e : μ P = some (.tab q)) : μ' P = some (.tab q) := h.keep (hp.neTab e) e
theorem val_lf {μ : Mu} {p : Addr} {d : D} (h : Lf d) : Val μ p d := .sm (h.sm.mono (by decide) (by decide)) fun _ z => by subst z; cases h
theorem nodup_len : ∀ {l m : List Nat}, l.Nodup → (∀ x ∈ l, x ∈ m) → l.length ≤ m.length
  | [], _, _, _ => Nat.zero_le _
  | x :: l, m, h, hs => by
    have h1 := List.nodup_cons.mp h
    have hx := hs x List.mem_cons_self
    have := nodup_len (l := l) (m := m.erase x) h1.2 fun y hy => (List.mem_erase_of_ne (show y ≠ x from fun e => h1.1 (e ▸ hy))).mpr (hs y (List.mem_cons_of_mem _ hy))
    rw [List.length_erase_of_mem hx] at this
    have := List.length_pos_of_mem hx
    rw [List.length_cons]
    omega
theorem live_mk {i : Int} (h : Lt i) (h0 : i ≠ 0) : live12 (.int i) = true := by
  obtain ⟨h1, h2⟩ := h
  show (decide (-1000000000000 ≤ i ∧ i ≤ 1000000000000) && !decide (i = 0)) = true
  rw [decide_eq_true ⟨h1, h2⟩, decide_eq_false h0]; rfl
theorem live_inv {d : D} (h : live12 d = true) : ∃ i, d = .int i ∧ Lt i ∧ i ≠ 0 := by
  unfold live12 at h
  rw [Bool.and_eq_true] at h
  obtain ⟨i, rfl⟩ := inB_inv h.1
  refine ⟨i, rfl, ?_, ?_⟩
  · have := h.1
    exact of_decide_eq_true (p := -1000000000000 ≤ i ∧ i ≤ 1000000000000) this
  · have := h.2
    unfold is0 at this
    rw [Bool.not_eq_true'] at this
    exact of_decide_eq_false this
theorem rd_look_at_live (Z : Ad) (ds : List D) (μ : Mu) (Q : PQ) (X : XQ) (hl : ds.length = 1) (h : (Slook_at_live Z).run ds μ Q X) : (wlook_at_live Z).run (bodyD Q X) (ev0 1 ds) μ := by
  obtain ⟨d, rfl, hs, q1, q2⟩ := h
  unfold wlook_at_live
  walk_at "sq"
  refine ⟨d, _, _, rfl, hs, ?_⟩
  have bad : live12 d = false → SubX X Z.cBadInt d μ := fun z => ⟨μ, fun _ _ z => z, q1 z⟩
  rcases hs.cases with ⟨i, rfl⟩ | ⟨b, rfl⟩ | ⟨e1, e2, e3, e4⟩
  · by_cases hz : Lt i
    · have e : inB (-1000000000000) 1000000000000 (.int i) = true := far_mk hz
      rw [e]
      walk_at "sq"
      by_cases h0 : i = 0
      · rw [if_pos h0]
        exact bad (by rw [h0]; decide)
      · rw [if_neg h0]
        exact .of (q2 (live_mk hz h0))
    · have e : inB (-1000000000000) 1000000000000 (.int i) = false := Bool.eq_false_iff.mpr fun z => hz (far_lt z)
      rw [e]
      walk_at "sq"
      exact bad (by unfold live12; rw [show far12 (.int i) = false from e]; rfl)
  · walk_at "sq"
    exact bad rfl
  · rw [notI_in e1]
    walk_at "sq"
    exact bad (by unfold live12; rw [show far12 d = false from notI_in e1]; rfl)
theorem add_rep {μ : Mu} {l : Addr} {xs : List D} {x : D} {c : Prop} [Decidable c] {Q : PQ} (e : μ l = some (.lst xs)) (hlen : xs.length ≤ 1000)
    (h : ∀ r μ', μ r = none → Ext μ μ' → μ' r = some (.lst (if c then xs ++ [x] else xs)) → Q (.ob r) μ') : ∀ p, μ p = none → gMul.run (.ob p) (.int (if c then 1 else 0)) (mset μ p (.lst [x])) fun y μ2 => gAdd.run (.ob l) y μ2 Q := by
  intro p hp
  have x1 := (Ext.refl μ).new (o := .lst [x]) hp
  have hz : 1000 < sizeLine := Nat.lt_of_lt_of_le (by decide) sizeBig
  rw [gMul_ob, mset_same]
  dsimp only
  refine ⟨by split <;> decide, by split <;> decide, ?_, fun p2 hp2 => ?_⟩
  · split
    · show 1 * 1 ≤ _; omega
    · show 1 * 0 ≤ _; omega
  have x2 := x1.new (o := .lst (List.replicate (Int.toNat (if c then 1 else 0)) [x]).flatten) hp2
  rw [gAdd_ob, x2 l _ e, mset_same]
  dsimp only
  by_cases g : c
  · rw [if_pos g] at h x2 ⊢
    exact ⟨by show xs.length + 1 ≤ _; omega, fun p3 hp3 => h p3 _ (x2.free hp3) (x2.new hp3) (mset_same _ _ _)⟩
  · rw [if_neg g] at h x2 ⊢
    refine ⟨by show xs.length + 0 ≤ _; omega, fun p3 hp3 => h p3 _ (x2.free hp3) (x2.new hp3) ?_⟩
    rw [mset_same]
    show some (O.lst (xs ++ [])) = _
    rw [List.append_nil]
theorem rd_law_factored (Z : Ad) (ds : List D) (μ : Mu) (Q : PQ) (X : XQ) (hl : ds.length = 1) (h : S_law_factored.run ds μ Q X) : (w_law_factored Z).run (bodyD Q X) (ev0 5 ds) μ := by
  obtain ⟨n, rfl, hn, hn2, q⟩ := h
  unfold w_law_factored
  refine seq_by (fun ρ μ1 => ∃ l, ρ = [some (.int (n : Int)), some (.ob l), some (.int (n : Int)), some (.int 2), none] ∧ Ext μ μ1 ∧ μ1 l = some (.lst [])) ?_ ?_
  · walk_at "sq"
    exact fun l hl => ⟨l, rfl, (Ext.refl _).new hl, mset_same _ _ _⟩
  rintro ρ μ1 ⟨l, rfl, e1, k1⟩
  refine seq_by (fun ρ μ2 => ∃ (l : Addr) (rest step : Nat) (L : List (Nat × Nat)) (e4 : Option D), ρ = [some (.int (n : Int)), some (.ob l), some (.int (rest : Int)), some (.int (step : Int)), e4] ∧ Ext μ μ2 ∧ μ2 l = some (.lst (L.map prD)) ∧ Half n rest step L ∧ rest < step * step) ?_ ?_
  · refine wWhile_by (fun m ρ μ2 => ∃ (l : Addr) (rest step : Nat) (L : List (Nat × Nat)) (e4 : Option D), ρ = [some (.int (n : Int)), some (.ob l), some (.int (rest : Int)), some (.int (step : Int)), e4] ∧ Ext μ μ2 ∧ μ2 l = some (.lst (L.map prD)) ∧ Half n rest step L ∧ step ≤ 1000010 ∧ m = 2000000 - step) _ ⟨l, n, 2, [], none, rfl, e1, k1, half0 hn, by decide, rfl⟩ ?_
    rintro m ρ μ2 ⟨l, rest, step, L, e4, rfl, x2, k2, hh, hsb, rfl⟩
    have hs2 := hh.two
    have hrn : rest ≤ n := by
      have := hh.prod
      have h1 := fprod_pos fun z hz => ⟨(hh.ok z hz).1, (hh.ok z hz).2.1⟩
      calc rest = 1 * rest := (Nat.one_mul _).symm
        _ ≤ fprod L * rest := Nat.mul_le_mul_right rest h1
        _ = n := this
    have hLlen : L.length < 40 := pow_len (fun z hz => ⟨(hh.ok z hz).1, (hh.ok z hz).2.1⟩) (by
      have := hh.prod
      calc fprod L = fprod L * 1 := (Nat.mul_one _).symm
        _ ≤ fprod L * rest := Nat.mul_le_mul_left _ hh.pos
        _ = n := this) hn2
    walk_at "sq"
    have hsq : ((step : Int) * (step : Int) ≤ (rest : Int)) ↔ step * step ≤ rest := by rw [← Int.natCast_mul]; exact Int.ofNat_le
    by_cases hc : step * step ≤ rest
    rotate_left
    · rw [if_neg (fun z => hc (hsq.mp z))]
      exact ⟨mulOk_l (by omega) (by omega), l, rest, step, L, _, rfl, x2, k2, hh, by omega⟩
    have hst : step ≤ 1000000 := by
      rcases Nat.lt_or_ge 1000000 step with g | g
      · have := Nat.mul_le_mul (show 1000001 ≤ step from g) (show 1000001 ≤ step from g)
        omega
      · exact g
    rw [if_pos (hsq.mpr hc)]
    refine ⟨mulOk_l (by omega) (by omega), ?_⟩
    refine wWhile_by (fun m ρ μ3 => μ3 = μ2 ∧ ∃ t rest' : Nat, ρ = [some (.int (n : Int)), some (.ob l), some (.int (rest' : Int)), some (.int (step : Int)), some (.int (t : Int))] ∧ rest = step ^ t * rest' ∧ rest' = m) _ ⟨rfl, 0, rest, rfl, by simp, rfl⟩ ?_
    rintro m ρ μ3 ⟨rfl, t, rest', rfl, he, rfl⟩
    have hr0 : 1 ≤ rest' := by
      rcases Nat.eq_zero_or_pos rest' with g | g
      · rw [g, Nat.mul_zero] at he
        have := hh.pos
        omega
      · exact g
    walk_at "sq"
    rw [fm_nat]
    refine ⟨by omega, ?_⟩
    have hz : (((rest' % step : Nat) : Int) = 0) ↔ rest' % step = 0 := by omega
    by_cases hd : rest' % step = 0
    · rw [if_pos (hz.mpr hd)]
      have hdm := Nat.div_add_mod rest' step
      rw [hd, Nat.add_zero] at hdm
      refine ⟨divOk_small (by omega) (by omega), _, ?_, t + 1, rest' / step, by rw [fd_nat]; rfl, ?_, rfl⟩
      · exact Nat.div_lt_self hr0 hs2
      · rw [Nat.pow_succ, Nat.mul_assoc, hdm]; exact he
    rw [if_neg (fun z => hd (hz.mp z))]
    refine add_rep k2 (by rw [List.length_map]; omega) fun r μ4 hr x4 k4 => ?_
    have ht : ((0 : Int) < (t : Int)) ↔ 1 ≤ t := by omega
    by_cases ht1 : 1 ≤ t
    · rw [if_pos (ht.mpr ht1)] at k4
      have h2 := half_strip hh he ht1 hd
      have k5 : μ4 r = some (O.lst ((L ++ [(step, t)]).map prD)) := by rw [k4, List.map_append]; rfl
      exact ⟨_, by omega, r, rest', step + 1, _, _, rfl, x2.trans x4, k5, h2, by omega, rfl⟩
    · have ht0 : t = 0 := by omega
      subst ht0
      have he' : rest = rest' := by rw [he]; simp
      subst he'
      have h2 := half_rest hh hd
      rw [if_neg (fun z => ht1 (ht.mp z))] at k4
      exact ⟨_, by omega, r, rest, step + 1, L, _, rfl, x2.trans x4, k4, h2, by omega, rfl⟩
  rintro ρ μ2 ⟨l, rest, step, L, e4, rfl, x2, k2, hh, hlt⟩
  have fin := half_end hh hlt
  walk_at "sq"
  have hLlen : L.length < 40 := pow_len (fun z hz => ⟨(hh.ok z hz).1, (hh.ok z hz).2.1⟩) (by
    have := hh.prod
    calc fprod L = fprod L * 1 := (Nat.mul_one _).symm
      _ ≤ fprod L * rest := Nat.mul_le_mul_left _ hh.pos
      _ = n := this) hn2
  refine add_rep k2 (by rw [List.length_map]; omega) fun r μ4 hr x4 k4 => ?_
  have h1 : ((1 : Int) < (rest : Int)) ↔ 1 < rest := by omega
  refine here (x2.trans x4) k4 (x2.free hr) ?_
  by_cases hr : 1 < rest
  · rw [if_pos hr] at fin
    rw [if_pos (h1.mpr hr)]
    have e : L.map prD ++ [.tup [.int (rest : Int), .int 1]] = (L ++ [(rest, 1)]).map prD := by rw [List.map_append]; rfl
    rw [e]
    exact q _ r fin (x2.free (by assumption))
  · rw [if_neg hr] at fin
    rw [if_neg (fun z => hr (h1.mp z))]
    exact q _ r fin (x2.free (by assumption))
end K2

/-! k02: the program's readings. -/
namespace K2
open PySem PySem.Spec PyProof.Rows L2 Sq NT
open Hil
local macro_rules | `(tactic| walk_at "sq") => `(tactic| simp only [gInK_run, gSK_run, gTL_run, wZipM_run, wLstRg3_run, wLc2_run, wSortSetT_run, fList_tup, gIsN_run, gNotN_run, Sq.isNon, gMinT_run, fMinT_run, wZip_run, fZip_tup, wSortSet_run, wTupS_run, wLstS_run, runS_nil, runS_one, runS_star, starQ_tup, starQ_rls, starQ_ob, List.append_nil, fList_ob, wBack_run, wBackL_run, gStr_run, fStr_int, fStr_str, wUpper_run, wDct_run, gReprX_run, wIsX_run, wVal_run, wLam_run, wHeard_run, wRaise_run, wVar_run, wC_run, wOp_run, onBl_bl, gI_run, gAdd_int, gAdd_str, gAdd_tup, gMul_int, EqB_int, EqB_str, EqB_bl, gEq_run, gNe_run, wNeg_run, wNotV_run, wAndV_run, wOrV_run, wTB_run, wNotT_run, wAndT_run, wOrT_run, wIfE_run, runAll_nil, runAll_cons, wTup_run, wLst_run, gIx_tup, gIx_rls, gIx_str, gIx_ob, wB_run, fLen_tup, fLen_rls, fLen_str, fLen_ob, fAbs_int, fInt_int, fInt_bl, fTuple_tup, fTuple_ob, wIsi_run, wCall_run, wNext_run, wSeq_run, wBreak_run, wCont_run, wNever_run, wExpr_run, wRet_run, wRetN_run, wIf_run, gN_run, runGs_nil, runGs_cons, gT_run, gS_run, sIx_ob, wAsg_run, wSet_run, wPar_run, wPar3_run, wSeqI_run, fSeq_tup, fSeq_rls, fSeq_ob, wRng1_run, fRng1_int, wRng2_run, fRng2_int, wFor_run, wLc_run, wYes_run, onLst_ob, wMt_run, fAppend_run, fExtend_run, wAug_run, bodyD_nx, bodyD_rt, bodyD_ex, wNoP_run, onInt_int, wPart_run, fSl_tup, fSl_rls, fSl_str, fSl_ob, wSl_run, gIn_run, gNotIn_run, fSorted_ob, wLstRg1_run, wChainN_run, chainRun_last, chainRun_cons, spR_run,
  Sq.gSub, gFdiv, gMod, gLt, gLe, gGt, gGe, gAddI, gPowW, gLen_run, gAbs_run, gInt_run, gAll_run, gAny_run, gSum_run, gTuple_run, gList_run, gSorted_run, gRepr_run, gMax2_run, gMin2_run, gAppend_run, gExtend_run, CT.set_one, CT.set_many, CT.slots, setAll, wipeE, lcG_nil,
  List.getElem?_cons_zero, List.getElem?_cons_succ, List.getElem?_nil, Int.cast_ofNat_Int, List.set_cons_zero, List.set_cons_succ, List.length_cons, List.length_nil, ev0, List.map_cons, List.map_nil, List.cons_append, List.nil_append, List.replicate_succ, List.replicate_zero, Nat.reduceSub, Nat.reduceAdd, mset_same, decide_true, decide_false, if_true, if_false, ite_true, ite_false, Bool.false_eq_true, Bool.true_eq_false, reduceCtorEq, Bool.not_true, Bool.not_false, true_and, and_true, decide_eq_true_eq, Bool.not_eq_true', decide_eq_false_iff_not, ite_not, isA, atI_0, atI_1, atI_2, atI_3, atI_m4, ixN_0, ixN_1, ixN_30, ixN_31, ixN_32])
theorem fme (u : Int) {p : Nat} : u.fmod (p : Int) = u % (p : Int) := Int.fmod_eq_emod_of_nonneg _ (by omega)
theorem fde (u : Int) {p : Nat} : u.fdiv (p : Int) = u / (p : Int) := Int.fdiv_eq_ediv_of_nonneg _ (by omega)
theorem par_bd {p t : Nat} {a u : Int} (hp : 2 ≤ p) (h0 : a ≠ 0) (e : a = ((p ^ t : Nat) : Int) * u) (ha : Lt a) : t ≤ 60 ∧ Lt u ∧ u ≠ 0 := by
  obtain ⟨a1, a2⟩ := ha
  have hu : u ≠ 0 := fun z => h0 (by rw [e, z, Int.mul_zero])
  have e2 : a.natAbs = p ^ t * u.natAbs := by rw [e, Int.natAbs_mul, Int.natAbs_natCast]
  have h1 : 2 ^ t ≤ p ^ t := Nat.pow_le_pow_left hp t
  have h2 := Nat.two_pow_pos t
  have h3 : p ^ t * 1 ≤ p ^ t * u.natAbs := Nat.mul_le_mul_left _ (by omega)
  have h4 : 1 * u.natAbs ≤ p ^ t * u.natAbs := Nat.mul_le_mul_right _ (by omega)
  refine ⟨?_, ⟨by omega, by omega⟩, hu⟩
  rcases Nat.lt_or_ge 60 t with g | g
  · have h5 : 2 ^ 60 ≤ 2 ^ t := Nat.pow_le_pow_right (by decide) (by omega)
    have : (2 : Nat) ^ 60 = 1152921504606846976 := rfl
    omega
  · exact g
theorem rd_parted (Z : Ad) (ds : List D) (μ : Mu) (Q : PQ) (X : XQ) (hl : ds.length = 2) (h : Sparted.run ds μ Q X) : (wparted Z).run (bodyD Q X) (ev0 3 ds) μ := by
  obtain ⟨a, p, rfl, h0, ha, hp, hpb, q⟩ := h
  have hp2 := hp.1
  have dp : DivOk (p : Int) := divOk_small (by omega) (by omega)
  unfold wparted natD
  refine seq_by (fun ρ μ1 => ρ = [some (.int a), some (.int (p : Int)), some (.int ((0 : Nat) : Int))] ∧ μ1 = μ) ?_ ?_
  · walk_at "sq"
  rintro ρ μ1 ⟨rfl, rfl⟩
  refine seq_by (fun ρ μ2 => μ2 = μ1 ∧ ∃ (t : Nat) (u : Int), ρ = [some (.int u), some (.int (p : Int)), some (.int (t : Int))] ∧ Par p a t u) ?_ ?_
  · refine wWhile_by (fun m ρ μ2 => μ2 = μ1 ∧ ∃ (t : Nat) (u : Int), ρ = [some (.int u), some (.int (p : Int)), some (.int (t : Int))] ∧ a = ((p ^ t : Nat) : Int) * u ∧ u.natAbs = m) _ ⟨rfl, 0, a, rfl, by simp, rfl⟩ ?_
    rintro m ρ μ2 ⟨rfl, t, u, rfl, he, rfl⟩
    obtain ⟨t6, ⟨u1, u2⟩, hu⟩ := par_bd hp2 h0 he ha
    walk_at "sq"
    rw [fme, fde]
    refine ⟨by omega, ?_⟩
    by_cases hz : u % (p : Int) = 0
    · rw [if_pos hz]
      have hd := Int.mul_ediv_add_emod u p
      rw [hz, Int.add_zero] at hd
      have e2 : u.natAbs = p * (u / (p : Int)).natAbs := by rw [← Int.natAbs_natCast p, ← Int.natAbs_mul, Int.natAbs_natCast, hd]
      refine ⟨dp, _, ?_, t + 1, u / (p : Int), rfl, ?_, rfl⟩
      · have := Nat.mul_le_mul_right (u / (p : Int)).natAbs hp2
        omega
      · rw [Nat.pow_succ, Int.natCast_mul, Int.mul_assoc, hd, ← he]
    · rw [if_neg hz]
      exact ⟨t, u, rfl, he, fun k => hz (Int.emod_eq_zero_of_dvd k)⟩
  rintro ρ μ2 ⟨rfl, t, u, rfl, hP⟩
  obtain ⟨t6, u1, hu⟩ := par_bd hp2 h0 hP.e ha
  walk_at "sq"
  exact .of (q t u hP t6 u1)
theorem rd_eighth (Z : Ad) (ds : List D) (μ : Mu) (Q : PQ) (X : XQ) (hl : ds.length = 1) (h : Seighth.run ds μ Q X) : (weighth Z).run (bodyD Q X) (ev0 1 ds) μ := by
  obtain ⟨r, ⟨u, rfl, rfl⟩, q⟩ := h
  unfold weighth
  walk_at "sq"
  refine ⟨by decide, in_two ?_⟩
  have e : u.fmod 8 = u % 8 := Int.fmod_eq_emod_of_nonneg _ (by decide)
  rw [e]
  unfold e8 at q
  by_cases g : u % 8 = 3 ∨ u % 8 = 5
  · rw [if_pos g] at q
    rw [decide_eq_true g]
    walk_at "sq"
    exact .of q
  · rw [if_neg g] at q
    rw [decide_eq_false g]
    walk_at "sq"
    exact .of q
theorem leg_js {p : Nat} {v : Int} (hp : PrimeN p) (h3 : 3 ≤ p) : legP (rs v p) p = js v p := by
  have h0 : 0 < p := by omega
  have e : (v % (p : Int)).toNat = rs v p := by unfold rs; rw [fme]
  unfold js
  rw [e, Sym.jac_legP (to_sym hp) (odd_of hp h3) (rs_lt v h0)]
  rfl
theorem sg_mod (n : Int) : (if n.fmod 2 = 0 then (1 : Int) else -1) = sgI n := by
  unfold sgI
  rw [Int.fmod_eq_emod_of_nonneg _ (by decide)]
theorem rd_told_hilbert (Z : Ad) (ds : List D) (μ : Mu) (Q : PQ) (X : XQ) (hl : ds.length = 3) (h : Stold_hilbert.run ds μ Q X) : (wtold_hilbert Z).run (bodyD Q X) (ev0 9 ds) μ := by
  obtain ⟨r, ⟨a, b, p, rfl, ha, hb, la, lb, hP, hpb, rfl⟩, q⟩ := h
  have d2 : DivOk 2 := divOk_small (by decide) (by decide)
  unfold wtold_hilbert natD
  by_cases hp0 : p = 0
  · subst hp0
    rw [hil0] at q
    walk_at "sq"
    by_cases g1 : a < 0
    · rw [if_pos g1]
      by_cases g2 : b < 0
      · rw [if_pos g2]; rw [if_pos ⟨g1, g2⟩] at q; exact .of q
      · rw [if_neg g2]; rw [if_neg (fun z => g2 z.2)] at q; exact .of q
    · rw [if_neg g1]; rw [if_neg (fun z => g1 z.1)] at q; exact .of q
  have hp : PrimeN p := hP.resolve_left hp0
  have hp2 := hp.1
  refine seq_by (fun ρ μ1 => ρ = [some (.int a), some (.int b), some (.int (p : Int)), none, none, none, none, none, none] ∧ μ1 = μ) ?_ ?_
  · walk_at "sq"
    rw [if_neg (by omega)]
    trivial
  rintro ρ μ1 ⟨rfl, rfl⟩
  refine seq_by (fun ρ μ2 => μ2 = μ1 ∧ ∃ (t : Nat) (u : Int), ρ = [some (.int a), some (.int b), some (.int (p : Int)), some (.int (t : Int)), some (.int u), none, none, none, none] ∧ Par p a t u ∧ t ≤ 60 ∧ Lt u) ?_ ?_
  · walk_at "sq"
    refine ⟨a, p, rfl, ha, la, hp, hpb, fun t u k t6 lu => ?_⟩
    walk_at "sq"
    exact ⟨t, u, rfl, k, t6, lu⟩
  rintro ρ μ2 ⟨rfl, t, u, rfl, ka, t6, ⟨u1, u2⟩⟩
  refine seq_by (fun ρ μ3 => μ3 = μ2 ∧ ∃ (s : Nat) (v : Int), ρ = [some (.int a), some (.int b), some (.int (p : Int)), some (.int (t : Int)), some (.int u), some (.int (s : Int)), some (.int v), none, none] ∧ Par p b s v ∧ s ≤ 60 ∧ Lt v) ?_ ?_
  · walk_at "sq"
    refine ⟨b, p, rfl, hb, lb, hp, hpb, fun t u k t6 lu => ?_⟩
    walk_at "sq"
    exact ⟨t, u, rfl, k, t6, lu⟩
  rintro ρ μ3 ⟨rfl, s, v, rfl, kb, s6, ⟨v1, v2⟩⟩
  obtain ⟨ea1, ea2⟩ := vl_eq hp ka
  obtain ⟨eb1, eb2⟩ := vl_eq hp kb
  have e8b : ∀ x : Int, 0 ≤ e8 x ∧ e8 x ≤ 1 := fun x => by unfold e8; split <;> omega
  by_cases h2 : p = 2
  · subst h2
    rw [hil2, ea1, ea2, eb1, eb2] at q
    walk_at "sq"
    have b1 := e8b u
    have b2 := e8b v
    refine ⟨d2, d2, mulOk_l (by have := fdiv_bd (x := u - 1) (y := 2) (by decide); omega) (by have := fdiv_bd (x := u - 1) (y := 2) (by decide); omega), _, ⟨v, rfl, rfl⟩, ?_⟩
    walk_at "sq"
    refine ⟨mulOk_l (by omega) (by omega), _, ⟨u, rfl, rfl⟩, ?_⟩
    walk_at "sq"
    refine ⟨mulOk_l (by omega) (by omega), by decide, ?_⟩
    have e1 : (u - 1).fdiv 2 = e4 u := by unfold e4; exact Int.fdiv_eq_ediv_of_nonneg _ (by decide)
    have e2 : (v - 1).fdiv 2 = e4 v := by unfold e4; exact Int.fdiv_eq_ediv_of_nonneg _ (by decide)
    rw [e1, e2]
    unfold H2 at q
    rw [← sg_mod] at q
    by_cases g : (e4 u * e4 v + t * e8 v + s * e8 u).fmod 2 = 0
    · rw [if_pos g]; rw [if_pos g] at q; exact .of q
    · rw [if_neg g]; rw [if_neg g] at q; exact .of q
  have h3 : 3 ≤ p := by omega
  have ho := odd_of hp h3
  rw [hilp _ _ h3, ea1, ea2, eb1, eb2] at q
  refine seq_by (fun ρ μ4 => ρ = [some (.int a), some (.int b), some (.int (p : Int)), some (.int (t : Int)), some (.int u), some (.int (s : Int)), some (.int v), none, none] ∧ μ4 = μ3) ?_ ?_
  · walk_at "sq"
    rw [if_neg (by omega)]
    trivial
  rintro ρ μ4 ⟨rfl, rfl⟩
  have ep : ((p : Int) - 1).fdiv 2 = ((p / 2 : Nat) : Int) := by
    rw [show ((p : Int) - 1) = ((p - 1 : Nat) : Int) by omega]
    have := fd_nat (p - 1) 2
    rw [show ((2 : Nat) : Int) = 2 from rfl] at this
    rw [this]
    congr 1; omega
  refine seq_by (fun ρ μ5 => ρ = [some (.int a), some (.int b), some (.int (p : Int)), some (.int (t : Int)), some (.int u), some (.int (s : Int)), some (.int v), none, some (.int (sgI ((t * s * (p / 2) : Nat) : Int)))] ∧ μ5 = μ4) ?_ ?_
  · walk_at "sq"
    rw [ep, ← Int.natCast_mul, ← Int.natCast_mul, fm_nat2]
    have hts : t * s ≤ 60 * 60 := Nat.mul_le_mul t6 s6
    refine ⟨mulOk_l (by omega) (by omega), d2, mulOk_l (by omega) (by omega), by decide, ?_⟩
    by_cases g : t * s * (p / 2) % 2 = 1
    · rw [if_pos (by omega)]
      have : sgI ((t * s * (p / 2) : Nat) : Int) = -1 := if_neg (by omega)
      rw [this]
    · rw [if_neg (by omega)]
      rw [sgI_even (show ((t * s * (p / 2) : Nat) : Int) % 2 = 0 by omega)]
  rintro ρ μ5 ⟨rfl, rfl⟩
  unfold Hil.Hp at q
  have s0 := sgI_cases ((t * s * (p / 2) : Nat) : Int)
  generalize sgI ((t * s * (p / 2) : Nat) : Int) = g0 at *
  have jv := js_unit hp kb.n
  have ju := js_unit hp ka.n
  refine seq_by (fun ρ μ6 => ρ = [some (.int a), some (.int b), some (.int (p : Int)), some (.int (t : Int)), some (.int u), some (.int (s : Int)), some (.int v), none, some (.int (g0 * pw (js v p) t))] ∧ μ6 = μ5) ?_ ?_
  · walk_at "sq"
    rw [fm_nat2]
    refine ⟨by decide, ?_⟩
    unfold pw
    by_cases g : t % 2 = 1
    · rw [if_pos (by omega), if_pos g]
      refine ⟨_, ⟨v, p, rfl, h3, hpb, ho, rfl⟩, ?_⟩
      rw [leg_js hp h3]
      walk_at "sq"
      exact mulOk_l (by omega) (by omega)
    · rw [if_neg (by omega), if_neg g, Int.mul_one]
  rintro ρ μ6 ⟨rfl, rfl⟩
  have s1 : g0 * pw (js v p) t = 1 ∨ g0 * pw (js v p) t = -1 := by
    unfold pw
    rcases s0 with rfl | rfl <;> rcases jv with e | e <;> rw [e] <;> split <;> decide
  rw [← Int.mul_assoc] at q
  generalize g0 * pw (js v p) t = g1 at *
  refine seq_by (fun ρ μ7 => ρ = [some (.int a), some (.int b), some (.int (p : Int)), some (.int (t : Int)), some (.int u), some (.int (s : Int)), some (.int v), none, some (.int (g1 * pw (js u p) s))] ∧ μ7 = μ6) ?_ ?_
  · walk_at "sq"
    rw [fm_nat2]
    refine ⟨by decide, ?_⟩
    unfold pw
    by_cases g : s % 2 = 1
    · rw [if_pos (by omega), if_pos g]
      refine ⟨_, ⟨u, p, rfl, h3, hpb, ho, rfl⟩, ?_⟩
      rw [leg_js hp h3]
      walk_at "sq"
      exact mulOk_l (by omega) (by omega)
    · rw [if_neg (by omega), if_neg g, Int.mul_one]
  rintro ρ μ7 ⟨rfl, rfl⟩
  walk_at "sq"
  exact .of q
theorem rd_look_at_place (Z : Ad) (ds : List D) (μ : Mu) (Q : PQ) (X : XQ) (hl : ds.length = 1) (h : (Slook_at_place Z).run ds μ Q X) : (wlook_at_place Z).run (bodyD Q X) (ev0 1 ds) μ := by
  obtain ⟨d, rfl, hs, q1, q2⟩ := h
  unfold wlook_at_place
  walk_at "sq"
  refine ⟨d, _, _, rfl, hs, ?_⟩
  have bad : (∀ p, ¬ PlD d p) → SubX X Z.cBadPrime d μ := fun z => ⟨μ, fun _ _ z => z, q2 z⟩
  cases hb : inB 0 1000000000000 d with
  | false =>
    walk_at "sq"
    refine bad fun p ⟨e, _, h3⟩ => ?_
    rw [e, show inB 0 1000000000000 (natD p) = true from decide_eq_true (p := 0 ≤ (p : Int) ∧ (p : Int) ≤ 1000000000000) ⟨by omega, by omega⟩] at hb
    cases hb
  | true =>
    obtain ⟨i, rfl⟩ := inB_inv hb
    have hb := of_decide_eq_true (p := 0 ≤ i ∧ i ≤ 1000000000000) hb
    obtain ⟨n, rfl⟩ := Int.eq_ofNat_of_zero_le hb.1
    walk_at "sq"
    by_cases h0 : n = 0
    · subst h0
      rw [if_pos (by rfl)]
      exact .of (q1 0 ⟨rfl, .inl rfl, by decide⟩)
    · rw [if_neg (by omega)]
      refine ⟨(n : Int), rfl, ⟨by omega, by omega⟩, fun b hb' => ?_⟩
      have hbp : b = true ↔ PrimeN n := hb'.trans ⟨fun ⟨m, e, k⟩ => by
        have : n = m := by omega
        subst this; exact k, fun k => ⟨n, rfl, k⟩⟩
      cases b with
      | true =>
        walk_at "sq"
        exact .of (q1 n ⟨rfl, .inr (hbp.mp rfl), by omega⟩)
      | false =>
        walk_at "sq"
        refine bad fun p ⟨e, hP, _⟩ => ?_
        have : (n : Int) = p := by cases e; rfl
        have : n = p := by omega
        subst this
        rcases hP with hP | hP
        · exact h0 hP
        · cases hbp.mpr hP
theorem rd_hilbert (Z : Ad) (ds : List D) (μ : Mu) (Q : PQ) (X : XQ) (hl : ds.length = 3) (h : (Shilbert Z).run ds μ Q X) : (whilbert Z).run (bodyD Q X) (ev0 3 ds) μ := by
  obtain ⟨d, e, f, rfl, h1, h2, h3, h⟩ := h
  unfold whilbert
  walk_at "sq"
  have sx : ∀ {C : Addr} {d : D}, X C d μ → SubX X C d μ := fun z => ⟨μ, fun _ _ z => z, z⟩
  refine ⟨d, rfl, h1, fun z => ?_, fun z1 => ⟨e, rfl, h2, fun z => ?_, fun z2 => ⟨f, rfl, h3, fun p z3 => ?_, fun z3 => ?_⟩⟩⟩
  · rcases h with ⟨_, q⟩ | ⟨a, _⟩ | ⟨a, _⟩ | ⟨a, b, p, rfl, _, _, a0, _, la, _⟩
    · exact sx q
    · rw [z] at a; cases a
    · rw [z] at a; cases a
    · rw [live_mk la a0] at z; cases z
  · rcases h with ⟨a, _⟩ | ⟨_, _, q⟩ | ⟨_, a, _⟩ | ⟨a, b, p, _, rfl, _, _, b0, _, lb, _⟩
    · rw [z1] at a; cases a
    · exact sx q
    · rw [z] at a; cases a
    · rw [live_mk lb b0] at z; cases z
  · rcases h with ⟨a, _⟩ | ⟨_, a, _⟩ | ⟨_, _, a, _⟩ | ⟨a, b, p', rfl, rfl, rfl, a0, b0, la, lb, hP, hpb, q⟩
    · rw [z1] at a; cases a
    · rw [z2] at a; cases a
    · exact absurd z3 (a p)
    · exact ⟨_, ⟨a, b, p', rfl, a0, b0, la, lb, hP, hpb, rfl⟩, .of q⟩
  · rcases h with ⟨a, _⟩ | ⟨_, a, _⟩ | ⟨_, _, _, q⟩ | ⟨a, b, p', rfl, rfl, rfl, a0, b0, la, lb, hP, hpb, q⟩
    · rw [z1] at a; cases a
    · rw [z2] at a; cases a
    · exact sx q
    · exact absurd ⟨rfl, hP, hpb⟩ (z3 p')
theorem fac_mem {n : Nat} {L : List (Nat × Nat)} (h : FacS n L) (h1 : 1 ≤ n) (p : Nat) : p ∈ L.map (·.1) ↔ PrimeN p ∧ p ∣ n := by
  rw [List.mem_map]
  constructor
  · rintro ⟨z, hz, rfl⟩
    have hd := dvd_fprod hz
    rw [h.prod] at hd
    obtain ⟨hp, ht⟩ := h.ok z hz
    exact ⟨hp, Nat.dvd_trans ⟨z.1 ^ (z.2 - 1), by rw [← Nat.pow_succ']; congr 1; omega⟩ hd⟩
  · rintro ⟨hp, hd⟩
    rw [← h.prod] at hd
    exact prime_in hp h.ok hd
theorem rd_places_of (Z : Ad) (ds : List D) (μ : Mu) (Q : PQ) (X : XQ) (hl : ds.length = 1) (h : Splaces_of.run ds μ Q X) : (wplaces_of Z).run (bodyD Q X) (ev0 5 ds) μ := by
  obtain ⟨a, b, rfl, ha, hb, ⟨a1, a2⟩, ⟨b1, b2⟩, q⟩ := h
  unfold wplaces_of
  refine seq_by (fun ρ μ1 => ∃ l, ρ = [some (t2 a b), some (.ob l), none, none, none] ∧ μ l = none ∧ Ext μ μ1 ∧ μ1 l = some (.lst ([0, 2].map natD))) ?_ ?_
  · walk_at "sq"
    exact fun l hl => ⟨l, rfl, hl, (Ext.refl _).new hl, mset_same _ _ _⟩
  rintro ρ μ1 ⟨l, rfl, nl, x1, g1⟩
  refine seq_by (fun ρ μ2 => ∃ (ms : List Nat) (e2 e3 e4 : Option D), ρ = [some (t2 a b), some (.ob l), e2, e3, e4] ∧ Ext μ μ2 ∧ μ2 l = some (.lst (ms.map natD)) ∧ ms.length ≤ 82 ∧ ∀ p, p ∈ ms ↔ p = 0 ∨ p = 2 ∨ (PrimeN p ∧ ((p : Int) ∣ a ∨ (p : Int) ∣ b))) ?_ ?_
  · walk_at "sq"
    refine forW_by (fun i ρ μ2 => ∃ (ms : List Nat) (e2 e3 e4 : Option D), ρ = [some (t2 a b), some (.ob l), e2, e3, e4] ∧ Ext μ μ2 ∧ μ2 l = some (.lst (ms.map natD)) ∧ ms.length ≤ 2 + 40 * i ∧ ∀ p, p ∈ ms ↔ p = 0 ∨ p = 2 ∨ (PrimeN p ∧ ∃ x ∈ [a, b].take i, (p : Int) ∣ x)) (fun _ _ _ _ _ => trivial) ?_ ?_ ⟨[0, 2], none, none, none, rfl, x1, g1, by decide, fun p => by simp⟩
    · rintro i d ρ μ2 hi ⟨ms, e2, e3, e4, rfl, x2, g2, hlen, hm⟩
      have hd : ∃ x, [a, b][i]? = some x ∧ d = .int x ∧ x ≠ 0 ∧ Lt x ∧ i < 2 := by
        match i, hi with
        | 0, hi => cases hi; exact ⟨a, rfl, rfl, ha, ⟨a1, a2⟩, by decide⟩
        | 1, hi => cases hi; exact ⟨b, rfl, rfl, hb, ⟨b1, b2⟩, by decide⟩
        | i + 2, hi => simp at hi
      obtain ⟨x, hx, rfl, x0, ⟨lx1, lx2⟩, hi2⟩ := hd
      rw [gN_run]
      walk_at "sq"
      rw [g2]
      dsimp only
      rw [iabs_nn]
      refine ⟨x.natAbs, rfl, by omega, by omega, fun L p hL hp => ?_⟩
      have hlL := fac_len hL (by omega)
      walk_at "sq"
      refine ⟨small_size (by rw [List.length_map]; omega), ?_⟩
      refine lcG_map (fun d => match d with | .tup [.int y, _] => .int y | _ => .non) (mset_same _ _ _) (fun d hd => ?_) fun l2 hl2 => ?_
      · obtain ⟨z, hz, rfl⟩ := List.mem_map.mp hd
        refine ⟨_, rfl, ?_⟩
        walk_at "sq"
        exact rfl
      · have em : (L.map prD).map (fun d => match d with | .tup [.int y, _] => D.int y | _ => .non) = (L.map (·.1)).map natD := by
          rw [List.map_map, List.map_map]; rfl
        rw [em]
        have g3 : mset (mset μ2 p (.lst (L.map prD))) l2 (.lst ((L.map (·.1)).map natD)) l = some (.lst (ms.map natD)) := at_new (at_new g2 hp) hl2
        rw [g3]
        dsimp only
        refine ⟨small_size (by rw [List.length_map, List.length_map, List.length_map]; omega), ms ++ L.map (·.1), _, _, _, rfl, ((x2.new hp).new hl2).set nl, by rw [List.map_append], by rw [List.length_append, List.length_map]; omega, fun k => ?_⟩
        rw [List.mem_append, hm, fac_mem hL (by omega), take_snoc hx]
        have e : k ∣ x.natAbs ↔ (k : Int) ∣ x := Int.ofNat_dvd_left.symm
        rw [e]
        constructor
        · rintro ((h | h | ⟨h, y, hy, hd⟩) | ⟨h, hd⟩)
          · exact .inl h
          · exact .inr (.inl h)
          · exact .inr (.inr ⟨h, y, List.mem_append_left _ hy, hd⟩)
          · exact .inr (.inr ⟨h, x, by simp, hd⟩)
        · rintro (h | h | ⟨h, y, hy, hd⟩)
          · exact .inl (.inl h)
          · exact .inl (.inr (.inl h))
          · rcases List.mem_append.mp hy with hy | hy
            · exact .inl (.inr (.inr ⟨h, y, hy, hd⟩))
            · rw [List.mem_singleton.mp hy] at hd
              exact .inr ⟨h, hd⟩
    · rintro ρ μ2 ⟨ms, e2, e3, e4, rfl, x2, g2, hlen, hm⟩
      refine ⟨ms, e2, e3, e4, rfl, x2, g2, hlen, fun p => (hm p).trans ?_⟩
      simp
  rintro ρ μ2 ⟨ms, e2, e3, e4, rfl, x2, g2, hlen, hm⟩
  walk_at "sq"
  refine ⟨ms.map fun x : Nat => (x : Int), ⟨l, rfl, by rw [g2, nats_ints]⟩, by rw [List.length_map]; omega, fun ns' l2 hs hmm hl2 => ?_⟩
  have hsub : ∀ k ∈ ns', ∃ n ∈ ms, k = (n : Int) := fun k hk => by
    obtain ⟨n, hn, rfl⟩ := List.mem_map.mp ((hmm k).mp hk)
    exact ⟨n, hn, rfl⟩
  have en : ns'.map D.int = (ns'.map Int.toNat).map natD := by
    rw [List.map_map]
    refine List.map_congr_left fun k hk => ?_
    obtain ⟨n, hn, rfl⟩ := hsub k hk
    show D.int (n : Int) = D.int (((n : Int).toNat : Nat) : Int)
    rw [Int.toNat_natCast]
  rw [en]
  refine SubQ.new x2 hl2 fun l3 hl3 => q (ns'.map Int.toNat) l3 ⟨?_, fun p => ?_⟩ ?_ hl3
  · rw [List.pairwise_map]
    refine List.Pairwise.imp_of_mem (fun {x y} hx hy hxy => ?_) hs
    obtain ⟨m, _, rfl⟩ := hsub x hx
    obtain ⟨m', _, rfl⟩ := hsub y hy
    rw [Int.toNat_natCast, Int.toNat_natCast]; omega
  · rw [← hm, List.mem_map]
    constructor
    · rintro ⟨k, hk, rfl⟩
      obtain ⟨n, hn, rfl⟩ := hsub k hk
      rw [Int.toNat_natCast]; exact hn
    · intro hp
      exact ⟨(p : Int), (hmm _).mpr (List.mem_map.mpr ⟨p, hp, rfl⟩), Int.toNat_natCast p⟩
  · rw [List.length_map]
    have := nodup_len (l := ns'.map Int.toNat) (m := ms) (by
      rw [List.Nodup, List.pairwise_map]
      refine List.Pairwise.imp_of_mem (fun {x y} hx hy hxy => ?_) hs
      obtain ⟨m, _, rfl⟩ := hsub x hx
      obtain ⟨m', _, rfl⟩ := hsub y hy
      rw [Int.toNat_natCast, Int.toNat_natCast]; omega) (fun x hx => by
      obtain ⟨k, hk, rfl⟩ := List.mem_map.mp hx
      obtain ⟨n, hn, rfl⟩ := hsub k hk
      rw [Int.toNat_natCast]; exact hn)
    rw [List.length_map] at this
    omega
theorem rd_bad_places (Z : Ad) (ds : List D) (μ : Mu) (Q : PQ) (X : XQ) (hl : ds.length = 2) (h : (Sbad_places Z).run ds μ Q X) : (wbad_places Z).run (bodyD Q X) (ev0 3 ds) μ := by
  obtain ⟨d, e, rfl, h1, h2, h⟩ := h
  unfold wbad_places
  walk_at "sq"
  have sx : ∀ {C : Addr} {d : D}, X C d μ → SubX X C d μ := fun z => ⟨μ, fun _ _ z => z, z⟩
  refine ⟨d, rfl, h1, fun z => ?_, fun z1 => ⟨e, rfl, h2, fun z => ?_, fun z2 => ?_⟩⟩
  · rcases h with ⟨_, q⟩ | ⟨a, _⟩ | ⟨a, b, rfl, _, a0, _, la, _⟩
    · exact sx q
    · rw [z] at a; cases a
    · rw [live_mk la a0] at z; cases z
  · rcases h with ⟨a, _⟩ | ⟨_, _, q⟩ | ⟨a, b, _, rfl, _, b0, _, lb, _⟩
    · rw [z1] at a; cases a
    · exact sx q
    · rw [live_mk lb b0] at z; cases z
  rcases h with ⟨a, _⟩ | ⟨_, a, _⟩ | ⟨a, b, rfl, rfl, a0, b0, la, lb, q⟩
  · rw [z1] at a; cases a
  · rw [z2] at a; cases a
  refine ⟨a, b, rfl, a0, b0, la, lb, fun S l hS hlen hl => ?_⟩
  walk_at "sq"
  refine ⟨small_size (by rw [List.length_map]; omega), ?_⟩
  refine lcG_pure (fun d => match d with | .int i => if hil a b i.toNat = -1 then some d else none | _ => none) (mset_same _ _ _) (fun d hd => ?_) ?_
  · obtain ⟨p, hp, rfl⟩ := List.mem_map.mp hd
    have hP : Pl p := by
      rcases (hS.mem p).mp hp with rfl | rfl | h
      · exact .inl rfl
      · exact .inr pr2
      · exact .inr h.1
    have hpb : p ≤ 1000000000000 := by
      rcases (hS.mem p).mp hp with rfl | rfl | ⟨_, h | h⟩
      · decide
      · decide
      · have := Nat.le_of_dvd (by omega) (Int.ofNat_dvd_left.mp h)
        obtain ⟨_, _⟩ := la; omega
      · have := Nat.le_of_dvd (by omega) (Int.ofNat_dvd_left.mp h)
        obtain ⟨_, _⟩ := lb; omega
    refine ⟨_, rfl, ?_⟩
    walk_at "sq"
    refine ⟨_, ⟨a, b, p, rfl, a0, b0, la, lb, hP, hpb, rfl⟩, ?_⟩
    walk_at "sq"
    unfold natD
    dsimp only
    rw [Int.toNat_natCast]
    by_cases g : hil a b p = -1
    · rw [if_pos g, if_pos g]
    · rw [if_neg g, if_neg g]
  · have es : (S.map natD).filterMap (fun d => match d with | .int i => if hil a b i.toNat = -1 then some d else none | _ => none) = (S.filter fun p => decide (hil a b p = -1)).map natD := by
      clear hS hlen hl
      induction S with
      | nil => rfl
      | cons p S ih =>
        rw [List.map_cons, List.filterMap_cons, ih, List.filter_cons]
        unfold natD
        dsimp only
        rw [Int.toNat_natCast]
        by_cases g : hil a b p = -1
        · rw [if_pos g, if_pos (decide_eq_true g)]; rfl
        · rw [if_neg g, if_neg (by simpa using g)]
    rw [es, List.nil_append]
    intro l2 hl2
    refine .ext (q _ ⟨hS.asc.filter _, fun p => ?_⟩) (((Ext.refl _).new hl).new hl2)
    rw [List.mem_filter, hS.mem, decide_eq_true_eq]
end K2

/-! k02: the law's own look. -/
namespace K2
open PySem PySem.Spec PyProof.Rows L2 Sq NT
open Hil
local macro_rules | `(tactic| walk_at "sq") => `(tactic| simp only [gInK_run, gSK_run, gTL_run, wZipM_run, wLstRg3_run, wLc2_run, wSortSetT_run, fList_tup, gIsN_run, gNotN_run, Sq.isNon, gMinT_run, fMinT_run, wZip_run, fZip_tup, wSortSet_run, wTupS_run, wLstS_run, runS_nil, runS_one, runS_star, starQ_tup, starQ_rls, starQ_ob, List.append_nil, fList_ob, wBack_run, wBackL_run, gStr_run, fStr_int, fStr_str, wUpper_run, wDct_run, gReprX_run, wIsX_run, wVal_run, wLam_run, wHeard_run, wRaise_run, wVar_run, wC_run, wOp_run, onBl_bl, gI_run, gAdd_int, gAdd_str, gAdd_tup, gMul_int, EqB_int, EqB_str, EqB_bl, gEq_run, gNe_run, wNeg_run, wNotV_run, wAndV_run, wOrV_run, wTB_run, wNotT_run, wAndT_run, wOrT_run, wIfE_run, runAll_nil, runAll_cons, wTup_run, wLst_run, gIx_tup, gIx_rls, gIx_str, gIx_ob, wB_run, fLen_tup, fLen_rls, fLen_str, fLen_ob, fAbs_int, fInt_int, fInt_bl, fTuple_tup, fTuple_ob, wIsi_run, wCall_run, wNext_run, wSeq_run, wBreak_run, wCont_run, wNever_run, wExpr_run, wRet_run, wRetN_run, wIf_run, gN_run, runGs_nil, runGs_cons, gT_run, gS_run, sIx_ob, wAsg_run, wSet_run, wPar_run, wPar3_run, wSeqI_run, fSeq_tup, fSeq_rls, fSeq_ob, wRng1_run, fRng1_int, wRng2_run, fRng2_int, wFor_run, wLc_run, wYes_run, onLst_ob, wMt_run, fAppend_run, fExtend_run, wAug_run, bodyD_nx, bodyD_rt, bodyD_ex, wNoP_run, onInt_int, wPart_run, fSl_tup, fSl_rls, fSl_str, fSl_ob, wSl_run, gIn_run, gNotIn_run, fSorted_ob, wLstRg1_run, wChainN_run, chainRun_last, chainRun_cons, spR_run,
  Sq.gSub, gFdiv, gMod, gLt, gLe, gGt, gGe, gAddI, gPowW, gLen_run, gAbs_run, gInt_run, gAll_run, gAny_run, gSum_run, gTuple_run, gList_run, gSorted_run, gRepr_run, gMax2_run, gMin2_run, gAppend_run, gExtend_run, CT.set_one, CT.set_many, CT.slots, setAll, wipeE, lcG_nil,
  List.getElem?_cons_zero, List.getElem?_cons_succ, List.getElem?_nil, Int.cast_ofNat_Int, List.set_cons_zero, List.set_cons_succ, List.length_cons, List.length_nil, ev0, List.map_cons, List.map_nil, List.cons_append, List.nil_append, List.replicate_succ, List.replicate_zero, Nat.reduceSub, Nat.reduceAdd, mset_same, decide_true, decide_false, if_true, if_false, ite_true, ite_false, Bool.false_eq_true, Bool.true_eq_false, reduceCtorEq, Bool.not_true, Bool.not_false, true_and, and_true, decide_eq_true_eq, Bool.not_eq_true', decide_eq_false_iff_not, ite_not, isA, atI_0, atI_1, atI_2, atI_3, atI_m4, ixN_0, ixN_1, ixN_30, ixN_31, ixN_32])
theorem put_in {ks : List Key} {k j : Key} : inK (putKs ks k) j = true ↔ inK ks j = true ∨ j = k := by
  rw [inK_iff, inK_iff]
  unfold putKs
  by_cases g : inK ks k = true
  · rw [if_pos g]
    constructor
    · exact .inl
    · rintro (h | rfl)
      · exact h
      · exact inK_iff.mp g
  · rw [if_neg g, List.mem_append, List.mem_singleton]
theorem put_le {ks : List Key} {k : Key} : (putKs ks k).length ≤ ks.length + 1 := by
  unfold putKs
  split
  · omega
  · rw [List.length_append]; exact Nat.le_refl _
/-- x, y that fit -/
def Cond (a b : Int) (p w x y : Nat) : Prop := (∃ z, z < w ∧ z % p ≠ 0 ∧ (a * x * x + b * y * y) % (w : Int) = ((z * z % w : Nat) : Int)) ∨ ((∃ z, z < w ∧ (a * x * x + b * y * y) % (w : Int) = ((z * z % w : Nat) : Int)) ∧ (x % p ≠ 0 ∨ y % p ≠ 0))
theorem look_cond {a b : Int} {p w : Nat} : Hil.Look a b p w ↔ ∃ x y, x < w ∧ y < w ∧ Cond a b p w x y := by
  unfold Hil.Look Cond
  constructor
  · rintro ⟨x, y, z, hx, hy, hz, e, h | h⟩
    · exact ⟨x, y, hx, hy, .inl ⟨z, hz, h, e⟩⟩
    · exact ⟨x, y, hx, hy, .inr ⟨⟨z, hz, e⟩, h⟩⟩
  · rintro ⟨x, y, hx, hy, ⟨z, hz, h, e⟩ | ⟨⟨z, hz, e⟩, h⟩⟩
    · exact ⟨x, y, z, hx, hy, hz, e, .inl h⟩
    · exact ⟨x, y, z, hx, hy, hz, e, .inr h⟩
theorem free_bd {a : Int} (h : a ∈ freeL) : -15 ≤ a ∧ a ≤ 15 ∧ a ≠ 0 := by
  have : ∀ a ∈ freeL, -15 ≤ a ∧ a ≤ 15 ∧ a ≠ 0 := by decide
  exact this a h
theorem wof_bd {a b : Int} {p : Nat} (hp : p ∈ [2, 3, 5]) : 1 ≤ wOf a b p ∧ wOf a b p ≤ 125 := by
  simp only [List.mem_cons, List.not_mem_nil, or_false] at hp
  unfold wOf
  rcases hp with rfl | rfl | rfl
  · rw [if_pos rfl]; exact ⟨by decide, by decide⟩
  · rw [if_neg (show ¬ (3 : Nat) = 2 by decide)]; split <;> exact ⟨by decide, by decide⟩
  · rw [if_neg (show ¬ (5 : Nat) = 2 by decide)]; split <;> exact ⟨by decide, by decide⟩
theorem rd_law_hilbert (Z : Ad) (ds : List D) (μ : Mu) (Q : PQ) (X : XQ) (hl : ds.length = 3) (h : S_law_hilbert.run ds μ Q X) : (w_law_hilbert Z).run (bodyD Q X) (ev0 10 ds) μ := by
  obtain ⟨a, b, p, rfl, ha, hb, hp, q⟩ := h
  obtain ⟨a1, a2, a0⟩ := free_bd ha
  obtain ⟨b1, b2, b0⟩ := free_bd hb
  unfold w_law_hilbert natD
  by_cases hp0 : p = 0
  · subst hp0
    rw [hil0] at q
    walk_at "sq"
    by_cases g1 : a < 0
    · rw [if_pos g1]
      by_cases g2 : b < 0
      · rw [if_pos g2]; rw [if_pos ⟨g1, g2⟩] at q; exact .of q
      · rw [if_neg g2]; rw [if_neg (fun z => g2 z.2)] at q; exact .of q
    · rw [if_neg g1]; rw [if_neg (fun z => g1 z.1)] at q; exact .of q
  have hp3 := hp.resolve_left hp0
  have hpb : 2 ≤ p ∧ p ≤ 5 := by
    simp only [List.mem_cons, List.not_mem_nil, or_false] at hp3
    omega
  have hpr : Pl p := by
    simp only [List.mem_cons, List.not_mem_nil, or_false] at hp3
    rcases hp3 with rfl | rfl | rfl
    · exact .inr pr2
    · exact .inr pr3
    · exact .inr pr5
  obtain ⟨w1, w2⟩ := wof_bd (a := a) (b := b) hp3
  have hlook := look_hil ha hb hp3
  have hcase := hil_cases a b hpr a0 b0
  refine seq_by (fun ρ μ1 => ρ = [some (.int a), some (.int b), some (.int (p : Int)), none, none, none, none, none, none, none] ∧ μ1 = μ) ?_ ?_
  · walk_at "sq"
    rw [if_neg (by omega)]
    trivial
  rintro ρ μ1 ⟨rfl, rfl⟩
  refine seq_by (fun ρ μ2 => ρ = [some (.int a), some (.int b), some (.int (p : Int)), some (.int ((wOf a b p : Nat) : Int)), none, none, none, none, none, none] ∧ μ2 = μ1) ?_ ?_
  · walk_at "sq"
    rw [fme, fme]
    unfold wOf
    by_cases h2 : p = 2
    · rw [if_pos (by omega), if_pos h2]
      trivial
    · rw [if_neg (by omega), if_neg h2]
      refine ⟨by omega, ?_⟩
      by_cases g1 : a % (p : Int) = 0
      · rw [if_pos g1]
        refine ⟨by omega, ?_⟩
        by_cases g2 : b % (p : Int) = 0
        · rw [if_pos g2, if_pos ⟨g1, g2⟩, Int.natCast_mul, Int.natCast_mul]
          exact ⟨mulOk_l (by omega) (by omega), mulOk_r (by omega) (by omega), rfl⟩
        · rw [if_neg g2, if_neg (fun z => g2 z.2), Int.natCast_mul]
          exact ⟨mulOk_l (by omega) (by omega), rfl⟩
      · rw [if_neg g1, if_neg (fun z => g1 z.1), Int.natCast_mul]
        exact ⟨mulOk_l (by omega) (by omega), rfl⟩
  rintro ρ μ2 ⟨rfl, rfl⟩
  generalize hw : wOf a b p = w at *
  have wne : (w : Int) ≠ 0 := by omega
  refine seq_by (fun ρ μ3 => ∃ l e : Addr, ρ = [some (.int a), some (.int b), some (.int (p : Int)), some (.int (w : Int)), some (.ob l), some (.ob e), none, none, none, none] ∧ l ≠ e ∧ Ext μ2 μ3 ∧ μ2 l = none ∧ μ2 e = none ∧ μ3 l = some (.dct [] []) ∧ μ3 e = some (.dct [] [])) ?_ ?_
  · walk_at "sq"
    intro l hl e he
    have hne : l ≠ e := ne_free (mset_same _ _ _) he
    exact ⟨l, e, rfl, hne, ((Ext.refl _).new hl).new he, hl, ((Ext.refl μ2).new hl).free he, at_new (mset_same _ _ _) he, mset_same _ _ _⟩
  rintro ρ μ3 ⟨l, e, rfl, hne, x3, nl, ne, gl, ge⟩
  refine seq_by (fun ρ μ4 => ∃ (e6 : Option D) (ksl kse : List Key) (dsl dse : List D), ρ = [some (.int a), some (.int b), some (.int (p : Int)), some (.int (w : Int)), some (.ob l), some (.ob e), e6, none, none, none] ∧ Ext μ2 μ4 ∧ μ4 l = some (.dct ksl dsl) ∧ μ4 e = some (.dct kse dse) ∧ (∀ r : Int, inK ksl (.inl r) = true ↔ ∃ z, z < w ∧ z % p ≠ 0 ∧ r = ((z * z % w : Nat) : Int)) ∧ ∀ r : Int, inK kse (.inl r) = true ↔ ∃ z, z < w ∧ r = ((z * z % w : Nat) : Int)) ?_ ?_
  · walk_at "sq"
    refine ⟨by omega, by omega, ?_⟩
    refine forW_by (fun i ρ μ4 => ∃ (e6 : Option D) (ksl kse : List Key) (dsl dse : List D), ρ = [some (.int a), some (.int b), some (.int (p : Int)), some (.int (w : Int)), some (.ob l), some (.ob e), e6, none, none, none] ∧ Ext μ2 μ4 ∧ μ4 l = some (.dct ksl dsl) ∧ μ4 e = some (.dct kse dse) ∧ ksl.length ≤ i ∧ kse.length ≤ i ∧ (∀ r : Int, inK ksl (.inl r) = true ↔ ∃ z, z < i ∧ z % p ≠ 0 ∧ r = ((z * z % w : Nat) : Int)) ∧ ∀ r : Int, inK kse (.inl r) = true ↔ ∃ z, z < i ∧ r = ((z * z % w : Nat) : Int)) (fun _ _ _ _ _ => trivial) ?_ ?_ ⟨none, [], [], [], [], rfl, x3, gl, ge, Nat.le_refl _, Nat.le_refl _, fun r => ⟨(fun z => nomatch z), fun ⟨z, hz, _⟩ => absurd hz (Nat.not_lt_zero _)⟩, fun r => ⟨(fun z => nomatch z), fun ⟨z, hz, _⟩ => absurd hz (Nat.not_lt_zero _)⟩⟩
    · rintro i d ρ μ4 hi ⟨e6, ksl, kse, dsl, dse, rfl, x4, gl, ge, hll, hle, hml, hme⟩
      obtain ⟨hi2, rfl⟩ := rangeD_get hi
      rw [Int.toNat_natCast] at hi2
      rw [gN_run]
      walk_at "sq"
      rw [Int.zero_add, ← Int.natCast_mul, fm_nat, fm_nat]
      have ext : ∀ (j : Nat) (r : Int) (P : Nat → Prop), ((∃ z, z < i ∧ P z ∧ r = ((z * z % w : Nat) : Int)) ∨ (P i ∧ r = ((i * i % w : Nat) : Int))) ↔ ∃ z, z < i + 1 ∧ P z ∧ r = ((z * z % w : Nat) : Int) := fun _ r P => by
        constructor
        · rintro (⟨z, hz, h1, h2⟩ | ⟨h1, h2⟩)
          · exact ⟨z, by omega, h1, h2⟩
          · exact ⟨i, by omega, h1, h2⟩
        · rintro ⟨z, hz, h1, h2⟩
          rcases Nat.lt_or_ge z i with g | g
          · exact .inl ⟨z, g, h1, h2⟩
          · obtain rfl : z = i := by omega
            exact .inr ⟨h1, h2⟩
      have inj : ∀ {r s : Int}, ((.inl r : Key) = .inl s) ↔ r = s := fun {r s} => ⟨fun h => by cases h; rfl, fun h => by rw [h]⟩
      have hme' : ∀ r : Int, inK (putKs kse (.inl ((i * i % w : Nat) : Int))) (.inl r) = true ↔ ∃ z, z < i + 1 ∧ r = ((z * z % w : Nat) : Int) := fun r => by
        rw [put_in, hme, inj]
        have := ext 0 r (fun _ => True)
        simpa using this
      refine ⟨mulOk_l (by omega) (by omega), wne, e, _, kse, dse, rfl, rfl, ge, by omega, ?_⟩
      have gl2 : (mset μ4 e (.dct (putKs kse (.inl ((i * i % w : Nat) : Int))) (putDs kse dse (.inl ((i * i % w : Nat) : Int)) (.bl true)))) l = some (.dct ksl dsl) := by rw [mset_ne hne]; exact gl
      have pl := put_le (ks := ksl) (k := .inl ((i * i % w : Nat) : Int))
      have pe := put_le (ks := kse) (k := .inl ((i * i % w : Nat) : Int))
      refine ⟨by omega, ?_⟩
      by_cases g : i % p = 0
      · rw [if_pos (by omega)]
        refine ⟨_, ksl, _, dsl, _, rfl, x4.set ne, gl2, mset_same _ _ _, by omega, by omega, fun r => ?_, hme'⟩
        rw [hml, ← ext 0 r (fun z => z % p ≠ 0)]
        exact ⟨.inl, fun h => h.elim id fun h => absurd g h.1⟩
      · rw [if_neg (by omega)]
        refine ⟨mulOk_l (by omega) (by omega), wne, l, _, ksl, dsl, rfl, rfl, gl2, by omega, ?_⟩
        refine ⟨_, _, _, _, _, rfl, (x4.set ne).set nl, mset_same _ _ _, by rw [mset_ne (fun z => hne z.symm)]; exact mset_same _ _ _, by omega, by omega, fun r => ?_, hme'⟩
        rw [put_in, hml, inj, ← ext 0 r (fun z => z % p ≠ 0)]
        exact or_congr Iff.rfl ⟨fun h => ⟨g, h⟩, fun h => h.2⟩
    · rintro ρ μ4 ⟨e6, ksl, kse, dsl, dse, rfl, x4, gl, ge, hll, hle, hml, hme⟩
      rw [rangeD_len, Int.toNat_natCast] at hml hme
      exact ⟨e6, ksl, kse, dsl, dse, rfl, x4, gl, ge, hml, hme⟩
  rintro ρ μ4 ⟨e6, ksl, kse, dsl, dse, rfl, x4, gl, ge, hml, hme⟩
  refine seq_by (fun ρ μ5 => (∀ x y, x < w → y < w → ¬ Cond a b p w x y) ∧ μ5 = μ4) ?_ ?_
  · walk_at "sq"
    refine ⟨by omega, by omega, ?_⟩
    refine forW_by (fun i ρ μ5 => (∃ e7 e8 e9, ρ = [some (.int a), some (.int b), some (.int (p : Int)), some (.int (w : Int)), some (.ob l), some (.ob e), e6, e7, e8, e9]) ∧ (∀ x y, x < i → y < w → ¬ Cond a b p w x y) ∧ μ5 = μ4) (fun _ _ _ _ _ => trivial) ?_ ?_ ⟨⟨none, none, none, rfl⟩, fun x y hx => absurd hx (Nat.not_lt_zero _), rfl⟩
    · rintro i d ρ μ5 hi ⟨⟨e7, e8, e9, rfl⟩, hno, rfl⟩
      obtain ⟨hi2, rfl⟩ := rangeD_get hi
      rw [Int.toNat_natCast] at hi2
      rw [gN_run]
      walk_at "sq"
      refine ⟨by omega, by omega, ?_⟩
      refine forW_by (fun j ρ μ6 => (∃ e8 e9, ρ = [some (.int a), some (.int b), some (.int (p : Int)), some (.int (w : Int)), some (.ob l), some (.ob e), e6, some (.int (0 + (i : Int))), e8, e9]) ∧ (∀ y, y < j → ¬ Cond a b p w i y) ∧ μ6 = μ5) (fun _ _ _ _ _ => trivial) ?_ ?_ ⟨⟨_, _, rfl⟩, fun y hy => absurd hy (Nat.not_lt_zero _), rfl⟩
      · rintro j d ρ μ6 hj ⟨⟨e8, e9, rfl⟩, hnj, rfl⟩
        obtain ⟨hj2, rfl⟩ := rangeD_get hj
        rw [Int.toNat_natCast] at hj2
        rw [gN_run]
        have fin : Cond a b p w i j → SubQ Q (.int 1) μ6 := fun h => by
          have := hlook.mp (look_cond.mpr ⟨i, j, hi2, hj2, h⟩)
          rw [this] at q
          exact .ext q x4
        have nx : ¬ Cond a b p w i j → ∀ y, y < j + 1 → ¬ Cond a b p w i y := fun h y hy => by
          rcases Nat.lt_or_ge y j with g | g
          · exact hnj y g
          · obtain rfl : y = j := by omega
            exact h
        walk_at "sq"
        rw [Int.zero_add, Int.zero_add, fme]
        refine ⟨mulOk_l (by omega) (by omega), mulOk_r (by omega) (by omega), mulOk_l (by omega) (by omega), mulOk_r (by omega) (by omega), wne, _, l, ksl, dsl, rfl, rfl, gl, ?_⟩
        by_cases g1 : inK ksl (.inl ((a * i * i + b * j * j) % (w : Int))) = true
        · rw [if_pos g1]
          exact fin (.inl ((hml _).mp g1))
        · rw [if_neg g1]
          refine ⟨_, e, kse, dse, rfl, rfl, ge, ?_⟩
          by_cases g2 : inK kse (.inl ((a * i * i + b * j * j) % (w : Int))) = true
          · rw [if_pos g2, fm_nat]
            refine ⟨by omega, ?_⟩
            by_cases g3 : i % p = 0
            · rw [if_pos (by omega), fm_nat]
              refine ⟨by omega, ?_⟩
              by_cases g4 : j % p = 0
              · rw [if_pos (by omega)]
                refine ⟨⟨_, _, rfl⟩, nx fun h => ?_⟩
                rcases h with h | ⟨_, h | h⟩
                · exact g1 ((hml _).mpr h)
                · exact h g3
                · exact h g4
              · rw [if_neg (by omega)]
                exact fin (.inr ⟨(hme _).mp g2, .inr g4⟩)
            · rw [if_neg (by omega)]
              exact fin (.inr ⟨(hme _).mp g2, .inl g3⟩)
          · rw [if_neg g2]
            refine ⟨⟨_, _, rfl⟩, nx fun h => ?_⟩
            rcases h with h | ⟨h, _⟩
            · exact g1 ((hml _).mpr h)
            · exact g2 ((hme _).mpr h)
      · rintro ρ μ6 ⟨⟨e8, e9, rfl⟩, hnj, rfl⟩
        rw [rangeD_len, Int.toNat_natCast] at hnj
        refine ⟨⟨_, _, _, rfl⟩, fun x y hx hy => ?_, rfl⟩
        rcases Nat.lt_or_ge x i with g | g
        · exact hno x y g hy
        · obtain rfl : x = i := by omega
          exact hnj y hy
    · rintro ρ μ5 ⟨_, hno, rfl⟩
      rw [rangeD_len, Int.toNat_natCast] at hno
      exact ⟨hno, rfl⟩
  rintro ρ μ5 ⟨hno, rfl⟩
  have hh : hil a b p = -1 := hcase.resolve_left fun h => by
    obtain ⟨x, y, hx, hy, hc⟩ := look_cond.mp (hlook.mpr h)
    exact hno x y hx hy hc
  rw [hh] at q
  walk_at "sq"
  exact .ext q x4
theorem rd_law_free_drawn (Z : Ad) (ds : List D) (μ : Mu) (Q : PQ) (X : XQ) (hl : ds.length = 1) (h : S_law_free_drawn.run ds μ Q X) : (w_law_free_drawn Z).run (bodyD Q X) (ev0 2 ds) μ := by
  obtain ⟨p, n, rfl, hp, hn, q⟩ := h
  unfold w_law_free_drawn
  walk_at "sq"
  intro l hl
  refine ⟨p, l, n, _, rfl, hp.new hl, by omega, mset_same _ _ _, by simp, by simp, fun z => hp.ne hl z.symm, fun d μ2 hd k2 => ?_⟩
  have x2 : PotX (n + 1) μ μ2 p := ((PotX.refl hp).new hl).step k2
  have hd2 : ∃ u : Int, d = .int u ∧ u ∈ [1, 2, 3, 5, 6, 7, 10, 11, 13, 14, 15] := by
    simp only [List.mem_cons, List.not_mem_nil, or_false] at hd
    rcases hd with rfl | rfl | rfl | rfl | rfl | rfl | rfl | rfl | rfl | rfl | rfl <;> exact ⟨_, rfl, by decide⟩
  obtain ⟨u, rfl, hu⟩ := hd2
  walk_at "sq"
  intro l2 hl2
  refine ⟨p, l2, n + 1, _, rfl, x2.1.new hl2, by omega, mset_same _ _ _, by simp, by simp, fun z => x2.1.ne hl2 z.symm, fun d μ3 hd k3 => ?_⟩
  have x3 : PotX (n + 2) μ μ3 p := (x2.new hl2).step k3
  have hf : ∀ u ∈ ([1, 2, 3, 5, 6, 7, 10, 11, 13, 14, 15] : List Int), u * 1 ∈ freeL ∧ u * -1 ∈ freeL := by decide
  simp only [List.mem_cons, List.not_mem_nil, or_false] at hd
  rcases hd with rfl | rfl
  · walk_at "sq"
    exact ⟨mulOk_r (by decide) (by decide), .of (q _ _ (hf u hu).1 x3)⟩
  · walk_at "sq"
    exact ⟨mulOk_r (by decide) (by decide), .of (q _ _ (hf u hu).2 x3)⟩
theorem rd_law_live_drawn (Z : Ad) (ds : List D) (μ : Mu) (Q : PQ) (X : XQ) (hl : ds.length = 2) (h : S_law_live_drawn.run ds μ Q X) : (w_law_live_drawn Z).run (bodyD Q X) (ev0 2 ds) μ := by
  obtain ⟨p, n, rfl, hp, hn, q⟩ := h
  unfold w_law_live_drawn
  walk_at "sq"
  refine ⟨p, 900, n, rfl, hp, by omega, by omega, by omega, fun d μ2 d0 d1 k2 => ?_⟩
  have x2 := k2.x
  walk_at "sq"
  intro l2 hl2
  refine ⟨p, l2, n + 1, _, rfl, x2.1.new hl2, by omega, mset_same _ _ _, by simp, by simp, fun z => x2.1.ne hl2 z.symm, fun d' μ3 hd k3 => ?_⟩
  have x3 : PotX (n + 2) μ μ3 p := (x2.new hl2).step k3
  simp only [List.mem_cons, List.not_mem_nil, or_false] at hd
  rcases hd with rfl | rfl
  · walk_at "sq"
    exact ⟨mulOk_r (by decide) (by decide), .of (q _ _ (by omega) (by omega) (by omega) x3)⟩
  · walk_at "sq"
    exact ⟨mulOk_r (by decide) (by decide), .of (q _ _ (by omega) (by omega) (by omega) x3)⟩
end K2

/-! The walks of the defs that make lambdas, printed by gen2.py. -/
namespace K2
open PySem PySem.Spec PyProof.Rows L2 Sq
theorem der__law_right (Z : Ad) {P : Program} {w : World} {K : PySem.W.Frag} {mg : Str → Option Value} {base : Heap} {f : Addr} (T : Txt mg) (F__law_factored : FnD P w K mg base 1 "_law_factored" ["number"] [] S_law_factored) (F__law_free_drawn : FnD P w K mg base 3 "_law_free_drawn" ["pot"] [] S_law_free_drawn) (F__law_hilbert : FnD P w K mg base 1 "_law_hilbert" ["one", "other", "prime"] [] S_law_hilbert) (F__law_live_drawn : FnD P w K mg base 3 "_law_live_drawn" ["pot", "wide"] [] S_law_live_drawn) (F__law_of : FnD P w K mg base 2 "_law_of" ["pot", "some"] [] S_law_of) (F__law_take : FnD P w K mg base 1 "_law_take" ["pot", "upto"] [] S_law_take) (F_bad_places : FnD P w K mg base 4 "bad_places" ["one", "other"] [1] (Sbad_places Z)) (F_hilbert : FnD P w K mg base 4 "hilbert" ["one", "other", "prime"] [2] (Shilbert Z)) (I_BadInt : IsXD K mg "BadInt" (oneC Z.cBadInt)) (I_BadPrime : IsXD K mg "BadPrime" (oneC Z.cBadPrime)) (V_errs : ErrsD K Z.isE) (T_heard : HeardD P w K mg base Z.isSq) {c : Addr} (TB : LamX.TabB base mg c Z.P_law_right) (A : Around) (outer : List Env) (s : Shared) (H : Hp) (E : XK) (hg : A.guards = some []) (hr : Room 6 (A.deeper (envOfC "_law_right" (defScope s_law_right) s.heap.objs.size f (.ref c)))) :
    LSs (cxOf (L2.CX P w) P w K mg base N_law_right "_law_right" (defScope s_law_right) f (.ref c) A outer s H E) (wxE E) (defBody s_law_right) (w_law_right Z (envOfC "_law_right" (defScope s_law_right) s.heap.objs.size f (.ref c)).cells) :=
  lss_cons (ls_for (passes_of rfl) (li_rng1 T.z_range (la_cons (le_int) (la_nil))) (lg_name 1 sc__law_right.nd) (lss_cons (ls_asg (le_tup (la_cons (le_call F__law_free_drawn hg hr (takes_of rfl rfl rfl rfl) (la_cons (le_var 0) (la_nil))) (la_cons (le_call F__law_free_drawn hg hr (takes_of rfl rfl rfl rfl) (la_cons (le_var 0) (la_nil))) (la_cons (le_call F__law_of hg hr (takes_of rfl rfl rfl rfl) (la_cons (le_var 0) (la_cons (le_lst (la_cons (le_int) (la_cons (le_int) (la_cons (le_int) (la_cons (le_int) (la_cons (le_int) (la_nil)))))) (show 5 ≤ 1000 by decide)) (la_nil)))) (la_nil)))) (show 3 ≤ 1000 by decide)) (lg_tup (lgs_cons (lg_name 2 sc__law_right.nd) (lgs_cons (lg_name 3 sc__law_right.nd) (lgs_cons (lg_name 4 sc__law_right.nd) (lgs_nil)))))) (lss_cons (ls_set 5 sc__law_right.nd (le_call F__law_hilbert hg hr (takes_of rfl rfl rfl rfl) (la_cons (le_var 2) (la_cons (le_var 3) (la_cons (le_var 4) (la_nil)))))) (lss_cons (ls_if (lt_cmp (od_ne hr.units) (le_callB (cd_reprX hg (u65 hr)) T.z_repr (by decide +kernel) (la_cons (le_callK 2 F_hilbert hg hr (takes_of rfl rfl rfl rfl) (la_cons (le_var 2) (la_cons (le_var 3) (la_nil))) (lk_cons (le_var 4) (lk_nil))) (la_nil))) (le_callB (cd_reprX hg (u65 hr)) T.z_repr (by decide +kernel) (la_cons (le_var 5) (la_nil)))) (lss_one (ls_ret (le_bl))) (lss_nil)) (lss_cons (ls_set 6 sc__law_right.nd (le_callTy cd_int T.z_int (by decide +kernel) (la_cons (le_op od_add (le_int) (le_call F__law_take hg hr (takes_of rfl rfl rfl rfl) (la_cons (le_var 0) (la_cons (le_int) (la_nil))))) (la_nil)))) (lss_one (ls_if ((lw_or (lt_cmp (od_ne hr.units) (le_call F_hilbert hg hr (takes_of rfl rfl rfl rfl) (la_cons (le_op od_mul (le_op od_mul (le_var 2) (le_var 6)) (le_var 6)) (la_cons (le_var 3) (la_cons (le_var 4) (la_nil))))) (le_var 5)) (lw_or1 (lt_cmp (od_ne hr.units) (le_call F_hilbert hg hr (takes_of rfl rfl rfl rfl) (la_cons (le_var 3) (la_cons (le_var 2) (la_cons (le_var 4) (la_nil))))) (le_var 5)))).lt) (lss_one (ls_ret (le_bl))) (lss_nil)))))))) (lss_cons (ls_for (passes_of rfl) (li_rng1 T.z_range (la_cons (le_int) (la_nil))) (lg_name 1 sc__law_right.nd) (lss_cons (ls_asg (le_lc sc__law_right.nd (li_rng1 T.z_range (la_cons (le_int) (la_nil))) (ok := by show BlkOk N_law_right (defScope s_law_right) _ _; exact ⟨rfl, by decide +kernel, by decide +kernel, by decide +kernel, by decide +kernel⟩) (own := [("turn", 13)]) (hv := rfl) (hg := (fun _ _ _ _ _ => pg_one 13 sc__law_right.nd)) (ht := (fun _ _ _ _ _ => lps_nil)) (he := (fun _ _ _ _ _ => le_call F__law_live_drawn hg hr LamX.takes0 (la_cons (le_var 0) (la_cons (le_int) (la_nil)))))) (lg_tupL (lgs_cons (lg_name 2 sc__law_right.nd) (lgs_cons (lg_name 3 sc__law_right.nd) (lgs_cons (lg_name 7 sc__law_right.nd) (lgs_nil)))))) (lss_cons (ls_set 8 sc__law_right.nd (le_op od_add (le_lst (la_cons (le_int) (la_cons (le_int) (la_nil))) (show 2 ≤ 1000 by decide)) (le_lc sc__law_right.nd (li_seq (le_call F__law_factored hg hr (takes_of rfl rfl rfl rfl) (la_cons (le_callB cd_abs T.z_abs (by decide +kernel) (la_cons (le_op od_mul (le_op od_mul (le_var 2) (le_var 3)) (le_var 7)) (la_nil))) (la_nil)))) (ok := by show BlkOk N_law_right (defScope s_law_right) _ _; exact ⟨rfl, by decide +kernel, by decide +kernel, by decide +kernel, by decide +kernel⟩) (own := [("prime", 4), ("times", 14)]) (hv := rfl) (hg := (fun _ _ _ _ _ => pg_many (pgn_cons 4 sc__law_right.nd (pgn_cons 14 sc__law_right.nd (pgn_nil))))) (ht := (fun _ _ _ _ _ => lps_one (lt_cmp od_gt (le_var 4) (le_int)))) (he := (fun _ _ _ _ _ => le_var 4))))) (lss_cons (ls_set 9 sc__law_right.nd (le_callTy cd_tuple T.z_tuple (by decide +kernel) (la_cons (le_lc sc__law_right.nd (li_seq (le_var 8)) (ok := by show BlkOk N_law_right (defScope s_law_right) _ _; exact ⟨rfl, by decide +kernel, by decide +kernel, by decide +kernel, by decide +kernel⟩) (own := [("prime", 4)]) (hv := rfl) (hg := (fun _ _ _ _ _ => pg_one 4 sc__law_right.nd)) (ht := (fun _ _ _ _ _ => lps_one (lt_cmp (od_eq hr.units) (le_call F_hilbert hg hr LamX.takes0 (la_cons (le_var 2) (la_cons (le_var 3) (la_cons (le_var 4) (la_nil))))) (le_neg (le_int))))) (he := (fun _ _ _ _ _ => le_var 4))) (la_nil)))) (lss_cons (ls_if ((lw_or (lt_cmp (od_ne hr.units) (le_callB (cd_reprX hg (u65 hr)) T.z_repr (by decide +kernel) (la_cons (le_callK 1 F_bad_places hg hr (takes_of rfl rfl rfl rfl) (la_cons (le_var 2) (la_nil)) (lk_cons (le_var 3) (lk_nil))) (la_nil))) (le_callB (cd_reprX hg (u65 hr)) T.z_repr (by decide +kernel) (la_cons (le_var 9) (la_nil)))) (lw_or1 (lt_cmp (od_ne hr.units) (le_op od_mod (le_callB cd_len T.z_len (by decide +kernel) (la_cons (le_var 9) (la_nil))) (le_int)) (le_int)))).lt) (lss_one (ls_ret (le_bl))) (lss_nil)) (lss_one (ls_for (passes_of rfl) (li_seq (le_var 8)) (lg_name 4 sc__law_right.nd) (lss_cons (ls_if (lt_cmp (od_ne hr.units) (le_call F_hilbert hg hr (takes_of rfl rfl rfl rfl) (la_cons (le_var 2) (la_cons (le_neg (le_var 2)) (la_cons (le_var 4) (la_nil))))) (le_int)) (lss_one (ls_ret (le_bl))) (lss_nil)) (lss_cons (ls_if (lt_cmp (od_ne hr.units) (le_call F_hilbert hg hr (takes_of rfl rfl rfl rfl) (la_cons (le_var 2) (la_cons (le_op od_mul (le_var 3) (le_var 7)) (la_cons (le_var 4) (la_nil))))) (le_op od_mul (le_call F_hilbert hg hr (takes_of rfl rfl rfl rfl) (la_cons (le_var 2) (la_cons (le_var 3) (la_cons (le_var 4) (la_nil))))) (le_call F_hilbert hg hr (takes_of rfl rfl rfl rfl) (la_cons (le_var 2) (la_cons (le_var 7) (la_cons (le_var 4) (la_nil))))))) (lss_one (ls_ret (le_bl))) (lss_nil)) (lss_one (ls_if (lt_cmp (od_ne hr.units) (le_call F_hilbert hg hr (takes_of rfl rfl rfl rfl) (la_cons (le_var 2) (la_cons (le_var 3) (la_cons (le_var 4) (la_nil))))) (le_call F_hilbert hg hr (takes_of rfl rfl rfl rfl) (la_cons (le_var 2) (la_cons (le_op od_mul (le_neg (le_var 2)) (le_var 3)) (la_cons (le_var 4) (la_nil)))))) (lss_one (ls_ret (le_bl))) (lss_nil)))))))))))) (lss_cons (ls_set 12 sc__law_right.nd (le_call F__law_of hg hr (takes_of rfl rfl rfl rfl) (la_cons (le_var 0) (la_cons (le_lst (la_cons (le_int) (la_cons (le_non) (la_cons (le_bl) (la_cons (le_str) (la_cons (le_op od_add (le_op od_powW (le_int) (le_int)) (le_int)) (la_nil)))))) (show 5 ≤ 1000 by decide)) (la_nil))))) (lss_cons (ls_set 10 sc__law_right.nd (le_lst (la_cons (le_ix (le_heard T_heard (hO_law_right Z (X := cxOf (L2.CX P w) P w K mg base N_law_right "_law_right" (defScope s_law_right) f (.ref c) A outer s H E) rfl rfl rfl T F_bad_places F_hilbert) (la_cons (le_lam TB rfl rfl lS_law_right_0) la_nil) hg hr) (le_int)) (la_nil)) (show 1 ≤ 1000 by decide))) (lss_cons (ls_expr (le_append (le_var 10) (la_cons (le_ix (le_heard T_heard (hO_law_right Z (X := cxOf (L2.CX P w) P w K mg base N_law_right "_law_right" (defScope s_law_right) f (.ref c) A outer s H E) rfl rfl rfl T F_bad_places F_hilbert) (la_cons (le_lam TB rfl rfl lS_law_right_1) la_nil) hg hr) (le_int)) (la_nil)))) (lss_cons (ls_expr (le_append (le_var 10) (la_cons (le_ix (le_heard T_heard (hO_law_right Z (X := cxOf (L2.CX P w) P w K mg base N_law_right "_law_right" (defScope s_law_right) f (.ref c) A outer s H E) rfl rfl rfl T F_bad_places F_hilbert) (la_cons (le_lam TB rfl rfl lS_law_right_2) la_nil) hg hr) (le_int)) (la_nil)))) (lss_cons (ls_if (lt_not (lt_val (le_callB (cd_all rfl) T.z_all (by decide +kernel) (la_cons (le_lc sc__law_right.nd (li_seq (le_var 10)) (ok := by show BlkOk N_law_right (defScope s_law_right) _ _; exact ⟨rfl, by decide +kernel, by decide +kernel, by decide +kernel, by decide +kernel⟩) (own := [("caught", 11)]) (hv := rfl) (hg := (fun _ _ _ _ _ => pg_one 11 sc__law_right.nd)) (ht := (fun _ _ _ _ _ => lps_nil)) (he := (fun _ _ _ _ _ => le_and (le_isx I_BadInt T.z_isinstance (le_var 11)) (le_one (le_cmp (od_eq hr.units) (le_callB (cd_reprX hg (u65 hr)) T.z_repr (by decide +kernel) (la_cons (le_value V_errs (le_var 11)) (la_nil))) (le_callB (cd_reprX hg (u65 hr)) T.z_repr (by decide +kernel) (la_cons (le_var 12) (la_nil)))))))) (la_nil))))) (lss_one (ls_ret (le_bl))) (lss_nil)) (lss_cons (ls_set 12 sc__law_right.nd (le_call F__law_of hg hr (takes_of rfl rfl rfl rfl) (la_cons (le_var 0) (la_cons (le_lst (la_cons (le_int) (la_cons (le_int) (la_cons (le_neg (le_int)) (la_cons (le_non) (la_cons (le_bl) (la_cons (le_str) (la_cons (le_int) (la_nil)))))))) (show 7 ≤ 1000 by decide)) (la_nil))))) (lss_cons (ls_set 11 sc__law_right.nd (le_ix (le_heard T_heard (hO_law_right Z (X := cxOf (L2.CX P w) P w K mg base N_law_right "_law_right" (defScope s_law_right) f (.ref c) A outer s H E) rfl rfl rfl T F_bad_places F_hilbert) (la_cons (le_lam TB rfl rfl lS_law_right_3) la_nil) hg hr) (le_int))) (lss_one (ls_ret (le_and (le_isx I_BadPrime T.z_isinstance (le_var 11)) (le_one (le_cmp (od_eq hr.units) (le_callB (cd_reprX hg (u65 hr)) T.z_repr (by decide +kernel) (la_cons (le_value V_errs (le_var 11)) (la_nil))) (le_callB (cd_reprX hg (u65 hr)) T.z_repr (by decide +kernel) (la_cons (le_var 12) (la_nil))))))))))))))))
end K2

/-! k02: the law. -/
namespace K2
open PySem PySem.Spec PyProof.Rows L2 Sq NT
open Hil
local macro_rules | `(tactic| walk_at "sq") => `(tactic| simp only [gInK_run, gSK_run, gTL_run, wZipM_run, wLstRg3_run, wLc2_run, wSortSetT_run, fList_tup, gIsN_run, gNotN_run, Sq.isNon, gMinT_run, fMinT_run, wZip_run, fZip_tup, wSortSet_run, wTupS_run, wLstS_run, runS_nil, runS_one, runS_star, starQ_tup, starQ_rls, starQ_ob, List.append_nil, fList_ob, wBack_run, wBackL_run, gStr_run, fStr_int, fStr_str, wUpper_run, wDct_run, gReprX_run, wIsX_run, wVal_run, wLam_run, wHeard_run, wRaise_run, wVar_run, wC_run, wOp_run, onBl_bl, gI_run, gAdd_int, gAdd_str, gAdd_tup, gMul_int, EqB_int, EqB_str, EqB_bl, gEq_run, gNe_run, wNeg_run, wNotV_run, wAndV_run, wOrV_run, wTB_run, wNotT_run, wAndT_run, wOrT_run, wIfE_run, runAll_nil, runAll_cons, wTup_run, wLst_run, gIx_tup, gIx_rls, gIx_str, gIx_ob, wB_run, fLen_tup, fLen_rls, fLen_str, fLen_ob, fAbs_int, fInt_int, fInt_bl, fTuple_tup, fTuple_ob, wIsi_run, wCall_run, wNext_run, wSeq_run, wBreak_run, wCont_run, wNever_run, wExpr_run, wRet_run, wRetN_run, wIf_run, gN_run, runGs_nil, runGs_cons, gT_run, gS_run, sIx_ob, wAsg_run, wSet_run, wPar_run, wPar3_run, wSeqI_run, fSeq_tup, fSeq_rls, fSeq_ob, wRng1_run, fRng1_int, wRng2_run, fRng2_int, wFor_run, wLc_run, wYes_run, onLst_ob, wMt_run, fAppend_run, fExtend_run, wAug_run, bodyD_nx, bodyD_rt, bodyD_ex, wNoP_run, onInt_int, wPart_run, fSl_tup, fSl_rls, fSl_str, fSl_ob, wSl_run, gIn_run, gNotIn_run, fSorted_ob, wLstRg1_run, wChainN_run, chainRun_last, chainRun_cons, spR_run,
  Sq.gSub, gFdiv, gMod, gLt, gLe, gGt, gGe, gAddI, gPowW, gLen_run, gAbs_run, gInt_run, gAll_run, gAny_run, gSum_run, gTuple_run, gList_run, gSorted_run, gRepr_run, gMax2_run, gMin2_run, gAppend_run, gExtend_run, CT.set_one, CT.set_many, CT.slots, setAll, wipeE, lcG_nil,
  List.getElem?_cons_zero, List.getElem?_cons_succ, List.getElem?_nil, Int.cast_ofNat_Int, List.set_cons_zero, List.set_cons_succ, List.length_cons, List.length_nil, ev0, List.map_cons, List.map_nil, List.cons_append, List.nil_append, List.replicate_succ, List.replicate_zero, Nat.reduceSub, Nat.reduceAdd, mset_same, decide_true, decide_false, if_true, if_false, ite_true, ite_false, Bool.false_eq_true, Bool.true_eq_false, reduceCtorEq, Bool.not_true, Bool.not_false, true_and, and_true, decide_eq_true_eq, Bool.not_eq_true', decide_eq_false_iff_not, ite_not, isA, atI_0, atI_1, atI_2, atI_3, atI_m4, ixN_0, ixN_1, ixN_30, ixN_31, ixN_32])
theorem hil_ok {Z : Ad} {a b : Int} {p : Nat} {μ : Mu} {Q : PQ} {X : XQ} (a0 : a ≠ 0) (b0 : b ≠ 0) (la : Lt a) (lb : Lt b) (hP : Pl p) (hpb : p ≤ 1000000000000) (q : Q (.int (hil a b p)) μ) : (Shilbert Z).run [.int a, .int b, .int (p : Int)] μ Q X :=
  ⟨.int a, .int b, natD p, rfl, seen_pure rfl, seen_pure rfl, seen_pure rfl, .inr (.inr (.inr ⟨a, b, p, rfl, rfl, rfl, a0, b0, la, lb, hP, hpb, q⟩))⟩
theorem repr_one {i : Int} {μ : Mu} {Q : PQ} (h : i = 1 ∨ i = -1) (q : Q (.str (Sq.encD (.int i)).shown) μ) : fReprX (.int i) μ Q :=
  (SmD.int (i := i) ⟨by omega, by omega⟩).repr (by decide) (by decide) q
/-- the law's places -/
def plL (L : List (Nat × Nat)) : List Nat := 0 :: 2 :: (L.map (·.1)).filter fun p => decide (2 < p)
theorem odd_plc {a b c : Int} {L : List (Nat × Nat)} (h0 : a * b * c ≠ 0) (hL : FacS (a * b * c).natAbs L) : Plc ((L.map (·.1)).filter fun p => decide (2 < p)) a b := by
  have hm := fac_mem hL (by omega)
  refine ⟨?_, fun p hp => ?_, fun p hp h3 hd => ?_⟩
  · refine List.Pairwise.filter _ ?_
    rw [List.pairwise_map]
    exact hL.asc.imp fun h => by omega
  · rw [List.mem_filter, decide_eq_true_eq] at hp
    exact ⟨((hm p).mp hp.1).1, by omega⟩
  · rw [List.mem_filter, decide_eq_true_eq]
    refine ⟨(hm p).mpr ⟨hp, Int.ofNat_dvd_left.mp ?_⟩, by omega⟩
    rcases hd with h | h
    · exact Int.dvd_trans h ⟨b * c, by rw [Int.mul_assoc]⟩
    · exact Int.dvd_trans h ⟨a * c, by grind⟩
theorem pl_ok {n : Nat} {L : List (Nat × Nat)} (h1 : 1 ≤ n) (h2 : n ≤ 1000000000000) (hL : FacS n L) {p : Nat} (hp : p ∈ plL L) : Pl p ∧ p ≤ 1000000000000 := by
  unfold plL at hp
  rcases List.mem_cons.mp hp with rfl | hp
  · exact ⟨.inl rfl, by decide⟩
  rcases List.mem_cons.mp hp with rfl | hp
  · exact ⟨.inr pr2, by decide⟩
  rw [List.mem_filter] at hp
  obtain ⟨h3, h4⟩ := (fac_mem hL h1 p).mp hp.1
  exact ⟨.inr h3, by have := Nat.le_of_dvd (by omega) h4; omega⟩
theorem nasc_u : ∀ {L M : List Nat}, L.Pairwise (· < ·) → M.Pairwise (· < ·) → (∀ x, x ∈ L ↔ x ∈ M) → L = M := fun h k m => nasc_uniq h k m
theorem bad_same {a b c : Int} {L : List (Nat × Nat)} {B : List Nat} (h0 : a * b * c ≠ 0) (hL : FacS (a * b * c).natAbs L) (hB : BadS B a b) : B = (plL L).filter fun p => decide (hil a b p = -1) := by
  have hc := odd_plc h0 hL
  refine nasc_uniq hB.asc ?_ fun p => ?_
  · refine List.Pairwise.filter _ ?_
    unfold plL
    have ge : ∀ x ∈ (L.map (·.1)).filter fun p => decide (2 < p), 2 < x := fun x hx => by
      rw [List.mem_filter, decide_eq_true_eq] at hx; exact hx.2
    refine List.Pairwise.cons (fun x hx => ?_) (List.Pairwise.cons ge ?_)
    · rcases List.mem_cons.mp hx with rfl | hx
      · decide
      · have := ge x hx; omega
    · refine List.Pairwise.filter _ ?_
      rw [List.pairwise_map]
      exact hL.asc
  · rw [hB.mem, List.mem_filter, decide_eq_true_eq]
    unfold plL
    rw [List.mem_cons, List.mem_cons]
    constructor
    · rintro ⟨h, e⟩
      refine ⟨?_, e⟩
      rcases h with h | h | ⟨h, hd⟩
      · exact .inl h
      · exact .inr (.inl h)
      · by_cases g : p = 2
        · exact .inr (.inl g)
        · exact .inr (.inr (hc.all p h (by have := h.1; omega) hd))
    · rintro ⟨h, e⟩
      refine ⟨?_, e⟩
      rcases h with h | h | h
      · exact .inl h
      · exact .inr (.inl h)
      · obtain ⟨hp, h3⟩ := hc.ok p h
        refine .inr (.inr ⟨hp, ?_⟩)
        by_cases g1 : (p : Int) ∣ a
        · exact .inl g1
        · by_cases g2 : (p : Int) ∣ b
          · exact .inr g2
          · rw [hil_out hp h3 g1 g2] at e
            cases e
theorem rd_law_right (Z : Ad) (cl : List (Str × Addr)) (ds : List D) (μ : Mu) (Q : PQ) (X : XQ) (hl : ds.length = 1) (h : (S_law_right Z).run ds μ Q X) : (w_law_right Z cl).run (bodyD Q X) (ev0 15 ds) μ := by
  obtain ⟨p, rfl, hp, hP, q⟩ := h
  unfold w_law_right
  have tb : ∀ {n : Nat} {μ' : Mu}, PotX n μ μ' p → μ' Z.P_law_right = some (.tab qL) := fun x => tabKeep x hp hP
  refine seq_by (fun ρ μ1 => (∃ e1 e2 e3 e4 e5 e6, ρ = [some (.ob p), e1, e2, e3, e4, e5, e6, none, none, none, none, none, none, none, none]) ∧ PotX 40 μ μ1 p) ?_ ?_
  · walk_at "sq"
    refine ⟨by decide, by decide, ?_⟩
    refine forW_by (fun i ρ μ1 => (∃ e1 e2 e3 e4 e5 e6, ρ = [some (.ob p), e1, e2, e3, e4, e5, e6, none, none, none, none, none, none, none, none]) ∧ PotX (20 * i) μ μ1 p) (fun _ _ _ _ _ => trivial) ?_ ?_ ⟨⟨none, none, none, none, none, none, rfl⟩, .refl hp⟩
    · rintro i d ρ μ1 hi ⟨⟨e1, e2, e3, e4, e5, e6, rfl⟩, x1⟩
      obtain ⟨hi2, rfl⟩ := rangeD_get hi
      have hi5 : i < 2 := hi2
      rw [gN_run]
      refine seq_by (fun ρ μ2 => ∃ (e1 : Option D) (a b : Int) (k : Nat), ρ = [some (.ob p), e1, some (.int a), some (.int b), some (natD k), e5, e6, none, none, none, none, none, none, none, none] ∧ a ∈ freeL ∧ b ∈ freeL ∧ (k = 0 ∨ k ∈ [2, 3, 5]) ∧ PotX (20 * i + 5) μ μ2 p) ?_ ?_
      · walk_at "sq"
        refine ⟨p, 20 * i, rfl, x1.1, by omega, fun a μ2 ha k2 => ?_⟩
        have x2 := x1.trans k2
        walk_at "sq"
        refine ⟨p, 20 * i + 2, rfl, x2.1, by omega, fun b μ3 hb k3 => ?_⟩
        have x3 := x2.trans k3
        walk_at "sq"
        intro l hl
        refine ⟨p, l, 20 * i + 4, _, rfl, x3.1.new hl, by omega, mset_same _ _ _, by simp, by simp, fun z => x3.1.ne hl z.symm, fun d μ4 hd k4 => ?_⟩
        have x4 := (x3.new hl).step k4
        have hd2 : ∃ k : Nat, d = natD k ∧ (k = 0 ∨ k ∈ [2, 3, 5]) := by
          simp only [List.mem_cons, List.not_mem_nil, or_false] at hd
          rcases hd with rfl | rfl | rfl | rfl | rfl
          · exact ⟨0, rfl, .inl rfl⟩
          · exact ⟨2, rfl, .inr (by decide)⟩
          · exact ⟨3, rfl, .inr (by decide)⟩
          · exact ⟨3, rfl, .inr (by decide)⟩
          · exact ⟨5, rfl, .inr (by decide)⟩
        obtain ⟨k, rfl, hk⟩ := hd2
        walk_at "sq"
        exact ⟨some (.int (0 + (i : Int))), a, b, k, rfl, ha, hb, hk, x4⟩
      rintro ρ μ2 ⟨e1, a, b, k, rfl, ha, hb, hk, x2⟩
      obtain ⟨a1, a2, a0⟩ := free_bd ha
      obtain ⟨b1, b2, b0⟩ := free_bd hb
      have hkP : Pl k ∧ k ≤ 1000000000000 := by
        rcases hk with rfl | hk
        · exact ⟨.inl rfl, by decide⟩
        · simp only [List.mem_cons, List.not_mem_nil, or_false] at hk
          rcases hk with rfl | rfl | rfl
          · exact ⟨.inr pr2, by decide⟩
          · exact ⟨.inr pr3, by decide⟩
          · exact ⟨.inr pr5, by decide⟩
      have hc := hil_cases a b hkP.1 a0 b0
      unfold natD
      refine seq_by (fun ρ μ3 => ρ = [some (.ob p), e1, some (.int a), some (.int b), some (.int (k : Int)), some (.int (hil a b k)), e6, none, none, none, none, none, none, none, none] ∧ μ3 = μ2) ?_ ?_
      · walk_at "sq"
        exact ⟨a, b, k, rfl, ha, hb, hk, rfl, rfl⟩
      rintro ρ μ3 ⟨rfl, rfl⟩
      refine seq_by (fun ρ μ4 => ρ = [some (.ob p), e1, some (.int a), some (.int b), some (.int (k : Int)), some (.int (hil a b k)), e6, none, none, none, none, none, none, none, none] ∧ μ4 = μ3) ?_ ?_
      · walk_at "sq"
        refine hil_ok a0 b0 ⟨by omega, by omega⟩ ⟨by omega, by omega⟩ hkP.1 hkP.2 ?_
        refine repr_one hc ?_
        refine repr_one hc ?_
        rw [EqB_str, decide_eq_true rfl]
        exact rfl
      rintro ρ μ4 ⟨rfl, rfl⟩
      refine seq_by (fun ρ μ5 => ∃ w : Int, ρ = [some (.ob p), e1, some (.int a), some (.int b), some (.int (k : Int)), some (.int (hil a b k)), some (.int w), none, none, none, none, none, none, none, none] ∧ 1 ≤ w ∧ w ≤ 30 ∧ PotX (20 * i + 6) μ μ5 p) ?_ ?_
      · walk_at "sq"
        refine ⟨p, 30, 20 * i + 5, rfl, x2.1, by omega, by omega, by omega, fun d μ5 d0 d1 k5 => ?_⟩
        walk_at "sq"
        exact ⟨_, rfl, by omega, by omega, x2.step k5⟩
      rintro ρ μ5 ⟨w, rfl, w1, w2, x5⟩
      have hw : Lt (a * w * w) ∧ a * w * w ≠ 0 := by
        have m1 : (a * w * w).natAbs ≤ 15 * 30 * 30 := by
          rw [Int.natAbs_mul, Int.natAbs_mul]
          exact Nat.mul_le_mul (Nat.mul_le_mul (by omega) (by omega)) (by omega)
        exact ⟨⟨by omega, by omega⟩, Int.mul_ne_zero (Int.mul_ne_zero a0 (by omega)) (by omega)⟩
      walk_at "sq"
      refine ⟨mulOk_l (by omega) (by omega), mulOk_r (by omega) (by omega), ?_⟩
      refine hil_ok hw.2 b0 hw.1 ⟨by omega, by omega⟩ hkP.1 hkP.2 ?_
      rw [hil_comm (a * w * w), hil_sq hkP.1 b0 a0 (by omega), hil_comm b a, EqB_int, decide_eq_true rfl]
      walk_at "sq"
      refine hil_ok b0 a0 ⟨by omega, by omega⟩ ⟨by omega, by omega⟩ hkP.1 hkP.2 ?_
      rw [hil_comm b a, EqB_int, decide_eq_true rfl]
      exact ⟨⟨_, _, _, _, _, _, rfl⟩, x5.mono (by omega)⟩
    · rintro ρ μ1 ⟨h1, x1⟩
      exact ⟨h1, x1.mono (by rw [rangeD_len]; decide)⟩
  rintro ρ μ1 ⟨⟨e1, e2, e3, e4, e5, e6, rfl⟩, x1⟩
  refine seq_by (fun ρ μ2 => (∃ e1 e2 e3 e4 e7 e8 e9, ρ = [some (.ob p), e1, e2, e3, e4, e5, e6, e7, e8, e9, none, none, none, none, none]) ∧ PotX 100 μ μ2 p) ?_ ?_
  · walk_at "sq"
    refine ⟨by decide, by decide, ?_⟩
    refine forW_by (fun i ρ μ2 => (∃ e1 e2 e3 e4 e7 e8 e9, ρ = [some (.ob p), e1, e2, e3, e4, e5, e6, e7, e8, e9, none, none, none, none, none]) ∧ PotX (40 + 10 * i) μ μ2 p) (fun _ _ _ _ _ => trivial) ?_ ?_ ⟨⟨_, _, _, _, _, _, _, rfl⟩, x1⟩
    · clear x1 e1 e2 e3 e4
      rintro i d ρ μ1 hi ⟨⟨e1, e2, e3, e4, e7, e8, e9, rfl⟩, x1⟩
      obtain ⟨hi2, rfl⟩ := rangeD_get hi
      have hi5 : i < 4 := hi2
      rw [gN_run]
      refine seq_by (fun ρ μ2 => ∃ (e1 : Option D) (a b c : Int), ρ = [some (.ob p), e1, some (.int a), some (.int b), e4, e5, e6, some (.int c), e8, e9, none, none, none, none, none] ∧ (a ≠ 0 ∧ b ≠ 0 ∧ c ≠ 0) ∧ (-900 ≤ a ∧ a ≤ 900 ∧ -900 ≤ b ∧ b ≤ 900 ∧ -900 ≤ c ∧ c ≤ 900) ∧ PotX (40 + 10 * i + 6) μ μ2 p) ?_ ?_
      · walk_at "sq"
        refine ⟨by decide, by decide, small_size (by rw [rangeD_len]; decide), ?_⟩
        refine lcG_by (fun j acc μ2 => (∃ ns : List Int, acc = ns.map D.int ∧ ns.length = j ∧ ∀ x ∈ ns, x ≠ 0 ∧ -900 ≤ x ∧ x ≤ 900) ∧ PotX (40 + 10 * i + 2 * j) μ μ2 p) (fun _ _ _ _ _ => trivial) ?_ ?_ ⟨⟨[], rfl, rfl, fun _ h => nomatch h⟩, x1⟩
        · rintro j d acc μ2 hj ⟨⟨ns, rfl, hn, hns⟩, x2⟩
          obtain ⟨hj2, rfl⟩ := rangeD_get hj
          have hj3 : j < 3 := hj2
          refine ⟨_, rfl, ?_⟩
          walk_at "sq"
          refine ⟨p, 40 + 10 * i + 2 * j, rfl, x2.1, by omega, fun x μ3 h0 h1 h2 k3 => ⟨⟨ns ++ [x], by rw [List.map_append]; rfl, by rw [List.length_append, hn]; rfl, fun y hy => ?_⟩, (x2.trans k3).mono (by omega)⟩⟩
          rcases List.mem_append.mp hy with hy | hy
          · exact hns y hy
          · rw [List.mem_singleton.mp hy]; exact ⟨h0, h1, h2⟩
        · rintro acc μ2 ⟨⟨ns, rfl, hn, hns⟩, x2⟩ l hl
          rw [rangeD_len] at hn x2
          have hn3 : ns.length = 3 := hn
          match ns, hn3, hns with
          | [a, b, c], _, hns =>
            have h1 := hns a (by simp)
            have h2 := hns b (by simp)
            have h3 := hns c (by simp)
            refine ⟨l, _, rfl, mset_same _ _ _, rfl, ?_⟩
            walk_at "sq"
            exact ⟨some (.int (0 + (i : Int))), a, b, c, rfl, ⟨h1.1, h2.1, h3.1⟩, ⟨h1.2.1, h1.2.2, h2.2.1, h2.2.2, h3.2.1, h3.2.2⟩, (x2.new hl).mono (show 40 + 10 * i + 2 * 3 ≤ _ by omega)⟩
      rintro ρ μ2 ⟨e1, a, b, c, rfl, ⟨a0, b0, c0⟩, ⟨a1, a2, b1, b2, c1, c2⟩, x2⟩
      have h0 : a * b * c ≠ 0 := Int.mul_ne_zero (Int.mul_ne_zero a0 b0) c0
      have hbd : (a * b * c).natAbs ≤ 900 * 900 * 900 := by
        rw [Int.natAbs_mul, Int.natAbs_mul]
        exact Nat.mul_le_mul (Nat.mul_le_mul (by omega) (by omega)) (by omega)
      have la : Lt a := ⟨by omega, by omega⟩
      have lb : Lt b := ⟨by omega, by omega⟩
      have lc : Lt c := ⟨by omega, by omega⟩
      refine seq_by (fun ρ μ3 => ∃ (l : Addr) (L : List (Nat × Nat)), ρ = [some (.ob p), e1, some (.int a), some (.int b), e4, e5, e6, some (.int c), some (.ob l), e9, none, none, none, none, none] ∧ FacS (a * b * c).natAbs L ∧ μ3 l = some (.lst ((plL L).map natD)) ∧ PotX (40 + 10 * i + 6) μ μ3 p) ?_ ?_
      · walk_at "sq"
        intro l1 hl1
        rw [iabs_nn]
        refine ⟨mulOk_l (by omega) (by omega), mulOk_r (by omega) (by omega), (a * b * c).natAbs, rfl, by omega, by omega, fun L l hL hl => ?_⟩
        have hlL := fac_len hL (by omega)
        walk_at "sq"
        refine ⟨small_size (by rw [List.length_map]; omega), ?_⟩
        refine lcG_pure (fun d => match d with | .tup [.int y, _] => if 2 < y then some (.int y) else none | _ => none) (mset_same _ _ _) (fun d hd => ?_) ?_
        · obtain ⟨z, hz, rfl⟩ := List.mem_map.mp hd
          refine ⟨_, rfl, ?_⟩
          walk_at "sq"
          unfold prD
          dsimp only
          by_cases g : (2 : Int) < z.1
          · rw [if_pos g, if_pos g]
          · rw [if_neg g, if_neg g]
        · have es : (L.map prD).filterMap (fun d => match d with | .tup [.int y, _] => if 2 < y then some (.int y) else none | _ => none) = ((L.map (·.1)).filter fun p => decide (2 < p)).map natD := by
            clear hlL hL
            induction L with
            | nil => rfl
            | cons z L ih =>
              rw [List.map_cons, List.filterMap_cons, ih, List.map_cons, List.filter_cons]
              unfold prD natD
              dsimp only
              by_cases g : 2 < z.1
              · rw [if_pos (by omega), if_pos (decide_eq_true g)]; rfl
              · rw [if_neg (by omega), if_neg (by simpa using g)]
          rw [es, List.nil_append]
          intro l2 hl2
          rw [gAdd_ob, at_new (at_new (mset_same _ _ _) hl) hl2, mset_same]
          dsimp only
          have hfl : ((L.map (·.1)).filter fun p => decide (2 < p)).length ≤ 40 := by
            have := List.length_filter_le (fun p => decide (2 < p)) (L.map (·.1))
            rw [List.length_map] at this
            omega
          refine ⟨small_size (by rw [List.length_map]; show 2 + _ ≤ _; omega), fun l3 hl3 => ⟨l3, L, rfl, hL, ?_, (((x2.new hl1).new hl).new hl2).new hl3⟩⟩
          rw [mset_same]
          rfl
      clear x2
      rintro ρ μ3 ⟨l, L, rfl, hL, gl, x3⟩
      have hcp := odd_plc h0 hL
      have hok : ∀ k ∈ plL L, Pl k ∧ k ≤ 1000000000000 := fun k hk => pl_ok (by omega) (by omega) hL hk
      have hpl : (plL L).length ≤ 45 := by
        have hlL := fac_len hL (by omega)
        have := List.length_filter_le (fun p => decide (2 < p)) (L.map (·.1))
        rw [List.length_map] at this
        unfold plL
        rw [List.length_cons, List.length_cons]
        omega
      have heven := bad_even a0 b0 hcp
      refine seq_by (fun ρ μ4 => ρ = [some (.ob p), e1, some (.int a), some (.int b), e4, e5, e6, some (.int c), some (.ob l), some (.tup (((plL L).filter fun k => decide (hil a b k = -1)).map natD)), none, none, none, none, none] ∧ μ4 l = some (.lst ((plL L).map natD)) ∧ PotX (40 + 10 * i + 6) μ μ4 p) ?_ ?_
      · walk_at "sq"
        rw [gl]
        dsimp only
        refine ⟨small_size (by rw [List.length_map]; omega), ?_⟩
        refine lcG_pure (fun d => match d with | .int y => if hil a b y.toNat = -1 then some d else none | _ => none) gl (fun d hd => ?_) ?_
        · obtain ⟨k, hk, rfl⟩ := List.mem_map.mp hd
          refine ⟨_, rfl, ?_⟩
          unfold natD
          walk_at "sq"
          refine hil_ok a0 b0 la lb (hok k hk).1 (hok k hk).2 ?_
          rw [EqB_int]
          rw [Int.toNat_natCast]
          by_cases g : hil a b k = -1
          · rw [if_pos (decide_eq_true g), if_pos g]; exact ⟨rfl, rfl⟩
          · rw [if_neg (by simpa using g), if_neg g]; exact ⟨rfl, rfl⟩
        · have es : ((plL L).map natD).filterMap (fun d => match d with | .int y => if hil a b y.toNat = -1 then some d else none | _ => none) = ((plL L).filter fun k => decide (hil a b k = -1)).map natD := by
            generalize plL L = S
            induction S with
            | nil => rfl
            | cons k S ih =>
              rw [List.map_cons, List.filterMap_cons, ih, List.filter_cons]
              unfold natD
              dsimp only
              rw [Int.toNat_natCast]
              by_cases g : hil a b k = -1
              · rw [if_pos g, if_pos (decide_eq_true g)]; rfl
              · rw [if_neg g, if_neg (by simpa using g)]
          rw [es, List.nil_append]
          intro l2 hl2
          exact ⟨rfl, at_new gl hl2, x3.new hl2⟩
      rintro ρ μ4 ⟨rfl, gl, x4⟩
      refine seq_by (fun ρ μ5 => ρ = [some (.ob p), e1, some (.int a), some (.int b), e4, e5, e6, some (.int c), some (.ob l), some (.tup (((plL L).filter fun k => decide (hil a b k = -1)).map natD)), none, none, none, none, none] ∧ μ5 = μ4) ?_ ?_
      · walk_at "sq"
        refine ⟨.int a, .int b, rfl, seen_pure rfl, seen_pure rfl, .inr (.inr ⟨a, b, rfl, rfl, a0, b0, la, lb, fun B hB => ?_⟩)⟩
        rw [bad_same h0 hL hB]
        have hlf : ((plL L).filter fun k => decide (hil a b k = -1)).length ≤ 45 := Nat.le_trans (List.length_filter_le _ _) hpl
        have hb9 : ∀ k ∈ (plL L).filter fun k => decide (hil a b k = -1), k ≤ 1000000000000 := fun k hk => (hok k (List.mem_filter.mp hk).1).2
        refine repr_nats hb9 (by omega) ?_
        refine repr_nats hb9 (by omega) ?_
        rw [EqB_str, decide_eq_true rfl]
        rw [List.length_map]
        walk_at "sq"
        rw [fm_nat2, show ((plL L).filter fun k => decide (hil a b k = -1)).length % 2 = 0 from heven]
        exact ⟨by decide, by rw [if_pos (by rfl)]; trivial⟩
      rintro ρ μ5 ⟨rfl, rfl⟩
      walk_at "sq"
      rw [gl]
      dsimp only
      generalize some (D.tup (((plL L).filter fun k => decide (hil a b k = -1)).map natD)) = e9'
      refine forW_by (fun j ρ μ6 => (∃ e4, ρ = [some (.ob p), e1, some (.int a), some (.int b), e4, e5, e6, some (.int c), some (.ob l), e9', none, none, none, none, none]) ∧ μ6 = μ5) (fun _ _ _ _ h => by obtain ⟨_, rfl⟩ := h; exact gl) ?_ ?_ ⟨⟨_, rfl⟩, rfl⟩
      · rintro j d ρ μ6 hj ⟨⟨e4, rfl⟩, rfl⟩
        obtain ⟨k, hk, rfl⟩ := List.mem_map.mp (List.mem_of_getElem? hj)
        obtain ⟨hP, hpb⟩ := hok k hk
        rw [gN_run]
        unfold natD
        walk_at "sq"
        refine hil_ok a0 (by omega) la ⟨by omega, by omega⟩ hP hpb ?_
        rw [hil_neg hP a0, EqB_int, decide_eq_true rfl]
        walk_at "sq"
        have hbc : (b * c).natAbs ≤ 900 * 900 := by rw [Int.natAbs_mul]; exact Nat.mul_le_mul (by omega) (by omega)
        have hab : (-a * b).natAbs ≤ 900 * 900 := by rw [Int.natAbs_mul]; exact Nat.mul_le_mul (by omega) (by omega)
        have k1 := hil_cases a b hP a0 b0
        have k2 := hil_cases a c hP a0 c0
        refine ⟨mulOk_l (by omega) (by omega), hil_ok a0 (Int.mul_ne_zero b0 c0) la ⟨by omega, by omega⟩ hP hpb ?_⟩
        refine hil_ok a0 b0 la lb hP hpb ?_
        refine hil_ok a0 c0 la lc hP hpb ?_
        rw [gMul_int]
        refine ⟨mulOk_l (by omega) (by omega), ?_⟩
        rw [hil_mul hP a0 b0 c0, EqB_int, decide_eq_true rfl]
        walk_at "sq"
        refine hil_ok a0 b0 la lb hP hpb ?_
        refine ⟨mulOk_l (by omega) (by omega), hil_ok a0 (Int.mul_ne_zero (by omega) b0) la ⟨by omega, by omega⟩ hP hpb ?_⟩
        rw [← hil_free hP a0 b0, EqB_int, decide_eq_true rfl]
        exact ⟨⟨_, rfl⟩, rfl⟩
      · rintro ρ μ6 ⟨⟨e4, rfl⟩, rfl⟩
        exact ⟨⟨_, _, _, _, _, _, _, rfl⟩, x4.mono (by omega)⟩
    · rintro ρ μ2 ⟨h1, x2⟩
      exact ⟨h1, x2.mono (by rw [rangeD_len]; decide)⟩
  clear x1 e1 e2 e3 e4
  rintro ρ μ2 ⟨⟨e1, e2, e3, e4, e7, e8, e9, rfl⟩, x2⟩
  have LL : LL_law_right Z cl = [(lam_law_right_0 cl, wl_law_right_0 Z), (lam_law_right_1 cl, wl_law_right_1 Z), (lam_law_right_2 cl, wl_law_right_2 Z), (lam_law_right_3 cl, wl_law_right_3 Z)] := rfl
  have m0 : (lam_law_right_0 cl, wl_law_right_0 Z) ∈ LL_law_right Z cl := by rw [LL]; simp
  have m1 : (lam_law_right_1 cl, wl_law_right_1 Z) ∈ LL_law_right Z cl := by rw [LL]; simp
  have m2 : (lam_law_right_2 cl, wl_law_right_2 Z) ∈ LL_law_right Z cl := by rw [LL]; simp
  have m3 : (lam_law_right_3 cl, wl_law_right_3 Z) ∈ LL_law_right Z cl := by rw [LL]; simp
  have t12 : (10 : Int) ^ Int.toNat 12 = 1000000000000 := by decide
  have one1 : live12 (.int 1) = true := by decide
  refine seq_by (fun ρ μ3 => ∃ d, ρ = [some (.ob p), e1, e2, e3, e4, e5, e6, e7, e8, e9, none, none, some d, none, none] ∧ live12 d = false ∧ pureD d = true ∧ (∀ μ', Val μ' p d) ∧ PotX 101 μ μ3 p) ?_ ?_
  · walk_at "sq"
    rw [t12]
    refine ⟨⟨by decide, 4, by decide, by decide⟩, fun l hl => ⟨p, l, 100, _, rfl, x2.1.new hl, by decide, mset_same _ _ _, by simp, by simp, fun z => x2.1.ne hl z.symm, fun d μ3 hd k => ?_⟩⟩
    refine ⟨d, rfl, ?_, ?_, ?_, (x2.new hl).step k⟩
    all_goals simp only [List.mem_cons, List.not_mem_nil, or_false] at hd
    · rcases hd with rfl | rfl | rfl | rfl | rfl <;> rfl
    · rcases hd with rfl | rfl | rfl | rfl | rfl <;> rfl
    · intro μ'
      rcases hd with rfl | rfl | rfl | rfl | rfl
      · exact val_lf (.int ⟨by decide, by decide⟩)
      · exact val_lf .non
      · exact val_lf (.bl _)
      · exact val_lf (.str (by decide +kernel) (by decide))
      · exact val_lf (.int ⟨by decide, by decide⟩)
  rintro ρ μ3 ⟨d, rfl, hd, hpd, hvd, x3⟩
  rw [wSeq_run]
  refine told_new_bad (C := Z.cBadInt) (d := d) x3 (tb x3) m0 Z.eInt (fun μ' Q X x k => (show (Shilbert Z).run [d, .non, .non] μ' Q X from ⟨d, _, _, rfl, seen_pure hpd, seen_pure rfl, seen_pure rfl, .inl ⟨hd, k⟩⟩)) fun l μ4 hl0 hlp x4 _ s4 => ?_
  dsimp only [List.set_cons_succ, List.set_cons_zero]
  rw [wSeq_run]
  refine told_add_bad x4 hl0 hlp s4 rfl (by decide) (tb x4) m1 Z.eInt (fun μ' Q X x k => (show (Shilbert Z).run [.int 1, d, .non] μ' Q X from ⟨_, d, _, rfl, seen_pure rfl, seen_pure hpd, seen_pure rfl, .inr (.inl ⟨one1, hd, k⟩)⟩)) fun μ5 x5 s5 => ?_
  dsimp only
  rw [wSeq_run]
  refine told_add_bad x5 hl0 hlp s5 rfl (by decide) (tb x5) m2 Z.eInt (fun μ' Q X x k => (show (Sbad_places Z).run [d, .non] μ' Q X from ⟨d, _, rfl, seen_pure hpd, seen_pure rfl, .inl ⟨hd, k⟩⟩)) fun μ6 x6 s6 => ?_
  dsimp only
  obtain ⟨acc, h6, hlen, hex⟩ := s6
  rw [wSeq_run]
  refine told_check (c := 10) (i := 11) (v := 12) (d := d) x6 Z.eInt rfl h6 (by rw [hlen]; decide) hex (hvd _) (show 11 < 15 by decide) rfl (by decide) (by decide) fun μ7 x7 _ => ?_
  clear hl0 hlp x4 s4 x5 s5 x6 h6 hlen hex hd hpd hvd x3 x2
  dsimp only
  generalize some (D.ob l) = e10
  generalize some d = e12
  clear d
  refine seq_by (fun ρ μ3 => ∃ d, ρ = [some (.ob p), e1, e2, e3, e4, e5, e6, e7, e8, e9, e10, none, some d, none, none] ∧ (∀ k, ¬ PlD d k) ∧ pureD d = true ∧ (∀ μ', Val μ' p d) ∧ PotX 102 μ μ3 p) ?_ ?_
  · walk_at "sq"
    refine fun l hl => ⟨p, l, 101, _, rfl, x7.1.new hl, by decide, mset_same _ _ _, by simp, by simp, fun z => x7.1.ne hl z.symm, fun d μ3 hd k => ?_⟩
    refine ⟨d, rfl, ?_, ?_, ?_, (x7.new hl).step k⟩
    all_goals simp only [List.mem_cons, List.not_mem_nil, or_false] at hd
    · intro k ⟨e, hP, _⟩
      have np : ∀ j : Nat, j = 1 ∨ j = 4 ∨ j = 9 → ¬ Pl j := fun j hj hP => by
        rcases hP with h | h
        · omega
        · rcases hj with rfl | rfl | rfl
          · have := h.1; omega
          · exact h.2 2 (by decide) (by decide) rfl
          · exact h.2 3 (by decide) (by decide) rfl
      rcases hd with rfl | rfl | rfl | rfl | rfl | rfl | rfl
      · have : (1 : Int) = k := by cases e; rfl
        exact np k (by omega) hP
      · have : (4 : Int) = k := by cases e; rfl
        exact np k (by omega) hP
      · have : (-2 : Int) = k := by
          unfold natD at e
          injection e
        omega
      · cases e
      · cases e
      · cases e
      · have : (9 : Int) = k := by cases e; rfl
        exact np k (by omega) hP
    · rcases hd with rfl | rfl | rfl | rfl | rfl | rfl | rfl <;> rfl
    · intro μ'
      rcases hd with rfl | rfl | rfl | rfl | rfl | rfl | rfl
      · exact val_lf (.int ⟨by decide, by decide⟩)
      · exact val_lf (.int ⟨by decide, by decide⟩)
      · exact val_lf (.int ⟨by decide, by decide⟩)
      · exact val_lf .non
      · exact val_lf (.bl _)
      · exact val_lf (.str (by decide +kernel) (by decide))
      · exact val_lf (.int ⟨by decide, by decide⟩)
  rintro ρ μ3 ⟨d, rfl, hd, hpd, hvd, x3⟩
  rw [wSeq_run, wSet_run]
  refine heard1_bad (C := Z.cBadPrime) (d := d) x3 (tb x3) m3 Z.ePrime (fun μ' Q X x k => (show (Shilbert Z).run [.int 1, .int 1, d] μ' Q X from ⟨_, _, d, rfl, seen_pure rfl, seen_pure rfl, seen_pure hpd, .inr (.inr (.inl ⟨one1, one1, hd, k⟩))⟩)) fun a μ4 x4 _ ha => ?_
  dsimp only [List.set_cons_succ, List.set_cons_zero]
  obtain ⟨t, T⟩ := (hvd μ4).repr
  walk_at "sq"
  refine ⟨a, Z.cBadPrime, d, true, rfl, ha, oneC_same _, ?_⟩
  walk_at "sq"
  refine ⟨a, Z.cBadPrime, d, true, rfl, ha, Z.ePrime, ?_⟩
  refine T μ4 (fun _ _ _ e => e) _ ?_
  refine T μ4 (fun _ _ _ e => e) _ ?_
  walk_at "sq"
  exact (x4.mono (m := 100000) (by decide)).sub fun μ'' h => q μ'' h
theorem rd_law (Z : Ad) (ds : List D) (μ : Mu) (Q : PQ) (X : XQ) (hl : ds.length = 1) (h : (Slaw Z).run ds μ Q X) : (wlaw Z).run (bodyD Q X) (ev0 2 ds) μ := by
  obtain ⟨ns, rfl, hn, hP, q⟩ := h
  unfold wlaw
  walk_at "sq"
  refine ⟨ns, 3, rfl, hn, by decide, by decide, fun l k hl hk => ?_⟩
  walk_at "sq"
  refine ⟨by rw [rangeD_len]; exact small_size (by omega), ?_⟩
  refine lcG_by (fun i acc μ' => Ext μ μ' ∧ μ' l = some (.lst (rangeD 0 k)) ∧ acc = (List.replicate i true).map D.bl) (fun _ _ _ _ h => h.2.1) ?_ ?_ ⟨(Ext.refl _).new hl, mset_same _ _ _, rfl⟩
  · rintro i d acc μ1 hi ⟨e1, h1, rfl⟩
    obtain ⟨hi2, rfl⟩ := rangeD_get hi
    refine ⟨_, rfl, ?_⟩
    walk_at "sq"
    refine ⟨ns, _, rfl, hn, by omega, by omega, fun p μ2 hp k2 => ?_⟩
    have pne : Z.P_law_right ≠ p := ne_free (e1 _ _ hP) hp
    refine ⟨p, rfl, k2.1, by rw [k2.2 _ pne]; exact e1 _ _ hP, fun μ3 k3 => ?_⟩
    have hlp : l ≠ p := ne_free h1 hp
    refine ⟨fun a o ha => ?_, ?_, ?_⟩
    · have hap : a ≠ p := ne_free (e1 a o ha) hp
      rw [k3.2 a hap, k2.2 a hap]
      exact e1 a o ha
    · rw [k3.2 l hlp, k2.2 l hlp]; exact h1
    · show _ = (List.replicate (i + 1) true).map D.bl
      rw [List.replicate_succ', List.map_append]; rfl
  · rintro acc μ1 ⟨e1, h1, rfl⟩ p hp
    refine ⟨p, List.replicate (rangeD 0 k).length true, rfl, mset_same _ _ _, ?_⟩
    have e : (List.replicate (rangeD 0 k).length true).all id = true := by simp
    rw [e]
    exact .ext q (e1.new hp)
theorem law_S (Z : Ad) {μ : Mu} (ns : List Int) (hn : ns.length ≤ 63) (_hb : ∀ z ∈ ns, Builtin.Int.intBits z ≤ 1048576) (hP : μ Z.P_law_right = some (.tab qL)) : (Slaw Z).run [.rls (ns.map D.int)] μ (fun d _ => d = .bl true) XF := ⟨ns, rfl, hn, hP, rfl⟩
end K2

/-! The end, printed by genz2.py. -/
namespace K2
open PySem PySem.Spec PyProof.Rows L2 Sq
/-- what the top has written of the def x -/
structure DefAt (K : PySem.W.Frag) (x : Str) (st : Stmt) (f : Addr) (oc : Value) (od : Option Addr) (kV dc pm : Value) (an : Option Addr) (cd ct : Value) (sl : Array (Option Value)) : Prop where
  a : PySem.W.nsIn K mainGlobals x = some (some (.ref f))
  l : K.lookup f = some ⟨oc, od, .func (PySem.W.fnOf x x (defArgs st) (defBody st) (defScope st) .none kV dc pm an cd ct), sl⟩
  c : PySem.W.codeIn K cd x = true
  k : PySem.W.keepIn K (.ref f) = true
abbrev sini : Stmt := nthS (clB (top 1)) 0
abbrev s_law_heard : Stmt := top 26
theorem all_mk {P : Program} {w : World} {K : PySem.W.Frag} {h : Heap} {mg : Str → Option Value} {fa : Addr} {ts : List Addr} (X : K.In h) (G : h.Ns mainGlobals mg) (hfa : mg "law" = some (.ref fa))
    {f0 f1 f2 f3 f4 f5 f6 f7 f8 f9 f10 f11 f12 f13 f14 f15 f16 f17 f18 f19 f20 f21 f22 f23 : Addr} {od0 an0 od1 an1 od2 an2 od3 an3 od4 an4 od5 an5 od6 an6 od7 an7 od8 an8 od9 an9 od10 an10 od11 an11 od12 an12 od13 an13 od14 an14 od15 an15 od16 an16 od17 an17 od18 an18 od19 an19 od20 an20 od21 an21 od22 an22 od23 an23 : Option Addr} {sl0 sl1 sl2 sl3 sl4 sl5 sl6 sl7 sl8 sl9 sl10 sl11 sl12 sl13 sl14 sl15 sl16 sl17 sl18 sl19 sl20 sl21 sl22 sl23 : Array (Option Value)} {oc0 kV0 dc0 pm0 ct0 cd0 oc1 kV1 dc1 pm1 ct1 cd1 oc2 kV2 dc2 pm2 ct2 cd2 oc3 kV3 dc3 pm3 ct3 cd3 oc4 kV4 dc4 pm4 ct4 cd4 oc5 kV5 dc5 pm5 ct5 cd5 oc6 kV6 dc6 pm6 ct6 cd6 oc7 kV7 dc7 pm7 ct7 cd7 oc8 kV8 dc8 pm8 ct8 cd8 oc9 kV9 dc9 pm9 ct9 cd9 oc10 kV10 dc10 pm10 ct10 cd10 oc11 kV11 dc11 pm11 ct11 cd11 oc12 kV12 dc12 pm12 ct12 cd12 oc13 kV13 dc13 pm13 ct13 cd13 oc14 kV14 dc14 pm14 ct14 cd14 oc15 kV15 dc15 pm15 ct15 cd15 oc16 kV16 dc16 pm16 ct16 cd16 oc17 kV17 dc17 pm17 ct17 cd17 oc18 kV18 dc18 pm18 ct18 cd18 oc19 kV19 dc19 pm19 ct19 cd19 oc20 kV20 dc20 pm20 ct20 cd20 oc21 kV21 dc21 pm21 ct21 oc22 kV22 dc22 pm22 ct22 cd22 oc23 kV23 dc23 pm23 ct23 cd23 : Value} {tk_MOST_WHOLE : Tok}
    {mc0 mP0 : Addr} {mo0 : Value} {md0 : Option Addr} {mv0 : Array Value} {ms0 : Array (Option Value)}
    {C0 C1 C2 fI cc cda : Addr} {cdD : ClassData} {oc kV doc pm ct : Value} {od an : Option Addr} {osl : Array (Option Value)} {cl : Value} {cld : Option Addr} {csl : Array (Option Value)} {ccl : Value} {cdd : Option Addr} {vs : Array Value} {ccs : Array (Option Value)} {file : Str} {tf : Tok}
    {nm0 q0 nm1 q1 nm2 q2 : Str} {N0 N1 N2 : Addr} {bs0 bm0 sub0 bs1 bm1 sub1 bs2 bm2 sub2 : List Value} {sn0 sn1 sn2 : List Str} {ab0 ab1 ab2 : Bool} {col0 col1 col2 : Option Bool} {dd0 dd1 dd2 : Option Addr} {k00 k10 k20 k30 k50 k01 k11 k21 k31 k51 k02 k12 k22 k32 k52 : Option Value}
    (h0 : DefAt K "is_int" sis_int f0 oc0 od0 kV0 dc0 pm0 an0 cd0 ct0 sl0)
    (h1 : DefAt K "told_factored" stold_factored f1 oc1 od1 kV1 dc1 pm1 an1 cd1 ct1 sl1)
    (h2 : DefAt K "look_at_live" slook_at_live f2 oc2 od2 kV2 dc2 pm2 an2 cd2 ct2 sl2)
    (h3 : DefAt K "told_prime" stold_prime f3 oc3 od3 kV3 dc3 pm3 an3 cd3 ct3 sl3)
    (h4 : DefAt K "told_power" stold_power f4 oc4 od4 kV4 dc4 pm4 an4 cd4 ct4 sl4)
    (h5 : DefAt K "told_legendre" stold_legendre f5 oc5 od5 kV5 dc5 pm5 an5 cd5 ct5 sl5)
    (h6 : DefAt K "parted" sparted f6 oc6 od6 kV6 dc6 pm6 an6 cd6 ct6 sl6)
    (h7 : DefAt K "told_hilbert" stold_hilbert f7 oc7 od7 kV7 dc7 pm7 an7 cd7 ct7 sl7)
    (h8 : DefAt K "eighth" seighth f8 oc8 od8 kV8 dc8 pm8 an8 cd8 ct8 sl8)
    (h9 : DefAt K "look_at_place" slook_at_place f9 oc9 od9 kV9 dc9 pm9 an9 cd9 ct9 sl9)
    (h10 : DefAt K "hilbert" shilbert f10 oc10 od10 kV10 dc10 pm10 an10 cd10 ct10 sl10)
    (h11 : DefAt K "places_of" splaces_of f11 oc11 od11 kV11 dc11 pm11 an11 cd11 ct11 sl11)
    (h12 : DefAt K "bad_places" sbad_places f12 oc12 od12 kV12 dc12 pm12 an12 cd12 ct12 sl12)
    (h13 : DefAt K "_law_pot" s_law_pot f13 oc13 od13 kV13 dc13 pm13 an13 cd13 ct13 sl13)
    (h14 : DefAt K "_law_take" s_law_take f14 oc14 od14 kV14 dc14 pm14 an14 cd14 ct14 sl14)
    (h15 : DefAt K "_law_of" s_law_of f15 oc15 od15 kV15 dc15 pm15 an15 cd15 ct15 sl15)
    (h16 : DefAt K "_law_cells" s_law_cells f16 oc16 od16 kV16 dc16 pm16 an16 cd16 ct16 sl16)
    (h17 : DefAt K "_law_factored" s_law_factored f17 oc17 od17 kV17 dc17 pm17 an17 cd17 ct17 sl17)
    (h18 : DefAt K "_law_hilbert" s_law_hilbert f18 oc18 od18 kV18 dc18 pm18 an18 cd18 ct18 sl18)
    (h19 : DefAt K "_law_free_drawn" s_law_free_drawn f19 oc19 od19 kV19 dc19 pm19 an19 cd19 ct19 sl19)
    (h20 : DefAt K "_law_live_drawn" s_law_live_drawn f20 oc20 od20 kV20 dc20 pm20 an20 cd20 ct20 sl20)
    (h21 : DefAt K "_law_right" s_law_right f21 oc21 od21 kV21 dc21 pm21 an21 (.ref mc0) ct21 sl21)
    (h22 : DefAt K "law" slaw f22 oc22 od22 kV22 dc22 pm22 an22 cd22 ct22 sl22)
    (h23 : DefAt K "_law_heard" s_law_heard f23 oc23 od23 kV23 dc23 pm23 an23 cd23 ct23 sl23)
    (ml0 : K.lookup mc0 = some ⟨mo0, md0, .fields mv0, ms0⟩) (mp0 : mv0[11]? = some (.ref mP0)) (mn0 : K.lookup mP0 = none) (mh0 : PySem.W.codeHdIn K mc0 mP0 = true) (mt0 : mP0 ∈ ts)
    (k0 : ClsK K "SquareError" C0 C0 fI nm0 q0 N0 bs0 bm0 sn0 sub0 ab0 col0 dd0 k00 k10 k20 k30 k50)
    (k1 : ClsK K "BadInt" C1 C0 fI nm1 q1 N1 bs1 bm1 sn1 sub1 ab1 col1 dd1 k01 k11 k21 k31 k51)
    (k2 : ClsK K "BadPrime" C2 C0 fI nm2 q2 N2 bs2 bm2 sn2 sub2 ab2 col2 dd2 k02 k12 k22 k32 k52)
    (kA : AllK K C0 fI cdD) (kI : InitK K sini "SquareError.__init__" C0 fI cc cda oc kV doc pm ct od an osl cl cld csl ccl cdd vs ccs file tf)
    (hfile : ((P.main.file : Str) == file) = true) (htop : (P.main.scope.names.lookup ("super" : Str)).isSome = false)
    (z_abs : PySem.W.nsIn K mainGlobals "abs" = some none)
    (z_all : PySem.W.nsIn K mainGlobals "all" = some none)
    (z_bool : PySem.W.nsIn K mainGlobals "bool" = some none)
    (z_int : PySem.W.nsIn K mainGlobals "int" = some none)
    (z_isinstance : PySem.W.nsIn K mainGlobals "isinstance" = some none)
    (z_len : PySem.W.nsIn K mainGlobals "len" = some none)
    (z_list : PySem.W.nsIn K mainGlobals "list" = some none)
    (z_max : PySem.W.nsIn K mainGlobals "max" = some none)
    (z_min : PySem.W.nsIn K mainGlobals "min" = some none)
    (z_range : PySem.W.nsIn K mainGlobals "range" = some none)
    (z_repr : PySem.W.nsIn K mainGlobals "repr" = some none)
    (z_set : PySem.W.nsIn K mainGlobals "set" = some none)
    (z_sorted : PySem.W.nsIn K mainGlobals "sorted" = some none)
    (z_sum : PySem.W.nsIn K mainGlobals "sum" = some none)
    (z_super : PySem.W.nsIn K mainGlobals "super" = some none)
    (z_tuple : PySem.W.nsIn K mainGlobals "tuple" = some none)
    (c_MOST_WHOLE : PySem.W.nsIn K mainGlobals "MOST_WHOLE" = some (some (.int 1000000000000 tk_MOST_WHOLE)))
    : ∃ (fd : FuncData) (cs : List (Addr × Addr)) (qs : Addr → Str) (S : SpD), (∀ p ∈ cs, p.2 ∈ ts ∧ K.lookup p.2 = none ∧ PySem.W.codeHdIn K p.1 p.2 = true) ∧ (∀ (s : Shared) (u : Value), BindsTo s fd ⟨[u], []⟩ [("script", u)]) ∧
      (∀ ns : List Int, ns.length ≤ 63 → (∀ z ∈ ns, Builtin.Int.intBits z ≤ 1048576) → S.run [.rls (ns.map D.int)] (muT cs qs) (fun d _ => d = .bl true) XF) ∧
      ∀ base : Heap, K.In base → base.Ns mainGlobals mg → (∀ p ∈ cs, LamX.TabB base mg p.1 p.2) → RunOk P w K mg base 8 fa fd ["script"] (spOf K 1 S) := by
  have e := hfa.symm.trans (PySem.W.mg_of X G h22.a)
  cases e
  have T : Txt mg := ⟨PySem.W.mg_none_of X G z_abs, PySem.W.mg_none_of X G z_all, PySem.W.mg_none_of X G z_bool, PySem.W.mg_none_of X G z_int, PySem.W.mg_none_of X G z_isinstance, PySem.W.mg_none_of X G z_len, PySem.W.mg_none_of X G z_list, PySem.W.mg_none_of X G z_max, PySem.W.mg_none_of X G z_min, PySem.W.mg_none_of X G z_range, PySem.W.mg_none_of X G z_repr, PySem.W.mg_none_of X G z_set, PySem.W.mg_none_of X G z_sorted, PySem.W.mg_none_of X G z_sum, PySem.W.mg_none_of X G z_super, PySem.W.mg_none_of X G z_tuple, ⟨_, PySem.W.mg_of X G c_MOST_WHOLE⟩⟩
  let Z : Ad := { cBadInt := C1, cBadPrime := C2, P_law_right := mP0 }
  refine ⟨PySem.W.fnOf "law" "law" (defArgs slaw) (defBody slaw) (defScope slaw) .none kV22 dc22 pm22 an22 cd22 ct22, [(mc0, mP0)], fun b => if b = mP0 then ("_law_right.<locals>." : Str) ++ "<lambda>" else "?", Slaw Z, ?_, fun s v => .of_eq rfl, ?_, fun base _ _ TBs => ?_⟩
  · exact (List.forall_mem_cons.mpr ⟨⟨mt0, mn0, mh0⟩, (fun _ h => nomatch h)⟩)
  · exact fun ns hn hb => law_S Z ns hn hb ((muT_at (p := (mc0, mP0)) (by simp)).trans (congrArg (fun z => some (O.tab z)) (if_pos rfl)))
  have E_BadInt : ErrD P w K mg base "BadInt" Z.cBadInt := errD_mk (st := sini) X G k1 kA kI z_super (p1 := _) (hb := rfl) hfile htop ⟨rfl, rfl, rfl, rfl, rfl, rfl, rfl, by decide +kernel, by decide +kernel⟩ rfl rfl rfl (fun _ _ _ _ _ _ _ _ a b => rfl)
  have I_BadInt : IsXD K mg "BadInt" (oneC Z.cBadInt) := ⟨C1, PySem.W.mg_of X G k1.a, fun C b h => by obtain ⟨h1, h2⟩ := oneC_inv h; subst h1 h2; exact ⟨k1.exc kA, k1.me⟩⟩
  have E_BadPrime : ErrD P w K mg base "BadPrime" Z.cBadPrime := errD_mk (st := sini) X G k2 kA kI z_super (p1 := _) (hb := rfl) hfile htop ⟨rfl, rfl, rfl, rfl, rfl, rfl, rfl, by decide +kernel, by decide +kernel⟩ rfl rfl rfl (fun _ _ _ _ _ _ _ _ a b => rfl)
  have I_BadPrime : IsXD K mg "BadPrime" (oneC Z.cBadPrime) := ⟨C2, PySem.W.mg_of X G k2.a, fun C b h => by obtain ⟨h1, h2⟩ := oneC_inv h; subst h1 h2; exact ⟨k2.exc kA, k2.me⟩⟩
  have V_errs : ErrsD K Z.isE := fun C b h => by
    obtain ⟨_, rfl | rfl⟩ := Ad.isE_inv h
    all_goals first | exact ⟨k1.exc kA, k1.nV⟩ | exact ⟨k2.exc kA, k2.nV⟩
  have T_heard : HeardD P w K mg base Z.isSq := ⟨_, _, _, s_law_heard, _, _, _, _, _, _, _, _, _, _, _, _, _, _, _, _, _, _, _, _, _, fun_mk (st := s_law_heard) h23.l h23.c h23.k, ⟨rfl, rfl, rfl, by decide +kernel, rfl, by decide +kernel, by decide +kernel⟩, ⟨rfl, rfl, rfl, rfl, rfl⟩, rfl, (fun env he => by cases env; dsimp only at he; subst he; rfl), PySem.W.mg_of X G h23.a, h23.k, (fun_mk (st := s_law_heard) h23.l h23.c h23.k).binds fun _ _ _ _ _ _ us hl => match us, hl with | [_], _ => rfl, PySem.W.mg_of X G k0.a, fun C b h => by
    obtain ⟨e, rfl | rfl⟩ := Ad.isE_inv h <;> subst e
    all_goals first | exact k1.exm (S := C0) k0 | exact k2.exm (S := C0) k0
    ⟩
  have TB0 := TBs (mc0, mP0) (by simp)
  have g_is_int := fun_mk (st := sis_int) h0.l h0.c h0.k
  have F_is_int : FnD P w K mg base 1 "is_int" ["value", "low", "high"] [] Sis_int := fn_ok g_is_int sc_is_int (PySem.W.mg_of X G h0.a) (g_is_int.binds fun _ _ _ _ _ _ us hl => match us, hl with | [_, _, _], _ => rfl) (fun _ h => nomatch h) (wis_int Z) (fun cdv A outer s H E hg hr => der_is_int Z T cdv A outer s H E hg hr) (rd_is_int Z)
  have g_told_factored := fun_mk (st := stold_factored) h1.l h1.c h1.k
  have F_told_factored : FnD P w K mg base 1 "told_factored" ["number"] [] Stold_factored := fn_ok g_told_factored sc_told_factored (PySem.W.mg_of X G h1.a) (g_told_factored.binds fun _ _ _ _ _ _ us hl => match us, hl with | [_], _ => rfl) (fun _ h => nomatch h) (wtold_factored Z) (fun cdv A outer s H E hg hr => der_told_factored Z T cdv A outer s H E hg hr) (rd_told_factored Z)
  have g_told_power := fun_mk (st := stold_power) h4.l h4.c h4.k
  have F_told_power : FnD P w K mg base 1 "told_power" ["number", "times", "whole"] [] Stold_power := fn_ok g_told_power sc_told_power (PySem.W.mg_of X G h4.a) (g_told_power.binds fun _ _ _ _ _ _ us hl => match us, hl with | [_, _, _], _ => rfl) (fun _ h => nomatch h) (wtold_power Z) (fun cdv A outer s H E hg hr => der_told_power Z T cdv A outer s H E hg hr) (rd_told_power Z)
  have g_parted := fun_mk (st := sparted) h6.l h6.c h6.k
  have F_parted : FnD P w K mg base 1 "parted" ["number", "prime"] [] Sparted := fn_ok g_parted sc_parted (PySem.W.mg_of X G h6.a) (g_parted.binds fun _ _ _ _ _ _ us hl => match us, hl with | [_, _], _ => rfl) (fun _ h => nomatch h) (wparted Z) (fun cdv A outer s H E hg hr => der_parted Z T cdv A outer s H E hg hr) (rd_parted Z)
  have g_eighth := fun_mk (st := seighth) h8.l h8.c h8.k
  have F_eighth : FnD P w K mg base 1 "eighth" ["odd"] [] Seighth := fn_ok g_eighth sc_eighth (PySem.W.mg_of X G h8.a) (g_eighth.binds fun _ _ _ _ _ _ us hl => match us, hl with | [_], _ => rfl) (fun _ h => nomatch h) (weighth Z) (fun cdv A outer s H E hg hr => der_eighth Z T cdv A outer s H E hg hr) (rd_eighth Z)
  have g__law_pot := fun_mk (st := s_law_pot) h13.l h13.c h13.k
  have F__law_pot : FnD P w K mg base 1 "_law_pot" ["script", "place"] [] S_law_pot := fn_ok g__law_pot sc__law_pot (PySem.W.mg_of X G h13.a) (g__law_pot.binds fun _ _ _ _ _ _ us hl => match us, hl with | [_, _], _ => rfl) (fun _ h => nomatch h) (w_law_pot Z) (fun cdv A outer s H E hg hr => der__law_pot Z T cdv A outer s H E hg hr) (rd_law_pot Z)
  have g__law_take := fun_mk (st := s_law_take) h14.l h14.c h14.k
  have F__law_take : FnD P w K mg base 1 "_law_take" ["pot", "upto"] [] S_law_take := fn_ok g__law_take sc__law_take (PySem.W.mg_of X G h14.a) (g__law_take.binds fun _ _ _ _ _ _ us hl => match us, hl with | [_, _], _ => rfl) (fun _ h => nomatch h) (w_law_take Z) (fun cdv A outer s H E hg hr => der__law_take Z T cdv A outer s H E hg hr) (rd_law_take Z)
  have g__law_cells := fun_mk (st := s_law_cells) h16.l h16.c h16.k
  have F__law_cells : FnD P w K mg base 1 "_law_cells" ["script", "most"] [] S_law_cells := fn_ok g__law_cells sc__law_cells (PySem.W.mg_of X G h16.a) (g__law_cells.binds fun _ _ _ _ _ _ us hl => match us, hl with | [_, _], _ => rfl) (fun _ h => nomatch h) (w_law_cells Z) (fun cdv A outer s H E hg hr => der__law_cells Z T cdv A outer s H E hg hr) (rd_law_cells Z)
  have g__law_factored := fun_mk (st := s_law_factored) h17.l h17.c h17.k
  have F__law_factored : FnD P w K mg base 1 "_law_factored" ["number"] [] S_law_factored := fn_ok g__law_factored sc__law_factored (PySem.W.mg_of X G h17.a) (g__law_factored.binds fun _ _ _ _ _ _ us hl => match us, hl with | [_], _ => rfl) (fun _ h => nomatch h) (w_law_factored Z) (fun cdv A outer s H E hg hr => der__law_factored Z T cdv A outer s H E hg hr) (rd_law_factored Z)
  have g__law_hilbert := fun_mk (st := s_law_hilbert) h18.l h18.c h18.k
  have F__law_hilbert : FnD P w K mg base 1 "_law_hilbert" ["one", "other", "prime"] [] S_law_hilbert := fn_ok g__law_hilbert sc__law_hilbert (PySem.W.mg_of X G h18.a) (g__law_hilbert.binds fun _ _ _ _ _ _ us hl => match us, hl with | [_, _, _], _ => rfl) (fun _ h => nomatch h) (w_law_hilbert Z) (fun cdv A outer s H E hg hr => der__law_hilbert Z T cdv A outer s H E hg hr) (rd_law_hilbert Z)
  have g_told_prime := fun_mk (st := stold_prime) h3.l h3.c h3.k
  have F_told_prime : FnD P w K mg base 2 "told_prime" ["number"] [] Stold_prime := fn_ok g_told_prime sc_told_prime (PySem.W.mg_of X G h3.a) (g_told_prime.binds fun _ _ _ _ _ _ us hl => match us, hl with | [_], _ => rfl) (fun _ h => nomatch h) (wtold_prime Z) (fun cdv A outer s H E hg hr => der_told_prime Z T F_told_factored cdv A outer s H E hg hr) (rd_told_prime Z)
  have g_told_legendre := fun_mk (st := stold_legendre) h5.l h5.c h5.k
  have F_told_legendre : FnD P w K mg base 2 "told_legendre" ["number", "prime"] [] Stold_legendre := fn_ok g_told_legendre sc_told_legendre (PySem.W.mg_of X G h5.a) (g_told_legendre.binds fun _ _ _ _ _ _ us hl => match us, hl with | [_, _], _ => rfl) (fun _ h => nomatch h) (wtold_legendre Z) (fun cdv A outer s H E hg hr => der_told_legendre Z T F_told_power cdv A outer s H E hg hr) (rd_told_legendre Z)
  have g_places_of := fun_mk (st := splaces_of) h11.l h11.c h11.k
  have F_places_of : FnD P w K mg base 2 "places_of" ["numbers"] [] Splaces_of := fn_ok g_places_of sc_places_of (PySem.W.mg_of X G h11.a) (g_places_of.binds fun _ _ _ _ _ _ us hl => match us, hl with | [_], _ => rfl) (fun _ h => nomatch h) (wplaces_of Z) (fun cdv A outer s H E hg hr => der_places_of Z T F_told_factored cdv A outer s H E hg hr) (rd_places_of Z)
  have g__law_of := fun_mk (st := s_law_of) h15.l h15.c h15.k
  have F__law_of : FnD P w K mg base 2 "_law_of" ["pot", "some"] [] S_law_of := fn_ok g__law_of sc__law_of (PySem.W.mg_of X G h15.a) (g__law_of.binds fun _ _ _ _ _ _ us hl => match us, hl with | [_, _], _ => rfl) (fun _ h => nomatch h) (w_law_of Z) (fun cdv A outer s H E hg hr => der__law_of Z T F__law_take cdv A outer s H E hg hr) (rd_law_of Z)
  have g_look_at_live := fun_mk (st := slook_at_live) h2.l h2.c h2.k
  have F_look_at_live : FnD P w K mg base 3 "look_at_live" ["number"] [] (Slook_at_live Z) := fn_ok g_look_at_live sc_look_at_live (PySem.W.mg_of X G h2.a) (g_look_at_live.binds fun _ _ _ _ _ _ us hl => match us, hl with | [_], _ => rfl) (fun _ h => nomatch h) (wlook_at_live Z) (fun cdv A outer s H E hg hr => der_look_at_live Z T F_is_int E_BadInt cdv A outer s H E hg hr) (rd_look_at_live Z)
  have g_told_hilbert := fun_mk (st := stold_hilbert) h7.l h7.c h7.k
  have F_told_hilbert : FnD P w K mg base 3 "told_hilbert" ["one", "other", "prime"] [] Stold_hilbert := fn_ok g_told_hilbert sc_told_hilbert (PySem.W.mg_of X G h7.a) (g_told_hilbert.binds fun _ _ _ _ _ _ us hl => match us, hl with | [_, _, _], _ => rfl) (fun _ h => nomatch h) (wtold_hilbert Z) (fun cdv A outer s H E hg hr => der_told_hilbert Z T F_eighth F_parted F_told_legendre cdv A outer s H E hg hr) (rd_told_hilbert Z)
  have g_look_at_place := fun_mk (st := slook_at_place) h9.l h9.c h9.k
  have F_look_at_place : FnD P w K mg base 3 "look_at_place" ["prime"] [] (Slook_at_place Z) := fn_ok g_look_at_place sc_look_at_place (PySem.W.mg_of X G h9.a) (g_look_at_place.binds fun _ _ _ _ _ _ us hl => match us, hl with | [_], _ => rfl) (fun _ h => nomatch h) (wlook_at_place Z) (fun cdv A outer s H E hg hr => der_look_at_place Z T F_is_int F_told_prime E_BadPrime cdv A outer s H E hg hr) (rd_look_at_place Z)
  have g__law_free_drawn := fun_mk (st := s_law_free_drawn) h19.l h19.c h19.k
  have F__law_free_drawn : FnD P w K mg base 3 "_law_free_drawn" ["pot"] [] S_law_free_drawn := fn_ok g__law_free_drawn sc__law_free_drawn (PySem.W.mg_of X G h19.a) (g__law_free_drawn.binds fun _ _ _ _ _ _ us hl => match us, hl with | [_], _ => rfl) (fun _ h => nomatch h) (w_law_free_drawn Z) (fun cdv A outer s H E hg hr => der__law_free_drawn Z T F__law_of cdv A outer s H E hg hr) (rd_law_free_drawn Z)
  have g__law_live_drawn := fun_mk (st := s_law_live_drawn) h20.l h20.c h20.k
  have F__law_live_drawn : FnD P w K mg base 3 "_law_live_drawn" ["pot", "wide"] [] S_law_live_drawn := fn_ok g__law_live_drawn sc__law_live_drawn (PySem.W.mg_of X G h20.a) (g__law_live_drawn.binds fun _ _ _ _ _ _ us hl => match us, hl with | [_, _], _ => rfl) (fun _ h => nomatch h) (w_law_live_drawn Z) (fun cdv A outer s H E hg hr => der__law_live_drawn Z T F__law_of F__law_take cdv A outer s H E hg hr) (rd_law_live_drawn Z)
  have g_hilbert := fun_mk (st := shilbert) h10.l h10.c h10.k
  have F_hilbert : FnD P w K mg base 4 "hilbert" ["one", "other", "prime"] [2] (Shilbert Z) := fn_ok g_hilbert sc_hilbert (PySem.W.mg_of X G h10.a) (g_hilbert.binds fun _ _ _ _ _ _ us hl => match us, hl with | [_, _, _], _ => rfl) (fun n hn => match n, hn with | _, .head _ => fun_kb g_hilbert fun _ _ _ _ _ _ us ws h1 h2 => match us, ws, h1, h2 with | [_, _], [_], _, _ => rfl) (whilbert Z) (fun cdv A outer s H E hg hr => der_hilbert Z T F_look_at_live F_look_at_place F_told_hilbert cdv A outer s H E hg hr) (rd_hilbert Z)
  have g_bad_places := fun_mk (st := sbad_places) h12.l h12.c h12.k
  have F_bad_places : FnD P w K mg base 4 "bad_places" ["one", "other"] [1] (Sbad_places Z) := fn_ok g_bad_places sc_bad_places (PySem.W.mg_of X G h12.a) (g_bad_places.binds fun _ _ _ _ _ _ us hl => match us, hl with | [_, _], _ => rfl) (fun n hn => match n, hn with | _, .head _ => fun_kb g_bad_places fun _ _ _ _ _ _ us ws h1 h2 => match us, ws, h1, h2 with | [_], [_], _, _ => rfl) (wbad_places Z) (fun cdv A outer s H E hg hr => der_bad_places Z T F_look_at_live F_places_of F_told_hilbert cdv A outer s H E hg hr) (rd_bad_places Z)
  have g__law_right := fun_mk (st := s_law_right) h21.l h21.c h21.k
  have F__law_right : FnD P w K mg base 7 "_law_right" ["pot"] [] (S_law_right Z) := fn_okL g__law_right rfl sc__law_right (PySem.W.mg_of X G h21.a) (g__law_right.binds fun _ _ _ _ _ _ us hl => match us, hl with | [_], _ => rfl) (fun _ h => nomatch h) (w_law_right Z) (fun A outer s H E hg hr => der__law_right Z T F__law_factored F__law_free_drawn F__law_hilbert F__law_live_drawn F__law_of F__law_take F_bad_places F_hilbert I_BadInt I_BadPrime V_errs T_heard TB0 A outer s H E hg hr) (rd_law_right Z)
  exact fn_run (fun_mk (st := slaw) h22.l h22.c h22.k) sc_law (wlaw Z) (fun cdv A outer s H E hg hr => der_law Z T F__law_cells F__law_pot F__law_right cdv A outer s H E hg hr) (rd_law Z)
end K2

open PySem PySem.W PyProof.Rows
set_option maxRecDepth 100000 in
set_option maxHeartbeats 0 in
theorem PySem.Challenge.cw_squaresowed_k02_whole_symbols_at_all_pla_holds : PySem.Challenge.rw_squaresowed_k02_whole_symbols_at_all_pla.Holds := by
  w_on; o_law; k_head; (case hw => w_witness2)
  k_fill
  refine Sq.law_walkT (l := PySem.Challenge.rw_squaresowed_k02_whole_symbols_at_all_pla) (x := "script") 8 rfl rfl (by decide) (fun w h Y => PySem.W.km_in_of Y) (fun w h Y => PySem.W.km_tabs_of Y) ?F
  case F =>
    intro w mg fa h KX G hmg
    refine' K2.all_mk KX G hmg ⟨?a0, ?l0, ?c0, ?k0⟩ ⟨?a1, ?l1, ?c1, ?k1⟩ ⟨?a2, ?l2, ?c2, ?k2⟩ ⟨?a3, ?l3, ?c3, ?k3⟩ ⟨?a4, ?l4, ?c4, ?k4⟩ ⟨?a5, ?l5, ?c5, ?k5⟩ ⟨?a6, ?l6, ?c6, ?k6⟩ ⟨?a7, ?l7, ?c7, ?k7⟩ ⟨?a8, ?l8, ?c8, ?k8⟩ ⟨?a9, ?l9, ?c9, ?k9⟩ ⟨?a10, ?l10, ?c10, ?k10⟩ ⟨?a11, ?l11, ?c11, ?k11⟩ ⟨?a12, ?l12, ?c12, ?k12⟩ ⟨?a13, ?l13, ?c13, ?k13⟩ ⟨?a14, ?l14, ?c14, ?k14⟩ ⟨?a15, ?l15, ?c15, ?k15⟩ ⟨?a16, ?l16, ?c16, ?k16⟩ ⟨?a17, ?l17, ?c17, ?k17⟩ ⟨?a18, ?l18, ?c18, ?k18⟩ ⟨?a19, ?l19, ?c19, ?k19⟩ ⟨?a20, ?l20, ?c20, ?k20⟩ ⟨?a21, ?l21, ?c21, ?k21⟩ ⟨?a22, ?l22, ?c22, ?k22⟩ ⟨?a23, ?l23, ?c23, ?k23⟩ ?ml0 ?mp0 ?mn0 ?mh0 ?mt0 ⟨?q0_0, ?q0_1, ?q0_2, ?q0_3, ?q0_4, ?q0_5, ?q0_6, ?q0_7, ?q0_8, ?q0_9, ?q0_10, ?q0_11, ?q0_12, ?q0_13, ?q0_14, ?q0_15, ?q0_16, ?q0_17, ?q0_18⟩ ⟨?q1_0, ?q1_1, ?q1_2, ?q1_3, ?q1_4, ?q1_5, ?q1_6, ?q1_7, ?q1_8, ?q1_9, ?q1_10, ?q1_11, ?q1_12, ?q1_13, ?q1_14, ?q1_15, ?q1_16, ?q1_17, ?q1_18⟩ ⟨?q2_0, ?q2_1, ?q2_2, ?q2_3, ?q2_4, ?q2_5, ?q2_6, ?q2_7, ?q2_8, ?q2_9, ?q2_10, ?q2_11, ?q2_12, ?q2_13, ?q2_14, ?q2_15, ?q2_16, ?q2_17, ?q2_18⟩ ⟨?A0, ?A1, ?A2, ?A3, ?A4⟩ ⟨?I0, ?I1, ?I2, ?I3, ?I4⟩ ?hfile ?htop ?z_abs ?z_all ?z_bool ?z_int ?z_isinstance ?z_len ?z_list ?z_max ?z_min ?z_range ?z_repr ?z_set ?z_sorted ?z_sum ?z_super ?z_tuple ?c_MOST_WHOLE
    (case a0 => k_is); (case l0 => k_is); (case c0 => k_is); (case k0 => k_is)
    (case a1 => k_is); (case l1 => k_is); (case c1 => k_is); (case k1 => k_is)
    (case a2 => k_is); (case l2 => k_is); (case c2 => k_is); (case k2 => k_is)
    (case a3 => k_is); (case l3 => k_is); (case c3 => k_is); (case k3 => k_is)
    (case a4 => k_is); (case l4 => k_is); (case c4 => k_is); (case k4 => k_is)
    (case a5 => k_is); (case l5 => k_is); (case c5 => k_is); (case k5 => k_is)
    (case a6 => k_is); (case l6 => k_is); (case c6 => k_is); (case k6 => k_is)
    (case a7 => k_is); (case l7 => k_is); (case c7 => k_is); (case k7 => k_is)
    (case a8 => k_is); (case l8 => k_is); (case c8 => k_is); (case k8 => k_is)
    (case a9 => k_is); (case l9 => k_is); (case c9 => k_is); (case k9 => k_is)
    (case a10 => k_is); (case l10 => k_is); (case c10 => k_is); (case k10 => k_is)
    (case a11 => k_is); (case l11 => k_is); (case c11 => k_is); (case k11 => k_is)
    (case a12 => k_is); (case l12 => k_is); (case c12 => k_is); (case k12 => k_is)
    (case a13 => k_is); (case l13 => k_is); (case c13 => k_is); (case k13 => k_is)
    (case a14 => k_is); (case l14 => k_is); (case c14 => k_is); (case k14 => k_is)
    (case a15 => k_is); (case l15 => k_is); (case c15 => k_is); (case k15 => k_is)
    (case a16 => k_is); (case l16 => k_is); (case c16 => k_is); (case k16 => k_is)
    (case a17 => k_is); (case l17 => k_is); (case c17 => k_is); (case k17 => k_is)
    (case a18 => k_is); (case l18 => k_is); (case c18 => k_is); (case k18 => k_is)
    (case a19 => k_is); (case l19 => k_is); (case c19 => k_is); (case k19 => k_is)
    (case a20 => k_is); (case l20 => k_is); (case c20 => k_is); (case k20 => k_is)
    (case a21 => k_is); (case l21 => k_is); (case c21 => k_is); (case k21 => k_is)
    (case a22 => k_is); (case l22 => k_is); (case c22 => k_is); (case k22 => k_is)
    (case a23 => k_is); (case l23 => k_is); (case c23 => k_is); (case k23 => k_is)
    (case ml0 => k_is); (case mp0 => rfl); (case mn0 => kernel_rfl); (case mh0 => kernel_rfl); (case mt0 => decide)
    (case q0_0 => k_is); (case q0_1 => k_is); (case q0_2 => rfl); (case q0_3 => k_is); (case q0_4 => k_is); (case q0_5 => k_is); (case q0_6 => k_is); (case q0_7 => k_is); (case q0_8 => k_is); (case q0_9 => ks_is); (case q0_10 => k_is); (case q0_11 => k_is); (case q0_12 => k_is); (case q0_13 => k_is); (case q0_14 => k_is); (case q0_15 => k_is); (case q0_16 => k_is); (case q0_17 => k_is); (case q0_18 => kit_is)
    (case q1_0 => k_is); (case q1_1 => k_is); (case q1_2 => rfl); (case q1_3 => k_is); (case q1_4 => k_is); (case q1_5 => k_is); (case q1_6 => k_is); (case q1_7 => k_is); (case q1_8 => k_is); (case q1_9 => ks_is); (case q1_10 => k_is); (case q1_11 => k_is); (case q1_12 => k_is); (case q1_13 => k_is); (case q1_14 => k_is); (case q1_15 => k_is); (case q1_16 => k_is); (case q1_17 => k_is); (case q1_18 => kit_is)
    (case q2_0 => k_is); (case q2_1 => k_is); (case q2_2 => rfl); (case q2_3 => k_is); (case q2_4 => k_is); (case q2_5 => k_is); (case q2_6 => k_is); (case q2_7 => k_is); (case q2_8 => k_is); (case q2_9 => ks_is); (case q2_10 => k_is); (case q2_11 => k_is); (case q2_12 => k_is); (case q2_13 => k_is); (case q2_14 => k_is); (case q2_15 => k_is); (case q2_16 => k_is); (case q2_17 => k_is); (case q2_18 => kit_is)
    (case A0 => k_is); (case A1 => k_is); (case A2 => k_is); (case A3 => k_is); (case A4 => k_is)
    (case I0 => k_is); (case I1 => k_is); (case I2 => k_is); (case I3 => rfl); (case I4 => k_is)
    (case hfile => rfl); (case htop => rfl)
    (case z_abs => k_is); (case z_all => k_is); (case z_bool => k_is); (case z_int => k_is); (case z_isinstance => k_is); (case z_len => k_is); (case z_list => k_is); (case z_max => k_is); (case z_min => k_is); (case z_range => k_is); (case z_repr => k_is); (case z_set => k_is); (case z_sorted => k_is); (case z_sum => k_is); (case z_super => k_is); (case z_tuple => k_is)
    (case c_MOST_WHOLE => k_is)
