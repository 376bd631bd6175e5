import PyProof.Rows.All
import PySem.Challenge.RW_seenorstruck_k63_least_bunches_that_meet
import Wide.All
import OpenK.AllK
import Wide.FinOn
import HandS.ForMost
import HandS.TupAny
import HandS.Deep
import HandS.Wide
import HandS.Conv
import HandS.SortOrd
import KE.SortData
import KE.SortKeyHeap
import KE.KDictSum
import KE.KSortKey
import HandS.SortKw
import KE.KDictCopyH
import PyProof.TupleOfSeq
import KE.KDictPairs
import PyProof.DictUpdate
import PyProof.ReprRoads
import PyProof.CallFns
import HandS.Ends
import HandS.Style
import KE.KRevSl
import HandS.Words
import PyProof.StrLaws
set_option Elab.async false
set_option linter.all false
set_option maxRecDepth 100000
/-! Sx0: states of a def as lists of assertions about its slots, and how expressions' readings lead from state to state. -/
namespace Sx
open PySem
open PySem.Spec
open PyProof.Rows
open L2

/-! ### data without lists and dicts -/
mutual
def imm : PyData → Bool
  | .none => true
  | .bool _ => true
  | .int _ => true
  | .str _ => true
  | .tuple ds => immAll ds
  | .list _ => false
  | .dict _ => false
def immAll : List PyData → Bool
  | [] => true
  | d :: ds => imm d && immAll ds
end
theorem immAll_map {α : Type} {f : α → PyData} (h : ∀ a, imm (f a) = true) : ∀ xs : List α, immAll (xs.map f) = true
  | [] => rfl
  | x :: xs => by rw [List.map_cons, immAll, h x, immAll_map h xs]; rfl

/-- values of a Lean type as data -/
class En (α : Type) where
  toD : α → PyData
  imm : ∀ a, imm (toD a) = true
  lay : ∀ a, (toD a).canLay0 = true
  dp : Nat
  dep : ∀ a, (toD a).depth ≤ dp
  eqv : ∀ (a b : α), PyData.eqv (toD a) (toD b) = true ↔ a = b
abbrev toD {α : Type} [En α] (x : α) : PyData := En.toD x

instance : En Int := ⟨.int, fun _ => rfl, fun _ => rfl, 0, fun _ => Nat.le_refl _, fun a b => by simp only [PyData.eqv, beq_iff_eq]⟩
instance : En Bool := ⟨.bool, fun _ => rfl, fun _ => rfl, 0, fun _ => Nat.le_refl _, fun a b => by simp only [PyData.eqv, beq_iff_eq]⟩
instance : En Unit := ⟨fun _ => .none, fun _ => rfl, fun _ => rfl, 0, fun _ => Nat.le_refl _, fun a b => by simp only [PyData.eqv]⟩
section
variable {α β : Type} [En α] [En β]
theorem layAll_map : ∀ xs : List α, PyData.canLayAll0 (xs.map toD) = true
  | [] => rfl
  | x :: xs => by rw [List.map_cons, PyData.canLayAll0, En.lay x, layAll_map xs]; rfl
theorem depAll_map : ∀ xs : List α, PyData.depthAll (xs.map toD) ≤ En.dp α
  | [] => Nat.zero_le _
  | x :: xs => by
    rw [List.map_cons, PyData.depthAll]
    exact Nat.max_le.mpr ⟨En.dep x, depAll_map xs⟩
theorem eqvAll_map : ∀ xs ys : List α, PyData.eqvAll (xs.map toD) (ys.map toD) = true ↔ xs = ys
  | [], [] => by simp only [List.map_nil, PyData.eqvAll]
  | [], _ :: _ => by simp [PyData.eqvAll]
  | _ :: _, [] => by simp [PyData.eqvAll]
  | x :: xs, y :: ys => by
    rw [List.map_cons, List.map_cons, PyData.eqvAll, Bool.and_eq_true, En.eqv x y, eqvAll_map xs ys, List.cons.injEq]
/-- a list of Lean's is a tuple of Python's -/
instance : En (List α) where
  toD xs := .tuple (xs.map toD)
  imm xs := by rw [Sx.imm]; exact immAll_map En.imm xs
  lay xs := by rw [PyData.canLay0]; exact layAll_map xs
  dp := En.dp α + 1
  dep xs := by rw [PyData.depth]; exact Nat.succ_le_succ (depAll_map xs)
  eqv xs ys := by rw [PyData.eqv, eqvAll_map]
instance : En (α × β) where
  toD p := .tuple [toD p.1, toD p.2]
  imm p := by rw [Sx.imm, immAll, immAll, immAll, En.imm, En.imm]; rfl
  lay p := by rw [PyData.canLay0, PyData.canLayAll0, PyData.canLayAll0, PyData.canLayAll0, En.lay, En.lay]; rfl
  dp := max (En.dp α) (En.dp β) + 1
  dep p := by
    rw [PyData.depth, PyData.depthAll, PyData.depthAll, PyData.depthAll]
    exact Nat.succ_le_succ (Nat.max_le.mpr ⟨Nat.le_trans (En.dep p.1) (Nat.le_max_left _ _), Nat.max_le.mpr ⟨Nat.le_trans (En.dep p.2) (Nat.le_max_right _ _), Nat.zero_le _⟩⟩)
  eqv p q := by
    rw [PyData.eqv, PyData.eqvAll, PyData.eqvAll, PyData.eqvAll, Bool.and_eq_true, Bool.and_eq_true, En.eqv, En.eqv]
    exact ⟨fun h => Prod.ext h.1 h.2.1, fun h => by rw [h]; exact ⟨rfl, rfl, rfl⟩⟩
theorem eqv_dec [DecidableEq α] (a b : α) : PyData.eqv (toD a) (toD b) = decide (a = b) := by
  rw [Bool.eq_iff_iff, En.eqv, decide_eq_true_eq]
/-- a list of Python's -/
abbrev lsD (xs : List α) : PyData := .list (xs.map toD)
theorem eqv_ls [DecidableEq α] (a b : List α) : PyData.eqv (lsD a) (lsD b) = decide (a = b) := by
  rw [Bool.eq_iff_iff, PyData.eqv, eqvAll_map, decide_eq_true_eq]
theorem shaped_of (h : En.dp α ≤ 64) (x : α) : SeqAt.shaped (toD x) = true := by
  unfold SeqAt.shaped
  rw [En.lay x, decide_eq_true (Nat.le_trans (En.dep x) h)]; rfl
theorem shaped_ls (h : En.dp α ≤ 63) (xs : List α) : SeqAt.shaped (lsD xs) = true := by
  unfold SeqAt.shaped
  have e : (lsD xs).depth ≤ 64 := by rw [PyData.depth]; exact Nat.succ_le_succ (Nat.le_trans (depAll_map xs) h)
  rw [PyData.canLay0, layAll_map xs, decide_eq_true e]; rfl
end

/-! ### values that read as data: tuples are tracked ones -/
mutual
inductive Dq (K : PySem.W.Frag) (H : Hp) : V → PyData → Prop
  | non : Dq K H .non .none
  | bl (b : Bool) : Dq K H (.bl b) (.bool b)
  | int (i : Int) : Dq K H (.int i) (.int i)
  | str (x : Str) : Dq K H (.str x) (.str x)
  | lst {a : Addr} {xs : List V} {ds : List PyData} : SqL K H a xs → DqAll K H xs ds → Dq K H (.ref a) (.list ds)
  | tup {a : Addr} {xs : List V} {ds : List PyData} : H a = some (.tup xs) → DqAll K H xs ds → Dq K H (.ref a) (.tuple ds)
inductive DqAll (K : PySem.W.Frag) (H : Hp) : List V → List PyData → Prop
  | nil : DqAll K H [] []
  | cons {v : V} {vs : List V} {d : PyData} {ds : List PyData} : Dq K H v d → DqAll K H vs ds → DqAll K H (v :: vs) (d :: ds)
end
variable {K : PySem.W.Frag}
mutual
theorem Dq.dp {H : Hp} : ∀ (d : PyData) (v : V), Dq K H v d → Dp K H v d
  | .none, _, h => by cases h; exact .non
  | .bool b, _, h => by cases h; exact .bl b
  | .int i, _, h => by cases h; exact .int i
  | .str x, _, h => by cases h; exact .str x
  | .list ds, _, h => by
    cases h with
    | lst hs ha => exact .lst hs (DqAll.dp ds _ ha)
  | .tuple ds, _, h => by
    cases h with
    | tup hs ha => exact .tup (SqT.of hs) (DqAll.dp ds _ ha)
  | .dict _, _, h => by cases h
theorem DqAll.dp {H : Hp} : ∀ (ds : List PyData) (vs : List V), DqAll K H vs ds → DpAll K H vs ds
  | [], _, h => by cases h; exact .nil
  | d :: ds, _, h => by
    cases h with
    | cons h1 h2 => exact .cons (Dq.dp d _ h1) (DqAll.dp ds _ h2)
end
theorem Dq.p {H : Hp} {d : PyData} {v : V} (h : Dq K H v d) : Dp K H v d := Dq.dp d v h

/-! ### what is kept -/
def KeepT (H H' : Hp) : Prop := ∀ a xs, H a = some (.tup xs) → H' a = some (.tup xs)
theorem _root_.L2.Same.keepT {H H' : Hp} (e : Same H H') : KeepT H H' := fun _ _ h => e _ _ h
theorem KeepT.trans {H H1 H2 : Hp} (a : KeepT H H1) (b : KeepT H1 H2) : KeepT H H2 := fun c xs h => b c xs (a c xs h)
mutual
theorem dp_same {H H' : Hp} (e : Same H H') : ∀ (d : PyData) (v : V), Dq K H v d → Dq K H' v d
  | .none, _, h => by cases h; exact .non
  | .bool b, _, h => by cases h; exact .bl b
  | .int i, _, h => by cases h; exact .int i
  | .str x, _, h => by cases h; exact .str x
  | .list ds, _, h => by
    cases h with
    | lst hs ha => exact .lst (e.seq hs) (dpAll_same e ds _ ha)
  | .tuple ds, _, h => by
    cases h with
    | tup hs ha => exact .tup (e _ _ hs) (dpAll_same e ds _ ha)
  | .dict _, _, h => by cases h
theorem dpAll_same {H H' : Hp} (e : Same H H') : ∀ (ds : List PyData) (vs : List V), DqAll K H vs ds → DqAll K H' vs ds
  | [], _, h => by cases h; exact .nil
  | d :: ds, _, h => by
    cases h with
    | cons h1 h2 => exact .cons (dp_same e d _ h1) (dpAll_same e ds _ h2)
end
mutual
theorem dp_keep {H H' : Hp} (e : KeepT H H') : ∀ (d : PyData) (v : V), imm d = true → Dq K H v d → Dq K H' v d
  | .none, _, _, h => by cases h; exact .non
  | .bool b, _, _, h => by cases h; exact .bl b
  | .int i, _, _, h => by cases h; exact .int i
  | .str x, _, _, h => by cases h; exact .str x
  | .list ds, _, z, _ => by rw [imm] at z; cases z
  | .tuple ds, _, z, h => by
    cases h with
    | tup hs ha => exact .tup (e _ _ hs) (dpAll_keep e ds _ (by rw [imm] at z; exact z) ha)
  | .dict _, _, _, h => by cases h
theorem dpAll_keep {H H' : Hp} (e : KeepT H H') : ∀ (ds : List PyData) (vs : List V), immAll ds = true → DqAll K H vs ds → DqAll K H' vs ds
  | [], _, _, h => by cases h; exact .nil
  | d :: ds, _, z, h => by
    cases h with
    | cons h1 h2 =>
      rw [immAll, Bool.and_eq_true] at z
      exact .cons (dp_keep e d _ z.1 h1) (dpAll_keep e ds _ z.2 h2)
end
theorem DqAll.len {H : Hp} : ∀ {vs : List V} {ds : List PyData}, DqAll K H vs ds → vs.length = ds.length
  | [], [], _ => rfl
  | [], _ :: _, h => by cases h
  | _ :: _, [], h => by cases h
  | _ :: _, _ :: _, h => by cases h with | cons _ t => rw [List.length_cons, List.length_cons, DqAll.len t]
theorem DqAll.get {H : Hp} : ∀ {vs : List V} {ds : List PyData} {i : Nat} {d : PyData}, DqAll K H vs ds → ds[i]? = some d → ∃ v, vs[i]? = some v ∧ Dq K H v d
  | [], [], i, d, _, e => by simp at e
  | [], _ :: _, _, _, h, _ => by cases h
  | _ :: _, [], _, _, h, _ => by cases h
  | v :: _, _ :: _, 0, d, h, e => by
    cases h with
    | cons h1 _ =>
      have e' := Option.some.inj (show some _ = some d from e)
      subst e'
      exact ⟨v, rfl, h1⟩
  | _ :: _, _ :: _, i + 1, d, h, e => by
    cases h with
    | cons _ t =>
      obtain ⟨v, h1, h2⟩ := DqAll.get (i := i) t (by simpa using e)
      exact ⟨v, by simpa using h1, h2⟩
theorem DqAll.app {H : Hp} : ∀ {vs : List V} {ds : List PyData} {ws : List V} {es : List PyData}, DqAll K H vs ds → DqAll K H ws es → DqAll K H (vs ++ ws) (ds ++ es)
  | [], [], _, _, _, k => k
  | [], _ :: _, _, _, h, _ => by cases h
  | _ :: _, [], _, _, h, _ => by cases h
  | _ :: _, _ :: _, _, _, h, k => by
    cases h with
    | cons h1 t => exact .cons h1 (DqAll.app t k)
theorem DqAll.val {H : Hp} : ∀ {vs : List V} {ds : List PyData} {i : Nat} {v : V}, DqAll K H vs ds → vs[i]? = some v → ∃ d, ds[i]? = some d ∧ Dq K H v d
  | [], [], i, d, _, e => by simp at e
  | [], _ :: _, _, _, h, _ => by cases h
  | _ :: _, [], _, _, h, _ => by cases h
  | v :: _, d :: _, 0, _, h, e => by
    cases h with
    | cons h1 _ =>
      have e' := Option.some.inj (show some _ = some _ from e)
      subst e'
      exact ⟨d, rfl, h1⟩
  | _ :: _, _ :: _, i + 1, d, h, e => by
    cases h with
    | cons _ t =>
      obtain ⟨v, h1, h2⟩ := DqAll.val (i := i) t (by simpa using e)
      exact ⟨v, by simpa using h1, h2⟩
theorem dpAll_ints {H : Hp} : ∀ ns : List Int, DqAll K H (ns.map V.int) (ns.map toD)
  | [] => .nil
  | n :: ns => .cons (.int n) (dpAll_ints ns)

/-! ### assertions about one value, owning objects -/
structure Sl (K : PySem.W.Frag) where
  p : Hp → (Addr → Prop) → V → Prop
  mono : ∀ {H H' : Hp} {S S' : Addr → Prop} {v : V}, p H S v → (∀ a, S a → S' a) → (∀ a, S a → H' a = H a) → KeepT H H' → p H' S' v
section
variable {α : Type} [En α]
/-- data without lists -/
def da (x : α) : Sl K := ⟨fun H _ v => Dq K H v (toD x), fun h _ _ k => dp_keep k _ _ (En.imm _) h⟩
/-- data of the frame, perhaps with lists: read, never written -/
def bo (Fh : Hp) (d : PyData) : Sl K := ⟨fun _ _ v => Dq K Fh v d, fun h _ _ _ => h⟩
/-- a list of one's own at a -/
def olA (a : Addr) (xs : List α) : Sl K := ⟨fun H S v => v = .ref a ∧ S a ∧ ∃ ws, H a = some (.lst ws) ∧ DqAll K H ws (xs.map toD), fun ⟨e, s, ws, h, q⟩ hS hH k =>
  ⟨e, hS _ s, ws, by rw [hH _ s]; exact h, dpAll_keep k _ _ (immAll_map En.imm _) q⟩⟩
/-- a list of one's own -/
def ol (xs : List α) : Sl K := ⟨fun H S v => ∃ a, (olA (K := K) a xs).p H S v, fun ⟨a, h⟩ hS hH k => ⟨a, (olA a xs).mono h hS hH k⟩⟩
end
/-- the value that a slot holds -/
def al (o : Option (Option V)) : Sl K := ⟨fun _ _ v => o = some (some v), fun h _ _ _ => h⟩

/-! ### the state -/
/-- no tuple -/
def NT (o : HO) : Prop := ∀ xs, o ≠ .tup xs
abbrev Ctx (K : PySem.W.Frag) := List (Option (Sl K))
abbrev Owns := Addr → Option Nat
structure Core (Fh : Hp) (Γ : Ctx K) (σ : L2.St) (w : Owns) (H : Hp) : Prop where
  same : Same Fh H
  own : ∀ a, w a ≠ none → Fh a = none ∧ ∃ o, H a = some o ∧ NT o
  len : Γ.length = σ.length
  at_ : ∀ (i : Nat) (s : Sl K), Γ[i]? = some (some s) → ∃ v, σ[i]? = some (some v) ∧ s.p H (fun a => w a = some i) v
def Tok (H : Hp) (w : Owns) (n : Nat) : List (Sl K) → List V → Prop
  | [], [] => True
  | t :: T, v :: vs => t.p H (fun a => w a = some (n + T.length)) v ∧ Tok H w n T vs
  | _, _ => False
def Env (Fh : Hp) (Γ : Ctx K) (σ : L2.St) (T : List (Sl K)) (vs : List V) (H : Hp) : Prop := ∃ w, Core Fh Γ σ w H ∧ Tok H w Γ.length T vs

theorem Tok.mono {H H' : Hp} {w w' : Owns} {n : Nat} (k : KeepT H H') : ∀ {T : List (Sl K)} {vs : List V}, Tok H w n T vs →
    (∀ a j, j < T.length → w a = some (n + j) → w' a = some (n + j) ∧ H' a = H a) → Tok H' w' n T vs
  | [], [], _, _ => trivial
  | t :: T, v :: vs, ⟨h1, h2⟩, hw => ⟨t.mono h1 (fun a e => (hw a T.length (by simp) e).1) (fun a e => (hw a T.length (by simp) e).2) k, Tok.mono k h2 fun a j hj e => hw a j (by rw [List.length_cons]; omega) e⟩
  | [], _ :: _, h, _ => h.elim
  | _ :: _, [], h, _ => h.elim
theorem Core.mono {Fh H H' : Hp} {Γ : Ctx K} {σ : L2.St} {w w' : Owns} (c : Core Fh Γ σ w H) (k : KeepT H H') (same : Same Fh H') (own : ∀ a, w' a ≠ none → Fh a = none ∧ ∃ o, H' a = some o ∧ NT o)
    (hw : ∀ a i, i < Γ.length → w a = some i → w' a = some i ∧ H' a = H a) : Core Fh Γ σ w' H' := by
  refine ⟨same, own, c.len, fun i s e => ?_⟩
  obtain ⟨v, h1, h2⟩ := c.at_ i s e
  have hi : i < Γ.length := (List.getElem?_eq_some_iff.mp e).1
  exact ⟨v, h1, s.mono h2 (fun a z => (hw a i hi z).1) (fun a z => (hw a i hi z).2) k⟩

section
variable {Fh H H' : Hp} {Γ : Ctx K} {σ : L2.St} {T : List (Sl K)} {vs : List V} {v : V} {s t : Sl K}
theorem Env.same (E : Env Fh Γ σ T vs H) : Same Fh H := let ⟨_, c, _⟩ := E; c.same
theorem Env.len (E : Env Fh Γ σ T vs H) : Γ.length = σ.length := let ⟨_, c, _⟩ := E; c.len
theorem Env.pop (E : Env Fh Γ σ (t :: T) (v :: vs) H) : Env Fh Γ σ T vs H := let ⟨w, c, k⟩ := E; ⟨w, c, k.2⟩
/-- only new objects -/
theorem Env.grow (E : Env Fh Γ σ T vs H) (e : Same H H') : Env Fh Γ σ T vs H' := by
  obtain ⟨w, c, k⟩ := E
  have same : ∀ a, w a ≠ none → H' a = H a := fun a z => by
    obtain ⟨_, o, ho, _⟩ := c.own a z
    rw [ho]; exact e _ _ ho
  refine ⟨w, c.mono (Same.keepT e) (c.same.trans e) (fun a z => ?_) fun a i _ q => ⟨q, same a (by rw [q]; simp)⟩, k.mono (Same.keepT e) fun a j _ q => ⟨q, same a (by rw [q]; simp)⟩⟩
  obtain ⟨h1, o, ho, m⟩ := c.own a z
  exact ⟨h1, o, e _ _ ho, m⟩
/-- S are new objects of H' -/
def Fresh (H H' : Hp) (S : Addr → Prop) : Prop := ∀ a, S a → H a = none ∧ ∃ o, H' a = some o ∧ NT o
theorem Fresh.none : Fresh H H' (fun _ => False) := fun _ z => z.elim
open Classical in
theorem Env.push (E : Env Fh Γ σ T vs H) (e : Same H H') {S : Addr → Prop} (f : Fresh H H' S) (h : s.p H' S v) : Env Fh Γ σ (s :: T) (v :: vs) H' := by
  obtain ⟨w, c, k⟩ := E
  have nS : ∀ a, w a ≠ none → ¬ S a := fun a z q => by
    obtain ⟨_, o, ho, _⟩ := c.own a z
    rw [(f a q).1] at ho; cases ho
  have same : ∀ a, w a ≠ none → H' a = H a := fun a z => by
    obtain ⟨_, o, ho, _⟩ := c.own a z
    rw [ho]; exact e _ _ ho
  have keep : ∀ a i, w a = some i → (if S a then some (Γ.length + T.length) else w a) = some i ∧ H' a = H a := fun a i q => by
    have z : w a ≠ none := by rw [q]; simp
    rw [if_neg (nS a z)]
    exact ⟨q, same a z⟩
  refine ⟨fun a => if S a then some (Γ.length + T.length) else w a, c.mono (Same.keepT e) (c.same.trans e) (fun a z => ?_) fun a i _ q => keep a i q, s.mono h (fun a q => if_pos q) (fun _ _ => rfl) (fun _ _ q => q), k.mono (Same.keepT e) fun a j _ q => keep a _ q⟩
  by_cases q : S a
  · obtain ⟨n, o, ho, m⟩ := f a q
    refine ⟨?_, o, ho, m⟩
    cases z2 : Fh a with
    | none => rfl
    | some o' => rw [c.same _ _ z2] at n; cases n
  · have z' : w a ≠ none := by
      intro y
      exact z (by show (if S a then _ else w a) = none; rw [if_neg q]; exact y)
    obtain ⟨h1, o, ho, m⟩ := c.own a z'
    exact ⟨h1, o, e _ _ ho, m⟩
theorem Env.push0 (E : Env Fh Γ σ T vs H) (h : s.p H (fun _ => False) v) : Env Fh Γ σ (s :: T) (v :: vs) H := E.push (Same.refl H) Fresh.none h
theorem Env.get {i : Nat} (E : Env Fh Γ σ T vs H) (hi : Γ[i]? = some (some s)) : ∃ v S, σ[i]? = some (some v) ∧ s.p H S v := by
  obtain ⟨w, c, _⟩ := E
  obtain ⟨v, h1, h2⟩ := c.at_ i s hi
  exact ⟨v, _, h1, h2⟩
open Classical in
/-- a value that was reckoned goes into slot i -/
theorem Env.store {i : Nat} (E : Env Fh Γ σ (s :: T) (v :: vs) H) (hi : i < Γ.length) : Env Fh (Γ.set i (some s)) (σ.set i (some v)) T vs H := by
  obtain ⟨w, c, k1, k2⟩ := E
  have f : ∀ a j, j ≠ Γ.length + T.length → w a = some j → (if w a = some (Γ.length + T.length) then some i else w a) = some j := fun a j hj q => by
    rw [if_neg (by rw [q]; intro z; exact hj (Option.some.inj z))]; exact q
  refine ⟨fun a => if w a = some (Γ.length + T.length) then some i else w a, ⟨c.same, fun a z => c.own a fun y => z ?_, by simp [c.len], fun j u e => ?_⟩, ?_⟩
  · show (if w a = some _ then _ else w a) = none
    rw [if_neg (by rw [y]; simp)]; exact y
  · by_cases hj : j = i
    · subst hj
      rw [List.getElem?_set_self hi] at e
      cases e
      exact ⟨v, List.getElem?_set_self (by rw [← c.len]; exact hi), s.mono k1 (fun a q => if_pos q) (fun _ _ => rfl) fun _ _ q => q⟩
    · rw [List.getElem?_set_ne (Ne.symm hj)] at e
      obtain ⟨v', h1, h2⟩ := c.at_ j u e
      have hjl : j < Γ.length := (List.getElem?_eq_some_iff.mp e).1
      exact ⟨v', by rw [List.getElem?_set_ne (Ne.symm hj)]; exact h1, u.mono h2 (fun a q => f a j (by omega) q) (fun _ _ => rfl) fun _ _ q => q⟩
  · rw [List.length_set]
    exact k2.mono (fun _ _ q => q) fun a j hj q => ⟨f a _ (by omega) q, rfl⟩
open Classical in
/-- slot i and its objects are changed; N are new ones -/
theorem Env.change {i : Nat} (E : Env Fh Γ σ T vs H) (hi : Γ[i]? = some (some s)) : ∃ v S, σ[i]? = some (some v) ∧ s.p H S v ∧ (∀ a, S a → Fh a = none ∧ ∃ o, H a = some o ∧ NT o) ∧
    ∀ (s' : Sl K) (H' : Hp) (N : Addr → Prop), (∀ a o, ¬ S a → H a = some o → H' a = some o) → (∀ a, S a → ∃ o, H' a = some o ∧ NT o) → Fresh H H' N → s'.p H' (fun a => S a ∨ N a) v → Env Fh (Γ.set i (some s')) σ T vs H' := by
  obtain ⟨w, c, k⟩ := E
  obtain ⟨v, h1, h2⟩ := c.at_ i s hi
  have hil : i < Γ.length := (List.getElem?_eq_some_iff.mp hi).1
  refine ⟨v, fun a => w a = some i, h1, h2, fun a q => c.own a (by rw [q]; simp), fun s' H' N hk hm f hs' => ?_⟩
  have nt : KeepT H H' := fun a xs q => hk a _ (fun z => by
    obtain ⟨_, o, ho, m⟩ := c.own a (by rw [z]; simp)
    rw [q] at ho; cases ho; exact m _ rfl) q
  have nN : ∀ a, w a ≠ none → ¬ N a := fun a z q => by
    obtain ⟨_, o, ho, _⟩ := c.own a z
    rw [(f a q).1] at ho; cases ho
  have oth : ∀ a j, j ≠ i → w a = some j → (if N a then some i else w a) = some j ∧ H' a = H a := fun a j hj q => by
    have z : w a ≠ none := by rw [q]; simp
    rw [if_neg (nN a z)]
    obtain ⟨_, o, ho, _⟩ := c.own a z
    exact ⟨q, by rw [ho]; exact hk a o (fun y => hj (Option.some.inj (q.symm.trans y))) ho⟩
  refine ⟨fun a => if N a then some i else w a, ⟨fun a o q => hk a o (fun z => ?_) (c.same a o q), fun a z => ?_, by rw [List.length_set]; exact c.len, fun j u e => ?_⟩, ?_⟩
  · obtain ⟨n, _⟩ := c.own a (by rw [z]; simp)
    rw [n] at q; cases q
  · by_cases q : N a
    · obtain ⟨n, o, ho, m⟩ := f a q
      refine ⟨?_, o, ho, m⟩
      cases z2 : Fh a with
      | none => rfl
      | some o' => rw [c.same _ _ z2] at n; cases n
    · have z' : w a ≠ none := fun y => z (by show (if N a then _ else w a) = none; rw [if_neg q]; exact y)
      obtain ⟨h3, o, ho, m⟩ := c.own a z'
      by_cases y : w a = some i
      · obtain ⟨o', ho', m'⟩ := hm a y
        exact ⟨h3, o', ho', m'⟩
      · exact ⟨h3, o, hk a o y ho, m⟩
  · by_cases hj : j = i
    · subst hj
      rw [List.getElem?_set_self hil] at e
      cases e
      refine ⟨v, h1, s'.mono hs' (fun a q => ?_) (fun _ _ => rfl) fun _ _ q => q⟩
      by_cases y : N a
      · exact if_pos y
      · exact (if_neg y).trans (q.resolve_right y)
    · rw [List.getElem?_set_ne (Ne.symm hj)] at e
      obtain ⟨v', h3, h4⟩ := c.at_ j u e
      exact ⟨v', h3, u.mono h4 (fun a q => (oth a j hj q).1) (fun a q => (oth a j hj q).2) nt⟩
  · rw [List.length_set]
    exact k.mono nt fun a j _ q => oth a _ (by omega) q
/-- the value reckoned last and its objects are changed -/
theorem Env.changeT (E : Env Fh Γ σ (s :: T) (v :: vs) H) : ∃ S, s.p H S v ∧ (∀ a, S a → Fh a = none ∧ ∃ o, H a = some o ∧ NT o) ∧
    ∀ (s' : Sl K) (v' : V) (H' : Hp), (∀ a o, ¬ S a → H a = some o → H' a = some o) → (∀ a, S a → ∃ o, H' a = some o ∧ NT o) → s'.p H' S v' → Env Fh Γ σ (s' :: T) (v' :: vs) H' := by
  obtain ⟨w, c, k1, k2⟩ := E
  refine ⟨fun a => w a = some (Γ.length + T.length), k1, fun a q => c.own a (by rw [q]; simp), fun s' v' H' hk hm hs' => ?_⟩
  have nt : KeepT H H' := fun a xs q => hk a _ (fun z => by
    obtain ⟨_, o, ho, m⟩ := c.own a (by rw [z]; simp)
    rw [q] at ho; cases ho; exact m _ rfl) q
  have oth : ∀ a j, j ≠ Γ.length + T.length → w a = some j → w a = some j ∧ H' a = H a := fun a j hj q => by
    obtain ⟨_, o, ho, _⟩ := c.own a (by rw [q]; simp)
    exact ⟨q, by rw [ho]; exact hk a o (fun y => hj (Option.some.inj (q.symm.trans y))) ho⟩
  refine ⟨w, c.mono nt (fun a o q => hk a o (fun z => ?_) (c.same a o q)) (fun a z => ?_) fun a j hj q => oth a j (by omega) q, hs', k2.mono nt fun a j hj q => oth a _ (by omega) q⟩
  · obtain ⟨n, _⟩ := c.own a (by rw [z]; simp)
    rw [n] at q; cases q
  · obtain ⟨h3, o, ho, m⟩ := c.own a z
    by_cases y : w a = some (Γ.length + T.length)
    · obtain ⟨o', ho', m'⟩ := hm a y
      exact ⟨h3, o', ho', m'⟩
    · exact ⟨h3, o, hk a o y ho, m⟩
/-- forgetting, by slots -/
inductive Le : Ctx K → Ctx K → Prop
  | nil : Le [] []
  | keep {s : Option (Sl K)} {Γ Δ : Ctx K} : Le Γ Δ → Le (s :: Γ) (s :: Δ)
  | drop {s : Option (Sl K)} {Γ Δ : Ctx K} : Le Γ Δ → Le (s :: Γ) (none :: Δ)
theorem Le.len : ∀ {Γ Δ : Ctx K}, Le Γ Δ → Γ.length = Δ.length
  | _, _, .nil => rfl
  | _, _, .keep h => by rw [List.length_cons, List.length_cons, h.len]
  | _, _, .drop h => by rw [List.length_cons, List.length_cons, h.len]
theorem Le.at_ : ∀ {Γ Δ : Ctx K}, Le Γ Δ → ∀ {i : Nat} {s : Sl K}, Δ[i]? = some (some s) → Γ[i]? = some (some s)
  | _, _, .nil, i, s, h => h
  | _, _, .keep _, 0, s, h => h
  | _, _, .keep t, i + 1, s, h => by simpa using t.at_ (i := i) (by simpa using h)
  | _, _, .drop _, 0, s, h => by simp at h
  | _, _, .drop t, i + 1, s, h => by simpa using t.at_ (i := i) (by simpa using h)
theorem Le.refl : ∀ Γ : Ctx K, Le Γ Γ
  | [] => .nil
  | _ :: Γ => .keep (Le.refl Γ)
theorem Env.weak {Δ : Ctx K} (E : Env Fh Γ σ T vs H) (l : Le Γ Δ) : Env Fh Δ σ T vs H := by
  obtain ⟨w, c, k⟩ := E
  exact ⟨w, ⟨c.same, c.own, l.len ▸ c.len, fun i s e => c.at_ i s (l.at_ e)⟩, l.len ▸ k⟩
end
end Sx

/-! Sx1: judgements about readings, over states by slots. -/
namespace Sx
open PySem
open PySem.Spec
open PyProof.Rows
open L2
abbrev Rs (K : PySem.W.Frag) := L2.St → Sl K
section
variable {K : PySem.W.Frag}
/-- r's value reads as d in every state with these slots -/
def Sees (Fh : Hp) (Γ : Ctx K) (r : Rs K) (P : V → Hp → Prop) : Prop := ∀ σ w H S v, Core Fh Γ σ w H → (r σ).p H S v → P v H
abbrev Seen (Fh : Hp) (Γ : Ctx K) (r : Rs K) (d : PyData) : Prop := Sees Fh Γ r fun v H => Dq K H v d
def Ev (Fh : Hp) (t : TE) (Γ Γ' : Ctx K) (r : Rs K) : Prop :=
  ∀ (σ : L2.St) (T : List (Sl K)) (vs : List V) (H : Hp) (Q : VK), Env Fh Γ σ T vs H → (∀ v H', Env Fh Γ' σ (r σ :: T) (v :: vs) H' → Q v H') → t σ H Q
def EvT (Fh : Hp) (t : TT) (Γ Γ' : Ctx K) (b : Bool) : Prop :=
  ∀ (σ : L2.St) (T : List (Sl K)) (vs : List V) (H : Hp) (Q : Bool → Hp → Prop), Env Fh Γ σ T vs H → (∀ H', Env Fh Γ' σ T vs H' → Q b H') → t σ H Q
/-- arguments: their assertions, the last one first -/
def EvA (Fh : Hp) (t : TA) (Γ Γ' : Ctx K) (rs : L2.St → List (Sl K)) : Prop :=
  ∀ (σ : L2.St) (T : List (Sl K)) (vs : List V) (H : Hp) (Q : List V → Hp → Prop), Env Fh Γ σ T vs H →
    (∀ ws H', ws.length = (rs σ).length → Env Fh Γ' σ (rs σ ++ T) (ws.reverse ++ vs) H' → Q ws H') → t σ H Q
/-- what is wanted of a value that s tells, over a heap with perhaps new objects -/
def Out (H : Hp) (Q : VK) (s : Sl K) : Prop := ∀ v H' S, Same H H' → Fresh H H' S → s.p H' S v → Q v H'
section
variable {H : Hp} {Q : VK} {s : Sl K} {α : Type} [En α]
theorem Out.now (h : Out H Q s) {v : V} (hs : s.p H (fun _ => False) v) : Q v H := h v H _ (Same.refl H) Fresh.none hs
theorem same_new {p : Addr} {o : HO} (n : H p = none) : Same H (upd H p o) := fun b x e => by rw [upd_ne (ne_of_none e n)]; exact e
theorem Out.tup {x : List α} (h : Out (K := K) H Q (da x)) {ws : List V} (hd : DqAll K H ws (x.map toD)) {p : Addr} (n : H p = none) : Q (.ref p) (upd H p (.tup ws)) :=
  h _ _ _ (same_new n) Fresh.none (Dq.tup upd_same (dpAll_same (same_new n) _ _ hd))
theorem fresh_at {p : Addr} {o : HO} (n : H p = none) (m : NT o) : Fresh H (upd H p o) (fun a => a = p) := fun a e => by subst e; exact ⟨n, o, upd_same, m⟩
theorem Out.lst {x : List α} (h : Out (K := K) H Q (ol x)) {ws : List V} (hd : DqAll K H ws (x.map toD)) {p : Addr} (n : H p = none) : Q (.ref p) (upd H p (.lst ws)) :=
  h _ _ _ (same_new n) (fresh_at n nofun) ⟨p, rfl, rfl, ws, upd_same, dpAll_same (same_new n) _ _ hd⟩
end

section
variable {Fh H : Hp} {Γ Γ1 Γ2 Γ' : Ctx K} {σ : L2.St} {T : List (Sl K)} {vs : List V} {v x y : V} {r ra rb : Rs K} {d da_ db : PyData} {s t : Sl K} {α β : Type} [En α] [En β]
theorem Env.sees {P : V → Hp → Prop} (E : Env Fh Γ σ (r σ :: T) (v :: vs) H) (h : Sees Fh Γ r P) : P v H := let ⟨w, c, k⟩ := E; h σ w H _ v c k.1
theorem Env.seen (E : Env Fh Γ σ (r σ :: T) (v :: vs) H) (h : Seen Fh Γ r d) : Dq K H v d := E.sees h
theorem Env.seen2 (E : Env Fh Γ σ (t :: r σ :: T) (y :: v :: vs) H) (h : Seen Fh Γ r d) : Dq K H v d := Env.seen E.pop h
theorem Env.p0 (E : Env Fh Γ σ (s :: T) (v :: vs) H) : ∃ S, s.p H S v := let ⟨_, _, k⟩ := E; ⟨_, k.1⟩
/-- on from a state by what is reckoned of it -/
theorem Env.out {Q : VK} (E : Env Fh Γ σ T vs H) (h : ∀ v H', Env Fh Γ σ (s :: T) (v :: vs) H' → Q v H') : Out H Q s := fun v H' S e f hp => h v H' (E.push e f hp)

theorem seen_da {x : α} : Seen (K := K) Fh Γ (fun _ => da x) (toD x) := fun _ _ _ _ _ _ h => h
theorem seen_ol {xs : List α} : Seen (K := K) Fh Γ (fun _ => ol xs) (lsD xs) := fun _ _ _ _ _ _ h => by
  obtain ⟨a, rfl, _, ws, h1, h2⟩ := h
  exact .lst (SqL.of h1) h2
theorem seen_olA {a : Addr} {xs : List α} : Seen (K := K) Fh Γ (fun _ => olA a xs) (lsD xs) := fun _ _ _ _ _ _ h => by
  obtain ⟨rfl, _, ws, h1, h2⟩ := h
  exact .lst (SqL.of h1) h2
theorem seen_bo : Seen (K := K) Fh Γ (fun _ => bo Fh d) d := fun _ _ _ _ _ c h => dp_same c.same _ _ h
theorem seen_al {i : Nat} (hi : Γ[i]? = some (some s)) (h : Seen Fh Γ (fun _ => s) d) : Seen Fh Γ (fun σ => al σ[i]?) d := fun σ w H S v c q => by
  obtain ⟨v', h1, h2⟩ := c.at_ i s hi
  have e : v' = v := Option.some.inj (Option.some.inj (h1.symm.trans q))
  subst e
  exact h σ w H _ v' c h2

/-! ### names, constants -/
/-- assertions that own nothing -/
def Dup (s : Sl K) : Prop := ∀ H S v, s.p H S v → s.p H (fun _ => False) v
theorem dup_da {x : α} : Dup (K := K) (da x) := fun _ _ _ h => h
theorem dup_bo : Dup (K := K) (bo Fh d) := fun _ _ _ h => h
theorem ev_var {i : Nat} (hi : Γ[i]? = some (some s)) (hd : Dup s) : Ev Fh (tVar i) Γ Γ (fun _ => s) := fun σ T vs H Q E h => by
  obtain ⟨v, S, e, hs⟩ := E.get hi
  exact ⟨v, e, h v H (E.push0 (hd _ _ _ hs))⟩
theorem ev_da {i : Nat} {x : α} (hi : Γ[i]? = some (some (da x))) : Ev Fh (tVar i) Γ Γ (fun _ => da x) := ev_var hi dup_da
theorem ev_bo {i : Nat} (hi : Γ[i]? = some (some (bo Fh d))) : Ev Fh (tVar i) Γ Γ (fun _ => bo Fh d) := ev_var hi dup_bo
theorem ev_al {i : Nat} (hi : Γ[i]? = some (some s)) : Ev Fh (tVar i) Γ Γ (fun σ => al σ[i]?) := fun σ T vs H Q E h => by
  obtain ⟨v, S, e, hs⟩ := E.get hi
  exact ⟨v, e, h v H (E.push0 e)⟩
theorem ev_int {i : Int} : Ev Fh (tC (.int i)) Γ Γ (fun _ => da i) := fun σ T vs H Q E h => h _ _ (E.push0 (Dq.int i))
theorem ev_bl {b : Bool} : Ev Fh (tC (.bl b)) Γ Γ (fun _ => da b) := fun σ T vs H Q E h => h _ _ (E.push0 (Dq.bl b))
theorem ev_non : Ev Fh (tC .non) Γ Γ (fun _ => da ()) := fun σ T vs H Q E h => h _ _ (E.push0 Dq.non)

/-! ### by what operands read as -/
theorem ev_u {ta : TE} {R : V → Hp → VK → Prop} (ha : Ev Fh ta Γ Γ1 ra) (sa : Seen Fh Γ1 ra d) (hR : ∀ x H Q, Dq K H x d → Out H Q s → R x H Q) :
    Ev Fh (fun σ H Q => ta σ H fun x H1 => R x H1 Q) Γ Γ1 (fun _ => s) := fun σ T vs H Q E h =>
  ha σ T vs H _ E fun x H1 E1 => hR x H1 Q (E1.seen sa) (E1.pop.out h)
theorem ev_b {ta tb : TE} {R : V → V → Hp → VK → Prop} (ha : Ev Fh ta Γ Γ1 ra) (hb : Ev Fh tb Γ1 Γ2 rb) (sa : Seen Fh Γ2 ra da_) (sb : Seen Fh Γ2 rb db) (hR : ∀ x y H Q, Dq K H x da_ → Dq K H y db → Out H Q s → R x y H Q) :
    Ev Fh (fun σ H Q => ta σ H fun x H1 => tb σ H1 fun y H2 => R x y H2 Q) Γ Γ2 (fun _ => s) := fun σ T vs H Q E h =>
  ha σ T vs H _ E fun x H1 E1 => hb σ _ _ H1 _ E1 fun y H2 E2 => hR x y H2 Q (E2.seen2 sa) (E2.seen sb) (E2.pop.pop.out h)
theorem ev_op {ta tb : TE} {R : R2} (ha : Ev Fh ta Γ Γ1 ra) (hb : Ev Fh tb Γ1 Γ2 rb) (sa : Seen Fh Γ2 ra da_) (sb : Seen Fh Γ2 rb db) (hR : ∀ x y H Q, Dq K H x da_ → Dq K H y db → Out H Q s → R x y H Q) :
    Ev Fh (tOp R ta tb) Γ Γ2 (fun _ => s) := ev_b (R := R) ha hb sa sb hR
/-- two ints -/
theorem ev_rI {ta tb : TE} {C : Int → Int → Prop} {g : Int → Int → V} {i j : Int} {z : α} (ha : Ev Fh ta Γ Γ1 (fun _ => da i)) (hb : Ev Fh tb Γ1 Γ2 (fun _ => da j)) (hz : ∀ H, Dq K H (g i j) (toD z)) (hc : C i j) : Ev Fh (tOp (rI C g) ta tb) Γ Γ2 (fun _ => da z) :=
  ev_op ha hb seen_da seen_da fun x y H Q hx hy o => by
    cases hx
    cases hy
    exact ⟨i, j, rfl, rfl, hc, o.now (hz H)⟩
theorem eva_nil : EvA Fh tNil Γ Γ (fun _ => []) := fun σ T vs H Q E h => h [] H rfl E
theorem eva_cons {ta : TE} {tr : TA} {rs : L2.St → List (Sl K)} (ha : Ev Fh ta Γ Γ1 ra) (hr : EvA Fh tr Γ1 Γ2 rs) : EvA Fh (tCons ta tr) Γ Γ2 (fun σ => rs σ ++ [ra σ]) := fun σ T vs H Q E h =>
  ha σ T vs H _ E fun x H1 E1 => hr σ _ _ H1 _ E1 fun ws H2 hl E2 => h (x :: ws) H2 (by simp [hl]) (by simpa using E2)
/-- a built-in of one argument -/
theorem ev_c1 {ta : TE} {R : List V → Hp → VK → Prop} (ha : Ev Fh ta Γ Γ1 ra) (sa : Seen Fh Γ1 ra d) (hR : ∀ x H Q, Dq K H x d → Out H Q s → R [x] H Q) : Ev Fh (tCB R (tCons ta tNil)) Γ Γ1 (fun _ => s) :=
  ev_u (R := fun x => R [x]) ha sa hR
theorem ev_c2 {ta tb : TE} {R : List V → Hp → VK → Prop} (ha : Ev Fh ta Γ Γ1 ra) (hb : Ev Fh tb Γ1 Γ2 rb) (sa : Seen Fh Γ2 ra da_) (sb : Seen Fh Γ2 rb db) (hR : ∀ x y H Q, Dq K H x da_ → Dq K H y db → Out H Q s → R [x, y] H Q) :
    Ev Fh (tCB R (tCons ta (tCons tb tNil))) Γ Γ2 (fun _ => s) := ev_b (R := fun x y => R [x, y]) ha hb sa sb hR
/-- all arguments read -/
def SeenA (Fh : Hp) (Γ : Ctx K) (rs : L2.St → List (Sl K)) (ds : List PyData) : Prop :=
  ∀ σ T ws vs H, ws.length = (rs σ).length → Env Fh Γ σ (rs σ ++ T) (ws.reverse ++ vs) H → DqAll K H ws ds
theorem seenA_nil : SeenA Fh Γ (fun _ => []) [] := fun σ T ws vs H hl _ => by
  cases ws with
  | nil => exact .nil
  | cons _ _ => cases hl
theorem Env.drop {T2 : List (Sl K)} : ∀ {T1 : List (Sl K)} {us vs : List V}, us.length = T1.length → Env Fh Γ σ (T1 ++ T2) (us ++ vs) H → Env Fh Γ σ T2 vs H
  | [], [], _, _, E => E
  | _ :: T1, u :: us, vs, hl, E => Env.drop (T1 := T1) (us := us) (by simpa using hl) E.pop
  | [], _ :: _, _, hl, _ => by cases hl
  | _ :: _, [], _, hl, _ => by cases hl
theorem seenA_cons {rs : L2.St → List (Sl K)} {ds : List PyData} (sa : Seen Fh Γ ra d) (h : SeenA Fh Γ rs ds) : SeenA Fh Γ (fun σ => rs σ ++ [ra σ]) (d :: ds) := fun σ T ws vs H hl E => by
  cases ws with
  | nil => simp at hl
  | cons x ws =>
    have hl' : ws.length = (rs σ).length := by simpa using hl
    have E' : Env Fh Γ σ (rs σ ++ (ra σ :: T)) (ws.reverse ++ (x :: vs)) H := by simpa using E
    exact .cons ((E'.drop (by simpa using hl')).seen sa) (h σ _ ws _ H hl' E')
/-- a tuple, a list that is written out -/
theorem ev_tup {t : TA} {rs : L2.St → List (Sl K)} {xs : List α} (ha : EvA Fh t Γ Γ1 rs) (hs : SeenA Fh Γ1 rs (xs.map toD)) (hl : xs.length ≤ sizeLine) : Ev Fh (tTup t) Γ Γ1 (fun _ => da xs) := fun σ T vs H Q E h =>
  ha σ T vs H _ E fun ws H1 el E1 => by
    have hd := hs σ T ws vs H1 el E1
    refine ⟨by rw [hd.len, List.length_map]; exact hl, fun p n => ?_⟩
    exact Out.tup ((E1.drop (by simpa using el)).out h) hd n
theorem ev_lst {t : TA} {rs : L2.St → List (Sl K)} {xs : List α} (ha : EvA Fh t Γ Γ1 rs) (hs : SeenA Fh Γ1 rs (xs.map toD)) (hl : xs.length ≤ sizeLine) : Ev Fh (tLst t) Γ Γ1 (fun _ => ol xs) := fun σ T vs H Q E h =>
  ha σ T vs H _ E fun ws H1 el E1 => by
    have hd := hs σ T ws vs H1 el E1
    refine ⟨by rw [hd.len, List.length_map]; exact hl, fun p n => ?_⟩
    exact Out.lst ((E1.drop (by simpa using el)).out h) hd n

/-! ### tests -/
theorem evt_b {te : TE} {b : Bool} (h : Ev Fh te Γ Γ' (fun _ => da b)) : EvT Fh (tB te) Γ Γ' b := fun σ T vs H Q E k => h σ T vs H _ E fun v H' E' => by
  have q : Dq K H' v (toD b) := E'.seen (r := fun _ => da b) seen_da
  cases q
  exact ⟨b, rfl, k H' E'.pop⟩
theorem evt_t {te : TE} {b : Bool} (h : Ev Fh te Γ Γ' (fun _ => da b)) : EvT Fh (tTest te) Γ Γ' b := evt_b h
theorem evt_not {t : TT} {b : Bool} (h : EvT Fh t Γ Γ' b) : EvT Fh (tNot t) Γ Γ' (!b) := fun σ T vs H Q E k => h σ T vs H _ E fun H' E' => k H' E'
theorem evt_and {t u : TT} {b c : Bool} (h : EvT Fh t Γ Γ1 b) (h2 : b = true → EvT Fh u Γ1 Γ2 c) : EvT Fh (tAnd t u) Γ (if b = true then Γ2 else Γ1) (b && c) := fun σ T vs H Q E k => h σ T vs H _ E fun H1 E1 => by
  cases b with
  | true => exact h2 rfl σ T vs H1 _ E1 fun H2 E2 => k H2 E2
  | false => exact k H1 E1
theorem evt_or {t u : TT} {b c : Bool} (h : EvT Fh t Γ Γ1 b) (h2 : b = false → EvT Fh u Γ1 Γ2 c) : EvT Fh (tOr t u) Γ (if b = true then Γ1 else Γ2) (b || c) := fun σ T vs H Q E k => h σ T vs H _ E fun H1 E1 => by
  cases b with
  | true => exact k H1 E1
  | false => exact h2 rfl σ T vs H1 _ E1 fun H2 E2 => k H2 E2
/-- .. where tests change nothing -/
theorem evt_and' {t u : TT} {b c : Bool} (h : EvT Fh t Γ Γ b) (h2 : b = true → EvT Fh u Γ Γ c) : EvT Fh (tAnd t u) Γ Γ (b && c) := by
  have q := evt_and h h2
  rwa [ite_self] at q
theorem evt_or' {t u : TT} {b c : Bool} (h : EvT Fh t Γ Γ b) (h2 : b = false → EvT Fh u Γ Γ c) : EvT Fh (tOr t u) Γ Γ (b || c) := by
  have q := evt_or h h2
  rwa [ite_self] at q
theorem evt_yes : EvT Fh tYes Γ Γ true := fun σ T vs H Q E k => k H E
theorem ev_if {t : TT} {ta tb : TE} {b : Bool} {x y : α} (h : EvT Fh t Γ Γ1 b) (ha : b = true → Ev Fh ta Γ1 Γ2 (fun _ => da x)) (hb : b = false → Ev Fh tb Γ1 Γ2 (fun _ => da y)) : Ev Fh (tIf t ta tb) Γ Γ2 (fun _ => da (if b = true then x else y)) :=
  fun σ T vs H Q E k => h σ T vs H _ E fun H1 E1 => by
    cases b with
    | true => exact ha rfl σ T vs H1 _ E1 k
    | false => exact hb rfl σ T vs H1 _ E1 k

/-! ### statements -/
variable {D : Ends}
theorem do_set {te : TE} {i : Nat} (E : Env Fh Γ σ T vs H) (he : Ev Fh te Γ Γ' (fun _ => s)) (hi : i < Γ'.length) (h : ∀ σ' H', Env Fh (Γ'.set i (some s)) σ' T vs H' → D.nx σ' H') : tAsg te (gName i) D σ H :=
  he σ T vs H _ E fun v H1 E1 => h _ _ (E1.store hi)
theorem do_expr {te : TE} (E : Env Fh Γ σ T vs H) (he : Ev Fh te Γ Γ' r) (h : ∀ H', Env Fh Γ' σ T vs H' → D.nx σ H') : tDrop te D σ H := he σ T vs H _ E fun v H1 E1 => h _ E1.pop
theorem do_if {c : TT} {t u : TS} {b : Bool} (E : Env Fh Γ σ T vs H) (hc : EvT Fh c Γ Γ' b) (h1 : b = true → ∀ H', Env Fh Γ' σ T vs H' → t D σ H') (h2 : b = false → ∀ H', Env Fh Γ' σ T vs H' → u D σ H') : tIfS c t u D σ H :=
  hc σ T vs H _ E fun H' E' => by
    cases b with
    | true => exact h1 rfl H' E'
    | false => exact h2 rfl H' E'
theorem do_ret {te : TE} (E : Env Fh Γ σ T vs H) (he : Ev Fh te Γ Γ' r) (h : ∀ v H', Env Fh Γ' σ (r σ :: T) (v :: vs) H' → D.rt v H') : tRet te D σ H := he σ T vs H _ E h
/-- what was reckoned is handed out -/
theorem Env.fin {Q : VK} (E : Env Fh Γ σ (s :: T) (v :: vs) H) (o : Out Fh Q s) : Q v H := by
  obtain ⟨w, c, k⟩ := E
  exact o v H _ c.same (fun a e => c.own a (by rw [e]; simp)) k.1
/-- .. a slot's own object -/
theorem Env.finAl {Q : VK} {i : Nat} (hi : Γ[i]? = some (some s)) (o : Out Fh Q s) (E : Env Fh Γ σ (al σ[i]? :: T) (v :: vs) H) : Q v H := by
  obtain ⟨w, c, k⟩ := E
  obtain ⟨v', h1, h2⟩ := c.at_ i s hi
  have e : v' = v := Option.some.inj (Option.some.inj (h1.symm.trans k.1))
  subst e
  exact o v' H _ c.same (fun a e => c.own a (by rw [e]; simp)) h2

/-! ### defs -/
/-- the promise of a def that changes nothing -/
def spP {A : Type} (K : PySem.W.Frag) (pre : A → Prop) (ins : A → List PyData) (res : A → Sl K) : Sp := fun vs H Q _ => ∃ x, pre x ∧ DqAll K H vs (ins x) ∧ Out H Q (res x)
theorem ev_call {A : Type} {pre : A → Prop} {ins : A → List PyData} {res : A → Sl K} {E0 : XK} {t : TA} {rs : L2.St → List (Sl K)} (x : A) (ha : EvA Fh t Γ Γ1 rs) (hs : SeenA Fh Γ1 rs (ins x)) (hp : pre x) :
    Ev Fh (tCall (spP K pre ins res) [] E0 t) Γ Γ1 (fun _ => res x) := fun σ T vs H Q E h => ha σ T vs H _ E fun ws H1 el E1 => by
  refine ⟨x, hp, ?_, (E1.drop (by simpa using el)).out h⟩
  rw [List.append_nil]
  exact hs σ T ws vs H1 el E1
/-- parameters as slots -/
def Arg (Fh : Hp) (d : PyData) (s : Sl K) : Prop := ∀ v, Dq K Fh v d → s.p Fh (fun _ => False) v
theorem arg_da {x : α} : Arg (K := K) Fh (toD x) (da x) := fun _ h => h
theorem arg_bo : Arg (K := K) Fh d (bo Fh d) := fun _ h => h
inductive Args (Fh : Hp) : List PyData → List (Sl K) → Prop
  | nil : Args Fh [] []
  | cons {d : PyData} {s : Sl K} {ds : List PyData} {ss : List (Sl K)} : Arg Fh d s → Args Fh ds ss → Args Fh (d :: ds) (s :: ss)
theorem Args.at_ {ws : List V} : ∀ {ds : List PyData} {ss : List (Sl K)} {ws : List V}, Args Fh ds ss → DqAll K Fh ws ds → ∀ {i : Nat} {s : Sl K}, ss[i]? = some s → ∃ v, ws[i]? = some v ∧ s.p Fh (fun _ => False) v
  | _, _, _, .nil, _, i, s, h => by simp at h
  | _, _, _, .cons a t, h, i, s, e => by
    cases h with
    | cons h1 h2 =>
      cases i with
      | zero =>
        have e' := Option.some.inj (show some _ = some s from e)
        subst e'
        exact ⟨_, rfl, a _ h1⟩
      | succ i => exact Args.at_ (ws := []) t h2 (i := i) (by simpa using e)
theorem Args.len : ∀ {ds : List PyData} {ss : List (Sl K)}, Args Fh ds ss → ss.length = ds.length
  | _, _, .nil => rfl
  | _, _, .cons _ t => by rw [List.length_cons, List.length_cons, t.len]
theorem enter {ds : List PyData} {ss : List (Sl K)} {ws : List V} {N : List Str} (a : Args Fh ds ss) (h : DqAll K Fh ws ds) : Env Fh (ss.map some ++ List.replicate (N.length - ws.length) none) (L2.start N ws) [] [] Fh := by
  have hl : ss.length = ws.length := a.len.trans h.len.symm
  refine ⟨fun _ => none, ⟨Same.refl _, fun a z => absurd rfl z, by simp [L2.start, hl], fun i s e => ?_⟩, trivial⟩
  by_cases hi : i < ss.length
  · rw [List.getElem?_append_left (by simpa using hi), List.getElem?_map] at e
    cases q : ss[i]? with
    | none => rw [q] at e; cases e
    | some s' =>
      rw [q] at e
      have e' : s' = s := by simpa using e
      subst e'
      obtain ⟨v, h1, h2⟩ := a.at_ (ws := []) h q
      refine ⟨v, ?_, s'.mono h2 (fun _ z => z.elim) (fun _ _ => rfl) fun _ _ z => z⟩
      unfold L2.start
      rw [List.getElem?_append_left (by simp; omega), List.getElem?_map, h1]; rfl
  · rw [List.getElem?_append_right (by simpa using hi), List.getElem?_replicate] at e
    split at e <;> cases e
end
end
end Sx

/-! Sx2: going through things: for, while, comprehensions. -/
namespace Sx
open PySem
open PySem.Spec
open PyProof.Rows
open L2
section
variable {K : PySem.W.Frag} {Fh H : Hp} {Γ Γ1 Γ2 Γ' : Ctx K} {σ : L2.St} {T : List (Sl K)} {vs : List V} {v x y : V} {r ra rb : Rs K} {d : PyData} {s t : Sl K} {α β δ : Type} [En α] [En β] [En δ]

/-- J hands out xs, as long as P holds of the heap -/
structure Walk (K : PySem.W.Frag) (J : It) (P : Hp → Prop) (xs : List δ) : Prop where
  go : ∀ H i, P H → i < xs.length → J.go i H
  yld : ∀ H i x H', P H → J.yld i H x H' → ∀ y, xs[i]? = some y → Same H H' ∧ Dq K H' x (toD y)
  stop : ∀ H, P H → J.stop xs.length H
/-- xs are gone through: while the slots are as ok says, and (unless any) the places hold the values of now -/
def EvW (any : Bool) (Fh : Hp) (wi : TI) (Γ Γ' : Ctx K) (ok : Ctx K → Prop) (xs : List δ) : Prop :=
  ∀ (σ : L2.St) (T : List (Sl K)) (vs : List V) (H : Hp) (R : It → Hp → Prop), Env Fh Γ σ T vs H →
    (∀ J v H' (s : Sl K) (P : Hp → Prop), Env Fh Γ' σ (s :: T) (v :: vs) H' → (∀ Γ2 σ2 w H S, ok Γ2 → (any = false → σ2 = σ) → Core Fh Γ2 σ2 w H → s.p H S v → P H) → Walk K J P xs → R J H') → wi σ H R
theorem walk_list {a : Addr} {xs : List δ} : Walk K (Itl K a) (fun H => Dq K H (.ref a) (lsD xs)) xs where
  go := fun H i h hi => by
    cases h with
    | lst hs hd =>
      rename_i ws
      have hl : ws.length = xs.length := by rw [hd.len, List.length_map]
      exact ⟨ws, ws[i]'(by omega), hs, List.getElem?_eq_getElem _⟩
  yld := fun H i x H' h y z e => by
    obtain ⟨rfl, y⟩ := y
    cases h with
    | lst hs hd =>
      obtain ⟨v, h1, h2⟩ := hd.get (i := i) (d := toD z) (by rw [List.getElem?_map, e]; rfl)
      have q := y _ hs
      rw [h1] at q
      cases q
      exact ⟨Same.refl _, h2⟩
  stop := fun H h => by
    cases h with
    | lst hs hd => exact ⟨_, hs, by rw [hd.len, List.length_map]; exact Nat.le_refl _⟩
theorem walk_tup {a : Addr} {xs : List δ} : Walk K (Itt K a) (fun H => Dq K H (.ref a) (toD xs)) xs where
  go := fun H i h hi => by
    cases h with
    | tup hs hd =>
      rename_i ws
      have hl : ws.length = xs.length := by rw [hd.len, List.length_map]
      exact ⟨ws, ws[i]'(by omega), SqT.of hs, List.getElem?_eq_getElem _⟩
  yld := fun H i x H' h y z e => by
    obtain ⟨rfl, y⟩ := y
    cases h with
    | tup hs hd =>
      obtain ⟨v, h1, h2⟩ := hd.get (i := i) (d := toD z) (by rw [List.getElem?_map, e]; rfl)
      have q := y _ (SqT.of hs)
      rw [h1] at q
      cases q
      exact ⟨Same.refl _, h2⟩
  stop := fun H h => by
    cases h with
    | tup hs hd => exact ⟨_, SqT.of hs, by rw [hd.len, List.length_map]; exact Nat.le_refl _⟩
/-- lo, lo + 1, .., n of them -/
def rng (lo : Int) : Nat → List Int
  | 0 => []
  | n + 1 => lo :: rng (lo + 1) n
theorem rng_len : ∀ (n : Nat) (lo : Int), (rng lo n).length = n
  | 0, _ => rfl
  | n + 1, lo => by rw [rng, List.length_cons, rng_len n]
theorem rng_at : ∀ (n : Nat) (lo : Int) (i : Nat), i < n → (rng lo n)[i]? = some (lo + i)
  | 0, _, _, h => absurd h (Nat.not_lt_zero _)
  | n + 1, lo, 0, _ => by rw [rng]; simp
  | n + 1, lo, i + 1, h => by
    rw [rng, List.getElem?_cons_succ, rng_at n (lo + 1) i (by omega)]
    congr 1
    omega
theorem walk_rng {lo : Int} {n : Nat} {P : Hp → Prop} : Walk K (Itr lo n) P (rng lo n) where
  go := fun H i _ hi => by rw [rng_len] at hi; exact hi
  yld := fun H i x H' _ y z e => by
    obtain ⟨rfl, rfl⟩ := y
    have hi : i < n := by
      have q := (List.getElem?_eq_some_iff.mp e).1
      rw [rng_len] at q; exact q
    rw [rng_at n lo i hi] at e
    cases e
    exact ⟨Same.refl _, Dq.int _⟩
  stop := fun H _ => by rw [rng_len]; exact Nat.le_refl _
theorem ew_list {any : Bool} {ok : Ctx K → Prop} {tl : TE} {xs : List δ} (h : Ev Fh tl Γ Γ' r) (hs : ∀ Γ2, ok Γ2 → Seen Fh Γ2 r (lsD xs)) (h1 : ok Γ') (hc : any = true → ∃ s, r = fun _ => s) : EvW any Fh (iList K tl) Γ Γ' ok xs := fun σ T vs H R E k =>
  h σ T vs H _ E fun v H' E' => by
    have q := E'.seen (hs _ h1)
    have q0 := q
    cases q with
    | lst hs' hd =>
      refine ⟨_, rfl, ⟨_, hs'⟩, k _ _ H' _ _ E' (fun Γ2 σ2 w H S o e c p => ?_) walk_list⟩
      cases any with
      | false => cases e rfl; exact hs Γ2 o σ w H S _ c p
      | true => obtain ⟨s, rfl⟩ := hc rfl; exact hs Γ2 o σ2 w H S _ c p
theorem ew_tup {any : Bool} {ok : Ctx K → Prop} {tl : TE} {xs : List δ} (h : Ev Fh tl Γ Γ' r) (hs : ∀ Γ2, ok Γ2 → Seen Fh Γ2 r (toD xs)) (h1 : ok Γ') (hc : any = true → ∃ s, r = fun _ => s) : EvW any Fh (iTup K tl) Γ Γ' ok xs := fun σ T vs H R E k =>
  h σ T vs H _ E fun v H' E' => by
    have q := E'.seen (hs _ h1)
    have q0 := q
    cases q with
    | tup hs' hd =>
      refine ⟨_, rfl, ⟨_, SqT.of hs'⟩, k _ _ H' _ _ E' (fun Γ2 σ2 w H S o e c p => ?_) walk_tup⟩
      cases any with
      | false => cases e rfl; exact hs Γ2 o σ w H S _ c p
      | true => obtain ⟨s, rfl⟩ := hc rfl; exact hs Γ2 o σ2 w H S _ c p
/-- the most frequent ones -/
abbrev okAll : Ctx K → Prop := fun _ => True
theorem ew_tupD {any : Bool} {tl : TE} {xs : List δ} (h : Ev Fh tl Γ Γ' (fun _ => da xs)) : EvW any Fh (iTup K tl) Γ Γ' okAll xs := ew_tup h (fun _ _ => seen_da) trivial fun _ => ⟨_, rfl⟩
theorem ew_listO {any : Bool} {tl : TE} {xs : List δ} (h : Ev Fh tl Γ Γ' (fun _ => ol xs)) : EvW any Fh (iList K tl) Γ Γ' okAll xs := ew_list h (fun _ _ => seen_ol) trivial fun _ => ⟨_, rfl⟩
theorem ew_listB {any : Bool} {tl : TE} {xs : List δ} (h : Ev Fh tl Γ Γ' (fun _ => bo Fh (lsD xs))) : EvW any Fh (iList K tl) Γ Γ' okAll xs := ew_list h (fun _ _ => seen_bo) trivial fun _ => ⟨_, rfl⟩
/-- a slot's list, in a comprehension -/
theorem ew_slot {i : Nat} {xs : List δ} (hi : Γ[i]? = some (some (ol xs))) : EvW false Fh (iList K (tVar i)) Γ Γ (fun Γ2 => Γ2[i]? = some (some (ol xs))) xs := ew_list (ev_al hi) (fun _ h => seen_al h seen_ol) hi nofun
/-- the value a -/
def rf (a : Addr) : Sl K := ⟨fun _ _ v => v = .ref a, fun h _ _ _ => h⟩
theorem seen_rf {a : Addr} {i : Nat} {xs : List δ} (hi : Γ[i]? = some (some (olA a xs))) : Seen Fh Γ (fun _ => rf a) (lsD xs) := fun σ w H S v c e => by
  obtain ⟨v', h1, rfl, _, ws, h2, h3⟩ := c.at_ i _ hi
  have e' : v = .ref a := e
  subst e'
  exact .lst (SqL.of h2) h3
/-- .. in a for -/
theorem ew_slotA {a : Addr} {i : Nat} {xs : List δ} (hi : Γ[i]? = some (some (olA a xs))) : EvW true Fh (iList K (tVar i)) Γ Γ (fun Γ2 => Γ2[i]? = some (some (olA a xs))) xs := by
  refine ew_list (r := fun _ => rf a) (fun σ T vs H Q E k => ?_) (fun _ h => seen_rf h) hi fun _ => ⟨_, rfl⟩
  obtain ⟨v, S, h1, rfl, _⟩ := E.get hi
  exact ⟨_, h1, k _ H (E.push0 rfl)⟩
/-- a slot's list is called by its address -/
theorem Env.name {i : Nat} {xs : List δ} (E : Env Fh Γ σ T vs H) (hi : Γ[i]? = some (some (ol xs))) : ∃ a, Env Fh (Γ.set i (some (olA a xs))) σ T vs H := by
  obtain ⟨v, S, h1, ⟨a, h2⟩, own, ch⟩ := E.change hi
  exact ⟨a, ch _ H (fun _ => False) (fun _ _ _ q => q) (fun c hc => (own c hc).2) Fresh.none ((olA a xs).mono h2 (fun _ z => .inl z) (fun _ _ => rfl) fun _ _ z => z)⟩
theorem Env.unname {i : Nat} {a : Addr} {xs : List δ} (E : Env Fh Γ σ T vs H) (hi : Γ[i]? = some (some (olA a xs))) : Env Fh (Γ.set i (some (ol xs))) σ T vs H := by
  obtain ⟨v, S, h1, h2, own, ch⟩ := E.change hi
  exact ch _ H (fun _ => False) (fun _ _ _ q => q) (fun c hc => (own c hc).2) Fresh.none ⟨a, (olA a xs).mono h2 (fun _ z => .inl z) (fun _ _ => rfl) fun _ _ z => z⟩
theorem ew_rng1 {any : Bool} {te : TE} {n : Int} (h : Ev Fh te Γ Γ' (fun _ => da n)) (h1 : -(2 ^ 62) ≤ n) (h2 : n < 2 ^ 62) : EvW any Fh (iRng1 (tCons te tNil)) Γ Γ' okAll (rng 0 n.toNat) := fun σ T vs H R E k =>
  h σ T vs H _ E fun v H' E' => by
    have q : Dq K H' v (toD n) := E'.seen (r := fun _ => da n) seen_da
    cases q
    exact ⟨n, rfl, h1, h2, k _ .non H' (da ()) (fun _ => True) (E'.pop.push0 Dq.non) (fun _ _ _ _ _ _ _ _ _ => trivial) walk_rng⟩
theorem ew_rng2 {any : Bool} {ta tb : TE} {m n : Int} (ha : Ev Fh ta Γ Γ1 (fun _ => da m)) (hb : Ev Fh tb Γ1 Γ' (fun _ => da n)) (h1 : -(2 ^ 62) ≤ m) (h2 : m < 2 ^ 62) (h3 : -(2 ^ 62) ≤ n) (h4 : n < 2 ^ 62) : EvW any Fh (iRng2 (tCons ta (tCons tb tNil))) Γ Γ' okAll (rng m (n - m).toNat) := fun σ T vs H R E k =>
  ha σ T vs H _ E fun v H1 E1 => hb σ _ _ H1 _ E1 fun u H2 E2 => by
    have q : Dq K H2 u (toD n) := E2.seen (r := fun _ => da n) seen_da
    have q2 : Dq K H2 v (toD m) := E2.seen2 (r := fun _ => da m) seen_da
    cases q
    cases q2
    exact ⟨m, n, rfl, ⟨h1, h2, h3, h4⟩, k _ .non H2 (da ()) (fun _ => True) (E2.pop.pop.push0 Dq.non) (fun _ _ _ _ _ _ _ _ _ => trivial) walk_rng⟩

/-! ### targets -/
/-- slots at other places than ls are as they were -/
structure Agr (ls : List Nat) (σ σ' : L2.St) : Prop where
  len : σ'.length = σ.length
  at_ : ∀ j, j ∉ ls → σ'[j]? = σ[j]?
theorem wipe_at : ∀ (ls : List Nat) (σ : L2.St) (j : Nat), (wipe σ ls)[j]? = if j ∈ ls then (if j < σ.length then some none else none) else σ[j]?
  | [], σ, j => by simp [wipe]
  | l :: ls, σ, j => by
    unfold wipe
    by_cases h : l = j
    · subst h
      by_cases hl : l < σ.length
      · rw [List.getElem?_set_self (by rw [wipe_length]; exact hl), if_pos (by simp), if_pos hl]
      · rw [if_pos (by simp), if_neg hl, List.getElem?_eq_none_iff.mpr (by rw [List.length_set, wipe_length]; omega)]
    · rw [List.getElem?_set_ne h, wipe_at ls σ j]
      have e : (j ∈ l :: ls) = (j ∈ ls) := by
        rw [List.mem_cons]
        exact propext ⟨fun z => z.resolve_left fun q => h q.symm, .inr⟩
      simp only [e]
theorem Agr.wip {ls : List Nat} {σ σ' : L2.St} (a : Agr ls σ σ') : wipe σ' ls = wipe σ ls := by
  refine List.ext_getElem? fun j => ?_
  rw [wipe_at, wipe_at, a.len]
  split
  · rfl
  · rename_i h; exact a.at_ j h
theorem Agr.wiped (ls : List Nat) (σ : L2.St) : Agr ls σ (wipe σ ls) := ⟨wipe_length σ ls, fun j h => by rw [wipe_at, if_neg h]⟩
theorem Agr.trans {ls : List Nat} {σ σ1 σ2 : L2.St} (a : Agr ls σ σ1) (b : Agr ls σ1 σ2) : Agr ls σ σ2 := ⟨b.len.trans a.len, fun j h => (b.at_ j h).trans (a.at_ j h)⟩
theorem Agr.symm {ls : List Nat} {σ σ1 : L2.St} (a : Agr ls σ σ1) : Agr ls σ1 σ := ⟨a.len.symm, fun j h => (a.at_ j h).symm⟩
theorem Agr.set {ls : List Nat} {σ : L2.St} {i : Nat} {x : Option V} (h : i ∈ ls) : Agr ls σ (σ.set i x) := ⟨List.length_set, fun j hj => List.getElem?_set_ne fun e => hj (by rw [← e]; exact h)⟩
/-- a state over other slots at ls, of which nothing is told -/
theorem Env.agr {ls : List Nat} {σ' : L2.St} (E : Env Fh Γ σ T vs H) (a : Agr ls σ σ') (hn : ∀ j ∈ ls, ∀ s, Γ[j]? ≠ some (some s)) : Env Fh Γ σ' T vs H := by
  obtain ⟨w, c, k⟩ := E
  refine ⟨w, ⟨c.same, c.own, c.len.trans a.len.symm, fun i s e => ?_⟩, k⟩
  obtain ⟨v, h1, h2⟩ := c.at_ i s e
  exact ⟨v, (a.at_ i fun z => hn i z s e).trans h1, h2⟩
/-- the target g takes a value of s, at the places ls -/
def EvG (Fh : Hp) (g : TG) (s : Sl K) (Γ Γ' : Ctx K) (ls : List Nat) : Prop :=
  ∀ (σ : L2.St) (T : List (Sl K)) (vs : List V) (v : V) (H : Hp) (Q : L2.St → Hp → Prop), Env Fh Γ σ (s :: T) (v :: vs) H → (∀ σ', Agr ls σ σ' → Env Fh Γ' σ' T vs H → Q σ' H) → g v σ H Q
theorem eg_name {i : Nat} (hi : i < Γ.length) : EvG Fh (gName i) s Γ (Γ.set i (some s)) [i] := fun σ T vs v H Q E h => h _ (Agr.set (by simp)) (E.store hi)
/-- a, b -/
theorem eg_two {i j : Nat} {x : α} {y : β} (hi : i < Γ.length) (hj : j < Γ.length) : EvG Fh (gTup K 2 (gCons (gName i) (gCons (gName j) gNil))) (da (x, y)) Γ ((Γ.set i (some (da x))).set j (some (da y))) [i, j] := fun σ T vs v H Q E h => by
  have q : Dq K H v (toD (x, y)) := E.seen (r := fun _ => da (x, y)) seen_da
  cases q with
  | tup hs hd =>
    cases hd with
    | cons h1 hd =>
      cases hd with
      | cons h2 hd =>
        cases hd
        refine ⟨_, _, rfl, SqT.of hs, rfl, _, _, rfl, _, _, rfl, rfl, ?_⟩
        have E1 := E.pop
        have E2 : Env Fh Γ σ (da x :: T) (_ :: vs) H := E1.push0 h1
        have E3 := E2.store hi
        have E4 : Env Fh (Γ.set i (some (da x))) _ (da y :: T) (_ :: vs) H := E3.push0 h2
        have E5 := E4.store (i := j) (by rw [List.length_set]; exact hj)
        exact h _ ((Agr.set (by simp)).trans (Agr.set (by simp))) E5

open Classical in
/-- the value below the last one is dropped -/
theorem Env.skip {u : V} (E : Env Fh Γ σ (s :: t :: T) (v :: u :: vs) H) : Env Fh Γ σ (s :: T) (v :: vs) H := by
  obtain ⟨w, c, k1, k2, k3⟩ := E
  have hl : (t :: T).length = T.length + 1 := List.length_cons
  rw [hl] at k1
  have f : ∀ a j, j ≠ Γ.length + (T.length + 1) → w a = some j → (if w a = some (Γ.length + (T.length + 1)) then some (Γ.length + T.length) else w a) = some j := fun a j hj q => by
    rw [if_neg (by rw [q]; intro z; exact hj (Option.some.inj z))]; exact q
  refine ⟨fun a => if w a = some (Γ.length + (T.length + 1)) then some (Γ.length + T.length) else w a, ⟨c.same, fun a z => c.own a fun y => z ?_, c.len, fun j u e => ?_⟩, s.mono k1 (fun a q => if_pos q) (fun _ _ => rfl) (fun _ _ q => q), k3.mono (fun _ _ q => q) fun a j hj q => ⟨f a _ (by omega) q, rfl⟩⟩
  · show (if w a = some _ then _ else w a) = none
    rw [if_neg (by rw [y]; simp)]; exact y
  · obtain ⟨v', h1, h2⟩ := c.at_ j u e
    have hjl : j < Γ.length := (List.getElem?_eq_some_iff.mp e).1
    exact ⟨v', h1, u.mono h2 (fun a q => f a j (by omega) q) (fun _ _ => rfl) fun _ _ q => q⟩

/-! ### for -/
variable {D : Ends}
theorem do_for {ok : Ctx K → Prop} {wi : TI} {g : TG} {tb : TS} {xs : List δ} {ls : List Nat} {Gx : List δ → δ → Ctx K} (G : List δ → Ctx K) (E : Env Fh Γ σ T vs H) (hi : EvW true Fh wi Γ Γ1 ok xs) (h0 : Le Γ1 (G []))
    (hs : ∀ pre, ok (G pre)) (hg : ∀ pre y, EvG Fh g (da y) (G pre) (Gx pre y) ls)
    (turn : ∀ pre y post σ H s ws, xs = pre ++ y :: post → Env Fh (Gx pre y) σ (s :: T) ws H →
      tb { D with nx := fun σ' H' => Env Fh (G (pre ++ [y])) σ' (s :: T) ws H', ct := fun σ' H' => Env Fh (G (pre ++ [y])) σ' (s :: T) ws H', bk := D.nx } σ H)
    (done : ∀ σ H, Env Fh (G xs) σ T vs H → D.nx σ H) : tFor wi g tb D σ H :=
  hi σ T vs H _ E fun J v H1 s P E1 hP W => by
    refine ⟨fun i m σ' H' => i + m = xs.length ∧ Env Fh (G (xs.take i)) σ' (s :: T) (v :: vs) H', ⟨xs.length, by simp, by simpa using E1.weak h0⟩, ?_⟩
    rintro i m σ' H' ⟨hm, E2⟩
    have Pv : P H' := by
      obtain ⟨w, c, k1, _⟩ := id E2
      exact hP _ _ w H' _ (hs _) nofun c k1
    by_cases hlt : i < xs.length
    · have e : xs[i]? = some xs[i] := List.getElem?_eq_getElem hlt
      have ex : xs = xs.take i ++ xs[i] :: xs.drop (i + 1) := by
        rw [List.getElem_cons_drop, List.take_append_drop]
      have et : xs.take (i + 1) = xs.take i ++ [xs[i]] := by
        rw [List.take_add_one, e]; rfl
      refine .inr ⟨W.go H' i Pv hlt, fun σ3 H3 => Env Fh (G (xs.take (i + 1))) σ3 (s :: T) (v :: vs) H3, fun σ3 H3 E3 => ⟨m - 1, by omega, by omega, E3⟩, fun x H3 y => ?_⟩
      obtain ⟨sm, dx⟩ := W.yld H' i x H3 Pv y _ e
      refine hg (xs.take i) xs[i] σ' (s :: T) (v :: vs) x H3 _ ((E2.grow sm).push0 dx) fun σ3 _ E3 => ?_
      have q := turn (xs.take i) xs[i] (xs.drop (i + 1)) σ3 H3 s _ ex E3
      rw [← et] at q
      exact q
    · have ei : i = xs.length := by omega
      subst ei
      refine .inl ⟨W.stop H' Pv, done σ' H' ?_⟩
      rw [List.take_length] at E2
      exact E2.pop

/-! ### comprehensions -/
theorem ev_lc {ok : Ctx K → Prop} {wi : TI} {g : TG} {tt : TT} {te : TE} {xs : List δ} {ls : List Nat} {Gx Gt : List δ → δ → Ctx K} {b : List δ → δ → Bool} (G : List δ → Ctx K) (A : List δ → List α) (hi : EvW false Fh wi Γ Γ1 ok xs) (h0 : Le Γ1 (G []))
    (hs : ∀ pre, ok (G pre)) (hn : ∀ pre, ∀ j ∈ ls, ∀ s, (G pre)[j]? ≠ some (some s)) (hg : ∀ pre y, EvG Fh g (da y) (G pre) (Gx pre y) ls) (a0 : A [] = []) (hz : xs.length ≤ sizeLine)
    (ht : ∀ pre y post, xs = pre ++ y :: post → EvT Fh tt (Gx pre y) (Gt pre y) (b pre y))
    (hy : ∀ pre y post, xs = pre ++ y :: post → b pre y = true → ∃ (zz : α) (Ge : Ctx K), Ev Fh te (Gt pre y) Ge (fun _ => da zz) ∧ Le Ge (G (pre ++ [y])) ∧ A (pre ++ [y]) = A pre ++ [zz])
    (hno : ∀ pre y post, xs = pre ++ y :: post → b pre y = false → Le (Gt pre y) (G (pre ++ [y])) ∧ A (pre ++ [y]) = A pre) :
    Ev Fh (tLc wi g tt te ls) Γ (G xs) (fun _ => ol (A xs)) := fun σ T vs H Q E k =>
  hi σ T vs H _ E fun J v H1 s P E1 hP W D nD => by
    have E1' : Env Fh (G []) σ (ol (K := K) (A []) :: s :: T) (.ref D :: v :: vs) (upd H1 D (.lst [])) := by
      refine (E1.weak h0).push (same_new nD) (fresh_at nD nofun) ⟨D, rfl, rfl, [], upd_same, ?_⟩
      rw [a0]
      exact .nil
    refine ⟨fun i m H' => i + m = xs.length ∧ (A (xs.take i)).length ≤ i ∧ Env Fh (G (xs.take i)) σ (ol (K := K) (A (xs.take i)) :: s :: T) (.ref D :: v :: vs) H', ⟨xs.length, by simp, by simp [a0], by simpa using E1'⟩, ?_⟩
    rintro i m H' ⟨hm, hl, E2⟩
    have Pv : P H' := by
      obtain ⟨w, c, _, k1, _⟩ := id E2
      exact hP _ _ w H' _ (hs _) (fun _ => rfl) c k1
    by_cases hlt : i < xs.length
    · have e : xs[i]? = some xs[i] := List.getElem?_eq_getElem hlt
      have ex : xs = xs.take i ++ xs[i] :: xs.drop (i + 1) := by
        rw [List.getElem_cons_drop, List.take_append_drop]
      have et : xs.take (i + 1) = xs.take i ++ [xs[i]] := by
        rw [List.take_add_one, e]; rfl
      refine .inr ⟨W.go H' i Pv hlt, fun H3 => (A (xs.take (i + 1))).length ≤ i + 1 ∧ Env Fh (G (xs.take (i + 1))) σ (ol (K := K) (A (xs.take (i + 1))) :: s :: T) (.ref D :: v :: vs) H3, fun H3 E3 => ⟨m - 1, by omega, by omega, E3⟩, fun x H3 y => ?_⟩
      obtain ⟨sm, dx⟩ := W.yld H' i x H3 Pv y _ e
      have E3 := (E2.grow sm).agr (Agr.wiped ls σ) (hn _)
      refine hg (xs.take i) xs[i] _ _ _ x H3 _ (E3.push0 dx) fun σ2 ag E4 => ?_
      have ag2 : Agr ls σ σ2 := (Agr.wiped ls σ).trans ag
      refine ⟨ag2.wip, ?_⟩
      refine ht (xs.take i) xs[i] (xs.drop (i + 1)) ex σ2 _ _ H3 _ E4 fun H5 E5 => ?_
      cases hb : b (xs.take i) xs[i] with
      | true =>
        obtain ⟨zz, Ge, h1, h2, h3⟩ := hy _ _ _ ex hb
        rw [if_pos rfl]
        refine h1 σ2 _ _ H5 _ E5 fun u H6 E6 => ?_
        have du : Dq K H6 u (toD zz) := E6.seen (r := fun _ => da _) seen_da
        obtain ⟨S, ⟨a, ea, sa, ws, ha, hw⟩, own, ch⟩ := E6.pop.changeT
        cases ea
        have hwl : ws.length = (A (xs.take i)).length := by rw [hw.len, List.length_map]
        refine ⟨ws, ha, by omega, ?_⟩
        rw [et, h3]
        refine ⟨by rw [List.length_append]; simp; omega, ?_⟩
        refine Env.agr (Env.weak ?_ h2) ag2.symm (by rw [← et]; exact hn _)
        refine ch (ol (A (xs.take i) ++ [zz])) (.ref _) _ (fun c o hc q => ?_) (fun c hc => ?_) ?_
        · rw [upd_ne (show c ≠ _ from fun e => hc (e ▸ sa))]; exact q
        · by_cases hc2 : c = D
          · subst hc2; exact ⟨_, upd_same, nofun⟩
          · obtain ⟨_, o, ho, m⟩ := own c hc
            exact ⟨o, by rw [upd_ne hc2]; exact ho, m⟩
        · refine ⟨D, rfl, sa, _, upd_same, ?_⟩
          have kt : KeepT H6 (upd H6 D (.lst (ws ++ [u]))) := fun c xs q => by
            rw [upd_ne (show c ≠ D from fun z => by rw [z, ha] at q; cases q)]; exact q
          rw [List.map_append]
          exact (dpAll_keep kt _ _ (immAll_map En.imm _) hw).app (.cons (dp_keep kt _ _ (En.imm _) du) .nil)
      | false =>
        obtain ⟨h2, h3⟩ := hno _ _ _ ex hb
        rw [if_neg (by simp)]
        rw [et, h3]
        exact ⟨by omega, (E5.weak h2).agr ag2.symm (by rw [← et]; exact hn _)⟩
    · have ei : i = xs.length := by omega
      subst ei
      refine .inl ⟨W.stop H' Pv, ?_⟩
      rw [List.take_length] at E2
      refine k _ _ ?_
      exact E2.skip

/-! ### while -/
theorem do_while {S : Type} {c : TT} {tb : TS} {b : S → Bool} {Gc : S → Ctx K} (G : S → Ctx K) (I : S → Prop) (μ : S → Nat) (s0 : S) (E : Env Fh (G s0) σ T vs H) (i0 : I s0) (hc : ∀ s, I s → EvT Fh c (G s) (Gc s) (b s))
    (turn : ∀ s σ H, I s → b s = true → Env Fh (Gc s) σ T vs H →
      tb { D with nx := fun σ' H' => ∃ s', I s' ∧ μ s' < μ s ∧ Env Fh (G s') σ' T vs H', ct := fun σ' H' => ∃ s', I s' ∧ μ s' < μ s ∧ Env Fh (G s') σ' T vs H', bk := D.nx } σ H)
    (done : ∀ s σ H, I s → b s = false → Env Fh (Gc s) σ T vs H → D.nx σ H) : tWhile c tb D σ H := by
  refine ⟨fun m σ H => ∃ s, m = μ s ∧ I s ∧ Env Fh (G s) σ T vs H, ⟨_, s0, rfl, i0, E⟩, ?_⟩
  rintro m σ' H' ⟨s, rfl, is, E1⟩
  refine hc s is σ' T vs H' _ E1 fun H2 E2 => ?_
  cases hb : b s with
  | true =>
    rw [if_pos rfl]
    exact ⟨_, fun σ3 H3 ⟨s', i', l, E3⟩ => ⟨_, l, s', rfl, i', E3⟩, turn s σ' H2 is hb E2⟩
  | false =>
    rw [if_neg (by simp)]
    exact done s σ' H2 is hb E2
end
end Sx

/-! Sx3: operators, subscripts, built-ins by what operands read as; changes of slots. -/
namespace Sx
open PySem
open PySem.Spec
open PyProof.Rows
open L2

/-! ### in, not in: a tuple of data -/
section
variable {X : Cx}
def rInT (K : PySem.W.Frag) : R2 := fun x y H Q => ∃ d ds, Dp K H x d ∧ Dp K H y (.tuple ds) ∧ SeqAt.shaped d = true ∧ PyData.canLayAll0 ds = true ∧ Q (.bl (ds.any fun z => PyData.eqv z d)) H
def rNotInT (K : PySem.W.Frag) : R2 := fun x y H Q => ∃ d ds, Dp K H x d ∧ Dp K H y (.tuple ds) ∧ SeqAt.shaped d = true ∧ PyData.canLayAll0 ds = true ∧ Q (.bl (!ds.any fun z => PyData.eqv z d)) H
theorem op_inT (hu : X.A.units + 65 < cLine) : OpR X (compareOp .In) (rInT X.K) := by
  intro pins s σ H x y v u Q I rx ry h
  obtain ⟨d, ds, hd, he, sd, se, q⟩ := h
  obtain ⟨as, r1⟩ := Dp.reads I d x v hd rx
  obtain ⟨bs, r2⟩ := Dp.reads I (.tuple ds) y u he ry
  exact SeqAt.in_tuple_reads r2 r1 se (SeqAt.canLay_of_shaped sd) (room_in_shaped sd hu) ⟨.bl _, H, I, rfl, q⟩
theorem op_notInT (hu : X.A.units + 65 < cLine) : OpR X (compareOp .NotIn) (rNotInT X.K) := by
  intro pins s σ H x y v u Q I rx ry h
  obtain ⟨d, ds, hd, he, sd, se, q⟩ := h
  obtain ⟨as, r1⟩ := Dp.reads I d x v hd rx
  obtain ⟨bs, r2⟩ := Dp.reads I (.tuple ds) y u he ry
  exact SeqAt.notIn_tuple_reads r2 r1 se (SeqAt.canLay_of_shaped sd) (room_in_shaped sd hu) ⟨.bl _, H, I, rfl, q⟩
/-! ### one reading for what values of several kinds allow -/
abbrev rAddI : R2 := rI0 fun i j => .int (i + j)
def xAdd (K : PySem.W.Frag) : R2 := fun x y H Q => rAddI x y H Q ∨ rCatA K x y H Q
theorem ox_add : OpR X (binaryOp .Add) (xAdd X.K) := op_add.or op_catA
def xIn (K : PySem.W.Frag) : R2 := fun x y H Q => rInT K x y H Q ∨ rInD K x y H Q
def xNotIn (K : PySem.W.Frag) : R2 := fun x y H Q => rNotInT K x y H Q ∨ rNotInD K x y H Q
theorem ox_in (hu : X.A.units + 65 < cLine) : OpR X (compareOp .In) (xIn X.K) := (op_inT hu).or (op_inD hu)
theorem ox_notIn (hu : X.A.units + 65 < cLine) : OpR X (compareOp .NotIn) (xNotIn X.K) := (op_notInT hu).or (op_notInD hu)
def xEq (K : PySem.W.Frag) : R2 := fun x y H Q => rEqD K x y H Q ∨ rEq x y H Q
def xNe (K : PySem.W.Frag) : R2 := fun x y H Q => rNeD K x y H Q ∨ rNe x y H Q
theorem ox_eq (hu : X.A.units + 64 < cLine) : OpR X (compareOp .Eq) (xEq X.K) := (op_eqD hu).or op_eq
theorem ox_ne (hu : X.A.units + 64 < cLine) : OpR X (compareOp .NotEq) (xNe X.K) := (op_neD hu).or op_ne
def xIx (K : PySem.W.Frag) : R2 := fun x y H Q => rIxL K x y H Q ∨ rIxT K x y H Q
theorem ox_ix : IxR X (xIx X.K) := ix_list.or ix_tup
def xSl (K : PySem.W.Frag) : V → Option Int → Option Int → Hp → VK → Prop := fun x lo hi H Q => rSlL K x lo hi H Q ∨ rSlA K x lo hi H Q
theorem ox_sl : SlR X (xSl X.K) := sl_list.or sl_tupA
/-- a list or a tuple is gone through -/
def iSeq (K : PySem.W.Frag) (tl : TE) : TI := fun σ H R => tl σ H fun x H1 => ∃ a, x = .ref a ∧ (((∃ xs, SqL K H1 a xs) ∧ R (Itl K a) H1) ∨ ((∃ xs, SqT K H1 a xs) ∧ R (Itt K a) H1))
theorem pi_seq {tg l : Expr} {tl : TE} (hl : PE X l tl) : PI X tg l (iSeq X.K tl) := by
  refine ⟨fun pins s σ H R I h => ?_⟩
  refine thn (hl.run pins s σ H _ I h) fun v s1 ⟨x, H1, I1, r1, a, e, q1⟩ => ?_
  subst e
  cases r1
  have one : ∀ b ∈ [s1.heap.objs.size], FpOk X pins H1 b := fun b hb => by
    obtain rfl : b = s1.heap.objs.size := by simpa using hb
    exact I1.fpOk (Nat.le_refl _) (I1.hok.fresh (Nat.le_refl _))
  rcases q1 with ⟨⟨xs, hq⟩, q⟩ | ⟨⟨xs, hq⟩, q⟩
  · obtain ⟨its, rv, p, _⟩ := I1.list hq
    exact wpAny_pyIter_list p.isList ⟨_, _, _, _, H1, rfl, I1.kept (t' := s1.toks) fun b o e => Heap.get?_push_of_some _ e, turn_list a _,
      ⟨_, Heap.get?_push_size _ rfl, rfl, rfl⟩, one, q⟩
  · obtain ⟨its, rv, p, _⟩ := I1.tuple hq
    exact wpAny_pyIter_tuple (show s1.heap.IsTuple a its.toArray from p) ⟨_, _, _, _, H1, rfl, I1.kept (t' := s1.toks) fun b o e => Heap.get?_push_of_some _ e,
      turn_tuple a _, ⟨_, Heap.get?_push_size _ rfl, rfl, rfl⟩, one, q⟩
end
section
variable {K : PySem.W.Frag} {Fh H : Hp} {Γ Γ1 Γ2 Γ3 Γ' : Ctx K} {σ : L2.St} {T : List (Sl K)} {vs : List V} {v x y : V} {r ra rb : Rs K} {d : PyData} {s t : Sl K} {α β δ : Type} [En α] [En β] [En δ] {ta tb te : TE}
theorem any_eqv [DecidableEq α] (xs : List α) (x : α) : ((xs.map toD).any fun z => PyData.eqv z (toD x)) = decide (x ∈ xs) := by
  rw [List.any_map, Bool.eq_iff_iff, List.any_eq_true, decide_eq_true_eq]
  constructor
  · rintro ⟨y, hy, e⟩
    have q := (En.eqv y x).mp e
    rw [← q]; exact hy
  · intro h
    exact ⟨x, h, (En.eqv x x).mpr rfl⟩
theorem ev_in [DecidableEq α] {x : α} {xs : List α} (ha : Ev Fh ta Γ Γ1 ra) (hb : Ev Fh tb Γ1 Γ2 rb) (sa : Seen Fh Γ2 ra (toD x)) (sb : Seen Fh Γ2 rb (toD xs)) (hd : En.dp α ≤ 64) : Ev Fh (tOp (xIn K) ta tb) Γ Γ2 (fun _ => da (decide (x ∈ xs))) :=
  ev_op ha hb sa sb fun u v H Q hx hy o => .inl ⟨toD x, xs.map toD, hx.p, hy.p, shaped_of hd x, layAll_map xs, by rw [any_eqv]; exact o.now (Dq.bl _)⟩
theorem ev_notIn [DecidableEq α] {x : α} {xs : List α} (ha : Ev Fh ta Γ Γ1 ra) (hb : Ev Fh tb Γ1 Γ2 rb) (sa : Seen Fh Γ2 ra (toD x)) (sb : Seen Fh Γ2 rb (toD xs)) (hd : En.dp α ≤ 64) : Ev Fh (tOp (xNotIn K) ta tb) Γ Γ2 (fun _ => da (!decide (x ∈ xs))) :=
  ev_op ha hb sa sb fun u v H Q hx hy o => .inl ⟨toD x, xs.map toD, hx.p, hy.p, shaped_of hd x, layAll_map xs, by rw [any_eqv]; exact o.now (Dq.bl _)⟩
/-- .. a list -/
theorem ev_inL [DecidableEq α] {x : α} {xs : List α} (ha : Ev Fh ta Γ Γ1 ra) (hb : Ev Fh tb Γ1 Γ2 rb) (sa : Seen Fh Γ2 ra (toD x)) (sb : Seen Fh Γ2 rb (lsD xs)) (hd : En.dp α ≤ 63) : Ev Fh (tOp (xIn K) ta tb) Γ Γ2 (fun _ => da (decide (x ∈ xs))) :=
  ev_op ha hb sa sb fun u v H Q hx hy o => .inr ⟨toD x, xs.map toD, hx.p, hy.p, shaped_of (Nat.le_trans hd (by decide)) x, shaped_ls hd xs, by rw [any_eqv]; exact o.now (Dq.bl _)⟩
theorem ev_notInL [DecidableEq α] {x : α} {xs : List α} (ha : Ev Fh ta Γ Γ1 ra) (hb : Ev Fh tb Γ1 Γ2 rb) (sa : Seen Fh Γ2 ra (toD x)) (sb : Seen Fh Γ2 rb (lsD xs)) (hd : En.dp α ≤ 63) : Ev Fh (tOp (xNotIn K) ta tb) Γ Γ2 (fun _ => da (!decide (x ∈ xs))) :=
  ev_op ha hb sa sb fun u v H Q hx hy o => .inr ⟨toD x, xs.map toD, hx.p, hy.p, shaped_of (Nat.le_trans hd (by decide)) x, shaped_ls hd xs, by rw [any_eqv]; exact o.now (Dq.bl _)⟩

/-! ### ==, != -/
theorem ev_eq [DecidableEq α] {x y : α} (ha : Ev Fh ta Γ Γ1 ra) (hb : Ev Fh tb Γ1 Γ2 rb) (sa : Seen Fh Γ2 ra (toD x)) (sb : Seen Fh Γ2 rb (toD y)) (hd : En.dp α ≤ 64) : Ev Fh (tOp (xEq K) ta tb) Γ Γ2 (fun _ => da (decide (x = y))) :=
  ev_op ha hb sa sb fun u v H Q hx hy o => .inl ⟨_, _, hx.p, hy.p, shaped_of hd x, shaped_of hd y, by rw [eqv_dec]; exact o.now (Dq.bl _)⟩
theorem ev_ne [DecidableEq α] {x y : α} (ha : Ev Fh ta Γ Γ1 ra) (hb : Ev Fh tb Γ1 Γ2 rb) (sa : Seen Fh Γ2 ra (toD x)) (sb : Seen Fh Γ2 rb (toD y)) (hd : En.dp α ≤ 64) : Ev Fh (tOp (xNe K) ta tb) Γ Γ2 (fun _ => da (!decide (x = y))) :=
  ev_op ha hb sa sb fun u v H Q hx hy o => .inl ⟨_, _, hx.p, hy.p, shaped_of hd x, shaped_of hd y, by rw [eqv_dec]; exact o.now (Dq.bl _)⟩
theorem ev_eqL [DecidableEq α] {x y : List α} (ha : Ev Fh ta Γ Γ1 ra) (hb : Ev Fh tb Γ1 Γ2 rb) (sa : Seen Fh Γ2 ra (lsD x)) (sb : Seen Fh Γ2 rb (lsD y)) (hd : En.dp α ≤ 63) : Ev Fh (tOp (xEq K) ta tb) Γ Γ2 (fun _ => da (decide (x = y))) :=
  ev_op ha hb sa sb fun u v H Q hx hy o => .inl ⟨_, _, hx.p, hy.p, shaped_ls hd x, shaped_ls hd y, by rw [eqv_ls]; exact o.now (Dq.bl _)⟩
theorem ev_neL [DecidableEq α] {x y : List α} (ha : Ev Fh ta Γ Γ1 ra) (hb : Ev Fh tb Γ1 Γ2 rb) (sa : Seen Fh Γ2 ra (lsD x)) (sb : Seen Fh Γ2 rb (lsD y)) (hd : En.dp α ≤ 63) : Ev Fh (tOp (xNe K) ta tb) Γ Γ2 (fun _ => da (!decide (x = y))) :=
  ev_op ha hb sa sb fun u v H Q hx hy o => .inl ⟨_, _, hx.p, hy.p, shaped_ls hd x, shaped_ls hd y, by rw [eqv_ls]; exact o.now (Dq.bl _)⟩

theorem ev_addI {i j : Int} (ha : Ev Fh ta Γ Γ1 (fun _ => da i)) (hb : Ev Fh tb Γ1 Γ2 (fun _ => da j)) : Ev Fh (tOp (xAdd K) ta tb) Γ Γ2 (fun _ => da (i + j)) :=
  ev_op ha hb seen_da seen_da fun x y H Q hx hy o => by
    cases hx
    cases hy
    exact .inl ⟨i, j, rfl, rfl, o.now (Dq.int _)⟩
/-- ints, without a condition -/
theorem ev_rI0 {g : Int → Int → V} {i j : Int} {z : α} (ha : Ev Fh ta Γ Γ1 (fun _ => da i)) (hb : Ev Fh tb Γ1 Γ2 (fun _ => da j)) (hz : ∀ H, Dq K H (g i j) (toD z)) : Ev Fh (tOp (rI0 g) ta tb) Γ Γ2 (fun _ => da z) :=
  ev_op ha hb seen_da seen_da fun x y H Q hx hy o => by
    cases hx
    cases hy
    exact ⟨i, j, rfl, rfl, o.now (hz H)⟩
theorem ev_lt {i j : Int} (ha : Ev Fh ta Γ Γ1 (fun _ => da i)) (hb : Ev Fh tb Γ1 Γ2 (fun _ => da j)) : Ev Fh (tOp (rI0 fun i j => .bl (decide (i < j))) ta tb) Γ Γ2 (fun _ => da (decide (i < j))) := ev_rI0 ha hb fun _ => Dq.bl _
theorem ev_gt {i j : Int} (ha : Ev Fh ta Γ Γ1 (fun _ => da i)) (hb : Ev Fh tb Γ1 Γ2 (fun _ => da j)) : Ev Fh (tOp (rI0 fun i j => .bl (decide (j < i))) ta tb) Γ Γ2 (fun _ => da (decide (j < i))) := ev_rI0 ha hb fun _ => Dq.bl _
/-- minus a number -/
theorem ev_neg {i : Int} (ha : Ev Fh ta Γ Γ1 (fun _ => da i)) : Ev Fh (tUn (rU fun i => .int (-i)) ta) Γ Γ1 (fun _ => da (-i)) :=
  ev_u (R := rU fun i => .int (-i)) ha seen_da fun x H Q hx o => by
    cases hx
    exact ⟨i, rfl, o.now (Dq.int _)⟩
/-- texts -/
def tx (z : Str) : Sl K := ⟨fun _ _ v => v = .str z, fun h _ _ _ => h⟩
theorem dup_tx {z : Str} : Dup (K := K) (tx z) := fun _ _ _ h => h
theorem ev_tx {i : Nat} {z : Str} (hi : Γ[i]? = some (some (tx z))) : Ev Fh (tVar i) Γ Γ (fun _ => tx z) := ev_var hi dup_tx
theorem ev_neX {z u : Str} (ha : Ev Fh ta Γ Γ1 (fun _ => tx z)) (hb : Ev Fh tb Γ1 Γ2 (fun _ => tx u)) : Ev Fh (tOp (xNe K) ta tb) Γ Γ2 (fun _ => da (!decide (z = u))) := fun σ T vs H Q E k =>
  ha σ T vs H _ E fun x H1 E1 => hb σ _ _ H1 _ E1 fun y H2 E2 => by
    have ex : x = .str z := E2.pop.sees (r := fun _ => tx z) (P := fun v _ => v = .str z) fun _ _ _ _ _ _ h => h
    have ey : y = .str u := E2.sees (r := fun _ => tx u) (P := fun v _ => v = .str u) fun _ _ _ _ _ _ h => h
    subst ex ey
    refine .inr ⟨rfl, ?_⟩
    have e : decide (V.str z = V.str u) = decide (z = u) := decide_eq_decide.mpr ⟨fun e => V.str.inj e, fun e => by rw [e]⟩
    rw [e]
    exact k _ _ (E2.pop.pop.push0 (Dq.bl _))

/-! ### tuples: +, slices, items -/
theorem map_nil_iff {xs : List α} {ws : List V} (h : DqAll K H ws (xs.map toD)) : ws = [] ↔ xs = [] := by
  have e := h.len
  rw [List.length_map] at e
  constructor
  · intro z; subst z; exact List.length_eq_zero_iff.mp e.symm
  · intro z; subst z; exact List.length_eq_zero_iff.mp e
theorem ev_cat {xs ys : List α} (ha : Ev Fh ta Γ Γ1 ra) (hb : Ev Fh tb Γ1 Γ2 rb) (sa : Seen Fh Γ2 ra (toD xs)) (sb : Seen Fh Γ2 rb (toD ys)) (hz : xs.length + ys.length ≤ sizeLine) : Ev Fh (tOp (xAdd K) ta tb) Γ Γ2 (fun _ => da (xs ++ ys)) :=
  ev_op ha hb sa sb fun u v H Q hx hy o => by
    have hx0 := hx
    have hy0 := hy
    cases hx with
    | tup hs hd =>
      cases hy with
      | tup ht he =>
        refine .inr ⟨_, _, _, _, rfl, rfl, SqT.of hs, SqT.of ht, by rw [hd.len, he.len, List.length_map, List.length_map]; exact hz, fun e => ?_, fun _ e => ?_, fun _ _ p n => ?_⟩
        · have e2 := (map_nil_iff hd).mp e
          subst e2
          exact o.now hy0
        · have e2 := (map_nil_iff he).mp e
          subst e2
          refine o.now ?_
          show Dq K H _ (toD (xs ++ []))
          rw [List.append_nil]; exact hx0
        · exact o.tup (by rw [List.map_append]; exact hd.app he) n
/-- the items of xs[lo:hi] -/
def cut {γ : Type} (xs : List γ) (lo hi : Option Int) : List γ := (xs.drop (HT.sIx xs.length 0 lo)).take (HT.sIx xs.length xs.length hi - HT.sIx xs.length 0 lo)
theorem dpAll_take : ∀ (n : Nat) {ws : List V} {ds : List PyData}, DqAll K H ws ds → DqAll K H (ws.take n) (ds.take n)
  | 0, _, _, _ => .nil
  | _ + 1, _, _, .nil => .nil
  | n + 1, _, _, .cons h t => .cons h (dpAll_take n t)
theorem dpAll_drop : ∀ (n : Nat) {ws : List V} {ds : List PyData}, DqAll K H ws ds → DqAll K H (ws.drop n) (ds.drop n)
  | 0, _, _, h => h
  | _ + 1, _, _, .nil => .nil
  | n + 1, _, _, .cons _ t => dpAll_drop n t
theorem dpAll_rev : ∀ {ws : List V} {ds : List PyData}, DqAll K H ws ds → DqAll K H ws.reverse ds.reverse
  | _, _, .nil => .nil
  | _, _, .cons h t => by rw [List.reverse_cons, List.reverse_cons]; exact (dpAll_rev t).app (.cons h .nil)
theorem dpAll_cut {ws : List V} {xs : List α} (h : DqAll K H ws (xs.map toD)) (lo hi : Option Int) : DqAll K H (cutV ws lo hi) ((cut xs lo hi).map toD) := by
  have e : ws.length = xs.length := by rw [h.len, List.length_map]
  unfold cutV cut
  rw [e, List.map_take, List.map_drop]
  exact dpAll_take _ (dpAll_drop _ h)
theorem cut_whole {γ : Type} {xs : List γ} {lo hi : Option Int} (h : HT.sIx xs.length 0 lo = 0 ∧ HT.sIx xs.length xs.length hi = xs.length) : cut xs lo hi = xs := by
  unfold cut
  rw [h.1, h.2, Nat.sub_zero, List.drop_zero, List.take_length]
/-- what a part of a slice is -/
def EvP (Fh : Hp) (t : TO) (Γ Γ' : Ctx K) (o : Option Int) : Prop :=
  ∀ (σ : L2.St) (T : List (Sl K)) (vs : List V) (H : Hp) (Q : Option Int → Hp → Prop), Env Fh Γ σ T vs H → (∀ H', Env Fh Γ' σ T vs H' → Q o H') → t σ H Q
theorem evp_no : EvP Fh tNoPart Γ Γ none := fun σ T vs H Q E h => h H E
theorem evp_some {i : Int} (h : Ev Fh te Γ Γ' (fun _ => da i)) : EvP Fh (tPart te) Γ Γ' (some i) := fun σ T vs H Q E k => h σ T vs H _ E fun v H' E' => by
  have q : Dq K H' v (toD i) := E'.seen (r := fun _ => da i) seen_da
  cases q
  exact ⟨i, rfl, k H' E'.pop⟩
theorem ev_slT {tl th : TO} {xs : List α} {lo hi : Option Int} (ha : Ev Fh ta Γ Γ1 ra) (hl : EvP Fh tl Γ1 Γ2 lo) (hh : EvP Fh th Γ2 Γ3 hi) (sa : Seen Fh Γ3 ra (toD xs)) : Ev Fh (tSl (xSl K) ta tl th) Γ Γ3 (fun _ => da (cut xs lo hi)) := fun σ T vs H Q E k =>
  ha σ T vs H _ E fun v H1 E1 => hl σ _ _ H1 _ E1 fun H2 E2 => hh σ _ _ H2 _ E2 fun H3 E3 => by
    have q := E3.seen sa
    have q0 := q
    have o : Out H3 Q (da (cut xs lo hi)) := E3.pop.out k
    cases q with
    | tup hs hd =>
      rename_i ws
      have e : ws.length = xs.length := by rw [hd.len, List.length_map]
      refine .inr ⟨_, _, rfl, SqT.of hs, fun z => ?_, fun z p n => ?_⟩
      · rw [e] at z
        rw [cut_whole z] at o
        exact o.now q0
      · exact o.tup (dpAll_cut hd lo hi) n
theorem ev_slL {tl th : TO} {xs : List α} {lo hi : Option Int} (ha : Ev Fh ta Γ Γ1 ra) (hl : EvP Fh tl Γ1 Γ2 lo) (hh : EvP Fh th Γ2 Γ3 hi) (sa : Seen Fh Γ3 ra (lsD xs)) : Ev Fh (tSl (xSl K) ta tl th) Γ Γ3 (fun _ => ol (cut xs lo hi)) := fun σ T vs H Q E k =>
  ha σ T vs H _ E fun v H1 E1 => hl σ _ _ H1 _ E1 fun H2 E2 => hh σ _ _ H2 _ E2 fun H3 E3 => by
    have q := E3.seen sa
    have o : Out H3 Q (ol (cut xs lo hi)) := E3.pop.out k
    cases q with
    | lst hs hd => exact .inl ⟨_, _, rfl, hs, fun p n => o.lst (dpAll_cut hd lo hi) n⟩
theorem atI_map {ws : List V} {xs : List α} {i : Int} {z : α} (h : DqAll K H ws (xs.map toD)) (e : atI xs i = some z) : ∃ v, atI ws i = some v ∧ Dq K H v (toD z) := by
  have hl : ws.length = xs.length := by rw [h.len, List.length_map]
  unfold atI at e ⊢
  rw [hl]
  cases q : ixN xs.length i with
  | none => rw [q] at e; cases e
  | some j =>
    rw [q] at e
    have e' : xs[j]? = some z := e
    obtain ⟨v, h1, h2⟩ := h.get (i := j) (d := toD z) (by rw [List.getElem?_map, e']; rfl)
    exact ⟨v, h1, h2⟩
theorem ev_ixT {xs : List α} {i : Int} {z : α} (ha : Ev Fh ta Γ Γ1 ra) (hb : Ev Fh tb Γ1 Γ2 (fun _ => da i)) (sa : Seen Fh Γ2 ra (toD xs)) (e : atI xs i = some z) : Ev Fh (tOp (xIx K) ta tb) Γ Γ2 (fun _ => da z) :=
  ev_op ha hb sa seen_da fun u v H Q hx hy o => by
    cases hy
    cases hx with
    | tup hs hd =>
      obtain ⟨v, h1, h2⟩ := atI_map hd e
      exact .inr ⟨_, _, i, v, rfl, rfl, SqT.of hs, h1, o.now h2⟩
theorem ev_ixL {xs : List α} {i : Int} {z : α} (ha : Ev Fh ta Γ Γ1 ra) (hb : Ev Fh tb Γ1 Γ2 (fun _ => da i)) (sa : Seen Fh Γ2 ra (lsD xs)) (e : atI xs i = some z) : Ev Fh (tOp (xIx K) ta tb) Γ Γ2 (fun _ => da z) :=
  ev_op ha hb sa seen_da fun u v H Q hx hy o => by
    cases hy
    cases hx with
    | lst hs hd =>
      obtain ⟨v, h1, h2⟩ := atI_map hd e
      exact .inl ⟨_, _, i, v, rfl, rfl, hs, h1, o.now h2⟩

/-! ### a list or a tuple, gone through -/
theorem ws_list {any : Bool} {ok : Ctx K → Prop} {tl : TE} {xs : List δ} (h : Ev Fh tl Γ Γ' r) (hs : ∀ Γ2, ok Γ2 → Seen Fh Γ2 r (lsD xs)) (h1 : ok Γ') (hc : any = true → ∃ s, r = fun _ => s) : EvW any Fh (iSeq K tl) Γ Γ' ok xs := fun σ T vs H R E k =>
  h σ T vs H _ E fun v H' E' => by
    have q := E'.seen (hs _ h1)
    have q0 := q
    cases q with
    | lst hs' hd =>
      refine ⟨_, rfl, .inl ⟨⟨_, hs'⟩, k _ _ H' _ _ E' (fun Γ2 σ2 w H S o e c p => ?_) walk_list⟩⟩
      cases any with
      | false => cases e rfl; exact hs Γ2 o σ w H S _ c p
      | true => obtain ⟨s, rfl⟩ := hc rfl; exact hs Γ2 o σ2 w H S _ c p
theorem ws_tup {any : Bool} {ok : Ctx K → Prop} {tl : TE} {xs : List δ} (h : Ev Fh tl Γ Γ' r) (hs : ∀ Γ2, ok Γ2 → Seen Fh Γ2 r (toD xs)) (h1 : ok Γ') (hc : any = true → ∃ s, r = fun _ => s) : EvW any Fh (iSeq K tl) Γ Γ' ok xs := fun σ T vs H R E k =>
  h σ T vs H _ E fun v H' E' => by
    have q := E'.seen (hs _ h1)
    have q0 := q
    cases q with
    | tup hs' hd =>
      refine ⟨_, rfl, .inr ⟨⟨_, SqT.of hs'⟩, k _ _ H' _ _ E' (fun Γ2 σ2 w H S o e c p => ?_) walk_tup⟩⟩
      cases any with
      | false => cases e rfl; exact hs Γ2 o σ w H S _ c p
      | true => obtain ⟨s, rfl⟩ := hc rfl; exact hs Γ2 o σ2 w H S _ c p
theorem ws_tupD {any : Bool} {tl : TE} {xs : List δ} (h : Ev Fh tl Γ Γ' (fun _ => da xs)) : EvW any Fh (iSeq K tl) Γ Γ' okAll xs := ws_tup h (fun _ _ => seen_da) trivial fun _ => ⟨_, rfl⟩
theorem ws_listO {any : Bool} {tl : TE} {xs : List δ} (h : Ev Fh tl Γ Γ' (fun _ => ol xs)) : EvW any Fh (iSeq K tl) Γ Γ' okAll xs := ws_list h (fun _ _ => seen_ol) trivial fun _ => ⟨_, rfl⟩
theorem ws_listB {any : Bool} {tl : TE} {xs : List δ} (h : Ev Fh tl Γ Γ' (fun _ => bo Fh (lsD xs))) : EvW any Fh (iSeq K tl) Γ Γ' okAll xs := ws_list h (fun _ _ => seen_bo) trivial fun _ => ⟨_, rfl⟩
theorem ws_slot {i : Nat} {xs : List δ} (hi : Γ[i]? = some (some (ol xs))) : EvW false Fh (iSeq K (tVar i)) Γ Γ (fun Γ2 => Γ2[i]? = some (some (ol xs))) xs := ws_list (ev_al hi) (fun _ h => seen_al h seen_ol) hi nofun
theorem ws_slotA {a : Addr} {i : Nat} {xs : List δ} (hi : Γ[i]? = some (some (olA a xs))) : EvW true Fh (iSeq K (tVar i)) Γ Γ (fun Γ2 => Γ2[i]? = some (some (olA a xs))) xs := by
  refine ws_list (r := fun _ => rf a) (fun σ T vs H Q E k => ?_) (fun _ h => seen_rf h) hi fun _ => ⟨_, rfl⟩
  obtain ⟨v, S, h1, rfl, _⟩ := E.get hi
  exact ⟨_, h1, k _ H (E.push0 rfl)⟩

/-! ### built-ins -/
abbrev rLenS (K : PySem.W.Frag) : List V → Hp → VK → Prop := fun xs H Q => ∃ p ys, xs = [.ref p] ∧ (SqL K H p ys ∨ SqT K H p ys) ∧ Q (.int ys.length) H
theorem ev_lenT {xs : List α} (ha : Ev Fh ta Γ Γ1 ra) (sa : Seen Fh Γ1 ra (toD xs)) : Ev Fh (tCB (rLenS K) (tCons ta tNil)) Γ Γ1 (fun _ => da (xs.length : Int)) :=
  ev_c1 ha sa fun u H Q hx o => by
    cases hx with
    | tup hs hd =>
      rename_i ws
      have e : ws.length = xs.length := by rw [hd.len, List.length_map]
      exact ⟨_, _, rfl, .inr (SqT.of hs), by rw [e]; exact o.now (Dq.int _)⟩
theorem ev_lenL {xs : List α} (ha : Ev Fh ta Γ Γ1 ra) (sa : Seen Fh Γ1 ra (lsD xs)) : Ev Fh (tCB (rLenS K) (tCons ta tNil)) Γ Γ1 (fun _ => da (xs.length : Int)) :=
  ev_c1 ha sa fun u H Q hx o => by
    cases hx with
    | lst hs hd =>
      rename_i ws
      have e : ws.length = xs.length := by rw [hd.len, List.length_map]
      exact ⟨_, _, rfl, .inl hs, by rw [e]; exact o.now (Dq.int _)⟩
theorem bools_of : ∀ {ws : List V} {bs : List Bool}, DqAll K H ws (bs.map toD) → ws = bs.map V.bl
  | [], [], _ => rfl
  | [], _ :: _, h => by cases h
  | _ :: _, [], h => by cases h
  | _ :: _, _ :: _, h => by
    cases h with
    | cons h1 t =>
      cases h1
      rw [List.map_cons, bools_of t]
theorem ints_of : ∀ {ws : List V} {ns : List Int}, DqAll K H ws (ns.map toD) → ws = ns.map V.int
  | [], [], _ => rfl
  | [], _ :: _, h => by cases h
  | _ :: _, [], h => by cases h
  | _ :: _, _ :: _, h => by
    cases h with
    | cons h1 t =>
      cases h1
      rw [List.map_cons, ints_of t]
theorem ev_any {bs : List Bool} (ha : Ev Fh ta Γ Γ1 ra) (sa : Seen Fh Γ1 ra (lsD bs)) : Ev Fh (tCB (rAny K) (tCons ta tNil)) Γ Γ1 (fun _ => da (bs.any id)) :=
  ev_c1 ha sa fun u H Q hx o => by
    cases hx with
    | lst hs hd => exact ⟨_, bs, rfl, by rw [← bools_of hd]; exact hs, o.now (Dq.bl _)⟩
theorem ev_all {bs : List Bool} (ha : Ev Fh ta Γ Γ1 ra) (sa : Seen Fh Γ1 ra (lsD bs)) : Ev Fh (tCB (rAll K) (tCons ta tNil)) Γ Γ1 (fun _ => da (bs.all id)) :=
  ev_c1 ha sa fun u H Q hx o => by
    cases hx with
    | lst hs hd => exact ⟨_, bs, rfl, by rw [← bools_of hd]; exact hs, o.now (Dq.bl _)⟩
abbrev rListOf (K : PySem.W.Frag) : List V → Hp → VK → Prop := fun xs H Q => ∃ p ys, xs = [.ref p] ∧ (SqL K H p ys ∨ SqT K H p ys) ∧ ∀ l, H l = none → Q (.ref l) (upd H l (.lst ys))
abbrev rTupOf (K : PySem.W.Frag) : List V → Hp → VK → Prop := fun xs H Q => ∃ p ys, xs = [.ref p] ∧ ((SqL K H p ys ∧ ∀ l, H l = none → Q (.ref l) (upd H l (.tup ys))) ∨ (SqT K H p ys ∧ Q (.ref p) H))
theorem ev_listL {xs : List α} (ha : Ev Fh ta Γ Γ1 ra) (sa : Seen Fh Γ1 ra (lsD xs)) : Ev Fh (tCB (rListOf K) (tCons ta tNil)) Γ Γ1 (fun _ => ol xs) :=
  ev_c1 ha sa fun u H Q hx o => by
    cases hx with
    | lst hs hd => exact ⟨_, _, rfl, .inl hs, fun l n => o.lst hd n⟩
theorem ev_listT {xs : List α} (ha : Ev Fh ta Γ Γ1 ra) (sa : Seen Fh Γ1 ra (toD xs)) : Ev Fh (tCB (rListOf K) (tCons ta tNil)) Γ Γ1 (fun _ => ol xs) :=
  ev_c1 ha sa fun u H Q hx o => by
    cases hx with
    | tup hs hd => exact ⟨_, _, rfl, .inr (SqT.of hs), fun l n => o.lst hd n⟩
theorem ev_tupL {xs : List α} (ha : Ev Fh ta Γ Γ1 ra) (sa : Seen Fh Γ1 ra (lsD xs)) : Ev Fh (tCB (rTupOf K) (tCons ta tNil)) Γ Γ1 (fun _ => da xs) :=
  ev_c1 ha sa fun u H Q hx o => by
    cases hx with
    | lst hs hd => exact ⟨_, _, rfl, .inl ⟨hs, fun l n => o.tup hd n⟩⟩
theorem ev_tupT {xs : List α} (ha : Ev Fh ta Γ Γ1 ra) (sa : Seen Fh Γ1 ra (toD xs)) : Ev Fh (tCB (rTupOf K) (tCons ta tNil)) Γ Γ1 (fun _ => da xs) :=
  ev_c1 ha sa fun u H Q hx o => by
    have h0 := hx
    cases hx with
    | tup hs hd => exact ⟨_, _, rfl, .inr ⟨SqT.of hs, o.now h0⟩⟩
theorem ev_revL {xs : List α} (ha : Ev Fh ta Γ Γ1 ra) (sa : Seen Fh Γ1 ra (lsD xs)) : Ev Fh (fun σ H Q => ta σ H fun x H1 => ∃ a xs, x = .ref a ∧ SqL K H1 a xs ∧ ∀ p, H1 p = none → Q (.ref p) (upd H1 p (.lst xs.reverse))) Γ Γ1 (fun _ => ol xs.reverse) :=
  ev_u (R := fun x H1 Q => ∃ a xs, x = .ref a ∧ SqL K H1 a xs ∧ ∀ p, H1 p = none → Q (.ref p) (upd H1 p (.lst xs.reverse))) ha sa fun u H Q hx o => by
    cases hx with
    | lst hs hd => exact ⟨_, _, rfl, hs, fun l n => o.lst (by rw [List.map_reverse]; exact dpAll_rev hd) n⟩

/-! ### slots that hold lists of one's own -/
theorem mut_lst {a b : Addr} {ws : List V} {o : HO} (h : H a = some (.lst ws)) : KeepT H (upd H a o) := fun c xs q => by
  rw [upd_ne (show c ≠ a from fun z => by rw [z, h] at q; cases q)]; exact q
/-- the list of slot i becomes another one -/
theorem Env.relist {i : Nat} {xs : List α} (E : Env Fh Γ σ T vs H) (hi : Γ[i]? = some (some (ol xs))) : ∃ a ws, σ[i]? = some (some (.ref a)) ∧ H a = some (.lst ws) ∧ DqAll K H ws (xs.map toD) ∧
    ∀ (ys : List α) (us : List V), DqAll K H us (ys.map toD) → Env Fh (Γ.set i (some (ol ys))) σ T vs (upd H a (.lst us)) := by
  obtain ⟨v, S, h1, ⟨a, rfl, sa, ws, ha, hw⟩, own, ch⟩ := E.change hi
  refine ⟨a, ws, h1, ha, hw, fun ys us hu => ch _ _ (fun _ => False) (fun c o hc q => ?_) (fun c hc => ?_) Fresh.none ⟨a, rfl, .inl sa, us, upd_same, dpAll_keep (mut_lst (b := a) ha) _ _ (immAll_map En.imm _) hu⟩⟩
  · rw [upd_ne (show c ≠ a from fun e => hc (e ▸ sa))]; exact q
  · by_cases e : c = a
    · subst e; exact ⟨_, upd_same, nofun⟩
    · obtain ⟨_, o, ho, m⟩ := own c hc
      exact ⟨o, by rw [upd_ne e]; exact ho, m⟩
variable {D : Ends}
/-- x.append(e) -/
theorem ev_append {i : Nat} {xs : List α} {z : α} (he : Ev Fh te Γ Γ1 (fun _ => da z)) (hi : Γ[i]? = some (some (ol xs))) (hi1 : Γ1[i]? = some (some (ol xs))) (hz : xs.length < sizeLine) :
    Ev Fh (tBM K "list" rAppend (tVar i) (tCons te tNil)) Γ (Γ1.set i (some (ol (xs ++ [z])))) (fun _ => da ()) := fun σ T vs H Q E k => by
  obtain ⟨a, ws, h1, ha, hw, _⟩ := E.relist hi
  refine ⟨_, h1, .inl ⟨rfl, _, SqL.of ha⟩, he σ T vs H _ E fun v H1 E1 => ?_⟩
  have dv : Dq K H1 v (toD z) := E1.seen (r := fun _ => da z) seen_da
  obtain ⟨b, us, g1, gb, gw, ch⟩ := E1.pop.relist hi1
  have e : a = b := V.ref.inj (Option.some.inj (Option.some.inj (h1.symm.trans g1)))
  subst e
  refine ⟨a, us, v, rfl, rfl, gb, by rw [gw.len, List.length_map]; exact hz, k _ _ ?_⟩
  exact (ch (xs ++ [z]) (us ++ [v]) (by rw [List.map_append]; exact gw.app (.cons dv .nil))).push0 Dq.non
/-- x.extend(e), e a list of one's own -/
theorem ev_extend {i : Nat} {xs ys : List α} (he : Ev Fh te Γ Γ1 (fun _ => ol ys)) (hi : Γ[i]? = some (some (ol xs))) (hi1 : Γ1[i]? = some (some (ol xs))) (hz : xs.length + ys.length ≤ sizeLine) :
    Ev Fh (tBM K "list" rExtend (tVar i) (tCons te tNil)) Γ (Γ1.set i (some (ol (xs ++ ys)))) (fun _ => da ()) := fun σ T vs H Q E k => by
  obtain ⟨a, ws, h1, ha, hw, _⟩ := E.relist hi
  refine ⟨_, h1, .inl ⟨rfl, _, SqL.of ha⟩, he σ T vs H _ E fun v H1 E1 => ?_⟩
  obtain ⟨S, c, rfl, sc, zs, hc, hzs⟩ := E1.p0
  obtain ⟨b, us, g1, gb, gw, ch⟩ := E1.pop.relist hi1
  have e : a = b := V.ref.inj (Option.some.inj (Option.some.inj (h1.symm.trans g1)))
  subst e
  refine ⟨a, c, us, zs, rfl, rfl, gb, hc, by rw [gw.len, hzs.len, List.length_map, List.length_map]; exact hz, k _ _ ?_⟩
  exact (ch (xs ++ ys) (us ++ zs) (by rw [List.map_append]; exact gw.app hzs)).push0 Dq.non
/-- x.pop(e) -/
theorem ev_popAt {i : Nat} {xs : List α} {n : Int} {j : Nat} {z : α} (he : Ev Fh te Γ Γ1 (fun _ => da n)) (hi : Γ[i]? = some (some (ol xs))) (hi1 : Γ1[i]? = some (some (ol xs))) (h1 : -(2 ^ 63) ≤ n) (h2 : n < 2 ^ 63) (hj : ixN xs.length n = some j) (hz : xs[j]? = some z) :
    Ev Fh (tBM K "list" rPopAt (tVar i) (tCons te tNil)) Γ (Γ1.set i (some (ol (xs.eraseIdx j)))) (fun _ => da z) := fun σ T vs H Q E k => by
  obtain ⟨a, ws, g1, ha, hw, _⟩ := E.relist hi
  refine ⟨_, g1, .inl ⟨rfl, _, SqL.of ha⟩, he σ T vs H _ E fun v H1 E1 => ?_⟩
  have dv : Dq K H1 v (toD n) := E1.seen (r := fun _ => da n) seen_da
  cases dv
  obtain ⟨b, us, g2, gb, gw, ch⟩ := E1.pop.relist hi1
  have e : a = b := V.ref.inj (Option.some.inj (Option.some.inj (g1.symm.trans g2)))
  subst e
  have hl : us.length = xs.length := by rw [gw.len, List.length_map]
  obtain ⟨u, e1, e2⟩ := gw.get (i := j) (d := toD z) (by rw [List.getElem?_map, hz]; rfl)
  refine ⟨a, us, n, j, u, rfl, rfl, gb, h1, h2, by rw [hl]; exact (ixN_seq hj).1, e1, k _ _ ?_⟩
  refine (ch (xs.eraseIdx j) (us.eraseIdx j) ?_).push0 (dp_keep (mut_lst (b := a) gb) _ _ (En.imm _) e2)
  rw [List.eraseIdx_eq_take_drop_succ, List.eraseIdx_eq_take_drop_succ, List.map_append, List.map_take, List.map_drop]
  exact (dpAll_take _ gw).app (dpAll_drop _ gw)
end
end Sx

/-! Sx4: sorted of lists, tuples, dicts. -/
namespace Sx
open PySem
open PySem.Spec
open PyProof.Rows
open L2

def keyD : Key → PyData
  | .inl i => .int i
  | .inr x => .str x
/-- x is gone through as ds: a list, a tuple, a dict's keys -/
def Cls (K : PySem.W.Frag) (H : Hp) (a : Addr) (ds : List PyData) : Prop :=
  (∃ ws, SqL K H a ws ∧ DqAll K H ws ds) ∨ (∃ ws, H a = some (.tup ws) ∧ DqAll K H ws ds) ∨ (∃ kvs : List (Key × V), H a = some (.dK kvs) ∧ ds = kvs.map fun kv => keyD kv.1) ∨
    ∃ kvs : List (List Key × V), H a = some (.dT kvs) ∧ ds = kvs.map fun kv => .tuple (kv.1.map keyD)
section
variable {X : Cx} {pins : List (Addr × Obj)} {σ : L2.St} {H : Hp} {s : Shared}
theorem dq_key {K : PySem.W.Frag} {H : Hp} : ∀ k : Key, Dq K H (kV k) (keyD k)
  | .inl i => .int i
  | .inr x => .str x
theorem dq_keys {K : PySem.W.Frag} {H : Hp} : ∀ ks : List Key, DqAll K H (ks.map kV) (ks.map keyD)
  | [] => .nil
  | k :: ks => .cons (dq_key k) (dq_keys ks)
/-- from places to lists -/
theorem vals_at : ∀ {us : List Value} {ws : List V}, us.length = ws.length → (∀ (i : Nat) (u : Value) (w : V), us[i]? = some u → ws[i]? = some w → RelV w u) → Vals ws us
  | [], [], _, _ => .nil
  | [], _ :: _, h, _ => by cases h
  | _ :: _, [], h, _ => by cases h
  | u :: us, w :: ws, h, f => .cons (f 0 u w rfl rfl) (vals_at (by simpa using h) fun i u' w' h1 h2 => f (i + 1) u' w' (by simpa using h1) (by simpa using h2))
theorem keysT_list {K : PySem.W.Frag} {H : Hp} : ∀ {kvs : List (List Key × V)} {xs : List (List Key × Addr × Value)}, Paired (fun (p : List Key × V) (q : List Key × Addr × Value) => p.1 = q.1 ∧ H q.2.1 = some (.tup (p.1.map kV)) ∧ RelV p.2 q.2.2) kvs xs →
    DqAll K H (xs.map fun q => V.ref q.2.1) (kvs.map fun kv => .tuple (kv.1.map keyD)) ∧ xs.length = kvs.length
  | _, _, .nil => ⟨.nil, rfl⟩
  | _, _, .cons h t => by
    obtain ⟨i1, i2⟩ := keysT_list (K := K) t
    exact ⟨.cons (.tup h.2.1 (dq_keys _)) i1, by rw [List.length_cons, List.length_cons, i2]⟩
theorem keysK_list {K : PySem.W.Frag} {H : Hp} : ∀ kvs : List (Key × V), DqAll K H (kvs.map fun kv => kV kv.1) (kvs.map fun kv => keyD kv.1)
  | [] => .nil
  | kv :: kvs => .cons (dq_key kv.1) (keysK_list kvs)
theorem collect_cls {A' : Around} {a : Addr} {ds : List PyData} {E : Value → Shared → Prop} {Q : List Value → Shared → Prop} (I : Inv X pins σ H s) (hh : A'.handled = none) (h : Cls X.K H a ds)
    (hQ : ∀ h' tk ws us, (∀ b o, s.heap.get? b = some o → h'.get? b = some o) → Vals ws us → DqAll X.K H ws ds → us.length ≤ sizeLine → Q us { s with heap := h', toks := tk }) :
    wpAny (model X.prog X.w) A' (collect (.ref a)) Q E s := by
  rcases h with ⟨ws, hs, hd⟩ | ⟨ws, hs, hd⟩ | ⟨kvs, hk, rfl⟩ | ⟨kvs, hk, rfl⟩
  · obtain ⟨its, rv, ⟨o, n, ho, hc, _, hdt⟩, hz⟩ := I.list hs
    refine wpAny_collect_seq a (.inl rfl) ho hc hdt (fun h' k => hQ h' s.toks ws _ k ?_ hd ?_) (by rw [List.size_toArray, ← rv.length]; exact hz)
    · simpa using rv
    · simpa [← rv.length] using hz
  · obtain ⟨its, rv, ⟨o, ho, hc, n, hdt⟩, hz⟩ := I.tuple (SqT.of hs)
    refine wpAny_collect_seq a (.inr rfl) ho hc hdt (fun h' k => hQ h' s.toks ws _ k ?_ hd ?_) (by rw [List.size_toArray, ← rv.length]; exact hz)
    · simpa using rv
    · simpa [← rv.length] using hz
  · obtain ⟨hz, hsys, vs, kv, hdo⟩ := I.hok a _ hk
    obtain ⟨es, ep, raw, hsz, hes⟩ := hdo.raw
    have hl : es.size = kvs.length := by rw [hsz]; exact (Paired.length kv).symm
    refine PySem.W.kdu_collect (PySem.KdlSrc.rawDict (es := es) (ep := ep) hsys) hh raw (by rw [hl]; exact hz) fun h' tk acc k hacc => ?_
    refine hQ h' tk (kvs.map fun kv => kV kv.1) _ k (vals_at ?_ fun i u w h1 h2 => ?_) (keysK_list kvs) ?_
    · rw [List.length_map, Array.length_toList, hacc.1, hl]
    · have hi : i < es.size := by
        have := (List.getElem?_eq_some_iff.mp h1).1
        rw [Array.length_toList, hacc.1] at this; exact this
      obtain ⟨hi', e⟩ := hacc.2 i u (by rw [← Array.getElem?_toList]; exact h1)
      have hik : i < kvs.length := by omega
      have e2 : w = kV kvs[i].1 := by
        rw [List.getElem?_map, List.getElem?_eq_getElem hik] at h2
        exact (Option.some.inj h2).symm
      have hiv : i < vs.length := by rw [← Paired.length kv]; exact hik
      obtain ⟨ek, _⟩ := hes i hi vs[i].1 vs[i].2 (List.getElem?_eq_getElem hiv)
      have e3 : kvs[i].1 = vs[i].1 := by
        have : ∀ {l : List (Key × V)} {m : List (Key × Value)} {j : Nat} (h1 : j < l.length) (h2 : j < m.length), KV l m → l[j].1 = m[j].1 := by
          intro l m j h1 h2 p
          induction p generalizing j with
          | nil => exact absurd h1 (Nat.not_lt_zero _)
          | cons q t ih =>
            cases j with
            | zero => exact q.1
            | succ j => exact ih (by simpa using h1) (by simpa using h2)
        exact this hik hiv kv
      rw [e2, e3, e]
      rcases keyIs_shape ek with ⟨i', t, e4, e5⟩ | ⟨x', t, e4, e5⟩
      · rw [e4, e5]; exact ⟨t, rfl⟩
      · rw [e4, e5]; exact ⟨t, rfl⟩
    · rw [Array.length_toList, hacc.1, hl]; exact hz
  · obtain ⟨hz, hsys, xs, pr, o, es, ep, ho, hex, hdt, hes, nd⟩ := I.hok a _ hk
    obtain ⟨dk, hl⟩ := keysT_list (K := X.K) pr
    have hsz : es.size = xs.length := by rw [← Array.length_toList, hes, List.length_map]
    refine PySem.W.kdu_collect (PySem.KdlSrc.rawDict (es := es) (ep := ep) hsys) hh ⟨o, ho, hex, hdt⟩ (by omega) fun h' tk acc k hacc => ?_
    refine hQ h' tk _ _ k (vals_at ?_ fun i u w h1 h2 => ?_) dk ?_
    · rw [List.length_map, Array.length_toList, hacc.1, hsz]
    · obtain ⟨hi', e⟩ := hacc.2 i u (by rw [← Array.getElem?_toList]; exact h1)
      have hix : i < xs.length := by omega
      have e2 : w = V.ref xs[i].2.1 := by
        rw [List.getElem?_map, List.getElem?_eq_getElem hix] at h2
        exact (Option.some.inj h2).symm
      have e4 : es[i] = entryOfKey (tupleKind (mixKind X.prog X.w)) xs[i] := by
        have q : es.toList[i]? = some es[i] := by rw [Array.getElem?_toList]; exact Array.getElem?_eq_getElem hi'
        rw [hes, List.getElem?_map, List.getElem?_eq_getElem hix] at q
        exact (Option.some.inj q).symm
      rw [e2, e, e4]
      rfl
    · rw [Array.length_toList, hacc.1]; omega

/-! ### sorted -/
mutual
theorem reads_imm {h : Heap} : ∀ (d : PyData) (v : Value) (as : List Addr), imm d = true → Reads h v d as → as = []
  | .none, _, _, _, r => by cases r; rfl
  | .bool _, _, _, _, r => by cases r; rfl
  | .int _, _, _, _, r => by cases r; rfl
  | .str _, _, _, _, r => by cases r; rfl
  | .list _, _, _, z, _ => by rw [imm] at z; cases z
  | .tuple ds, _, _, z, r => by
    cases r with
    | tuple _ _ _ h4 => exact readsAll_imm ds _ _ (by rw [imm] at z; exact z) h4
  | .dict _, _, _, z, _ => by rw [imm] at z; cases z
theorem readsAll_imm {h : Heap} : ∀ (ds : List PyData) (vs : List Value) (as : List Addr), immAll ds = true → ReadsAll h vs ds as → as = []
  | [], _, _, _, r => by cases r; rfl
  | d :: ds, _, _, z, r => by
    rw [immAll, Bool.and_eq_true] at z
    cases r with
    | cons h1 h2 => rw [reads_imm d _ _ z.1 h1, readsAll_imm ds _ _ z.2 h2]; rfl
end
/-- values, and what they read as, side by side -/
abbrev Both := V × PyData
theorem both_is {us : List Value} : ∀ {ws : List V} {us : List Value} {ds : List PyData}, Vals ws us → ws.length = ds.length → PySem.W.EachIs (fun u (b : Both) => RelV b.1 u) us (ws.zip ds)
  | [], _, [], .nil, _ => .nil
  | [], _, _ :: _, _, h => by cases h
  | _ :: _, _, [], _, h => by cases h
  | w :: ws, _, d :: ds, .cons r t, h => .cons r (both_is (us := []) t (by simpa using h))
theorem both_out {us : List Value} : ∀ {us : List Value} {bs : List Both}, PySem.W.EachIs (fun u (b : Both) => RelV b.1 u) us bs → Vals (bs.map (·.1)) us
  | _, _, .nil => .nil
  | _, _, .cons r t => .cons r (both_out (us := []) t)
theorem dqAll_both {K : PySem.W.Frag} {H : Hp} : ∀ {bs : List Both}, (∀ b ∈ bs, Dq K H b.1 b.2) → DqAll K H (bs.map (·.1)) (bs.map (·.2))
  | [], _ => .nil
  | b :: bs, h => .cons (h b (by simp)) (dqAll_both fun c hc => h c (by simp [hc]))
theorem both_dq {K : PySem.W.Frag} {H : Hp} : ∀ {ws : List V} {ds : List PyData}, DqAll K H ws ds → ∀ b ∈ ws.zip ds, Dq K H b.1 b.2
  | _, _, .nil, b, h => by simp at h
  | _, _, .cons h1 t, b, h => by
    rw [List.zip_cons_cons, List.mem_cons] at h
    rcases h with rfl | h
    · exact h1
    · exact both_dq t b h
theorem zip_fst {ws : List V} {ds : List PyData} (h : ws.length = ds.length) : (ws.zip ds).map (·.1) = ws := by rw [List.map_fst_zip (by omega)]
theorem zip_snd {ws : List V} {ds : List PyData} (h : ws.length = ds.length) : (ws.zip ds).map (·.2) = ds := by rw [List.map_snd_zip (by omega)]
theorem reads_both {K : PySem.W.Frag} {h : Heap} (hd : ∀ (d : PyData) (w : V) (u : Value), Dq X.K H w d → RelV w u → ∃ as, Reads h u d as) : ∀ {ws : List V} {us : List Value} {ds : List PyData}, Vals ws us → DqAll X.K H ws ds → (∀ d ∈ ds, imm d = true) →
    PySem.W.EachIs (fun u (b : Both) => ∃ as, Reads h u b.2 as ∧ as = []) us (ws.zip ds)
  | _, _, _, .nil, .nil, _ => .nil
  | _, _, _, .cons r t, .cons h1 t2, hi => by
    refine .cons ?_ (reads_both (K := K) hd t t2 fun d hm => hi d (by simp [hm]))
    obtain ⟨as, q⟩ := hd _ _ _ h1 r
    exact ⟨as, q, reads_imm _ _ _ (hi _ (by simp)) q⟩
/-- what sorted asks: how the things are ordered is told by data k of them -/
structure SortOk (ds : List PyData) : Prop where
  alike : PySem.W.AllAlike ds
  sortable : 2 ≤ ds.length → PySem.W.Sortable ds
  deep : ∀ d ∈ ds, d.depth ≤ 64
abbrev srt (ds : List PyData) : List PyData := ds.mergeSort (PySem.W.dataLe false id)
def rSortC (K : PySem.W.Frag) : List V → Hp → VK → Prop := fun xs H Q => ∃ (a : Addr) (ds : List PyData), xs = [.ref a] ∧ Cls K H a ds ∧ SortOk ds ∧ (∀ d ∈ ds, imm d = true) ∧
  ∀ p ws, H p = none → DqAll K H ws (srt ds) → Q (.ref p) (upd H p (.lst ws))
theorem snd_sort (bs : List Both) (k : PyData → PyData) : (bs.mergeSort (PySem.W.dataLe false fun b => k b.2)).map (·.2) = (bs.map (·.2)).mergeSort (PySem.W.dataLe false k) :=
  PySem.W.sort_maps (fun b : Both => b.2) fun _ _ _ _ => rfl
theorem sort_short {α : Type} {le : α → α → Bool} : ∀ {l : List α}, l.length < 2 → l.mergeSort le = l
  | [], _ => by simp [List.mergeSort]
  | [a], _ => by simp [List.mergeSort]
  | _ :: _ :: _, h => absurd h (by simp)
theorem cr_sortC (hu : X.A.units + 80 < cLine) (hc : X.calm = true) : CallR X (.builtin "sorted") (rSortC X.K) := by
  intro pins s σ H xs us Q I r h
  obtain ⟨a, ds, rfl, hcl, ok, him, q⟩ := h
  obtain ⟨u, rfl, ru⟩ := vals1 r
  obtain rfl : u = Value.ref a := ru
  refine Calls.call_function_entry kind_sorted plain_sorted entry_sorted (args_sorted1 _) ?_
  unfold Builtin.«sorted»
  refine wpAny_bind (m := checkCount "sorted" 1 1 _) (wpAny_pure ?_)
  refine wpAny_bind (collect_cls (A' := X.A.in1) I (I.ok.hd hc) hcl fun h' tk ws vs k rv hd hz => ?_)
  have hl : ws.length = ds.length := hd.len
  have hlv : ws.length = vs.length := rv.length
  refine wpAny_bind (wpAny_newList ?_ hz)
  have I1 : L2.Inv X pins σ H { s with heap := h', toks := tk } := I.kept k
  have I2 : L2.Inv X pins σ H { s with heap := h'.push (seqObj "list" vs.toArray 0), toks := tk } := I1.kept (h' := h'.push (seqObj "list" vs.toArray 0)) (t' := tk) fun b o e => Heap.get?_push_of_some _ e
  have hob : (h'.push (seqObj "list" vs.toArray 0)).get? h'.objs.size = some (seqObj "list" vs.toArray 0) := Heap.get?_push_size _ rfl
  have rd := reads_both (K := X.K) (h := h'.push (seqObj "list" vs.toArray 0)) (fun d w u hw ru => Dp.reads I2 d w u hw.p ru) rv hd him
  have fin : ∀ out : List Value, PySem.W.EachIs (fun u (b : Both) => RelV b.1 u) out ((ws.zip ds).mergeSort (PySem.W.dataLe false fun b => b.2)) → out.length = ds.length →
      EP X pins σ Q (.ref h'.objs.size) { s with heap := sortedHeap (h'.push (seqObj "list" vs.toArray 0)) h'.objs.size vs out.toArray, toks := tk } := fun out ho hlo => by
    have nP : H h'.objs.size = none := I1.hok.fresh (Nat.le_refl _)
    obtain ⟨c, hcc⟩ := sortedHeap_at (vs := vs) (out := out.toArray) hob
    refine ⟨.ref h'.objs.size, upd H h'.objs.size (.lst (((ws.zip ds).mergeSort (PySem.W.dataLe false fun b : Both => b.2)).map (·.1))), I1.laid (t' := tk) (h' := sortedHeap (h'.push (seqObj "list" vs.toArray 0)) h'.objs.size vs out.toArray) (fun b o e => ?_) (Nat.le_refl _) ⟨?_, out, c, both_out (us := []) ho, hcc⟩, rfl, q _ _ nP ?_⟩
    · have hlt := Heap.lt_size e
      rw [sortedHeap_old (Nat.ne_of_lt hlt) (by rw [size_push']; exact Nat.lt_succ_of_lt hlt)]
      exact Heap.get?_push_of_some _ e
    · rw [List.length_map, List.length_mergeSort, List.length_zip]; omega
    · have e := snd_sort (ws.zip ds) id
      rw [zip_snd hl] at e
      show DqAll X.K H _ (ds.mergeSort (PySem.W.dataLe false id))
      rw [← e]
      exact dqAll_both fun b hb => both_dq hd b (List.mem_mergeSort.mp hb)
  refine wpAny_bind (wpAny_holding ?_)
  by_cases h2 : 2 ≤ ds.length
  · have e1 : (ws.zip ds).map (fun b : Both => b.2) = ds := zip_snd hl
    refine PySem.W.list_sort_data (R := fun u (b : Both) => RelV b.1 u) (enc := fun b : Both => b.2) (s := { s with heap := h'.push (seqObj "list" vs.toArray 0), toks := tk }) hob (both_is (us := []) rv hl) (rd.mono fun u b ⟨as, h1, h2⟩ => ⟨as, h1, by rw [h2]; simp⟩) (by rw [e1]; exact ok.alike) (by rw [e1]; exact ok.sortable h2)
      (by rw [List.length_zip]; omega) (fun b hb => ?_) fun out ho hE => ?_
    · have := ok.deep b.2 (by rw [← e1]; exact List.mem_map.mpr ⟨b, hb, rfl⟩)
      show X.A.units + 1 + 1 + _ < cLine
      omega
    · exact wpAny_pure ⟨_, rfl, fin out hE (by rw [ho, List.length_zip]; omega)⟩
  · refine wpAny_call_entry slot_list_sort ⟨_, hob, rfl⟩ entry_list_sort (SrtO.list_sort_ord (s := { s with heap := h'.push (seqObj "list" vs.toArray 0), toks := tk }) (ltv := fun _ _ => false) ⟨fun _ _ h => (nomatch h), fun _ _ _ _ _ => rfl⟩ hob hz (fun h => absurd h (by omega)) fun out h1 h3 => ⟨_, rfl, ?_⟩) (args_list_sort _)
    have e3 : out = vs := by
      have hp := h3.perm
      have hlo := hp.length_eq
      match out, vs, hp, hlo with
      | [], [], _, _ => rfl
      | [x], [y], hp, _ => rw [List.singleton_perm.mp hp]
      | [], _ :: _, _, h => cases h
      | [x], [], _, h => cases h
      | [x], _ :: _ :: _, _, h => simp at h
      | _ :: _ :: _, l, _, h => rw [List.length_cons, List.length_cons] at h; omega
    rw [e3]
    refine wpAny_pure ⟨_, rfl, fin vs ?_ (by omega)⟩
    rw [sort_short (by rw [List.length_zip]; omega)]
    exact both_is (us := []) rv hl
end
end Sx

/-! Sx5: sorted(x, key=len), repr, dicts with tuple keys. -/
namespace Sx
open PySem
open PySem.Spec
open PyProof.Rows
open L2
def lenD : PyData → Int
  | .tuple xs => xs.length
  | _ => 0
section
variable {X : Cx}
def rSortLen (K : PySem.W.Frag) : List V → Hp → VK → Prop := fun vs H Q => ∃ (a : Addr) (ds : List PyData), vs = [.ref a] ∧ Cls K H a ds ∧ (∀ d ∈ ds, ∃ es, d = .tuple es) ∧
  ∀ p ws, H p = none → DqAll K H ws (ds.mergeSort (PySem.W.dataLe false fun d => .int (lenD d))) → Q (.ref p) (upd H p (.lst ws))
theorem run_sortLen {pins : List (Addr × Obj)} {s : Shared} {σ : L2.St} {H : Hp} {xs : List V} {us : List Value} {Q : VK} (hu : X.A.units + 80 < cLine) (hc : X.calm = true) (I : L2.Inv X pins σ H s) (r : Vals xs us) (h : rSortLen X.K xs H Q) :
    wpAny (model X.prog X.w) X.A (call (.builtin "sorted") us [(Str.ofString "key", .builtin "len")]) (EP X pins σ Q) X.xe s := by
  obtain ⟨a, ds, rfl, hcl, htu, q⟩ := h
  obtain ⟨u, rfl, ru⟩ := vals1 r
  obtain rfl : u = Value.ref a := ru
  refine call_function_entry_kw kind_sorted plain_sorted entry_sorted (PyProof.Rows.ksk_s1 _ _) ?_
  unfold Builtin.«sorted»
  refine wpAny_bind (m := checkCount "sorted" 1 1 _) (wpAny_pure ?_)
  refine wpAny_bind (collect_cls (A' := X.A.in1) I (I.ok.hd hc) hcl fun h' tk ws vs k rv hd hz => ?_)
  have hl : ws.length = ds.length := hd.len
  have hlv : ws.length = vs.length := rv.length
  refine wpAny_bind (wpAny_newList ?_ hz)
  have I1 : L2.Inv X pins σ H { s with heap := h', toks := tk } := I.kept k
  have I2 : L2.Inv X pins σ H { s with heap := h'.push (seqObj "list" vs.toArray 0), toks := tk } := I1.kept (h' := h'.push (seqObj "list" vs.toArray 0)) (t' := tk) fun b o e => Heap.get?_push_of_some _ e
  have hob : (h'.push (seqObj "list" vs.toArray 0)).get? h'.objs.size = some (seqObj "list" vs.toArray 0) := Heap.get?_push_size _ rfl
  refine wpAny_bind (wpAny_holding ?_)
  have hn := line63
  refine PySem.W.list_sort_key_data (R := fun u (b : Both) => RelV b.1 u) (b := false) (bs := ws.zip ds) (fun b : Both => .int (lenD b.2)) (s := { s with heap := h'.push (seqObj "list" vs.toArray 0), toks := tk }) hob (both_is (us := []) rv hl)
    (fun d hd2 d' hd3 => ?_) (.inr fun d hd2 => ?_) (by rw [List.length_zip]; omega) (fun b hb => ?_) (PyProof.Rows.ksk_l1 _ _) (PyProof.Rows.ksk_t4 "len" _) (fun v b hR hb h2 tk2 kb => ?_) fun out c h2 tk2 kb ho hlo hE => ?_
  · obtain ⟨b, _, rfl⟩ := List.mem_map.mp hd2
    obtain ⟨b', _, rfl⟩ := List.mem_map.mp hd3
    rfl
  · obtain ⟨b, _, rfl⟩ := List.mem_map.mp hd2
    exact ⟨nofun, nofun⟩
  · show X.A.units + 1 + 1 + 0 < cLine
    omega
  · obtain ⟨w, d⟩ := b
    have hdq := both_dq hd (w, d) hb
    obtain ⟨es, rfl⟩ := htu d (List.of_mem_zip hb).2
    cases hdq with
    | tup hs hes =>
      rename_i t us'
      obtain rfl : v = Value.ref t := hR
      obtain ⟨its, r', ⟨o, ho, hcl2, n, hdt⟩, hz2⟩ := I2.tuple (SqT.of hs)
      have hne : t ≠ h'.objs.size := fun e => by
        rw [e, hob] at ho
        cases ho
        have : Value.type "list" = Value.type "tuple" := hcl2
        exact absurd this (by decide)
      have hlen : its.toArray.size = es.length := by rw [List.size_toArray, ← r'.length, hes.len]
      refine PyProof.Rows.len_tuple (items := its.toArray) (s := { s with heap := h2, toks := tk2 }) ⟨o, kb t o hne ho, hcl2, n, hdt⟩ (by rw [hlen]; have := r'.length; have := hes.len; omega) ?_
      rw [hlen]
      exact ⟨h2, _, rfl, fun _ _ e => e, .int _ _⟩
  · have nP : H h'.objs.size = none := I1.hok.fresh (Nat.le_refl _)
    refine wpAny_pure ⟨_, rfl, .ref h'.objs.size, upd H h'.objs.size (.lst (((ws.zip ds).mergeSort (PySem.W.dataLe false fun b : Both => .int (lenD b.2))).map (·.1))), I1.laid (t' := tk2) (h' := h2) (fun b o e => ?_) (Nat.le_refl _) ⟨?_, out, c, both_out (us := []) hE, ho⟩, rfl, q _ _ nP ?_⟩
    · exact kb b o (Nat.ne_of_lt (Heap.lt_size e)) (Heap.get?_push_of_some _ e)
    · rw [List.length_map, List.length_mergeSort, List.length_zip]; omega
    · have e := snd_sort (ws.zip ds) (fun d => .int (lenD d))
      rw [zip_snd hl] at e
      rw [← e]
      exact dqAll_both fun b hb => both_dq hd b (List.mem_mergeSort.mp hb)
/-- sorted(x, key=len) -/
theorem pe_sortLen {e : Expr} {t : TA} {p p2 pos kpos : Pos} (hu : X.A.units + 80 < cLine) (hc : X.calm = true) (ha : PA X [e] t) (hg : Gl X "sorted") (hm : X.mg "sorted" = none) (hg2 : Gl X "len") (hm2 : X.mg "len" = none)
    (he : backTo pos (starEach [e] X.env) = (false, eval e X.env) :: backTo pos (starEach [] X.env) := by rfl) (hpl : (backTo pos (starEach [e] X.env)).any (·.1) = false := by rfl) :
    PE X (.Call (.Name "sorted" p) [e] [⟨some "key", .Name "len" p2, kpos⟩] pos) (tCB (rSortLen X.K) t) := by
  refine ⟨fun pins s σ H Q I h => ?_⟩
  refine wpAny_Call_Name_kw (ld_blt I hg hm (by decide +kernel : bootBuiltins "sorted" = some (.builtin "sorted")) ?_)
  refine PyProof.Rows.callWith_kw (thn (ha.run pos pins s σ H _ I h) fun us s1 ⟨vs, H1, I1, r1, q1⟩ => ?_) he hpl
  show wpAny _ _ (evalAll ((do let v ← eval (.Name "len" p2) X.env; standAt pos; pure v) :: [])) _ _ s1
  refine wpAny_evalAll_cons (wpAny_bind (ld_blt I1 hg2 hm2 PySem.boot_len (wpAny_bind (wpAny_standAt (wpAny_pure (wpAny_evalAll_nil ?_))))))
  exact run_sortLen hu hc I1 r1 q1
end
end Sx

/-! Sx6: dicts made of lists of pairs, updated. -/
namespace Sx
open PySem
open PySem.Spec
open PyProof.Rows
open L2

/-! ### tuple keys -/
theorem paired_any {H : Hp} {kvs : List (List Key × V)} {xs : List (List Key × Addr × Value)} (h : Paired (fun (p : List Key × V) (q : List Key × Addr × Value) => p.1 = q.1 ∧ H q.2.1 = some (.tup (p.1.map kV)) ∧ RelV p.2 q.2.2) kvs xs) (k : List Key) :
    (kvs.any fun kv => decide (kv.1 = k)) = (atKey xs k).isSome := by
  induction h with
  | nil => rfl
  | @cons p q ps qs h t ih =>
    rw [List.any_cons, ih]
    unfold atKey
    rw [List.find?_cons, h.1]
    by_cases e : q.1 = k
    · simp [e]
    · simp [e]
theorem paired_put {H : Hp} {kvs : List (List Key × V)} {xs : List (List Key × Addr × Value)} {k : List Key} {b : Addr} {v : V} {u : Value} (h : Paired (fun (p : List Key × V) (q : List Key × Addr × Value) => p.1 = q.1 ∧ H q.2.1 = some (.tup (p.1.map kV)) ∧ RelV p.2 q.2.2) kvs xs)
    (hb : H b = some (.tup (k.map kV))) (r : RelV v u) : Paired (fun (p : List Key × V) (q : List Key × Addr × Value) => p.1 = q.1 ∧ H q.2.1 = some (.tup (p.1.map kV)) ∧ RelV p.2 q.2.2) (putK kvs k v) (storedH xs k b u) := by
  unfold putK storedH
  rw [paired_any h k]
  split
  · rename_i hsome
    clear hb hsome
    induction h with
    | nil => exact .nil
    | @cons p q ps qs h t ih =>
      refine .cons ?_ ih
      unfold putAt
      show (if p.1 = k then (p.1, v) else p).1 = (if q.1 = k then (q.1, q.2.1, u) else q).1 ∧ H (if q.1 = k then (q.1, q.2.1, u) else q).2.1 = some (.tup ((if p.1 = k then (p.1, v) else p).1.map kV)) ∧ RelV (if p.1 = k then (p.1, v) else p).2 (if q.1 = k then (q.1, q.2.1, u) else q).2.2
      by_cases e : q.1 = k
      · rw [if_pos e, if_pos (h.1.trans e)]; exact ⟨h.1, h.2.1, r⟩
      · rw [if_neg e, if_neg (fun z => e (h.1.symm.trans z))]; exact h
  · exact Paired.snoc h ⟨rfl, hb, r⟩
def mergeT (kvs more : List (List Key × V)) : List (List Key × V) := more.foldl (fun acc kv => putK acc kv.1 kv.2) kvs
theorem paired_merge {H : Hp} : ∀ {more : List (List Key × V)} {ys : List (List Key × Addr × Value)} {kvs : List (List Key × V)} {xs : List (List Key × Addr × Value)},
    Paired (fun (p : List Key × V) (q : List Key × Addr × Value) => p.1 = q.1 ∧ H q.2.1 = some (.tup (p.1.map kV)) ∧ RelV p.2 q.2.2) more ys → Paired (fun (p : List Key × V) (q : List Key × Addr × Value) => p.1 = q.1 ∧ H q.2.1 = some (.tup (p.1.map kV)) ∧ RelV p.2 q.2.2) kvs xs →
    Paired (fun (p : List Key × V) (q : List Key × Addr × Value) => p.1 = q.1 ∧ H q.2.1 = some (.tup (p.1.map kV)) ∧ RelV p.2 q.2.2) (mergeT kvs more) (storedAllH xs ys)
  | _, _, _, _, .nil, h => h
  | _, _, _, _, .cons (a := p) (b := q) h1 t, h => by
    refine paired_merge t (kvs := putK _ p.1 p.2) (xs := storedH _ q.1 q.2.1 q.2.2) ?_
    rw [h1.1]
    exact paired_put h (by rw [← h1.1]; exact h1.2.1) h1.2.2
section
variable {X : Cx} {pins : List (Addr × Obj)} {σ : L2.St} {H : Hp} {s : Shared}
theorem items_keys : ∀ {ks : List Key} {us : List Value}, Vals (ks.map kV) us → ItemsAre (mixKind X.prog X.w) ks us
  | [], _, r => by cases r; exact .nil
  | k :: ks, _, r => by
    rw [List.map_cons] at r
    cases r with
    | cons r t => exact .cons (kV_is (P := X.prog) (w := X.w) r) (items_keys t)
theorem key_at (I : L2.Inv X pins σ H s) {b : Addr} {ks : List Key} (h : H b = some (.tup (ks.map kV))) : (tupleKind (mixKind X.prog X.w)).is s.heap ks b := by
  obtain ⟨its, rv, ⟨o, ho, hc, n, hd⟩, _⟩ := I.tuple (SqT.of (K := X.K) h)
  exact ⟨o, _, n, ho, hc, hd, by simpa using items_keys rv⟩
/-- pairs of a tuple key and a value -/
abbrev PrT (H : Hp) (ts : List Addr) (qs : List (List Key × Addr × V)) : Prop := Paired (fun t (q : List Key × Addr × V) => H t = some (.tup [.ref q.2.1, q.2.2]) ∧ H q.2.1 = some (.tup (q.1.map kV))) ts qs
theorem prT_raw (I : L2.Inv X pins σ H s) : ∀ {ts : List Addr} {qs : List (List Key × Addr × V)}, PrT H ts qs → ∃ ps : List (List Key × Addr × Value), ps.length = ts.length ∧ qs.length = ts.length ∧
    Paired (fun (p : List Key × V) (q : List Key × Addr × Value) => p.1 = q.1 ∧ H q.2.1 = some (.tup (p.1.map kV)) ∧ RelV p.2 q.2.2) (qs.map fun q => (q.1, q.2.2)) ps ∧
    ∀ (j : Nat) (p : List Key × Addr × Value), ps[j]? = some p → ∃ t, ts[j]? = some t ∧ PairAt s.heap t (.ref p.2.1) p.2.2 ∧ H p.2.1 = some (.tup (p.1.map kV))
  | _, _, .nil => ⟨[], rfl, rfl, .nil, fun j p e => by simp at e⟩
  | _, _, .cons (a := t) (b := q) h r => by
    obtain ⟨ps, h1, h1', h2, h3⟩ := prT_raw I r
    obtain ⟨its, rv, ht, _⟩ := I.tuple (SqT.of (K := X.K) h.1)
    obtain ⟨u, y, ei, ru, ry⟩ := vals2 rv
    obtain rfl : u = Value.ref q.2.1 := ru
    subst ei
    refine ⟨(q.1, q.2.1, y) :: ps, by simp [h1], by simp [h1'], .cons ⟨rfl, h.2, ry⟩ h2, fun j p e => ?_⟩
    cases j with
    | zero =>
      cases (show some (q.1, q.2.1, y) = some p from e)
      exact ⟨t, rfl, .inl ht, h.2⟩
    | succ j =>
      obtain ⟨t', e1, e2⟩ := h3 j p (by simpa using e)
      exact ⟨t', by simpa using e1, e2⟩
def rDictT (K : PySem.W.Frag) : List V → Hp → VK → Prop := fun xs H Q => ∃ (a : Addr) (ts : List Addr) (qs : List (List Key × Addr × V)), xs = [.ref a] ∧ SqL K H a (ts.map V.ref) ∧ PrT H ts qs ∧
  ∀ p, H p = none → Q (.ref p) (upd H p (.dT (mergeT [] (qs.map fun q => (q.1, q.2.2)))))
theorem mergeT_len : ∀ (more kvs : List (List Key × V)), (mergeT kvs more).length ≤ kvs.length + more.length
  | [], kvs => by show kvs.length ≤ kvs.length + 0; omega
  | p :: r, kvs => by
    have h1 := mergeT_len r (putK kvs p.1 p.2)
    have h2 := length_putK kvs p.1 p.2
    show (mergeT (putK kvs p.1 p.2) r).length ≤ _
    rw [List.length_cons]; omega
theorem call_dictT (hu : X.A.units + 10 < cLine) (hc : X.calm = true) : CallR X (.type "dict") (rDictT X.K) := by
  intro pins s σ H xs us Q I r q
  obtain ⟨a, ts, qs, rfl, hs, hp, q⟩ := q
  obtain ⟨u, rfl, ru⟩ := vals1 r
  obtain rfl : u = Value.ref a := ru
  obtain ⟨its, rv, pl, hz⟩ := I.list hs
  have ei := refs_at rv
  subst ei
  rw [List.length_map] at hz
  obtain ⟨ps, h1, h1', h2, h3⟩ := prT_raw I hp
  have PA := PairArg.list (prog := X.prog) (w := X.w) a (ts.map Value.ref).toArray (fun j => ts.getD j 0) (ps.map fun p => (Value.ref p.2.1, p.2.2))
  refine PySem.call_dict_pairsH (knd := tupleKind (mixKind X.prog X.w)) (ps := ps) PA (I.ok.hd hc) (by show X.A.units + 1 + 1 < cLine; omega) ⟨pl, ?_⟩ ?_ ?_ (by rw [List.length_map]; omega) fun h' tk hd' k => ?_
  · refine ⟨by simp [h1], fun j k v hj => ?_⟩
    rw [List.getElem?_map] at hj
    cases e : ps[j]? with
    | none => rw [e] at hj; cases hj
    | some p =>
      rw [e] at hj
      cases hj
      obtain ⟨t, e1, e2, _⟩ := h3 j p e
      have e4 : ts.getD j 0 = t := by rw [List.getD_eq_getElem?_getD, e1]; rfl
      refine ⟨by simp [e1, e4], ?_⟩
      show PairAt s.heap (ts.getD j 0) _ _
      rw [e4]; exact e2
  · refine ⟨by simp, fun i key v hr => ?_⟩
    have hr' : (ps.map fun p => (Value.ref p.2.1, p.2.2))[i]? = some (key, v) := hr
    rw [List.getElem?_map] at hr'
    cases e : ps[i]? with
    | none => rw [e] at hr'; cases hr'
    | some p =>
      rw [e] at hr'
      cases hr'
      exact ⟨p.1, p.2.1, rfl, rfl⟩
  · intro h' hk x hx
    obtain ⟨j, hj⟩ := List.getElem?_of_mem hx
    obtain ⟨_, _, _, e3⟩ := h3 j x hj
    obtain ⟨o, items, n, ho, hcl, hd, hi⟩ := key_at I e3
    exact ⟨o, items, n, hk _ _ (Nat.ne_of_lt (Heap.lt_size ho)) (by simp) ho, hcl, hd, hi⟩
  · have hm : (s.heap.objs.size == sysModules) = false := beq_eq_false_iff_ne.mpr (Nat.ne_of_gt I.big)
    have nP : H s.heap.objs.size = none := I.hok.fresh (Nat.le_refl _)
    have hl : (mergeT [] (qs.map fun q => (q.1, q.2.2))).length ≤ sizeLine := by
      refine Nat.le_trans (mergeT_len _ _) ?_
      rw [List.length_nil, List.length_map]; omega
    obtain ⟨o, es, ep, ho, hex, hdt, hes, his, nd⟩ := hd'
    refine ⟨.ref s.heap.objs.size, upd H s.heap.objs.size (.dT (mergeT [] (qs.map fun q => (q.1, q.2.2)))), I.laid (t' := tk) (fun b o e => k b o (by simp) e) (Nat.le_refl _) ⟨hl, hm, storedAllH [] ps, ?_, o, es, ep, ho, hex, hdt, hes, nd⟩, rfl, q _ nP⟩
    refine Paired.mapP (paired_merge h2 .nil) fun x y z => ⟨z.1, ?_, z.2.2⟩
    rw [upd_ne (ne_of_none z.2.1 nP)]
    exact z.2.1

/-! ### d.update(e), int and text keys -/
def rDUpd : V → List V → Hp → VK → Prop := fun x vs H Q => ∃ (d o : Addr) (kvs more : List (Key × V)), x = .ref d ∧ vs = [.ref o] ∧ d ≠ o ∧ H d = some (.dK kvs) ∧ H o = some (.dK more) ∧ kvs.length + more.length ≤ sizeLine ∧ Q .non (upd H d (.dK (mergeK kvs more)))
theorem mt_dupd : MtR X "dict.update" rDUpd := by
  intro pins s σ H x vs v us Q I rx rv h
  obtain ⟨d, o, kvs, more, rfl, rfl, hne, hd, ho, hz, q⟩ := h
  cases rx
  obtain ⟨u, rfl, ru⟩ := rv.one
  cases ru
  obtain ⟨z1, y1, vs1, kv1, hd1⟩ := I.hok d _ hd
  obtain ⟨z2, y2, vs2, kv2, hd2⟩ := I.hok o _ ho
  have l1 : vs1.length = kvs.length := (Paired.length kv1).symm
  have l2 : vs2.length = more.length := (Paired.length kv2).symm
  refine call_meetsIn PySem.F.slot_dict_update hd1.typeIs PySem.F.entry_dict_update (PySem.F.args_dict_update_2 _ _) (meets_dict_update (mixKind X.prog X.w) d o hne y2) ⟨vs1, vs2, hd1, hd2, by omega, fun h' hd' ho' hs => ?_⟩
  have hlen : (mergeK kvs more).length ≤ sizeLine := Nat.le_trans (length_mergeK more kvs) hz
  refine ⟨.non, upd H d (.dK (mergeK kvs more)), I.write (x := d) (e := d) (t' := s.toks) (by rw [hd]; exact trivial) (.inl rfl) (fun b u hb e => (hs.2 b hb).trans e) ?_ ⟨hlen, y1, merged vs1 vs2, KV.merge kv2 kv1, hd'⟩, rfl, q⟩
  obtain ⟨o', _, _, e, _⟩ := hd'
  exact ⟨o', e⟩
end

/-! ### dicts of one's own: typed -/
section
variable {K : PySem.W.Frag} {Fh H H' : Hp} {Γ Γ1 Γ2 Γ' : Ctx K} {σ : L2.St} {T : List (Sl K)} {vs : List V} {v : V} {r : Rs K} {d : PyData} {α β : Type} [En α] [En β] {te : TE}
/-- later ones win, in the first one's place -/
def aput {κ γ : Type} [DecidableEq κ] (m : List (κ × γ)) (k : κ) (v : γ) : List (κ × γ) :=
  if (m.any fun p => decide (p.1 = k)) = true then m.map (fun p => if p.1 = k then (p.1, v) else p) else m ++ [(k, v)]
def amerge {κ γ : Type} [DecidableEq κ] (m more : List (κ × γ)) : List (κ × γ) := more.foldl (fun acc p => aput acc p.1 p.2) m
/-- values beside typed ones -/
abbrev KvI (K : PySem.W.Frag) (H : Hp) (kvs : List (Key × V)) (m : List (Int × β)) : Prop := Paired (fun (kv : Key × V) (p : Int × β) => kv.1 = Sum.inl p.1 ∧ Dq K H kv.2 (toD p.2)) kvs m
abbrev KvT (K : PySem.W.Frag) (H : Hp) (kvs : List (List Key × V)) (m : List (List Int × β)) : Prop := Paired (fun (kv : List Key × V) (p : List Int × β) => kv.1 = p.1.map Sum.inl ∧ Dq K H kv.2 (toD p.2)) kvs m
theorem kvI_keep (k : KeepT H H') {kvs : List (Key × V)} {m : List (Int × β)} (h : KvI K H kvs m) : KvI K H' kvs m := Paired.mapP h fun _ _ z => ⟨z.1, dp_keep k _ _ (En.imm _) z.2⟩
theorem kvT_keep (k : KeepT H H') {kvs : List (List Key × V)} {m : List (List Int × β)} (h : KvT K H kvs m) : KvT K H' kvs m := Paired.mapP h fun _ _ z => ⟨z.1, dp_keep k _ _ (En.imm _) z.2⟩
theorem pair_put {κ κ' γ : Type} [DecidableEq κ] [DecidableEq κ'] {R : κ → κ' → Prop} {S : V → γ → Prop} (hR : ∀ a b a' b', R a b → R a' b' → (a = a' ↔ b = b')) {kvs : List (κ × V)} {m : List (κ' × γ)} (h : Paired (fun (kv : κ × V) (p : κ' × γ) => R kv.1 p.1 ∧ S kv.2 p.2) kvs m) {k : κ} {k' : κ'} {w : V} {b : γ}
    (hk : R k k') (hw : S w b) : Paired (fun (kv : κ × V) (p : κ' × γ) => R kv.1 p.1 ∧ S kv.2 p.2) (putK kvs k w) (aput m k' b) := by
  unfold putK aput
  have e : (kvs.any fun kv => decide (kv.1 = k)) = (m.any fun p => decide (p.1 = k')) := by
    induction h with
    | nil => rfl
    | @cons p q ps qs h t ih =>
      rw [List.any_cons, List.any_cons, ih]
      have z := hR _ _ _ _ h.1 hk
      congr 1
      exact decide_eq_decide.mpr z
  rw [e]
  split
  · rename_i hsome
    clear hsome e
    induction h with
    | nil => exact .nil
    | @cons p q ps qs h t ih =>
      refine .cons ?_ ih
      have z := hR _ _ _ _ h.1 hk
      show R (if p.1 = k then (p.1, w) else p).1 (if q.1 = k' then (q.1, b) else q).1 ∧ S (if p.1 = k then (p.1, w) else p).2 (if q.1 = k' then (q.1, b) else q).2
      by_cases y : q.1 = k'
      · rw [if_pos y, if_pos (z.mpr y)]; exact ⟨h.1, hw⟩
      · rw [if_neg y, if_neg fun q => y (z.mp q)]; exact h
  · exact Paired.snoc h ⟨hk, hw⟩
theorem kvI_put {kvs : List (Key × V)} {m : List (Int × β)} (h : KvI K H kvs m) {i : Int} {w : V} {b : β} (hw : Dq K H w (toD b)) : KvI K H (putK kvs (Sum.inl i) w) (aput m i b) :=
  pair_put (R := fun (k : Key) (i : Int) => k = Sum.inl i) (S := fun w b => Dq K H w (toD b)) (fun a b a' b' h1 h2 => by subst h1 h2; exact ⟨fun e => Sum.inl.inj e, fun e => by rw [e]⟩) h rfl hw
theorem map_inl_inj : ∀ {a b : List Int}, a.map (Sum.inl : Int → Key) = b.map Sum.inl → a = b
  | [], [], _ => rfl
  | [], _ :: _, h => by cases h
  | _ :: _, [], h => by cases h
  | x :: a, y :: b, h => by
    rw [List.map_cons, List.map_cons, List.cons.injEq] at h
    rw [Sum.inl.inj h.1, map_inl_inj h.2]
theorem kvT_put {kvs : List (List Key × V)} {m : List (List Int × β)} (h : KvT K H kvs m) {i : List Int} {w : V} {b : β} (hw : Dq K H w (toD b)) : KvT K H (putK kvs (i.map Sum.inl) w) (aput m i b) :=
  pair_put (R := fun (k : List Key) (i : List Int) => k = i.map Sum.inl) (S := fun w b => Dq K H w (toD b)) (fun a b a' b' h1 h2 => by subst h1 h2; exact ⟨fun e => map_inl_inj e, fun e => by rw [e]⟩) h rfl hw
theorem kvI_merge : ∀ {more : List (Key × V)} {ps : List (Int × β)} {kvs : List (Key × V)} {m : List (Int × β)}, KvI K H more ps → KvI K H kvs m → KvI K H (mergeK kvs more) (amerge m ps)
  | _, _, _, _, .nil, h => h
  | _, _, _, _, .cons (a := p) (b := q) h1 t, h => by
    refine kvI_merge t (kvs := putK _ p.1 p.2) (m := aput _ q.1 q.2) ?_
    rw [h1.1]
    exact kvI_put h h1.2
theorem kvT_merge : ∀ {more : List (List Key × V)} {ps : List (List Int × β)} {kvs : List (List Key × V)} {m : List (List Int × β)}, KvT K H more ps → KvT K H kvs m → KvT K H (mergeT kvs more) (amerge m ps)
  | _, _, _, _, .nil, h => h
  | _, _, _, _, .cons (a := p) (b := q) h1 t, h => by
    refine kvT_merge t (kvs := putK _ p.1 p.2) (m := aput _ q.1 q.2) ?_
    rw [h1.1]
    exact kvT_put h h1.2
def dI (m : List (Int × β)) : Sl K := ⟨fun H S v => ∃ a kvs, v = .ref a ∧ S a ∧ H a = some (.dK kvs) ∧ KvI K H kvs m, fun ⟨a, kvs, e, s, h, q⟩ hS hH k => ⟨a, kvs, e, hS _ s, by rw [hH _ s]; exact h, kvI_keep k q⟩⟩
def dL (m : List (List Int × β)) : Sl K := ⟨fun H S v => ∃ a kvs, v = .ref a ∧ S a ∧ H a = some (.dT kvs) ∧ KvT K H kvs m, fun ⟨a, kvs, e, s, h, q⟩ hS hH k => ⟨a, kvs, e, hS _ s, by rw [hH _ s]; exact h, kvT_keep k q⟩⟩
/-- pairs in a list, int keys -/
theorem prs_int : ∀ {ws : List V} {ps : List (Int × β)}, DqAll K H ws (ps.map toD) → ∃ (ts : List Addr) (kvs : List (Key × V)), ws = ts.map V.ref ∧ Paired (fun p kv => SqT K H p [kV kv.1, kv.2]) ts kvs ∧ KvI K H kvs ps
  | _, [], .nil => ⟨[], [], rfl, .nil, .nil⟩
  | _, p :: ps, .cons h t => by
    obtain ⟨ts, kvs, e, h1, h2⟩ := prs_int t
    cases h with
    | tup hs hd =>
      rename_i a xs
      cases hd with
      | cons g1 hd =>
        cases hd with
        | cons g2 hd =>
          cases hd
          cases g1
          exact ⟨a :: ts, (Sum.inl p.1, _) :: kvs, by rw [e]; rfl, .cons (SqT.of hs) h1, .cons ⟨rfl, g2⟩ h2⟩
theorem ints_kV (ns : List Int) : ns.map V.int = (ns.map (Sum.inl : Int → Key)).map kV := by rw [List.map_map]; rfl
/-- .. keys that are tuples of ints -/
theorem prs_tup : ∀ {ws : List V} {ps : List (List Int × β)}, DqAll K H ws (ps.map toD) → ∃ (ts : List Addr) (qs : List (List Key × Addr × V)), ws = ts.map V.ref ∧ PrT H ts qs ∧ KvT K H (qs.map fun q => (q.1, q.2.2)) ps
  | _, [], .nil => ⟨[], [], rfl, .nil, .nil⟩
  | _, p :: ps, .cons h t => by
    obtain ⟨ts, qs, e, h1, h2⟩ := prs_tup t
    cases h with
    | tup hs hd =>
      rename_i a xs
      cases hd with
      | cons g1 hd =>
        cases hd with
        | cons g2 hd =>
          cases hd
          cases g1 with
          | tup gs gd =>
            rename_i b ys
            have ey := ints_of gd
            rw [ey, ints_kV] at gs
            exact ⟨a :: ts, (p.1.map Sum.inl, b, _) :: qs, by rw [e]; rfl, .cons ⟨hs, gs⟩ h1, .cons ⟨rfl, g2⟩ h2⟩
abbrev rDictP (K : PySem.W.Frag) : List V → Hp → VK → Prop := fun xs H Q => ∃ (a : Addr) (ps : List Addr) (kvs : List (Key × V)), xs = [.ref a] ∧ SqL K H a (ps.map V.ref) ∧ Paired (fun p kv => SqT K H p [kV kv.1, kv.2]) ps kvs ∧
    ∀ p, H p = none → Q (.ref p) (upd H p (.dK (mergeK [] kvs)))
theorem ev_dictI {ps : List (Int × β)} (ha : Ev Fh te Γ Γ1 r) (sa : Seen Fh Γ1 r (lsD ps)) : Ev Fh (tCB (rDictP K) (tCons te tNil)) Γ Γ1 (fun _ => dI (amerge [] ps)) :=
  ev_c1 ha sa fun u H Q hx o => by
    cases hx with
    | lst hs hd =>
      obtain ⟨ts, kvs, e, h1, h2⟩ := prs_int hd
      rw [e] at hs
      refine ⟨_, ts, kvs, rfl, hs, h1, fun p n => o _ _ _ (same_new n) (fresh_at n nofun) ⟨p, _, rfl, rfl, upd_same, ?_⟩⟩
      exact kvI_keep (Same.keepT (same_new n)) (kvI_merge h2 .nil)
theorem ev_dictL {ps : List (List Int × β)} (ha : Ev Fh te Γ Γ1 r) (sa : Seen Fh Γ1 r (lsD ps)) : Ev Fh (tCB (rDictT K) (tCons te tNil)) Γ Γ1 (fun _ => dL (amerge [] ps)) :=
  ev_c1 ha sa fun u H Q hx o => by
    cases hx with
    | lst hs hd =>
      obtain ⟨ts, qs, e, h1, h2⟩ := prs_tup hd
      rw [e] at hs
      refine ⟨_, ts, qs, rfl, hs, h1, fun p n => o _ _ _ (same_new n) (fresh_at n nofun) ⟨p, _, rfl, rfl, upd_same, ?_⟩⟩
      exact kvT_keep (Same.keepT (same_new n)) (kvT_merge h2 .nil)
/-- a new dict -/
theorem ev_dnewI : Ev Fh tDNewK Γ Γ (fun _ => dI (β := β) []) := fun σ T vs H Q E k p n => E.out k _ _ _ (same_new n) (fresh_at n nofun) ⟨p, [], rfl, rfl, upd_same, .nil⟩
theorem ev_dnewL : Ev Fh tDNewT Γ Γ (fun _ => dL (β := β) []) := fun σ T vs H Q E k p n => E.out k _ _ _ (same_new n) (fresh_at n nofun) ⟨p, [], rfl, rfl, upd_same, .nil⟩

/-! ### what sorted takes -/
def SeenC (Fh : Hp) (Γ : Ctx K) (r : Rs K) (ds : List PyData) : Prop := ∀ σ w H S v, Core Fh Γ σ w H → (r σ).p H S v → ∃ a, v = .ref a ∧ Cls K H a ds
theorem seenC_list {xs : List α} (h : Seen Fh Γ r (lsD xs)) : SeenC Fh Γ r (xs.map toD) := fun σ w H S v c q => by
  cases h σ w H S v c q with
  | lst hs hd => exact ⟨_, rfl, .inl ⟨_, hs, hd⟩⟩
theorem seenC_tup {xs : List α} (h : Seen Fh Γ r (toD xs)) : SeenC Fh Γ r (xs.map toD) := fun σ w H S v c q => by
  cases h σ w H S v c q with
  | tup hs hd => exact ⟨_, rfl, .inr (.inl ⟨_, hs, hd⟩)⟩
theorem kvI_keys {kvs : List (Key × V)} {m : List (Int × β)} (q : KvI K H kvs m) : (m.map (·.1)).map toD = kvs.map fun kv => keyD kv.1 := by
  induction q with
  | nil => rfl
  | cons h t ih => rw [List.map_cons, List.map_cons, List.map_cons, ih, h.1]; rfl
theorem kvT_keys {kvs : List (List Key × V)} {m : List (List Int × β)} (q : KvT K H kvs m) : (m.map (·.1)).map toD = kvs.map fun kv => PyData.tuple (kv.1.map keyD) := by
  induction q with
  | nil => rfl
  | cons h t ih =>
    rw [List.map_cons, List.map_cons, List.map_cons, ih, h.1, List.map_map]
    rfl
theorem seenC_dI {m : List (Int × β)} : SeenC (K := K) Fh Γ (fun _ => dI m) ((m.map (·.1)).map toD) := fun σ w H S v c ⟨a, kvs, e, _, h, q⟩ => by
  exact ⟨a, e, .inr (.inr (.inl ⟨kvs, h, kvI_keys q⟩))⟩
theorem seenC_dL {m : List (List Int × β)} : SeenC (K := K) Fh Γ (fun _ => dL m) ((m.map (·.1)).map toD) := fun σ w H S v c ⟨a, kvs, e, _, h, q⟩ => by
  exact ⟨a, e, .inr (.inr (.inr ⟨kvs, h, kvT_keys q⟩))⟩
theorem seenC_al {i : Nat} {s : Sl K} {ds : List PyData} (hi : Γ[i]? = some (some s)) (h : SeenC Fh Γ (fun _ => s) ds) : SeenC Fh Γ (fun σ => al σ[i]?) ds := fun σ w H S v c q => by
  obtain ⟨v', h1, h2⟩ := c.at_ i s hi
  have e : v' = v := Option.some.inj (Option.some.inj (h1.symm.trans q))
  subst e
  exact h σ w H _ v' c h2
/-- sorted things -/
abbrev srtd (xs : List α) : List α := xs.mergeSort (PySem.W.dataLe false toD)
theorem srt_map (xs : List α) : srt (xs.map toD) = (srtd xs).map toD := (PySem.W.sort_maps (f := (toD : α → PyData)) (l := xs) fun _ _ _ _ => rfl).symm
theorem ev_sorted {xs : List α} (ha : Ev Fh te Γ Γ1 r) (sa : SeenC Fh Γ1 r (xs.map toD)) (ok : SortOk (xs.map toD)) : Ev Fh (tCB (rSortC K) (tCons te tNil)) Γ Γ1 (fun _ => ol (srtd xs)) := fun σ T vs H Q E k =>
  ha σ T vs H _ E fun v H1 E1 => by
    obtain ⟨w, c, k1, k2⟩ := id E1
    obtain ⟨a, rfl, hc⟩ := sa σ w H1 _ v c k1
    refine ⟨a, xs.map toD, rfl, hc, ok, fun d hd => ?_, fun p ws n hw => (E1.pop.out k).lst (by rw [← srt_map]; exact hw) n⟩
    obtain ⟨x, _, rfl⟩ := List.mem_map.mp hd
    exact En.imm x
abbrev srtL {γ : Type} (xs : List (List γ)) : List (List γ) := xs.mergeSort fun a b => decide ((a.length : Int) ≤ b.length)
theorem lenD_toD (x : List α) : lenD (toD x) = (x.length : Int) := by show ((x.map toD).length : Int) = _; rw [List.length_map]
theorem ev_sortLen {xs : List (List α)} (ha : Ev Fh te Γ Γ1 r) (sa : SeenC Fh Γ1 r (xs.map toD)) : Ev Fh (tCB (rSortLen K) (tCons te tNil)) Γ Γ1 (fun _ => ol (srtL xs)) := fun σ T vs H Q E k =>
  ha σ T vs H _ E fun v H1 E1 => by
    obtain ⟨w, c, k1, k2⟩ := id E1
    obtain ⟨a, rfl, hc⟩ := sa σ w H1 _ v c k1
    refine ⟨a, xs.map toD, rfl, hc, fun d hd => ?_, fun p ws n hw => (E1.pop.out k).lst ?_ n⟩
    · obtain ⟨x, _, rfl⟩ := List.mem_map.mp hd
      exact ⟨_, rfl⟩
    · have e : (xs.map toD).mergeSort (PySem.W.dataLe false fun d => .int (lenD d)) = (srtL xs).map toD := by
        refine (PySem.W.sort_maps (f := (toD : List α → PyData)) (l := xs) fun x _ y _ => ?_).symm
        rw [PySem.W.dataLe_int]
        show _ = decide (lenD (toD x) ≤ lenD (toD y))
        rw [lenD_toD, lenD_toD]
      rw [← e]; exact hw
/-- d.update(e) -/
theorem Env.redict {i : Nat} {m : List (Int × β)} (E : Env Fh Γ σ T vs H) (hi : Γ[i]? = some (some (dI m))) : ∃ a kvs, σ[i]? = some (some (.ref a)) ∧ H a = some (.dK kvs) ∧ KvI K H kvs m ∧
    ∀ (m' : List (Int × β)) (kvs' : List (Key × V)), KvI K H kvs' m' → Env Fh (Γ.set i (some (dI m'))) σ T vs (upd H a (.dK kvs')) := by
  obtain ⟨v, S, h1, ⟨a, kvs, rfl, sa, ha, hw⟩, own, ch⟩ := E.change hi
  have kt : ∀ o, KeepT H (upd H a o) := fun o c xs q => by
    rw [upd_ne (show c ≠ a from fun z => by rw [z, ha] at q; cases q)]; exact q
  refine ⟨a, kvs, h1, ha, hw, fun m' kvs' hu => ch _ _ (fun _ => False) (fun c o hc q => ?_) (fun c hc => ?_) Fresh.none ⟨a, kvs', rfl, .inl sa, upd_same, kvI_keep (kt _) hu⟩⟩
  · rw [upd_ne (show c ≠ a from fun e => hc (e ▸ sa))]; exact q
  · by_cases e : c = a
    · subst e; exact ⟨_, upd_same, nofun⟩
    · obtain ⟨_, o, ho, m⟩ := own c hc
      exact ⟨o, by rw [upd_ne e]; exact ho, m⟩
theorem ev_dupd {i : Nat} {m ps : List (Int × β)} (he : Ev Fh te Γ Γ1 (fun _ => dI ps)) (hi : Γ[i]? = some (some (dI m))) (hi1 : Γ1[i]? = some (some (dI m))) (hz : m.length + ps.length ≤ sizeLine) :
    Ev Fh (tBM K "dict" rDUpd (tVar i) (tCons te tNil)) Γ (Γ1.set i (some (dI (amerge m ps)))) (fun _ => da ()) := fun σ T vs H Q E k => by
  obtain ⟨a, kvs, h1, ha, hw, _⟩ := E.redict hi
  refine ⟨_, h1, .inr (.inr (.inl ⟨rfl, .inl ⟨kvs, ha⟩⟩)), he σ T vs H _ E fun v H1 E1 => ?_⟩
  obtain ⟨w, c, k1, k2⟩ := id E1
  obtain ⟨o, more, rfl, so, ho, hm⟩ := k1
  obtain ⟨v', g1, ⟨b, kvs2, rfl, sb, hb, hw2⟩⟩ := c.at_ i _ hi1
  have e : a = b := V.ref.inj (Option.some.inj (Option.some.inj (h1.symm.trans g1)))
  subst e
  have hil : i < Γ1.length := (List.getElem?_eq_some_iff.mp hi1).1
  have hne : a ≠ o := fun e => by
    have q : w a = some i := sb
    have q2 : w o = some (Γ1.length + T.length) := so
    rw [e, q2] at q
    have := Option.some.inj q
    omega
  obtain ⟨a', kvs3, g2, hb3, hw3, ch⟩ := E1.pop.redict hi1
  have e : a = a' := V.ref.inj (Option.some.inj (Option.some.inj (h1.symm.trans g2)))
  subst e
  rw [hb] at hb3
  cases hb3
  refine ⟨a, o, kvs2, more, rfl, rfl, hne, hb, ho, by rw [Paired.length hw2, Paired.length hm]; exact hz, k _ _ ?_⟩
  exact (ch (amerge m ps) (mergeK kvs2 more) (kvI_merge hm hw2)).push0 Dq.non
end
end Sx

/-! Sx7: defs within which repr may be asked: nothing is being shown around them. -/
namespace Sx
open PySem
open PySem.Spec
open PyProof.Rows
open L2

/-- nothing is being shown around -/
abbrev Calm (A : Around) : Prop := A.guards = some []
/-- a def's promise, kept where nothing is being shown around -/
structure FnG (P : Program) (w : World) (K : PySem.W.Frag) (mg : Str → Option Value) (base : Heap) (k : Nat) (f : Addr) (fd : FuncData) (ps : List Str) (sp : Sp) : Prop where
  len : ∀ vs H Q E, sp vs H Q E → vs.length = ps.length
  run : ∀ (A : Around) (outer : List PySem.Env) (s : Shared) (H : Hp) (args : PySem.Args) (us : List Value) (vs : List V) (Q : VK) (E : XK),
    Room k A → Calm A → Env0 P w K mg base A outer s H → BindsTo s fd args (ps.zip us) → Vals vs us → sp vs H Q E →
    codeAny (model P w) A (.call (.ref f) args) (CR CX0 outer P w H s Q E) s
section
variable {P : Program} {w : World} {K : PySem.W.Frag} {mg : Str → Option Value} {base : Heap}
theorem FnG.of {k : Nat} {f : Addr} {fd : FuncData} {ps : List Str} {sp : Sp} (F : FnOk P w K mg base CX0 k f fd ps sp) : FnG P w K mg base k f fd ps sp :=
  ⟨F.len, fun A outer s H args us vs Q E hr _ => F.run A outer s H args us vs Q E hr⟩
theorem okG {x qual : Str} {st : Stmt} {f : Addr} {fd : FuncData} {N ps : List Str} {k : Nat} {sp : Sp} (F : Fun K x qual st f fd) (S : FnScope N ps (defScope st)) (len : ∀ vs H Q E, sp vs H Q E → vs.length = ps.length)
    (body : ∀ (cdv : Value) (A : Around) (outer : List PySem.Env) (s : Shared) (H : Hp) (vs : List V) (Q : VK) (E : XK), Room k (A.deeper (envOfC qual (defScope st) s.heap.objs.size f cdv)) →
      Calm (A.deeper (envOfC qual (defScope st) s.heap.objs.size f cdv)) → sp vs H Q E →
      ∃ t, PSs (cxOf CX0 P w K mg base N qual (defScope st) f cdv A outer s H E).nox (defBody st) t ∧ t { nx := fun _ H' => Q .non H', rt := Q } (L2.start N vs) H) :
    FnG P w K mg base (k + 1) f fd ps sp := by
  obtain ⟨oc, od, kV, doc, pm, an, cdv, ct, osl, rfl, lk, hcd⟩ := F.ex
  refine ⟨len, fun A outer s H args us vs Q E hr hg e0 hb r hsp => ?_⟩
  have hlen := len _ _ _ _ hsp
  have kin : K.In s.heap := e0.mod.kin.keeps fun b o z => (e0.bs b o z).1
  have nolim : s.heap.NoLimit := e0.mod.nolimit.keeps fun b o z => (e0.bs b o z).1
  refine codeAny_call_function hr.depth (kin _ _ lk) rfl S.co S.gen rfl (PySem.W.codeRec_of kin hcd) (hb _ _ _ _ ?_)
  refine wpAny_newFunctionEnv_cells S.kind (fun y hy => ?_) fun env he s1 x => ?_
  · have hy1 := (List.of_mem_zip (a := y.1) (b := y.2) hy).1
    exact (S.par y.1 hy1).imp id fun q => ⟨q, PySem.W.cellsFrom_some _ _ _ (.inl q)⟩
  · subst he
    refine ⟨nolim.keeps x.toInCall.keep, codeAny_func ?_⟩
    obtain ⟨t, ht, hq⟩ := body cdv A outer s H vs Q E (hr.deeper _) hg hsp
    have I := inv_start (CX := CX0) (E := E) S hr.hd e0 hlen r x
    refine wpAny_mono (ht.nox.run [] s1 _ H _ I hq) (fun fl s' hs => ?_) fun _ _ z => z
    cases fl with
    | ret u => obtain ⟨v, σ', H', J, rv, q⟩ := hs; exact ⟨v, H', J.os, J.bare, J.base, J.hok, rv, q⟩
    | next => obtain ⟨σ', H', J, q⟩ := hs; exact ⟨V.non, H', J.os, J.bare, J.base, J.hok, rfl, q⟩
    | brk => exact hs.elim fun _ z => z.elim fun _ z => z.2.elim
    | cont => exact hs.elim fun _ z => z.elim fun _ z => z.2.elim
end
section
variable {X : Cx} {k : Nat} {f : Addr} {fd : FuncData} {ps : List Str} {sp : Sp} {x : Str} {p pos : Pos} {e : Expr} {es : List Expr} {t : TA}
/-- a call of such a def -/
theorem pe_callG (F : FnG X.prog X.w X.K X.mg X.base k f fd ps sp) (hr : Room k X.A) (hc : Calm X.A) (hg : Gl X x) (hm : X.mg x = some (.ref f)) (hk : PySem.W.keepIn X.K (.ref f) = true) (hb : Binds X.K fd ps []) (ha : PA X (e :: es) t)
    (hdb : (x == ("__debug__" : Str)) = false := by decide) (hst : starEach (e :: es) X.env = (false, eval e X.env) :: starEach es X.env := by rfl) (hpl : (backTo pos (starEach es X.env)).any (·.1) = false := by rfl) :
    PE X (.Call (.Name x p) (e :: es) [] pos) (tCall sp [] E0 t) := by
  refine ⟨fun pins s σ H Q I h => ?_⟩
  refine wpAny_Call_Name_kw (ld_glob I hg hm ?_ hdb)
  refine PySem.W.callWith_K (h₀ := X.base) I.ok.mod.kin hk (thn (ha.run pos pins s σ H _ I h) fun us s1 ⟨vs, H1, I1, r, q⟩ => ⟨I1.kIn, ?_⟩) hst hpl
  have q : sp (vs ++ []) H1 Q E0 := q
  rw [List.append_nil] at q
  have hl : us.length = ps.length := by rw [← r.length]; exact F.len _ _ _ _ q
  have bt := hb s1 us I1.kIn (by rw [List.append_nil]; exact hl)
  rw [List.append_nil] at bt
  refine wpAny_call (codeAny_mono (F.run X.A X.stack s1 H1 ⟨us, []⟩ us vs Q E0 hr hc I1.env0 bt r q) fun rr s' hq => ?_)
  cases rr with
  | error e => exact False.elim hq
  | ok fl =>
    cases fl with
    | ret u => exact I1.after hq
    | next => exact False.elim hq
    | brk => exact False.elim hq
    | cont => exact False.elim hq
/-! ### repr -/
def rRepr (K : PySem.W.Frag) : List V → Hp → VK → Prop := fun xs H Q => ∃ (a : Addr) (d : PyData), xs = [.ref a] ∧ Dq K H (.ref a) d ∧ d.showable = true ∧ d.hasDict = false ∧ d.depth ≤ 64 ∧ d.shown.length ≤ sizeLine ∧ Q (.str d.shown) H
theorem cr_repr (hu : X.A.units + 80 < cLine) (hc : Calm X.A) : CallR X (.builtin "repr") (rRepr X.K) := by
  intro pins s σ H xs us Q I r h
  obtain ⟨a, d, rfl, hd, h1, h2, h3, h4, q⟩ := h
  obtain ⟨u, rfl, ru⟩ := vals1 r
  obtain rfl : u = Value.ref a := ru
  obtain ⟨as, rd⟩ := Dp.reads I d (.ref a) (.ref a) hd.p rfl
  refine repr_of_reads' rd h1 (fun z => by rw [h2] at z; cases z) hc (by omega) (fun _ _ e => e) (fun h' u tk k => ?_) h4
  exact ⟨.str d.shown, H, I.kept (t' := tk) k, ⟨u, rfl⟩, q⟩

/-! ### a dict just made, gone through: it is locked for good -/
def tFrz (t : TE) : TE := fun σ H Q => t σ H fun x H1 => ∃ d u, x = .ref d ∧ H1 d = some u ∧ Mut (some u) ∧ ∀ o, Q x (upd H1 d (.frz o u))
theorem pe_frz {te : TE} (he : PE X e te) : PE X e (tFrz te) := by
  refine ⟨fun pins s σ H Q I h => thn (he.run pins s σ H _ I h) fun v s1 ⟨x, H1, I1, r1, d, u, ex, hd, mu, q⟩ => ?_⟩
  subst ex
  have ok := I1.hok d u hd
  have hlt := ok.lt
  obtain ⟨o, ho⟩ : ∃ o, s1.heap.get? d = some o := by
    cases u with
    | lst xs => obtain ⟨_, _, _, _, e⟩ := ok; exact ⟨_, e⟩
    | tup xs => exact mu.elim
    | dK kvs => obtain ⟨_, _, _, _, o, _, _, e, _⟩ := ok; exact ⟨_, e⟩
    | dT kvs => obtain ⟨_, _, _, _, o, _, _, e, _⟩ := ok; exact ⟨_, e⟩
    | set S n => obtain ⟨o, _, _, _, e, _⟩ := ok; exact ⟨_, e⟩
    | ins C dx fs => obtain ⟨_, _, _, e, _⟩ := ok; exact ⟨_, e⟩
    | own y => exact mu.elim
    | xd fs => exact mu.elim
    | rng lo hi => exact mu.elim
    | frz ob u => exact mu.elim
    | tbl ps => exact mu.elim
    | met f y => exact mu.elim
    | ext φ => obtain ⟨_, ⟨_, e⟩, _⟩ := ok; exact ⟨_, e⟩
  refine ⟨.ref d, upd H1 d (.frz o u), ?_, r1, q o⟩
  have hne : ∀ b y, H1 b = some (.own y) → b ≠ d := fun b y z w => by rw [w, hd] at z; cases z; exact mu
  have hnt : ∀ b xs, H1 b = some (.tup xs) → b ≠ d := fun b xs z w => by rw [w, hd] at z; cases z; exact mu
  refine I1.write (x := d) (e := d) (t' := s1.toks) (h' := s1.heap) (by rw [hd]; exact mu) (.inl rfl) (fun _ _ _ z => z) ⟨o, ho⟩ ⟨ho, ok.stay (fun _ _ _ z => z) (fun b z => by rw [upd_ne (hne b d z)]; exact z) fun b xs z => by rw [upd_ne (hnt b xs z)]; exact z⟩
end
section
variable {K : PySem.W.Frag} {Fh H : Hp} {Γ Γ1 Γ2 Γ' : Ctx K} {σ : L2.St} {T : List (Sl K)} {vs : List V} {v : V} {r : Rs K} {α β : Type} [En α] [En β] {te : TE}
/-- an object that stays as it is -/
def fz (a : Addr) (u : HO) : Sl K := ⟨fun H S v => v = .ref a ∧ S a ∧ H a = some u, fun ⟨e, s, h⟩ hS hH _ => ⟨e, hS _ s, by rw [hH _ s]; exact h⟩⟩
theorem kvT_fst {kvs : List (List Key × V)} {m : List (List Int × β)} (q : KvT K H kvs m) : kvs.map (·.1) = (m.map (·.1)).map (·.map Sum.inl) := by
  induction q with
  | nil => rfl
  | cons h t ih => rw [List.map_cons, List.map_cons, List.map_cons, ih, h.1]
theorem kvI_fst {kvs : List (Key × V)} {m : List (Int × β)} (q : KvI K H kvs m) : kvs.map (·.1) = (m.map (·.1)).map Sum.inl := by
  induction q with
  | nil => rfl
  | cons h t ih => rw [List.map_cons, List.map_cons, List.map_cons, ih, h.1]
theorem Env.lock {a : Addr} {s : Sl K} {u : HO} {o : Obj} (E : Env Fh Γ σ (s :: T) (.ref a :: vs) H) (hs : ∀ S, s.p H S (.ref a) → S a) : Env Fh Γ σ (fz a (.frz o u) :: T) (.ref a :: vs) (upd H a (.frz o u)) := by
  obtain ⟨S, hp, own, ch⟩ := E.changeT
  have sa := hs S hp
  refine ch _ _ _ (fun c o' hc q => ?_) (fun c hc => ?_) ⟨rfl, sa, upd_same⟩
  · rw [upd_ne (show c ≠ a from fun e => hc (e ▸ sa))]; exact q
  · by_cases e : c = a
    · subst e; exact ⟨_, upd_same, nofun⟩
    · obtain ⟨_, o, ho, m⟩ := own c hc
      exact ⟨o, by rw [upd_ne e]; exact ho, m⟩
/-- the keys of a dict just made -/
theorem ew_keysL {any : Bool} {m : List (List Int × β)} (h : Ev Fh te Γ Γ1 (fun _ => dL m)) : EvW any Fh (iKeys (tFrz te)) Γ Γ1 okAll (m.map (·.1)) := fun σ T vs H R E k => h σ T vs H _ E fun v H1 E1 => by
  obtain ⟨S, a, kvs, rfl, sa, ha, hw⟩ := E1.p0
  have ef := kvT_fst hw
  have el : kvs.length = (m.map (·.1)).length := by rw [← List.length_map (f := (·.1)) (as := kvs), ef, List.length_map]
  refine ⟨a, _, rfl, ha, trivial, fun o => ⟨a, o, rfl, .inr ⟨kvs, upd_same, ?_⟩⟩⟩
  refine k _ (.ref a) _ _ (fun H => H a = some (.frz o (.dT kvs))) (E1.lock (fun S ⟨b, _, e, sb, _⟩ => by cases e; exact sb)) (fun _ _ _ _ _ _ _ _ p => p.2.2) ⟨fun H i p hi => ⟨p, by omega⟩, fun H i x H' p y z e => ?_, fun H p => ⟨p, by omega⟩⟩
  obtain ⟨rfl, kk, vv, q, e1, rfl, hq⟩ := y
  have e2 : (kvs.map (·.1))[i]? = some kk := by rw [List.getElem?_map, e1]; rfl
  rw [ef, List.getElem?_map, e] at e2
  have e3 : z.map Sum.inl = kk := Option.some.inj e2
  refine ⟨Same.refl _, .tup hq ?_⟩
  rw [← e3, ← ints_kV]
  exact dpAll_ints z
theorem ew_keysI {any : Bool} {m : List (Int × β)} (h : Ev Fh te Γ Γ1 (fun _ => dI m)) : EvW any Fh (iKeys (tFrz te)) Γ Γ1 okAll (m.map (·.1)) := fun σ T vs H R E k => h σ T vs H _ E fun v H1 E1 => by
  obtain ⟨S, a, kvs, rfl, sa, ha, hw⟩ := E1.p0
  have ef := kvI_fst hw
  have el : kvs.length = (m.map (·.1)).length := by rw [← List.length_map (f := (·.1)) (as := kvs), ef, List.length_map]
  refine ⟨a, _, rfl, ha, trivial, fun o => ⟨a, o, rfl, .inl ⟨kvs, upd_same, ?_⟩⟩⟩
  refine k _ (.ref a) _ _ (fun H => H a = some (.frz o (.dK kvs))) (E1.lock (fun S ⟨b, _, e, sb, _⟩ => by cases e; exact sb)) (fun _ _ _ _ _ _ _ _ p => p.2.2) ⟨fun H i p hi => ⟨p, by omega⟩, fun H i x H' p y z e => ?_, fun H p => ⟨p, by omega⟩⟩
  obtain ⟨rfl, kk, vv, e1, rfl⟩ := y
  have e2 : (kvs.map (·.1))[i]? = some kk := by rw [List.getElem?_map, e1]; rfl
  rw [ef, List.getElem?_map, e] at e2
  have e3 : Sum.inl z = kk := Option.some.inj e2
  subst e3
  exact ⟨Same.refl _, Dq.int z⟩
end
end Sx

/-! Sx8: the end of a law whose def asks repr. -/
namespace Sx
open PySem
open PySem.Spec
open PyProof.Rows
open L2
section
variable {P : Program} {w : World} {K : PySem.W.Frag} {mg mb : Str → Option Value} {k : Nat} {fa a : Addr}
  {fd : FuncData} {x : Str} {sp : Sp} {s₁ : Shared} {vs : List Value} {ns : List Int}
/-- what the caller sees -/
abbrev Fine (s₁ : Shared) (r : Except Value Flow) (s' : Shared) : Prop :=
  r = .ok (.ret (.bool true)) ∧ OldK s₁.heap s'.heap
    ∧ s'.os = s₁.os ∧ AllBare s'.gens
theorem law_coreG (KX : K.In s₁.heap) (hns : s₁.heap.Ns mainGlobals mg)
    (hb : s₁.heap.Ns builtinsNs mb)
    (hbb : ∀ y : Str, y ≠ "__name__" → mb y = bootBuiltins y)
    (hlim : s₁.heap.NoLimit) (hg : s₁.gens = #[])
    (ha : s₁.heap.get? a = some { cls := .type "list", data := .seq vs.toArray })
    (hr : Room k callerA)
    (F : ∀ base : Heap, K.In base → base.Ns mainGlobals mg →
      FnG P w K mg base k fa fd [x] sp)
    (hbind : ∀ (s : Shared) (u : Value), BindsTo s fd ⟨[u], []⟩ [(x, u)])
    (hsp : ∀ H : Hp, Only H → SqL K H a (ns.map V.int) →
      sp [.ref a] H (fun v _ => v = .bl true) fun _ _ _ => False)
    (H : Hp) (hO : Only H) (hS : SqL K H a (ns.map V.int)) (hok : HOk P w H s₁.heap)
    (hA : ∀ b, H b ≠ none → b = a) (hK : H a ≠ none → K.lookup a = none) :
    codeAny (model P w) callerA (.call (.ref fa) ⟨[.ref a], []⟩) (Fine s₁) s₁ := by
  have get0 {b : Addr} {o : Obj} (e : s₁.heap.get? b = some o) (n : H b = none) :
      (hidT s₁.heap H).get? b = some o := hidT_get e n
  have isA {b : Addr} {o : Obj} (e : s₁.heap.get? b = some o) (d : o.data ≠ Data.seq vs.toArray) :
      H b = none := by
    by_cases q : H b = none
    · exact q
    · have e' := hA b q
      subst e'
      rw [ha] at e
      cases e
      exact absurd rfl d
  have nsG {b : Addr} {m : Str → Option Value} : s₁.heap.Ns b m → (hidT s₁.heap H).Ns b m := by
    rintro ⟨o, es, ep, e, d, r⟩
    exact ⟨o, es, ep, get0 e (isA e (by rw [d]; nofun)), d, r⟩
  have kin : K.In (hidT s₁.heap H) := by
    intro b o e
    refine get0 (KX b o e) ?_
    by_cases q : H b = none
    · exact q
    · have e' := hA b q
      subst e'
      rw [hK q] at e
      cases e
  have md : Mod K mg (hidT s₁.heap H) := by
    obtain ⟨mc, h1, h2⟩ := hlim
    exact ⟨kin, nsG hns, ⟨mb, nsG hb, hbb⟩, ⟨mc, nsG h1, h2⟩⟩
  have e0 : Env0 P w K mg (hidT s₁.heap H) callerA [] s₁ H := by
    refine ⟨rfl, md, ?_, ?_, trivial, ?_, hok, .of_eq hg⟩
    · intro b o e
      exact of_hidT e
    · exact Nat.le_of_eq (hidT_size _ _)
    · intro b z
      have z' : b ∈ ([] : List Addr) := z
      cases z'
  have go := (F _ kin (nsG hns)).run callerA [] s₁ H ⟨[.ref a], []⟩ [.ref a] [.ref a] _ _ hr rfl e0
    (hbind s₁ (.ref a)) (.cons rfl .nil) (hsp H hO hS)
  refine codeAny_mono go ?_
  intro r s' h
  match r, h with
  | .error e, h => exact False.elim h
  | .ok .next, h => exact False.elim h
  | .ok .brk, h => exact False.elim h
  | .ok .cont, h => exact False.elim h
  | .ok (.ret u), ⟨v, H', os, bare, un, hok', r', q⟩ =>
    have ev : v = .bl true := q
    subst ev
    have eu : u = Value.bool true := r'
    subst eu
    refine ⟨rfl, OldK.of_keep ?_, os, bare⟩
    intro b o e
    by_cases q : H b = none
    · refine un.keep b o e q ?_ (by simp)
      intro z
      have z' : b ∈ ([] : List Addr) := z
      cases z'
    · obtain ⟨ob, xs, z⟩ := (hO b).resolve_left q
      have z2 := un.frzs b ob _ z
      have e1 := (hok b _ z).1
      have e2 := (hok' b _ z2).1
      rw [e] at e1
      cases e1
      exact e2
/-- the law is called, nothing being shown -/
theorem law_callG (KX : K.In s₁.heap) (hns : s₁.heap.Ns mainGlobals mg)
    (hb : s₁.heap.Ns builtinsNs mb)
    (hbb : ∀ y : Str, y ≠ "__name__" → mb y = bootBuiltins y)
    (hlim : s₁.heap.NoLimit) (hg : s₁.gens = #[])
    (ha : s₁.heap.get? a = some { cls := .type "list", data := .seq vs.toArray })
    (hi : IntsAre vs ns) (hl : ns.length ≤ sizeLine) (hr : Room k callerA)
    (F : ∀ base : Heap, K.In base → base.Ns mainGlobals mg →
      FnG P w K mg base k fa fd [x] sp)
    (hbind : ∀ (s : Shared) (u : Value), BindsTo s fd ⟨[u], []⟩ [(x, u)])
    (hsp : ∀ H : Hp, Only H → SqL K H a (ns.map V.int) →
      sp [.ref a] H (fun v _ => v = .bl true) fun _ _ _ => False) :
    codeAny (model P w) callerA (.call (.ref fa) ⟨[.ref a], []⟩) (Fine s₁) s₁ := by
  have rv := vals_ints hi
  have hlen := hi.length
  have core := law_coreG KX hns hb hbb hlim hg ha hr F hbind hsp
  cases hk : K.lookup a with
  | some o =>
    have e := KX a o hk
    rw [ha] at e
    cases e
    refine core (fun _ => none) (fun _ => .inl rfl) ?_ ?_ ?_ ?_
    · refine .inr ⟨_, vs.toArray, _, hk, rfl, rfl, rfl, ?_, by simpa using rv⟩
      rw [List.size_toArray, hlen]
      exact hl
    · intro b u z
      exact nomatch (show (none : Option HO) = some u from z)
    · intro b z
      exact absurd rfl z
    · intro z
      exact absurd rfl z
  | none =>
    let o : Obj := { cls := .type "list", data := .seq vs.toArray }
    let H : Hp := fun b => if b = a then some (.frz o (.lst (ns.map V.int))) else none
    have Ha : H a = some (.frz o (.lst (ns.map V.int))) := if_pos rfl
    have Hn : ∀ b, b ≠ a → H b = none := fun b e => if_neg e
    refine core H ?_ (.inl (.inr ⟨o, Ha⟩)) ?_ ?_ ?_
    · intro b
      by_cases e : b = a
      · subst e
        exact .inr ⟨_, _, Ha⟩
      · exact .inl (Hn b e)
    · intro b u z
      by_cases e : b = a
      · subst e
        rw [Ha] at z
        cases z
        refine ⟨ha, ?_, vs, _, rv, ha⟩
        rw [List.length_map]
        exact hl
      · rw [Hn b e] at z
        cases z
    · intro b z
      by_cases e : b = a
      · exact e
      · exact absurd (Hn b e) z
    · intro _
      exact hk
end
/-- .. as the goal that the head of a law leaves -/
theorem walk_ofG {l : PySem.W.OpenLaw} {n k : Nat} {q : Program} {loose : List Str} {XP : (Str → Option Value) → Heap → Prop}
    {YP : World → Heap → Prop} {d : DefRec} {K : Params → PySem.W.Frag} {sp : PySem.W.Frag → Sp} {x : Str} (hn : l.most = some n)
    (hn2 : n ≤ sizeLine) (hdf : d.params.defaults = []) (hr : Room k callerA) (hY : ∀ (w : World) (h : Heap), YP w h → (K w.params).In h)
    (F : ∀ (w : World) (mg : Str → Option Value) (fa : Addr) (h : Heap), (K w.params).In h → h.Ns mainGlobals mg →
      mg d.name = some (.ref fa) → ∃ fd : FuncData, (∀ (s : Shared) (u : Value), BindsTo s fd ⟨[u], []⟩ [(x, u)])
        ∧ ∀ base : Heap, (K w.params).In base → base.Ns mainGlobals mg →
          FnG l.prog w (K w.params) mg base k fa fd [x] (sp (K w.params)))
    (hsp : ∀ (K : PySem.W.Frag) (H : Hp) (a : Addr) (ns : List Int), ns.length ≤ n → Only H →
      SqL K H a (ns.map V.int) → sp K [.ref a] H (fun v _ => v = .bl true) fun _ _ _ => False) :
    PySem.W.WalkO q loose XP YP l.row.toRowW d [] (fun f vs => PySem.call f vs) := by
  refine Att.attach_call hn hdf ?_
  intro w s₀ s₁ mg mb fa o pm cd doc a vs ns G Y ho hd hcd hmg hobj hints hlen hg
  have KX := hY w _ Y
  obtain ⟨fd, hb, hF⟩ := F w mg fa _ KX G.T.g hmg
  exact law_callG KX G.T.g G.T.b G.T.builtins G.T.nolimit hg hobj hints (Nat.le_trans hlen hn2) hr hF hb
    fun H hO hS => hsp _ H a ns hlen hO hS
end Sx

/-! Sx9: backwards slices of lists and tuples. -/
namespace Sx
open PySem
open PySem.Spec
open PyProof.Rows
open L2
section
variable {prog : Program} {w : World} {A : Around} {E : Value → Shared → Prop} {s : Shared}
theorem revAdjust (n : Nat) : Builtin.Slice.sliceAdjust none none (-1) (n : Int) = ((n : Int) - 1, -1) := rfl
theorem revPlaces (n : Nat) : Builtin.Slice.slicePlaces ((n : Int) - 1) (-1) (-1) = n := by
  unfold Builtin.Slice.slicePlaces
  rw [if_neg (by decide)]
  by_cases h : (n : Int) - 1 > -1
  · rw [if_pos h, show (- -1 : Int) = 1 from rfl, Int.ediv_one]
    omega
  · rw [if_neg h]
    omega
theorem revPick (xs : Array Value) : ((List.range xs.size).filterMap fun (m : Nat) => xs[(((xs.size : Int) - 1) + (m : Int) * (-1)).toNat]?).toArray = xs.toList.reverse.toArray := by
  congr 1
  have e : ∀ m ∈ List.range xs.size, xs[(((xs.size : Int) - 1) + (m : Int) * (-1)).toNat]? = xs[xs.size - 1 - m]? := by
    intro m hm
    have := List.mem_range.mp hm
    congr 1
    omega
  have c : ∀ (l : List Nat), (∀ m ∈ l, m ∈ List.range xs.size) → l.filterMap (fun (m : Nat) => xs[(((xs.size : Int) - 1) + (m : Int) * (-1)).toNat]?) = (l.map fun m => xs.size - 1 - m).filterMap fun j => xs[j]? := by
    intro l
    induction l with
    | nil => intro _; rfl
    | cons m l ih =>
      intro hl
      rw [List.map_cons, List.filterMap_cons, List.filterMap_cons, e m (hl m (by simp)), ih fun j hj => hl j (by simp [hj])]
  rw [c _ fun _ h => h, PySem.W.krv_range, List.filterMap_reverse, PySem.W.krv_all]
theorem sliceRev {sl : Addr} {vs : Value} {n : Nat} {Q : Int × Int × Nat → Shared → Prop} (hs : s.heap.IsSliceOf sl .none .none vs) (ps : IsPart vs (some (-1)))
    (h : Q ((n : Int) - 1, -1, n) s) : wpAny (model prog w) A (Builtin.Slice.sliceApplied (.ref sl) (pure (n : Int))) Q E s := by
  obtain ⟨os, hos, hcs, hds⟩ := id hs
  unfold Builtin.Slice.sliceApplied Builtin.Slice.sliceFields
  refine wpAny_bind ?_
  refine wpAny_bind (wpAny_field hos hds (x := .none) rfl ?_)
  refine wpAny_bind (wpAny_field hos hds (x := .none) rfl ?_)
  refine wpAny_bind (wpAny_field hos hds (x := vs) rfl (wpAny_pure ?_))
  refine wpAny_bind (HT.slicePart_ ps ?_)
  show wpAny _ _ (if ((-1 : Int) == 0) = true then _ else _) _ _ s
  rw [if_neg (by decide)]
  refine wpAny_bind (HT.slicePart_ IsPart.none (wpAny_bind (HT.slicePart_ IsPart.none (wpAny_bind (wpAny_pure ?_)))))
  show wpAny _ _ (match Builtin.Slice.sliceAdjust none none (-1) (n : Int) with | (lo, hi) => pure (lo, (-1 : Int), Builtin.Slice.slicePlaces lo hi (-1))) _ _ s
  rw [revAdjust]
  show wpAny _ _ (pure (((n : Int) - 1), (-1 : Int), Builtin.Slice.slicePlaces ((n : Int) - 1) (-1) (-1))) _ _ s
  rw [revPlaces]
  exact wpAny_pure h
theorem getItem_tuple_rev {t sl : Addr} {items : Array Value} {vs : Value} {Q : Value → Shared → Prop} (ht : IsTup s.heap t items) (hs : s.heap.IsSliceOf sl .none .none vs) (ps : IsPart vs (some (-1)))
    (h : Q (.ref s.heap.objs.size) { s with heap := s.heap.push { cls := .type "tuple", data := .seq items.toList.reverse.toArray } }) (hsz : items.size ≤ sizeLine) : wpAny (model prog w) A (getItem (.ref t) (.ref sl)) Q E s := by
  have hz : sizeOk (.seq items.toList.reverse.toArray) := by
    show items.toList.reverse.toArray.size ≤ sizeLine
    simpa using hsz
  obtain ⟨os, hos, hcs, hds⟩ := id hs
  have hTs : s.TypeIs (.ref sl) "slice" := ⟨os, hos, hcs⟩
  unfold getItem
  try with_reducible refine wpAny_holding ?_
  first | refine wpAny_bind (wpAny_pure ?_) | skip
  refine wpAny_bind (wpAny_sequenceKey ht.typeIs (by decide) ?_)
  refine wpAny_bind (wpAny_callSpecial?_slot (name := Str.ofString "__getitem__") ht.typeIs PyProof.Rows.slot_tuple_getitem ?_)
  refine wpAny_call_entry PyProof.Rows.slot_tuple_getitem ht.typeIs entry_tuple_getitem ?_ (args_tuple_getitem _ _)
  show wpAny _ _ (Builtin.Tuple.tupleItemsOf (.ref t) >>= _) _ _ s
  refine wpAny_bind (tupleItemsOf_ ht (wpAny_bind (wpAny_typeOf hTs ?_)))
  rw [if_pos (by decide)]
  refine wpAny_bind (sliceRev hs ps ?_)
  have hno : ¬ (((((items.size : Int) - 1) == 0) && ((-1 : Int) == 1) && (items.size == items.size)) = true) := by
    rw [show ((-1 : Int) == 1) = false from rfl]
    simp
  show wpAny _ _ (if ((((items.size : Int) - 1) == 0) && ((-1 : Int) == 1) && (items.size == items.size)) = true then _ else _) _ _ s
  rw [if_neg hno, revPick]
  first
    | exact wpAny_bind (m := Builtin.Tuple.tupleExact _) (wpAny_newObj_type (wpAny_pure ⟨_, rfl, wpAny_pure h⟩) hz)
    | exact wpAny_bind (wpAny_bind (m := Builtin.Tuple.tupleExact _) (wpAny_newObj_type (wpAny_pure (wpAny_pure ⟨_, rfl, wpAny_pure h⟩)) hz))
end
/-! ### e[::-1], e a list or a tuple -/
def rRevA (K : PySem.W.Frag) : V → Hp → VK → Prop := fun x H Q => ∃ a xs, x = .ref a ∧ ((SqL K H a xs ∧ ∀ p, H p = none → Q (.ref p) (upd H p (.lst xs.reverse))) ∨ (SqT K H a xs ∧ ∀ p, H p = none → Q (.ref p) (upd H p (.tup xs.reverse))))
def tRevA (K : PySem.W.Frag) (te : TE) : TE := fun σ H Q => te σ H fun x H1 => rRevA K x H1 Q
section
variable {X : Cx}
theorem pe_revA {e : Expr} {te : TE} {k : Nat} {p1 p2 p3 pos : Pos} (he : PE X e te) : PE X (.Subscript e (.Slice none none (some (.UnaryOp .USub (.Constant (.int 1) k p1) p2)) p3) pos) (tRevA X.K te) := by
  refine ⟨fun pins s σ H Q I h => ?_⟩
  refine Subscript_ (thn (he.run pins s σ H _ I h) fun v s1 ⟨x, H1, I1, r1, q1⟩ => ?_)
  obtain ⟨a, xs, ex, q⟩ := q1
  subst ex
  cases r1
  have hst : PO X (some (.UnaryOp .USub (.Constant (.int 1) k p1) p2)) (tPart (tUn (rU fun i => .int (-i)) (tC (.int 1)))) := po_some (pe_un un_neg pe_int)
  refine wpAny_Slice ?_
  rw [show evalPart none X.env = pure .none from evalPart_none _]
  refine wpAny_pure (wpAny_pure ?_)
  refine thn (hst.run pins s1 σ H1 (fun o H4 => o = some (-1) ∧ H4 = H1) I1 ⟨1, rfl, -1, rfl, rfl, rfl⟩) fun vs s4 ⟨o, H4, I4, ps, eo, e4⟩ => ?_
  subst eo e4
  have I5 : L2.Inv X pins σ H4 { s4 with heap := s4.heap.push { cls := .type "slice", data := .fields #[.none, .none, vs] } } := I4.kept (t' := s4.toks) fun b ob q => Heap.get?_push_of_some _ q
  rcases q with ⟨hx, q⟩ | ⟨hx, q⟩
  · obtain ⟨its, r, ht, hz⟩ := I5.list hx
    have hlen := r.length
    show wpAny (model X.prog X.w) X.A (subscriptTail e (.Slice none none (some (.UnaryOp .USub (.Constant (.int 1) k p1) p2)) p3) (.ref a) (.ref s4.heap.objs.size)) (EP X pins σ Q) X.xe { s4 with heap := s4.heap.push { cls := .type "slice", data := .fields #[.none, .none, vs] } }
    refine tail_any (ops := [.ref a, .ref s4.heap.objs.size]) ht.isList.typeIs (PySem.slot_list_getitem.lookup) ?_ (by with_unfolding_all rfl)
    refine wpAny_getItem_list_slice ht.isList (Heap.IsSliceOf.new _ .none .none vs) .none .none ps (by decide) ?_ (by rw [List.size_toArray]; omega)
    rw [PySem.W.krv_pick]
    refine ⟨.ref _, _, I5.laid (t' := s4.toks) (o := .lst xs.reverse) (fun b ob q => Heap.get?_push_of_some _ q) (Nat.le_refl _) ?_, rfl, q _ (I5.hok.fresh (Nat.le_refl _))⟩
    exact ⟨by rw [List.length_reverse]; exact hz, _, 0, r.reverse, Heap.get?_push_size _ rfl⟩
  · obtain ⟨its, r, ht, hz⟩ := I5.tuple hx
    have hlen := r.length
    show wpAny (model X.prog X.w) X.A (subscriptTail e (.Slice none none (some (.UnaryOp .USub (.Constant (.int 1) k p1) p2)) p3) (.ref a) (.ref s4.heap.objs.size)) (EP X pins σ Q) X.xe { s4 with heap := s4.heap.push { cls := .type "slice", data := .fields #[.none, .none, vs] } }
    refine tail_any (ops := [.ref a, .ref s4.heap.objs.size]) ht.typeIs (PyProof.Rows.slot_tuple_getitem.lookup) ?_ (by with_unfolding_all rfl)
    refine getItem_tuple_rev ht (Heap.IsSliceOf.new _ .none .none vs) ps ?_ (by rw [List.size_toArray]; omega)
    refine ⟨.ref _, _, I5.laid (t' := s4.toks) (o := .tup xs.reverse) (fun b ob q => Heap.get?_push_of_some _ q) (Nat.le_refl _) ?_, rfl, q _ (I5.hok.fresh (Nat.le_refl _))⟩
    refine ⟨by rw [List.length_reverse]; exact hz, its.reverse, r.reverse, _, Heap.get?_push_size _ rfl, rfl, 0, rfl⟩
end
section
variable {K : PySem.W.Frag} {Fh : Hp} {Γ Γ1 : Ctx K} {ra : Rs K} {α : Type} [En α] {te : TE}
theorem ev_rvL {xs : List α} (ha : Ev Fh te Γ Γ1 ra) (sa : Seen Fh Γ1 ra (lsD xs)) : Ev Fh (tRevA K te) Γ Γ1 (fun _ => ol xs.reverse) :=
  ev_u (R := rRevA K) ha sa fun u H Q hx o => by
    cases hx with
    | lst hs hd => exact ⟨_, _, rfl, .inl ⟨hs, fun l n => o.lst (by rw [List.map_reverse]; exact dpAll_rev hd) n⟩⟩
theorem ev_rvT {xs : List α} (ha : Ev Fh te Γ Γ1 ra) (sa : Seen Fh Γ1 ra (toD xs)) : Ev Fh (tRevA K te) Γ Γ1 (fun _ => da xs.reverse) :=
  ev_u (R := rRevA K) ha sa fun u H Q hx o => by
    cases hx with
    | tup hs hd => exact ⟨_, _, rfl, .inr ⟨SqT.of hs, fun l n => o.tup (by rw [List.map_reverse]; exact dpAll_rev hd) n⟩⟩
end
end Sx

/-! Sx10: a law's source of numbers, passed along and changed in place. -/
namespace Sx
open PySem
open PySem.Spec
open PyProof.Rows
open L2

structure Src where
  cells : List Int
  left : Int
  mixed : Int
  turn : Int
def kCells : Str := "cells"
def kLeft : Str := "left"
def kMixed : Str := "mixed"
def kTurn : Str := "turn"
def kvsOf (c : Addr) (s : Src) : List (Key × V) := [(.inr "cells", .ref c), (.inr "left", .int s.left), (.inr "mixed", .int s.mixed), (.inr "turn", .int s.turn)]
/-- the source at a, its cells at c (the next one is the last one) -/
def SrcAt (H : Hp) (a c : Addr) (s : Src) : Prop := a ≠ c ∧ H a = some (.dK (kvsOf c s)) ∧ H c = some (.lst (s.cells.reverse.map V.int))
theorem SrcAt.eq {H H' : Hp} {a c : Addr} {s : Src} (h : SrcAt H a c s) (ha : H' a = H a) (hc : H' c = H c) : SrcAt H' a c s := ⟨h.1, ha.trans h.2.1, hc.trans h.2.2⟩
section
variable {K : PySem.W.Frag} {Fh H H' : Hp} {Γ Γ1 Γ2 Γ' : Ctx K} {σ : L2.St} {T : List (Sl K)} {vs : List V} {v : V} {r : Rs K} {s : Sl K} {te : TE} {D : Ends} {a c : Addr} {z z' : Src} {i j : Nat}
def srcA (a c : Addr) (z : Src) : Sl K := ⟨fun H S v => v = .ref a ∧ S a ∧ S c ∧ SrcAt H a c z, fun ⟨e, sa, sc, h⟩ hS hH _ => ⟨e, hS _ sa, hS _ sc, h.eq (hH _ sa) (hH _ sc)⟩⟩
theorem ev_sget {k : Str} {n : Int} (hi : Γ[i]? = some (some (srcA a c z))) (hk : valV (kvsOf c z) (.inr k) = some (.int n)) : Ev Fh (tDGet (tVar i) (tC (.str k))) Γ Γ (fun _ => da n) := fun σ T vs H Q E h => by
  obtain ⟨v, S, e, rfl, sa, sc, ne, h1, h2⟩ := E.get hi
  refine ⟨_, e, a, .int n, rfl, ?_, h _ _ (E.push0 (Dq.int n))⟩
  have q := DGet.k (k := .inr k) h1
  rw [hk] at q
  exact q
theorem ev_scells (hi : Γ[i]? = some (some (srcA a c z))) : Ev Fh (tDGet (tVar i) (tC (.str ("cells" : Str)))) Γ Γ (fun _ => rf c) := fun σ T vs H Q E h => by
  obtain ⟨v, S, e, rfl, sa, sc, ne, h1, h2⟩ := E.get hi
  refine ⟨_, e, a, .ref c, rfl, ?_, h _ _ (E.push0 rfl)⟩
  have q := DGet.k (k := .inr "cells") h1
  rw [show valV (kvsOf c z) (.inr "cells") = some (.ref c) by simp [kvsOf, valV]] at q
  exact q
theorem dup_rf {a : Addr} : Dup (K := K) (rf a) := fun _ _ _ h => h
theorem seen_srf (hi : Γ[i]? = some (some (srcA a c z))) : Seen Fh Γ (fun _ => rf c) (lsD z.cells.reverse) := fun σ w H S v k e => by
  obtain ⟨v', h1, rfl, _, _, _, h2, h3⟩ := k.at_ i _ hi
  have e' : v = .ref c := e
  subst e'
  exact .lst (SqL.of h3) (dpAll_ints _)
theorem Env.resrc (E : Env Fh Γ σ T vs H) (hi : Γ[i]? = some (some (srcA a c z))) : σ[i]? = some (some (.ref a)) ∧ SrcAt H a c z ∧
    ∀ (H' : Hp) (z' : Src), SrcAt H' a c z' → (∀ b, b ≠ a → b ≠ c → H' b = H b) → Env Fh (Γ.set i (some (srcA a c z'))) σ T vs H' := by
  obtain ⟨v, S, h1, ⟨rfl, sa, sc, hz⟩, own, ch⟩ := E.change hi
  refine ⟨h1, hz, fun H' z' hz' k => ch _ H' (fun _ => False) (fun b o hb q => ?_) (fun b hb => ?_) Fresh.none ⟨rfl, .inl sa, .inl sc, hz'⟩⟩
  · rw [k b (fun e => hb (e ▸ sa)) fun e => hb (e ▸ sc)]; exact q
  · by_cases e1 : b = a
    · subst e1; exact ⟨_, hz'.2.1, nofun⟩
    · by_cases e2 : b = c
      · subst e2; exact ⟨_, hz'.2.2, nofun⟩
      · obtain ⟨_, o, ho, m⟩ := own b hb
        exact ⟨o, by rw [k b e1 e2]; exact ho, m⟩
theorem do_sput {k : Str} {n : Int} (E : Env Fh Γ σ T vs H) (he : Ev Fh te Γ Γ1 (fun _ => da n)) (hi : Γ1[i]? = some (some (srcA a c z))) (hk : putK (kvsOf c z) (.inr k) (.int n) = kvsOf c z') (hc : z'.cells = z.cells)
    (h : ∀ H', Env Fh (Γ1.set i (some (srcA a c z'))) σ T vs H' → D.nx σ H') : sDPut (tVar i) (tC (.str k)) te D σ H :=
  he σ T vs H _ E fun v H1 E1 => by
    have dv : Dq K H1 v (toD n) := E1.seen (r := fun _ => da n) seen_da
    cases dv
    obtain ⟨h1, hz, ch⟩ := E1.pop.resrc hi
    refine ⟨_, h1, a, _, rfl, DPut.k (k := .inr k) hz.2.1 (Nat.lt_of_le_of_lt (show 4 ≤ 15 by decide) (by decide)), h _ (ch _ z' ⟨hz.1, ?_, ?_⟩ fun b h1 _ => upd_ne h1)⟩
    · rw [hk]; exact upd_same
    · rw [upd_ne hz.1.symm, hc]; exact hz.2.2
theorem ev_spop {x : Int} {xs : List Int} (hj : Γ[j]? = some (some (rf c))) (hi : Γ[i]? = some (some (srcA a c z))) (hc : z.cells = x :: xs) :
    Ev Fh (tBM0 K "list" rPop (tVar j)) Γ (Γ.set i (some (srcA a c { z with cells := xs }))) (fun _ => da x) := fun σ T vs H Q E h => by
  obtain ⟨v, S, e, ev⟩ := E.get hj
  have ev : v = .ref c := ev
  subst ev
  obtain ⟨h1, hz, ch⟩ := E.resrc hi
  have hl := hz.2.2
  rw [hc, List.reverse_cons, List.map_append] at hl
  refine ⟨_, e, .inl ⟨rfl, _, SqL.of hl⟩, c, _, .int x, rfl, rfl, hl, ?_, h _ _ ?_⟩
  · simp
  · refine (ch _ { z with cells := xs } ⟨hz.1, ?_, ?_⟩ fun b _ h2 => upd_ne h2).push0 (Dq.int x)
    · rw [upd_ne hz.1]; exact hz.2.1
    · rw [upd_same]; simp
/-! ### promises of defs that change the source -/
def without (H : Hp) (a c : Addr) : Hp := fun b => if b = a ∨ b = c then none else H b
theorem without_ne {b : Addr} (h1 : b ≠ a) (h2 : b ≠ c) : without H a c b = H b := if_neg fun z => z.elim h1 h2
theorem without_some {b : Addr} {o : HO} (h : without H a c b = some o) : b ≠ a ∧ b ≠ c ∧ H b = some o := by
  unfold without at h
  split at h
  · cases h
  · rename_i q
    exact ⟨fun z => q (.inl z), fun z => q (.inr z), h⟩
def spS {A : Type} (K : PySem.W.Frag) (pre : A → Prop) (z0 z1 : A → Src) (ins : A → List PyData) (res : A → Sl K) : Sp := fun vs H Q _ =>
  ∃ (x : A) (a c : Addr) (ws : List V), pre x ∧ vs = .ref a :: ws ∧ SrcAt H a c (z0 x) ∧ DqAll K (without H a c) ws (ins x) ∧
    ∀ v H' S, Same (without H a c) H' → SrcAt H' a c (z1 x) → Fresh H H' S → (res x).p H' S v → Q v H'
theorem Env.without (E : Env Fh Γ σ T vs H) (hi : Γ[i]? = some (some (srcA a c z))) : Env Fh (Γ.set i none) σ T vs (without H a c) := by
  obtain ⟨w, k, t⟩ := E
  have hil : i < Γ.length := (List.getElem?_eq_some_iff.mp hi).1
  obtain ⟨v, h1, rfl, sa, sc, hz⟩ := k.at_ i _ hi
  have sa : w a = some i := sa
  have sc : w c = some i := sc
  have kt : KeepT H (Sx.without H a c) := fun b xs q => by
    rw [without_ne (fun e => by rw [e, hz.2.1] at q; cases q) fun e => by rw [e, hz.2.2] at q; cases q]
    exact q
  have oth : ∀ b j, j ≠ i → w b = some j → (if b = a ∨ b = c then none else w b) = some j ∧ Sx.without H a c b = H b := fun b j hj q => by
    have n1 : b ≠ a := fun e => by rw [e, sa] at q; exact hj (Option.some.inj q).symm
    have n2 : b ≠ c := fun e => by rw [e, sc] at q; exact hj (Option.some.inj q).symm
    rw [if_neg fun z => z.elim n1 n2]
    exact ⟨q, without_ne n1 n2⟩
  refine ⟨fun b => if b = a ∨ b = c then none else w b, ⟨fun b o q => ?_, fun b y => ?_, by rw [List.length_set]; exact k.len, fun j s e => ?_⟩, ?_⟩
  · rw [without_ne (fun e => ?_) fun e => ?_]
    · exact k.same b o q
    · have n := (k.own a (by rw [sa]; simp)).1
      rw [e, n] at q; cases q
    · have n := (k.own c (by rw [sc]; simp)).1
      rw [e, n] at q; cases q
  · have y' : (if b = a ∨ b = c then none else w b) ≠ none := y
    by_cases q : b = a ∨ b = c
    · rw [if_pos q] at y'; exact absurd rfl y'
    · rw [if_neg q] at y'
      obtain ⟨h3, o, ho, m⟩ := k.own b y'
      exact ⟨h3, o, by rw [without_ne (fun e => q (.inl e)) fun e => q (.inr e)]; exact ho, m⟩
  · by_cases hj : j = i
    · subst hj
      rw [List.getElem?_set_self hil] at e
      cases e
    · rw [List.getElem?_set_ne (Ne.symm hj)] at e
      obtain ⟨v', h3, h4⟩ := k.at_ j s e
      exact ⟨v', h3, s.mono h4 (fun b q => (oth b j hj q).1) (fun b q => (oth b j hj q).2) kt⟩
  · rw [List.length_set]
    exact t.mono kt fun b j _ q => oth b _ (by omega) q
open Classical in
theorem ev_callS {A : Type} {pre : A → Prop} {z0 z1 : A → Src} {ins : A → List PyData} {res : A → Sl K} {E0 : XK} {t : TA} {rs : L2.St → List (Sl K)} (x : A) (h0 : Γ[i]? = some (some (srcA a c z))) (ha : EvA Fh t Γ Γ1 rs)
    (hi : Γ1[i]? = some (some (srcA a c (z0 x)))) (hs : SeenA Fh (Γ1.set i none) rs (ins x)) (hp : pre x) :
    Ev Fh (tCall (spS K pre z0 z1 ins res) [] E0 (tCons (tVar i) t)) Γ (Γ1.set i (some (srcA a c (z1 x)))) (fun _ => res x) := fun σ T vs H Q E k => by
  obtain ⟨v, S, e, rfl, _⟩ := E.get h0
  refine ⟨_, e, ha σ T vs H _ E fun ws H1 el E1 => ?_⟩
  have E2 : Env Fh Γ1 σ T vs H1 := E1.drop (by simpa using el)
  have hd := hs σ T ws vs _ el (E1.without hi)
  obtain ⟨v', S', h1, ⟨rfl, sa, sc, hz⟩, own, ch⟩ := E2.change hi
  refine ⟨x, a, c, ws, hp, by rw [List.append_nil], hz, hd, fun v H' S sm hz' fr hr => ?_⟩
  have nS : ∀ b o, H1 b = some o → ¬ S b := fun b o q s => by rw [(fr b s).1] at q; cases q
  have E3 := ch (srcA a c (z1 x)) (fun b => if S b then none else H' b) (fun _ => False) (fun b o hb q => ?_) (fun b hb => ?_) Fresh.none ⟨rfl, .inl sa, .inl sc, hz'.eq (if_neg (nS _ _ hz.2.1)) (if_neg (nS _ _ hz.2.2))⟩
  · refine k v H' (E3.push (S := S) (fun b o q => ?_) (fun b s => ⟨if_pos s, (fr b s).2⟩) hr)
    have q' : (if S b then none else H' b) = some o := q
    by_cases s : S b
    · rw [if_pos s] at q'; cases q'
    · rw [if_neg s] at q'; exact q'
  · show (if S b then none else H' b) = some o
    rw [if_neg (nS _ _ q)]
    exact sm b o (by rw [without_ne (show b ≠ a from fun e => hb (e ▸ sa)) (show b ≠ c from fun e => hb (e ▸ sc))]; exact q)
  · show ∃ o, (if S b then none else H' b) = some o ∧ NT o
    obtain ⟨_, o, ho, m⟩ := own b hb
    rw [if_neg (nS _ _ ho)]
    by_cases e1 : b = a
    · subst e1; exact ⟨_, hz'.2.1, nofun⟩
    · by_cases e2 : b = c
      · subst e2; exact ⟨_, hz'.2.2, nofun⟩
      · exact ⟨o, sm b o (by rw [without_ne e1 e2]; exact ho), m⟩
theorem enterS {ds : List PyData} {ss : List (Sl K)} {ws : List V} {N : List Str} (hz : SrcAt H a c z) (g : Args (without H a c) ds ss) (h : DqAll K (without H a c) ws ds) :
    Env (without H a c) (some (srcA a c z) :: (ss.map some ++ List.replicate (N.length - (ws.length + 1)) none)) (L2.start N (.ref a :: ws)) [] [] H := by
  obtain ⟨w, k, _⟩ := enter (N := N.tail) g h
  have hl : ss.length = ws.length := g.len.trans h.len.symm
  refine ⟨fun b => if b = a ∨ b = c then some 0 else none, ⟨fun b o q => (without_some q).2.2, fun b y => ?_, by simp [L2.start, hl], fun i s e => ?_⟩, trivial⟩
  · by_cases q : b = a ∨ b = c
    · refine ⟨if_pos q, ?_⟩
      rcases q with rfl | rfl
      · exact ⟨_, hz.2.1, nofun⟩
      · exact ⟨_, hz.2.2, nofun⟩
    · exact absurd (if_neg q) y
  · cases i with
    | zero =>
      cases e
      exact ⟨_, rfl, rfl, if_pos (.inl rfl), if_pos (.inr rfl), hz⟩
    | succ i =>
      rw [List.getElem?_cons_succ] at e
      by_cases hi : i < ss.length
      · rw [List.getElem?_append_left (by simpa using hi), List.getElem?_map] at e
        cases q : ss[i]? with
        | none => rw [q] at e; cases e
        | some s' =>
          rw [q] at e
          have e' : s' = s := by simpa using e
          subst e'
          obtain ⟨v, h1, h2⟩ := g.at_ (ws := []) h q
          refine ⟨v, ?_, s'.mono h2 (fun _ z => z.elim) (fun _ z => z.elim) fun b xs q => (without_some q).2.2⟩
          unfold L2.start
          rw [List.map_cons, List.cons_append, List.getElem?_cons_succ, List.getElem?_append_left (by simp; omega), List.getElem?_map, h1]; rfl
      · rw [List.getElem?_append_right (by simpa using hi), List.getElem?_replicate] at e
        split at e <;> cases e
/-- the end of such a def -/
theorem Env.finS {Q : VK} {H0 : Hp} (E : Env (Sx.without H0 a c) Γ σ (s :: T) (v :: vs) H) (h0 : Γ[0]? = some (some (srcA a c z))) (k : ∀ v H' S, Same (Sx.without H0 a c) H' → SrcAt H' a c z → Fresh H0 H' S → s.p H' S v → Q v H') : Q v H := by
  obtain ⟨w, cr, t, _⟩ := E
  obtain ⟨v', h1, rfl, sa, sc, hz⟩ := cr.at_ 0 _ h0
  have hl : 0 < Γ.length := (List.getElem?_eq_some_iff.mp h0).1
  refine k v H _ cr.same hz (fun b q => ?_) t
  have q' : w b = some (Γ.length + T.length) := q
  obtain ⟨n, o⟩ := cr.own b (by rw [q']; simp)
  have n1 : b ≠ a := fun e => by rw [e, show w a = some 0 from sa] at q'; have := Option.some.inj q'; omega
  have n2 : b ≠ c := fun e => by rw [e, show w c = some 0 from sc] at q'; have := Option.some.inj q'; omega
  rw [without_ne n1 n2] at n
  exact ⟨n, o⟩
theorem Env.finSal {Q : VK} {H0 : Hp} (E : Env (Sx.without H0 a c) Γ σ (al σ[i]? :: T) (v :: vs) H) (h0 : Γ[0]? = some (some (srcA a c z))) (hi : Γ[i]? = some (some s)) (i0 : i ≠ 0) (k : ∀ v H' S, Same (Sx.without H0 a c) H' → SrcAt H' a c z → Fresh H0 H' S → s.p H' S v → Q v H') : Q v H := by
  obtain ⟨w, cr, t, _⟩ := E
  obtain ⟨v', h1, rfl, sa, sc, hz⟩ := cr.at_ 0 _ h0
  obtain ⟨v2, g1, g2⟩ := cr.at_ i _ hi
  have e : v2 = v := Option.some.inj (Option.some.inj (g1.symm.trans t))
  subst e
  refine k v2 H _ cr.same hz (fun b q => ?_) g2
  have q' : w b = some i := q
  obtain ⟨n, o⟩ := cr.own b (by rw [q']; simp)
  have n1 : b ≠ a := fun e => by rw [e, show w a = some 0 from sa] at q'; have := Option.some.inj q'; omega
  have n2 : b ≠ c := fun e => by rw [e, show w c = some 0 from sc] at q'; have := Option.some.inj q'; omega
  rw [without_ne n1 n2] at n
  exact ⟨n, o⟩
end
end Sx

/-! Sx11: comprehensions that change nothing; assignments of two and three. -/
namespace Sx
open PySem
open PySem.Spec
open PyProof.Rows
open L2
section
variable {K : PySem.W.Frag} {Fh H H' : Hp} {Γ Γ1 Γ2 Γ3 Γ' : Ctx K} {σ : L2.St} {T : List (Sl K)} {vs : List V} {v : V} {r : Rs K} {s s1 s2 s3 : Sl K} {te : TE} {D : Ends} {i j l : Nat} {α β δ : Type} [En α] [En β] [En δ]
theorem le_set : ∀ {Γ : Ctx K} {i : Nat} {s : Option (Sl K)}, Γ[i]? = some none → Le (Γ.set i s) Γ
  | [], i, s, h => by simp at h
  | a :: Γ, 0, s, h => by
    have e : a = none := by simpa using h
    subst e
    exact .drop (Le.refl Γ)
  | a :: Γ, i + 1, s, h => .keep (le_set (by simpa using h))
theorem Le.comp : ∀ {A B C : Ctx K}, Le A B → Le B C → Le A C
  | _, _, _, .nil, k => k
  | _, _, _, .keep h, .keep k => .keep (Le.comp h k)
  | _, _, _, .keep h, .drop k => .drop (Le.comp h k)
  | _, _, _, .drop h, .keep k => .drop (Le.comp h k)
  | _, _, _, .drop h, .drop k => .drop (Le.comp h k)
theorem le_set2 {a b : Option (Sl K)} (hi : Γ[i]? = some none) (hj : Γ[j]? = some none) : Le ((Γ.set i a).set j b) Γ := by
  by_cases e : i = j
  · subst e
    rw [List.set_set]
    exact le_set hi
  · have h : Le ((Γ.set i a).set j b) (Γ.set i a) := le_set (by rw [List.getElem?_set_ne e]; exact hj)
    exact h.comp (le_set hi)
/-- a comprehension that changes nothing -/
theorem ev_lcp {ok : Ctx K → Prop} {wi : TI} {g : TG} {tt : TT} {xs : List δ} {ls : List Nat} (Gx : δ → Ctx K) (b : δ → Bool) (z : δ → α) (hi : EvW false Fh wi Γ Γ1 ok xs) (hs : ok Γ1) (hn : ∀ j ∈ ls, Γ1[j]? = some none) (hg : ∀ y, EvG Fh g (da y) Γ1 (Gx y) ls) (hz : xs.length ≤ sizeLine)
    (ht : ∀ y, y ∈ xs → EvT Fh tt (Gx y) (Gx y) (b y)) (hy : ∀ y, y ∈ xs → b y = true → Ev Fh te (Gx y) (Gx y) (fun _ => da (z y))) (hl : ∀ y, Le (Gx y) Γ1) : Ev Fh (tLc wi g tt te ls) Γ Γ1 (fun _ => ol ((xs.filter b).map z)) := by
  refine ev_lc (Gx := fun _ y => Gx y) (Gt := fun _ y => Gx y) (b := fun _ y => b y) (fun _ => Γ1) (fun pre => (pre.filter b).map z) hi (Le.refl Γ1) (fun _ => hs) (fun _ j hj s e => ?_) (fun _ y => hg y) rfl hz (fun pre y post e => ht y (by rw [e]; simp)) (fun pre y post e hb => ⟨z y, _, hy y (by rw [e]; simp) hb, hl y, ?_⟩) fun pre y post e hb => ⟨hl y, ?_⟩
  · rw [hn j hj] at e; cases e
  · rw [List.filter_append, List.map_append, List.filter_cons, if_pos hb]; rfl
  · rw [List.filter_append, List.filter_cons, if_neg (by rw [hb]; simp)]; simp
/-- .. with a name for the things -/
theorem ev_lcn {ok : Ctx K → Prop} {wi : TI} {tt : TT} {xs : List δ} (b : δ → Bool) (z : δ → α) (hi : EvW false Fh wi Γ Γ1 ok xs) (hs : ok Γ1) (h0 : Γ1[i]? = some none) (hz : xs.length ≤ sizeLine)
    (ht : ∀ y, y ∈ xs → EvT Fh tt (Γ1.set i (some (da y))) (Γ1.set i (some (da y))) (b y)) (hy : ∀ y, y ∈ xs → b y = true → Ev Fh te (Γ1.set i (some (da y))) (Γ1.set i (some (da y))) (fun _ => da (z y))) : Ev Fh (tLc wi (gName i) tt te [i]) Γ Γ1 (fun _ => ol ((xs.filter b).map z)) :=
  ev_lcp (fun y => Γ1.set i (some (da y))) b z hi hs (fun j hj => by rw [List.mem_singleton] at hj; subst hj; exact h0) (fun y => eg_name (List.getElem?_eq_some_iff.mp h0).1) hz ht hy fun y => le_set h0
/-- .. all of them -/
theorem ev_lcm {ok : Ctx K → Prop} {wi : TI} {xs : List δ} (z : δ → α) (hi : EvW false Fh wi Γ Γ1 ok xs) (hs : ok Γ1) (h0 : Γ1[i]? = some none) (hz : xs.length ≤ sizeLine)
    (hy : ∀ y, y ∈ xs → Ev Fh te (Γ1.set i (some (da y))) (Γ1.set i (some (da y))) (fun _ => da (z y))) : Ev Fh (tLc wi (gName i) tYes te [i]) Γ Γ1 (fun _ => ol (xs.map z)) := by
  have q := ev_lcn (te := te) (tt := tYes) (fun _ => true) z hi hs h0 hz (fun y _ => evt_yes) fun y hm _ => hy y hm
  rwa [List.filter_eq_self.mpr fun _ _ => rfl] at q
/-- .. those that b holds of -/
theorem ev_lcf {ok : Ctx K → Prop} {wi : TI} {tt : TT} {xs : List α} (b : α → Bool) (hi : EvW false Fh wi Γ Γ1 ok xs) (hs : ok Γ1) (h0 : Γ1[i]? = some none) (hz : xs.length ≤ sizeLine)
    (ht : ∀ y, y ∈ xs → EvT Fh tt (Γ1.set i (some (da y))) (Γ1.set i (some (da y))) (b y)) : Ev Fh (tLc wi (gName i) tt (tVar i) [i]) Γ Γ1 (fun _ => ol (xs.filter b)) := by
  have q := ev_lcn (te := tVar i) (tt := tt) b id hi hs h0 hz ht fun y hm _ => ev_da (List.getElem?_set_self (List.getElem?_eq_some_iff.mp h0).1)
  rwa [List.map_id] at q
/-! ### x, y = e, f -/
theorem eva1 {ta : TE} (ha : Ev Fh ta Γ Γ1 (fun _ => s1)) : EvA Fh (tCons ta tNil) Γ Γ1 (fun _ => [s1]) := eva_cons ha eva_nil
theorem do_par {ta tb : TE} (E : Env Fh Γ σ T vs H) (ha : Ev Fh ta Γ Γ1 (fun _ => s1)) (hb : Ev Fh tb Γ1 Γ2 (fun _ => s2)) (hi : i < Γ2.length) (hj : j < Γ2.length) (hij : i ≠ j)
    (h : ∀ σ' H', Env Fh ((Γ2.set j (some s2)).set i (some s1)) σ' T vs H' → D.nx σ' H') : tPar i j (tCons ta (tCons tb tNil)) D σ H :=
  ha σ T vs H _ E fun x H1 E1 => hb σ _ _ H1 _ E1 fun y H2 E2 => by
    refine ⟨x, y, rfl, h _ _ ?_⟩
    rw [List.set_comm _ _ hij]
    exact (E2.store hj).store (by rw [List.length_set]; exact hi)
theorem do_par3 {ta tb tc : TE} (E : Env Fh Γ σ T vs H) (ha : Ev Fh ta Γ Γ1 (fun _ => s1)) (hb : Ev Fh tb Γ1 Γ2 (fun _ => s2)) (hc : Ev Fh tc Γ2 Γ3 (fun _ => s3)) (hi : i < Γ3.length) (hj : j < Γ3.length) (hl : l < Γ3.length) (hij : i ≠ j) (hil : i ≠ l) (hjl : j ≠ l)
    (h : ∀ σ' H', Env Fh (((Γ3.set l (some s3)).set j (some s2)).set i (some s1)) σ' T vs H' → D.nx σ' H') : tPar3 i j l (tCons ta (tCons tb (tCons tc tNil))) D σ H :=
  ha σ T vs H _ E fun x H1 E1 => hb σ _ _ H1 _ E1 fun y H2 E2 => hc σ _ _ H2 _ E2 fun z H3 E3 => by
    refine ⟨x, y, z, rfl, h _ _ ?_⟩
    have q := ((E3.store hl).store (i := j) (by rw [List.length_set]; exact hj)).store (i := i) (by rw [List.length_set, List.length_set]; exact hi)
    rw [List.set_comm _ _ hjl.symm, List.set_comm _ _ hil.symm, List.set_comm _ _ hij.symm] at q
    rw [List.set_comm (some x) (some y) hij, List.set_comm (some x) (some z) hil, List.set_comm (some y) (some z) hjl] 
    first
    | exact q
    | (rw [List.set_comm _ _ hjl.symm, List.set_comm _ _ hil.symm, List.set_comm _ _ hij.symm]; exact q)
/-! ### more built-ins -/
theorem ev_int1 {n : Int} (ha : Ev Fh te Γ Γ1 (fun _ => da n)) : Ev Fh (tCB (fun xs H Q => (∃ i, xs = [.int i] ∧ Q (.int i) H) ∨ ∃ k, xs = [.bl k] ∧ Q (.int (if k then 1 else 0)) H) (tCons te tNil)) Γ Γ1 (fun _ => da n) :=
  ev_c1 ha seen_da fun x H Q hx o => by
    cases hx
    exact .inl ⟨n, rfl, o.now (Dq.int _)⟩
theorem ev_abs {n : Int} (ha : Ev Fh te Γ Γ1 (fun _ => da n)) : Ev Fh (tCB (fun xs H Q => ∃ i, xs = [.int i] ∧ Q (.int (if i < 0 then -i else i)) H) (tCons te tNil)) Γ Γ1 (fun _ => da (if n < 0 then -n else n)) :=
  ev_c1 ha seen_da fun x H Q hx o => by
    cases hx
    exact ⟨n, rfl, o.now (Dq.int _)⟩
theorem ev_mul {ta tb : TE} {i j : Int} (ha : Ev Fh ta Γ Γ1 (fun _ => da i)) (hb : Ev Fh tb Γ1 Γ2 (fun _ => da j)) (hc : CMul i j) : Ev Fh (tOp (rI CMul fun i j => .int (i * j)) ta tb) Γ Γ2 (fun _ => da (i * j)) := ev_rI ha hb (fun _ => Dq.int _) hc
theorem ev_fdiv {ta tb : TE} {i j : Int} (ha : Ev Fh ta Γ Γ1 (fun _ => da i)) (hb : Ev Fh tb Γ1 Γ2 (fun _ => da j)) (hc : CDivW i j) : Ev Fh (tOp (rI CDivW fun i j => .int (i / j)) ta tb) Γ Γ2 (fun _ => da (i / j)) := ev_rI ha hb (fun _ => Dq.int _) hc
theorem ev_mod {ta tb : TE} {i j : Int} (ha : Ev Fh ta Γ Γ1 (fun _ => da i)) (hb : Ev Fh tb Γ1 Γ2 (fun _ => da j)) (hc : 0 < j) : Ev Fh (tOp (rI (fun _ j => 0 < j) fun i j => .int (i % j)) ta tb) Γ Γ2 (fun _ => da (i % j)) := ev_rI (C := fun _ j => 0 < j) ha hb (fun _ => Dq.int _) hc
theorem ev_sub {ta tb : TE} {i j : Int} (ha : Ev Fh ta Γ Γ1 (fun _ => da i)) (hb : Ev Fh tb Γ1 Γ2 (fun _ => da j)) : Ev Fh (tOp (rI0 fun i j => .int (i - j)) ta tb) Γ Γ2 (fun _ => da (i - j)) := ev_rI0 ha hb fun _ => Dq.int _
end
end Sx

/-! Bm: least sets that meet others, as ascending lists of ints. -/
namespace Bm
abbrev Asc (s : List Int) : Prop := s.Pairwise (· < ·)
def Sub (s t : List Int) : Prop := ∀ n ∈ s, n ∈ t
theorem Sub.refl (s : List Int) : Sub s s := fun _ h => h
theorem Sub.trans {s t u : List Int} (a : Sub s t) (b : Sub t u) : Sub s u := fun n h => b n (a n h)
theorem asc_len : ∀ (t s : List Int), Asc s → Asc t → Sub s t → s.length ≤ t.length ∧ (t.length ≤ s.length → s = t)
  | t, [], _, _, _ => ⟨Nat.zero_le _, fun h => (List.length_eq_zero_iff.mp (Nat.le_zero.mp h)).symm⟩
  | [], a :: s, _, _, h => absurd (h a (by simp)) (by simp)
  | b :: t, a :: s, hs, ht, h => by
    rw [Asc, List.pairwise_cons] at hs ht
    by_cases e : a = b
    · subst e
      have h2 : Sub s t := fun n hn => by
        have := h n (by simp [hn])
        have g := hs.1 n hn
        rw [List.mem_cons] at this
        rcases this with z | z
        · omega
        · exact z
      have ih := asc_len t s hs.2 ht.2 h2
      refine ⟨by simp only [List.length_cons]; omega, fun z => ?_⟩
      rw [ih.2 (by simpa using z)]
    · have ha : a ∈ t := by
        have := h a (by simp)
        rw [List.mem_cons] at this
        exact this.resolve_left e
      have g0 := ht.1 a ha
      have h2 : Sub (a :: s) t := fun n hn => by
        have h3 := h n hn
        rw [List.mem_cons] at h3
        refine h3.resolve_left fun z => ?_
        rw [List.mem_cons] at hn
        rcases hn with q | q
        · exact e (by omega)
        · have := hs.1 n q
          omega
      have ih := asc_len t (a :: s) (List.pairwise_cons.mpr hs) ht.2 h2
      simp only [List.length_cons] at ih ⊢
      exact ⟨by omega, fun z => by omega⟩
theorem asc_eq {s t : List Int} (hs : Asc s) (ht : Asc t) (h : Sub s t) (l : t.length ≤ s.length) : s = t := (asc_len t s hs ht h).2 l
theorem asc_antisymm {s t : List Int} (hs : Asc s) (ht : Asc t) (h : Sub s t) (h2 : Sub t s) : s = t := asc_eq hs ht h (asc_len s t ht hs h2).1
def meets (s b : List Int) : Bool := b.any fun n => decide (n ∈ s)
theorem meets_iff {s b : List Int} : meets s b = true ↔ ∃ n, n ∈ b ∧ n ∈ s := by
  unfold meets
  rw [List.any_eq_true]
  exact ⟨fun ⟨n, h1, h2⟩ => ⟨n, h1, of_decide_eq_true h2⟩, fun ⟨n, h1, h2⟩ => ⟨n, h1, decide_eq_true h2⟩⟩
def Hit (s : List Int) (B : List (List Int)) : Prop := ∀ b ∈ B, ∃ n, n ∈ b ∧ n ∈ s
theorem Hit.mono {s t : List Int} {B : List (List Int)} (h : Hit s B) (st : Sub s t) : Hit t B := fun b hb => let ⟨n, h1, h2⟩ := h b hb; ⟨n, h1, st n h2⟩
/-- least ones that meet all -/
def MH (B : List (List Int)) (s : List Int) : Prop := Asc s ∧ Hit s B ∧ ∀ t, Asc t → Sub t s → Hit t B → t = s
instance (s : List Int) (B : List (List Int)) : Decidable (Hit s B) := decidable_of_iff (∀ b ∈ B, meets s b = true) ⟨fun h b hb => meets_iff.mp (h b hb), fun h b hb => meets_iff.mpr (h b hb)⟩
theorem asc_erase {s : List Int} (h : Asc s) (n : Int) : Asc (s.filter fun m => decide (m ≠ n)) := List.Pairwise.sublist List.filter_sublist h
/-- within a set that meets all there is a least one -/
theorem exists_MH (B : List (List Int)) : ∀ (k : Nat) (s : List Int), s.length ≤ k → Asc s → Hit s B → ∃ t, MH B t ∧ Sub t s
  | 0, s, hl, _, hh => by
    have e := List.length_eq_zero_iff.mp (Nat.le_zero.mp hl)
    subst e
    exact ⟨[], ⟨List.Pairwise.nil, hh, fun t _ ht _ => by
      cases t with
      | nil => rfl
      | cons a t => exact absurd (ht a (by simp)) (by simp)⟩, Sub.refl _⟩
  | k + 1, s, hl, hs, hh => by
    by_cases h : ∀ t, Asc t → Sub t s → Hit t B → t = s
    · exact ⟨s, ⟨hs, hh, h⟩, Sub.refl s⟩
    · obtain ⟨t, h⟩ := Classical.not_forall.mp h
      obtain ⟨ht, h⟩ := Classical.not_imp.mp h
      obtain ⟨st, h⟩ := Classical.not_imp.mp h
      obtain ⟨hit, ne⟩ := Classical.not_imp.mp h
      have hlt : t.length ≤ k := by
        have q := asc_len s t ht hs st
        by_cases z : s.length ≤ t.length
        · exact absurd (q.2 z) ne
        · omega
      obtain ⟨u, h1, h2⟩ := exists_MH B k t hlt ht hit
      exact ⟨u, h1, h2.trans st⟩
theorem hit_MH {B : List (List Int)} {s : List Int} (hs : Asc s) (hh : Hit s B) : ∃ t, MH B t ∧ Sub t s := exists_MH B _ s (Nat.le_refl _) hs hh
theorem MH_congr {B C : List (List Int)} (h : ∀ b, b ∈ B ↔ b ∈ C) (s : List Int) : MH B s ↔ MH C s := by
  have e : ∀ t, Hit t B ↔ Hit t C := fun t => ⟨fun k b hb => k b ((h b).mpr hb), fun k b hb => k b ((h b).mp hb)⟩
  unfold MH
  simp only [e]
/-- all numbers of a least one stand in some bunch -/
theorem MH_in {B : List (List Int)} {s : List Int} (h : MH B s) {n : Int} (hn : n ∈ s) : ∃ b ∈ B, n ∈ b := by
  by_cases q : ∃ b ∈ B, n ∈ b
  · exact q
  · have e := h.2.2 (s.filter fun m => decide (m ≠ n)) (asc_erase h.1 n) (fun m hm => (List.mem_filter.mp hm).1) fun b hb => by
      obtain ⟨m, h1, h2⟩ := h.2.1 b hb
      refine ⟨m, h1, List.mem_filter.mpr ⟨h2, decide_eq_true fun z => q ⟨b, hb, z ▸ h1⟩⟩⟩
    have := e ▸ hn
    exact absurd rfl (of_decide_eq_true (List.mem_filter.mp this).2)
/-- the blocker of the blocker -/
theorem MH_MH {B D : List (List Int)} (hA : ∀ b ∈ B, Asc b) (h0 : [] ∉ B) (hD : ∀ s, s ∈ D ↔ MH B s) (t : List Int) : MH D t ↔ t ∈ B ∧ ∀ b ∈ B, Sub b t → b = t := by
  have key : ∀ t, Asc t → Hit t D → ∃ b ∈ B, Sub b t := fun t ht hh => by
    by_cases q : ∃ b ∈ B, Sub b t
    · exact q
    · -- what is not in t meets all
      have h1 : ∀ b ∈ B, ∃ n, n ∈ b ∧ n ∉ t := fun b hb => by
        by_cases z : ∃ n, n ∈ b ∧ n ∉ t
        · exact z
        · exact absurd ⟨b, hb, fun n hn => Classical.byContradiction fun w => z ⟨n, hn, w⟩⟩ q
      -- an ascending list of what is not in t
      have srt : ∀ l : List Int, ∃ u, Asc u ∧ ∀ n, n ∈ u ↔ n ∈ l := by
        intro l
        induction l with
        | nil => exact ⟨[], List.Pairwise.nil, fun n => Iff.rfl⟩
        | cons a l ih =>
          obtain ⟨u, hu, he⟩ := ih
          refine ⟨u.filter (fun m => decide (m < a)) ++ a :: u.filter fun m => decide (a < m), ?_, fun n => ?_⟩
          · rw [Asc, List.pairwise_append]
            refine ⟨List.Pairwise.sublist List.filter_sublist hu, List.pairwise_cons.mpr ⟨fun n hn => of_decide_eq_true (List.mem_filter.mp hn).2, List.Pairwise.sublist List.filter_sublist hu⟩, fun x hx y hy => ?_⟩
            have x1 := of_decide_eq_true (List.mem_filter.mp hx).2
            rw [List.mem_cons] at hy
            rcases hy with z | z
            · omega
            · have := of_decide_eq_true (List.mem_filter.mp z).2
              omega
          · simp only [List.mem_append, List.mem_filter, List.mem_cons, decide_eq_true_eq, he]
            constructor
            · rintro (z | z | z)
              · exact .inr z.1
              · exact .inl z
              · exact .inr z.1
            · rintro (z | z)
              · exact .inr (.inl z)
              · rcases Int.lt_trichotomy n a with w | w | w
                · exact .inl ⟨z, w⟩
                · exact .inr (.inl w)
                · exact .inr (.inr ⟨z, w⟩)
      obtain ⟨u, hu, he⟩ := srt (B.flatten.filter fun n => decide (n ∉ t))
      obtain ⟨m, h2, h3⟩ := hit_MH (B := B) hu fun b hb => by
        obtain ⟨n, e1, e2⟩ := h1 b hb
        exact ⟨n, e1, (he n).mpr (List.mem_filter.mpr ⟨List.mem_flatten.mpr ⟨b, hb, e1⟩, decide_eq_true e2⟩)⟩
      obtain ⟨n, e1, e2⟩ := hh m ((hD m).mpr h2)
      have := (List.mem_filter.mp ((he n).mp (h3 n e1))).2
      exact absurd e2 (of_decide_eq_true this)
  have back : ∀ b ∈ B, Hit b D := fun b hb s hs => by
    obtain ⟨n, h1, h2⟩ := ((hD s).mp hs).2.1 b hb
    exact ⟨n, h2, h1⟩
  constructor
  · rintro ⟨h1, h2, h3⟩
    obtain ⟨b, hb, st⟩ := key t h1 h2
    have e := h3 b (hA b hb) st (back b hb)
    subst e
    exact ⟨hb, fun c hc st => h3 c (hA c hc) st (back c hc)⟩
  · rintro ⟨h1, h2⟩
    refine ⟨hA t h1, back t h1, fun u hu st hh => ?_⟩
    obtain ⟨b, hb, sb⟩ := key u hu hh
    have e := h2 b hb (sb.trans st)
    subst e
    exact asc_antisymm hu (hA b hb) st sb
theorem MH_nil (t : List Int) : MH [] t ↔ t = [] := by
  constructor
  · rintro ⟨_, _, h⟩
    exact (h [] List.Pairwise.nil (fun _ h => absurd h (by simp)) (fun _ h => absurd h (by simp))).symm
  · rintro rfl
    refine ⟨List.Pairwise.nil, fun _ h => absurd h (by simp), fun t _ h _ => ?_⟩
    cases t with
    | nil => rfl
    | cons a t => exact absurd (h a (by simp)) (by simp)
theorem MH_none {B : List (List Int)} (h : [] ∈ B) (t : List Int) : ¬ MH B t := fun k => by
  obtain ⟨n, h1, _⟩ := k.2.1 [] h
  exact absurd h1 (by simp)

/-! ### one bunch more -/
/-- what least_ones keeps: the least ones of l -/
def Least (l : List (List Int)) (s : List Int) : Prop := s ∈ l ∧ ∀ t ∈ l, Sub t s → t = s
theorem least_late {B F L : List (List Int)} {b : List Int} {more : List Int → Int → List Int} (hF : ∀ s, s ∈ F ↔ MH B s)
    (hm : ∀ s n, Asc s → n ∉ s → Asc (more s n) ∧ ∀ m, m ∈ more s n ↔ m ∈ s ∨ m = n)
    (hL : ∀ t, t ∈ L ↔ (t ∈ F ∧ meets t b = true) ∨ ∃ s ∈ F, meets s b = false ∧ ∃ n ∈ b, t = more s n) (t : List Int) : Least L t ↔ MH (B ++ [b]) t := by
  have hitL : ∀ t ∈ L, Asc t ∧ Hit t (B ++ [b]) := fun t ht => by
    rcases (hL t).mp ht with ⟨h1, h2⟩ | ⟨s, h1, h2, n, h3, rfl⟩
    · have q := (hF t).mp h1
      refine ⟨q.1, fun c hc => ?_⟩
      rw [List.mem_append, List.mem_singleton] at hc
      rcases hc with z | rfl
      · exact q.2.1 c z
      · exact meets_iff.mp h2
    · have q := (hF s).mp h1
      have nm : n ∉ s := fun z => by rw [meets_iff.mpr ⟨n, h3, z⟩] at h2; cases h2
      obtain ⟨a1, a2⟩ := hm s n q.1 nm
      refine ⟨a1, fun c hc => ?_⟩
      rw [List.mem_append, List.mem_singleton] at hc
      rcases hc with z | rfl
      · obtain ⟨m, e1, e2⟩ := q.2.1 c z
        exact ⟨m, e1, (a2 m).mpr (.inl e2)⟩
      · exact ⟨n, h3, (a2 n).mpr (.inr rfl)⟩
  have inL : ∀ t, MH (B ++ [b]) t → t ∈ L := fun t ht => by
    have hB : Hit t B := fun c hc => ht.2.1 c (by simp [hc])
    obtain ⟨s, h1, h2⟩ := hit_MH ht.1 hB
    by_cases q : meets s b = true
    · have e := ht.2.2 s h1.1 h2 fun c hc => by
        rw [List.mem_append, List.mem_singleton] at hc
        rcases hc with z | rfl
        · exact h1.2.1 c z
        · exact meets_iff.mp q
      subst e
      exact (hL s).mpr (.inl ⟨(hF s).mpr h1, q⟩)
    · obtain ⟨n, e1, e2⟩ := ht.2.1 b (by simp)
      have q' : meets s b = false := by simpa using q
      have nm : n ∉ s := fun z => q (meets_iff.mpr ⟨n, e1, z⟩)
      obtain ⟨a1, a2⟩ := hm s n h1.1 nm
      have e := ht.2.2 (more s n) a1 (fun m hm => by
        rcases (a2 m).mp hm with z | rfl
        · exact h2 m z
        · exact e2) fun c hc => by
          rw [List.mem_append, List.mem_singleton] at hc
          rcases hc with z | rfl
          · obtain ⟨m, f1, f2⟩ := h1.2.1 c z
            exact ⟨m, f1, (a2 m).mpr (.inl f2)⟩
          · exact ⟨n, e1, (a2 n).mpr (.inr rfl)⟩
      exact (hL t).mpr (.inr ⟨s, (hF s).mpr h1, q', n, e1, e.symm⟩)
  constructor
  · rintro ⟨h1, h2⟩
    obtain ⟨a1, a2⟩ := hitL t h1
    obtain ⟨u, g1, g2⟩ := hit_MH a1 a2
    have e := h2 u (inL u g1) g2
    subst e
    exact g1
  · intro h
    exact ⟨inL t h, fun u hu st => h.2.2 u (hitL u hu).1 st (hitL u hu).2⟩

/-! ### keeping the least ones, the short ones first -/
def part (s t : List Int) : Bool := s.all fun n => decide (n ∈ t)
theorem part_iff {s t : List Int} : part s t = true ↔ Sub s t := by
  unfold part
  rw [List.all_eq_true]
  exact ⟨fun h n hn => of_decide_eq_true (h n hn), fun h n hn => decide_eq_true (h n hn)⟩
def keepStep (f : List (List Int)) (b : List Int) : List (List Int) := if (f.any fun one => part one b) = true then f else f ++ [b]
def keep (l : List (List Int)) : List (List Int) := l.foldl keepStep []
theorem least_in {l : List (List Int)} (hA : ∀ s ∈ l, Asc s) : ∀ (k : Nat) (s : List Int), s.length ≤ k → s ∈ l → ∃ t, Least l t ∧ Sub t s
  | k, s, hl, hs => by
    by_cases h : ∀ t ∈ l, Sub t s → t = s
    · exact ⟨s, ⟨hs, h⟩, Sub.refl s⟩
    · obtain ⟨t, h⟩ := Classical.not_forall.mp h
      obtain ⟨ht, h⟩ := Classical.not_imp.mp h
      obtain ⟨st, ne⟩ := Classical.not_imp.mp h
      have q := asc_len s t (hA t ht) (hA s hs) st
      have hlt : t.length < s.length := by
        by_cases z : s.length ≤ t.length
        · exact absurd (q.2 z) ne
        · omega
      cases k with
      | zero => omega
      | succ k =>
        obtain ⟨u, h1, h2⟩ := least_in hA k t (by omega) ht
        exact ⟨u, h1, h2.trans st⟩
theorem keep_pre : ∀ (post pre f : List (List Int)), (∀ s ∈ pre ++ post, Asc s) → (pre ++ post).Pairwise (fun a b => a.length ≤ b.length) → (pre ++ post).Nodup → f.Nodup → (∀ s, s ∈ f ↔ Least pre s) →
    (post.foldl keepStep f).Nodup ∧ ∀ s, s ∈ post.foldl keepStep f ↔ Least (pre ++ post) s
  | [], pre, f, _, _, _, nf, hf => ⟨nf, by rw [List.append_nil]; exact hf⟩
  | b :: post, pre, f, hA, hp, hn, nf, hf => by
    have e : pre ++ b :: post = (pre ++ [b]) ++ post := by simp
    rw [e] at hA hp hn ⊢
    have nb : b ∉ pre := by
      have := (List.nodup_append.mp ((List.nodup_append.mp hn).1)).2.2
      intro z
      exact this b z b (by simp) rfl
    have lb : ∀ t ∈ pre, t.length ≤ b.length := fun t ht => by
      have := (List.pairwise_append.mp (List.pairwise_append.mp hp).1).2.2
      exact this t ht b (by simp)
    have ab : Asc b := hA b (by simp)
    have ap : ∀ s ∈ pre, Asc s := fun s hs => hA s (by simp [hs])
    have old : ∀ s ∈ pre, (Least (pre ++ [b]) s ↔ Least pre s) := fun s hs => by
      constructor
      · rintro ⟨_, h⟩
        exact ⟨hs, fun t ht => h t (by simp [ht])⟩
      · rintro ⟨_, h⟩
        refine ⟨by simp [hs], fun t ht st => ?_⟩
        rw [List.mem_append, List.mem_singleton] at ht
        rcases ht with z | rfl
        · exact h t z st
        · exact asc_eq ab (ap s hs) st (lb s hs)
    have step : (keepStep f b).Nodup ∧ ∀ s, s ∈ keepStep f b ↔ Least (pre ++ [b]) s := by
      unfold keepStep
      by_cases q : (f.any fun one => part one b) = true
      · rw [if_pos q]
        refine ⟨nf, fun s => ?_⟩
        obtain ⟨u, hu, pu⟩ := List.any_eq_true.mp q
        have su := part_iff.mp pu
        have lu := (hf u).mp hu
        constructor
        · intro hs
          have l := (hf s).mp hs
          exact (old s l.1).mpr l
        · intro l
          have h := l.1
          rw [List.mem_append, List.mem_singleton] at h
          rcases h with z | rfl
          · exact (hf s).mpr ((old s z).mp l)
          · have := l.2 u (by simp [lu.1]) su
            subst this
            exact absurd lu.1 nb
      · rw [if_neg q]
        have none : ∀ u ∈ pre, ¬ Sub u b := fun u hu su => by
          obtain ⟨t, h1, h2⟩ := least_in ap _ u (Nat.le_refl _) hu
          exact q (List.any_eq_true.mpr ⟨t, (hf t).mpr h1, part_iff.mpr (h2.trans su)⟩)
        refine ⟨List.nodup_append.mpr ⟨nf, by simp, fun x hx y hy => ?_⟩, fun s => ?_⟩
        · rw [List.mem_singleton] at hy
          subst hy
          intro z
          subst z
          exact nb ((hf x).mp hx).1
        · rw [List.mem_append, List.mem_singleton]
          constructor
          · rintro (z | rfl)
            · have l := (hf s).mp z
              exact (old s l.1).mpr l
            · refine ⟨by simp, fun t ht st => ?_⟩
              rw [List.mem_append, List.mem_singleton] at ht
              rcases ht with z | z
              · exact absurd st (none t z)
              · exact z
          · intro l
            have h := l.1
            rw [List.mem_append, List.mem_singleton] at h
            rcases h with z | z
            · exact .inl ((hf s).mpr ((old s z).mp l))
            · exact .inr z
    exact keep_pre post (pre ++ [b]) (keepStep f b) hA hp hn step.1 step.2
theorem keep_least {l : List (List Int)} (hA : ∀ s ∈ l, Asc s) (hp : l.Pairwise fun a b => a.length ≤ b.length) (hn : l.Nodup) : (keep l).Nodup ∧ ∀ s, s ∈ keep l ↔ Least l s :=
  keep_pre l [] [] hA hp hn List.nodup_nil fun s => ⟨fun h => absurd h (by simp), fun h => absurd h.1 (by simp)⟩
/-- how many subsets there are -/
theorem asc_subsets : ∀ (U : List Int) (l : List (List Int)), Asc U → l.Nodup → (∀ s ∈ l, Asc s ∧ Sub s U) → l.length ≤ 2 ^ U.length
  | [], l, _, hn, h => by
    match l, hn, h with
    | [], _, _ => simp
    | [_], _, _ => simp
    | x :: y :: r, hn, h =>
      have e : ∀ s : List Int, Sub s [] → s = [] := fun s hs => by
        cases s with
        | nil => rfl
        | cons a s => exact absurd (hs a (by simp)) (by simp)
      have e1 := e x (h x (by simp)).2
      have e2 := e y (h y (by simp)).2
      subst e1 e2
      exact absurd hn (by simp)
  | a :: U, l, hU, hn, h => by
    rw [Asc, List.pairwise_cons] at hU
    -- those with a, those without
    have split : l.length = (l.filter fun s => decide (a ∈ s)).length + (l.filter fun s => decide (a ∉ s)).length := by
      clear hn h
      induction l with
      | nil => rfl
      | cons x l ih =>
        by_cases q : a ∈ x
        · simp [List.filter_cons, q]
          have := ih
          simp at this
          omega
        · simp [List.filter_cons, q]
          have := ih
          simp at this
          omega
    have out : ∀ s ∈ l, a ∉ s → Asc s ∧ Sub s U := fun s hs q => ⟨(h s hs).1, fun n hn => by
      have := (h s hs).2 n hn
      rw [List.mem_cons] at this
      exact this.resolve_left fun z => q (z ▸ hn)⟩
    have b1 := asc_subsets U (l.filter fun s => decide (a ∉ s)) hU.2 (List.Nodup.sublist List.filter_sublist hn) fun s hs => by
      obtain ⟨h1, h2⟩ := List.mem_filter.mp hs
      exact out s h1 (of_decide_eq_true h2)
    -- a stands first
    have hd : ∀ s ∈ l, a ∈ s → ∃ t, s = a :: t ∧ Asc t ∧ Sub t U := fun s hs q => by
      obtain ⟨g1, g2⟩ := h s hs
      cases s with
      | nil => exact absurd q (by simp)
      | cons x t =>
        rw [Asc, List.pairwise_cons] at g1
        have hx := g2 x (by simp)
        rw [List.mem_cons] at hx q
        have ex : x = a := by
          rcases hx with z | z
          · exact z
          · have h1 := hU.1 x z
            rcases q with w | w
            · omega
            · have := g1.1 a w
              omega
        subst ex
        refine ⟨t, rfl, g1.2, fun n hn => ?_⟩
        have := g2 n (by simp [hn])
        rw [List.mem_cons] at this
        have := g1.1 n hn
        rename_i w
        exact w.resolve_left (by omega)
    have b2 := asc_subsets U ((l.filter fun s => decide (a ∈ s)).map List.tail) hU.2 (by
      rw [List.nodup_iff_pairwise_ne, List.pairwise_map]
      refine List.Pairwise.imp_of_mem ?_ (List.nodup_iff_pairwise_ne.mp (List.Nodup.sublist List.filter_sublist hn))
      intro x y hx hy ne e
      obtain ⟨x1, x2⟩ := List.mem_filter.mp hx
      obtain ⟨y1, y2⟩ := List.mem_filter.mp hy
      obtain ⟨t, rfl, _⟩ := hd x x1 (of_decide_eq_true x2)
      obtain ⟨u, rfl, _⟩ := hd y y1 (of_decide_eq_true y2)
      exact ne (by rw [show t = u from e])) fun s hs => by
        obtain ⟨x, hx, rfl⟩ := List.mem_map.mp hs
        obtain ⟨x1, x2⟩ := List.mem_filter.mp hx
        obtain ⟨t, rfl, h1, h2⟩ := hd x x1 (of_decide_eq_true x2)
        exact ⟨h1, h2⟩
    rw [List.length_map] at b2
    rw [split, List.length_cons, Nat.pow_succ]
    omega
end Bm

/-! Bm2: least sets, level by level; sorted lists. -/
namespace Bm
def hits (s : List Int) (B : List (List Int)) : Bool := B.all fun b => meets s b
theorem hits_iff {s : List Int} {B : List (List Int)} : hits s B = true ↔ Hit s B := by
  unfold hits
  rw [List.all_eq_true]
  exact ⟨fun h b hb => meets_iff.mp (h b hb), fun h b hb => meets_iff.mpr (h b hb)⟩
def lastI (s : List Int) : Int := s.getLastD 0
def ext (U s : List Int) : List (List Int) := (U.filter fun n => decide (s = []) || decide (lastI s < n)).map fun n => s ++ [n]
def visit (B : List (List Int)) (U : List Int) (p : List (List Int) × List (List Int)) (s : List Int) : List (List Int) × List (List Int) :=
  if (p.1.any fun one => part one s) = true then p else if hits s B = true then (p.1 ++ [s], p.2) else (p.1, p.2 ++ ext U s)
abbrev level (B : List (List Int)) (U : List Int) (f l : List (List Int)) := l.foldl (visit B U) (f, [])
structure Inv (B : List (List Int)) (U : List Int) (k : Nat) (f l : List (List Int)) : Prop where
  la : ∀ s ∈ l, Asc s ∧ s.length = k ∧ Sub s U
  ln : l.Nodup
  fn : f.Nodup
  fm : ∀ s ∈ f, MH B s ∧ s.length < k
  fa : ∀ s, MH B s → s.length < k → s ∈ f
  lt : ∀ s, MH B s → k ≤ s.length → s.take k ∈ l
theorem Inv.init (B : List (List Int)) (U : List Int) : Inv B U 0 [] [[]] :=
  ⟨fun s hs => by rw [List.mem_singleton] at hs; subst hs; exact ⟨List.Pairwise.nil, rfl, fun n h => absurd h (by simp)⟩, by simp, by simp, fun s h => absurd h (by simp), fun s _ h => absurd h (Nat.not_lt_zero _), fun s _ _ => by simp⟩
theorem Inv.end {B : List (List Int)} {U : List Int} {k : Nat} {f : List (List Int)} (h : Inv B U k f []) : f.Nodup ∧ ∀ s, s ∈ f ↔ MH B s :=
  ⟨h.fn, fun s => ⟨fun z => (h.fm s z).1, fun z => by
    by_cases q : s.length < k
    · exact h.fa s z q
    · exact absurd (h.lt s z (by omega)) (by simp)⟩⟩
theorem Inv.bound {B : List (List Int)} {U : List Int} {k : Nat} {f l : List (List Int)} (hU : Asc U) (h : Inv B U k f l) (ne : l ≠ []) : k ≤ U.length := by
  cases l with
  | nil => exact absurd rfl ne
  | cons s l =>
    obtain ⟨h1, h2, h3⟩ := h.la s (by simp)
    have := (asc_len U s h1 hU h3).1
    omega
theorem MH_sub {B : List (List Int)} {U : List Int} (hU : ∀ b ∈ B, Sub b U) {s : List Int} (h : MH B s) : Sub s U := fun n hn => by
  obtain ⟨b, hb, hn⟩ := MH_in h hn
  exact hU b hb n hn
theorem MH_many {B : List (List Int)} {U : List Int} (hA : Asc U) (hU : ∀ b ∈ B, Sub b U) {f : List (List Int)} (fn : f.Nodup) (h : ∀ s ∈ f, MH B s) : f.length ≤ 2 ^ U.length :=
  asc_subsets U f hA fn fun s hs => ⟨(h s hs).1, MH_sub hU (h s hs)⟩
theorem Inv.many {B : List (List Int)} {U : List Int} {k : Nat} {f l : List (List Int)} (hA : Asc U) (hU : ∀ b ∈ B, Sub b U) (h : Inv B U k f l) : f.length ≤ 2 ^ U.length ∧ l.length ≤ 2 ^ U.length :=
  ⟨MH_many hA hU h.fn fun s hs => (h.fm s hs).1, asc_subsets U l hA h.ln fun s hs => ⟨(h.la s hs).1, (h.la s hs).2.2⟩⟩
theorem ext_len (U s : List Int) : (ext U s).length ≤ U.length := by
  unfold ext
  rw [List.length_map]
  exact List.length_filter_le _ _
theorem visit_len (B : List (List Int)) (U : List Int) : ∀ (l : List (List Int)) (p : List (List Int) × List (List Int)), (l.foldl (visit B U) p).1.length ≤ p.1.length + l.length ∧ (l.foldl (visit B U) p).2.length ≤ p.2.length + l.length * U.length
  | [], p => ⟨by simp, by simp⟩
  | s :: l, p => by
    have ih := visit_len B U l (visit B U p s)
    have h : (visit B U p s).1.length ≤ p.1.length + 1 ∧ (visit B U p s).2.length ≤ p.2.length + U.length := by
      have e := ext_len U s
      unfold visit
      split
      · exact ⟨by omega, by omega⟩
      · split
        · simp
        · simp only [List.length_append]
          exact ⟨by omega, by omega⟩
    rw [List.foldl_cons, List.length_cons]
    rw [Nat.succ_mul]
    exact ⟨by omega, by omega⟩
abbrev fresh (f : List (List Int)) (s : List Int) : Bool := !f.any fun one => part one s
theorem level_form (B : List (List Int)) (U : List Int) (k : Nat) (f : List (List Int)) : ∀ (post pre : List (List Int)), (∀ s ∈ pre ++ post, Asc s ∧ s.length = k) → (pre ++ post).Nodup →
    post.foldl (visit B U) (f ++ pre.filter (fun s => fresh f s && hits s B), (pre.filter fun s => fresh f s && !hits s B).flatMap (ext U)) =
      (f ++ (pre ++ post).filter (fun s => fresh f s && hits s B), ((pre ++ post).filter fun s => fresh f s && !hits s B).flatMap (ext U))
  | [], pre, _, _ => by rw [List.append_nil]; rfl
  | s :: post, pre, hA, hn => by
    have e : pre ++ s :: post = (pre ++ [s]) ++ post := by simp
    rw [e] at hA hn ⊢
    have ns : s ∉ pre := fun z => (List.nodup_append.mp (List.nodup_append.mp hn).1).2.2 s z s (by simp) rfl
    have same : ((f ++ pre.filter (fun s => fresh f s && hits s B)).any fun one => part one s) = f.any fun one => part one s := by
      rw [List.any_append]
      have z : ((pre.filter fun s => fresh f s && hits s B).any fun one => part one s) = false := by
        rw [Bool.eq_false_iff]
        intro q
        obtain ⟨t, ht, pt⟩ := List.any_eq_true.mp q
        have hp := (List.mem_filter.mp ht).1
        obtain ⟨a1, l1⟩ := hA t (by simp [hp])
        obtain ⟨a2, l2⟩ := hA s (by simp)
        have e := asc_eq a1 a2 (part_iff.mp pt) (by omega)
        subst e
        exact ns hp
      rw [z, Bool.or_false]
    rw [← level_form B U k f post (pre ++ [s]) hA hn, List.foldl_cons]
    congr 1
    show (if ((f ++ pre.filter (fun s => fresh f s && hits s B)).any fun one => part one s) = true then _ else _) = _
    rw [same, List.filter_append, List.filter_append]
    cases q1 : (f.any fun one => part one s) <;> cases q2 : hits s B <;> simp [List.filter_cons, fresh, q1, q2]
theorem last_asc {t : List Int} {n : Int} (ht : Asc t) (h : t = [] ∨ lastI t < n) : Asc (t ++ [n]) := by
  rw [Asc, List.pairwise_append]
  refine ⟨ht, by simp, fun x hx y hy => ?_⟩
  rw [List.mem_singleton] at hy
  subst hy
  rcases h with z | z
  · subst z; exact absurd hx (by simp)
  · have hne : t ≠ [] := fun q => by subst q; exact absurd hx (by simp)
    have e : lastI t = t.getLast hne := by unfold lastI; rw [List.getLastD_eq_getLast?, List.getLast?_eq_some_getLast hne]; rfl
    rw [e] at z
    rw [← List.dropLast_concat_getLast hne] at hx ht
    rw [List.mem_append, List.mem_singleton] at hx
    rcases hx with w | w
    · have := (List.pairwise_append.mp ht).2.2 x w (t.getLast hne) (by simp)
      omega
    · omega
theorem ext_mem {U s t : List Int} : t ∈ ext U s ↔ ∃ n ∈ U, (s = [] ∨ lastI s < n) ∧ t = s ++ [n] := by
  unfold ext
  rw [List.mem_map]
  constructor
  · rintro ⟨n, hn, rfl⟩
    obtain ⟨h1, h2⟩ := List.mem_filter.mp hn
    simp only [Bool.or_eq_true, decide_eq_true_eq] at h2
    exact ⟨n, h1, h2, rfl⟩
  · rintro ⟨n, h1, h2, rfl⟩
    exact ⟨n, List.mem_filter.mpr ⟨h1, by simpa using h2⟩, rfl⟩
theorem Inv.step {B : List (List Int)} {U : List Int} {k : Nat} {f l : List (List Int)} (hA : Asc U) (hU : ∀ b ∈ B, Sub b U) (h : Inv B U k f l) : Inv B U (k + 1) (level B U f l).1 (level B U f l).2 := by
  have e := level_form B U k f l [] (fun s hs => ⟨(h.la s hs).1, (h.la s hs).2.1⟩) h.ln
  simp only [List.filter_nil, List.append_nil, List.flatMap_nil, List.nil_append] at e
  have e1 : (level B U f l) = (f ++ l.filter (fun s => fresh f s && hits s B), (l.filter fun s => fresh f s && !hits s B).flatMap (ext U)) := e
  rw [e1]
  have fr : ∀ {s}, fresh f s = true → ∀ t ∈ f, ¬ Sub t s := fun {s} q t ht st => by
    unfold fresh at q
    have w : (f.any fun one => part one s) = true := List.any_eq_true.mpr ⟨t, ht, part_iff.mpr st⟩
    rw [w] at q
    cases q
  have fr2 : ∀ {s}, (∀ t ∈ f, ¬ Sub t s) → fresh f s = true := fun {s} q => by
    unfold fresh
    rw [Bool.not_eq_true', Bool.eq_false_iff]
    intro z
    obtain ⟨t, h1, h2⟩ := List.any_eq_true.mp z
    exact q t h1 (part_iff.mp h2)
  refine ⟨fun s hs => ?_, ?_, ?_, fun s hs => ?_, fun s hs hl => ?_, fun s hs hl => ?_⟩
  · obtain ⟨t, ht, hs⟩ := List.mem_flatMap.mp hs
    obtain ⟨n, h1, h2, rfl⟩ := ext_mem.mp hs
    obtain ⟨a1, a2, a3⟩ := h.la t (List.mem_filter.mp ht).1
    refine ⟨last_asc a1 h2, by rw [List.length_append, a2]; rfl, fun m hm => ?_⟩
    rw [List.mem_append, List.mem_singleton] at hm
    rcases hm with z | rfl
    · exact a3 m z
    · exact h1
  · rw [List.nodup_iff_pairwise_ne, List.pairwise_flatMap]
    refine ⟨fun t ht => ?_, List.Pairwise.imp ?_ (List.nodup_iff_pairwise_ne.mp (List.Nodup.sublist List.filter_sublist h.ln))⟩
    · unfold ext
      rw [List.pairwise_map]
      refine List.Pairwise.imp ?_ (List.Pairwise.sublist List.filter_sublist hA)
      intro a b hab z
      have := List.append_cancel_left z
      injection this with q
      omega
    · intro a b ne x hx y hy z
      obtain ⟨n, _, _, rfl⟩ := ext_mem.mp hx
      obtain ⟨m, _, _, rfl⟩ := ext_mem.mp hy
      exact ne (List.append_inj_left' z rfl)
  · refine List.nodup_append.mpr ⟨h.fn, List.Nodup.sublist List.filter_sublist h.ln, fun x hx y hy z => ?_⟩
    subst z
    have q := (List.mem_filter.mp hy).2
    rw [Bool.and_eq_true] at q
    exact fr q.1 x hx (Sub.refl x)
  · rw [List.mem_append] at hs
    rcases hs with z | z
    · exact ⟨(h.fm s z).1, by have := (h.fm s z).2; omega⟩
    · obtain ⟨z1, z2⟩ := List.mem_filter.mp z
      rw [Bool.and_eq_true] at z2
      obtain ⟨a1, a2, a3⟩ := h.la s z1
      refine ⟨⟨a1, hits_iff.mp z2.2, fun t ht st hh => ?_⟩, by omega⟩
      obtain ⟨u, g1, g2⟩ := hit_MH ht hh
      have us := g2.trans st
      by_cases q : u.length < k
      · exact absurd us (fr z2.1 u (h.fa u g1 q))
      · have eu := asc_eq g1.1 a1 us (by omega)
        subst eu
        exact asc_antisymm ht a1 st g2
  · rw [List.mem_append]
    by_cases q : s.length < k
    · exact .inl (h.fa s hs q)
    · have ek : s.length = k := by omega
      have hm := h.lt s hs (by omega)
      rw [← ek, List.take_length] at hm
      refine .inr (List.mem_filter.mpr ⟨hm, ?_⟩)
      rw [Bool.and_eq_true]
      refine ⟨fr2 fun t ht st => ?_, hits_iff.mpr hs.2.1⟩
      obtain ⟨g1, g2⟩ := h.fm t ht
      have := hs.2.2 t g1.1 st g1.2.1
      subst this
      omega
  · have hm := h.lt s hs (by omega)
    have hk : k < s.length := by omega
    have et : s.take (k + 1) = s.take k ++ [s[k]] := by
      rw [List.take_add_one, List.getElem?_eq_getElem hk]; rfl
    have lk : (s.take k).length = k := by rw [List.length_take]; omega
    have st : Sub (s.take k) s := fun n hn => List.mem_of_mem_take hn
    have at1 : Asc (s.take (k + 1)) := List.Pairwise.sublist (List.take_sublist _ _) hs.1
    refine List.mem_flatMap.mpr ⟨s.take k, List.mem_filter.mpr ⟨hm, ?_⟩, ext_mem.mpr ⟨s[k], MH_sub hU hs _ (List.getElem_mem hk), ?_, et⟩⟩
    · rw [Bool.and_eq_true]
      refine ⟨fr2 fun t ht st2 => ?_, ?_⟩
      · obtain ⟨g1, g2⟩ := h.fm t ht
        have := hs.2.2 t g1.1 (st2.trans st) g1.2.1
        subst this
        omega
      · rw [Bool.not_eq_true', Bool.eq_false_iff]
        intro z
        have := hs.2.2 (s.take k) (List.Pairwise.sublist (List.take_sublist _ _) hs.1) st (hits_iff.mp z)
        have l2 := congrArg List.length this
        omega
    · by_cases z : s.take k = []
      · exact .inl z
      · refine .inr ?_
        have e : lastI (s.take k) = (s.take k).getLast z := by unfold lastI; rw [List.getLastD_eq_getLast?, List.getLast?_eq_some_getLast z]; rfl
        rw [e]
        rw [et] at at1
        exact (List.pairwise_append.mp at1).2.2 _ (List.getLast_mem z) _ (by simp)

/-! ### sorted lists -/
theorem sorted_unique {α : Type} {le : α → α → Prop} (anti : ∀ a b, le a b → le b a → a = b) : ∀ l m : List α, l.Pairwise le → m.Pairwise le → l.Nodup → m.Nodup → (∀ x, x ∈ l ↔ x ∈ m) → l = m
  | [], [], _, _, _, _, _ => rfl
  | [], b :: m, _, _, _, _, h => absurd ((h b).mpr (by simp)) (by simp)
  | a :: l, [], _, _, _, _, h => absurd ((h a).mp (by simp)) (by simp)
  | a :: l, b :: m, hl, hm, nl, nm, h => by
    rw [List.pairwise_cons] at hl hm
    rw [List.nodup_cons] at nl nm
    have e : a = b := by
      by_cases q : a = b
      · exact q
      · have h1 := (h a).mp (by simp)
        have h2 := (h b).mpr (by simp)
        rw [List.mem_cons] at h1 h2
        exact anti a b (hl.1 b (h2.resolve_left (Ne.symm q))) (hm.1 a (h1.resolve_left q))
    subst e
    rw [sorted_unique anti l m hl.2 hm.2 nl.2 nm.2 fun x => ?_]
    constructor
    · intro hx
      have := (h x).mp (by simp [hx])
      rw [List.mem_cons] at this
      exact this.resolve_left fun z => nl.1 (z ▸ hx)
    · intro hx
      have := (h x).mpr (by simp [hx])
      rw [List.mem_cons] at this
      exact this.resolve_left fun z => nm.1 (z ▸ hx)
abbrev srtI (l : List Int) : List Int := l.mergeSort fun a b => decide (a ≤ b)
abbrev srtB (l : List (List Int)) : List (List Int) := l.mergeSort fun a b => decide (a ≤ b)
theorem srtI_sorted (l : List Int) : (srtI l).Pairwise (· ≤ ·) := by
  have q := List.pairwise_mergeSort (le := fun a b : Int => decide (a ≤ b)) (fun a b c h1 h2 => decide_eq_true (Int.le_trans (of_decide_eq_true h1) (of_decide_eq_true h2))) (fun a b => by
    rw [Bool.or_eq_true, decide_eq_true_eq, decide_eq_true_eq]; exact Int.le_total a b) l
  exact List.Pairwise.imp (fun h => of_decide_eq_true h) q
theorem srtB_sorted (l : List (List Int)) : (srtB l).Pairwise (· ≤ ·) := by
  have q := List.pairwise_mergeSort (le := fun a b : List Int => decide (a ≤ b)) (fun a b c h1 h2 => decide_eq_true (List.le_trans (of_decide_eq_true h1) (of_decide_eq_true h2))) (fun a b => by
    rw [Bool.or_eq_true, decide_eq_true_eq, decide_eq_true_eq]; exact List.le_total a b) l
  exact List.Pairwise.imp (fun h => of_decide_eq_true h) q
theorem srtI_mem {l : List Int} {x : Int} : x ∈ srtI l ↔ x ∈ l := List.mem_mergeSort
theorem srtB_mem {l : List (List Int)} {x : List Int} : x ∈ srtB l ↔ x ∈ l := List.mem_mergeSort
theorem srtB_nodup {l : List (List Int)} (h : l.Nodup) : (srtB l).Nodup := (List.mergeSort_perm l _).symm.nodup h
theorem srtI_asc {l : List Int} (h : l.Nodup) : Asc (srtI l) := by
  have nd : (srtI l).Nodup := (List.mergeSort_perm l _).symm.nodup h
  refine List.Pairwise.imp₂ (fun a b h1 h2 => ?_) (srtI_sorted l) (List.nodup_iff_pairwise_ne.mp nd)
  omega
/-- the same members, sorted -/
theorem srtB_one {l m : List (List Int)} (hl : l.Nodup) (hm : m.Nodup) (h : ∀ x, x ∈ l ↔ x ∈ m) : srtB l = srtB m :=
  sorted_unique (fun _ _ h1 h2 => List.le_antisymm h1 h2) _ _ (srtB_sorted l) (srtB_sorted m) (srtB_nodup hl) (srtB_nodup hm) fun x => by rw [srtB_mem, srtB_mem, h]
def addN (s : List Int) (n : Int) : List Int := if n ∈ s then s else srtI (s ++ [n])
theorem addN_asc {s : List Int} {n : Int} (hs : Asc s) (hn : n ∉ s) : Asc (addN s n) ∧ ∀ m, m ∈ addN s n ↔ m ∈ s ∨ m = n := by
  unfold addN
  rw [if_neg hn]
  refine ⟨srtI_asc (List.nodup_append.mpr ⟨?_, by simp, fun x hx y hy z => ?_⟩), fun m => by rw [srtI_mem, List.mem_append, List.mem_singleton]⟩
  · exact List.nodup_iff_pairwise_ne.mpr (List.Pairwise.imp (fun h => by omega) hs)
  · rw [List.mem_singleton] at hy
    subst hy
    subst z
    exact hn hx
/-- keys in the order in which they came -/
def keys {κ : Type} [DecidableEq κ] : List κ → List κ → List κ
  | acc, [] => acc
  | acc, x :: r => keys (if x ∈ acc then acc else acc ++ [x]) r
theorem keys_mem {κ : Type} [DecidableEq κ] : ∀ (l acc : List κ) (x : κ), x ∈ keys acc l ↔ x ∈ acc ∨ x ∈ l
  | [], acc, x => by rw [keys]; simp
  | y :: l, acc, x => by
    rw [keys, keys_mem l]
    by_cases q : y ∈ acc
    · rw [if_pos q, List.mem_cons]
      constructor
      · rintro (z | z)
        · exact .inl z
        · exact .inr (.inr z)
      · rintro (z | rfl | z)
        · exact .inl z
        · exact .inl q
        · exact .inr z
    · rw [if_neg q, List.mem_append, List.mem_singleton, List.mem_cons, or_assoc]
theorem keys_nodup {κ : Type} [DecidableEq κ] : ∀ (l acc : List κ), acc.Nodup → (keys acc l).Nodup
  | [], acc, h => by rw [keys]; exact h
  | y :: l, acc, h => by
    rw [keys]
    refine keys_nodup l _ ?_
    by_cases q : y ∈ acc
    · rw [if_pos q]; exact h
    · rw [if_neg q]
      refine List.nodup_append.mpr ⟨h, by simp, fun x hx y' hy z => ?_⟩
      rw [List.mem_singleton] at hy
      subst hy
      subst z
      exact q hx
theorem keys_len {κ : Type} [DecidableEq κ] : ∀ (l acc : List κ), (keys acc l).length ≤ acc.length + l.length
  | [], acc => by rw [keys]; simp
  | y :: l, acc => by
    rw [keys, List.length_cons]
    have ih := keys_len l (if y ∈ acc then acc else acc ++ [y])
    split at ih
    · rename_i q; rw [if_pos q]; omega
    · rename_i q; rw [if_neg q]; rw [List.length_append, List.length_singleton] at ih; omega
/-! ### what the two defs reckon -/
abbrev srtL (xs : List (List Int)) : List (List Int) := xs.mergeSort fun a b => decide ((a.length : Int) ≤ b.length)
def leastOnes (l : List (List Int)) : List (List Int) := srtB (keep (srtL (keys [] l)))
theorem leastOnes_is {l : List (List Int)} (hA : ∀ s ∈ l, Asc s) : (keep (srtL (keys [] l))).Nodup ∧ ∀ s, s ∈ keep (srtL (keys [] l)) ↔ Least l s := by
  have mem : ∀ s, s ∈ srtL (keys [] l) ↔ s ∈ l := fun s => by rw [List.mem_mergeSort, keys_mem]; simp
  have q := keep_least (l := srtL (keys [] l)) (fun s hs => hA s ((mem s).mp hs)) (by
    have q := List.pairwise_mergeSort (le := fun a b : List Int => decide ((a.length : Int) ≤ b.length)) (fun a b c h1 h2 => decide_eq_true (Int.le_trans (of_decide_eq_true h1) (of_decide_eq_true h2))) (fun a b => by
      rw [Bool.or_eq_true, decide_eq_true_eq, decide_eq_true_eq]; exact Int.le_total _ _) (keys [] l)
    exact List.Pairwise.imp (fun h => by have := of_decide_eq_true h; omega) q) ((List.mergeSort_perm _ _).symm.nodup (keys_nodup l [] List.nodup_nil))
  refine ⟨q.1, fun s => ?_⟩
  rw [q.2 s]
  unfold Least
  simp only [mem]
def late (f : List (List Int)) (b : List Int) : List (List Int) := f.foldl (fun acc s => if meets s b = true then acc else acc ++ b.map fun n => addN s n) (f.filter fun s => meets s b)
theorem late_mem (b : List Int) : ∀ (f acc : List (List Int)) (t : List Int), t ∈ f.foldl (fun acc s => if meets s b = true then acc else acc ++ b.map fun n => addN s n) acc ↔ t ∈ acc ∨ ∃ s ∈ f, meets s b = false ∧ ∃ n ∈ b, t = addN s n
  | [], acc, t => by simp
  | s :: f, acc, t => by
    rw [List.foldl_cons, late_mem b f]
    by_cases q : meets s b = true
    · rw [if_pos q]
      constructor
      · rintro (z | ⟨s', h1, h2, h3⟩)
        · exact .inl z
        · exact .inr ⟨s', by simp [h1], h2, h3⟩
      · rintro (z | ⟨s', h1, h2, h3⟩)
        · exact .inl z
        · rw [List.mem_cons] at h1
          rcases h1 with rfl | h1
          · rw [q] at h2; cases h2
          · exact .inr ⟨s', h1, h2, h3⟩
    · rw [if_neg q, List.mem_append, List.mem_map]
      constructor
      · rintro ((z | ⟨n, h1, rfl⟩) | ⟨s', h1, h2, h3⟩)
        · exact .inl z
        · exact .inr ⟨s, by simp, by simpa using q, n, h1, rfl⟩
        · exact .inr ⟨s', by simp [h1], h2, h3⟩
      · rintro (z | ⟨s', h1, h2, n, h3, e⟩)
        · exact .inl (.inl z)
        · rw [List.mem_cons] at h1
          rcases h1 with rfl | h1
          · exact .inl (.inr ⟨n, h3, e.symm⟩)
          · exact .inr ⟨s', h1, h2, n, h3, e⟩
theorem late_len (b : List Int) : ∀ (f acc : List (List Int)), (f.foldl (fun acc s => if meets s b = true then acc else acc ++ b.map fun n => addN s n) acc).length ≤ acc.length + f.length * b.length
  | [], acc => by simp
  | s :: f, acc => by
    have ih := late_len b f (if meets s b = true then acc else acc ++ b.map fun n => addN s n)
    rw [List.foldl_cons, List.length_cons, Nat.succ_mul]
    split at ih
    · rename_i q; rw [if_pos q]; omega
    · rename_i q; rw [if_neg q]; rw [List.length_append, List.length_map] at ih; omega
def meeting (B : List (List Int)) : List (List Int) := B.foldl (fun f b => leastOnes (late f b)) [[]]
theorem late_asc {f : List (List Int)} {b : List Int} (hA : ∀ s ∈ f, Asc s) : ∀ t ∈ late f b, Asc t := fun t ht => by
  rcases (late_mem b f _ t).mp ht with z | ⟨s, h1, h2, n, h3, rfl⟩
  · exact hA t (List.mem_filter.mp z).1
  · exact (addN_asc (hA s h1) fun q => by rw [meets_iff.mpr ⟨n, h3, q⟩] at h2; cases h2).1
/-- sorted, and just the least ones -/
structure IsMH (B F : List (List Int)) : Prop where
  nd : F.Nodup
  mem : ∀ s, s ∈ F ↔ MH B s
  srt : F.Pairwise (· ≤ ·)
theorem IsMH.one {B C F G : List (List Int)} (a : IsMH B F) (b : IsMH C G) (h : ∀ x, x ∈ B ↔ x ∈ C) : F = G :=
  sorted_unique (fun _ _ h1 h2 => List.le_antisymm h1 h2) _ _ a.srt b.srt a.nd b.nd fun x => by rw [a.mem, b.mem, MH_congr h]
theorem IsMH.of {B F : List (List Int)} (hn : F.Nodup) (h : ∀ s, s ∈ F ↔ MH B s) : IsMH B (srtB F) := ⟨srtB_nodup hn, fun s => by rw [srtB_mem, h], srtB_sorted F⟩
theorem IsMH.next {B F : List (List Int)} (h : IsMH B F) (b : List Int) : IsMH (B ++ [b]) (leastOnes (late F b)) := by
  have hA : ∀ s ∈ F, Asc s := fun s hs => ((h.mem s).mp hs).1
  obtain ⟨n, q⟩ := leastOnes_is (late_asc (b := b) hA)
  refine IsMH.of n fun s => (q s).trans (least_late (more := addN) h.mem (fun s n hs hn => addN_asc hs hn) (fun t => ?_) s)
  unfold late
  rw [late_mem, List.mem_filter]
theorem IsMH.nil : IsMH [] [[]] := ⟨by simp, fun s => by rw [MH_nil]; simp, by simp⟩
theorem meeting_pre : ∀ (post pre F : List (List Int)), IsMH pre F → IsMH (pre ++ post) (post.foldl (fun f b => leastOnes (late f b)) F)
  | [], pre, F, h => by rw [List.append_nil]; exact h
  | b :: post, pre, F, h => by
    have q := meeting_pre post (pre ++ [b]) _ (h.next b)
    rwa [List.append_assoc] at q
theorem meeting_is (B : List (List Int)) : IsMH B (meeting B) := meeting_pre B [] _ IsMH.nil
end Bm

/-! Bm3: twelve numbers, families without comparable sets, the six pairs. -/
namespace Bm
def U12 : List Int := [0, 1, 2, 3, 4, 5, 6, 7, 8, 9, 10, 11]
theorem asc12 : Asc U12 := by decide
theorem mem12 {n : Int} : n ∈ U12 ↔ 0 ≤ n ∧ n < 12 := by
  unfold U12
  simp only [List.mem_cons, List.not_mem_nil, or_false]
  omega
/-- an ascending row of numbers below twelve -/
def Ok (b : List Int) : Prop := Asc b ∧ Sub b U12
theorem Ok.len {b : List Int} (h : Ok b) : b.length ≤ 12 := (asc_len U12 b h.1 asc12 h.2).1
theorem MH_ok {B : List (List Int)} (hB : ∀ b ∈ B, Ok b) {s : List Int} (h : MH B s) : Ok s := ⟨h.1, MH_sub (fun b hb => (hB b hb).2) h⟩
theorem IsMH.many {B F : List (List Int)} (hB : ∀ b ∈ B, Ok b) (h : IsMH B F) : F.length ≤ 4096 := MH_many asc12 (fun b hb => (hB b hb).2) h.nd fun s hs => (h.mem s).mp hs
theorem IsMH.ok {B F : List (List Int)} (hB : ∀ b ∈ B, Ok b) (h : IsMH B F) : ∀ s ∈ F, Ok s := fun s hs => MH_ok hB ((h.mem s).mp hs)
theorem addN_ok {s : List Int} {n : Int} (hs : Ok s) (hn : 0 ≤ n ∧ n < 12) (nm : n ∉ s) : Ok (addN s n) := by
  obtain ⟨h1, h2⟩ := addN_asc hs.1 nm
  refine ⟨h1, fun m hm => ?_⟩
  rcases (h2 m).mp hm with z | rfl
  · exact hs.2 m z
  · exact mem12.mpr hn
theorem late_ok {F : List (List Int)} {b : List Int} (hF : ∀ s ∈ F, Ok s) (hb : Ok b) : ∀ t ∈ late F b, Ok t := fun t ht => by
  rcases (late_mem b F _ t).mp ht with z | ⟨s, h1, h2, n, h3, rfl⟩
  · exact hF t (List.mem_filter.mp z).1
  · exact addN_ok (hF s h1) (mem12.mp (hb.2 n h3)) fun q => by rw [meets_iff.mpr ⟨n, h3, q⟩] at h2; cases h2
theorem late_many {F : List (List Int)} {b : List Int} (hF : F.length ≤ 4096) (hb : Ok b) : (late F b).length ≤ 60000 := by
  have h1 := late_len b F (F.filter fun s => meets s b)
  have h2 := List.length_filter_le (fun s => meets s b) F
  have h3 : F.length * b.length ≤ 4096 * 12 := Nat.mul_le_mul hF hb.len
  unfold late
  omega
theorem meets_flip (s b : List Int) : ((s.map fun n => decide (n ∈ b)).any id) = meets s b := by
  rw [Bool.eq_iff_iff, meets_iff, List.any_map, List.any_eq_true]
  exact ⟨fun ⟨n, h1, h2⟩ => ⟨n, of_decide_eq_true h2, h1⟩, fun ⟨n, h1, h2⟩ => ⟨n, h2, decide_eq_true h1⟩⟩
/-- with two members there is no empty one -/
theorem no_nil {F : List (List Int)} (nd : F.Nodup) (h : [] ∈ F → ∀ s ∈ F, s = []) (hl : 2 ≤ F.length) : [] ∉ F := fun q => by
  match F, nd, h, hl, q with
  | x :: y :: r, nd, h, _, q =>
    have e1 := h q x (by simp)
    have e2 := h q y (by simp)
    subst e1 e2
    exact absurd nd (by simp)
theorem least_nil {l : List (List Int)} {F : List (List Int)} (h : ∀ s, s ∈ F ↔ Least l s) : [] ∈ F → ∀ s ∈ F, s = [] := fun h0 s hs => (((h s).mp hs).2 [] ((h []).mp h0).1 fun _ q => absurd q (by simp)).symm
theorem mh_nil {B : List (List Int)} {F : List (List Int)} (h : ∀ s, s ∈ F ↔ MH B s) : [] ∈ F → ∀ s ∈ F, s = [] := fun h0 s hs => (((h s).mp hs).2.2 [] List.Pairwise.nil (fun _ q => absurd q (by simp)) ((h []).mp h0).2.1).symm
/-! ### the numbers of all bunches -/
def allNumbers (B : List (List Int)) : List Int := B.foldl (fun acc b => keys acc (keys [] b)) []
theorem allN_pre : ∀ (B : List (List Int)) (acc : List Int), acc.Nodup → (B.foldl (fun acc b => keys acc (keys [] b)) acc).Nodup ∧ ∀ n, n ∈ B.foldl (fun acc b => keys acc (keys [] b)) acc ↔ n ∈ acc ∨ ∃ b ∈ B, n ∈ b
  | [], acc, h => ⟨h, fun n => by simp⟩
  | b :: B, acc, h => by
    obtain ⟨h1, h2⟩ := allN_pre B (keys acc (keys [] b)) (keys_nodup _ _ h)
    refine ⟨h1, fun n => ?_⟩
    rw [List.foldl_cons, h2, keys_mem, keys_mem]
    simp only [List.not_mem_nil, false_or, List.mem_cons, exists_eq_or_imp, or_assoc]
theorem allN_nodup (B : List (List Int)) : (allNumbers B).Nodup := (allN_pre B [] List.nodup_nil).1
theorem allN_mem {B : List (List Int)} {n : Int} : n ∈ allNumbers B ↔ ∃ b ∈ B, n ∈ b := by
  have q := (allN_pre B [] List.nodup_nil).2 n
  simpa [allNumbers] using q
abbrev nums (B : List (List Int)) : List Int := srtI (allNumbers B)
theorem nums_asc (B : List (List Int)) : Asc (nums B) := srtI_asc (allN_nodup B)
theorem nums_sub (B : List (List Int)) : ∀ b ∈ B, Sub b (nums B) := fun b hb n hn => srtI_mem.mpr (allN_mem.mpr ⟨b, hb, hn⟩)
theorem nums_len {B : List (List Int)} (hB : ∀ b ∈ B, Ok b) : (nums B).length ≤ 12 := (asc_len U12 (nums B) (nums_asc B) asc12 fun n hn => by
  obtain ⟨b, h1, h2⟩ := allN_mem.mp (srtI_mem.mp hn)
  exact (hB b h1).2 n h2).1
theorem allN_len {B : List (List Int)} (hB : ∀ b ∈ B, Ok b) : (allNumbers B).length ≤ 12 := by
  have := nums_len hB
  rwa [List.length_mergeSort] at this
theorem inv_many {B : List (List Int)} {k : Nat} {f l : List (List Int)} (hB : ∀ b ∈ B, Ok b) (h : Inv B (nums B) k f l) : f.length ≤ 4096 ∧ l.length ≤ 4096 := by
  have q := h.many (nums_asc B) (nums_sub B)
  have e : 2 ^ (nums B).length ≤ 2 ^ 12 := Nat.pow_le_pow_right (by decide) (nums_len hB)
  exact ⟨Nat.le_trans q.1 e, Nat.le_trans q.2 e⟩
/-! ### what the law does with the bunches themselves -/
def leastOf (l : List (List Int)) : List (List Int) := l.filter fun one => decide ((l.filter fun other => !decide (other = one) && part other one) = [])
theorem leastOf_is {B l : List (List Int)} (h : ∀ s, s ∈ l ↔ s ∈ B) (s : List Int) : s ∈ leastOf l ↔ Least B s := by
  unfold leastOf Least
  rw [List.mem_filter, decide_eq_true_eq, List.filter_eq_nil_iff, h]
  refine and_congr_right fun _ => ?_
  constructor
  · intro q t ht st
    have := q t ((h t).mpr ht)
    simp only [Bool.and_eq_true, Bool.not_eq_true', decide_eq_false_iff_not, not_and, part_iff] at this
    exact Classical.byContradiction fun z => this z st
  · intro q t ht z
    simp only [Bool.and_eq_true, Bool.not_eq_true', decide_eq_false_iff_not, part_iff] at z
    exact z.1 (q t ((h t).mp ht) z.2)
/-- twice: the least bunches -/
theorem meeting_twice {B l : List (List Int)} (hA : ∀ b ∈ B, Asc b) (nd : l.Nodup) (hl : ∀ s, s ∈ l ↔ s ∈ B) : meeting (meeting B) = if [] ∉ B then srtB (leastOf l) else [[]] := by
  by_cases h0 : [] ∈ B
  · rw [if_neg (by simpa using h0)]
    have e : meeting B = [] := List.eq_nil_iff_forall_not_mem.mpr fun s hs => MH_none h0 s (((meeting_is B).mem s).mp hs)
    rw [e]; rfl
  · rw [if_pos h0]
    have q := meeting_is (meeting B)
    have r : IsMH (meeting B) (srtB (leastOf l)) := IsMH.of (List.Nodup.sublist List.filter_sublist nd) fun s => by
      rw [leastOf_is hl, MH_MH hA h0 (meeting_is B).mem]
      unfold Least
      rfl
    exact q.one r fun _ => Iff.rfl
theorem meeting_rev (B : List (List Int)) : meeting (B ++ B.reverse) = meeting B := (meeting_is (B ++ B.reverse)).one (meeting_is B) fun x => by simp
/-! ### the six pairs -/
def pairs : Nat → Int → List (List Int)
  | 0, _ => []
  | n + 1, k => [k, k + 1] :: pairs n (k + 2)
def firsts : Nat → Int → List Int
  | 0, _ => []
  | n + 1, k => k :: firsts n (k + 2)
theorem pairs_ge : ∀ (n : Nat) (k : Int) (b : List Int), b ∈ pairs n k → ∀ m ∈ b, k ≤ m
  | 0, _, _, h, _, _ => absurd h (by simp [pairs])
  | n + 1, k, b, h, m, hm => by
    rw [pairs, List.mem_cons] at h
    rcases h with rfl | h
    · simp only [List.mem_cons, List.not_mem_nil, or_false] at hm
      omega
    · have := pairs_ge n (k + 2) b h m hm
      omega
theorem firsts_le : ∀ (n : Nat) (k : Int) (s : List Int), Asc s → (∀ m ∈ s, k ≤ m) → (∀ b ∈ pairs n k, ∃ m, m ∈ b ∧ m ∈ s) → (∀ j : Int, (j - k) % 2 = 0 → j ∈ s → j + 1 ∉ s) → firsts n k ≤ s
  | 0, k, s, _, _, _, _ => List.nil_le s
  | n + 1, k, s, hs, hk, hp, hb => by
    obtain ⟨m, h1, h2⟩ := hp [k, k + 1] (by simp [pairs])
    cases s with
    | nil => exact absurd h2 (by simp)
    | cons a s =>
      rw [Asc, List.pairwise_cons] at hs
      have ha := hk a (by simp)
      have hm : a ≤ m := by
        rw [List.mem_cons] at h2
        rcases h2 with z | z
        · omega
        · have := hs.1 m z
          omega
      simp only [List.mem_cons, List.not_mem_nil, or_false] at h1
      rw [firsts, List.cons_le_cons_iff]
      by_cases e : a = k
      · subst e
        refine .inr ⟨rfl, ?_⟩
        have no1 : a + 1 ∉ s := fun z => hb a (by omega) (by simp) (by simp [z])
        have ge : ∀ m ∈ s, a + 2 ≤ m := fun m hm => by
          have := hs.1 m hm
          have : m ≠ a + 1 := fun e => no1 (e ▸ hm)
          omega
        refine firsts_le n (a + 2) s hs.2 ge (fun b hb2 => ?_) fun j hj hjs q => ?_
        · obtain ⟨m, g1, g2⟩ := hp b (by simp [pairs, hb2])
          have := pairs_ge n (a + 2) b hb2 m g1
          rw [List.mem_cons] at g2
          exact ⟨m, g1, g2.resolve_left (by omega)⟩
        · exact hb j (by omega) (by simp [hjs]) (by simp [q])
      · exact .inl (by omega)
theorem six : (meeting [[0, 1], [2, 3], [4, 5], [6, 7], [8, 9], [10, 11]]).head? = some [0, 2, 4, 6, 8, 10] := by
  have M := meeting_is [[0, 1], [2, 3], [4, 5], [6, 7], [8, 9], [10, 11]]
  have hx : MH [[0, 1], [2, 3], [4, 5], [6, 7], [8, 9], [10, 11]] [0, 2, 4, 6, 8, 10] := by
    refine ⟨by decide, by decide, fun t ht st hh => ?_⟩
    refine asc_antisymm ht (by decide) st fun n hn => ?_
    have g : ∀ k : Int, [k, k + 1] ∈ ([[0, 1], [2, 3], [4, 5], [6, 7], [8, 9], [10, 11]] : List (List Int)) → k + 1 ∉ ([0, 2, 4, 6, 8, 10] : List Int) → k ∈ t := fun k h1 h2 => by
      obtain ⟨m, e1, e2⟩ := hh _ h1
      simp only [List.mem_cons, List.not_mem_nil, or_false] at e1
      rcases e1 with rfl | rfl
      · exact e2
      · exact absurd (st _ e2) h2
    simp only [List.mem_cons, List.not_mem_nil, or_false] at hn
    rcases hn with rfl | rfl | rfl | rfl | rfl | rfl
    · exact g 0 (by decide) (by decide)
    · exact g 2 (by decide) (by decide)
    · exact g 4 (by decide) (by decide)
    · exact g 6 (by decide) (by decide)
    · exact g 8 (by decide) (by decide)
    · exact g 10 (by decide) (by decide)
  have le : ∀ s, MH [[0, 1], [2, 3], [4, 5], [6, 7], [8, 9], [10, 11]] s → ([0, 2, 4, 6, 8, 10] : List Int) ≤ s := fun s hs => by
    have ok := MH_ok (B := [[0, 1], [2, 3], [4, 5], [6, 7], [8, 9], [10, 11]]) (fun b hb => by
      simp only [List.mem_cons, List.not_mem_nil, or_false] at hb
      rcases hb with rfl | rfl | rfl | rfl | rfl | rfl <;> exact ⟨by decide, fun n hn => by
        simp only [List.mem_cons, List.not_mem_nil, or_false] at hn
        exact mem12.mpr (by omega)⟩) hs
    refine firsts_le 6 0 s hs.1 (fun m hm => (mem12.mp (ok.2 m hm)).1) (fun b hb => hs.2.1 b (by
      simpa [pairs] using hb)) fun j hj hjs hj1 => ?_
    -- both of a pair: one can go
    have e := hs.2.2 (s.filter fun m => decide (m ≠ j + 1)) (asc_erase hs.1 (j + 1)) (fun m hm => (List.mem_filter.mp hm).1) fun b hb => by
      obtain ⟨m, h1, h2⟩ := hs.2.1 b hb
      by_cases q : m = j + 1
      · subst q
        refine ⟨j, ?_, List.mem_filter.mpr ⟨hjs, decide_eq_true (by omega)⟩⟩
        simp only [List.mem_cons, List.not_mem_nil, or_false] at hb
        rcases hb with rfl | rfl | rfl | rfl | rfl | rfl <;> (simp only [List.mem_cons, List.not_mem_nil, or_false] at h1 ⊢; omega)
      · exact ⟨m, h1, List.mem_filter.mpr ⟨h2, decide_eq_true q⟩⟩
    have := e ▸ hj1
    exact absurd rfl (of_decide_eq_true (List.mem_filter.mp this).2)
  cases hF : meeting [[0, 1], [2, 3], [4, 5], [6, 7], [8, 9], [10, 11]] with
  | nil => 
    have := (M.mem _).mpr hx
    rw [hF] at this
    exact absurd this (by simp)
  | cons a F =>
    rw [hF] at M
    have h1 := le a ((M.mem a).mp (by simp))
    have h2 := (M.mem _).mpr hx
    rw [List.mem_cons] at h2
    have h3 : a ≤ [0, 2, 4, 6, 8, 10] := by
      rcases h2 with z | z
      · rw [← z]; exact List.le_refl _
      · exact (List.pairwise_cons.mp M.srt).1 _ z
    rw [List.le_antisymm h3 h1]
    rfl
end Bm

/-! Sx12: room, built-in names, sorting ints and rows of ints, how long what is shown gets. -/
namespace Sx
open PySem
open PySem.Spec
open PyProof.Rows
open L2
section
variable {A : Around} {k : Nat}
theorem u10 (hr : Room k A) : A.units + 10 < cLine := by have := hr.un; omega
theorem u64 (hr : Room k A) : A.units + 64 < cLine := by have := hr.un; omega
theorem u65 (hr : Room k A) : A.units + 65 < cLine := by have := hr.un; omega
theorem u80 (hr : Room k A) : A.units + 80 < cLine := by have := hr.un; omega
end
/-- the built-in names are no names of the module -/
structure Nn (mg : Str → Option Value) : Prop where
  len : mg "len" = none
  any : mg "any" = none
  all : mg "all" = none
  sorted : mg "sorted" = none
  tuple : mg "tuple" = none
  list : mg "list" = none
  int : mg "int" = none
  abs : mg "abs" = none
  repr : mg "repr" = none
  dict : mg "dict" = none
  range : mg "range" = none
/-! ### sorting -/
theorem sortOk_int (xs : List Int) : SortOk (xs.map toD) :=
  ⟨PySem.W.AllAlike.of fun _ _ => by rfl, fun _ => PySem.W.Sortable.others fun _ => ⟨nofun, nofun⟩, fun d hd => by
    obtain ⟨x, _, rfl⟩ := List.mem_map.mp hd
    exact Nat.le_trans (En.dep x) (by decide)⟩
theorem sortOk_rows (xs : List (List Int)) (h : 2 ≤ xs.length → [] ∉ xs) : SortOk (xs.map toD) := by
  refine ⟨PySem.W.AllAlike.of fun a b => ?_, fun hl => .inl fun d hd => ?_, fun d hd => ?_⟩
  · show PySem.W.alikeAll (a.map .int) (b.map .int) = true
    exact PySem.W.alike_ints a b
  · obtain ⟨x, hx, rfl⟩ := List.mem_map.mp hd
    rw [List.length_map] at hl
    cases x with
    | nil => exact absurd hx (h hl)
    | cons n x => exact ⟨_, _, rfl⟩
  · obtain ⟨x, _, rfl⟩ := List.mem_map.mp hd
    exact Nat.le_trans (En.dep x) (by decide)
theorem srtd_int (xs : List Int) : srtd xs = Bm.srtI xs := by
  show xs.mergeSort (PySem.W.dataLe false fun n : Int => PyData.int n) = _
  rw [PySem.W.dataLe_int fun n : Int => n]
theorem dataLe_tup : PySem.W.dataLe false (fun x : List Int => PyData.tuple (x.map .int)) = fun p q => decide (p ≤ q) := by
  funext p q
  show (!PySem.W.dataLt (.tuple (q.map .int)) (.tuple (p.map .int))) = _
  rw [PySem.W.dataLt_tuple, show PyProof.Rows.lexLt itemOrd (PySem.W.keyToksAll (q.map .int)) (PySem.W.keyToksAll (p.map .int)) = PySem.W.rowLt (q.map .int) (p.map .int) from rfl, PySem.W.dataLt_ints]
  by_cases h : q < p
  · have h' : ¬ p ≤ q := fun r => List.not_lt.mpr r h
    simp [h, h']
  · have h' : p ≤ q := List.not_lt.mp h
    simp [h, h']
theorem srtd_rows (xs : List (List Int)) : srtd xs = Bm.srtB xs := by
  show xs.mergeSort (PySem.W.dataLe false fun x : List Int => PyData.tuple (x.map .int)) = _
  rw [dataLe_tup]
/-! ### keys of dicts -/
theorem aput_keys {κ γ : Type} [DecidableEq κ] (m : List (κ × γ)) (k : κ) (v : γ) : (aput m k v).map (·.1) = if k ∈ m.map (·.1) then m.map (·.1) else m.map (·.1) ++ [k] := by
  unfold aput
  have e : (m.any fun p => decide (p.1 = k)) = decide (k ∈ m.map (·.1)) := by
    rw [Bool.eq_iff_iff, List.any_eq_true, decide_eq_true_eq, List.mem_map]
    exact ⟨fun ⟨p, h1, h2⟩ => ⟨p, h1, of_decide_eq_true h2⟩, fun ⟨p, h1, h2⟩ => ⟨p, h1, decide_eq_true h2⟩⟩
  rw [e]
  by_cases h : k ∈ m.map (·.1)
  · rw [if_pos (decide_eq_true h), if_pos h, List.map_map]
    refine List.map_congr_left fun p _ => ?_
    show (if p.1 = k then (p.1, v) else p).1 = p.1
    split <;> rfl
  · rw [if_neg (by simpa using h), if_neg h, List.map_append]
    rfl
theorem amerge_keys {κ γ : Type} [DecidableEq κ] : ∀ (ps m : List (κ × γ)), (amerge m ps).map (·.1) = Bm.keys (m.map (·.1)) (ps.map (·.1))
  | [], m => rfl
  | p :: ps, m => by
    show (amerge (aput m p.1 p.2) ps).map (·.1) = _
    rw [amerge_keys ps, aput_keys, List.map_cons, Bm.keys]
theorem dict_keys {κ γ : Type} [DecidableEq κ] (xs : List κ) (f : κ → γ) : (amerge [] (xs.map fun x => (x, f x))).map (·.1) = Bm.keys [] xs := by
  rw [amerge_keys, List.map_map]
  rw [show ((fun x : κ × γ => x.1) ∘ fun x => (x, f x)) = id from rfl, List.map_id]
  rfl
/-! ### what is shown -/
theorem join_le : ∀ ts : List Str, (Str.join ", " ts).length ≤ (ts.map fun t => t.length + 2).sum
  | [] => Nat.zero_le _
  | [x] => by
    show x.length ≤ _
    simp
  | x :: y :: r => by
    have ih := join_le (y :: r)
    show (x ++ ", " ++ Str.join ", " (y :: r)).length ≤ _
    rw [Str.length_append, Str.length_append, List.map_cons, List.sum_cons]
    have e : (", " : Str).length = 2 := by decide +kernel
    omega
theorem tuple_le (ts : List Str) (b : Nat) (h : ∀ t ∈ ts, t.length ≤ b) : (tupleText ts).length ≤ ts.length * (b + 2) + 3 := by
  have h1 := join_le ts
  have h2 : (ts.map fun t => t.length + 2).sum ≤ ts.length * (b + 2) := by
    clear h1
    induction ts with
    | nil => exact Nat.zero_le _
    | cons t ts ih =>
      have := ih fun t ht => h t (by simp [ht])
      have := h t (by simp)
      rw [List.map_cons, List.sum_cons, List.length_cons, Nat.succ_mul]
      omega
  unfold tupleText
  rw [Str.length_append, Str.length_append]
  have e : ("(" : Str).length = 1 := by decide +kernel
  have e2 : ((if ts.length == 1 then ",)" else ")" : String) : Str).length ≤ 2 := by
    split
    · decide +kernel
    · decide +kernel
  omega
theorem shownAll_map {α : Type} (f : α → PyData) : ∀ xs : List α, PyData.shownAll (xs.map f) = xs.map fun x => PyData.shown (f x)
  | [] => rfl
  | x :: xs => by rw [List.map_cons, PyData.shownAll, shownAll_map f xs]; rfl
theorem shown_tup {α : Type} [En α] (xs : List α) (b : Nat) (h : ∀ x ∈ xs, (PyData.shown (toD x)).length ≤ b) : (PyData.shown (toD xs)).length ≤ xs.length * (b + 2) + 3 := by
  show (PyData.shown (.tuple (xs.map toD))).length ≤ _
  rw [PyData.shown, shownAll_map]
  have q := tuple_le (xs.map fun x => PyData.shown (toD x)) b fun t ht => by
    obtain ⟨x, hx, rfl⟩ := List.mem_map.mp ht
    exact h x hx
  rwa [List.length_map] at q
theorem showable_tup {α : Type} [En α] : ∀ xs : List α, (∀ x ∈ xs, PyData.showable (toD x) = true) → PyData.showableAll (xs.map toD) = true
  | [], _ => by simp [PyData.showableAll]
  | x :: xs, h => by
    rw [List.map_cons, PyData.showableAll, h x (by simp), showable_tup xs fun y hy => h y (by simp [hy])]; rfl
theorem noDict {α : Type} [En α] (x : α) : PyData.hasDict (toD x) = false := PyData.hasDict_of_canLay _ (En.lay x)
section
variable {K : PySem.W.Frag} {Fh H : Hp} {Γ Γ1 Γ2 : Ctx K} {r ra rb : Rs K} {te : TE} {α : Type} [En α]
theorem ev_repr {xs : List α} (ha : Ev Fh te Γ Γ1 r) (sa : Seen Fh Γ1 r (toD xs)) (h1 : ∀ x ∈ xs, PyData.showable (toD x) = true) (h2 : En.dp α ≤ 63) (h3 : (PyData.shown (toD xs)).length ≤ sizeLine) : Ev Fh (tCB (rRepr K) (tCons te tNil)) Γ Γ1 (fun _ => tx (PyData.shown (toD xs))) :=
  ev_c1 ha sa fun x H Q hx o => by
    have hx0 := hx
    cases hx with
    | tup hs hd =>
      refine ⟨_, _, rfl, hx0, ?_, noDict xs, Nat.le_trans (En.dep xs) (Nat.succ_le_succ h2), h3, o.now rfl⟩
      show PyData.showable (.tuple (xs.map toD)) = true
      rw [PyData.showable]
      exact showable_tup xs h1
end
/-! ### a def's beginning -/
theorem enterN {K : PySem.W.Frag} {Fh : Hp} {ds : List PyData} {ss : List (Sl K)} {ws : List V} {N : List Str} {Γ : Ctx K} (g : Args Fh ds ss) (h : DqAll K Fh ws ds) (e : ss.map some ++ List.replicate (N.length - ss.length) none = Γ := by rfl) : Env Fh Γ (L2.start N ws) [] [] Fh := by
  have q := enter (N := N) g h
  rw [show ws.length = ss.length from (g.len.trans h.len.symm).symm, e] at q
  exact q
end Sx

/-! Sx13: the rules of layer 1 with K told outright (for use within comprehensions). -/
namespace Sx
open PySem
open PySem.Spec
open PyProof.Rows
open L2
theorem lt_ {a b : Nat} (h : Nat.ble (a + 1) b = true) : a < b := Nat.le_of_ble_eq_true h
theorem Out.da {K : PySem.W.Frag} {H : Hp} {Q : VK} {α : Type} [En α] {x y : α} (o : Out (K := K) H Q (Sx.da x)) (e : y = x) : Out (K := K) H Q (Sx.da y) := by rw [e]; exact o
/-- a, b as a tuple -/
theorem ev_tup2 {K : PySem.W.Frag} {Fh : Hp} {Γ Γ1 Γ2 : Ctx K} {ta tb : TE} {α β : Type} [En α] [En β] {x : α} {y : β} (ha : Ev Fh ta Γ Γ1 (fun _ => da x)) (hb : Ev Fh tb Γ1 Γ2 (fun _ => da y)) : Ev Fh (tTup (tCons ta (tCons tb tNil))) Γ Γ2 (fun _ => da (x, y)) := fun σ T vs H Q E h =>
  ha σ T vs H _ E fun u H1 E1 => hb σ _ _ H1 _ E1 fun v H2 E2 => by
    have dv : Dq K H2 v (toD y) := E2.seen (r := fun _ => da y) seen_da
    have du : Dq K H2 u (toD x) := E2.seen2 (r := fun _ => da x) seen_da
    refine ⟨Nat.le_trans (Nat.le_refl 2) (by decide), fun p n => ?_⟩
    exact (E2.pop.pop.out h) _ _ _ (same_new n) Fresh.none (Dq.tup upd_same (dpAll_same (same_new n) _ _ (.cons du (.cons dv .nil))))
section
variable {X : Cx} {K : PySem.W.Frag}
theorem kx_add (e : X.K = K := by rfl) : OpR X (binaryOp .Add) (xAdd K) := e ▸ ox_add
theorem kx_in (hu : X.A.units + 65 < cLine) (e : X.K = K := by rfl) : OpR X (compareOp .In) (xIn K) := e ▸ ox_in hu
theorem kx_notIn (hu : X.A.units + 65 < cLine) (e : X.K = K := by rfl) : OpR X (compareOp .NotIn) (xNotIn K) := e ▸ ox_notIn hu
theorem kx_eq (hu : X.A.units + 64 < cLine) (e : X.K = K := by rfl) : OpR X (compareOp .Eq) (xEq K) := e ▸ ox_eq hu
theorem kx_ne (hu : X.A.units + 64 < cLine) (e : X.K = K := by rfl) : OpR X (compareOp .NotEq) (xNe K) := e ▸ ox_ne hu
theorem kx_ix (e : X.K = K := by rfl) : IxR X (xIx K) := e ▸ ox_ix
theorem kx_sl (e : X.K = K := by rfl) : SlR X (xSl K) := e ▸ ox_sl
theorem kx_seq {tg l : Expr} {tl : TE} (hl : PE X l tl) (e : X.K = K := by rfl) : PI X tg l (iSeq K tl) := e ▸ pi_seq hl
theorem kx_sort (hu : X.A.units + 80 < cLine) (hc : X.calm = true) (e : X.K = K := by rfl) : CallR X (.builtin "sorted") (rSortC K) := e ▸ cr_sortC hu hc
theorem kx_repr (hu : X.A.units + 80 < cLine) (hc : Calm X.A) (e : X.K = K := by rfl) : CallR X (.builtin "repr") (rRepr K) := e ▸ cr_repr hu hc
theorem kx_dictT (hu : X.A.units + 10 < cLine) (hc : X.calm = true) (e : X.K = K := by rfl) : CallR X (.type "dict") (rDictT K) := e ▸ call_dictT hu hc
theorem kx_dictP (hc : X.calm = true) (e : X.K = K := by rfl) : CallR X (.type "dict") (rDictP K) := e ▸ call_dictP hc
theorem kx_any (hc : X.calm = true) (e : X.K = K := by rfl) : CallR X (.builtin "any") (rAny K) := e ▸ cr_any hc
theorem kx_all (hc : X.calm = true) (e : X.K = K := by rfl) : CallR X (.builtin "all") (rAll K) := e ▸ cr_all hc
theorem kx_list (e : X.K = K := by rfl) : CallR X (.type "list") (rListOf K) := e ▸ call_list_of
theorem kx_tuple (e : X.K = K := by rfl) : CallR X (.type "tuple") (rTupOf K) := e ▸ call_tuple_of
theorem kx_len (e : X.K = K := by rfl) : CallR X (.builtin "len") (rLenS K) := e ▸ call_len_seq
theorem kx_sortLen {x : Expr} {t : TA} {p p2 pos kpos : Pos} (hu : X.A.units + 80 < cLine) (hc : X.calm = true) (ha : PA X [x] t) (hg : Gl X "sorted") (hm : X.mg "sorted" = none) (hg2 : Gl X "len") (hm2 : X.mg "len" = none) (e : X.K = K := by rfl)
    (he : backTo pos (starEach [x] X.env) = (false, eval x X.env) :: backTo pos (starEach [] X.env) := by rfl) (hpl : (backTo pos (starEach [x] X.env)).any (·.1) = false := by rfl) :
    PE X (.Call (.Name "sorted" p) [x] [⟨some "key", .Name "len" p2, kpos⟩] pos) (tCB (rSortLen K) t) := e ▸ pe_sortLen hu hc ha hg hm hg2 hm2 he hpl
theorem kx_rev {x : Expr} {te : TE} {k : Nat} {p1 p2 p3 pos : Pos} (he : PE X x te) (e : X.K = K := by rfl) : PE X (.Subscript x (.Slice none none (some (.UnaryOp .USub (.Constant (.int 1) k p1) p2)) p3) pos) (tRevA K te) := e ▸ pe_revA he
theorem kx_bm0 {o : Expr} {to : TE} {name : Str} {apos cpos : Pos} {T id : String} {r : V → List V → Hp → VK → Prop} (pa : PlainAttrs T) (slot : Slot T name id) (hty : typeOf (.builtin id) = pure (.type "method_descriptor")) (hm : MtR X id r) (ho : PE X o to) (e : X.K = K := by rfl)
    (hbase : attributeBase o name X.env (eval o X.env) = eval o X.env := by rfl) (hline : (apos.endLine == cpos.line) = true := by rfl) : PE X (.Call (.Attribute o name apos) [] [] cpos) (tBM0 K T r to) := e ▸ pe_bm0 pa slot hty hm ho hbase hline
theorem kx_bm {o x : Expr} {es : List Expr} {to : TE} {t : TA} {name : Str} {apos cpos : Pos} {T id : String} {r : V → List V → Hp → VK → Prop} (pa : PlainAttrs T) (slot : Slot T name id) (hty : typeOf (.builtin id) = pure (.type "method_descriptor")) (hm : MtR X id r) (ho : PE X o to) (ha : PA X (x :: es) t) (e : X.K = K := by rfl)
    (hbase : attributeBase o name X.env (eval o X.env) = eval o X.env := by rfl)
    (hfew : ((backTo cpos (starEach (x :: es) X.env)).all (fun x => !x.1) && (backToKw cpos (keywordEach [] X.env)).all (fun x => x.1.isSome)
      && decide ((x :: es).length + ([] : List Keyword).length + (if ([] : List Keyword).isEmpty then 0 else 1) < 30)) = true := by rfl)
    (hline : (apos.endLine == cpos.line) = true := by rfl) (hs : starEach (x :: es) X.env = (false, eval x X.env) :: starEach es X.env := by rfl) (hplain : (backTo cpos (starEach es X.env)).any (·.1) = false := by rfl) :
    PE X (.Call (.Attribute o name apos) (x :: es) [] cpos) (tBM K T r to t) := e ▸ pe_bm pa slot hty hm ho ha hbase hfew hline hs hplain
theorem kx_gtup {es : List Expr} {k : Nat} {t : TGs} {n : Nat} {pos : Pos} (hc : X.calm = true) (h : PGs X es t) (e : X.K = K := by rfl)
    (hn : (assignEach es X.env).length = n := by rfl) (hst : (assignEach es X.env).findIdx? (·.1) = none := by rfl) : PG X (.Tuple es k pos) (gTup K n t) := e ▸ pg_tup hc h hn hst
end
end Sx

/-! Sx14: what the laws' own defs about their source reckon. -/
namespace Sx
open PySem
open PySem.Spec
open PyProof.Rows
open L2
section
variable {c : Addr} {z : Src} {n : Int}
theorem ne1 : ¬ (Sum.inr "cells" : Key) = .inr "left" := by decide +kernel
theorem ne2 : ¬ (Sum.inr "cells" : Key) = .inr "mixed" := by decide +kernel
theorem ne3 : ¬ (Sum.inr "cells" : Key) = .inr "turn" := by decide +kernel
theorem ne4 : ¬ (Sum.inr "left" : Key) = .inr "mixed" := by decide +kernel
theorem ne5 : ¬ (Sum.inr "left" : Key) = .inr "turn" := by decide +kernel
theorem ne6 : ¬ (Sum.inr "mixed" : Key) = .inr "turn" := by decide +kernel
theorem v_left : valV (kvsOf c z) (.inr "left") = some (.int z.left) := by unfold kvsOf; rw [valV_neg ne1, valV_pos rfl]
theorem v_mixed : valV (kvsOf c z) (.inr "mixed") = some (.int z.mixed) := by unfold kvsOf; rw [valV_neg ne2, valV_neg ne4, valV_pos rfl]
theorem v_turn : valV (kvsOf c z) (.inr "turn") = some (.int z.turn) := by unfold kvsOf; rw [valV_neg ne3, valV_neg ne5, valV_neg ne6, valV_pos rfl]
theorem p_left : putK (kvsOf c z) (.inr "left") (.int n) = kvsOf c { z with left := n } := by
  unfold putK kvsOf
  simp only [List.any_cons, List.any_nil, List.map_cons, List.map_nil, ne1, Ne.symm ne4, Ne.symm ne5, decide_true, decide_false, Bool.or_false, Bool.true_or, Bool.false_or, if_true, if_false]
theorem p_turn : putK (kvsOf c z) (.inr "turn") (.int n) = kvsOf c { z with turn := n } := by
  unfold putK kvsOf
  simp only [List.any_cons, List.any_nil, List.map_cons, List.map_nil, ne3, ne5, ne6, decide_true, decide_false, Bool.or_false, Bool.or_true, Bool.false_or, if_true, if_false]
theorem p_mixed : putK (kvsOf c z) (.inr "mixed") (.int n) = kvsOf c { z with mixed := n } := by
  unfold putK kvsOf
  simp only [List.any_cons, List.any_nil, List.map_cons, List.map_nil, ne2, ne4, Ne.symm ne6, decide_true, decide_false, Bool.or_false, Bool.or_true, Bool.true_or, Bool.false_or, if_true, if_false]
end
def refill : Int → List Int → Int × List Int
  | l, [] => (l, [])
  | l, x :: r => if l < 2 then refill x r else (l, x :: r)
def refillS (z : Src) : Src := { z with left := (refill z.left z.cells).1, cells := (refill z.left z.cells).2 }
theorem refillS_on {z : Src} {x : Int} {r : List Int} (e : z.cells = x :: r) (h : z.left < 2) : refillS { z with left := x, cells := r } = refillS z := by
  unfold refillS
  rw [e, refill, if_pos h]
theorem refillS_off {z : Src} (h : ¬ (z.left < 2 ∧ z.cells ≠ [])) : refillS z = z := by
  obtain ⟨cells, left, mixed, turn⟩ := z
  unfold refillS
  cases cells with
  | nil => rfl
  | cons x r =>
    have q : ¬ left < 2 := fun z => h ⟨z, nofun⟩
    show Src.mk (refill left (x :: r)).2 (refill left (x :: r)).1 mixed turn = _
    rw [refill, if_neg q]
def mix1 (z : Src) : Int := (z.mixed + (z.turn + 1) * 104729) % 998244353
def mix2 (z : Src) : Int := (mix1 z * mix1 z + (z.turn + 1) * 17) % 2147483647
def pick0 (z : Src) (m : Int) : Int × Src :=
  if 1 < z.left then (z.left % m, { z with left := z.left / m }) else (mix2 z / 16 % m, { z with turn := z.turn + 1 })
/-- a number below m, and the source behind -/
def pick (z : Src) (m : Int) : Int × Src := if m < 2 then (0, z) else pick0 (refillS z) m
theorem pick_low (z : Src) {m : Int} : 0 ≤ (pick z m).1 := by
  unfold pick pick0
  split
  · exact Int.le_refl 0
  · rename_i h
    split
    · exact Int.emod_nonneg _ (by omega)
    · exact Int.emod_nonneg _ (by omega)
theorem pick_high (z : Src) {m : Int} (h : 1 ≤ m) : (pick z m).1 < m := by
  unfold pick pick0
  split
  · show (0 : Int) < m
    omega
  · split
    · exact Int.emod_lt_of_pos _ (by omega)
    · exact Int.emod_lt_of_pos _ (by omega)
theorem mix1_r (z : Src) : 0 ≤ mix1 z ∧ mix1 z < 998244353 := ⟨Int.emod_nonneg _ (by decide), Int.emod_lt_of_pos _ (by decide)⟩
theorem mul_r {i j : Int} (h0 : -1000 ≤ j) (h1 : j < 1000000) : CMul i j := .inr ⟨by omega, by omega⟩
theorem div_r {i j : Int} (h0 : 0 < j) (h1 : j < 2 ^ 60) : CDivW i j := wide_div (b := 60) h0 (by omega) (by decide) (by decide)
/-- what the numbers of the script are stirred to -/
def stir : Int → List Int → Int
  | s, [] => s
  | s, x :: r => stir ((s * 69069 + x * 31 + 5) % 2147483629) r
theorem stir_snoc : ∀ (s : Int) (pre : List Int) (x : Int), stir s (pre ++ [x]) = (stir s pre * 69069 + x * 31 + 5) % 2147483629
  | _, [], _ => rfl
  | s, y :: pre, x => by
    show stir _ (pre ++ [x]) = _
    rw [stir_snoc _ pre]
    rfl
def absI (n : Int) : Int := if n < 0 then -n else n
def openCells (ns : List Int) : Src := ⟨ns.map absI, 1, stir 11 ns, 0⟩
/-- things taken out one by one -/
def draw {α : Type} : Nat → Src → List α → List α × Src × List α
  | 0, z, xs => ([], z, xs)
  | n + 1, z, xs =>
    let r := pick z xs.length
    match xs[r.1.toNat]? with
    | none => ([], r.2, xs)
    | some x => let q := draw n r.2 (xs.eraseIdx r.1.toNat); (x :: q.1, q.2)
/-- the new dict of a display whose values are ints and one list of one's own -/
theorem srcDict {H : Hp} {a c : Addr} {xs : List Int} {l m t : Int} : mergeK [] ([(.inr "cells", .ref c), (.inr "left", .int l), (.inr "mixed", .int m), (.inr "turn", .int t)] : List (Key × V)) = kvsOf c ⟨xs, l, m, t⟩ := by
  show putK (putK (putK (putK [] (Sum.inr "cells" : Key) (.ref c)) (Sum.inr "left" : Key) (.int l)) (Sum.inr "mixed" : Key) (.int m)) (Sum.inr "turn" : Key) (.int t) = _
  unfold kvsOf
  have a1 : putK ([] : List (Key × V)) (.inr "cells") (.ref c) = [(.inr "cells", .ref c)] := rfl
  rw [a1]
  unfold putK
  simp only [List.any_cons, List.any_nil, List.cons_append, List.nil_append, ne1, ne2, ne3, ne4, ne5, ne6, decide_false, Bool.or_false, Bool.false_eq_true, if_false]
/-- the row of numbers, its two objects are one's own -/
def srcO {K : PySem.W.Frag} (z : Src) : Sl K := ⟨fun H S v => ∃ a c, (srcA (K := K) a c z).p H S v, fun ⟨a, c, h⟩ hS hH k => ⟨a, c, (srcA a c z).mono h hS hH k⟩⟩
section
variable {K : PySem.W.Frag} {Fh H : Hp} {Γ Γ1 Γ2 Γ3 Γ4 : Ctx K} {σ : L2.St} {T : List (Sl K)} {vs : List V}
theorem Env.nameS {i : Nat} {z : Src} (E : Env Fh Γ σ T vs H) (hi : Γ[i]? = some (some (srcO z))) : ∃ a c, Env Fh (Γ.set i (some (srcA a c z))) σ T vs H := by
  obtain ⟨v, S, h1, ⟨a, c, h2⟩, own, ch⟩ := E.change hi
  exact ⟨a, c, ch _ H (fun _ => False) (fun _ _ _ q => q) (fun b hb => (own b hb).2) Fresh.none ((srcA a c z).mono h2 (fun _ q => .inl q) (fun _ _ => rfl) fun _ _ q => q)⟩
open Classical in
/-- {'cells': .., 'left': .., 'mixed': .., 'turn': ..} -/
theorem ev_srcNew {te tl tm tt : TE} {xs : List Int} {l m t : Int} (h1 : ∀ Δ : Ctx K, Δ = Γ → Ev Fh te Δ Δ (fun _ => ol xs)) (h2 : Ev Fh tl Γ Γ (fun _ => da l)) (h3 : Ev Fh tm Γ Γ (fun _ => da m)) (h4 : Ev Fh tt Γ Γ (fun _ => da t)) :
    Ev Fh (tDisp [(tC (.str ("cells" : Str)), te), (tC (.str ("left" : Str)), tl), (tC (.str ("mixed" : Str)), tm), (tC (.str ("turn" : Str)), tt)]) Γ Γ (fun _ => srcO ⟨xs.reverse, l, m, t⟩) := fun σ T vs H Q E k p hp => by
  -- the new dict first
  have E1 : Env Fh Γ σ (fz (K := K) p (.dK []) :: T) (.ref p :: vs) (upd H p (.dK [])) := E.push (same_new hp) (fresh_at hp nofun) ⟨rfl, rfl, upd_same⟩
  refine h1 Γ rfl σ _ _ _ _ E1 fun u H2 E2 => ?_
  refine h2 σ _ _ _ _ E2 fun y2 H3 E3 => ?_
  have d2 : Dq K H3 y2 (toD l) := E3.seen (r := fun _ => da l) seen_da
  cases d2
  refine h3 σ _ _ _ _ E3.pop fun y3 H4 E4 => ?_
  have d3 : Dq K H4 y3 (toD m) := E4.seen (r := fun _ => da m) seen_da
  cases d3
  refine h4 σ _ _ _ _ E4.pop fun y4 H5 E5 => ?_
  have d4 : Dq K H5 y4 (toD t) := E5.seen (r := fun _ => da t) seen_da
  cases d4
  have E6 := E5.pop
  obtain ⟨w, cr, ⟨c, rfl, sc, ws, hc, hw⟩, ⟨ep, sp, hpd⟩, tk⟩ := id E6
  have ews := ints_of hw
  subst ews
  have sc' : w c = some (Γ.length + (T.length + 1)) := sc
  have sp' : w p = some (Γ.length + T.length) := sp
  have hne : p ≠ c := fun e => by rw [e, sc'] at sp'; have := Option.some.inj sp'; omega
  refine ⟨hpd, [(.inr "cells", .ref c), (.inr "left", .int l), (.inr "mixed", .int m), (.inr "turn", .int t)], rfl, Nat.le_trans (Nat.le_refl 4) (by decide), ?_⟩
  rw [srcDict (H := H) (a := p) (xs := xs.reverse)]
  refine k _ _ ⟨fun b => if w b = some (Γ.length + (T.length + 1)) then some (Γ.length + T.length) else w b, cr.mono (fun b ys q => ?_) (fun b o q => ?_) (fun b q => ?_) fun b j hj q => ?_, ⟨p, c, rfl, ?_, ?_, hne, upd_same, ?_⟩, tk.mono (fun b ys q => ?_) fun b j hj q => ?_⟩
  · rw [upd_ne (show b ≠ p from fun e => by rw [e, hpd] at q; cases q)]; exact q
  · rw [upd_ne (show b ≠ p from fun e => by rw [e, (cr.own p (by rw [sp']; simp)).1] at q; cases q)]
    exact cr.same b o q
  · have q' : w b ≠ none := fun z => q (by show (if w b = some (Γ.length + (T.length + 1)) then _ else w b) = none; rw [if_neg (by rw [z]; simp)]; exact z)
    obtain ⟨n, o, ho, mo⟩ := cr.own b q'
    by_cases e : b = p
    · subst e; exact ⟨n, _, upd_same, nofun⟩
    · exact ⟨n, o, by rw [upd_ne e]; exact ho, mo⟩
  · refine ⟨?_, upd_ne fun e => ?_⟩
    · show (if w b = some (Γ.length + (T.length + 1)) then _ else w b) = some j
      rw [if_neg (by rw [q]; intro z; have := Option.some.inj z; omega)]; exact q
    · rw [e, sp'] at q; have := Option.some.inj q; omega
  · show (if w p = some (Γ.length + (T.length + 1)) then _ else w p) = some (Γ.length + T.length)
    rw [if_neg (by rw [sp']; intro z; have := Option.some.inj z; omega)]; exact sp'
  · show (if w c = some (Γ.length + (T.length + 1)) then _ else w c) = some (Γ.length + T.length)
    exact if_pos sc'
  · rw [upd_ne hne.symm, hc]
    show _ = some (HO.lst (xs.reverse.reverse.map V.int))
    rw [List.reverse_reverse]
  · rw [upd_ne (show b ≠ p from fun e => by rw [e, hpd] at q; cases q)]; exact q
  · refine ⟨?_, upd_ne fun e => ?_⟩
    · show (if w b = some (Γ.length + (T.length + 1)) then _ else w b) = some (Γ.length + j)
      rw [if_neg (by rw [q]; intro z; have := Option.some.inj z; omega)]; exact q
    · rw [e, sp'] at q; have := Option.some.inj q; omega
end
end Sx

/-! Sx15: things taken out in an order told by the source. -/
namespace Sx
open PySem
open PySem.Spec
open PyProof.Rows
open L2
structure Dr (α : Type) where
  out : List α
  src : Src
  rest : List α
def drawn {α : Type} (z : Src) (xs : List α) : Nat → Dr α
  | 0 => ⟨[], z, xs⟩
  | n + 1 =>
    let s := drawn z xs n
    let r := pick s.src s.rest.length
    match s.rest[r.1.toNat]? with
    | some x => ⟨s.out ++ [x], r.2, s.rest.eraseIdx r.1.toNat⟩
    | none => ⟨s.out, r.2, s.rest⟩
theorem drawn_rest {α : Type} (z : Src) (xs : List α) : ∀ n, n ≤ xs.length → (drawn z xs n).rest.length = xs.length - n ∧ (drawn z xs n).out.length = n ∧ ((drawn z xs n).out ++ (drawn z xs n).rest).Perm xs
  | 0, _ => ⟨rfl, rfl, List.Perm.refl _⟩
  | n + 1, h => by
    obtain ⟨h1, h2, h3⟩ := drawn_rest z xs n (by omega)
    have lo := pick_low (drawn z xs n).src (m := ((drawn z xs n).rest.length : Int))
    have hi := pick_high (drawn z xs n).src (m := ((drawn z xs n).rest.length : Int)) (by omega)
    have hlt : (pick (drawn z xs n).src (drawn z xs n).rest.length).1.toNat < (drawn z xs n).rest.length := by omega
    have e : drawn z xs (n + 1) = ⟨(drawn z xs n).out ++ [(drawn z xs n).rest[(pick (drawn z xs n).src (drawn z xs n).rest.length).1.toNat]], (pick (drawn z xs n).src (drawn z xs n).rest.length).2, (drawn z xs n).rest.eraseIdx (pick (drawn z xs n).src (drawn z xs n).rest.length).1.toNat⟩ := by
      rw [drawn, List.getElem?_eq_getElem hlt]
    rw [e]
    refine ⟨?_, by simp [h2], ?_⟩
    · show ((drawn z xs n).rest.eraseIdx _).length = _
      rw [List.length_eraseIdx_of_lt hlt]
      omega
    · refine List.Perm.trans ?_ h3
      show (((drawn z xs n).out ++ [_]) ++ (drawn z xs n).rest.eraseIdx _).Perm _
      rw [List.append_assoc]
      refine List.Perm.append_left _ ?_
      rw [List.eraseIdx_eq_take_drop_succ]
      have q : (drawn z xs n).rest = (drawn z xs n).rest.take (pick (drawn z xs n).src (drawn z xs n).rest.length).1.toNat ++ (drawn z xs n).rest[(pick (drawn z xs n).src (drawn z xs n).rest.length).1.toNat] :: (drawn z xs n).rest.drop ((pick (drawn z xs n).src (drawn z xs n).rest.length).1.toNat + 1) := by
        rw [List.getElem_cons_drop, List.take_append_drop]
      refine List.Perm.trans ?_ (List.Perm.of_eq q.symm)
      exact (List.perm_middle (l₁ := (drawn z xs n).rest.take _)).symm
/-- the n-th one -/
theorem drawn_step {α : Type} (z : Src) (xs : List α) (n : Nat) (h : n < xs.length) : ∃ (j : Nat) (x : α), 0 ≤ (pick (drawn z xs n).src (drawn z xs n).rest.length).1 ∧ (pick (drawn z xs n).src (drawn z xs n).rest.length).1 = j ∧ j < (drawn z xs n).rest.length ∧ (drawn z xs n).rest[j]? = some x ∧
    (drawn z xs (n + 1)).out = (drawn z xs n).out ++ [x] ∧ (drawn z xs (n + 1)).rest = (drawn z xs n).rest.eraseIdx j ∧ (drawn z xs (n + 1)).src = (pick (drawn z xs n).src (drawn z xs n).rest.length).2 := by
  obtain ⟨h1, h2, h3⟩ := drawn_rest z xs n (by omega)
  have lo := pick_low (drawn z xs n).src (m := ((drawn z xs n).rest.length : Int))
  have hi := pick_high (drawn z xs n).src (m := ((drawn z xs n).rest.length : Int)) (by omega)
  have hlt : (pick (drawn z xs n).src (drawn z xs n).rest.length).1.toNat < (drawn z xs n).rest.length := by omega
  have e : drawn z xs (n + 1) = ⟨(drawn z xs n).out ++ [(drawn z xs n).rest[(pick (drawn z xs n).src (drawn z xs n).rest.length).1.toNat]], (pick (drawn z xs n).src (drawn z xs n).rest.length).2, (drawn z xs n).rest.eraseIdx (pick (drawn z xs n).src (drawn z xs n).rest.length).1.toNat⟩ := by
    rw [drawn, List.getElem?_eq_getElem hlt]
  exact ⟨_, _, lo, (Int.toNat_of_nonneg lo).symm, hlt, List.getElem?_eq_getElem hlt, by rw [e], by rw [e], by rw [e]⟩
theorem drawn_perm {α : Type} (z : Src) (xs : List α) : (drawn z xs xs.length).out.Perm xs := by
  obtain ⟨h1, h2, h3⟩ := drawn_rest z xs xs.length (Nat.le_refl _)
  have e : (drawn z xs xs.length).rest = [] := List.length_eq_zero_iff.mp (by omega)
  rwa [e, List.append_nil] at h3
theorem ixN_of {n j : Nat} (h : j < n) : ixN n (j : Int) = some j := by
  unfold ixN
  first
  | simp [h]
  | (split <;> first | omega | (simp; omega))
end Sx

/-! Sx16: for, with a state that is only known to exist; numbers chosen by the source; how long rows of small numbers show. -/
namespace Sx
open PySem
open PySem.Spec
open PyProof.Rows
open L2
section
variable {K : PySem.W.Frag} {Fh H : Hp} {Γ Γ1 : Ctx K} {σ : L2.St} {T : List (Sl K)} {vs : List V} {δ : Type} [En δ] {D : Ends}
theorem do_forX {S : Type} {ok : Ctx K → Prop} {wi : TI} {g : TG} {tb : TS} {xs : List δ} {ls : List Nat} {Gx : List δ → δ → S → Ctx K} (G : List δ → S → Ctx K) (I : List δ → S → Prop) (s0 : S) (E : Env Fh Γ σ T vs H) (hi : EvW true Fh wi Γ Γ1 ok xs) (h0 : Le Γ1 (G [] s0)) (i0 : I [] s0)
    (hs : ∀ pre s, ok (G pre s)) (hg : ∀ pre y s, EvG Fh g (da y) (G pre s) (Gx pre y s) ls)
    (turn : ∀ pre y post s σ H t ws, xs = pre ++ y :: post → I pre s → Env Fh (Gx pre y s) σ (t :: T) ws H →
      tb { D with nx := fun σ' H' => ∃ s', I (pre ++ [y]) s' ∧ Env Fh (G (pre ++ [y]) s') σ' (t :: T) ws H', ct := fun σ' H' => ∃ s', I (pre ++ [y]) s' ∧ Env Fh (G (pre ++ [y]) s') σ' (t :: T) ws H', bk := D.nx } σ H)
    (done : ∀ s σ H, I xs s → Env Fh (G xs s) σ T vs H → D.nx σ H) : tFor wi g tb D σ H :=
  hi σ T vs H _ E fun J v H1 t P E1 hP W => by
    refine ⟨fun i m σ' H' => i + m = xs.length ∧ ∃ s, I (xs.take i) s ∧ Env Fh (G (xs.take i) s) σ' (t :: T) (v :: vs) H', ⟨xs.length, by simp, s0, by simpa using i0, by simpa using E1.weak h0⟩, ?_⟩
    rintro i m σ' H' ⟨hm, s, is, E2⟩
    have Pv : P H' := by
      obtain ⟨w, c, k1, _⟩ := id E2
      exact hP _ _ w H' _ (hs _ _) nofun c k1
    by_cases hlt : i < xs.length
    · have e : xs[i]? = some xs[i] := List.getElem?_eq_getElem hlt
      have ex : xs = xs.take i ++ xs[i] :: xs.drop (i + 1) := by
        rw [List.getElem_cons_drop, List.take_append_drop]
      have et : xs.take (i + 1) = xs.take i ++ [xs[i]] := by
        rw [List.take_add_one, e]; rfl
      refine .inr ⟨W.go H' i Pv hlt, fun σ3 H3 => ∃ s, I (xs.take (i + 1)) s ∧ Env Fh (G (xs.take (i + 1)) s) σ3 (t :: T) (v :: vs) H3, fun σ3 H3 E3 => ⟨m - 1, by omega, by omega, E3⟩, fun x H3 y => ?_⟩
      obtain ⟨sm, dx⟩ := W.yld H' i x H3 Pv y _ e
      refine hg (xs.take i) xs[i] s σ' (t :: T) (v :: vs) x H3 _ ((E2.grow sm).push0 dx) fun σ3 _ E3 => ?_
      have q := turn (xs.take i) xs[i] (xs.drop (i + 1)) s σ3 H3 t _ ex is E3
      rw [← et] at q
      exact q
    · have ei : i = xs.length := by omega
      subst ei
      refine .inl ⟨W.stop H' Pv, done s σ' H' ?_ ?_⟩
      · rw [List.take_length] at is; exact is
      · rw [List.take_length] at E2; exact E2.pop
theorem ev_cast {α : Type} [En α] {te : TE} {x y : α} (h : Ev (K := K) Fh te Γ Γ1 (fun _ => da x)) (e : x = y) : Ev Fh te Γ Γ1 (fun _ => da y) := by rw [← e]; exact h
/-- if, with one proof of what follows -/
theorem do_ifJ {S : Type} {c : TT} {t u : TS} {b : Bool} (G : S → Ctx K) (I : S → Prop) (E : Env Fh Γ σ T vs H) (hc : EvT Fh c Γ Γ1 b)
    (h1 : (∀ s σ' H', I s → Env Fh (G s) σ' T vs H' → D.nx σ' H') → b = true → ∀ H', Env Fh Γ1 σ T vs H' → t D σ H') (h2 : (∀ s σ' H', I s → Env Fh (G s) σ' T vs H' → D.nx σ' H') → b = false → ∀ H', Env Fh Γ1 σ T vs H' → u D σ H')
    (rest : ∀ s σ' H', I s → Env Fh (G s) σ' T vs H' → D.nx σ' H') : tIfS c t u D σ H := do_if E hc (h1 rest) (h2 rest)
end
/-- those of xs at which the source tells 0 -/
def chosen (m : Int) (z : Src) (xs : List Int) : List Int × Src := xs.foldl (fun s y => (if (pick s.2 m).1 = 0 then s.1 ++ [y] else s.1, (pick s.2 m).2)) ([], z)
theorem chosen_sub (m : Int) : ∀ (xs : List Int) (s : List Int × Src), ∃ ys, (xs.foldl (fun s y => (if (pick s.2 m).1 = 0 then s.1 ++ [y] else s.1, (pick s.2 m).2)) s).1 = s.1 ++ ys ∧ ys.Sublist xs
  | [], s => ⟨[], by simp, List.Sublist.refl _⟩
  | x :: xs, s => by
    obtain ⟨ys, e, h⟩ := chosen_sub m xs (if (pick s.2 m).1 = 0 then s.1 ++ [x] else s.1, (pick s.2 m).2)
    rw [List.foldl_cons, e]
    by_cases q : (pick s.2 m).1 = 0
    · refine ⟨x :: ys, ?_, h.cons₂ x⟩
      show (if (pick s.2 m).1 = 0 then s.1 ++ [x] else s.1) ++ ys = _
      rw [if_pos q]; simp
    · refine ⟨ys, ?_, h.cons x⟩
      show (if (pick s.2 m).1 = 0 then s.1 ++ [x] else s.1) ++ ys = _
      rw [if_neg q]
theorem chosen_le (m : Int) (z : Src) (xs : List Int) : (chosen m z xs).1.Sublist xs := by
  obtain ⟨ys, e, h⟩ := chosen_sub m xs ([], z)
  unfold chosen
  rw [e]
  exact h
theorem rng_mem : ∀ (n : Nat) (lo x : Int), x ∈ rng lo n → lo ≤ x ∧ x < lo + n
  | 0, _, _, h => absurd h (by simp [rng])
  | n + 1, lo, x, h => by
    rw [rng, List.mem_cons] at h
    rcases h with rfl | h
    · omega
    · have := rng_mem n (lo + 1) x h
      omega
theorem rng_asc : ∀ (n : Nat) (lo : Int), Bm.Asc (rng lo n)
  | 0, _ => List.Pairwise.nil
  | n + 1, lo => List.pairwise_cons.mpr ⟨fun x hx => by have := rng_mem n (lo + 1) x hx; omega, rng_asc n (lo + 1)⟩
theorem ok_sub {xs ys : List Int} (h : Bm.Ok xs) (s : ys.Sublist xs) : Bm.Ok ys := ⟨List.Pairwise.sublist s h.1, fun n hn => h.2 n (s.subset hn)⟩
theorem ok_rng {n : Nat} (h : n ≤ 12) : Bm.Ok (rng 0 n) := ⟨rng_asc n 0, fun x hx => Bm.mem12.mpr (by have := rng_mem n 0 x hx; omega)⟩
theorem cut_sub {γ : Type} (xs : List γ) (lo hi : Option Int) : (cut xs lo hi).Sublist xs := by
  unfold cut
  exact (List.take_sublist _ _).trans (List.drop_sublist _ _)
theorem ok_keys {xs : List Int} (h : ∀ n ∈ xs, n ∈ Bm.U12) : Bm.Ok (Bm.srtI (Bm.keys [] xs)) := ⟨Bm.srtI_asc (Bm.keys_nodup xs [] List.nodup_nil), fun n hn => h n (by
  have q := Bm.srtI_mem.mp hn
  rw [Bm.keys_mem] at q
  simpa using q)⟩
/-! ### shown -/
theorem shown12 {i : Int} (h : i ∈ Bm.U12) : (PyData.shown (toD i)).length ≤ 2 := by
  unfold Bm.U12 at h
  simp only [List.mem_cons, List.not_mem_nil, or_false] at h
  rcases h with rfl | rfl | rfl | rfl | rfl | rfl | rfl | rfl | rfl | rfl | rfl | rfl <;> (show (PyData.shown (.int _)).length ≤ 2; rw [PyData.shown]; decide +kernel)
theorem show12 {i : Int} (h : i ∈ Bm.U12) : PyData.showable (toD i) = true := by
  unfold Bm.U12 at h
  simp only [List.mem_cons, List.not_mem_nil, or_false] at h
  rcases h with rfl | rfl | rfl | rfl | rfl | rfl | rfl | rfl | rfl | rfl | rfl | rfl <;> (show PyData.showable (.int _) = true; rw [PyData.showable]; decide +kernel)
theorem show_row {b : List Int} (h : Bm.Ok b) : PyData.showable (toD b) = true := by
  show PyData.showable (.tuple (b.map toD)) = true
  rw [PyData.showable]
  exact showable_tup b fun i hi => show12 (h.2 i hi)
theorem shown_rows {B : List (List Int)} (h : ∀ b ∈ B, Bm.Ok b) (hl : B.length ≤ 10000) : (PyData.shown (toD B)).length ≤ sizeLine := by
  have q := shown_tup B 51 fun b hb => by
    have r := shown_tup b 2 fun i hi => shown12 ((h b hb).2 i hi)
    have := (h b hb).len
    have r2 : b.length * 4 ≤ 12 * 4 := Nat.mul_le_mul_right 4 this
    exact Nat.le_trans r (by omega)
  have r : B.length * 53 ≤ 10000 * 53 := Nat.mul_le_mul_right 53 hl
  exact Nat.le_trans q (Nat.le_trans (show _ ≤ 600000 by omega) (by decide))
section
variable {K : PySem.W.Frag} {Fh : Hp} {Γ Γ1 : Ctx K} {r : Rs K} {te : TE}
theorem ev_reprR {B : List (List Int)} (ha : Ev Fh te Γ Γ1 r) (sa : Seen Fh Γ1 r (toD B)) (h : ∀ b ∈ B, Bm.Ok b) (hl : B.length ≤ 10000) : Ev Fh (tCB (rRepr K) (tCons te tNil)) Γ Γ1 (fun _ => tx (PyData.shown (toD B))) :=
  ev_repr ha sa (fun b hb => show_row (h b hb)) (by decide) (shown_rows h hl)
end
end Sx

namespace K63
open PySem
open PySem.Spec
open PyProof.Rows
open L2
open Sx
def topS (i : Nat) : Stmt := PySem.Challenge.pw_seenorstruck_k63_least_bunches_that_meet.main.body.getD i (.Pass ⟨0, 0, 0, 0⟩)
abbrev st_more : Stmt := topS 1
theorem sc_more : FnScope ["bunch", "number"] ["bunch", "number"] (defScope st_more) := ⟨rfl, rfl, rfl, by decide +kernel, rfl, by decide +kernel, by decide +kernel⟩
abbrev st_is_bunch_part : Stmt := topS 2
theorem sc_is_bunch_part : FnScope ["one", "other", "number"] ["one", "other"] (defScope st_is_bunch_part) := ⟨rfl, rfl, rfl, by decide +kernel, rfl, by decide +kernel, by decide +kernel⟩
abbrev st_least_ones : Stmt := topS 3
theorem sc_least_ones : FnScope ["bunches", "found", "bunch", "one"] ["bunches"] (defScope st_least_ones) := ⟨rfl, rfl, rfl, by decide +kernel, rfl, by decide +kernel, by decide +kernel⟩
abbrev st_least_meeting : Stmt := topS 4
theorem sc_least_meeting : FnScope ["bunches", "found", "bunch", "late", "one", "number"] ["bunches"] (defScope st_least_meeting) := ⟨rfl, rfl, rfl, by decide +kernel, rfl, by decide +kernel, by decide +kernel⟩
abbrev st_law_open_cells : Stmt := topS 6
theorem sc_law_open_cells : FnScope ["script", "stirred", "cell", "cells"] ["script"] (defScope st_law_open_cells) := ⟨rfl, rfl, rfl, by decide +kernel, rfl, by decide +kernel, by decide +kernel⟩
abbrev st_law_pick : Stmt := topS 7
theorem sc_law_pick : FnScope ["source", "most", "cells", "others", "lap", "stirred"] ["source", "most"] (defScope st_law_pick) := ⟨rfl, rfl, rfl, by decide +kernel, rfl, by decide +kernel, by decide +kernel⟩
abbrev st_law_any_order : Stmt := topS 8
theorem sc_law_any_order : FnScope ["source", "things", "others", "lap"] ["source", "things"] (defScope st_law_any_order) := ⟨rfl, rfl, rfl, by decide +kernel, rfl, by decide +kernel, by decide +kernel⟩
abbrev st_law_within : Stmt := topS 9
theorem sc_law_within : FnScope ["one", "other", "number"] ["one", "other"] (defScope st_law_within) := ⟨rfl, rfl, rfl, by decide +kernel, rfl, by decide +kernel, by decide +kernel⟩
abbrev st_law_meets_all : Stmt := topS 10
theorem sc_law_meets_all : FnScope ["some", "bunches", "bunch", "number"] ["some", "bunches"] (defScope st_law_meets_all) := ⟨rfl, rfl, rfl, by decide +kernel, rfl, by decide +kernel, by decide +kernel⟩
abbrev st_law_meeting : Stmt := topS 11
theorem sc_law_meeting : FnScope ["bunches", "numbers", "found", "late", "bunch", "more_v", "some", "number", "one"] ["bunches"] (defScope st_law_meeting) := ⟨rfl, rfl, rfl, by decide +kernel, rfl, by decide +kernel, by decide +kernel⟩
abbrev st_law : Stmt := topS 12
theorem sc_law : FnScope ["script", "source", "lap", "many", "bunches", "turn", "some", "shown", "due", "least", "number", "one", "bunch", "other"] ["script"] (defScope st_law) := ⟨rfl, rfl, rfl, by decide +kernel, rfl, by decide +kernel, by decide +kernel⟩
section
variable {P : Program} {w : World} {K : PySem.W.Frag} {mg : Str → Option Value} {base : Heap}
/-! ### more, is_bunch_part -/
def sp_more (K : PySem.W.Frag) : Sp := spP K (fun x : List Int × Int => x.1.length ≤ 1000) (fun x => [toD x.1, toD x.2]) (fun x => da (Bm.addN x.1 x.2))
theorem ok_more {k : Nat} {f : Addr} {fd : FuncData} (F : Fun K "more" "more" st_more f fd) (m : Nn mg) : FnOk P w K mg base CX0 (k + 1) f fd ["bunch", "number"] (sp_more K) := by
  refine F.ok sc_more (fun vs H Q E h => ?_) (fun cdv A outer s H vs Q E hr h => ?_)
  · obtain ⟨x, _, hd, _⟩ := h
    exact hd.len
  · obtain ⟨⟨b, n⟩, hp, hd, o⟩ := h
    refine ⟨_, (pss_one (ps_ret (pe_ifExp (pt_cmpR (kx_notIn (K := K) (u65 hr)) (pv 1) (pv 0) (by rfl)) (pe_callTy (kx_tuple (K := K)) (by rfl) m.tuple (by decide +kernel) (pa_cons (pe_callB (kx_sort (K := K) (u80 hr) rfl) (by rfl) m.sorted (by decide +kernel) (pa_cons (pe_op (kx_add (K := K)) (pv 0) (pe_tup (pa_cons (pv 1) pa_nil))) pa_nil)) pa_nil)) (pv 0)))), ?_⟩
    have E0 : Env H [some (da b), some (da n)] (L2.start ["bunch", "number"] vs) [] [] H := enterN (.cons arg_da (.cons arg_da .nil)) hd
    have e : (if (!decide (n ∈ b)) = true then srtd (b ++ [n]) else b) = Bm.addN b n := by
      unfold Bm.addN
      rw [srtd_int]
      by_cases h : n ∈ b <;> simp [h]
    have o := o.da e
    refine do_ret E0 (ev_if (evt_t (ev_notIn (ev_da rfl) (ev_da rfl) seen_da seen_da (by decide))) (fun _ => ev_tupL (ev_sorted (ev_cat (ev_da rfl) (ev_tup (xs := [n]) (eva_cons (ev_da rfl) eva_nil) (seenA_cons seen_da seenA_nil) (Nat.le_trans (Nat.le_refl 1) (by decide))) seen_da seen_da ?_) (seenC_tup seen_da) (sortOk_int _)) seen_ol) fun _ => ev_da rfl) fun v H' E => E.fin o
    exact Nat.le_trans (Nat.add_le_add_right hp 1) (by decide)
def sp_is_bunch_part (K : PySem.W.Frag) : Sp := spP K (fun x : List Int × List Int => x.1.length ≤ 1000) (fun x => [toD x.1, toD x.2]) (fun x => da (Bm.part x.1 x.2))
theorem ok_is_bunch_part {k : Nat} {f : Addr} {fd : FuncData} (F : Fun K "is_bunch_part" "is_bunch_part" st_is_bunch_part f fd) (m : Nn mg) : FnOk P w K mg base CX0 (k + 1) f fd ["one", "other"] (sp_is_bunch_part K) := by
  refine F.ok sc_is_bunch_part (fun vs H Q E h => ?_) (fun cdv A outer s H vs Q E hr h => ?_)
  · obtain ⟨x, _, hd, _⟩ := h
    exact hd.len
  · obtain ⟨⟨a, b⟩, hp, hd, o⟩ := h
    refine ⟨_, (pss_one (ps_ret (pe_callB (kx_all (K := K) rfl) (by rfl) m.all (by decide +kernel) (pa_cons (pe_lc (own := [("number", 2)]) rfl sc_is_bunch_part.nd (kx_seq (K := K) (pv 0)) (blkOk_by (by kernel_rfl)) (fun _ _ _ _ _ => (pg_name (i := 2) sc_is_bunch_part.nd rfl (by first | exact Or.inl rfl | exact Or.inr rfl))) (fun _ _ _ _ _ => pts_nil) (fun _ _ _ _ _ => (pe_cmpR (kx_in (K := K) (u65 hr)) (pv 2) (pv 1) (by rfl)))) pa_nil)))), ?_⟩
    have E0 : Env H [some (da a), some (da b), none] (L2.start ["one", "other", "number"] vs) [] [] H := enterN (.cons arg_da (.cons arg_da .nil)) hd
    have e : ((a.map fun n => decide (n ∈ b)).all id) = Bm.part a b := by
      rw [List.all_map]; rfl
    have o := o.da e
    exact do_ret E0 (ev_all (ev_lcm (fun n => decide (n ∈ b)) (ws_tupD (ev_da rfl)) trivial rfl (Nat.le_trans hp (by decide)) fun y _ => ev_in (ev_da rfl) (ev_da rfl) seen_da seen_da (by decide)) seen_ol) fun v H' E => E.fin o
/-! ### _law_within, _law_meets_all -/
def sp_law_within (K : PySem.W.Frag) : Sp := spP K (fun x : List Int × List Int => x.1.length ≤ 1000) (fun x => [toD x.1, toD x.2]) (fun x => da (Bm.part x.1 x.2))
theorem ok_law_within {k : Nat} {f : Addr} {fd : FuncData} (F : Fun K "_law_within" "_law_within" st_law_within f fd) (m : Nn mg) : FnOk P w K mg base CX0 (k + 1) f fd ["one", "other"] (sp_law_within K) := by
  refine F.ok sc_law_within (fun vs H Q E h => ?_) (fun cdv A outer s H vs Q E hr h => ?_)
  · obtain ⟨x, _, hd, _⟩ := h
    exact hd.len
  · obtain ⟨⟨a, b⟩, hp, hd, o⟩ := h
    refine ⟨_, (pss_one (ps_ret (pe_cmpR (kx_eq (K := K) (u64 hr)) (pe_lc (own := [("number", 2)]) rfl sc_law_within.nd (kx_seq (K := K) (pv 0)) (blkOk_by (by kernel_rfl)) (fun _ _ _ _ _ => (pg_name (i := 2) sc_law_within.nd rfl (by first | exact Or.inl rfl | exact Or.inr rfl))) (fun _ _ _ _ _ => (pts_one (pt_cmpR (kx_notIn (K := K) (u65 hr)) (pv 2) (pv 1) (by rfl)))) (fun _ _ _ _ _ => (pv 2))) (pe_lst pa_nil) (nomark _)))), ?_⟩
    have E0 : Env H [some (da a), some (da b), none] (L2.start ["one", "other", "number"] vs) [] [] H := enterN (.cons arg_da (.cons arg_da .nil)) hd
    have e : decide ((a.filter fun n => !decide (n ∈ b)) = []) = Bm.part a b := by
      rw [Bool.eq_iff_iff, decide_eq_true_eq, Bm.part_iff, List.filter_eq_nil_iff]
      simp [Bm.Sub]
    have o := o.da e
    exact do_ret E0 (ev_eqL (ev_lcf (fun n => !decide (n ∈ b)) (ws_tupD (ev_da rfl)) trivial rfl (Nat.le_trans hp (by decide)) fun y _ => evt_t (ev_notIn (ev_da rfl) (ev_da rfl) seen_da seen_da (by decide))) (ev_lst (xs := []) eva_nil seenA_nil (by decide)) seen_ol seen_ol (by decide)) fun v H' E => E.fin o
def sp_law_meets_all (K : PySem.W.Frag) : Sp := spP K (fun x : List Int × List (List Int) => x.2.length ≤ 10000 ∧ ∀ b ∈ x.2, b.length ≤ 1000) (fun x => [toD x.1, toD x.2]) (fun x => da (Bm.hits x.1 x.2))
theorem ok_law_meets_all {k : Nat} {f : Addr} {fd : FuncData} (F : Fun K "_law_meets_all" "_law_meets_all" st_law_meets_all f fd) (m : Nn mg) : FnOk P w K mg base CX0 (k + 1) f fd ["some", "bunches"] (sp_law_meets_all K) := by
  refine F.ok sc_law_meets_all (fun vs H Q E h => ?_) (fun cdv A outer s H vs Q E hr h => ?_)
  · obtain ⟨x, _, hd, _⟩ := h
    exact hd.len
  · obtain ⟨⟨s, B⟩, ⟨hp, hp2⟩, hd, o⟩ := h
    refine ⟨_, (pss_one (ps_ret (pe_cmpR (kx_eq (K := K) (u64 hr)) (pe_lc (own := [("bunch", 2)]) rfl sc_law_meets_all.nd (kx_seq (K := K) (pv 1)) (blkOk_by (by kernel_rfl)) (fun _ _ _ _ _ => (pg_name (i := 2) sc_law_meets_all.nd rfl (by first | exact Or.inl rfl | exact Or.inr rfl))) (fun _ _ _ _ _ => (pts_one (pt_cmpR (kx_eq (K := K) (u64 hr)) (pe_lc (own := [("number", 3)]) rfl sc_law_meets_all.nd (kx_seq (K := K) (pv 2)) (blkOk_by (by kernel_rfl)) (fun _ _ _ _ _ => (pg_name (i := 3) sc_law_meets_all.nd rfl (by first | exact Or.inl rfl | exact Or.inr rfl))) (fun _ _ _ _ _ => (pts_one (pt_cmpR (kx_in (K := K) (u65 hr)) (pv 3) (pv 0) (by rfl)))) (fun _ _ _ _ _ => (pv 3))) (pe_lst pa_nil) (nomark _)))) (fun _ _ _ _ _ => (pv 2))) (pe_lst pa_nil) (nomark _)))), ?_⟩
    have E0 : Env H [some (da s), some (da B), none, none] (L2.start ["some", "bunches", "bunch", "number"] vs) [] [] H := enterN (.cons arg_da (.cons arg_da .nil)) hd
    have e : decide ((B.filter fun b => decide ((b.filter fun n => decide (n ∈ s)) = [])) = []) = Bm.hits s B := by
      rw [Bool.eq_iff_iff, decide_eq_true_eq, Bm.hits_iff, List.filter_eq_nil_iff]
      constructor
      · intro h b hb
        have q := h b hb
        rw [decide_eq_true_eq, List.filter_eq_nil_iff] at q
        obtain ⟨n, q⟩ := Classical.not_forall.mp q
        obtain ⟨h1, h2⟩ := Classical.not_imp.mp q
        exact ⟨n, h1, by simpa using h2⟩
      · intro h b hb
        obtain ⟨n, h1, h2⟩ := h b hb
        rw [decide_eq_true_eq, List.filter_eq_nil_iff]
        exact fun z => z n h1 (decide_eq_true h2)
    have o := o.da e
    exact do_ret E0 (ev_eqL (ev_lcf (fun b => decide ((b.filter fun n => decide (n ∈ s)) = [])) (ws_tupD (ev_da rfl)) trivial rfl (Nat.le_trans hp (by decide)) fun b hb => evt_t (ev_eqL (ev_lcf (fun n => decide (n ∈ s)) (ws_tupD (ev_da rfl)) trivial rfl (Nat.le_trans (hp2 b hb) (by decide)) fun y _ => evt_t (ev_in (ev_da rfl) (ev_da rfl) seen_da seen_da (by decide))) (ev_lst (xs := []) eva_nil seenA_nil (by decide)) seen_ol seen_ol (by decide))) (ev_lst (xs := []) eva_nil seenA_nil (by decide)) seen_ol seen_ol (by decide)) fun v H' E => E.fin o
end
end K63

namespace K63
open PySem
open PySem.Spec
open PyProof.Rows
open L2
open Sx
section
variable {P : Program} {w : World} {K : PySem.W.Frag} {mg : Str → Option Value} {base : Heap}
/-! ### the law's source -/
def sp_law_open_cells (K : PySem.W.Frag) : Sp := spP K (fun ns : List Int => ns.length ≤ 10000) (fun ns => [lsD ns]) (fun ns => srcO (openCells ns))
theorem ok_law_open_cells {k : Nat} {f : Addr} {fd : FuncData} (F : Fun K "_law_open_cells" "_law_open_cells" st_law_open_cells f fd) (m : Nn mg) : FnOk P w K mg base CX0 (k + 1) f fd ["script"] (sp_law_open_cells K) := by
  refine F.ok sc_law_open_cells (fun vs H Q E h => ?_) (fun cdv A outer s H vs Q E hr h => ?_)
  · obtain ⟨x, _, hd, _⟩ := h
    exact hd.len
  · obtain ⟨ns, hp, hd, o⟩ := h
    refine ⟨_, (pss_cons (ps_set (i := 1) sc_law_open_cells.nd rfl (Or.inl rfl) pe_int)
      (pss_cons (ps_for PassesOwn.never rfl (kx_seq (K := K) (pv 0)) (pg_name (i := 2) sc_law_open_cells.nd rfl (Or.inl rfl)) (pss_one (ps_set (i := 1) sc_law_open_cells.nd rfl (Or.inl rfl) (pe_op op_mod (pe_callTy call_int1 (by rfl) m.int (by decide +kernel) (pa_cons (pe_op (kx_add (K := K)) (pe_op (kx_add (K := K)) (pe_op op_mul (pv 1) pe_int) (pe_op op_mul (pv 2) pe_int)) pe_int) pa_nil)) pe_int))))
      (pss_cons (ps_setLc (i := 3) (own := [("cell", 2)]) rfl sc_law_open_cells.nd rfl rfl (sw_true rfl rfl rfl (by decide +kernel)) (kx_seq (K := K) (pv 0)) (blkOk_by (by kernel_rfl)) (fun _ _ _ _ _ => (pg_name (i := 2) sc_law_open_cells.nd rfl (by first | exact Or.inl rfl | exact Or.inr rfl))) (fun _ _ _ _ _ => pts_nil) (fun _ _ _ _ _ => (pe_callB call_abs (by rfl) m.abs (by decide +kernel) (pa_cons (pv 2) pa_nil))))
      (pss_one (ps_ret (pe_disp (pps_cons pe_str (kx_rev (K := K) (pv 3)) (pps_cons pe_str pe_int (pps_cons pe_str (pv 1) (pps_cons pe_str pe_int pps_nil)))) rfl rfl (by simp) (by decide))))))), ?_⟩
    have E0 : Env H [some (bo H (lsD ns)), none, none, none] (L2.start ["script", "stirred", "cell", "cells"] vs) [] [] H := enterN (.cons arg_bo .nil) hd
    refine do_set E0 ev_int (lt_ rfl) fun σ1 H1 E1 => ?_
    refine do_for (Gx := fun pre x => [some (bo H (lsD ns)), some (da (stir 11 pre)), some (da x), none]) (fun pre => [some (bo H (lsD ns)), some (da (stir 11 pre)), none, none]) E1 (ws_listB (ev_bo rfl)) (Le.refl _) (fun _ => trivial) (fun pre x => eg_name (i := 2) (lt_ rfl)) (fun pre x post σ2 H2 s ws ex E2 => ?_) fun σ3 H3 E3 => ?_
    · refine do_set E2 (ev_mod (ev_int1 (ev_addI (ev_addI (ev_mul (ev_da rfl) ev_int (mul_r (by decide) (by decide))) (ev_mul (ev_da rfl) ev_int (mul_r (by decide) (by decide)))) ev_int)) ev_int (by decide)) (lt_ rfl) fun σ3 H3 E3 => ?_
      rw [← stir_snoc] at E3
      exact E3.weak (.keep (.keep (.drop (.keep .nil))))
    · refine do_set E3 (ev_lcm absI (ws_listB (ev_bo rfl)) trivial rfl (Nat.le_trans hp (by decide)) fun n _ => ev_abs (ev_da rfl)) (lt_ rfl) fun σ4 H4 E4 => ?_
      refine do_ret E4 (ev_srcNew (fun Δ e => by subst e; exact ev_rvL (ev_al rfl) (seen_al rfl seen_ol)) ev_int (ev_da rfl) ev_int) fun v H' E => E.fin ?_
      rw [List.reverse_reverse]
      exact o
def sp_law_pick (K : PySem.W.Frag) : Sp := spS K (fun x : Src × Int => x.2 < 2 ^ 60) (·.1) (fun x => (pick x.1 x.2).2) (fun x => [toD x.2]) (fun x => da (pick x.1 x.2).1)
theorem ok_law_pick {k : Nat} {f : Addr} {fd : FuncData} (F : Fun K "_law_pick" "_law_pick" st_law_pick f fd) (m : Nn mg) : FnOk P w K mg base CX0 (k + 1) f fd ["source", "most"] (sp_law_pick K) := by
  refine F.ok sc_law_pick (fun vs H Q E h => ?_) (fun cdv A outer s H vs Q E hr h => ?_)
  · obtain ⟨x, a, c, ws, _, rfl, _, hd, _⟩ := h
    exact congrArg Nat.succ hd.len
  · obtain ⟨⟨z, n⟩, a, c, ws, hp, rfl, hz, hd, o⟩ := h
    have hp : n < 2 ^ 60 := hp
    refine ⟨_, (pss_cons (ps_if (pt_cmpR op_lt (pv 1) pe_int (nomark _)) (pss_one (ps_ret pe_int)) pss_nil)
      (pss_cons (ps_set (i := 2) sc_law_pick.nd rfl (Or.inl rfl) (pe_dget (hu_of hr) (pv 0) pe_str (fun _ _ => rfl)))
      (pss_cons (ps_while PassesOwn.never (PW.pt (pw_and (pt_cmpR op_lt (pe_dget (hu_of hr) (pv 0) pe_str (fun _ _ => rfl)) pe_int (nomark _)) (pw_and1 (pt_cmpR op_gt (pe_callB (kx_len (K := K)) (by rfl) m.len (by decide +kernel) (pa_cons (pv 2) pa_nil)) pe_int (nomark _))))) (pss_one (ps_dput (hu_of hr) (pv 0) pe_str (kx_bm0 (K := K) PySem.F.plainAttrs_list PySem.F.slot_list_pop PySem.F.type_list_pop mt_pop (pv 2)) rfl)))
      (pss_cons (ps_set (i := 3) sc_law_pick.nd rfl (Or.inl rfl) (pe_dget (hu_of hr) (pv 0) pe_str (fun _ _ => rfl)))
      (pss_cons (ps_if (pt_cmpR op_gt (pv 3) pe_int (nomark _)) (pss_cons (ps_dput (hu_of hr) (pv 0) pe_str (pe_op op_fdivW (pv 3) (pv 1)) rfl)
      (pss_one (ps_ret (pe_op op_mod (pe_callTy call_int1 (by rfl) m.int (by decide +kernel) (pa_cons (pv 3) pa_nil)) (pv 1))))) pss_nil)
      (pss_cons (ps_dput (hu_of hr) (pv 0) pe_str (pe_op (kx_add (K := K)) (pe_dget (hu_of hr) (pv 0) pe_str (fun _ _ => rfl)) pe_int) rfl)
      (pss_cons (ps_set (i := 4) sc_law_pick.nd rfl (Or.inl rfl) (pe_dget (hu_of hr) (pv 0) pe_str (fun _ _ => rfl)))
      (pss_cons (ps_set (i := 5) sc_law_pick.nd rfl (Or.inl rfl) (pe_op op_mod (pe_callTy call_int1 (by rfl) m.int (by decide +kernel) (pa_cons (pe_op (kx_add (K := K)) (pe_dget (hu_of hr) (pv 0) pe_str (fun _ _ => rfl)) (pe_op op_mul (pv 4) pe_int)) pa_nil)) pe_int))
      (pss_cons (ps_set (i := 5) sc_law_pick.nd rfl (Or.inl rfl) (pe_op op_mod (pe_callTy call_int1 (by rfl) m.int (by decide +kernel) (pa_cons (pe_op (kx_add (K := K)) (pe_op op_mul (pv 5) (pv 5)) (pe_op op_mul (pv 4) pe_int)) pa_nil)) pe_int))
      (pss_one (ps_ret (pe_op op_mod (pe_callTy call_int1 (by rfl) m.int (by decide +kernel) (pa_cons (pe_op op_fdivW (pv 5) pe_int) pa_nil)) (pv 1))))))))))))), ?_⟩
    have el : ws.length = 1 := hd.len
    have E0 : Env (K := K) (without H a c) [some (srcA a c z), some (da n), none, none, none, none] (L2.start ["source", "most", "cells", "others", "lap", "stirred"] (.ref a :: ws)) [] [] H := by
      have q := enterS (K := K) (N := ["source", "most", "cells", "others", "lap", "stirred"]) hz (.cons arg_da .nil) hd
      rw [el] at q
      exact q
    refine do_if E0 (evt_t (ev_lt (ev_da rfl) ev_int)) (fun hb H1 E1 => ?_) fun hb H1 E1 => ?_
    · have e : pick z n = (0, z) := if_pos (of_decide_eq_true hb)
      have o : ∀ v H' S, Same (without H a c) H' → SrcAt H' a c (pick z n).2 → Fresh H H' S → (da (K := K) (pick z n).1).p H' S v → Q v H' := o
      rw [e] at o
      exact do_ret E1 ev_int fun v H' E => E.finS rfl o
    · have e : pick z n = pick0 (refillS z) n := if_neg (of_decide_eq_false hb)
      have hn : ¬ n < 2 := of_decide_eq_false hb
      have o : ∀ v H' S, Same (without H a c) H' → SrcAt H' a c (pick z n).2 → Fresh H H' S → (da (K := K) (pick z n).1).p H' S v → Q v H' := o
      rw [e] at o
      refine do_set E1 (ev_scells rfl) (lt_ rfl) fun σ2 H2 E2 => ?_
      refine do_while (S := Src) (Gc := fun s => [some (srcA a c s), some (da n), some (rf c), none, none, none]) (b := fun s => decide (s.left < 2) && decide ((0 : Int) < s.cells.reverse.length)) (fun s => [some (srcA a c s), some (da n), some (rf c), none, none, none]) (fun s => refillS s = refillS z) (fun s => s.cells.length) z E2 rfl (fun s is => ?_) (fun s σ3 H3 is hb E3 => ?_) fun s σ3 H3 is hb E3 => ?_
      · exact evt_and' (evt_t (ev_lt (ev_sget rfl v_left) ev_int)) fun _ => evt_t (ev_gt (ev_lenL (ev_var rfl dup_rf) (seen_srf (i := 0) rfl)) ev_int)
      · rw [Bool.and_eq_true, decide_eq_true_eq, decide_eq_true_eq] at hb
        cases ec : s.cells with
        | nil =>
          have q := hb.2
          rw [ec] at q
          exact absurd q (by decide)
        | cons x r =>
          refine do_sput E3 (ev_spop (i := 0) rfl rfl ec) rfl p_left rfl fun H' E4 => ⟨_, ?_, ?_, E4⟩
          · exact (refillS_on ec hb.1).trans is
          · show r.length < _
            rw [List.length_cons]
            exact Nat.lt_succ_self _
      · have es : s = refillS z := by
          rw [← is]
          refine (refillS_off fun ⟨h1, h2⟩ => ?_).symm
          rw [Bool.and_eq_false_iff, decide_eq_false_iff_not, decide_eq_false_iff_not] at hb
          rcases hb with q | q
          · exact q h1
          · cases ec : s.cells with
            | nil => exact h2 ec
            | cons x r =>
              rw [ec, List.length_reverse, List.length_cons] at q
              omega
        rw [← es] at o
        refine do_set E3 (ev_sget rfl v_left) (lt_ rfl) fun σ4 H4 E4 => ?_
        refine do_if E4 (evt_t (ev_gt (ev_da rfl) ev_int)) (fun hc H5 E5 => ?_) fun hc H5 E5 => ?_
        · have e2 : pick0 s n = (s.left % n, { s with left := s.left / n }) := if_pos (of_decide_eq_true hc)
          rw [e2] at o
          refine do_sput E5 (ev_fdiv (ev_da rfl) (ev_da rfl) (div_r (by omega) hp)) rfl p_left rfl fun H6 E6 => ?_
          exact do_ret E6 (ev_mod (ev_int1 (ev_da rfl)) (ev_da rfl) (by omega)) fun v H' E => E.finS rfl o
        · have e2 : pick0 s n = (mix2 s / 16 % n, { s with turn := s.turn + 1 }) := if_neg (of_decide_eq_false hc)
          rw [e2] at o
          refine do_sput E5 (ev_addI (ev_sget rfl v_turn) ev_int) rfl p_turn rfl fun H6 E6 => ?_
          refine do_set E6 (ev_sget rfl v_turn) (lt_ rfl) fun σ7 H7 E7 => ?_
          refine do_set E7 (ev_mod (ev_int1 (ev_addI (ev_sget rfl v_mixed) (ev_mul (ev_da rfl) ev_int (mul_r (by decide) (by decide))))) ev_int (by decide)) (lt_ rfl) fun σ8 H8 E8 => ?_
          refine do_set E8 (ev_mod (ev_int1 (ev_addI (ev_mul (ev_da rfl) (ev_da rfl) (.inl ?_)) (ev_mul (ev_da rfl) ev_int (mul_r (by decide) (by decide))))) ev_int (by decide)) (lt_ rfl) fun σ9 H9 E9 => ?_
          · have q := mix1_r s
            unfold mix1 at q
            exact ⟨by show -(2 ^ 64) < (s.mixed + (s.turn + 1) * 104729) % 998244353; omega, by show (s.mixed + (s.turn + 1) * 104729) % 998244353 < 2 ^ 64; omega⟩
          · exact do_ret E9 (ev_mod (ev_int1 (ev_fdiv (ev_da rfl) ev_int (div_r (by decide) (by decide)))) (ev_da rfl) (by omega)) fun v H' E => E.finS rfl o
end
end K63

namespace K63
open PySem
open PySem.Spec
open PyProof.Rows
open L2
open Sx
section
variable {P : Program} {w : World} {K : PySem.W.Frag} {mg : Str → Option Value} {base : Heap}
def sp_law_any_order (α : Type) [En α] (K : PySem.W.Frag) : Sp := spS K (fun x : Src × List α => x.2.length ≤ 10000) (·.1) (fun x => (drawn x.1 x.2 x.2.length).src) (fun x => [lsD x.2]) (fun x => ol (drawn x.1 x.2 x.2.length).out)
theorem ok_law_any_order {α : Type} [En α] {k : Nat} {f g : Addr} {fd gd : FuncData} (F : Fun K "_law_any_order" "_law_any_order" st_law_any_order f fd) (m : Nn mg) (F_law_pick : Fun K "_law_pick" "_law_pick" st_law_pick g gd) (b_law_pick : Binds K gd ["source", "most"] []) (g_law_pick : mg "_law_pick" = some (.ref g)) :
    FnOk P w K mg base CX0 (k + 2) f fd ["source", "things"] (sp_law_any_order α K) := by
  have G_law_pick : FnOk P w K mg base CX0 (k + 1) g gd ["source", "most"] (sp_law_pick K) := ok_law_pick F_law_pick m
  refine F.ok sc_law_any_order (fun vs H Q E h => ?_) (fun cdv A outer s H vs Q E hr h => ?_)
  · obtain ⟨x, a, c, ws, _, rfl, _, hd, _⟩ := h
    exact congrArg Nat.succ hd.len
  · obtain ⟨⟨z, xs⟩, a, c, ws, hp, rfl, hz, hd, o⟩ := h
    have hp : xs.length ≤ 10000 := hp
    refine ⟨_, (pss_cons (ps_set (i := 2) sc_law_any_order.nd rfl (Or.inr rfl) (pe_callTy (kx_list (K := K)) (by rfl) m.list (by decide +kernel) (pa_cons (pv 1) pa_nil)))
      (pss_one (ps_ret (pe_lc (own := [("lap", 3)]) rfl sc_law_any_order.nd (pi_range1 (by rfl) m.range (pa_cons (pe_callB (kx_len (K := K)) (by rfl) m.len (by decide +kernel) (pa_cons (pv 2) pa_nil)) pa_nil)) (blkOk_by (by kernel_rfl)) (fun _ _ _ _ _ => (pg_name (i := 3) sc_law_any_order.nd rfl (by first | exact Or.inl rfl | exact Or.inr rfl))) (fun _ _ _ _ _ => pts_nil) (fun _ _ _ _ _ => (kx_bm (K := K) PySem.F.plainAttrs_list PySem.F.slot_list_pop PySem.F.type_list_pop mt_popAt (pv 2) (pa_cons (pe_call G_law_pick (hr.mono (by omega)) (by rfl) g_law_pick F_law_pick.kp b_law_pick .nil pass0 (pa_cons (pv 0) (pa_cons (pe_callB (kx_len (K := K)) (by rfl) m.len (by decide +kernel) (pa_cons (pv 2) pa_nil)) pa_nil))) pa_nil))))))), ?_⟩
    have el : ws.length = 1 := hd.len
    have E0 : Env (K := K) (without H a c) [some (srcA a c z), some (bo (without H a c) (lsD xs)), none, none] (L2.start ["source", "things", "others", "lap"] (.ref a :: ws)) [] [] H := by
      have q := enterS (K := K) (N := ["source", "things", "others", "lap"]) hz (.cons arg_bo .nil) hd
      rw [el] at q
      exact q
    refine do_set E0 (ev_listL (ev_bo rfl) seen_bo) (lt_ rfl) fun σ1 H1 E1 => ?_
    have el2 : (rng 0 (xs.length : Int).toNat).length = xs.length := by rw [rng_len]; omega
    refine do_ret E1 (ev_lc (δ := Int) (α := α) (Gx := fun pre y => [some (srcA a c (drawn z xs pre.length).src), some (bo (without H a c) (lsD xs)), some (ol (drawn z xs pre.length).rest), some (da y)]) (Gt := fun pre y => [some (srcA a c (drawn z xs pre.length).src), some (bo (without H a c) (lsD xs)), some (ol (drawn z xs pre.length).rest), some (da y)]) (b := fun _ _ => true)
      (fun pre => [some (srcA a c (drawn z xs pre.length).src), some (bo (without H a c) (lsD xs)), some (ol (drawn z xs pre.length).rest), none]) (fun pre => (drawn z xs pre.length).out)
      (ew_rng1 (ev_lenL (ev_al rfl) (seen_al rfl seen_ol)) (by omega) (by omega)) (Le.refl _) (fun _ => trivial) (fun pre j hj s e => ?_) (fun pre y => eg_name (lt_ rfl)) rfl (by rw [el2]; exact Nat.le_trans hp (by decide)) (fun pre y post e => evt_yes) (fun pre y post e hb => ?_) (fun pre y post e hb => nomatch hb)) fun v H' E => ?_
    · have ej : j = 3 := by simpa using hj
      subst ej
      exact nomatch e
    · have hl : pre.length < xs.length := by
        have q := congrArg List.length e
        rw [el2, List.length_append, List.length_cons] at q
        omega
      obtain ⟨j, x, lo, hj, hlt, hx, e1, e2, e3⟩ := drawn_step z xs pre.length hl
      have hm : ((drawn z xs pre.length).rest.length : Int) < 2 ^ 60 := by
        have := (drawn_rest z xs pre.length (by omega)).1
        omega
      have q1 := ev_lenL (K := K) (Fh := without H a c) (Γ := [some (srcA a c (drawn z xs pre.length).src), some (bo (without H a c) (lsD xs)), some (ol (drawn z xs pre.length).rest), some (da y)]) (ev_al (i := 2) rfl) (seen_al rfl seen_ol)
      have q2 := ev_callS (E0 := L2.E0) (pre := fun x : Src × Int => x.2 < 2 ^ 60) (z0 := (·.1)) (z1 := fun x => (pick x.1 x.2).2) (ins := fun x => [toD x.2]) (res := fun x => da (pick x.1 x.2).1) ((drawn z xs pre.length).src, ((drawn z xs pre.length).rest.length : Int)) (i := 0) rfl (eva_cons q1 eva_nil) rfl (seenA_cons seen_da seenA_nil) hm
      have q3 := ev_popAt (n := (pick (drawn z xs pre.length).src (drawn z xs pre.length).rest.length).1) (j := j) (z := x) (i := 2) q2 rfl rfl (by omega) (by have := (drawn_rest z xs pre.length (by omega)).1; omega) (by rw [hj]; exact ixN_of hlt) hx
      refine ⟨x, _, q3, ?_, ?_⟩
      · rw [List.length_append, List.length_singleton, e2, e3]
        exact .keep (.keep (.keep (.drop .nil)))
      · rw [List.length_append, List.length_singleton, e1]
    · rw [el2] at E
      exact E.finS rfl o
/-! ### least_ones, least_meeting -/
def sp_least_ones (K : PySem.W.Frag) : Sp := spP K (fun l : List (List Int) => l.length ≤ 100000 ∧ ∀ s ∈ l, Bm.Ok s) (fun l => [lsD l]) (fun l => ol (Bm.leastOnes l))
theorem ok_least_ones {k : Nat} {f g : Addr} {fd gd : FuncData} (F : Fun K "least_ones" "least_ones" st_least_ones f fd) (m : Nn mg) (F_is_bunch_part : Fun K "is_bunch_part" "is_bunch_part" st_is_bunch_part g gd) (b_is_bunch_part : Binds K gd ["one", "other"] []) (g_is_bunch_part : mg "is_bunch_part" = some (.ref g)) :
    FnOk P w K mg base CX0 (k + 2) f fd ["bunches"] (sp_least_ones K) := by
  have G_is_bunch_part : FnOk P w K mg base CX0 (k + 1) g gd ["one", "other"] (sp_is_bunch_part K) := ok_is_bunch_part F_is_bunch_part m
  refine F.ok sc_least_ones (fun vs H Q E h => ?_) (fun cdv A outer s H vs Q E hr h => ?_)
  · obtain ⟨x, _, hd, _⟩ := h
    exact hd.len
  · obtain ⟨l, ⟨hp, hok⟩, hd, o⟩ := h
    refine ⟨_, (pss_cons (ps_set (i := 1) sc_least_ones.nd rfl (Or.inl rfl) (pe_lst pa_nil))
      (pss_cons (ps_for PassesOwn.never rfl (kx_seq (K := K) (kx_sortLen (K := K) (u80 hr) rfl (pa_cons (pe_callTy (kx_dictT (K := K) (u10 hr) rfl) (by rfl) m.dict (by decide +kernel) (pa_cons (pe_lc (own := [("bunch", 2)]) rfl sc_least_ones.nd (kx_seq (K := K) (pv 0)) (blkOk_by (by kernel_rfl)) (fun _ _ _ _ _ => (pg_name (i := 2) sc_least_ones.nd rfl (by first | exact Or.inl rfl | exact Or.inr rfl))) (fun _ _ _ _ _ => pts_nil) (fun _ _ _ _ _ => (pe_tup (pa_cons (pv 2) (pa_cons (pe_callB (kx_len (K := K)) (by rfl) m.len (by decide +kernel) (pa_cons (pv 2) pa_nil)) pa_nil))))) pa_nil)) pa_nil) (by rfl) m.sorted (by rfl) m.len)) (pg_name (i := 2) sc_least_ones.nd rfl (Or.inr rfl)) (pss_one (ps_if (pt_not (pt_val (pe_callB (kx_any (K := K) rfl) (by rfl) m.any (by decide +kernel) (pa_cons (pe_lc (own := [("one", 3)]) rfl sc_least_ones.nd (kx_seq (K := K) (pv 1)) (blkOk_by (by kernel_rfl)) (fun _ _ _ _ _ => (pg_name (i := 3) sc_least_ones.nd rfl (by first | exact Or.inl rfl | exact Or.inr rfl))) (fun _ _ _ _ _ => pts_nil) (fun _ _ _ _ _ => (pe_call G_is_bunch_part (hr.mono (by omega)) (by rfl) g_is_bunch_part F_is_bunch_part.kp b_is_bunch_part .nil pass0 (pa_cons (pv 3) (pa_cons (pv 2) pa_nil))))) pa_nil)))) (pss_one (ps_expr (kx_bm (K := K) PySem.F.plainAttrs_list PySem.F.slot_list_append PySem.F.type_list_append mt_append (pv 1) (pa_cons (pv 2) pa_nil)))) pss_nil)))
      (pss_one (ps_ret (pe_callB (kx_sort (K := K) (u80 hr) rfl) (by rfl) m.sorted (by decide +kernel) (pa_cons (pv 1) pa_nil)))))), ?_⟩
    have E0 : Env H [some (bo H (lsD l)), none, none, none] (L2.start ["bunches", "found", "bunch", "one"] vs) [] [] H := enterN (.cons arg_bo .nil) hd
    refine do_set E0 (ev_lst (xs := ([] : List (List Int))) eva_nil seenA_nil (Nat.zero_le _)) (lt_ rfl) fun σ1 H1 E1 => ?_
    have hA : ∀ s ∈ l, Bm.Asc s := fun s hs => (hok s hs).1
    have kl := Bm.keys_len l []
    have fl : ∀ (xs : List (List Int)) (acc : List (List Int)), (xs.foldl Bm.keepStep acc).length ≤ acc.length + xs.length := by
      intro xs
      induction xs with
      | nil => intro acc; exact Nat.le_refl _
      | cons x xs ih =>
        intro acc
        have q := ih (Bm.keepStep acc x)
        have r : (Bm.keepStep acc x).length ≤ acc.length + 1 := by
          unfold Bm.keepStep
          split
          · omega
          · rw [List.length_append]; exact Nat.le_refl _
        rw [List.foldl_cons, List.length_cons]
        omega
    have q := ev_sortLen (K := K) (Fh := H) (Γ := [some (bo H (lsD l)), some (ol ([] : List (List Int))), none, none]) (ev_dictL (ev_lcm (i := 2) (fun b : List Int => (b, (b.length : Int))) (ws_listB (ev_bo (i := 0) rfl)) trivial rfl (Nat.le_trans hp (by decide)) fun b _ => ev_tup2 (ev_da (i := 2) rfl) (ev_lenT (ev_da (i := 2) rfl) seen_da)) seen_ol) seenC_dL
    rw [dict_keys] at q
    refine do_for (Gx := fun pre y => [some (bo H (lsD l)), some (ol (pre.foldl Bm.keepStep [])), some (da y), none]) (fun pre => [some (bo H (lsD l)), some (ol (pre.foldl Bm.keepStep [])), none, none]) E1 (ws_listO q) (Le.refl _) (fun _ => trivial) (fun pre x => eg_name (i := 2) (lt_ rfl)) (fun pre y post σ2 H2 s ws ex E2 => ?_) fun σ3 H3 E3 => ?_
    · have hy : ∀ t ∈ pre ++ y :: post, t ∈ l := fun t ht => by
        rw [← ex] at ht
        have := List.mem_mergeSort.mp ht
        rw [Bm.keys_mem] at this
        simpa using this
      have ln : pre.length ≤ 100000 := by
        have q := congrArg List.length ex
        rw [List.length_mergeSort, List.length_append, List.length_cons] at q
        simp at kl
        omega
      have fm : ∀ t ∈ pre.foldl Bm.keepStep [], t ∈ pre := by
        have gen : ∀ (xs acc : List (List Int)) (t : List Int), t ∈ xs.foldl Bm.keepStep acc → t ∈ acc ∨ t ∈ xs := by
          intro xs
          induction xs with
          | nil => intro acc t h; exact .inl h
          | cons x xs ih =>
            intro acc t h
            rcases ih _ t h with z | z
            · unfold Bm.keepStep at z
              split at z
              · exact .inl z
              · rw [List.mem_append, List.mem_singleton] at z
                rcases z with z | rfl
                · exact .inl z
                · exact .inr (by simp)
            · exact .inr (by simp [z])
        intro t ht
        rcases gen pre [] t ht with z | z
        · exact absurd z (by simp)
        · exact z
      have fl2 := fl pre []
      simp only [List.length_nil, Nat.zero_add] at fl2
      have test := evt_not (evt_b (ev_any (K := K) (Fh := H) (ev_lcm (Γ1 := [some (bo H (lsD l)), some (ol (pre.foldl Bm.keepStep [])), some (da y), none]) (i := 3) (fun one => Bm.part one y) (ws_slot (i := 1) rfl) rfl rfl (Nat.le_trans (Nat.le_trans fl2 ln) (by decide)) fun one h1 => ev_call (E0 := L2.E0) (pre := fun x : List Int × List Int => x.1.length ≤ 1000) (ins := fun x => [toD x.1, toD x.2]) (res := fun x => da (Bm.part x.1 x.2)) (one, y) (eva_cons (ev_da (i := 3) rfl) (eva_cons (ev_da (i := 2) rfl) eva_nil)) (seenA_cons seen_da (seenA_cons seen_da seenA_nil)) (Nat.le_trans (hok one (hy one (by simp [fm one h1]))).len (by decide))) seen_ol))
      refine do_if E2 test (fun hb H3 E3 => ?_) fun hb H3 E3 => ?_
      · refine do_expr E3 (ev_append (i := 1) (ev_da (i := 2) rfl) rfl rfl (Nat.lt_of_le_of_lt (Nat.le_trans fl2 ln) (by decide))) fun H4 E4 => ?_
        have e : (pre ++ [y]).foldl Bm.keepStep [] = pre.foldl Bm.keepStep [] ++ [y] := by
          rw [List.foldl_append]
          show Bm.keepStep _ y = _
          unfold Bm.keepStep
          rw [if_neg]
          intro z
          rw [List.any_map] at hb
          simp only [Bool.not_eq_true'] at hb
          have z' : ((pre.foldl Bm.keepStep []).any (id ∘ fun one => Bm.part one y)) = true := z
          rw [z'] at hb
          cases hb
        rw [e]
        exact E4.weak (.keep (.keep (.drop (.keep .nil))))
      · have e : (pre ++ [y]).foldl Bm.keepStep [] = pre.foldl Bm.keepStep [] := by
          rw [List.foldl_append]
          show Bm.keepStep _ y = _
          unfold Bm.keepStep
          rw [if_pos]
          rw [List.any_map] at hb
          simp only [Bool.not_eq_false'] at hb
          exact hb
        rw [e]
        exact E3.weak (.keep (.keep (.drop (.keep .nil))))
    · obtain ⟨nd, mem⟩ := Bm.leastOnes_is hA
      refine do_ret E3 (ev_sorted (ev_al (i := 1) rfl) (seenC_al rfl (seenC_list seen_ol)) (sortOk_rows _ (Bm.no_nil nd (Bm.least_nil mem)))) fun v H' E => E.fin ?_
      rw [srtd_rows]
      exact o
end
end K63

namespace K63
open PySem
open PySem.Spec
open PyProof.Rows
open L2
open Sx
section
variable {P : Program} {w : World} {K : PySem.W.Frag} {mg : Str → Option Value} {base : Heap}
def sp_least_meeting (K : PySem.W.Frag) : Sp := spP K (fun B : List (List Int) => B.length ≤ 10000 ∧ ∀ b ∈ B, Bm.Ok b) (fun B => [toD B]) (fun B => da (Bm.meeting B))
theorem ok_least_meeting {k : Nat} {f g1 g2 g3 : Addr} {fd d1 d2 d3 : FuncData} (F : Fun K "least_meeting" "least_meeting" st_least_meeting f fd) (m : Nn mg)
    (F_more : Fun K "more" "more" st_more g1 d1) (b_more : Binds K d1 ["bunch", "number"] []) (g_more : mg "more" = some (.ref g1))
    (F_is_bunch_part : Fun K "is_bunch_part" "is_bunch_part" st_is_bunch_part g2 d2) (b_is_bunch_part : Binds K d2 ["one", "other"] []) (g_is_bunch_part : mg "is_bunch_part" = some (.ref g2))
    (F_least_ones : Fun K "least_ones" "least_ones" st_least_ones g3 d3) (b_least_ones : Binds K d3 ["bunches"] []) (g_least_ones : mg "least_ones" = some (.ref g3)) :
    FnOk P w K mg base CX0 (k + 3) f fd ["bunches"] (sp_least_meeting K) := by
  have G_more : FnOk P w K mg base CX0 (k + 1) g1 d1 ["bunch", "number"] (sp_more K) := ok_more F_more m
  have G_least_ones : FnOk P w K mg base CX0 (k + 2) g3 d3 ["bunches"] (sp_least_ones K) := ok_least_ones F_least_ones m F_is_bunch_part b_is_bunch_part g_is_bunch_part
  refine F.ok sc_least_meeting (fun vs H Q E h => ?_) (fun cdv A outer s H vs Q E hr h => ?_)
  · obtain ⟨x, _, hd, _⟩ := h
    exact hd.len
  · obtain ⟨B, ⟨hp, hB⟩, hd, o⟩ := h
    refine ⟨_, (pss_cons (ps_set (i := 1) sc_least_meeting.nd rfl (Or.inl rfl) (pe_lst (pa_cons (pe_tup pa_nil) pa_nil)))
      (pss_cons (ps_for PassesOwn.never rfl (kx_seq (K := K) (pv 0)) (pg_name (i := 2) sc_least_meeting.nd rfl (Or.inr rfl)) (pss_cons (ps_setLc (i := 3) (own := [("one", 4)]) rfl sc_least_meeting.nd rfl rfl (sw_true rfl rfl rfl (by decide +kernel)) (kx_seq (K := K) (pv 1)) (blkOk_by (by kernel_rfl)) (fun _ _ _ _ _ => (pg_name (i := 4) sc_least_meeting.nd rfl (by first | exact Or.inl rfl | exact Or.inr rfl))) (fun _ _ _ _ _ => (pts_one (pt_val (pe_callB (kx_any (K := K) rfl) (by rfl) m.any (by decide +kernel) (pa_cons (pe_lc (own := [("number", 5)]) rfl sc_least_meeting.nd (kx_seq (K := K) (pv 4)) (blkOk_by (by kernel_rfl)) (fun _ _ _ _ _ => (pg_name (i := 5) sc_least_meeting.nd rfl (by first | exact Or.inl rfl | exact Or.inr rfl))) (fun _ _ _ _ _ => pts_nil) (fun _ _ _ _ _ => (pe_cmpR (kx_in (K := K) (u65 hr)) (pv 5) (pv 2) (by rfl)))) pa_nil))))) (fun _ _ _ _ _ => (pv 4)))
      (pss_cons (ps_for PassesOwn.never rfl (kx_seq (K := K) (pv 1)) (pg_name (i := 4) sc_least_meeting.nd rfl (Or.inr rfl)) (pss_one (ps_if (pt_not (pt_val (pe_callB (kx_any (K := K) rfl) (by rfl) m.any (by decide +kernel) (pa_cons (pe_lc (own := [("number", 5)]) rfl sc_least_meeting.nd (kx_seq (K := K) (pv 4)) (blkOk_by (by kernel_rfl)) (fun _ _ _ _ _ => (pg_name (i := 5) sc_least_meeting.nd rfl (by first | exact Or.inl rfl | exact Or.inr rfl))) (fun _ _ _ _ _ => pts_nil) (fun _ _ _ _ _ => (pe_cmpR (kx_in (K := K) (u65 hr)) (pv 5) (pv 2) (by rfl)))) pa_nil)))) (pss_one (ps_expr (kx_bm (K := K) PySem.F.plainAttrs_list PySem.F.slot_list_extend PySem.F.type_list_extend mt_extend (pv 3) (pa_cons (pe_lc (own := [("number", 5)]) rfl sc_least_meeting.nd (kx_seq (K := K) (pv 2)) (blkOk_by (by kernel_rfl)) (fun _ _ _ _ _ => (pg_name (i := 5) sc_least_meeting.nd rfl (by first | exact Or.inl rfl | exact Or.inr rfl))) (fun _ _ _ _ _ => pts_nil) (fun _ _ _ _ _ => (pe_call G_more (hr.mono (by omega)) (by rfl) g_more F_more.kp b_more .nil pass0 (pa_cons (pv 4) (pa_cons (pv 5) pa_nil))))) pa_nil)))) pss_nil)))
      (pss_one (ps_set (i := 1) sc_least_meeting.nd rfl (Or.inl rfl) (pe_call G_least_ones (hr.mono (by omega)) (by rfl) g_least_ones F_least_ones.kp b_least_ones .nil pass0 (pa_cons (pv 3) pa_nil)))))))
      (pss_one (ps_ret (pe_callTy (kx_tuple (K := K)) (by rfl) m.tuple (by decide +kernel) (pa_cons (pv 1) pa_nil)))))), ?_⟩
    have E0 : Env H [some (da B), none, none, none, none, none] (L2.start ["bunches", "found", "bunch", "late", "one", "number"] vs) [] [] H := enterN (.cons arg_da .nil) hd
    refine do_set E0 (ev_lst (xs := ([[]] : List (List Int))) (eva_cons (ev_tup (xs := ([] : List Int)) eva_nil seenA_nil (Nat.zero_le _)) eva_nil) (seenA_cons seen_da seenA_nil) (Nat.le_trans (Nat.le_refl 1) (by decide))) (lt_ rfl) fun σ1 H1 E1 => ?_
    refine do_for (Gx := fun pre y => [some (da B), some (ol (Bm.meeting pre)), some (da y), none, none, none]) (fun pre => [some (da B), some (ol (Bm.meeting pre)), none, none, none, none]) E1 (ws_tupD (ev_da rfl)) (Le.refl _) (fun _ => trivial) (fun pre x => eg_name (i := 2) (lt_ rfl)) (fun pre b post σ2 H2 s ws ex E2 => ?_) fun σ3 H3 E3 => ?_
    · have hpre : ∀ b ∈ pre, Bm.Ok b := fun b hb => hB b (by rw [ex]; simp [hb])
      have hb : Bm.Ok b := hB b (by rw [ex]; simp)
      have M := Bm.meeting_is pre
      have hF := M.ok hpre
      have nF := M.many hpre
      have en : Bm.meeting (pre ++ [b]) = Bm.leastOnes (Bm.late (Bm.meeting pre) b) := by
        unfold Bm.meeting
        rw [List.foldl_append]
        rfl
      generalize hFe : Bm.meeting pre = F at M hF nF en E2
      have nz : F.length ≤ sizeLine := Nat.le_trans nF (by decide)
      -- late = [..]
      refine do_set E2 (ev_lcf (i := 4) (fun s => Bm.meets s b) (ws_slot (i := 1) rfl) rfl rfl nz fun s hs => ?_) (lt_ rfl) fun σ3 H3 E3 => ?_
      · have q := evt_b (ev_any (K := K) (Fh := H) (ev_lcm (Γ1 := [some (da B), some (ol F), some (da b), none, some (da s), none]) (i := 5) (fun n => decide (n ∈ b)) (ws_tupD (ev_da (i := 4) rfl)) trivial rfl (Nat.le_trans (hF s hs).len (by decide)) fun n _ => ev_in (ev_da (i := 5) rfl) (ev_da (i := 2) rfl) seen_da seen_da (by decide)) seen_ol)
        rw [Bm.meets_flip] at q
        exact q
      · -- for one in found
        obtain ⟨a, E4⟩ := E3.name (i := 1) rfl
        let L : List (List Int) → List (List Int) := fun pre2 => pre2.foldl (fun acc s => if Bm.meets s b = true then acc else acc ++ b.map fun n => Bm.addN s n) (F.filter fun s => Bm.meets s b)
        refine do_for (Gx := fun pre2 y => [some (da B), some (olA a F), some (da b), some (ol (L pre2)), some (da y), none]) (fun pre2 => [some (da B), some (olA a F), some (da b), some (ol (L pre2)), none, none]) E4 (ws_slotA (i := 1) rfl) (Le.refl _) (fun _ => rfl) (fun pre2 y => eg_name (i := 4) (lt_ rfl)) (fun pre2 y post2 σ5 H5 s5 ws5 ex5 E5 => ?_) fun σ6 H6 E6 => ?_
        · have hy : Bm.Ok y := hF y (by rw [ex5]; simp)
          have lp : pre2.length ≤ 4096 := by
            have q := congrArg List.length ex5
            rw [List.length_append, List.length_cons] at q
            omega
          have lL : (L pre2).length ≤ 60000 := by
            have q := Bm.late_len b pre2 (F.filter fun s => Bm.meets s b)
            have q2 := List.length_filter_le (fun s => Bm.meets s b) F
            have q3 : pre2.length * b.length ≤ 4096 * 12 := Nat.mul_le_mul lp hb.len
            exact Nat.le_trans q (by omega)
          have test := evt_not (evt_b (ev_any (K := K) (Fh := H) (ev_lcm (Γ1 := [some (da B), some (olA a F), some (da b), some (ol (L pre2)), some (da y), none]) (i := 5) (fun n => decide (n ∈ b)) (ws_tupD (ev_da (i := 4) rfl)) trivial rfl (Nat.le_trans hy.len (by decide)) fun n _ => ev_in (ev_da (i := 5) rfl) (ev_da (i := 2) rfl) seen_da seen_da (by decide)) seen_ol))
          rw [Bm.meets_flip] at test
          refine do_if E5 test (fun hm H6 E6 => ?_) fun hm H6 E6 => ?_
          · have hm : ¬ Bm.meets y b = true := by simpa using hm
            have el : L (pre2 ++ [y]) = L pre2 ++ b.map fun n => Bm.addN y n := by
              show (pre2 ++ [y]).foldl _ _ = _
              rw [List.foldl_append]
              show (if Bm.meets y b = true then _ else _) = _
              rw [if_neg hm]
            have qe := ev_lcm (K := K) (Fh := H) (Γ := [some (da B), some (olA a F), some (da b), some (ol (L pre2)), some (da y), none]) (i := 5) (fun n => Bm.addN y n) (ws_tupD (ev_da (i := 2) rfl)) trivial rfl (Nat.le_trans hb.len (by decide)) fun n hn => ev_call (E0 := L2.E0) (pre := fun x : List Int × Int => x.1.length ≤ 1000) (ins := fun x => [toD x.1, toD x.2]) (res := fun x => da (Bm.addN x.1 x.2)) (y, n) (eva_cons (ev_da (i := 4) rfl) (eva_cons (ev_da (i := 5) rfl) eva_nil)) (seenA_cons seen_da (seenA_cons seen_da seenA_nil)) (Nat.le_trans hy.len (by decide))
            refine do_expr E6 (ev_extend (i := 3) qe rfl rfl ?_) fun H7 E7 => ?_
            · rw [List.length_map]
              have := hb.len
              exact Nat.le_trans (show _ ≤ 70000 by omega) (by decide)
            · rw [el]
              exact E7.weak (.keep (.keep (.keep (.keep (.drop (.keep .nil))))))
          · have hm : Bm.meets y b = true := by simpa using hm
            have el : L (pre2 ++ [y]) = L pre2 := by
              show (pre2 ++ [y]).foldl _ _ = _
              rw [List.foldl_append]
              show (if Bm.meets y b = true then _ else _) = _
              rw [if_pos hm]
            rw [el]
            exact E6.weak (.keep (.keep (.keep (.keep (.drop (.keep .nil))))))
        · have eL : L F = Bm.late F b := rfl
          rw [eL] at E6
          have qe := ev_call (K := K) (Fh := H) (Γ := [some (da B), some (olA a F), some (da b), some (ol (Bm.late F b)), none, none]) (E0 := L2.E0) (pre := fun l : List (List Int) => l.length ≤ 100000 ∧ ∀ s ∈ l, Bm.Ok s) (ins := fun l => [lsD l]) (res := fun l => ol (Bm.leastOnes l)) (Bm.late F b) (eva_cons (ev_al (i := 3) rfl) eva_nil) (seenA_cons (seen_al rfl seen_ol) seenA_nil) ⟨Nat.le_trans (Bm.late_many nF hb) (by decide), Bm.late_ok hF hb⟩
          refine do_set E6 qe (lt_ rfl) fun σ7 H7 E7 => ?_
          rw [en]
          exact E7.weak (.keep (.keep (.drop (.drop (.keep (.keep .nil))))))
    · exact do_ret E3 (ev_tupL (ev_al (i := 1) rfl) (seen_al rfl seen_ol)) fun v H' E => E.fin o
end
end K63

namespace K63
open PySem
open PySem.Spec
open PyProof.Rows
open L2
open Sx
section
variable {P : Program} {w : World} {K : PySem.W.Frag} {mg : Str → Option Value} {base : Heap}
def nDict (B : List (List Int)) : List (Int × Int) := B.foldl (fun m b => amerge m (amerge [] (b.map fun n => (n, (0 : Int))))) []
theorem nDict_keys : ∀ (B : List (List Int)) (m : List (Int × Int)), (B.foldl (fun m b => amerge m (amerge [] (b.map fun n => (n, (0 : Int))))) m).map (·.1) = B.foldl (fun acc b => Bm.keys acc (Bm.keys [] b)) (m.map (·.1))
  | [], m => rfl
  | b :: B, m => by
    rw [List.foldl_cons, nDict_keys B, amerge_keys, dict_keys]
    rfl
theorem nDict_all (B : List (List Int)) : (nDict B).map (·.1) = Bm.allNumbers B := nDict_keys B []
theorem nDict_len {B : List (List Int)} (hB : ∀ b ∈ B, Bm.Ok b) : (nDict B).length ≤ 12 := by
  have q := Bm.allN_len hB
  rw [← nDict_all, List.length_map] at q
  exact q
theorem lastI_at {s : List Int} (h : s ≠ []) : atI s (-1) = some (Bm.lastI s) := by
  have e : s = s.dropLast ++ [s.getLast h] := (List.dropLast_concat_getLast h).symm
  have e2 : Bm.lastI s = s.getLast h := by unfold Bm.lastI; rw [List.getLastD_eq_getLast?, List.getLast?_eq_some_getLast h]; rfl
  rw [e2]
  exact (congrArg (fun l => atI l (-1)) e).trans (atI_last _ _)
def sp_law_meeting (K : PySem.W.Frag) : Sp := spP K (fun B : List (List Int) => B.length ≤ 10000 ∧ ∀ b ∈ B, Bm.Ok b) (fun B => [toD B]) (fun B => da (Bm.meeting B))
theorem ok_law_meeting {k : Nat} {f g1 g2 : Addr} {fd d1 d2 : FuncData} (F : Fun K "_law_meeting" "_law_meeting" st_law_meeting f fd) (m : Nn mg)
    (F_law_within : Fun K "_law_within" "_law_within" st_law_within g1 d1) (b_law_within : Binds K d1 ["one", "other"] []) (g_law_within : mg "_law_within" = some (.ref g1))
    (F_law_meets_all : Fun K "_law_meets_all" "_law_meets_all" st_law_meets_all g2 d2) (b_law_meets_all : Binds K d2 ["some", "bunches"] []) (g_law_meets_all : mg "_law_meets_all" = some (.ref g2)) :
    FnOk P w K mg base CX0 (k + 2) f fd ["bunches"] (sp_law_meeting K) := by
  have G_law_within : FnOk P w K mg base CX0 (k + 1) g1 d1 ["one", "other"] (sp_law_within K) := ok_law_within F_law_within m
  have G_law_meets_all : FnOk P w K mg base CX0 (k + 1) g2 d2 ["some", "bunches"] (sp_law_meets_all K) := ok_law_meets_all F_law_meets_all m
  refine F.ok sc_law_meeting (fun vs H Q E h => ?_) (fun cdv A outer s H vs Q E hr h => ?_)
  · obtain ⟨x, _, hd, _⟩ := h
    exact hd.len
  · obtain ⟨B, ⟨hp, hB⟩, hd, o⟩ := h
    refine ⟨_, (pss_cons (ps_par3 (i := 1) (j := 2) (l := 3) (by rfl) sc_law_meeting.nd rfl rfl rfl (by decide) (by decide) (by decide) rfl rfl rfl (pa_cons pe_dnewK (pa_cons (pe_lst pa_nil) (pa_cons (pe_lst (pa_cons (pe_tup pa_nil) pa_nil)) pa_nil))) (by rfl))
      (pss_cons (ps_for PassesOwn.never rfl (kx_seq (K := K) (pv 0)) (pg_name (i := 4) sc_law_meeting.nd rfl (Or.inl rfl)) (pss_one (ps_expr (kx_bm (K := K) PySem.F.plainAttrs_dict PySem.F.slot_dict_update PySem.F.type_dict_update mt_dupd (pv 1) (pa_cons (pe_callTy (kx_dictP (K := K) rfl) (by rfl) m.dict (by decide +kernel) (pa_cons (pe_lc (own := [("number", 7)]) rfl sc_law_meeting.nd (kx_seq (K := K) (pv 4)) (blkOk_by (by kernel_rfl)) (fun _ _ _ _ _ => (pg_name (i := 7) sc_law_meeting.nd rfl (by first | exact Or.inl rfl | exact Or.inr rfl))) (fun _ _ _ _ _ => pts_nil) (fun _ _ _ _ _ => (pe_tup (pa_cons (pv 7) (pa_cons pe_int pa_nil))))) pa_nil)) pa_nil)))))
      (pss_cons (ps_while PassesOwn.never (pt_cmpR (kx_ne (K := K) (u64 hr)) (pv 3) (pe_lst pa_nil) (nomark _)) (pss_cons (ps_set (i := 5) sc_law_meeting.nd rfl (Or.inl rfl) (pe_lst pa_nil))
      (pss_cons (ps_for PassesOwn.never rfl (kx_seq (K := K) (pv 3)) (pg_name (i := 6) sc_law_meeting.nd rfl (Or.inr rfl)) (pss_one (ps_if (pt_cmpR (kx_eq (K := K) (u64 hr)) (pe_lc (own := [("one", 8)]) rfl sc_law_meeting.nd (kx_seq (K := K) (pv 2)) (blkOk_by (by kernel_rfl)) (fun _ _ _ _ _ => (pg_name (i := 8) sc_law_meeting.nd rfl (by first | exact Or.inl rfl | exact Or.inr rfl))) (fun _ _ _ _ _ => (pts_one (pt_val (pe_call G_law_within (hr.mono (by omega)) (by rfl) g_law_within F_law_within.kp b_law_within .nil pass0 (pa_cons (pv 8) (pa_cons (pv 6) pa_nil)))))) (fun _ _ _ _ _ => (pv 8))) (pe_lst pa_nil) (nomark _)) (pss_one (ps_if (pt_val (pe_call G_law_meets_all (hr.mono (by omega)) (by rfl) g_law_meets_all F_law_meets_all.kp b_law_meets_all .nil pass0 (pa_cons (pv 6) (pa_cons (pv 0) pa_nil)))) (pss_one (ps_expr (kx_bm (K := K) PySem.F.plainAttrs_list PySem.F.slot_list_append PySem.F.type_list_append mt_append (pv 2) (pa_cons (pv 6) pa_nil)))) (pss_one (ps_expr (kx_bm (K := K) PySem.F.plainAttrs_list PySem.F.slot_list_extend PySem.F.type_list_extend mt_extend (pv 5) (pa_cons (pe_lc (own := [("number", 7)]) rfl sc_law_meeting.nd (kx_seq (K := K) (pe_callB (kx_sort (K := K) (u80 hr) rfl) (by rfl) m.sorted (by decide +kernel) (pa_cons (pv 1) pa_nil))) (blkOk_by (by kernel_rfl)) (fun _ _ _ _ _ => (pg_name (i := 7) sc_law_meeting.nd rfl (by first | exact Or.inl rfl | exact Or.inr rfl))) (fun _ _ _ _ _ => (pts_one (PW.pt (pw_or (pt_cmpR (kx_eq (K := K) (u64 hr)) (pv 6) (pe_tup pa_nil) (nomark _)) (pw_or1 (pt_cmpR op_gt (pv 7) (pe_ix (kx_ix (K := K)) (pv 6) (pe_un un_neg pe_int) (fun _ _ => rfl)) (nomark _))))))) (fun _ _ _ _ _ => (pe_op (kx_add (K := K)) (pv 6) (pe_tup (pa_cons (pv 7) pa_nil))))) pa_nil)))))) pss_nil)))
      (pss_one (ps_set (i := 3) sc_law_meeting.nd rfl (Or.inl rfl) (pe_callTy (kx_list (K := K)) (by rfl) m.list (by decide +kernel) (pa_cons (pv 5) pa_nil)))))))
      (pss_one (ps_ret (pe_callTy (kx_tuple (K := K)) (by rfl) m.tuple (by decide +kernel) (pa_cons (pe_callB (kx_sort (K := K) (u80 hr) rfl) (by rfl) m.sorted (by decide +kernel) (pa_cons (pv 2) pa_nil)) pa_nil))))))), ?_⟩
    have E0 : Env H [some (da B), none, none, none, none, none, none, none, none] (L2.start ["bunches", "numbers", "found", "late", "bunch", "more_v", "some", "number", "one"] vs) [] [] H := enterN (.cons arg_da .nil) hd
    refine do_par3 E0 (ev_dnewI (β := Int)) (ev_lst (xs := ([] : List (List Int))) eva_nil seenA_nil (Nat.zero_le _)) (ev_lst (xs := ([[]] : List (List Int))) (eva_cons (ev_tup (xs := ([] : List Int)) eva_nil seenA_nil (Nat.zero_le _)) eva_nil) (seenA_cons seen_da seenA_nil) (Nat.le_trans (Nat.le_refl 1) (by decide))) (lt_ rfl) (lt_ rfl) (lt_ rfl) (by decide) (by decide) (by decide) fun σ1 H1 E1 => ?_
    refine do_for (Gx := fun pre y => [some (da B), some (dI (nDict pre)), some (ol ([] : List (List Int))), some (ol ([[]] : List (List Int))), some (da y), none, none, none, none]) (fun pre => [some (da B), some (dI (nDict pre)), some (ol ([] : List (List Int))), some (ol ([[]] : List (List Int))), none, none, none, none, none]) E1 (ws_tupD (ev_da (i := 0) rfl)) (Le.refl _) (fun _ => trivial) (fun pre x => eg_name (i := 4) (lt_ rfl)) (fun pre b post σ2 H2 s ws ex E2 => ?_) fun σ3 H3 E3 => ?_
    · have hpre : ∀ b ∈ pre, Bm.Ok b := fun b hb => hB b (by rw [ex]; simp [hb])
      have hb : Bm.Ok b := hB b (by rw [ex]; simp)
      have qe := ev_dictI (K := K) (Fh := H) (Γ := [some (da B), some (dI (nDict pre)), some (ol ([] : List (List Int))), some (ol ([[]] : List (List Int))), some (da b), none, none, none, none]) (ev_lcm (i := 7) (fun n : Int => (n, (0 : Int))) (ws_tupD (ev_da (i := 4) rfl)) trivial rfl (Nat.le_trans hb.len (by decide)) fun n _ => ev_tup2 (ev_da (i := 7) rfl) ev_int) seen_ol
      refine do_expr E2 (ev_dupd (i := 1) qe rfl rfl ?_) fun H3 E3 => ?_
      · have h1 := nDict_len hpre
        have h2 : (amerge [] (b.map fun n => (n, (0 : Int)))).length ≤ 12 := by
          have q := Bm.keys_len b []
          rw [← dict_keys b (fun _ => (0 : Int)), List.length_map] at q
          have := hb.len
          simp only [List.length_nil, Nat.zero_add] at q
          omega
        exact Nat.le_trans (show _ ≤ 24 by omega) (by decide)
      · have e : nDict (pre ++ [b]) = amerge (nDict pre) (amerge [] (b.map fun n => (n, (0 : Int)))) := by
          unfold nDict
          rw [List.foldl_append]
          rfl
        rw [e]
        exact E3.weak (.keep (.keep (.keep (.keep (.drop (.keep (.keep (.keep (.keep .nil)))))))))
    · have nU : (nDict B).map (·.1) = Bm.allNumbers B := nDict_all B
      refine do_while (S := List (List Int) × List (List Int) × Nat) (Gc := fun s => [some (da B), some (dI (nDict B)), some (ol s.1), some (ol s.2.1), none, none, none, none, none]) (b := fun s => !decide (s.2.1 = [])) (fun s => [some (da B), some (dI (nDict B)), some (ol s.1), some (ol s.2.1), none, none, none, none, none])
        (fun s => Bm.Inv B (Bm.nums B) s.2.2 s.1 s.2.1) (fun s => 13 - s.2.2) ([], [[]], 0) E3 (Bm.Inv.init B (Bm.nums B)) (fun s is => ?_) (fun s σ4 H4 is hb E4 => ?_) fun s σ4 H4 is hb E4 => ?_
      · exact evt_t (ev_neL (ev_al (i := 3) rfl) (ev_lst (xs := ([] : List (List Int))) eva_nil seenA_nil (Nat.zero_le _)) (seen_al rfl seen_ol) seen_ol (by decide))
      · obtain ⟨f, l, k⟩ := s
        have is : Bm.Inv B (Bm.nums B) k f l := is
        have hne : l ≠ [] := by simpa using hb
        have hk : k ≤ 12 := Nat.le_trans (is.bound (Bm.nums_asc B) hne) (Bm.nums_len hB)
        obtain ⟨nf, nl⟩ := Bm.inv_many hB is
        refine do_set E4 (ev_lst (xs := ([] : List (List Int))) eva_nil seenA_nil (Nat.zero_le _)) (lt_ rfl) fun σ5 H5 E5 => ?_
        obtain ⟨a, E6⟩ := E5.name (i := 3) rfl
        let st : List (List Int) → List (List Int) × List (List Int) := fun pre => pre.foldl (Bm.visit B (Bm.nums B)) (f, [])
        refine do_for (Gx := fun pre y => [some (da B), some (dI (nDict B)), some (ol (st pre).1), some (olA a l), none, some (ol (st pre).2), some (da y), none, none]) (fun pre => [some (da B), some (dI (nDict B)), some (ol (st pre).1), some (olA a l), none, some (ol (st pre).2), none, none, none]) E6 (ws_slotA (i := 3) rfl) (Le.refl _) (fun _ => rfl) (fun pre y => eg_name (i := 6) (lt_ rfl)) (fun pre y post σ7 H7 s7 ws7 ex7 E7 => ?_) fun σ7 H7 E7 => ?_
        · have ex7 : l = pre ++ y :: post := ex7
          have hy : Bm.Asc y ∧ y.length = k ∧ Bm.Sub y (Bm.nums B) := is.la y (by rw [ex7]; simp)
          have lp : pre.length ≤ 4096 := by
            have q := congrArg List.length ex7
            rw [List.length_append, List.length_cons] at q
            omega
          have vl := Bm.visit_len B (Bm.nums B) pre (f, [])
          have nn := Bm.nums_len hB
          have l1 : (st pre).1.length ≤ 8192 := Nat.le_trans vl.1 (by show f.length + _ ≤ _; omega)
          have l2 : (st pre).2.length ≤ 50000 := Nat.le_trans vl.2 (by
            show ([] : List (List Int)).length + _ ≤ _
            have q3 : pre.length * (Bm.nums B).length ≤ 4096 * 12 := Nat.mul_le_mul lp nn
            simp only [List.length_nil]
            omega)
          have en : st (pre ++ [y]) = Bm.visit B (Bm.nums B) (st pre) y := by
            show (pre ++ [y]).foldl _ _ = _
            rw [List.foldl_append]
            rfl
          -- how long the found ones are
          have hf : ∀ t ∈ (st pre).1, t.length ≤ 1000 := by
            have gen : ∀ (xs : List (List Int)) (p : List (List Int) × List (List Int)) (t : List Int), t ∈ (xs.foldl (Bm.visit B (Bm.nums B)) p).1 → t ∈ p.1 ∨ t ∈ xs := by
              intro xs
              induction xs with
              | nil => intro p t h; exact .inl h
              | cons x xs ih =>
                intro p t h
                rcases ih _ t h with z | z
                · unfold Bm.visit at z
                  split at z
                  · exact .inl z
                  · split at z
                    · rw [List.mem_append, List.mem_singleton] at z
                      rcases z with z | rfl
                      · exact .inl z
                      · exact .inr (by simp)
                    · exact .inl z
                · exact .inr (by simp [z])
            intro t ht
            rcases gen pre (f, []) t ht with z | z
            · exact Nat.le_trans (Bm.MH_ok hB (is.fm t z).1).len (by decide)
            · have q := (is.la t (by rw [ex7]; simp [z])).2.1
              omega
          have test := evt_t (ev_eqL (K := K) (Fh := H) (Γ := [some (da B), some (dI (nDict B)), some (ol (st pre).1), some (olA a l), none, some (ol (st pre).2), some (da y), none, none]) (ev_lcf (i := 8) (fun one => Bm.part one y) (ws_slot (i := 2) rfl) rfl rfl (Nat.le_trans l1 (by decide)) fun one h1 => evt_b (ev_call (E0 := L2.E0) (pre := fun x : List Int × List Int => x.1.length ≤ 1000) (ins := fun x => [toD x.1, toD x.2]) (res := fun x => da (Bm.part x.1 x.2)) (one, y) (eva_cons (ev_da (i := 8) rfl) (eva_cons (ev_da (i := 6) rfl) eva_nil)) (seenA_cons seen_da (seenA_cons seen_da seenA_nil)) (hf one h1))) (ev_lst (xs := ([] : List (List Int))) eva_nil seenA_nil (Nat.zero_le _)) seen_ol seen_ol (by decide))
          have et : decide (((st pre).1.filter fun one => Bm.part one y) = []) = !((st pre).1.any fun one => Bm.part one y) := by
            rw [Bool.eq_iff_iff, decide_eq_true_eq, List.filter_eq_nil_iff, Bool.not_eq_true', Bool.eq_false_iff]
            simp [List.any_eq_true]
          rw [et] at test
          refine do_if E7 test (fun h1 H8 E8 => ?_) fun h1 H8 E8 => ?_
          · have h1 : ¬ ((st pre).1.any fun one => Bm.part one y) = true := by simpa using h1
            refine do_if E8 (evt_b (ev_call (E0 := L2.E0) (pre := fun x : List Int × List (List Int) => x.2.length ≤ 10000 ∧ ∀ b ∈ x.2, b.length ≤ 1000) (ins := fun x => [toD x.1, toD x.2]) (res := fun x => da (Bm.hits x.1 x.2)) (y, B) (eva_cons (ev_da (i := 6) rfl) (eva_cons (ev_da (i := 0) rfl) eva_nil)) (seenA_cons seen_da (seenA_cons seen_da seenA_nil)) ⟨hp, fun b hb => Nat.le_trans (hB b hb).len (by decide)⟩)) (fun h2 H9 E9 => ?_) fun h2 H9 E9 => ?_
            · refine do_expr E9 (ev_append (i := 2) (ev_da (i := 6) rfl) rfl rfl (Nat.lt_of_le_of_lt l1 (by decide))) fun H10 E10 => ?_
              have e2 : st (pre ++ [y]) = ((st pre).1 ++ [y], (st pre).2) := by
                rw [en]
                unfold Bm.visit
                rw [if_neg h1, if_pos h2]
              rw [e2]
              exact E10.weak (.keep (.keep (.keep (.keep (.keep (.keep (.drop (.keep (.keep .nil)))))))))
            · have qs := ev_sorted (K := K) (Fh := H) (Γ := [some (da B), some (dI (nDict B)), some (ol (st pre).1), some (olA a l), none, some (ol (st pre).2), some (da y), none, none]) (ev_al (i := 1) rfl) (seenC_al rfl (seenC_dI (m := nDict B))) (sortOk_int _)
              rw [srtd_int, nU] at qs
              have qe := ev_lcn (K := K) (Fh := H) (i := 7) (fun n : Int => decide (y = []) || decide (Bm.lastI y < n)) (fun n => y ++ [n]) (ws_listO qs) trivial rfl (Nat.le_trans nn (by decide)) (fun n _ => evt_or' (evt_t (ev_eq (ev_da (i := 6) rfl) (ev_tup (xs := ([] : List Int)) eva_nil seenA_nil (Nat.zero_le _)) seen_da seen_da (by decide))) fun hn => evt_t (ev_gt (ev_da (i := 7) rfl) (ev_ixT (ev_da (i := 6) rfl) (ev_neg ev_int) seen_da (lastI_at (of_decide_eq_false hn))))) fun n _ _ => ev_cat (ev_da (i := 6) rfl) (ev_tup (xs := [n]) (eva_cons (ev_da (i := 7) rfl) eva_nil) (seenA_cons seen_da seenA_nil) (Nat.le_trans (Nat.le_refl 1) (by decide))) seen_da seen_da (Nat.le_trans (show y.length + 1 ≤ 13 by omega) (by decide))
              refine do_expr E9 (ev_extend (i := 5) qe rfl rfl ?_) fun H10 E10 => ?_
              · have := Bm.ext_len (Bm.nums B) y
                unfold Bm.ext at this
                exact Nat.le_trans (Nat.add_le_add l2 (Nat.le_trans this nn)) (by decide)
              · have e2 : st (pre ++ [y]) = ((st pre).1, (st pre).2 ++ Bm.ext (Bm.nums B) y) := by
                  rw [en]
                  unfold Bm.visit
                  rw [if_neg h1, if_neg (by rw [h2]; simp)]
                rw [e2]
                exact E10.weak (.keep (.keep (.keep (.keep (.keep (.keep (.drop (.keep (.keep .nil)))))))))
          · have h1 : ((st pre).1.any fun one => Bm.part one y) = true := by simpa using h1
            have e2 : st (pre ++ [y]) = st pre := by
              rw [en]
              unfold Bm.visit
              rw [if_pos h1]
            rw [e2]
            exact E8.weak (.keep (.keep (.keep (.keep (.keep (.keep (.drop (.keep (.keep .nil)))))))))
        · refine do_set E7 (ev_listL (ev_al (i := 5) rfl) (seen_al rfl seen_ol)) (lt_ rfl) fun σ8 H8 E8 => ?_
          refine ⟨(Bm.level B (Bm.nums B) f l |>.1, Bm.level B (Bm.nums B) f l |>.2, k + 1), is.step (Bm.nums_asc B) (Bm.nums_sub B), by show 13 - (k + 1) < 13 - k; omega, ?_⟩
          exact E8.weak (.keep (.keep (.keep (.keep (.keep (.drop (.keep (.keep (.keep .nil)))))))))
      · obtain ⟨f, l, k⟩ := s
        have e : l = [] := by simpa using hb
        subst e
        have is : Bm.Inv B (Bm.nums B) k f [] := is
        obtain ⟨nd, mem⟩ := is.end
        refine do_ret E4 (ev_tupL (ev_sorted (ev_al (i := 2) rfl) (seenC_al rfl (seenC_list seen_ol)) (sortOk_rows _ (Bm.no_nil nd (Bm.mh_nil mem)))) seen_ol) fun v H' E => E.fin ?_
        refine o.da ?_
        rw [srtd_rows]
        exact (Bm.IsMH.of nd mem).one (Bm.meeting_is B) fun _ => Iff.rfl
end
end K63

namespace K63
open PySem
open PySem.Spec
open PyProof.Rows
open L2
open Sx
section
variable {P : Program} {w : World} {K : PySem.W.Frag} {mg : Str → Option Value} {base : Heap}
/-! ### the law -/
def six : List (List Int) := [[0, 1], [2, 3], [4, 5], [6, 7], [8, 9], [10, 11]]
theorem six_ok : ∀ b ∈ six, Bm.Ok b := fun b hb => by
  unfold six at hb
  simp only [List.mem_cons, List.not_mem_nil, or_false] at hb
  rcases hb with rfl | rfl | rfl | rfl | rfl | rfl <;> exact ⟨by decide, fun n hn => by
    simp only [List.mem_cons, List.not_mem_nil, or_false] at hn
    exact Bm.mem12.mpr (by omega)⟩
theorem six_first : atI (Bm.meeting six) 0 = some [0, 2, 4, 6, 8, 10] := by
  have q := Bm.six
  have q : (Bm.meeting six).head? = some [0, 2, 4, 6, 8, 10] := q
  cases h : Bm.meeting six with
  | nil => rw [h] at q; cases q
  | cons a F =>
    rw [h] at q
    have e : a = [0, 2, 4, 6, 8, 10] := Option.some.inj q
    subst e
    exact atI_nat (j := 0) rfl
def sp_law (K : PySem.W.Frag) : Sp := fun vs H Q _ => ∃ (a : Addr) (ns : List Int), vs = [.ref a] ∧ SqL K H a (ns.map V.int) ∧ ns.length ≤ 63 ∧ ∀ H', Q (.bl true) H'
theorem ok_law {f g1 g2 g3 g4 g5 g6 g7 g8 g9 g10 : Addr} {fd d1 d2 d3 d4 d5 d6 d7 d8 d9 d10 : FuncData} (F : Fun K "law" "law" st_law f fd) (m : Nn mg)
    (F_more : Fun K "more" "more" st_more g1 d1) (b_more : Binds K d1 ["bunch", "number"] []) (g_more : mg "more" = some (.ref g1))
    (F_is_bunch_part : Fun K "is_bunch_part" "is_bunch_part" st_is_bunch_part g2 d2) (b_is_bunch_part : Binds K d2 ["one", "other"] []) (g_is_bunch_part : mg "is_bunch_part" = some (.ref g2))
    (F_least_ones : Fun K "least_ones" "least_ones" st_least_ones g3 d3) (b_least_ones : Binds K d3 ["bunches"] []) (g_least_ones : mg "least_ones" = some (.ref g3))
    (F_least_meeting : Fun K "least_meeting" "least_meeting" st_least_meeting g4 d4) (b_least_meeting : Binds K d4 ["bunches"] []) (g_least_meeting : mg "least_meeting" = some (.ref g4))
    (F_law_open_cells : Fun K "_law_open_cells" "_law_open_cells" st_law_open_cells g5 d5) (b_law_open_cells : Binds K d5 ["script"] []) (g_law_open_cells : mg "_law_open_cells" = some (.ref g5))
    (F_law_pick : Fun K "_law_pick" "_law_pick" st_law_pick g6 d6) (b_law_pick : Binds K d6 ["source", "most"] []) (g_law_pick : mg "_law_pick" = some (.ref g6))
    (F_law_any_order : Fun K "_law_any_order" "_law_any_order" st_law_any_order g7 d7) (b_law_any_order : Binds K d7 ["source", "things"] []) (g_law_any_order : mg "_law_any_order" = some (.ref g7))
    (F_law_within : Fun K "_law_within" "_law_within" st_law_within g8 d8) (b_law_within : Binds K d8 ["one", "other"] []) (g_law_within : mg "_law_within" = some (.ref g8))
    (F_law_meets_all : Fun K "_law_meets_all" "_law_meets_all" st_law_meets_all g9 d9) (b_law_meets_all : Binds K d9 ["some", "bunches"] []) (g_law_meets_all : mg "_law_meets_all" = some (.ref g9))
    (F_law_meeting : Fun K "_law_meeting" "_law_meeting" st_law_meeting g10 d10) (b_law_meeting : Binds K d10 ["bunches"] []) (g_law_meeting : mg "_law_meeting" = some (.ref g10)) :
    FnG P w K mg base 4 f fd ["script"] (sp_law K) := by
  have G_least_meeting : FnOk P w K mg base CX0 3 g4 d4 ["bunches"] (sp_least_meeting K) := ok_least_meeting (k := 0) F_least_meeting m F_more b_more g_more F_is_bunch_part b_is_bunch_part g_is_bunch_part F_least_ones b_least_ones g_least_ones
  have G_law_open_cells : FnOk P w K mg base CX0 1 g5 d5 ["script"] (sp_law_open_cells K) := ok_law_open_cells F_law_open_cells m
  have G_law_pick : FnOk P w K mg base CX0 1 g6 d6 ["source", "most"] (sp_law_pick K) := ok_law_pick F_law_pick m
  have G_law_any_order : FnOk P w K mg base CX0 2 g7 d7 ["source", "things"] (sp_law_any_order (List Int) K) := ok_law_any_order F_law_any_order m F_law_pick b_law_pick g_law_pick
  have G_law_within : FnOk P w K mg base CX0 1 g8 d8 ["one", "other"] (sp_law_within K) := ok_law_within F_law_within m
  have G_law_meeting : FnOk P w K mg base CX0 2 g10 d10 ["bunches"] (sp_law_meeting K) := ok_law_meeting (k := 0) F_law_meeting m F_law_within b_law_within g_law_within F_law_meets_all b_law_meets_all g_law_meets_all
  refine okG F sc_law (fun vs H Q E h => ?_) (fun cdv A outer s H vs Q E hr hcalm h => ?_)
  · obtain ⟨a, ns, rfl, _⟩ := h
    rfl
  · obtain ⟨aS, ns, rfl, hS, hlen, o⟩ := h
    refine ⟨_, (pss_cons (ps_set (i := 1) sc_law.nd rfl (Or.inr rfl) (pe_call G_law_open_cells (hr.mono (by omega)) (by rfl) g_law_open_cells F_law_open_cells.kp b_law_open_cells .nil pass0 (pa_cons (pv 0) pa_nil)))
      (pss_cons (ps_for PassesOwn.never rfl (pi_range1 (by rfl) m.range (pa_cons pe_int pa_nil)) (pg_name (i := 2) sc_law.nd rfl (Or.inl rfl)) (pss_cons (ps_par (i := 3) (j := 4) (by rfl) sc_law.nd rfl rfl (by decide) rfl rfl (pa_cons (pe_op (kx_add (K := K)) pe_int (pe_call G_law_pick (hr.mono (by omega)) (by rfl) g_law_pick F_law_pick.kp b_law_pick .nil pass0 (pa_cons (pv 1) (pa_cons pe_int pa_nil)))) (pa_cons (pe_lst pa_nil) pa_nil)) (by rfl))
      (pss_cons (ps_for PassesOwn.never rfl (pi_range1 (by rfl) m.range (pa_cons (pe_call G_law_pick (hr.mono (by omega)) (by rfl) g_law_pick F_law_pick.kp b_law_pick .nil pass0 (pa_cons (pv 1) (pa_cons pe_int pa_nil))) pa_nil)) (pg_name (i := 5) sc_law.nd rfl (Or.inl rfl)) (pss_cons (ps_setLc (i := 6) (own := [("number", 10)]) rfl sc_law.nd rfl rfl (sw_true rfl rfl rfl (by decide +kernel)) (pi_range1 (by rfl) m.range (pa_cons (pv 3) pa_nil)) (blkOk_by (by kernel_rfl)) (fun _ _ _ _ _ => (pg_name (i := 10) sc_law.nd rfl (by first | exact Or.inl rfl | exact Or.inr rfl))) (fun _ _ _ _ _ => (pts_one (pt_cmpR (kx_eq (K := K) (u64 hr)) (pe_call G_law_pick (hr.mono (by omega)) (by rfl) g_law_pick F_law_pick.kp b_law_pick .nil pass0 (pa_cons (pv 1) (pa_cons pe_int pa_nil))) pe_int (nomark _)))) (fun _ _ _ _ _ => (pv 10)))
      (pss_one (ps_expr (kx_bm (K := K) PySem.F.plainAttrs_list PySem.F.slot_list_append PySem.F.type_list_append mt_append (pv 4) (pa_cons (pe_ifExp (pt_cmpR op_gt (pe_call G_law_pick (hr.mono (by omega)) (by rfl) g_law_pick F_law_pick.kp b_law_pick .nil pass0 (pa_cons (pv 1) (pa_cons pe_int pa_nil))) pe_int (nomark _)) (pe_callTy (kx_tuple (K := K)) (by rfl) m.tuple (by decide +kernel) (pa_cons (pe_slice (kx_sl (K := K)) (pv 6) po_none (po_some pe_int)) pa_nil)) (pe_tup pa_nil)) pa_nil))))))
      (pss_cons (ps_if (PW.pt (pw_and (pt_cmpR (kx_ne (K := K) (u64 hr)) (pv 4) (pe_lst pa_nil) (nomark _)) (pw_and1 (pt_cmpR (kx_eq (K := K) (u64 hr)) (pe_call G_law_pick (hr.mono (by omega)) (by rfl) g_law_pick F_law_pick.kp b_law_pick .nil pass0 (pa_cons (pv 1) (pa_cons pe_int pa_nil))) pe_int (nomark _))))) (pss_one (ps_expr (kx_bm (K := K) PySem.F.plainAttrs_list PySem.F.slot_list_append PySem.F.type_list_append mt_append (pv 4) (pa_cons (pe_callTy (kx_tuple (K := K)) (by rfl) m.tuple (by decide +kernel) (pa_cons (pe_callB (kx_sort (K := K) (u80 hr) rfl) (by rfl) m.sorted (by decide +kernel) (pa_cons (pe_callTy (kx_dictP (K := K) rfl) (by rfl) m.dict (by decide +kernel) (pa_cons (pe_lc (own := [("number", 10)]) rfl sc_law.nd (kx_seq (K := K) (pe_op (kx_add (K := K)) (pe_ix (kx_ix (K := K)) (pv 4) pe_int (fun _ _ => rfl)) (pe_ix (kx_ix (K := K)) (pv 4) (pe_un un_neg pe_int) (fun _ _ => rfl)))) (blkOk_by (by kernel_rfl)) (fun _ _ _ _ _ => (pg_name (i := 10) sc_law.nd rfl (by first | exact Or.inl rfl | exact Or.inr rfl))) (fun _ _ _ _ _ => pts_nil) (fun _ _ _ _ _ => (pe_tup (pa_cons (pv 10) (pa_cons pe_int pa_nil))))) pa_nil)) pa_nil)) pa_nil)) pa_nil)))) pss_nil)
      (pss_cons (ps_set (i := 4) sc_law.nd rfl (Or.inl rfl) (pe_callTy (kx_tuple (K := K)) (by rfl) m.tuple (by decide +kernel) (pa_cons (pe_call G_law_any_order (hr.mono (by omega)) (by rfl) g_law_any_order F_law_any_order.kp b_law_any_order .nil pass0 (pa_cons (pv 1) (pa_cons (pv 4) pa_nil))) pa_nil)))
      (pss_cons (ps_par (i := 7) (j := 8) (by rfl) sc_law.nd rfl rfl (by decide) rfl rfl (pa_cons (pe_callB (kx_repr (K := K) (u80 hr) hcalm) (by rfl) m.repr (by decide +kernel) (pa_cons (pv 4) pa_nil)) (pa_cons (pe_call G_law_meeting (hr.mono (by omega)) (by rfl) g_law_meeting F_law_meeting.kp b_law_meeting .nil pass0 (pa_cons (pv 4) pa_nil)) pa_nil)) (by rfl))
      (pss_cons (ps_if (PW.pt (pw_or (pt_cmpR (kx_ne (K := K) (u64 hr)) (pe_callB (kx_repr (K := K) (u80 hr) hcalm) (by rfl) m.repr (by decide +kernel) (pa_cons (pe_call G_least_meeting (hr.mono (by omega)) (by rfl) g_least_meeting F_least_meeting.kp b_least_meeting .nil pass0 (pa_cons (pv 4) pa_nil)) pa_nil)) (pe_callB (kx_repr (K := K) (u80 hr) hcalm) (by rfl) m.repr (by decide +kernel) (pa_cons (pv 8) pa_nil)) (nomark _)) (pw_or1 (pt_cmpR (kx_ne (K := K) (u64 hr)) (pe_callB (kx_repr (K := K) (u80 hr) hcalm) (by rfl) m.repr (by decide +kernel) (pa_cons (pv 4) pa_nil)) (pv 7) (nomark _))))) (pss_one (ps_ret pe_bl)) pss_nil)
      (pss_cons (ps_set (i := 9) sc_law.nd rfl (Or.inr rfl) (pe_lc (own := [("one", 11)]) rfl sc_law.nd (pi_keys (pe_frz (pe_callTy (kx_dictT (K := K) (u10 hr) rfl) (by rfl) m.dict (by decide +kernel) (pa_cons (pe_lc (own := [("bunch", 12)]) rfl sc_law.nd (kx_seq (K := K) (pv 4)) (blkOk_by (by kernel_rfl)) (fun _ _ _ _ _ => (pg_name (i := 12) sc_law.nd rfl (by first | exact Or.inl rfl | exact Or.inr rfl))) (fun _ _ _ _ _ => pts_nil) (fun _ _ _ _ _ => (pe_tup (pa_cons (pv 12) (pa_cons pe_int pa_nil))))) pa_nil)))) (blkOk_by (by kernel_rfl)) (fun _ _ _ _ _ => (pg_name (i := 11) sc_law.nd rfl (by first | exact Or.inl rfl | exact Or.inr rfl))) (fun _ _ _ _ _ => pts_nil) (fun _ _ _ _ _ => (pv 11))))
      (pss_cons (ps_set (i := 9) sc_law.nd rfl (Or.inr rfl) (pe_lc (own := [("one", 11)]) rfl sc_law.nd (kx_seq (K := K) (pv 9)) (blkOk_by (by kernel_rfl)) (fun _ _ _ _ _ => (pg_name (i := 11) sc_law.nd rfl (by first | exact Or.inl rfl | exact Or.inr rfl))) (fun _ _ _ _ _ => (pts_one (pt_cmpR (kx_eq (K := K) (u64 hr)) (pe_lc (own := [("other", 13)]) rfl sc_law.nd (kx_seq (K := K) (pv 9)) (blkOk_by (by kernel_rfl)) (fun _ _ _ _ _ => (pg_name (i := 13) sc_law.nd rfl (by first | exact Or.inl rfl | exact Or.inr rfl))) (fun _ _ _ _ _ => (pts_one (PW.pt (pw_and (pt_cmpR (kx_ne (K := K) (u64 hr)) (pv 13) (pv 11) (nomark _)) (pw_and1 (pt_val (pe_call G_law_within (hr.mono (by omega)) (by rfl) g_law_within F_law_within.kp b_law_within .nil pass0 (pa_cons (pv 13) (pa_cons (pv 11) pa_nil))))))))) (fun _ _ _ _ _ => (pv 13))) (pe_lst pa_nil) (nomark _)))) (fun _ _ _ _ _ => (pv 11))))
      (pss_cons (ps_if (pt_cmpR (kx_ne (K := K) (u64 hr)) (pe_callB (kx_repr (K := K) (u80 hr) hcalm) (by rfl) m.repr (by decide +kernel) (pa_cons (pe_call G_least_meeting (hr.mono (by omega)) (by rfl) g_least_meeting F_least_meeting.kp b_least_meeting .nil pass0 (pa_cons (pv 8) pa_nil)) pa_nil)) (pe_callB (kx_repr (K := K) (u80 hr) hcalm) (by rfl) m.repr (by decide +kernel) (pa_cons (pe_ifExp (pt_cmpR (kx_notIn (K := K) (u65 hr)) (pe_tup pa_nil) (pv 4) (by rfl)) (pe_callTy (kx_tuple (K := K)) (by rfl) m.tuple (by decide +kernel) (pa_cons (pe_callB (kx_sort (K := K) (u80 hr) rfl) (by rfl) m.sorted (by decide +kernel) (pa_cons (pv 9) pa_nil)) pa_nil)) (pe_tup (pa_cons (pe_tup pa_nil) pa_nil))) pa_nil)) (nomark _)) (pss_one (ps_ret pe_bl)) pss_nil)
      (pss_one (ps_if (pt_cmpR (kx_ne (K := K) (u64 hr)) (pe_call G_least_meeting (hr.mono (by omega)) (by rfl) g_least_meeting F_least_meeting.kp b_least_meeting .nil pass0 (pa_cons (pe_op (kx_add (K := K)) (pv 4) (kx_rev (K := K) (pv 4))) pa_nil)) (pv 8) (nomark _)) (pss_one (ps_ret pe_bl)) pss_nil))))))))))))
      (pss_one (ps_ret (pe_cmpR (kx_eq (K := K) (u64 hr)) (pe_ix (kx_ix (K := K)) (pe_call G_least_meeting (hr.mono (by omega)) (by rfl) g_least_meeting F_least_meeting.kp b_least_meeting .nil pass0 (pa_cons (pe_tup (pa_cons (pe_tup (pa_cons pe_int (pa_cons pe_int pa_nil))) (pa_cons (pe_tup (pa_cons pe_int (pa_cons pe_int pa_nil))) (pa_cons (pe_tup (pa_cons pe_int (pa_cons pe_int pa_nil))) (pa_cons (pe_tup (pa_cons pe_int (pa_cons pe_int pa_nil))) (pa_cons (pe_tup (pa_cons pe_int (pa_cons pe_int pa_nil))) (pa_cons (pe_tup (pa_cons pe_int (pa_cons pe_int pa_nil))) pa_nil))))))) pa_nil)) pe_int (fun _ _ => rfl)) (pe_tup (pa_cons pe_int (pa_cons pe_int (pa_cons pe_int (pa_cons pe_int (pa_cons pe_int (pa_cons pe_int pa_nil))))))) (nomark _)))))), ?_⟩
    have hd : DqAll K H [V.ref aS] [lsD ns] := .cons (.lst hS (dpAll_ints ns)) .nil
    have E0 : Env H [some (bo H (lsD ns)), none, none, none, none, none, none, none, none, none, none, none, none, none] (L2.start ["script", "source", "lap", "many", "bunches", "turn", "some", "shown", "due", "least", "number", "one", "bunch", "other"] [.ref aS]) [] [] H := enterN (.cons arg_bo .nil) hd
    have pk : ∀ (Γ : Ctx K) (z : Src) (n : Int) (te : TE) (a c : Addr), Γ[1]? = some (some (srcA a c z)) → Ev H te Γ Γ (fun _ => da n) → n < 2 ^ 60 →
        Ev H (tCall (sp_law_pick K) [] L2.E0 (tCons (tVar 1) (tCons te tNil))) Γ (Γ.set 1 (some (srcA a c (pick z n).2))) (fun _ => da (pick z n).1) := fun Γ z n te a c hi he hn =>
      ev_callS (K := K) (Fh := H) (E0 := L2.E0) (pre := fun x : Src × Int => x.2 < 2 ^ 60) (z0 := (·.1)) (z1 := fun x => (pick x.1 x.2).2) (ins := fun x => [toD x.2]) (res := fun x => da (pick x.1 x.2).1) (z, n) (i := 1) hi (eva_cons he eva_nil) hi (seenA_cons seen_da seenA_nil) hn
    have lm : ∀ (Γ Γ1 : Ctx K) (B : List (List Int)) (te : TE), Ev H te Γ Γ1 (fun _ => da B) → (B.length ≤ 10000 ∧ ∀ b ∈ B, Bm.Ok b) →
        Ev H (tCall (sp_least_meeting K) [] L2.E0 (tCons te tNil)) Γ Γ1 (fun _ => da (Bm.meeting B)) := fun Γ Γ1 B te he hB =>
      ev_call (K := K) (Fh := H) (E0 := L2.E0) (pre := fun B : List (List Int) => B.length ≤ 10000 ∧ ∀ b ∈ B, Bm.Ok b) (ins := fun B => [toD B]) (res := fun B => da (Bm.meeting B)) B (eva_cons he eva_nil) (seenA_cons seen_da seenA_nil) hB
    refine do_set E0 (ev_call (E0 := L2.E0) (pre := fun ns : List Int => ns.length ≤ 10000) (ins := fun ns => [lsD ns]) (res := fun ns => srcO (openCells ns)) ns (eva_cons (ev_bo (i := 0) rfl) eva_nil) (seenA_cons seen_bo seenA_nil) (Nat.le_trans hlen (by decide))) (lt_ rfl) fun σ1 H1 E1 => ?_
    obtain ⟨a, c, E2⟩ := E1.nameS (i := 1) rfl
    let s0 : Option (Sl K) := some (bo H (lsD ns))
    refine do_forX (S := Src) (Gx := fun _ y z => [s0, some (srcA a c z), some (da y), none, none, none, none, none, none, none, none, none, none, none]) (fun _ z => [s0, some (srcA a c z), none, none, none, none, none, none, none, none, none, none, none, none]) (fun _ _ => True) (openCells ns) E2 (ew_rng1 ev_int (by decide) (by decide)) (Le.refl _) trivial (fun _ _ => trivial) (fun pre y z => eg_name (i := 2) (lt_ rfl)) (fun pre lap post z σ3 H3 t3 ws3 _ _ E3 => ?_) fun z σ3 H3 _ E3 => ?_
    · -- many, bunches
      refine do_par E3 (ev_addI ev_int (pk _ z 11 _ a c rfl ev_int (by decide))) (ev_lst (xs := ([] : List (List Int))) eva_nil seenA_nil (Nat.zero_le _)) (lt_ rfl) (lt_ rfl) (by decide) fun σ4 H4 E4 => ?_
      have many : ∃ N : Nat, N ≤ 12 ∧ (2 + (pick z 11).1) = (N : Int) := by
        have h1 := pick_low z (m := 11)
        have h2 := pick_high z (m := 11) (by decide)
        exact ⟨(2 + (pick z 11).1).toNat, by omega, by omega⟩
      obtain ⟨N, hN, eN⟩ := many
      have E4 : Env H [s0, some (srcA a c (pick z 11).2), some (da lap), some (da (2 + (pick z 11).1)), some (ol ([] : List (List Int))), none, none, none, none, none, none, none, none, none] σ4 _ _ H4 := E4
      rw [eN] at E4
      generalize (pick z 11).2 = z1 at E4
      have r7 := pick_low z1 (m := 7)
      have r7b := pick_high z1 (m := 7) (by decide)
      have l7 : (rng 0 (pick z1 7).1.toNat).length ≤ 7 := by rw [rng_len]; omega
      refine do_forX (S := Src × List (List Int)) (Gx := fun _ y s => [s0, some (srcA a c s.1), some (da lap), some (da (N : Int)), some (ol s.2), some (da y), none, none, none, none, none, none, none, none]) (fun _ s => [s0, some (srcA a c s.1), some (da lap), some (da (N : Int)), some (ol s.2), none, none, none, none, none, none, none, none, none]) (fun pre s => s.2.length ≤ pre.length ∧ ∀ b ∈ s.2, Bm.Ok b) ((pick z1 7).2, []) E4 (ew_rng1 (pk _ z1 7 _ a c rfl ev_int (by decide)) (by omega) (by omega)) (Le.refl _) ⟨Nat.le_refl 0, fun b h => absurd h (by simp)⟩ (fun _ _ => trivial) (fun pre y s => eg_name (i := 5) (lt_ rfl)) (fun pre turn post s σ5 H5 t5 ws5 ex5 is E5 => ?_) fun s σ5 H5 is E5 => ?_
      · obtain ⟨z2, bs⟩ := s
        obtain ⟨is1, is2⟩ := is
        have is1 : bs.length ≤ pre.length := is1
        have is2 : ∀ b ∈ bs, Bm.Ok b := is2
        have lp : pre.length ≤ 7 := by
          have q := congrArg List.length ex5
          rw [List.length_append, List.length_cons] at q
          omega
        have lb : bs.length ≤ 7 := Nat.le_trans is1 lp
        let Δ : Src → Option (Sl K) → Ctx K := fun z6 n => [s0, some (srcA a c z6), some (da lap), some (da (N : Int)), some (ol bs), some (da turn), none, none, none, none, n, none, none, none]
        have eN2 : ((N : Int)).toNat = N := Int.toNat_natCast N
        -- some = [..]
        have qs := ev_lc (K := K) (Fh := H) (δ := Int) (α := Int) (Γ := Δ z2 none) (Gx := fun p y => Δ (chosen 3 z2 p).2 (some (da y))) (Gt := fun p y => Δ (pick (chosen 3 z2 p).2 3).2 (some (da y))) (b := fun p y => decide ((pick (chosen 3 z2 p).2 3).1 = 0)) (fun p => Δ (chosen 3 z2 p).2 none) (fun p => (chosen 3 z2 p).1)
          (ew_rng1 (ev_da (i := 3) rfl) (by omega) (by omega)) (Le.refl _) (fun _ => trivial) (fun p j hj s e => by
            have ej : j = 10 := by simpa using hj
            subst ej
            exact nomatch e) (fun p y => eg_name (i := 10) (lt_ rfl)) rfl (by rw [rng_len, eN2]; exact Nat.le_trans hN (by decide)) (fun p y post e => evt_t (ev_eq (pk (Δ (chosen 3 z2 p).2 (some (da y))) _ 3 _ a c rfl ev_int (by decide)) ev_int seen_da seen_da (by decide))) (fun p y post e hb => ⟨y, _, ev_da (i := 10) rfl, ?_, ?_⟩) (fun p y post e hb => ⟨?_, ?_⟩)
        · refine do_set E5 qs (lt_ rfl) fun σ6 H6 E6 => ?_
          rw [eN2] at E6
          have hc := chosen_le 3 z2 (rng 0 N)
          generalize chosen 3 z2 (rng 0 N) = ch at E6 hc
          obtain ⟨some_, z3⟩ := ch
          have hso : Bm.Ok some_ := ok_sub (ok_rng hN) hc
          have hco : Bm.Ok (cut some_ none (some 5)) := ok_sub hso (cut_sub _ _ _)
          have E6 : Env H [s0, some (srcA a c z3), some (da lap), some (da (N : Int)), some (ol bs), some (da turn), some (ol some_), none, none, none, none, none, none, none] σ6 _ _ H6 := E6
          have qe := ev_if (K := K) (Fh := H) (evt_t (ev_gt (pk [s0, some (srcA a c z3), some (da lap), some (da (N : Int)), some (ol bs), some (da turn), some (ol some_), none, none, none, none, none, none, none] z3 30 _ a c rfl ev_int (by decide)) (ev_int (i := 0)))) (fun _ => ev_tupL (ev_slL (ev_al (i := 6) rfl) evp_no (evp_some (ev_int (i := 5))) (seen_al rfl seen_ol)) seen_ol) (fun _ => ev_tup (xs := ([] : List Int)) eva_nil seenA_nil (Nat.zero_le _))
          refine do_expr E6 (ev_append (i := 4) qe rfl rfl (Nat.lt_of_le_of_lt lb (by decide))) fun H7 E7 => ⟨(_, _), ⟨?_, ?_⟩, E7.weak (.keep (.keep (.keep (.keep (.keep (.drop (.drop (.keep (.keep (.keep (.keep (.keep (.keep (.keep .nil))))))))))))))⟩
          · rw [List.length_append, List.length_append, List.length_singleton, List.length_singleton]
            omega
          · intro b hb
            rw [List.mem_append, List.mem_singleton] at hb
            rcases hb with z | rfl
            · exact is2 b z
            · split
              · exact hco
              · exact ⟨List.Pairwise.nil, fun n h => absurd h (by simp)⟩
        · have e2 : chosen 3 z2 (p ++ [y]) = ((chosen 3 z2 p).1 ++ [y], (pick (chosen 3 z2 p).2 3).2) := by
            unfold chosen at hb ⊢
            rw [List.foldl_append]
            show ((if _ = 0 then _ else _), _) = _
            rw [if_pos (of_decide_eq_true hb)]
          rw [e2]
          exact le_set (Γ := Δ (pick (chosen 3 z2 p).2 3).2 none) (i := 10) rfl
        · have e2 : chosen 3 z2 (p ++ [y]) = ((chosen 3 z2 p).1 ++ [y], (pick (chosen 3 z2 p).2 3).2) := by
            unfold chosen at hb ⊢
            rw [List.foldl_append]
            show ((if _ = 0 then _ else _), _) = _
            rw [if_pos (of_decide_eq_true hb)]
          rw [e2]
        · have e2 : chosen 3 z2 (p ++ [y]) = ((chosen 3 z2 p).1, (pick (chosen 3 z2 p).2 3).2) := by
            unfold chosen at hb ⊢
            rw [List.foldl_append]
            show ((if _ = 0 then _ else _), _) = _
            rw [if_neg (of_decide_eq_false hb)]
          rw [e2]
          exact le_set (Γ := Δ (pick (chosen 3 z2 p).2 3).2 none) (i := 10) rfl
        · have e2 : chosen 3 z2 (p ++ [y]) = ((chosen 3 z2 p).1, (pick (chosen 3 z2 p).2 3).2) := by
            unfold chosen at hb ⊢
            rw [List.foldl_append]
            show ((if _ = 0 then _ else _), _) = _
            rw [if_neg (of_decide_eq_false hb)]
          rw [e2]
      · obtain ⟨z2, bs⟩ := s
        obtain ⟨is1, is2⟩ := is
        have is2 : ∀ b ∈ bs, Bm.Ok b := is2
        have lb : bs.length ≤ 7 := Nat.le_trans is1 l7
        let Δ : Src → List (List Int) → Ctx K := fun z bs => [s0, some (srcA a c z), some (da lap), some (da (N : Int)), some (ol bs), none, none, none, none, none, none, none, none, none]
        have t1 := evt_t (ev_neL (K := K) (Fh := H) (Γ := Δ z2 bs) (x := bs) (y := []) (ev_al (i := 4) rfl) (ev_lst (xs := ([] : List (List Int))) eva_nil seenA_nil (Nat.zero_le _)) (seen_al rfl seen_ol) seen_ol (by decide))
        have t2 := evt_t (ev_eq (K := K) (Fh := H) (pk (Δ z2 bs) z2 3 _ a c rfl ev_int (by decide)) (ev_int (i := 0)) seen_da seen_da (by decide))
        refine do_ifJ (S := Src × List (List Int)) (fun s => Δ s.1 s.2) (fun s => s.2.length ≤ 8 ∧ ∀ b ∈ s.2, Bm.Ok b) E5 (evt_and t1 fun _ => t2) (fun rest hb H6 E6 => ?_) (fun rest hb H6 E6 => ?_) fun s σ6 H6 is E6 => ?_
        · rw [Bool.and_eq_true] at hb
          have hne : bs ≠ [] := by simpa using hb.1
          rw [if_pos hb.1] at E6
          obtain ⟨x0, r0, e0⟩ : ∃ x r, bs = x :: r := by
            cases bs with
            | nil => exact absurd rfl hne
            | cons x r => exact ⟨x, r, rfl⟩
          have at0 : atI bs 0 = some x0 := by rw [e0]; exact atI_nat (j := 0) rfl
          have atl : atI bs (-1) = some (bs.getLast hne) := (congrArg (fun l => atI l (-1)) (List.dropLast_concat_getLast hne).symm).trans (atI_last _ _)
          have ok0 : Bm.Ok x0 := is2 x0 (by rw [e0]; simp)
          have okl : Bm.Ok (bs.getLast hne) := is2 _ (List.getLast_mem hne)
          have l2 : x0.length + (bs.getLast hne).length ≤ 24 := by
            have := ok0.len
            have := okl.len
            omega
          generalize hxl : bs.getLast hne = xl at atl okl l2
          have E6 : Env H (Δ (pick z2 3).2 bs) σ5 _ _ H6 := E6
          generalize (pick z2 3).2 = z3 at E6
          have qc := ev_cat (K := K) (Fh := H) (Γ := Δ z3 bs) (ev_ixL (ev_al (i := 4) rfl) ev_int (seen_al rfl seen_ol) at0) (ev_ixL (ev_al (i := 4) rfl) (ev_neg ev_int) (seen_al rfl seen_ol) atl) seen_da seen_da (Nat.le_trans l2 (by decide))
          have qd := ev_dictI (K := K) (Fh := H) (ev_lcm (i := 10) (fun n : Int => (n, (0 : Int))) (ws_tupD qc) trivial rfl (by rw [List.length_append]; exact Nat.le_trans l2 (by decide)) fun n _ => ev_tup2 (ev_da (i := 10) rfl) (ev_int (i := 0))) seen_ol
          have qs := ev_sorted qd seenC_dI (sortOk_int _)
          rw [dict_keys, srtd_int] at qs
          have okn : Bm.Ok (Bm.srtI (Bm.keys [] (x0 ++ xl))) := ok_keys fun n hn => by
            rw [List.mem_append] at hn
            rcases hn with z | z
            · exact ok0.2 n z
            · exact okl.2 n z
          refine do_expr E6 (ev_append (i := 4) (ev_tupL qs seen_ol) rfl rfl (Nat.lt_of_le_of_lt lb (by decide))) fun H7 E7 => rest (z3, bs ++ [_]) _ _ ⟨?_, fun b hb => ?_⟩ E7
          · show (bs ++ [_]).length ≤ 8
            rw [List.length_append, List.length_singleton]
            omega
          · rw [List.mem_append, List.mem_singleton] at hb
            rcases hb with z | rfl
            · exact is2 b z
            · exact okn
        · by_cases q : (!decide (bs = [])) = true
          · rw [if_pos q] at E6
            exact rest ((pick z2 3).2, bs) _ _ ⟨Nat.le_trans lb (by decide), is2⟩ E6
          · rw [if_neg q] at E6
            exact rest (z2, bs) _ _ ⟨Nat.le_trans lb (by decide), is2⟩ E6
        · obtain ⟨z3, bs2⟩ := s
          obtain ⟨lb2, ok2⟩ := is
          have lb2 : bs2.length ≤ 8 := lb2
          have ok2 : ∀ b ∈ bs2, Bm.Ok b := ok2
          have qa := ev_callS (K := K) (Fh := H) (E0 := L2.E0) (Γ := Δ z3 bs2) (pre := fun x : Src × List (List Int) => x.2.length ≤ 10000) (z0 := (·.1)) (z1 := fun x => (drawn x.1 x.2 x.2.length).src) (ins := fun x => [lsD x.2]) (res := fun x => ol (drawn x.1 x.2 x.2.length).out) (z3, bs2) (i := 1) rfl (eva_cons (ev_al (i := 4) rfl) eva_nil) rfl (seenA_cons (seen_al (i := 4) rfl seen_ol) seenA_nil) (Nat.le_trans lb2 (by decide))
          refine do_set E6 (ev_tupL qa seen_ol) (lt_ rfl) fun σ7 H7 E7 => ?_
          have pB := drawn_perm z3 bs2
          have E7 : Env H [s0, some (srcA a c (drawn z3 bs2 bs2.length).src), some (da lap), some (da (N : Int)), some (da (drawn z3 bs2 bs2.length).out), none, none, none, none, none, none, none, none, none] σ7 _ _ H7 := E7
          generalize (drawn z3 bs2 bs2.length).src = z4 at E7
          generalize (drawn z3 bs2 bs2.length).out = B at E7 pB
          have lB : B.length ≤ 8 := by rw [pB.length_eq]; exact lb2
          have okB : ∀ b ∈ B, Bm.Ok b := fun b hb => ok2 b (pB.mem_iff.mp hb)
          have hB : B.length ≤ 10000 ∧ ∀ b ∈ B, Bm.Ok b := ⟨Nat.le_trans lB (by decide), okB⟩
          have M := Bm.meeting_is B
          have okD := M.ok okB
          have nD := M.many okB
          have M2 := Bm.meeting_is (Bm.meeting B)
          have okD2 := M2.ok okD
          have nD2 := M2.many okD
          have rv := Bm.meeting_rev B
          have tw := Bm.meeting_twice (B := B) (l := Bm.keys [] B) (fun b hb => (okB b hb).1) (Bm.keys_nodup B [] List.nodup_nil) fun s => by rw [Bm.keys_mem]; simp
          have hDl : (Bm.meeting B).length ≤ 10000 := Nat.le_trans nD (by decide)
          have hD2l : (Bm.meeting (Bm.meeting B)).length ≤ 10000 := Nat.le_trans nD2 (by decide)
          -- shown, due
          refine do_par E7 (ev_reprR (ev_da (i := 4) rfl) seen_da okB hB.1) (ev_call (E0 := L2.E0) (pre := fun B : List (List Int) => B.length ≤ 10000 ∧ ∀ b ∈ B, Bm.Ok b) (ins := fun B => [toD B]) (res := fun B => da (Bm.meeting B)) B (eva_cons (ev_da (i := 4) rfl) eva_nil) (seenA_cons seen_da seenA_nil) hB) (lt_ rfl) (lt_ rfl) (by decide) fun σ8 H8 E8 => ?_
          let Λ : Option (Sl K) → Ctx K := fun n => [s0, some (srcA a c z4), some (da lap), some (da (N : Int)), some (da B), none, none, some (tx (PyData.shown (toD B))), some (da (Bm.meeting B)), n, none, none, none, none]
          have t7 := evt_or' (evt_t (ev_neX (K := K) (Fh := H) (ev_reprR (lm (Λ none) (Λ none) B _ (ev_da (i := 4) rfl) hB) seen_da okD hDl) (ev_reprR (ev_da (i := 8) rfl) seen_da okD hDl))) fun _ => evt_t (ev_neX (ev_reprR (ev_da (i := 4) rfl) seen_da okB hB.1) (ev_tx (i := 7) rfl))
          refine do_if E8 t7 (fun hb => absurd hb (by simp)) fun _ H9 E9 => ?_
          -- least
          have qk := ew_keysL (K := K) (Fh := H) (any := false) (ev_dictL (Γ := Λ none) (ev_lcm (i := 12) (fun b : List Int => (b, (0 : Int))) (ws_tupD (ev_da (i := 4) rfl)) trivial rfl (Nat.le_trans lB (by decide)) fun b _ => ev_tup2 (ev_da (i := 12) rfl) (ev_int (i := 0))) seen_ol)
          rw [dict_keys] at qk
          have lk : (Bm.keys [] B).length ≤ 8 := by
            have := Bm.keys_len B []
            simp only [List.length_nil, Nat.zero_add] at this
            omega
          refine do_set E9 (ev_lcm (i := 11) (fun one : List Int => one) qk trivial rfl (Nat.le_trans lk (by decide)) fun one _ => ev_da (i := 11) rfl) (lt_ rfl) fun σ10 H10 E10 => ?_
          rw [List.map_id'] at E10
          have memk : ∀ s ∈ Bm.keys [] B, s ∈ B := fun s hs => by
            rw [Bm.keys_mem] at hs
            simpa using hs
          have qf := ev_lcf (K := K) (Fh := H) (Γ := Λ (some (ol (Bm.keys [] B)))) (i := 11) (fun one => decide (((Bm.keys [] B).filter fun other => !decide (other = one) && Bm.part other one) = [])) (ws_slot (i := 9) rfl) rfl rfl (Nat.le_trans lk (by decide)) fun one _ =>
            evt_t (ev_eqL (ev_lcf (i := 13) (fun other => !decide (other = one) && Bm.part other one) (ws_slot (i := 9) rfl) rfl rfl (Nat.le_trans lk (by decide)) fun other ho => evt_and' (evt_t (ev_ne (ev_da (i := 13) rfl) (ev_da (i := 11) rfl) seen_da seen_da (by decide))) fun _ => evt_b (ev_call (E0 := L2.E0) (pre := fun x : List Int × List Int => x.1.length ≤ 1000) (ins := fun x => [toD x.1, toD x.2]) (res := fun x => da (Bm.part x.1 x.2)) (other, one) (eva_cons (ev_da (i := 13) rfl) (eva_cons (ev_da (i := 11) rfl) eva_nil)) (seenA_cons seen_da (seenA_cons seen_da seenA_nil)) (Nat.le_trans (okB other (memk other ho)).len (by decide)))) (ev_lst (xs := ([] : List (List Int))) eva_nil seenA_nil (Nat.zero_le _)) seen_ol seen_ol (by decide))
          refine do_set E10 qf (lt_ rfl) fun σ11 H11 E11 => ?_
          have E11 : Env H (Λ (some (ol (Bm.leastOf (Bm.keys [] B))))) σ11 _ _ H11 := E11
          have nl : (Bm.leastOf (Bm.keys [] B)).Nodup := List.Nodup.sublist List.filter_sublist (Bm.keys_nodup B [] List.nodup_nil)
          have ml := Bm.leastOf_is (B := B) (l := Bm.keys [] B) fun s => by rw [Bm.keys_mem]; simp
          generalize Bm.leastOf (Bm.keys [] B) = L at E11 nl ml tw
          have q10 := ev_if (K := K) (Fh := H) (Γ := Λ (some (ol L))) (evt_t (ev_notIn (ev_tup (xs := ([] : List Int)) eva_nil seenA_nil (Nat.zero_le _)) (ev_da (i := 4) (x := B) rfl) seen_da seen_da (by decide))) (fun _ => ev_tupL (ev_sorted (ev_al (i := 9) rfl) (seenC_al rfl (seenC_list seen_ol)) (sortOk_rows _ (Bm.no_nil nl (Bm.least_nil ml)))) seen_ol) fun _ => ev_tup (xs := ([[]] : List (List Int))) (eva_cons (ev_tup (xs := ([] : List Int)) eva_nil seenA_nil (Nat.zero_le _)) eva_nil) (seenA_cons seen_da seenA_nil) (Nat.le_trans (Nat.le_refl 1) (by decide))
          have q10 := ev_cast (y := Bm.meeting (Bm.meeting B)) q10 (by
            rw [tw, srtd_rows]
            by_cases h : [] ∈ B <;> simp [h])
          have t10 := evt_t (ev_neX (K := K) (Fh := H) (ev_reprR (lm (Λ (some (ol L))) _ (Bm.meeting B) _ (ev_da (i := 8) rfl) ⟨hDl, okD⟩) seen_da okD2 hD2l) (ev_reprR q10 seen_da okD2 hD2l))
          refine do_if E11 t10 (fun hb => absurd hb (by simp)) fun _ H12 E12 => ?_
          have t11 := evt_t (ev_ne (K := K) (Fh := H) (Γ := Λ (some (ol L))) (x := Bm.meeting (B ++ B.reverse)) (y := Bm.meeting B) (lm _ _ (B ++ B.reverse) _ (ev_cat (ev_da (i := 4) rfl) (ev_rvT (ev_da (i := 4) rfl) seen_da) seen_da seen_da (by rw [List.length_reverse]; exact Nat.le_trans (Nat.add_le_add lB lB) (by decide))) ⟨by rw [List.length_append, List.length_reverse]; omega, fun b hb => by
            rw [List.mem_append, List.mem_reverse] at hb
            exact okB b (hb.elim id id)⟩) (ev_da (i := 8) rfl) seen_da seen_da (by decide))
          rw [rv] at t11
          refine do_if E12 t11 (fun hb => absurd hb (by simp)) fun _ H13 E13 => ⟨z4, trivial, E13.weak ?_⟩
          exact .keep (.keep (.drop (.drop (.drop (.keep (.keep (.drop (.drop (.drop (.keep (.keep (.keep (.keep .nil)))))))))))))
    · have qi : ∀ (Γ : Ctx K) (x y : Int) , Ev H (tTup (tCons (tC (.int x)) (tCons (tC (.int y)) tNil))) Γ Γ (fun _ => da [x, y]) := fun Γ x y => ev_tup (xs := [x, y]) (eva_cons ev_int (eva_cons ev_int eva_nil)) (seenA_cons seen_da (seenA_cons seen_da seenA_nil)) (Nat.le_trans (Nat.le_refl 2) (by decide))
      have q6 := ev_tup (K := K) (Fh := H) (Γ := [s0, some (srcA a c z), none, none, none, none, none, none, none, none, none, none, none, none]) (xs := six) (eva_cons (qi _ 0 1) (eva_cons (qi _ 2 3) (eva_cons (qi _ 4 5) (eva_cons (qi _ 6 7) (eva_cons (qi _ 8 9) (eva_cons (qi _ 10 11) eva_nil)))))) (seenA_cons seen_da (seenA_cons seen_da (seenA_cons seen_da (seenA_cons seen_da (seenA_cons seen_da (seenA_cons seen_da seenA_nil)))))) (Nat.le_trans (Nat.le_refl 6) (by decide))
      have qf := ev_tup (K := K) (Fh := H) (Γ := [s0, some (srcA a c z), none, none, none, none, none, none, none, none, none, none, none, none]) (xs := ([0, 2, 4, 6, 8, 10] : List Int)) (eva_cons ev_int (eva_cons ev_int (eva_cons ev_int (eva_cons ev_int (eva_cons ev_int (eva_cons ev_int eva_nil)))))) (seenA_cons seen_da (seenA_cons seen_da (seenA_cons seen_da (seenA_cons seen_da (seenA_cons seen_da (seenA_cons seen_da seenA_nil)))))) (Nat.le_trans (Nat.le_refl 6) (by decide))
      refine do_ret E3 (ev_eq (ev_ixT (lm _ _ six _ q6 ⟨by decide, six_ok⟩) ev_int seen_da six_first) qf seen_da seen_da (by decide)) fun v H' E => ?_
      obtain ⟨S, dv⟩ := E.p0
      have dv : Dq K H' v (.bool (decide (([0, 2, 4, 6, 8, 10] : List Int) = [0, 2, 4, 6, 8, 10]))) := dv
      rw [decide_eq_true rfl] at dv
      cases dv
      exact o H'
end
end K63

namespace K63
open PySem
open PySem.Spec
open PyProof.Rows
open L2
open Sx
/-! ### what the top has written -/
theorem all_mk {l : PySem.W.OpenLaw} {w : World} {K : PySem.W.Frag} {h : Heap}
  {mg : Str → Option Value} {fa : Addr} (KX : K.In h) (G : h.Ns mainGlobals mg)
  (hfa : mg "law" = some (.ref fa))
  {f0 : Addr} {oc0 kV0 dc0 pm0 cd0 ct0 : Value} {od0 an0 : Option Addr} {sl0 : Array (Option Value)}
  (a0 : PySem.W.nsIn K mainGlobals "more" = some (some (.ref f0)))
  (l0 : K.lookup f0 = some ⟨oc0, od0, .func (PySem.W.fnOf "more" "more" (defArgs st_more) (defBody st_more)
    (defScope st_more) .none kV0 dc0 pm0 an0 cd0 ct0), sl0⟩)
  (c0 : PySem.W.codeIn K cd0 "more" = true) (k0 : PySem.W.keepIn K (.ref f0) = true)
  {f1 : Addr} {oc1 kV1 dc1 pm1 cd1 ct1 : Value} {od1 an1 : Option Addr} {sl1 : Array (Option Value)}
  (a1 : PySem.W.nsIn K mainGlobals "is_bunch_part" = some (some (.ref f1)))
  (l1 : K.lookup f1 = some ⟨oc1, od1, .func (PySem.W.fnOf "is_bunch_part" "is_bunch_part" (defArgs st_is_bunch_part) (defBody st_is_bunch_part)
    (defScope st_is_bunch_part) .none kV1 dc1 pm1 an1 cd1 ct1), sl1⟩)
  (c1 : PySem.W.codeIn K cd1 "is_bunch_part" = true) (k1 : PySem.W.keepIn K (.ref f1) = true)
  {f2 : Addr} {oc2 kV2 dc2 pm2 cd2 ct2 : Value} {od2 an2 : Option Addr} {sl2 : Array (Option Value)}
  (a2 : PySem.W.nsIn K mainGlobals "least_ones" = some (some (.ref f2)))
  (l2 : K.lookup f2 = some ⟨oc2, od2, .func (PySem.W.fnOf "least_ones" "least_ones" (defArgs st_least_ones) (defBody st_least_ones)
    (defScope st_least_ones) .none kV2 dc2 pm2 an2 cd2 ct2), sl2⟩)
  (c2 : PySem.W.codeIn K cd2 "least_ones" = true) (k2 : PySem.W.keepIn K (.ref f2) = true)
  {f3 : Addr} {oc3 kV3 dc3 pm3 cd3 ct3 : Value} {od3 an3 : Option Addr} {sl3 : Array (Option Value)}
  (a3 : PySem.W.nsIn K mainGlobals "least_meeting" = some (some (.ref f3)))
  (l3 : K.lookup f3 = some ⟨oc3, od3, .func (PySem.W.fnOf "least_meeting" "least_meeting" (defArgs st_least_meeting) (defBody st_least_meeting)
    (defScope st_least_meeting) .none kV3 dc3 pm3 an3 cd3 ct3), sl3⟩)
  (c3 : PySem.W.codeIn K cd3 "least_meeting" = true) (k3 : PySem.W.keepIn K (.ref f3) = true)
  {f4 : Addr} {oc4 kV4 dc4 pm4 cd4 ct4 : Value} {od4 an4 : Option Addr} {sl4 : Array (Option Value)}
  (a4 : PySem.W.nsIn K mainGlobals "_law_open_cells" = some (some (.ref f4)))
  (l4 : K.lookup f4 = some ⟨oc4, od4, .func (PySem.W.fnOf "_law_open_cells" "_law_open_cells" (defArgs st_law_open_cells) (defBody st_law_open_cells)
    (defScope st_law_open_cells) .none kV4 dc4 pm4 an4 cd4 ct4), sl4⟩)
  (c4 : PySem.W.codeIn K cd4 "_law_open_cells" = true) (k4 : PySem.W.keepIn K (.ref f4) = true)
  {f5 : Addr} {oc5 kV5 dc5 pm5 cd5 ct5 : Value} {od5 an5 : Option Addr} {sl5 : Array (Option Value)}
  (a5 : PySem.W.nsIn K mainGlobals "_law_pick" = some (some (.ref f5)))
  (l5 : K.lookup f5 = some ⟨oc5, od5, .func (PySem.W.fnOf "_law_pick" "_law_pick" (defArgs st_law_pick) (defBody st_law_pick)
    (defScope st_law_pick) .none kV5 dc5 pm5 an5 cd5 ct5), sl5⟩)
  (c5 : PySem.W.codeIn K cd5 "_law_pick" = true) (k5 : PySem.W.keepIn K (.ref f5) = true)
  {f6 : Addr} {oc6 kV6 dc6 pm6 cd6 ct6 : Value} {od6 an6 : Option Addr} {sl6 : Array (Option Value)}
  (a6 : PySem.W.nsIn K mainGlobals "_law_any_order" = some (some (.ref f6)))
  (l6 : K.lookup f6 = some ⟨oc6, od6, .func (PySem.W.fnOf "_law_any_order" "_law_any_order" (defArgs st_law_any_order) (defBody st_law_any_order)
    (defScope st_law_any_order) .none kV6 dc6 pm6 an6 cd6 ct6), sl6⟩)
  (c6 : PySem.W.codeIn K cd6 "_law_any_order" = true) (k6 : PySem.W.keepIn K (.ref f6) = true)
  {f7 : Addr} {oc7 kV7 dc7 pm7 cd7 ct7 : Value} {od7 an7 : Option Addr} {sl7 : Array (Option Value)}
  (a7 : PySem.W.nsIn K mainGlobals "_law_within" = some (some (.ref f7)))
  (l7 : K.lookup f7 = some ⟨oc7, od7, .func (PySem.W.fnOf "_law_within" "_law_within" (defArgs st_law_within) (defBody st_law_within)
    (defScope st_law_within) .none kV7 dc7 pm7 an7 cd7 ct7), sl7⟩)
  (c7 : PySem.W.codeIn K cd7 "_law_within" = true) (k7 : PySem.W.keepIn K (.ref f7) = true)
  {f8 : Addr} {oc8 kV8 dc8 pm8 cd8 ct8 : Value} {od8 an8 : Option Addr} {sl8 : Array (Option Value)}
  (a8 : PySem.W.nsIn K mainGlobals "_law_meets_all" = some (some (.ref f8)))
  (l8 : K.lookup f8 = some ⟨oc8, od8, .func (PySem.W.fnOf "_law_meets_all" "_law_meets_all" (defArgs st_law_meets_all) (defBody st_law_meets_all)
    (defScope st_law_meets_all) .none kV8 dc8 pm8 an8 cd8 ct8), sl8⟩)
  (c8 : PySem.W.codeIn K cd8 "_law_meets_all" = true) (k8 : PySem.W.keepIn K (.ref f8) = true)
  {f9 : Addr} {oc9 kV9 dc9 pm9 cd9 ct9 : Value} {od9 an9 : Option Addr} {sl9 : Array (Option Value)}
  (a9 : PySem.W.nsIn K mainGlobals "_law_meeting" = some (some (.ref f9)))
  (l9 : K.lookup f9 = some ⟨oc9, od9, .func (PySem.W.fnOf "_law_meeting" "_law_meeting" (defArgs st_law_meeting) (defBody st_law_meeting)
    (defScope st_law_meeting) .none kV9 dc9 pm9 an9 cd9 ct9), sl9⟩)
  (c9 : PySem.W.codeIn K cd9 "_law_meeting" = true) (k9 : PySem.W.keepIn K (.ref f9) = true)
  {f10 : Addr} {oc10 kV10 dc10 pm10 cd10 ct10 : Value} {od10 an10 : Option Addr} {sl10 : Array (Option Value)}
  (a10 : PySem.W.nsIn K mainGlobals "law" = some (some (.ref f10)))
  (l10 : K.lookup f10 = some ⟨oc10, od10, .func (PySem.W.fnOf "law" "law" (defArgs st_law) (defBody st_law)
    (defScope st_law) .none kV10 dc10 pm10 an10 cd10 ct10), sl10⟩)
  (c10 : PySem.W.codeIn K cd10 "law" = true) (k10 : PySem.W.keepIn K (.ref f10) = true)
  (z_len : PySem.W.nsIn K mainGlobals "len" = some none)
  (z_any : PySem.W.nsIn K mainGlobals "any" = some none)
  (z_all : PySem.W.nsIn K mainGlobals "all" = some none)
  (z_sorted : PySem.W.nsIn K mainGlobals "sorted" = some none)
  (z_tuple : PySem.W.nsIn K mainGlobals "tuple" = some none)
  (z_list : PySem.W.nsIn K mainGlobals "list" = some none)
  (z_int : PySem.W.nsIn K mainGlobals "int" = some none)
  (z_abs : PySem.W.nsIn K mainGlobals "abs" = some none)
  (z_repr : PySem.W.nsIn K mainGlobals "repr" = some none)
  (z_dict : PySem.W.nsIn K mainGlobals "dict" = some none)
  (z_range : PySem.W.nsIn K mainGlobals "range" = some none)
  : ∃ fd : FuncData,
    (∀ (s : Shared) (v : Value), BindsTo s fd ⟨[v], []⟩ [("script", v)]) ∧
    ∀ base : Heap, K.In base → base.Ns mainGlobals mg →
      FnG l.prog w K mg base 4 fa fd ["script"] (sp_law K) := by
  have e := hfa.symm.trans (PySem.W.mg_of KX G a10)
  cases e
  have F0 := fun_mk (st := st_more) l0 c0 k0
  have F1 := fun_mk (st := st_is_bunch_part) l1 c1 k1
  have F2 := fun_mk (st := st_least_ones) l2 c2 k2
  have F3 := fun_mk (st := st_least_meeting) l3 c3 k3
  have F4 := fun_mk (st := st_law_open_cells) l4 c4 k4
  have F5 := fun_mk (st := st_law_pick) l5 c5 k5
  have F6 := fun_mk (st := st_law_any_order) l6 c6 k6
  have F7 := fun_mk (st := st_law_within) l7 c7 k7
  have F8 := fun_mk (st := st_law_meets_all) l8 c8 k8
  have F9 := fun_mk (st := st_law_meeting) l9 c9 k9
  have F10 := fun_mk (st := st_law) l10 c10 k10
  have b0 := F0.binds (ps := ["bunch", "number"]) fun _ _ _ _ _ _ us hl =>
    match us, hl with | [_, _], _ => rfl
  have b1 := F1.binds (ps := ["one", "other"]) fun _ _ _ _ _ _ us hl =>
    match us, hl with | [_, _], _ => rfl
  have b2 := F2.binds (ps := ["bunches"]) fun _ _ _ _ _ _ us hl =>
    match us, hl with | [_], _ => rfl
  have b3 := F3.binds (ps := ["bunches"]) fun _ _ _ _ _ _ us hl =>
    match us, hl with | [_], _ => rfl
  have b4 := F4.binds (ps := ["script"]) fun _ _ _ _ _ _ us hl =>
    match us, hl with | [_], _ => rfl
  have b5 := F5.binds (ps := ["source", "most"]) fun _ _ _ _ _ _ us hl =>
    match us, hl with | [_, _], _ => rfl
  have b6 := F6.binds (ps := ["source", "things"]) fun _ _ _ _ _ _ us hl =>
    match us, hl with | [_, _], _ => rfl
  have b7 := F7.binds (ps := ["one", "other"]) fun _ _ _ _ _ _ us hl =>
    match us, hl with | [_, _], _ => rfl
  have b8 := F8.binds (ps := ["some", "bunches"]) fun _ _ _ _ _ _ us hl =>
    match us, hl with | [_, _], _ => rfl
  have b9 := F9.binds (ps := ["bunches"]) fun _ _ _ _ _ _ us hl =>
    match us, hl with | [_], _ => rfl
  have nn : Nn mg := ⟨PySem.W.mg_none_of KX G z_len, PySem.W.mg_none_of KX G z_any, PySem.W.mg_none_of KX G z_all, PySem.W.mg_none_of KX G z_sorted, PySem.W.mg_none_of KX G z_tuple, PySem.W.mg_none_of KX G z_list, PySem.W.mg_none_of KX G z_int, PySem.W.mg_none_of KX G z_abs, PySem.W.mg_none_of KX G z_repr, PySem.W.mg_none_of KX G z_dict, PySem.W.mg_none_of KX G z_range⟩
  refine ⟨_, fun s v => ?_, fun base _ _ => ok_law F10 nn
    F0 b0 (PySem.W.mg_of KX G a0)
    F1 b1 (PySem.W.mg_of KX G a1)
    F2 b2 (PySem.W.mg_of KX G a2)
    F3 b3 (PySem.W.mg_of KX G a3)
    F4 b4 (PySem.W.mg_of KX G a4)
    F5 b5 (PySem.W.mg_of KX G a5)
    F6 b6 (PySem.W.mg_of KX G a6)
    F7 b7 (PySem.W.mg_of KX G a7)
    F8 b8 (PySem.W.mg_of KX G a8)
    F9 b9 (PySem.W.mg_of KX G a9)⟩
  exact .of_eq rfl
end K63
open PySem
open PySem.W
open PyProof.Rows
set_option maxHeartbeats 0 in
theorem PySem.Challenge.cw_seenorstruck_k63_least_bunches_that_meet_holds : PySem.Challenge.rw_seenorstruck_k63_least_bunches_that_meet.Holds := by
  w_on
  o_law
  k_head
  (case hw => w_witness2)
  k_fill
  refine Sx.walk_ofG (l := PySem.Challenge.rw_seenorstruck_k63_least_bunches_that_meet) (n := 63)
    (k := 4) (x := "script") (sp := fun K => K63.sp_law K) rfl
    (by decide) rfl ⟨rfl, by decide, by decide⟩
    (fun w h Y => PySem.W.kIn_of Y) ?F
    fun K H a ns hl _ hS => ⟨a, ns, rfl, hS, hl, fun _ => rfl⟩
  case F =>
    intro w mg fa h KX G hmg
    refine' K63.all_mk KX G hmg
      ?a0 ?l0 ?c0 ?k0 ?a1 ?l1 ?c1 ?k1
      ?a2 ?l2 ?c2 ?k2 ?a3 ?l3 ?c3 ?k3
      ?a4 ?l4 ?c4 ?k4 ?a5 ?l5 ?c5 ?k5
      ?a6 ?l6 ?c6 ?k6 ?a7 ?l7 ?c7 ?k7
      ?a8 ?l8 ?c8 ?k8 ?a9 ?l9 ?c9 ?k9
      ?a10 ?l10 ?c10 ?k10 ?z_len ?z_any ?z_all ?z_sorted
      ?z_tuple ?z_list ?z_int ?z_abs ?z_repr ?z_dict ?z_range
    (case a0 => k_is)
    (case l0 => k_is)
    (case c0 => k_is)
    (case k0 => k_is)
    (case a1 => k_is)
    (case l1 => k_is)
    (case c1 => k_is)
    (case k1 => k_is)
    (case a2 => k_is)
    (case l2 => k_is)
    (case c2 => k_is)
    (case k2 => k_is)
    (case a3 => k_is)
    (case l3 => k_is)
    (case c3 => k_is)
    (case k3 => k_is)
    (case a4 => k_is)
    (case l4 => k_is)
    (case c4 => k_is)
    (case k4 => k_is)
    (case a5 => k_is)
    (case l5 => k_is)
    (case c5 => k_is)
    (case k5 => k_is)
    (case a6 => k_is)
    (case l6 => k_is)
    (case c6 => k_is)
    (case k6 => k_is)
    (case a7 => k_is)
    (case l7 => k_is)
    (case c7 => k_is)
    (case k7 => k_is)
    (case a8 => k_is)
    (case l8 => k_is)
    (case c8 => k_is)
    (case k8 => k_is)
    (case a9 => k_is)
    (case l9 => k_is)
    (case c9 => k_is)
    (case k9 => k_is)
    (case a10 => k_is)
    (case l10 => k_is)
    (case c10 => k_is)
    (case k10 => k_is)
    (case z_len => k_is)
    (case z_any => k_is)
    (case z_all => k_is)
    (case z_sorted => k_is)
    (case z_tuple => k_is)
    (case z_list => k_is)
    (case z_int => k_is)
    (case z_abs => k_is)
    (case z_repr => k_is)
    (case z_dict => k_is)
    (case z_range => k_is)
