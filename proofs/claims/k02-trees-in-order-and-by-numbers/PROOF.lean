import PyProof.Rows.All
import HandS.ForMost
import HandS.ForExc
import HandS.TupAny
import HandS.IsInst
import HandS.Deep
import HandS.Defaults
import HandS.Text
import KE.KExcSuper
import KE.KSuper
import HandS.ExcInit
import HandS.ExcField
import HandS.ExcIs
import HandS.TryMany
import KE.KExcIs
import HandS.Style
import HandS.StrMore
import PyProof.Rows.StrMul
import PyProof.StrLawsFirst
import HandS.Conv
import PyProof.Rows.ListStrD
import HandS.RevRange
import KE.KStateDown
import HandS.Ends
import HandS.More
import HandS.Words
import HandS.WordsExc
import HandS.Head0
import HandS.Head1
import HandS.Head2
import HandS.Head3
import HandS.HeadEnd
import HandS.HeadHook1
import HandS.HeadHook2
import PySem.Challenge.RW_treesbeside_k02_trees_in_order_and_by_nu
section
set_option Elab.async false
set_option linter.all false
set_option maxRecDepth 100000
set_option maxHeartbeats 4000000
namespace TB
open PySem PySem.Spec PyProof.Rows L2

/-! ### data: a value with all that it holds; the flags: a list (dict, object) that nothing else refers to -/
inductive D where
  | non | bl (b : Bool) | int (i : Int) | str (x : List Nat)
  | lst (w : Bool) (xs : List D)
  | tup (xs : List D)
  | lk (xs : List D)
  | dK (w : Bool) (ks : List Key) (xs : List D)
  | dT (w : Bool) (ks : List (List Key)) (xs : List D)
  | obj (w : Bool) (c : Nat) (fs : List Str) (xs : List D)

theorem D.ind {P : D → Prop} (non : P .non) (bl : ∀ b, P (.bl b)) (int : ∀ i, P (.int i)) (str : ∀ x, P (.str x))
    (lst : ∀ w xs, (∀ x ∈ xs, P x) → P (.lst w xs)) (tup : ∀ xs, (∀ x ∈ xs, P x) → P (.tup xs)) (lk : ∀ xs, (∀ x ∈ xs, P x) → P (.lk xs))
    (dK : ∀ w ks xs, (∀ x ∈ xs, P x) → P (.dK w ks xs)) (dT : ∀ w ks xs, (∀ x ∈ xs, P x) → P (.dT w ks xs))
    (obj : ∀ w c fs xs, (∀ x ∈ xs, P x) → P (.obj w c fs xs)) : ∀ d, P d :=
  D.rec (motive_1 := P) (motive_2 := fun xs => ∀ x ∈ xs, P x) non bl int str (fun w xs h => lst w xs h) (fun xs h => tup xs h) (fun xs h => lk xs h)
    (fun w ks xs h => dK w ks xs h) (fun w ks xs h => dT w ks xs h) (fun w c fs xs h => obj w c fs xs h) (fun _ h => nomatch h)
    fun x xs hx hxs y hy => by
      rcases List.mem_cons.mp hy with e | e
      · rw [e]; exact hx
      · exact hxs y e

structure Ctx where
  K : PySem.W.Frag
  ce : Nat → Addr

/-- a list of the written part -/
def KL (K : PySem.W.Frag) (a : Addr) (xs : List V) : Prop :=
  ∃ (o : Obj) (its : Array Value) (n : Nat), K.lookup a = some o ∧ o.cls = .type "list" ∧ o.dict = none ∧ o.data = .seq its n ∧ its.size ≤ sizeLine ∧ Vals xs its.toList

/-- a list that nobody writes: locked, or of the written part -/
def LkL (K : PySem.W.Frag) (H : Hp) (a : Addr) (xs : List V) : Prop := (∃ o, H a = some (.frz o (.lst xs))) ∨ KL K a xs
/-- a node that may be written (w), or one that is only read -/
def Nd (H : Hp) (w : Bool) (a : Addr) (u : HO) (o' s' o s : List Addr) : Prop :=
  match w with
  | true => H a = some u ∧ o = a :: o' ∧ s = s'
  | false => H a = some u ∧ o = o' ∧ s = a :: s'

mutual
def Rep (Γ : Ctx) (H : Hp) : D → V → List Addr → List Addr → Prop
  | .non, v, o, s => v = .non ∧ o = [] ∧ s = []
  | .bl b, v, o, s => v = .bl b ∧ o = [] ∧ s = []
  | .int i, v, o, s => v = .int i ∧ o = [] ∧ s = []
  | .str x, v, o, s => v = .str ⟨x.toArray⟩ ∧ o = [] ∧ s = []
  | .lst w ds, v, o, s => ∃ a vs o' s', v = .ref a ∧ Reps Γ H ds vs o' s' ∧ Nd H w a (.lst vs) o' s' o s
  | .tup ds, v, o, s => ∃ a vs, v = .ref a ∧ Reps Γ H ds vs o s ∧ SqT Γ.K H a vs
  | .lk ds, v, o, s => ∃ a vs, v = .ref a ∧ Reps Γ H ds vs o s ∧ LkL Γ.K H a vs
  | .dK w ks ds, v, o, s => ∃ a vs o' s', v = .ref a ∧ ks.length = vs.length ∧ Reps Γ H ds vs o' s' ∧ Nd H w a (.dK (ks.zip vs)) o' s' o s
  | .dT w ks ds, v, o, s => ∃ a vs o' s', v = .ref a ∧ ks.length = vs.length ∧ Reps Γ H ds vs o' s' ∧ Nd H w a (.dT (ks.zip vs)) o' s' o s
  | .obj w c fs ds, v, o, s => ∃ a dx vs o' s', v = .ref a ∧ fs.length = vs.length ∧ Reps Γ H ds vs o' s' ∧ Nd H w a (.ins (Γ.ce c) dx (fs.zip vs)) o' s' o s
def Reps (Γ : Ctx) (H : Hp) : List D → List V → List Addr → List Addr → Prop
  | [], vs, o, s => vs = [] ∧ o = [] ∧ s = []
  | d :: ds, vs, o, s => ∃ v vs' o1 s1 o2 s2, vs = v :: vs' ∧ Rep Γ H d v o1 s1 ∧ Reps Γ H ds vs' o2 s2 ∧ o = o1 ++ o2 ∧ s = s1 ++ s2
end

mutual
/-- read only -/
def fr : D → D
  | .lst _ xs => .lst false (frs xs)
  | .tup xs => .tup (frs xs)
  | .lk xs => .lk (frs xs)
  | .dK _ ks xs => .dK false ks (frs xs)
  | .dT _ ks xs => .dT false ks (frs xs)
  | .obj _ c fs xs => .obj false c fs (frs xs)
  | .non => .non
  | .bl b => .bl b
  | .int i => .int i
  | .str x => .str x
def frs : List D → List D
  | [] => []
  | x :: xs => fr x :: frs xs
end
mutual
/-- nothing in it can be written -/
def imm : D → Bool
  | .lst _ _ => false
  | .tup xs => imms xs
  | .lk xs => imms xs
  | .dK _ _ _ => false
  | .dT _ _ _ => false
  | .obj _ _ _ _ => false
  | .non => true
  | .bl _ => true
  | .int _ => true
  | .str _ => true
def imms : List D → Bool
  | [] => true
  | x :: xs => imm x && imms xs
end
mutual
/-- all that can be written in it is its own -/
def clean : D → Bool
  | .lst w xs => w && cleans xs
  | .tup xs => cleans xs
  | .lk xs => cleans xs
  | .dK w _ xs => w && cleans xs
  | .dT w _ xs => w && cleans xs
  | .obj w _ _ xs => w && cleans xs
  | .non => true
  | .bl _ => true
  | .int _ => true
  | .str _ => true
def cleans : List D → Bool
  | [] => true
  | x :: xs => clean x && cleans xs
end

section
variable {Γ : Ctx} {H H' : Hp}

theorem Reps.len : ∀ {ds : List D} {vs : List V} {o s : List Addr}, Reps Γ H ds vs o s → ds.length = vs.length
  | [], _, _, _, h => by obtain ⟨rfl, _⟩ := h; rfl
  | d :: ds, _, _, _, h => by
    obtain ⟨v, vs', o1, s1, o2, s2, rfl, _, h2, _⟩ := h
    simp [Reps.len h2]
theorem Reps.append : ∀ {ds ds' : List D} {vs vs' : List V} {o s o' s' : List Addr}, Reps Γ H ds vs o s → Reps Γ H ds' vs' o' s' → Reps Γ H (ds ++ ds') (vs ++ vs') (o ++ o') (s ++ s')
  | [], _, _, _, _, _, _, _, h, h' => by obtain ⟨rfl, rfl, rfl⟩ := h; exact h'
  | d :: ds, _, _, _, _, _, _, _, h, h' => by
    obtain ⟨v, vs', o1, s1, o2, s2, rfl, h1, h2, rfl, rfl⟩ := h
    exact ⟨v, _, o1, s1, _, _, rfl, h1, Reps.append h2 h', by simp, by simp⟩
theorem Reps.split : ∀ {ds ds' : List D} {ws : List V} {o s : List Addr}, Reps Γ H (ds ++ ds') ws o s → ∃ vs vs' o1 s1 o2 s2, ws = vs ++ vs' ∧ o = o1 ++ o2 ∧ s = s1 ++ s2 ∧ Reps Γ H ds vs o1 s1 ∧ Reps Γ H ds' vs' o2 s2
  | [], _, ws, o, s, h => ⟨[], ws, [], [], o, s, rfl, rfl, rfl, ⟨rfl, rfl, rfl⟩, h⟩
  | d :: ds, ds', _, _, _, h => by
    obtain ⟨v, vs', o1, s1, o2, s2, rfl, h1, h2, rfl, rfl⟩ := h
    obtain ⟨a, b, o3, s3, o4, s4, rfl, rfl, rfl, h3, h4⟩ := Reps.split h2
    exact ⟨v :: a, b, o1 ++ o3, s1 ++ s3, o4, s4, rfl, by simp, by simp, ⟨v, a, o1, s1, o3, s3, rfl, h1, h3, rfl, rfl⟩, h4⟩
theorem Reps.one {d : D} {v : V} {o s : List Addr} (h : Rep Γ H d v o s) : Reps Γ H [d] [v] o s := ⟨v, [], o, s, [], [], rfl, h, ⟨rfl, rfl, rfl⟩, by simp, by simp⟩
/-- the i-th -/
theorem Reps.get : ∀ {ds : List D} {vs : List V} {o s : List Addr} {i : Nat} {d : D}, Reps Γ H ds vs o s → ds[i]? = some d → ∃ v o1 s1, vs[i]? = some v ∧ Rep Γ H d v o1 s1 ∧ (∀ a ∈ o1, a ∈ o) ∧ ∀ a ∈ s1, a ∈ s
  | [], _, _, _, _, _, _, e => by simp at e
  | d :: ds, _, _, _, 0, _, h, e => by
    obtain ⟨v, vs', o1, s1, o2, s2, rfl, h1, h2, rfl, rfl⟩ := h
    simp at e; subst e
    exact ⟨v, o1, s1, rfl, h1, fun a m => List.mem_append_left _ m, fun a m => List.mem_append_left _ m⟩
  | d :: ds, _, _, _, i + 1, _, h, e => by
    obtain ⟨v, vs', o1, s1, o2, s2, rfl, h1, h2, rfl, rfl⟩ := h
    obtain ⟨w, o3, s3, e3, h3, m1, m2⟩ := Reps.get h2 (by simpa using e)
    exact ⟨w, o3, s3, by simpa using e3, h3, fun a m => List.mem_append_right _ (m1 a m), fun a m => List.mem_append_right _ (m2 a m)⟩

theorem Nd.stay {w : Bool} {a : Addr} {u : HO} {o' s' o s : List Addr} (h : Nd H w a u o' s' o s) (k : ∀ x, H a = some x → (a ∈ o ∨ a ∈ s) → H' a = some x) : Nd H' w a u o' s' o s := by
  cases w with
  | true =>
    obtain ⟨h1, rfl, rfl⟩ := h
    exact ⟨k _ h1 (.inl (by simp)), rfl, rfl⟩
  | false =>
    obtain ⟨h1, rfl, rfl⟩ := h
    exact ⟨k _ h1 (.inr (by simp)), rfl, rfl⟩
theorem Nd.osub {w : Bool} {a : Addr} {u : HO} {o' s' o s : List Addr} (h : Nd H w a u o' s' o s) : (∀ b ∈ o', b ∈ o) ∧ ∀ b ∈ s', b ∈ s := by
  cases w with
  | true => obtain ⟨_, rfl, rfl⟩ := h; exact ⟨fun b m => List.mem_cons_of_mem _ m, fun b m => m⟩
  | false => obtain ⟨_, rfl, rfl⟩ := h; exact ⟨fun b m => m, fun b m => List.mem_cons_of_mem _ m⟩
theorem Nd.it {w : Bool} {a : Addr} {u : HO} {o' s' o s : List Addr} (h : Nd H w a u o' s' o s) : H a = some u := by
  cases w with
  | true => exact h.1
  | false => exact h.1

/-- what is not touched stays -/
theorem Reps.all {P : D → Prop} {H' : Hp} (k : ∀ d v o s, P d → Rep Γ H d v o s → (∀ a, a ∈ o ∨ a ∈ s → ∀ x, H a = some x → H' a = some x) → Rep Γ H' d v o s) :
    ∀ {ds : List D} {vs : List V} {o s : List Addr}, (∀ d ∈ ds, P d) → Reps Γ H ds vs o s → (∀ a, a ∈ o ∨ a ∈ s → ∀ x, H a = some x → H' a = some x) → Reps Γ H' ds vs o s
  | [], _, _, _, _, h, _ => h
  | d :: ds, _, _, _, p, h, q => by
    obtain ⟨v, vs', o1, s1, o2, s2, rfl, h1, h2, rfl, rfl⟩ := h
    exact ⟨v, vs', o1, s1, o2, s2, rfl, k _ _ _ _ (p d (by simp)) h1 (fun a m => q a (m.imp (List.mem_append_left _) (List.mem_append_left _))),
      Reps.all k (fun d m => p d (List.mem_cons_of_mem _ m)) h2 (fun a m => q a (m.imp (List.mem_append_right _) (List.mem_append_right _))), rfl, rfl⟩
def TupKept (H H' : Hp) : Prop := ∀ a x, H a = some x → ¬ Mut (some x) → H' a = some x
theorem sqT_kept {K : PySem.W.Frag} {a : Addr} {vs : List V} (t : TupKept H H') (h : SqT K H a vs) : SqT K H' a vs := by
  rcases h with (h | ⟨o, h⟩) | h
  · exact .inl (.inl (t _ _ h fun z => z))
  · exact .inl (.inr ⟨o, t _ _ h fun z => z⟩)
  · exact .inr h
theorem lkL_kept {K : PySem.W.Frag} {a : Addr} {vs : List V} (t : TupKept H H') (h : LkL K H a vs) : LkL K H' a vs := by
  rcases h with ⟨o, h⟩ | h
  · exact .inl ⟨o, t _ _ h fun z => z⟩
  · exact .inr h
theorem Rep.stay (t : TupKept H H') : ∀ (d : D) (v : V) (o s : List Addr), Rep Γ H d v o s → (∀ a, a ∈ o ∨ a ∈ s → ∀ x, H a = some x → H' a = some x) → Rep Γ H' d v o s := by
  intro d
  induction d using D.ind with
  | non => exact fun _ _ _ h _ => h
  | bl b => exact fun _ _ _ h _ => h
  | int i => exact fun _ _ _ h _ => h
  | str x => exact fun _ _ _ h _ => h
  | lst w xs ih =>
    rintro v o s ⟨a, vs, o', s', rfl, r, n⟩ k
    exact ⟨a, vs, o', s', rfl, Reps.all (P := fun d => ∀ v o s, Rep Γ H d v o s → (∀ a, a ∈ o ∨ a ∈ s → ∀ x, H a = some x → H' a = some x) → Rep Γ H' d v o s) (fun d v o s p => p v o s) ih r (fun b m => k b (m.imp (n.osub.1 b) (n.osub.2 b))), n.stay fun x e m => k a m x e⟩
  | tup xs ih =>
    rintro v o s ⟨a, vs, rfl, r, n⟩ k
    exact ⟨a, vs, rfl, Reps.all (P := fun d => ∀ v o s, Rep Γ H d v o s → (∀ a, a ∈ o ∨ a ∈ s → ∀ x, H a = some x → H' a = some x) → Rep Γ H' d v o s) (fun d v o s p => p v o s) ih r k, sqT_kept t n⟩
  | lk xs ih =>
    rintro v o s ⟨a, vs, rfl, r, n⟩ k
    exact ⟨a, vs, rfl, Reps.all (P := fun d => ∀ v o s, Rep Γ H d v o s → (∀ a, a ∈ o ∨ a ∈ s → ∀ x, H a = some x → H' a = some x) → Rep Γ H' d v o s) (fun d v o s p => p v o s) ih r k, lkL_kept t n⟩
  | dK w ks xs ih =>
    rintro v o s ⟨a, vs, o', s', rfl, e, r, n⟩ k
    exact ⟨a, vs, o', s', rfl, e, Reps.all (P := fun d => ∀ v o s, Rep Γ H d v o s → (∀ a, a ∈ o ∨ a ∈ s → ∀ x, H a = some x → H' a = some x) → Rep Γ H' d v o s) (fun d v o s p => p v o s) ih r (fun b m => k b (m.imp (n.osub.1 b) (n.osub.2 b))), n.stay fun x e m => k a m x e⟩
  | dT w ks xs ih =>
    rintro v o s ⟨a, vs, o', s', rfl, e, r, n⟩ k
    exact ⟨a, vs, o', s', rfl, e, Reps.all (P := fun d => ∀ v o s, Rep Γ H d v o s → (∀ a, a ∈ o ∨ a ∈ s → ∀ x, H a = some x → H' a = some x) → Rep Γ H' d v o s) (fun d v o s p => p v o s) ih r (fun b m => k b (m.imp (n.osub.1 b) (n.osub.2 b))), n.stay fun x e m => k a m x e⟩
  | obj w c fs xs ih =>
    rintro v o s ⟨a, dx, vs, o', s', rfl, e, r, n⟩ k
    exact ⟨a, dx, vs, o', s', rfl, e, Reps.all (P := fun d => ∀ v o s, Rep Γ H d v o s → (∀ a, a ∈ o ∨ a ∈ s → ∀ x, H a = some x → H' a = some x) → Rep Γ H' d v o s) (fun d v o s p => p v o s) ih r (fun b m => k b (m.imp (n.osub.1 b) (n.osub.2 b))), n.stay fun x e m => k a m x e⟩
theorem Reps.stay (t : TupKept H H') {ds : List D} {vs : List V} {o s : List Addr} (h : Reps Γ H ds vs o s) (k : ∀ a, a ∈ o ∨ a ∈ s → ∀ x, H a = some x → H' a = some x) : Reps Γ H' ds vs o s :=
  Reps.all (P := fun _ => True) (fun d v o s _ => Rep.stay t d v o s) (fun _ _ => trivial) h k

/-- what its nodes are: those of its own can be written; all are tracked -/
def Trk (H : Hp) (o s : List Addr) : Prop := (∀ a ∈ o, Mut (H a)) ∧ ∀ a ∈ s, H a ≠ none
theorem Trk.nil : Trk H [] [] := ⟨(fun _ h => nomatch h), (fun _ h => nomatch h)⟩
theorem Trk.app {o s o' s' : List Addr} (h : Trk H o s) (h' : Trk H o' s') : Trk H (o ++ o') (s ++ s') :=
  ⟨fun a m => (List.mem_append.mp m).elim (h.1 a) (h'.1 a), fun a m => (List.mem_append.mp m).elim (h.2 a) (h'.2 a)⟩
theorem Nd.trk {w : Bool} {a : Addr} {u : HO} {o' s' o s : List Addr} (h : Nd H w a u o' s' o s) (m : Mut (some u)) (t : Trk H o' s') : Trk H o s := by
  cases w with
  | true =>
    obtain ⟨h1, rfl, rfl⟩ := h
    refine ⟨fun b hb => ?_, t.2⟩
    rcases List.mem_cons.mp hb with e | e
    · rw [e, h1]; exact m
    · exact t.1 b e
  | false =>
    obtain ⟨h1, rfl, rfl⟩ := h
    refine ⟨t.1, fun b hb => ?_⟩
    rcases List.mem_cons.mp hb with e | e
    · rw [e, h1]; simp
    · exact t.2 b e
theorem Reps.trk0 {P : D → Prop} (k : ∀ d v o s, P d → Rep Γ H d v o s → Trk H o s) : ∀ {ds : List D} {vs : List V} {o s : List Addr}, (∀ d ∈ ds, P d) → Reps Γ H ds vs o s → Trk H o s
  | [], _, _, _, _, h => by obtain ⟨_, rfl, rfl⟩ := h; exact Trk.nil
  | d :: ds, _, _, _, p, h => by
    obtain ⟨v, vs', o1, s1, o2, s2, rfl, h1, h2, rfl, rfl⟩ := h
    exact (k _ _ _ _ (p d (by simp)) h1).app (Reps.trk0 k (fun d m => p d (List.mem_cons_of_mem _ m)) h2)
theorem Rep.trk : ∀ (d : D) (v : V) (o s : List Addr), Rep Γ H d v o s → Trk H o s := by
  intro d
  induction d using D.ind with
  | non => rintro v o s ⟨_, rfl, rfl⟩; exact Trk.nil
  | bl b => rintro v o s ⟨_, rfl, rfl⟩; exact Trk.nil
  | int i => rintro v o s ⟨_, rfl, rfl⟩; exact Trk.nil
  | str x => rintro v o s ⟨_, rfl, rfl⟩; exact Trk.nil
  | lst w xs ih =>
    rintro v o s ⟨a, vs, o', s', rfl, r, n⟩
    exact n.trk trivial (Reps.trk0 (P := fun d => ∀ v o s, Rep Γ H d v o s → Trk H o s) (fun d v o s p => p v o s) ih r)
  | tup xs ih =>
    rintro v o s ⟨a, vs, rfl, r, n⟩
    exact Reps.trk0 (P := fun d => ∀ v o s, Rep Γ H d v o s → Trk H o s) (fun d v o s p => p v o s) ih r
  | lk xs ih =>
    rintro v o s ⟨a, vs, rfl, r, n⟩
    exact Reps.trk0 (P := fun d => ∀ v o s, Rep Γ H d v o s → Trk H o s) (fun d v o s p => p v o s) ih r
  | dK w ks xs ih =>
    rintro v o s ⟨a, vs, o', s', rfl, e, r, n⟩
    exact n.trk trivial (Reps.trk0 (P := fun d => ∀ v o s, Rep Γ H d v o s → Trk H o s) (fun d v o s p => p v o s) ih r)
  | dT w ks xs ih =>
    rintro v o s ⟨a, vs, o', s', rfl, e, r, n⟩
    exact n.trk trivial (Reps.trk0 (P := fun d => ∀ v o s, Rep Γ H d v o s → Trk H o s) (fun d v o s p => p v o s) ih r)
  | obj w c fs xs ih =>
    rintro v o s ⟨a, dx, vs, o', s', rfl, e, r, n⟩
    exact n.trk trivial (Reps.trk0 (P := fun d => ∀ v o s, Rep Γ H d v o s → Trk H o s) (fun d v o s p => p v o s) ih r)
theorem Reps.trk {ds : List D} {vs : List V} {o s : List Addr} (h : Reps Γ H ds vs o s) : Trk H o s := Reps.trk0 (P := fun _ => True) (fun d v o s _ => Rep.trk d v o s) (fun _ _ => trivial) h

/-! ### frozen -/
theorem Nd.frz {w : Bool} {a : Addr} {u : HO} {o' s' o s s'' : List Addr} (h : Nd H w a u o' s' o s) (m : ∀ b ∈ s'', b ∈ o' ∨ b ∈ s') : ∃ s3, Nd H false a u [] s'' [] s3 ∧ ∀ b ∈ s3, b ∈ o ∨ b ∈ s := by
  refine ⟨a :: s'', ⟨h.it, rfl, rfl⟩, fun b hb => ?_⟩
  cases w with
  | true =>
    obtain ⟨h1, rfl, rfl⟩ := h
    rcases List.mem_cons.mp hb with e | e
    · exact .inl (by simp [e])
    · exact (m b e).imp (List.mem_cons_of_mem _) id
  | false =>
    obtain ⟨h1, rfl, rfl⟩ := h
    rcases List.mem_cons.mp hb with e | e
    · exact .inr (by simp [e])
    · exact (m b e).imp id (List.mem_cons_of_mem _)
theorem Reps.frz0 {P : D → Prop} (k : ∀ d v o s, P d → Rep Γ H d v o s → ∃ s', Rep Γ H (fr d) v [] s' ∧ ∀ a ∈ s', a ∈ o ∨ a ∈ s) : ∀ {ds : List D} {vs : List V} {o s : List Addr}, (∀ d ∈ ds, P d) → Reps Γ H ds vs o s → ∃ s', Reps Γ H (frs ds) vs [] s' ∧ ∀ a ∈ s', a ∈ o ∨ a ∈ s
  | [], _, _, _, _, h => by obtain ⟨rfl, rfl, rfl⟩ := h; exact ⟨[], ⟨rfl, rfl, rfl⟩, fun _ h => nomatch h⟩
  | d :: ds, _, _, _, p, h => by
    obtain ⟨v, vs', o1, s1, o2, s2, rfl, h1, h2, rfl, rfl⟩ := h
    obtain ⟨s3, r3, m3⟩ := k _ _ _ _ (p d (by simp)) h1
    obtain ⟨s4, r4, m4⟩ := Reps.frz0 k (fun d m => p d (List.mem_cons_of_mem _ m)) h2
    refine ⟨s3 ++ s4, ⟨v, vs', [], s3, [], s4, rfl, r3, r4, rfl, rfl⟩, fun a m => ?_⟩
    rcases List.mem_append.mp m with m | m
    · exact (m3 a m).imp (List.mem_append_left _) (List.mem_append_left _)
    · exact (m4 a m).imp (List.mem_append_right _) (List.mem_append_right _)
abbrev FrzP (Γ : Ctx) (H : Hp) (d : D) : Prop := ∀ v o s, Rep Γ H d v o s → ∃ s', Rep Γ H (fr d) v [] s' ∧ ∀ a ∈ s', a ∈ o ∨ a ∈ s
theorem Rep.frz : ∀ d : D, FrzP Γ H d := by
  intro d
  induction d using D.ind with
  | non => rintro v o s ⟨rfl, rfl, rfl⟩; exact ⟨[], ⟨rfl, rfl, rfl⟩, fun _ h => nomatch h⟩
  | bl b => rintro v o s ⟨rfl, rfl, rfl⟩; exact ⟨[], ⟨rfl, rfl, rfl⟩, fun _ h => nomatch h⟩
  | int i => rintro v o s ⟨rfl, rfl, rfl⟩; exact ⟨[], ⟨rfl, rfl, rfl⟩, fun _ h => nomatch h⟩
  | str x => rintro v o s ⟨rfl, rfl, rfl⟩; exact ⟨[], ⟨rfl, rfl, rfl⟩, fun _ h => nomatch h⟩
  | lst w xs ih =>
    rintro v o s ⟨a, vs, o', s', rfl, r, n⟩
    obtain ⟨s2, r2, m2⟩ := Reps.frz0 (P := FrzP Γ H) (fun d v o s p => p v o s) ih r
    obtain ⟨s3, n3, m3⟩ := n.frz m2
    exact ⟨s3, ⟨a, vs, [], s2, rfl, r2, n3⟩, m3⟩
  | tup xs ih =>
    rintro v o s ⟨a, vs, rfl, r, n⟩
    obtain ⟨s2, r2, m2⟩ := Reps.frz0 (P := FrzP Γ H) (fun d v o s p => p v o s) ih r
    exact ⟨s2, ⟨a, vs, rfl, r2, n⟩, m2⟩
  | lk xs ih =>
    rintro v o s ⟨a, vs, rfl, r, n⟩
    obtain ⟨s2, r2, m2⟩ := Reps.frz0 (P := FrzP Γ H) (fun d v o s p => p v o s) ih r
    exact ⟨s2, ⟨a, vs, rfl, r2, n⟩, m2⟩
  | dK w ks xs ih =>
    rintro v o s ⟨a, vs, o', s', rfl, e, r, n⟩
    obtain ⟨s2, r2, m2⟩ := Reps.frz0 (P := FrzP Γ H) (fun d v o s p => p v o s) ih r
    obtain ⟨s3, n3, m3⟩ := n.frz m2
    exact ⟨s3, ⟨a, vs, [], s2, rfl, e, r2, n3⟩, m3⟩
  | dT w ks xs ih =>
    rintro v o s ⟨a, vs, o', s', rfl, e, r, n⟩
    obtain ⟨s2, r2, m2⟩ := Reps.frz0 (P := FrzP Γ H) (fun d v o s p => p v o s) ih r
    obtain ⟨s3, n3, m3⟩ := n.frz m2
    exact ⟨s3, ⟨a, vs, [], s2, rfl, e, r2, n3⟩, m3⟩
  | obj w c fs xs ih =>
    rintro v o s ⟨a, dx, vs, o', s', rfl, e, r, n⟩
    obtain ⟨s2, r2, m2⟩ := Reps.frz0 (P := FrzP Γ H) (fun d v o s p => p v o s) ih r
    obtain ⟨s3, n3, m3⟩ := n.frz m2
    exact ⟨s3, ⟨a, dx, vs, [], s2, rfl, e, r2, n3⟩, m3⟩
theorem Reps.frz {ds : List D} {vs : List V} {o s : List Addr} (h : Reps Γ H ds vs o s) : ∃ s', Reps Γ H (frs ds) vs [] s' ∧ ∀ a ∈ s', a ∈ o ∨ a ∈ s :=
  Reps.frz0 (P := fun _ => True) (fun d v o s _ => Rep.frz d v o s) (fun _ _ => trivial) h

theorem imms_mem : ∀ {xs : List D}, imms xs = true → ∀ x ∈ xs, imm x = true
  | [], _, _, h => nomatch h
  | y :: ys, e, x, h => by
    have e' : (imm y && imms ys) = true := e
    rw [Bool.and_eq_true] at e'
    rcases List.mem_cons.mp h with z | z
    · rw [z]; exact e'.1
    · exact imms_mem e'.2 x z
theorem cleans_mem : ∀ {xs : List D}, cleans xs = true → ∀ x ∈ xs, clean x = true
  | [], _, _, h => nomatch h
  | y :: ys, e, x, h => by
    have e' : (clean y && cleans ys) = true := e
    rw [Bool.and_eq_true] at e'
    rcases List.mem_cons.mp h with z | z
    · rw [z]; exact e'.1
    · exact cleans_mem e'.2 x z
theorem Reps.imm0 {P : D → Prop} (k : ∀ d v o s, P d → Rep Γ H d v o s → o = [] ∧ s = []) : ∀ {ds : List D} {vs : List V} {o s : List Addr}, (∀ d ∈ ds, P d) → Reps Γ H ds vs o s → o = [] ∧ s = []
  | [], _, _, _, _, h => by obtain ⟨_, rfl, rfl⟩ := h; exact ⟨rfl, rfl⟩
  | d :: ds, _, _, _, p, h => by
    obtain ⟨v, vs', o1, s1, o2, s2, rfl, h1, h2, rfl, rfl⟩ := h
    obtain ⟨rfl, rfl⟩ := k _ _ _ _ (p d (by simp)) h1
    obtain ⟨rfl, rfl⟩ := Reps.imm0 k (fun d m => p d (List.mem_cons_of_mem _ m)) h2
    exact ⟨rfl, rfl⟩
theorem Rep.imm_nil : ∀ (d : D) (v : V) (o s : List Addr), imm d = true → Rep Γ H d v o s → o = [] ∧ s = [] := by
  intro d
  induction d using D.ind with
  | non => rintro v o s _ ⟨_, rfl, rfl⟩; exact ⟨rfl, rfl⟩
  | bl b => rintro v o s _ ⟨_, rfl, rfl⟩; exact ⟨rfl, rfl⟩
  | int i => rintro v o s _ ⟨_, rfl, rfl⟩; exact ⟨rfl, rfl⟩
  | str x => rintro v o s _ ⟨_, rfl, rfl⟩; exact ⟨rfl, rfl⟩
  | tup xs ih =>
    rintro v o s e ⟨a, vs, rfl, r, n⟩
    exact Reps.imm0 (P := fun d => ∀ v o s, Rep Γ H d v o s → o = [] ∧ s = []) (fun d v o s p => p v o s) (fun d m v o s => ih d m v o s (imms_mem e d m)) r
  | lk xs ih =>
    rintro v o s e ⟨a, vs, rfl, r, n⟩
    exact Reps.imm0 (P := fun d => ∀ v o s, Rep Γ H d v o s → o = [] ∧ s = []) (fun d v o s p => p v o s) (fun d m v o s => ih d m v o s (imms_mem e d m)) r
  | lst w xs ih => intro v o s e; cases e
  | dK w ks xs ih => intro v o s e; cases e
  | dT w ks xs ih => intro v o s e; cases e
  | obj w c fs xs ih => intro v o s e; cases e
theorem Nd.clean {w : Bool} {a : Addr} {u : HO} {o' o s : List Addr} (h : Nd H w a u o' [] o s) (e : w = true) : s = [] := by
  subst e
  exact h.2.2
theorem Reps.clean0 {P : D → Prop} (k : ∀ d v o s, P d → Rep Γ H d v o s → s = []) : ∀ {ds : List D} {vs : List V} {o s : List Addr}, (∀ d ∈ ds, P d) → Reps Γ H ds vs o s → s = []
  | [], _, _, _, _, h => h.2.2
  | d :: ds, _, _, _, p, h => by
    obtain ⟨v, vs', o1, s1, o2, s2, rfl, h1, h2, rfl, rfl⟩ := h
    obtain rfl := k _ _ _ _ (p d (by simp)) h1
    obtain rfl := Reps.clean0 k (fun d m => p d (List.mem_cons_of_mem _ m)) h2
    rfl
theorem Rep.clean_nil : ∀ (d : D) (v : V) (o s : List Addr), clean d = true → Rep Γ H d v o s → s = [] := by
  intro d
  induction d using D.ind with
  | non => rintro v o s _ ⟨_, rfl, rfl⟩; rfl
  | bl b => rintro v o s _ ⟨_, rfl, rfl⟩; rfl
  | int i => rintro v o s _ ⟨_, rfl, rfl⟩; rfl
  | str x => rintro v o s _ ⟨_, rfl, rfl⟩; rfl
  | tup xs ih =>
    rintro v o s e ⟨a, vs, rfl, r, n⟩
    exact Reps.clean0 (P := fun d => ∀ v o s, Rep Γ H d v o s → s = []) (fun d v o s p => p v o s) (fun d m v o s => ih d m v o s (cleans_mem e d m)) r
  | lk xs ih =>
    rintro v o s e ⟨a, vs, rfl, r, n⟩
    exact Reps.clean0 (P := fun d => ∀ v o s, Rep Γ H d v o s → s = []) (fun d v o s p => p v o s) (fun d m v o s => ih d m v o s (cleans_mem e d m)) r
  | lst w xs ih =>
    rintro v o s e ⟨a, vs, o', s', rfl, r, n⟩
    have e' : (w && cleans xs) = true := e
    rw [Bool.and_eq_true] at e'
    obtain rfl := Reps.clean0 (P := fun d => ∀ v o s, Rep Γ H d v o s → s = []) (fun d v o s p => p v o s) (fun d m v o s => ih d m v o s (cleans_mem e'.2 d m)) r
    exact n.clean e'.1
  | dK w ks xs ih =>
    rintro v o s e ⟨a, vs, o', s', rfl, _, r, n⟩
    have e' : (w && cleans xs) = true := e
    rw [Bool.and_eq_true] at e'
    obtain rfl := Reps.clean0 (P := fun d => ∀ v o s, Rep Γ H d v o s → s = []) (fun d v o s p => p v o s) (fun d m v o s => ih d m v o s (cleans_mem e'.2 d m)) r
    exact n.clean e'.1
  | dT w ks xs ih =>
    rintro v o s e ⟨a, vs, o', s', rfl, _, r, n⟩
    have e' : (w && cleans xs) = true := e
    rw [Bool.and_eq_true] at e'
    obtain rfl := Reps.clean0 (P := fun d => ∀ v o s, Rep Γ H d v o s → s = []) (fun d v o s p => p v o s) (fun d m v o s => ih d m v o s (cleans_mem e'.2 d m)) r
    exact n.clean e'.1
  | obj w c fs xs ih =>
    rintro v o s e ⟨a, dx, vs, o', s', rfl, _, r, n⟩
    have e' : (w && cleans xs) = true := e
    rw [Bool.and_eq_true] at e'
    obtain rfl := Reps.clean0 (P := fun d => ∀ v o s, Rep Γ H d v o s → s = []) (fun d v o s p => p v o s) (fun d m v o s => ih d m v o s (cleans_mem e'.2 d m)) r
    exact n.clean e'.1
/-- what cannot be written is frozen -/
theorem frs_of {P : D → Prop} (k : ∀ d, P d → fr d = d) : ∀ {ds : List D}, (∀ d ∈ ds, P d) → frs ds = ds
  | [], _ => rfl
  | d :: ds, p => by
    show fr d :: frs ds = d :: ds
    rw [k d (p d (by simp)), frs_of k fun d m => p d (List.mem_cons_of_mem _ m)]
theorem fr_imm : ∀ d : D, imm d = true → fr d = d := by
  intro d
  induction d using D.ind with
  | tup xs ih =>
    intro e
    show D.tup (frs xs) = .tup xs
    rw [frs_of (P := fun d => fr d = d) (fun d h => h) fun d m => ih d m (imms_mem e d m)]
  | lk xs ih =>
    intro e
    show D.lk (frs xs) = .lk xs
    rw [frs_of (P := fun d => fr d = d) (fun d h => h) fun d m => ih d m (imms_mem e d m)]
  | lst w xs ih => intro e; cases e
  | dK w ks xs ih => intro e; cases e
  | dT w ks xs ih => intro e; cases e
  | obj w c fs xs ih => intro e; cases e
  | _ => intros; rfl
theorem frs_imm {ds : List D} (h : imms ds = true) : frs ds = ds := frs_of (P := fun d => fr d = d) (fun d h => h) fun d m => fr_imm d (imms_mem h d m)
theorem frs_map : ∀ ds : List D, frs ds = ds.map fr
  | [] => rfl
  | d :: ds => by show fr d :: frs ds = _; rw [frs_map ds]; rfl
theorem imms_all : ∀ ds : List D, imms ds = ds.all imm
  | [] => rfl
  | d :: ds => by show (imm d && imms ds) = _; rw [imms_all ds]; rfl
theorem cleans_all : ∀ ds : List D, cleans ds = ds.all clean
  | [] => rfl
  | d :: ds => by show (clean d && cleans ds) = _; rw [cleans_all ds]; rfl
end
end TB
end
section
set_option Elab.async false
set_option linter.all false
set_option maxRecDepth 100000
set_option maxHeartbeats 4000000
namespace TB
open PySem PySem.Spec L2

/-! ### groups of values, each of its own -/
abbrev Grp := List (D × V)
def RepG (Γ : Ctx) (H : Hp) (G : Grp) (o s : List Addr) : Prop := Reps Γ H (G.map (·.1)) (G.map (·.2)) o s
def Own (Γ : Ctx) (H : Hp) (G : Grp) (o s : List Addr) : Prop := RepG Γ H G o s ∧ o.Nodup ∧ ∀ a ∈ s, a ∉ o
def nO (H : Hp) (o : List Addr) (a : Addr) : Prop := a ∈ o ∨ H a = none
def nS (H : Hp) (o s : List Addr) (a : Addr) : Prop := a ∈ o ∨ a ∈ s ∨ H a = none
def Live (Γ : Ctx) (PO PS : Addr → Prop) (H : Hp) (G : Grp) : Prop := ∃ o s, Own Γ H G o s ∧ (∀ a ∈ o, PO a) ∧ ∀ a ∈ s, PS a
def Keep (H H' : Hp) (o : List Addr) : Prop := ∀ a x, H a = some x → a ∉ o → H' a = some x

section
variable {Γ : Ctx} {H H1 H2 H' : Hp} {G G' A B : Grp} {o s o1 s1 : List Addr} {PO PS : Addr → Prop} {d d' : D} {v v' : V}

theorem RepG.cons (h : RepG Γ H ((d, v) :: G) o s) : ∃ o1 s1 o2 s2, Rep Γ H d v o1 s1 ∧ RepG Γ H G o2 s2 ∧ o = o1 ++ o2 ∧ s = s1 ++ s2 := by
  obtain ⟨v', vs', o1, s1, o2, s2, e, h1, h2, rfl, rfl⟩ := h
  have e' : v :: G.map (·.2) = v' :: vs' := e
  injection e' with e1 e2
  subst e1; subst e2
  exact ⟨o1, s1, o2, s2, h1, h2, rfl, rfl⟩
theorem RepG.mk {o1 s1 o2 s2 : List Addr} (h1 : Rep Γ H d v o1 s1) (h2 : RepG Γ H G o2 s2) : RepG Γ H ((d, v) :: G) (o1 ++ o2) (s1 ++ s2) := ⟨v, _, o1, s1, o2, s2, rfl, h1, h2, rfl, rfl⟩
theorem RepG.nil : RepG Γ H [] [] [] := ⟨rfl, rfl, rfl⟩
theorem RepG.split {o s : List Addr} (h : RepG Γ H (A ++ B) o s) : ∃ o1 s1 o2 s2, RepG Γ H A o1 s1 ∧ RepG Γ H B o2 s2 ∧ o = o1 ++ o2 ∧ s = s1 ++ s2 := by
  induction A generalizing o s with
  | nil => exact ⟨[], [], o, s, RepG.nil, h, rfl, rfl⟩
  | cons x A ih =>
    obtain ⟨d, v⟩ := x
    obtain ⟨o1, s1, o2, s2, h1, h2, rfl, rfl⟩ := RepG.cons h
    obtain ⟨o3, s3, o4, s4, h3, h4, rfl, rfl⟩ := ih h2
    exact ⟨_, _, o4, s4, RepG.mk h1 h3, h4, by simp, by simp⟩
theorem RepG.app {o1 s1 o2 s2 : List Addr} (h1 : RepG Γ H A o1 s1) (h2 : RepG Γ H B o2 s2) : RepG Γ H (A ++ B) (o1 ++ o2) (s1 ++ s2) := by
  unfold RepG
  rw [List.map_append, List.map_append]
  exact Reps.append h1 h2
theorem RepG.perm (p : G.Perm G') : ∀ {o s : List Addr}, RepG Γ H G o s → ∃ o' s', RepG Γ H G' o' s' ∧ o'.Perm o ∧ s'.Perm s := by
  induction p with
  | nil => intro o s h; exact ⟨o, s, h, .refl _, .refl _⟩
  | cons x _ ih =>
    intro o s h
    obtain ⟨d, v⟩ := x
    obtain ⟨o1, s1, o2, s2, h1, h2, rfl, rfl⟩ := RepG.cons h
    obtain ⟨o3, s3, h3, p1, p2⟩ := ih h2
    exact ⟨_, _, RepG.mk h1 h3, p1.append_left _, p2.append_left _⟩
  | swap x y l =>
    intro o s h
    obtain ⟨d, v⟩ := x
    obtain ⟨d', v'⟩ := y
    obtain ⟨o1, s1, o2, s2, h1, h2, rfl, rfl⟩ := RepG.cons h
    obtain ⟨o3, s3, o4, s4, h3, h4, rfl, rfl⟩ := RepG.cons h2
    refine ⟨_, _, RepG.mk h3 (RepG.mk h1 h4), ?_, ?_⟩
    · rw [← List.append_assoc, ← List.append_assoc]; exact List.Perm.append_right _ List.perm_append_comm
    · rw [← List.append_assoc, ← List.append_assoc]; exact List.Perm.append_right _ List.perm_append_comm
  | trans _ _ ih1 ih2 =>
    intro o s h
    obtain ⟨o1, s1, h1, p1, q1⟩ := ih1 h
    obtain ⟨o2, s2, h2, p2, q2⟩ := ih2 h1
    exact ⟨o2, s2, h2, p2.trans p1, q2.trans q1⟩
theorem Own.perm (h : Own Γ H G o s) (p : G.Perm G') : ∃ o' s', Own Γ H G' o' s' ∧ (∀ a, a ∈ o' ↔ a ∈ o) ∧ ∀ a, a ∈ s' ↔ a ∈ s := by
  obtain ⟨r, nd, dj⟩ := h
  obtain ⟨o', s', r', p1, p2⟩ := RepG.perm p r
  exact ⟨o', s', ⟨r', p1.nodup_iff.mpr nd, fun a m n => dj a (p2.mem_iff.mp m) (p1.mem_iff.mp n)⟩, fun a => p1.mem_iff, fun a => p2.mem_iff⟩
theorem Live.perm (h : Live Γ PO PS H G) (p : G.Perm G') : Live Γ PO PS H G' := by
  obtain ⟨o, s, h, a, b⟩ := h
  obtain ⟨o', s', h', a', b'⟩ := h.perm p
  exact ⟨o', s', h', fun x m => a x ((a' x).mp m), fun x m => b x ((b' x).mp m)⟩
theorem Live.imp {PO' PS' : Addr → Prop} (h : Live Γ PO PS H G) (h1 : ∀ a, PO a → PO' a) (h2 : ∀ a, PS a → PS' a) : Live Γ PO' PS' H G := by
  obtain ⟨o, s, h, a, b⟩ := h
  exact ⟨o, s, h, fun x m => h1 x (a x m), fun x m => h2 x (b x m)⟩
theorem Own.live (h : Own Γ H G o s) : Live Γ (nO H o) (nS H o s) H G := ⟨o, s, h, fun _ m => .inl m, fun _ m => .inr (.inl m)⟩
theorem Own.trk (h : Own Γ H G o s) : Trk H o s := Reps.trk h.1
theorem Own.left (h : Own Γ H (A ++ B) o s) : ∃ o1 s1 o2 s2, Own Γ H A o1 s1 ∧ Own Γ H B o2 s2 ∧ o = o1 ++ o2 ∧ s = s1 ++ s2 := by
  obtain ⟨r, nd, dj⟩ := h
  obtain ⟨o1, s1, o2, s2, h1, h2, rfl, rfl⟩ := r.split
  have nd' := List.nodup_append.mp nd
  exact ⟨o1, s1, o2, s2, ⟨h1, nd'.1, fun a m n => dj a (List.mem_append_left _ m) (List.mem_append_left _ n)⟩, ⟨h2, nd'.2.1, fun a m n => dj a (List.mem_append_right _ m) (List.mem_append_right _ n)⟩, rfl, rfl⟩
theorem Live.right (h : Live Γ PO PS H (A ++ B)) : Live Γ PO PS H B := by
  obtain ⟨o, s, h, a, b⟩ := h
  obtain ⟨o1, s1, o2, s2, _, h2, rfl, rfl⟩ := h.left
  exact ⟨o2, s2, h2, fun x m => a x (List.mem_append_right _ m), fun x m => b x (List.mem_append_right _ m)⟩
theorem Live.leftp (h : Live Γ PO PS H (A ++ B)) : Live Γ PO PS H A := by
  obtain ⟨o, s, h, a, b⟩ := h
  obtain ⟨o1, s1, o2, s2, h1, _, rfl, rfl⟩ := h.left
  exact ⟨o1, s1, h1, fun x m => a x (List.mem_append_left _ m), fun x m => b x (List.mem_append_left _ m)⟩
theorem Live.tail {x : D × V} (h : Live Γ PO PS H (x :: G)) : Live Γ PO PS H G := Live.right (A := [x]) h

theorem Keep.refl : Keep H H o := fun _ _ e _ => e
theorem Keep.mono {o' : List Addr} (k : Keep H H' o) (h : ∀ a ∈ o, a ∈ o') : Keep H H' o' := fun a x e n => k a x e fun m => n (h a m)
theorem Keep.tup (k : Keep H H' o) (t : ∀ a ∈ o, Mut (H a)) : TupKept H H' := fun a x e n => k a x e fun m => n (e ▸ t a m)
theorem Keep.unt (k : Keep H H' o) {a : Addr} (h : H' a = none) : nO H o a := by
  by_cases m : a ∈ o
  · exact .inl m
  · cases e : H a with
    | none => exact .inr e
    | some x => rw [k a x e m] at h; cases h
theorem Keep.trans (k : Keep H H1 o) (k1 : Keep H1 H2 o1) (h : ∀ a ∈ o1, nO H o a) : Keep H H2 o := fun a x e n => by
  refine k1 a x (k a x e n) fun m => ?_
  rcases h a m with z | z
  · exact n z
  · rw [e] at z; cases z
theorem nO.comp (k : Keep H H1 o) (h : ∀ a ∈ o1, nO H o a) : ∀ a, nO H1 o1 a → nO H o a := fun a z => by
  rcases z with z | z
  · exact h a z
  · exact k.unt z
theorem nO.toS {a : Addr} (h : nO H o a) : nS H o s a := by
  rcases h with h | h
  · exact .inl h
  · exact .inr (.inr h)
theorem nS.comp (k : Keep H H1 o) (h : ∀ a ∈ o1, nO H o a) (h2 : ∀ a ∈ s1, nS H o s a) : ∀ a, nS H1 o1 s1 a → nS H o s a := fun a z => by
  rcases z with z | z | z
  · exact (h a z).toS
  · exact h2 a z
  · exact (k.unt z).toS
theorem Live.comp (k : Keep H H1 o) (h : ∀ a ∈ o1, nO H o a) (h2 : ∀ a ∈ s1, nS H o s a) (l : Live Γ (nO H1 o1) (nS H1 o1 s1) H2 G) : Live Γ (nO H o) (nS H o s) H2 G :=
  l.imp (nO.comp k h) (nS.comp k h h2)
/-- a group that is not touched stays -/
theorem Own.stay (h : Own Γ H G o s) {o0 : List Addr} (k : Keep H H' o0) (t : ∀ a ∈ o0, Mut (H a)) (n : ∀ a, a ∈ o ∨ a ∈ s → a ∉ o0) : Own Γ H' G o s :=
  ⟨Reps.stay (k.tup t) h.1 fun a m x e => k a x e (n a m), h.2⟩
theorem Own.same (h : Own Γ H G o s) (k : Keep H H' []) : Own Γ H' G o s := h.stay k (fun _ m => nomatch m) fun _ _ m => nomatch m
theorem Live.same (h : Live Γ PO PS H G) (k : Keep H H' []) : Live Γ PO PS H' G := by
  obtain ⟨o, s, h, a⟩ := h
  exact ⟨o, s, h.same k, a⟩
/-- what stands beside -/
theorem Own.frame (h : Own Γ H (A ++ B) o s) : ∃ oA sA, Own Γ H A oA sA ∧ (∀ a ∈ oA, a ∈ o) ∧ (∀ a ∈ sA, a ∈ s) ∧
    ∀ H' A', Keep H H' oA → Live Γ (nO H oA) (nS H oA sA) H' A' → Live Γ (nO H o) (nS H o s) H' (A' ++ B) := by
  have tr := h.trk
  obtain ⟨r, nd, dj⟩ := h
  obtain ⟨oA, sA, oB, sB, hA, hB, rfl, rfl⟩ := r.split
  have nd' := List.nodup_append.mp nd
  have ownA : Own Γ H A oA sA := ⟨hA, nd'.1, fun a m n => dj a (List.mem_append_left _ m) (List.mem_append_left _ n)⟩
  have ownB : Own Γ H B oB sB := ⟨hB, nd'.2.1, fun a m n => dj a (List.mem_append_right _ m) (List.mem_append_right _ n)⟩
  refine ⟨oA, sA, ownA, fun a m => List.mem_append_left _ m, fun a m => List.mem_append_left _ m, fun H' A' k l => ?_⟩
  obtain ⟨o', s', ⟨rA, ndA, djA⟩, p1, p2⟩ := l
  have stB : Own Γ H' B oB sB := ownB.stay k (fun a m => tr.1 a (List.mem_append_left _ m)) fun a m n => by
    rcases m with m | m
    · exact nd'.2.2 a n a m rfl
    · exact dj a (List.mem_append_right _ m) (List.mem_append_left _ n)
  have trB : ∀ a ∈ oB, H a ≠ none := fun a m z => by
    have := tr.1 a (List.mem_append_right _ m)
    rw [z] at this
    exact this
  refine ⟨o' ++ oB, s' ++ sB, ⟨rA.app stB.1, ?_, fun a m n => ?_⟩, fun a m => ?_, fun a m => ?_⟩
  · refine List.nodup_append.mpr ⟨ndA, nd'.2.1, fun a m b n e => ?_⟩
    subst e
    rcases p1 a m with z | z
    · exact nd'.2.2 a z a n rfl
    · exact trB a n z
  · rcases List.mem_append.mp m with m | m
    · rcases List.mem_append.mp n with n | n
      · exact djA a m n
      · rcases p2 a m with z | z | z
        · exact nd'.2.2 a z a n rfl
        · exact dj a (List.mem_append_left _ z) (List.mem_append_right _ n)
        · exact trB a n z
    · rcases List.mem_append.mp n with n | n
      · rcases p1 a n with z | z
        · exact dj a (List.mem_append_right _ m) (List.mem_append_left _ z)
        · exact tr.2 a (List.mem_append_right _ m) z
      · exact dj a (List.mem_append_right _ m) (List.mem_append_right _ n)
  · rcases List.mem_append.mp m with m | m
    · rcases p1 a m with z | z
      · exact .inl (List.mem_append_left _ z)
      · exact .inr z
    · exact .inl (List.mem_append_right _ m)
  · rcases List.mem_append.mp m with m | m
    · rcases p2 a m with z | z | z
      · exact .inl (List.mem_append_left _ z)
      · exact .inr (.inl (List.mem_append_left _ z))
      · exact .inr (.inr z)
    · exact .inr (.inl (List.mem_append_right _ m))

/-! ### one value of a group -/
theorem Own.cons (h : Own Γ H ((d, v) :: G) o s) : ∃ o1 s1 o2 s2, Rep Γ H d v o1 s1 ∧ Own Γ H G o2 s2 ∧ o = o1 ++ o2 ∧ s = s1 ++ s2 ∧ o1.Nodup ∧ (∀ a ∈ s1, a ∉ o1) ∧ (∀ a ∈ o1, a ∉ o2 ∧ a ∉ s2) ∧ ∀ a ∈ s1, a ∉ o2 := by
  obtain ⟨r, nd, dj⟩ := h
  obtain ⟨o1, s1, o2, s2, h1, h2, rfl, rfl⟩ := RepG.cons r
  have nd' := List.nodup_append.mp nd
  exact ⟨o1, s1, o2, s2, h1, ⟨h2, nd'.2.1, fun a m n => dj a (List.mem_append_right _ m) (List.mem_append_right _ n)⟩, rfl, rfl, nd'.1, fun a m n => dj a (List.mem_append_left _ m) (List.mem_append_left _ n),
    fun a m => ⟨fun n => nd'.2.2 a m a n rfl, fun n => dj a (List.mem_append_right _ n) (List.mem_append_left _ m)⟩, fun a m n => dj a (List.mem_append_left _ m) (List.mem_append_right _ n)⟩
theorem Own.mkc {o1 s1 o2 s2 : List Addr} (h1 : Rep Γ H d v o1 s1) (h2 : Own Γ H G o2 s2) (n1 : o1.Nodup) (d1 : ∀ a ∈ s1, a ∉ o1) (d2 : ∀ a ∈ o1, a ∉ o2 ∧ a ∉ s2) (d3 : ∀ a ∈ s1, a ∉ o2) : Own Γ H ((d, v) :: G) (o1 ++ o2) (s1 ++ s2) := by
  obtain ⟨r, nd, dj⟩ := h2
  refine ⟨RepG.mk h1 r, List.nodup_append.mpr ⟨n1, nd, fun a m b n e => (d2 a m).1 (e ▸ n)⟩, fun a m n => ?_⟩
  rcases List.mem_append.mp m with m | m <;> rcases List.mem_append.mp n with n | n
  · exact d1 a m n
  · exact d3 a m n
  · exact (d2 a n).2 m
  · exact dj a m n
/-- a value frozen, twice -/
theorem Live.dup (h : Live Γ PO PS H ((d, v) :: G)) (q : ∀ a, PO a → PS a) : Live Γ PO PS H ((fr d, v) :: (fr d, v) :: G) := by
  obtain ⟨o, s, h, a, b⟩ := h
  obtain ⟨o1, s1, o2, s2, h1, h2, rfl, rfl, n1, d1, d2, d3⟩ := h.cons
  obtain ⟨s', r, m⟩ := Rep.frz _ _ _ _ h1
  have e3 : ∀ a ∈ s', a ∉ o2 := fun a x n => by
    rcases m a x with z | z
    · exact (d2 a z).1 n
    · exact d3 a z n
  have x1 : Own Γ H ((fr d, v) :: G) ([] ++ o2) (s' ++ s2) := Own.mkc r h2 .nil (fun _ _ z => nomatch z) (fun _ z => nomatch z) e3
  have x2 : Own Γ H ((fr d, v) :: (fr d, v) :: G) ([] ++ ([] ++ o2)) (s' ++ (s' ++ s2)) := Own.mkc r x1 .nil (fun _ _ z => nomatch z) (fun _ z => nomatch z) e3
  have ps : ∀ a ∈ s', PS a := fun x z => by
    rcases m x z with z | z
    · exact q x (a x (List.mem_append_left _ z))
    · exact b x (List.mem_append_left _ z)
  refine ⟨_, _, x2, fun x z => a x (List.mem_append_right _ z), fun x z => ?_⟩
  rcases List.mem_append.mp z with z | z
  · exact ps x z
  · rcases List.mem_append.mp z with z | z
    · exact ps x z
    · exact b x (List.mem_append_right _ z)
theorem Live.fr1 (h : Live Γ PO PS H ((d, v) :: G)) (q : ∀ a, PO a → PS a) : Live Γ PO PS H ((fr d, v) :: G) := (h.dup q).tail
/-- what cannot be written stands anywhere -/
theorem Live.imm (h : Live Γ PO PS H G) (e : imm d = true) {o1 s1 : List Addr} (r : Rep Γ H d v o1 s1) : Live Γ PO PS H ((d, v) :: G) := by
  obtain ⟨o, s, h, a, b⟩ := h
  obtain ⟨rfl, rfl⟩ := Rep.imm_nil _ _ _ _ e r
  exact ⟨[] ++ o, [] ++ s, Own.mkc r h .nil (fun _ z => nomatch z) (fun _ z => nomatch z) (fun _ z => nomatch z), a, b⟩
theorem Live.rep (h : Live Γ PO PS H ((d, v) :: G)) : ∃ o s, Rep Γ H d v o s := by
  obtain ⟨o, s, h, _⟩ := h
  obtain ⟨o1, s1, _, _, h1, _⟩ := h.cons
  exact ⟨o1, s1, h1⟩
theorem nOS (a : Addr) (h : nO H o a) : nS H o s a := h.toS
end

/-! ### the def's names -/
abbrev VE := List (Option D)
def slots : VE → St → Grp
  | some d :: ρ, some v :: σ => (d, v) :: slots ρ σ
  | _ :: ρ, _ :: σ => slots ρ σ
  | _, _ => []
structure Al (σ : St) (ρ : VE) : Prop where
  len : σ.length = ρ.length
  has : ∀ (i : Nat) d, ρ[i]? = some (some d) → ∃ v, σ[i]? = some (some v)
def fz1 : Nat → VE → VE
  | _, [] => []
  | 0, x :: ρ => x.map fr :: ρ
  | i + 1, x :: ρ => x :: fz1 i ρ
def fz : List Nat → VE → VE
  | [], ρ => ρ
  | i :: bs, ρ => fz bs (fz1 i ρ)
section
variable {Γ : Ctx} {H H1 H2 H' : Hp} {PO PS : Addr → Prop} {d d' : D} {v v' : V} {σ : St} {ρ : VE}
theorem fz1_len : ∀ (i : Nat) (ρ : VE), (fz1 i ρ).length = ρ.length
  | 0, [] => rfl
  | _ + 1, [] => rfl
  | 0, _ :: _ => rfl
  | i + 1, _ :: ρ => by show (fz1 i ρ).length + 1 = _; rw [fz1_len i ρ]; rfl
theorem fz1_get : ∀ (i j : Nat) (ρ : VE) (d : D), (fz1 i ρ)[j]? = some (some d) → ∃ d', ρ[j]? = some (some d')
  | _, _, [], _, h => by simp [fz1] at h
  | 0, 0, some x :: ρ, d, h => ⟨x, rfl⟩
  | 0, 0, none :: ρ, d, h => by simp [fz1] at h
  | 0, j + 1, x :: ρ, d, h => ⟨d, by simpa [fz1] using h⟩
  | i + 1, 0, x :: ρ, d, h => ⟨d, by simpa [fz1] using h⟩
  | i + 1, j + 1, x :: ρ, d, h => by
    obtain ⟨d', e⟩ := fz1_get i j ρ d (by simpa [fz1] using h)
    exact ⟨d', by simpa using e⟩
theorem Al.fz1 (al : Al σ ρ) (i : Nat) : Al σ (TB.fz1 i ρ) := ⟨al.len.trans (fz1_len i ρ).symm, fun j d e => let ⟨d', e'⟩ := fz1_get i j ρ d e; al.has j d' e'⟩
theorem Al.fz (al : Al σ ρ) : ∀ bs : List Nat, Al σ (TB.fz bs ρ) := fun bs => by
  induction bs generalizing ρ with
  | nil => exact al
  | cons i bs ih => exact ih (al.fz1 i)
theorem slots_out : ∀ {ρ : VE} {σ : St} {i : Nat}, ρ[i]? = some (some d) → σ[i]? = some (some v) → (slots ρ σ).Perm ((d, v) :: slots (ρ.set i none) σ)
  | [], _, _, h, _ => by simp at h
  | _ :: _, [], _, _, h => by simp at h
  | x :: ρ, y :: σ, 0, h, h' => by
    simp at h h'
    subst h; subst h'
    exact .refl _
  | x :: ρ, y :: σ, i + 1, h, h' => by
    have p := slots_out (ρ := ρ) (σ := σ) (i := i) (by simpa using h) (by simpa using h')
    cases x with
    | none => exact p
    | some x =>
      cases y with
      | none => exact p
      | some y => exact (p.cons _).trans (.swap _ _ _)
theorem slots_in : ∀ {ρ : VE} {σ : St} {i : Nat}, i < ρ.length → σ[i]? = some (some v) → (slots (ρ.set i (some d)) σ).Perm ((d, v) :: slots (ρ.set i none) σ) := fun {ρ σ i} h h' => by
  have p := slots_out (ρ := ρ.set i (some d)) (σ := σ) (i := i) (d := d) (v := v) (by rw [List.getElem?_set_self h]) h'
  rwa [List.set_set] at p
theorem slots_none : ∀ {ρ : VE} {σ : St} {i : Nat} {y : Option V}, slots (ρ.set i none) (σ.set i y) = slots (ρ.set i none) σ
  | [], _, _, _ => by simp [slots]
  | _ :: _, [], _, _ => by simp [slots]
  | x :: ρ, y :: σ, 0, _ => by simp [slots]
  | x :: ρ, y :: σ, i + 1, z => by
    have e := slots_none (ρ := ρ) (σ := σ) (i := i) (y := z)
    cases x with
    | none => exact e
    | some x =>
      cases y with
      | none => exact e
      | some y => exact congrArg (fun l => (x, y) :: l) e
/-- a name stored -/
theorem slots_set {i : Nat} (h : i < ρ.length) (hl : σ.length = ρ.length) : (slots (ρ.set i (some d)) (σ.set i (some v))).Perm ((d, v) :: slots (ρ.set i none) σ) := by
  have p := slots_in (ρ := ρ) (σ := σ.set i (some v)) (d := d) (v := v) h (by rw [List.getElem?_set_self (by omega)])
  rwa [slots_none] at p
theorem fz1_none : ∀ (i : Nat) (ρ : VE), (fz1 i ρ).set i none = ρ.set i none
  | 0, [] => rfl
  | _ + 1, [] => rfl
  | 0, _ :: _ => rfl
  | i + 1, x :: ρ => by show x :: (fz1 i ρ).set i none = _; rw [fz1_none i ρ]; rfl
theorem fz1_at : ∀ {i : Nat} {ρ : VE}, ρ[i]? = some (some d) → (fz1 i ρ)[i]? = some (some (fr d))
  | _, [], h => by simp at h
  | 0, x :: ρ, h => by simp at h; subst h; rfl
  | i + 1, x :: ρ, h => by
    have := fz1_at (i := i) (ρ := ρ) (by simpa using h)
    simpa [fz1] using this
theorem fz1_id : ∀ {i : Nat} {ρ : VE}, (∀ d, ρ[i]? ≠ some (some d)) → fz1 i ρ = ρ
  | 0, [], h => rfl
  | _ + 1, [], h => rfl
  | 0, none :: ρ, h => rfl
  | 0, some d :: ρ, h => absurd rfl (h d)
  | i + 1, x :: ρ, h => by show x :: fz1 i ρ = _; rw [fz1_id (fun d e => h d (by simpa using e))]
theorem set_none_out (al : Al σ ρ) (i : Nat) : Al σ (ρ.set i none) := ⟨by simp [al.len], fun j d e => by
  by_cases h : i = j
  · subst h
    rw [List.getElem?_set] at e
    simp at e
  · rw [List.getElem?_set_ne h] at e
    exact al.has j d e⟩
/-- freezing a slot: with a copy of it, when asked -/
theorem Live.fz1 {T : Grp} (al : Al σ ρ) (i : Nat) (h : Live Γ PO PS H (T ++ slots ρ σ)) (q : ∀ a, PO a → PS a) : Live Γ PO PS H (T ++ slots (TB.fz1 i ρ) σ) := by
  by_cases e : ∃ d, ρ[i]? = some (some d)
  · obtain ⟨d, e⟩ := e
    obtain ⟨v, e'⟩ := al.has i d e
    have p := slots_out e e'
    have p' := slots_out (fz1_at e) e'
    rw [fz1_none] at p'
    have h1 : Live Γ PO PS H ((d, v) :: (T ++ slots (ρ.set i none) σ)) := h.perm ((p.append_left T).trans List.perm_middle)
    exact (h1.fr1 q).perm (((p'.append_left T).trans List.perm_middle).symm)
  · rw [fz1_id fun d z => e ⟨d, z⟩]; exact h
theorem Live.fz {T : Grp} {ρ : VE} (al : Al σ ρ) (bs : List Nat) (h : Live Γ PO PS H (T ++ slots ρ σ)) (q : ∀ a, PO a → PS a) : Live Γ PO PS H (T ++ slots (TB.fz bs ρ) σ) := by
  induction bs generalizing ρ with
  | nil => exact h
  | cons i bs ih => exact ih (al.fz1 i) (h.fz1 al i q)
theorem Live.at {ρ : VE} {i : Nat} (al : Al σ ρ) (e : ρ[i]? = some (some d)) (h : Live Γ PO PS H (slots ρ σ)) : ∃ v, σ[i]? = some (some v) ∧ Live Γ PO PS H ((d, v) :: slots (ρ.set i none) σ) := by
  obtain ⟨v, e'⟩ := al.has i d e
  exact ⟨v, e', h.perm (slots_out e e')⟩
theorem Al.set (al : Al σ ρ) (i : Nat) (d : D) (v : V) : Al (σ.set i (some v)) (ρ.set i (some d)) := ⟨by simp [al.len], fun j d' e => by
  by_cases h : i = j
  · subst h
    have hl : i < ρ.length := by
      rw [List.getElem?_set] at e
      simp at e
      exact e.1
    exact ⟨v, by rw [List.getElem?_set_self (by rw [al.len]; exact hl)]⟩
  · rw [List.getElem?_set_ne h] at e ⊢
    exact al.has j d' e⟩
end
end TB
end
section
set_option Elab.async false
set_option linter.all false
set_option maxRecDepth 100000
set_option maxHeartbeats 4000000
namespace TB
open PySem PySem.Spec L2

/-! ### what an expression comes to -/
structure Exn where
  cls : Nat
  fs : List (Str × D)
/-- d, the slots that it may still be part of, whether nothing was written, the names behind it -/
inductive R where
  | ok (d : D) (bs : List Nat) (pu : Bool) (ρ : VE)
  | ex (e : Exn) (ρ : VE)
  | no
abbrev Den := VE → R
/-- an argument: a value, or a name whose list is written by the def called -/
inductive AR where
  | v (d : D)
  | io (i : Nat)
inductive RA where
  | ok (as : List AR) (bs : List Nat) (pu : Bool) (ρ : VE)
  | ex (e : Exn) (ρ : VE)
  | no
abbrev DenA := VE → RA
def tmps : List AR → List V → Grp
  | .v d :: as, v :: vs => (d, v) :: tmps as vs
  | .io _ :: as, _ :: vs => tmps as vs
  | _, _ => []
def ArOk (σ : L2.St) : List AR → List V → Prop
  | [], vs => vs = []
  | .v _ :: as, vs => ∃ v vs', vs = v :: vs' ∧ ArOk σ as vs'
  | .io i :: as, vs => ∃ v vs', vs = v :: vs' ∧ σ[i]? = some (some v) ∧ ArOk σ as vs'

/-- an exception as it lies -/
def ERep (Γ : Ctx) (H : Hp) (e : Exn) (cls : Value) (dx : Option Addr) : Prop :=
  cls = .ref (Γ.ce e.cls) ∧ ((e.fs = [] ∧ dx = none) ∨ ∃ a vs, dx = some a ∧ H a = some (.xd ((e.fs.map (·.1)).zip vs)) ∧ e.fs.length = vs.length ∧ Reps Γ H (e.fs.map (·.2)) vs [] [])

structure PostE (Γ : Ctx) (H : Hp) (o s : List Addr) (ρ : VE) (σ : L2.St) (d : D) (bs : List Nat) (pu : Bool) (ρ' : VE) (v : V) (H' : Hp) : Prop where
  al : Al σ ρ'
  l1 : Live Γ (nO H o) (nS H o s) H' (slots ρ' σ)
  l2 : Live Γ (nO H o) (nS H o s) H' ((d, v) :: slots (fz bs ρ') σ)
  kp : Keep H H' o
  pu : pu = true → ρ' = ρ ∧ Keep H H' []
structure PostA (Γ : Ctx) (H : Hp) (o s : List Addr) (ρ : VE) (σ : L2.St) (as : List AR) (bs : List Nat) (pu : Bool) (ρ' : VE) (vs : List V) (H' : Hp) : Prop where
  al : Al σ ρ'
  ar : ArOk σ as vs
  l1 : Live Γ (nO H o) (nS H o s) H' (slots ρ' σ)
  l2 : Live Γ (nO H o) (nS H o s) H' (tmps as vs ++ slots (fz bs ρ') σ)
  kp : Keep H H' o
  pu : pu = true → ρ' = ρ ∧ Keep H H' []
structure PostX (Γ : Ctx) (H : Hp) (o s : List Addr) (σ : L2.St) (e : Exn) (ρ' : VE) (cls : Value) (dx : Option Addr) (H' : Hp) : Prop where
  al : Al σ ρ'
  l1 : Live Γ (nO H o) (nS H o s) H' (slots ρ' σ)
  kp : Keep H H' o
  er : ERep Γ H' e cls dx

def DoneE (Γ : Ctx) (W : WX) (H : Hp) (o s : List Addr) (ρ : VE) (σ : L2.St) (Q : VK) : R → Prop
  | .ok d bs pu ρ' => ∀ v H', PostE Γ H o s ρ σ d bs pu ρ' v H' → Q v H'
  | .ex e ρ' => ∀ cls dx H', PostX Γ H o s σ e ρ' cls dx H' → W cls dx σ H'
  | .no => False
def DoneA (Γ : Ctx) (W : WX) (H : Hp) (o s : List Addr) (ρ : VE) (σ : L2.St) (Q : List V → Hp → Prop) : RA → Prop
  | .ok as bs pu ρ' => ∀ vs H', PostA Γ H o s ρ σ as bs pu ρ' vs H' → Q vs H'
  | .ex e ρ' => ∀ cls dx H', PostX Γ H o s σ e ρ' cls dx H' → W cls dx σ H'
  | .no => False
/-- a test's answer -/
def DoneB (Γ : Ctx) (W : WX) (H : Hp) (o s : List Addr) (ρ : VE) (σ : L2.St) (Q : Bool → Hp → Prop) : R → Prop
  | .ok (.bl b) bs pu ρ' => ∀ H', PostE Γ H o s ρ σ (.bl b) bs pu ρ' (.bl b) H' → Q b H'
  | .ex e ρ' => ∀ cls dx H', PostX Γ H o s σ e ρ' cls dx H' → W cls dx σ H'
  | _ => False
def tI (Γ : Ctx) (W : WX) (δ : Den) : TE := fun σ H Q => ∃ ρ o s, Al σ ρ ∧ Own Γ H (slots ρ σ) o s ∧ DoneE Γ W H o s ρ σ Q (δ ρ)
def tA (Γ : Ctx) (W : WX) (δ : DenA) : TA := fun σ H Q => ∃ ρ o s, Al σ ρ ∧ Own Γ H (slots ρ σ) o s ∧ DoneA Γ W H o s ρ σ Q (δ ρ)
def tB (Γ : Ctx) (W : WX) (δ : Den) : TT := fun σ H Q => ∃ ρ o s, Al σ ρ ∧ Own Γ H (slots ρ σ) o s ∧ DoneB Γ W H o s ρ σ Q (δ ρ)

theorem _root_.L2.PE.imp {X : Cx} {e : Expr} {t t' : TE} (h : PE X e t) (i : ∀ σ H Q, t' σ H Q → t σ H Q) : PE X e t' := ⟨fun pins s σ H Q I q => h.run pins s σ H Q I (i σ H Q q)⟩
theorem _root_.L2.PA.imp {X : Cx} {e : List Expr} {t t' : TA} (h : PA X e t) (i : ∀ σ H Q, t' σ H Q → t σ H Q) : PA X e t' := ⟨fun pos pins s σ H Q I q => h.run pos pins s σ H Q I (i σ H Q q)⟩
theorem _root_.L2.PT.imp {X : Cx} {e : Expr} {t t' : TT} (h : PT X e t) (i : ∀ σ H Q, t' σ H Q → t σ H Q) : PT X e t' := ⟨fun pins s σ H Q I q => h.run pins s σ H Q I (i σ H Q q)⟩
theorem _root_.L2.PS.imp {X : Cx} {e : Stmt} {t t' : TS} (h : PS X e t) (i : ∀ D σ H, t' D σ H → t D σ H) : PS X e t' := ⟨fun pins s σ H D I q => h.run pins s σ H D I (i D σ H q)⟩
theorem _root_.L2.PSs.imp {X : Cx} {e : List Stmt} {t t' : TS} (h : PSs X e t) (i : ∀ D σ H, t' D σ H → t D σ H) : PSs X e t' := ⟨fun pins s σ H D I q => h.run pins s σ H D I (i D σ H q)⟩

section
variable {Γ : Ctx} {W : WX} {H H1 H2 H' : Hp} {o s : List Addr} {ρ ρ' ρ1 : VE} {σ : L2.St} {d : D} {bs : List Nat} {pu : Bool} {v : V} {as : List AR} {vs : List V} {δ δa δb : Den} {δs : DenA} {Q : VK}

theorem DoneE.mono {Q Q' : VK} {r : R} (h : DoneE Γ W H o s ρ σ Q r) (q : ∀ v H, Q v H → Q' v H) : DoneE Γ W H o s ρ σ Q' r := by
  cases r with
  | ok d bs pu ρ' => exact fun v H' p => q _ _ (h v H' p)
  | ex e ρ' => exact h
  | no => exact h
theorem tI.mono {Q Q' : VK} (h : tI Γ W δ σ H Q) (q : ∀ v H, Q v H → Q' v H) : tI Γ W δ σ H Q' := by
  obtain ⟨ρ, o, s, al, ow, h⟩ := h
  exact ⟨ρ, o, s, al, ow, h.mono q⟩
theorem DoneA.mono {Q Q' : List V → Hp → Prop} {r : RA} (h : DoneA Γ W H o s ρ σ Q r) (q : ∀ v H, Q v H → Q' v H) : DoneA Γ W H o s ρ σ Q' r := by
  cases r with
  | ok d bs pu ρ' => exact fun v H' p => q _ _ (h v H' p)
  | ex e ρ' => exact h
  | no => exact h
theorem tA.mono {Q Q' : List V → Hp → Prop} (h : tA Γ W δs σ H Q) (q : ∀ v H, Q v H → Q' v H) : tA Γ W δs σ H Q' := by
  obtain ⟨ρ, o, s, al, ow, h⟩ := h
  exact ⟨ρ, o, s, al, ow, h.mono q⟩
theorem DoneB.mono {Q Q' : Bool → Hp → Prop} {r : R} (h : DoneB Γ W H o s ρ σ Q r) (q : ∀ v H, Q v H → Q' v H) : DoneB Γ W H o s ρ σ Q' r := by
  cases r with
  | ok d bs pu ρ' => cases d <;> first | exact h.elim | exact fun H' p => q _ _ (h H' p)
  | ex e ρ' => exact h
  | no => exact h
theorem fz_app : ∀ (a b : List Nat) (ρ : VE), fz (a ++ b) ρ = fz b (fz a ρ)
  | [], _, _ => rfl
  | i :: a, b, ρ => fz_app a b (fz1 i ρ)

/-- behind the first: the next one's start, and the way back -/
theorem Live.next {T : Grp} {G : Grp} (l2 : Live Γ (nO H o) (nS H o s) H1 (T ++ G)) (kp : Keep H H1 o) :
    ∃ oA sA, Own Γ H1 G oA sA ∧ ∀ H2, Keep H1 H2 oA → Keep H H2 o ∧ ∀ A', Live Γ (nO H1 oA) (nS H1 oA sA) H2 A' → Live Γ (nO H o) (nS H o s) H2 (T ++ A') ∧ Live Γ (nO H o) (nS H o s) H2 A' := by
  obtain ⟨o1, s1, ow, p1, p2⟩ := l2.perm List.perm_append_comm
  obtain ⟨oA, sA, owA, m1, m2, fr⟩ := ow.frame
  refine ⟨oA, sA, owA, fun H2 k => ⟨kp.trans (k.mono m1) p1, fun A' l => ?_⟩⟩
  have := (fr H2 A' k l).comp kp p1 p2
  exact ⟨this.perm List.perm_append_comm, this.leftp⟩
theorem PostX.back {H1 : Hp} {o s oA sA : List Addr} {e : Exn} {cls : Value} {dx : Option Addr} (h : PostX Γ H1 oA sA σ e ρ' cls dx H2) (f : ∀ H2, Keep H1 H2 oA → Keep H H2 o ∧ ∀ A', Live Γ (nO H1 oA) (nS H1 oA sA) H2 A' → Live Γ (nO H o) (nS H o s) H2 A') : PostX Γ H o s σ e ρ' cls dx H2 :=
  ⟨h.al, (f _ h.kp).2 _ h.l1, (f _ h.kp).1, h.er⟩

/-! ### argument lists -/
def dNil : DenA := fun ρ => .ok [] [] true ρ
def dCons (δ : Den) (δs : DenA) : DenA := fun ρ => match δ ρ with
  | .ok d b p ρ1 => (match δs (fz b ρ1) with
    | .ok as bs ps ρ2 => if ps then .ok (.v d :: as) (b ++ bs) p ρ1 else .ok (.v d :: as) bs false ρ2
    | .ex e ρ2 => .ex e ρ2
    | .no => .no)
  | .ex e ρ1 => .ex e ρ1
  | .no => .no
def dIo (i : Nat) (δs : DenA) : DenA := fun ρ => match ρ[i]? with
  | some (some _) => (match δs ρ with
    | .ok as bs ps ρ2 => .ok (.io i :: as) bs ps ρ2
    | .ex e ρ2 => .ex e ρ2
    | .no => .no)
  | _ => .no
theorem tA_nil {Q : List V → Hp → Prop} (h : tA Γ W dNil σ H Q) : tNil σ H Q := by
  obtain ⟨ρ, o, s, al, ow, h⟩ := h
  exact h [] H ⟨al, rfl, ow.live, ow.live, Keep.refl, fun _ => ⟨rfl, Keep.refl⟩⟩
theorem tA_cons {Q : List V → Hp → Prop} (h : tA Γ W (dCons δ δs) σ H Q) : tCons (tI Γ W δ) (tA Γ W δs) σ H Q := by
  obtain ⟨ρ, o, s, al, ow, h⟩ := h
  refine ⟨ρ, o, s, al, ow, ?_⟩
  unfold dCons at h
  cases e : δ ρ with
  | no => rw [e] at h; exact h
  | ex x ρ1 => rw [e] at h; exact h
  | ok d b p ρ1 =>
    rw [e] at h
    intro v H1 P
    obtain ⟨oA, sA, owA, back⟩ := Live.next (T := [(d, v)]) P.l2 P.kp
    refine ⟨fz b ρ1, oA, sA, P.al.fz b, owA, ?_⟩
    cases e2 : δs (fz b ρ1) with
    | no => simp only [e2] at h; exact h
    | ex x ρ2 =>
      simp only [e2] at h
      intro cls dx H2 PX
      exact h cls dx H2 (PX.back fun H2 k => ⟨(back H2 k).1, fun A' l => ((back H2 k).2 A' l).2⟩)
    | ok as bs ps ρ2 =>
      simp only [e2] at h
      intro vs H2 PA
      obtain ⟨k2, back⟩ := back H2 PA.kp
      cases ps with
      | true =>
        simp only [if_true] at h
        obtain ⟨eρ, k0⟩ := PA.pu rfl
        refine h (v :: vs) H2 ⟨P.al, ⟨v, vs, rfl, PA.ar⟩, P.l1.same k0, ?_, k2, fun hp => ⟨(P.pu hp).1, ((P.pu hp).2.trans k0 fun _ m => nomatch m)⟩⟩
        rw [fz_app, ← eρ]
        exact (back _ PA.l2).1
      | false =>
        simp only [Bool.false_eq_true, if_false] at h
        exact h (v :: vs) H2 ⟨PA.al, ⟨v, vs, rfl, PA.ar⟩, (back _ PA.l1).2, (back _ PA.l2).1, k2, fun z => nomatch z⟩
theorem tA_io {i : Nat} {Q : List V → Hp → Prop} (h : tA Γ W (dIo i δs) σ H Q) : tCons (tVar i) (tA Γ W δs) σ H Q := by
  obtain ⟨ρ, o, s, al, ow, h⟩ := h
  unfold dIo at h
  cases e0 : ρ[i]? with
  | none => rw [e0] at h; exact h.elim
  | some x =>
    cases x with
    | none => rw [e0] at h; exact h.elim
    | some d =>
      rw [e0] at h
      obtain ⟨v, hv⟩ := al.has i d e0
      refine ⟨v, hv, ρ, o, s, al, ow, ?_⟩
      cases e : δs ρ with
      | no => simp only [e] at h; exact h
      | ex x ρ1 => simp only [e] at h; exact h
      | ok as bs ps ρ1 =>
        simp only [e] at h
        intro vs H2 PA
        exact h (v :: vs) H2 ⟨PA.al, ⟨v, vs, rfl, hv, PA.ar⟩, PA.l1, PA.l2, PA.kp, PA.pu⟩
end
end TB
end
section
set_option Elab.async false
set_option linter.all false
set_option maxRecDepth 100000
set_option maxHeartbeats 4000000
namespace TB
open PySem PySem.Spec L2

/-! ### operations on data -/
/-- what an operation's rule asks, and what comes of the data -/
def OpS (Γ : Ctx) (r : List V → Hp → VK → Prop) (f : List D → Option D) : Prop :=
  ∀ (ds : List D) (vs : List V) (H : Hp) (o s : List Addr) (d : D) (Q : VK), Reps Γ H ds vs o s → f ds = some d →
    (∀ v H' od sd, Rep Γ H' d v od sd → od.Nodup → (∀ a ∈ od, H a = none) → (∀ a ∈ sd, a ∈ o ∨ a ∈ s) → Keep H H' [] → Q v H') → r vs H Q
def vals : List AR → Option (List D)
  | [] => some []
  | .v d :: as => (vals as).map (d :: ·)
  | .io _ :: _ => none
def opR (f : List D → Option D) : RA → R
  | .ok as bs pu ρ => (match vals as with
    | some ds => (match f ds with
      | some d => .ok d (if clean d then [] else bs) pu ρ
      | none => .no)
    | none => .no)
  | .ex e ρ => .ex e ρ
  | .no => .no
def dOp (f : List D → Option D) (δs : DenA) : Den := fun ρ => opR f (δs ρ)

section
variable {Γ : Ctx} {W : WX} {H H1 H2 H' : Hp} {o s : List Addr} {ρ ρ' ρ1 : VE} {σ : L2.St} {d : D} {bs : List Nat} {pu : Bool} {v : V} {as : List AR} {vs : List V} {δ δa δb : Den} {δs : DenA} {Q : VK}
  {r : List V → Hp → VK → Prop} {f : List D → Option D}

theorem vals_tmps : ∀ {as : List AR} {vs : List V} {ds : List D}, vals as = some ds → ArOk σ as vs → ds.length = vs.length ∧ tmps as vs = ds.zip vs
  | [], vs, ds, e, a => by
    have a' : vs = [] := a
    subst a'
    have e' : some [] = some ds := e
    cases e'
    exact ⟨rfl, rfl⟩
  | .v d :: as, _, ds, e, a => by
    obtain ⟨v, vs', rfl, a⟩ := a
    cases e1 : vals as with
    | none => simp [vals, e1] at e
    | some ds' =>
      simp [vals, e1] at e
      subst e
      obtain ⟨h1, h2⟩ := vals_tmps e1 a
      exact ⟨by simp [h1], by simp [tmps, h2]⟩
  | .io _ :: _, _, _, e, _ => by cases e
theorem zip_fst : ∀ {ds : List D} {vs : List V}, ds.length = vs.length → (ds.zip vs).map (·.1) = ds
  | [], _, _ => by simp
  | d :: ds, [], h => by simp at h
  | d :: ds, v :: vs, h => by simp [zip_fst (ds := ds) (vs := vs) (by simpa using h)]
theorem zip_snd : ∀ {ds : List D} {vs : List V}, ds.length = vs.length → (ds.zip vs).map (·.2) = vs
  | [], [], _ => rfl
  | [], _ :: _, h => by simp at h
  | d :: ds, [], h => by simp at h
  | d :: ds, v :: vs, h => by simp [zip_snd (ds := ds) (vs := vs) (by simpa using h)]

theorem op_fin (S : OpS Γ r f) {ds : List D} (e : vals as = some ds) (P : PostA Γ H o s ρ σ as bs pu ρ' vs H1) (hf : f ds = some d)
    (q : ∀ v H2, PostE Γ H o s ρ σ d (if clean d then [] else bs) pu ρ' v H2 → Q v H2) : r vs H1 Q := by
  obtain ⟨hl, ht⟩ := vals_tmps e P.ar
  obtain ⟨o1, s1, ow, p1, p2⟩ := P.l2
  rw [ht] at ow
  obtain ⟨oa, sa, ob, sb, owA, owB, rfl, rfl⟩ := id ow.left
  have nd := List.nodup_append.mp ow.2.1
  have dj := ow.2.2
  have tr := ow.trk
  have ra : Reps Γ H1 ds vs oa sa := by
    have := owA.1
    unfold RepG at this
    rwa [zip_fst hl, zip_snd hl] at this
  refine S ds vs H1 oa sa d Q ra hf fun v H2 od sd rd ndd fod ssd k => q v H2 ?_
  have nH : ∀ a ∈ od, nO H o a := fun a m => P.kp.unt (fod a m)
  have trb : ∀ a, a ∈ ob ∨ a ∈ sb → H1 a ≠ none := fun a m => by
    rcases m with m | m
    · intro z
      have := tr.1 a (List.mem_append_right _ m)
      rw [z] at this; exact this
    · exact tr.2 a (List.mem_append_right _ m)
  have tra : ∀ a, a ∈ oa ∨ a ∈ sa → H1 a ≠ none := fun a m => by
    rcases m with m | m
    · intro z
      have := tr.1 a (List.mem_append_left _ m)
      rw [z] at this; exact this
    · exact tr.2 a (List.mem_append_left _ m)
  have kp2 : Keep H H2 o := P.kp.trans k fun _ m => nomatch m
  refine ⟨P.al, P.l1.same k, ?_, kp2, fun z => ⟨(P.pu z).1, (P.pu z).2.trans k fun _ m => nomatch m⟩⟩
  have sdod : ∀ a ∈ sd, a ∉ od := fun a m n => tra a (ssd a m) (fod a n)
  cases hc : clean d with
  | true =>
    obtain rfl : sd = [] := Rep.clean_nil _ _ _ _ hc rd
    obtain ⟨o2, s2, ow2, q1, q2⟩ := P.l1
    have tr2 := ow2.trk
    refine ⟨od ++ o2, [] ++ s2, Own.mkc rd (ow2.same k) ndd sdod (fun a m => ⟨fun n => ?_, fun n => ?_⟩) (fun _ m => nomatch m), fun a m => ?_, fun a m => q2 a (by simpa using m)⟩
    · have := tr2.1 a n
      rw [fod a m] at this; exact this
    · exact tr2.2 a n (fod a m)
    · rcases List.mem_append.mp m with m | m
      · exact nH a m
      · exact q1 a m
  | false =>
    refine ⟨od ++ ob, sd ++ sb, Own.mkc rd (owB.same k) ndd sdod (fun a m => ⟨fun n => trb a (.inl n) (fod a m), fun n => trb a (.inr n) (fod a m)⟩) (fun a m n => ?_), fun a m => ?_, fun a m => ?_⟩
    · rcases ssd a m with z | z
      · exact nd.2.2 a z a n rfl
      · exact dj a (List.mem_append_left _ z) (List.mem_append_right _ n)
    · rcases List.mem_append.mp m with m | m
      · exact nH a m
      · exact p1 a (List.mem_append_right _ m)
    · rcases List.mem_append.mp m with m | m
      · rcases ssd a m with z | z
        · exact (p1 a (List.mem_append_left _ z)).toS
        · exact p2 a (List.mem_append_left _ z)
      · exact p2 a (List.mem_append_right _ m)
theorem op_ent (S : OpS Γ r f) (h : tI Γ W (dOp f δs) σ H Q) : tA Γ W δs σ H (fun vs H1 => r vs H1 Q) := by
  obtain ⟨ρ, o, s, al, ow, h⟩ := h
  refine ⟨ρ, o, s, al, ow, ?_⟩
  unfold dOp opR at h
  cases e : δs ρ with
  | no => rw [e] at h; exact h
  | ex x ρ1 => rw [e] at h; exact h
  | ok as bs pu ρ' =>
    rw [e] at h
    cases e1 : vals as with
    | none => simp only [e1] at h; exact h.elim
    | some ds =>
      simp only [e1] at h
      cases e2 : f ds with
      | none => simp only [e2] at h; exact h.elim
      | some d =>
        simp only [e2] at h
        exact fun vs H1 P => op_fin S e1 P e2 h
/-- .. where the parts go into what comes -/
def OpM (Γ : Ctx) (r : List V → Hp → VK → Prop) (f : List D → Option D) : Prop :=
  ∀ (ds : List D) (vs : List V) (H : Hp) (o s : List Addr) (d : D) (Q : VK), Reps Γ H ds vs o s → o.Nodup → (∀ a ∈ s, a ∉ o) → f ds = some d →
    (∀ v H' od sd, Rep Γ H' d v od sd → od.Nodup → (∀ a ∈ od, a ∈ o ∨ H a = none) → (∀ a ∈ sd, a ∈ s) → (∀ a ∈ sd, a ∉ od) → Keep H H' [] → Q v H') → r vs H Q
def opRM (f : List D → Option D) : RA → R
  | .ok as bs pu ρ => (match vals as with
    | some ds => (match f ds with
      | some d => .ok d bs pu ρ
      | none => .no)
    | none => .no)
  | .ex e ρ => .ex e ρ
  | .no => .no
def dDisp (f : List D → Option D) (δs : DenA) : Den := fun ρ => opRM f (δs ρ)
theorem opM_fin (S : OpM Γ r f) {ds : List D} (e : vals as = some ds) (P : PostA Γ H o s ρ σ as bs pu ρ' vs H1) (hf : f ds = some d)
    (q : ∀ v H2, PostE Γ H o s ρ σ d bs pu ρ' v H2 → Q v H2) : r vs H1 Q := by
  obtain ⟨hl, ht⟩ := vals_tmps e P.ar
  obtain ⟨o1, s1, ow, p1, p2⟩ := P.l2
  rw [ht] at ow
  obtain ⟨oa, sa, ob, sb, owA, owB, rfl, rfl⟩ := id ow.left
  have nd := List.nodup_append.mp ow.2.1
  have dj := ow.2.2
  have tr := ow.trk
  have ra : Reps Γ H1 ds vs oa sa := by
    have := owA.1
    unfold RepG at this
    rwa [zip_fst hl, zip_snd hl] at this
  refine S ds vs H1 oa sa d Q ra owA.2.1 owA.2.2 hf fun v H2 od sd rd ndd fod ssd dd k => q v H2 ?_
  have trb : ∀ a, a ∈ ob ∨ a ∈ sb → H1 a ≠ none := fun a m => by
    rcases m with m | m
    · intro z
      have := tr.1 a (List.mem_append_right _ m)
      rw [z] at this; exact this
    · exact tr.2 a (List.mem_append_right _ m)
  have kp2 : Keep H H2 o := P.kp.trans k fun _ m => nomatch m
  refine ⟨P.al, P.l1.same k, ?_, kp2, fun z => ⟨(P.pu z).1, (P.pu z).2.trans k fun _ m => nomatch m⟩⟩
  refine ⟨od ++ ob, sd ++ sb, Own.mkc rd (owB.same k) ndd dd (fun a m => ⟨fun n => ?_, fun n => ?_⟩) (fun a m n => dj a (List.mem_append_left _ (ssd a m)) (List.mem_append_right _ n)), fun a m => ?_, fun a m => ?_⟩
  · rcases fod a m with z | z
    · exact nd.2.2 a z a n rfl
    · exact trb a (.inl n) z
  · rcases fod a m with z | z
    · exact dj a (List.mem_append_right _ n) (List.mem_append_left _ z)
    · exact trb a (.inr n) z
  · rcases List.mem_append.mp m with m | m
    · rcases fod a m with z | z
      · exact p1 a (List.mem_append_left _ z)
      · exact P.kp.unt z
    · exact p1 a (List.mem_append_right _ m)
  · rcases List.mem_append.mp m with m | m
    · exact p2 a (List.mem_append_left _ (ssd a m))
    · exact p2 a (List.mem_append_right _ m)
theorem opM_ent (S : OpM Γ r f) (h : tI Γ W (dDisp f δs) σ H Q) : tA Γ W δs σ H (fun vs H1 => r vs H1 Q) := by
  obtain ⟨ρ, o, s, al, ow, h⟩ := h
  refine ⟨ρ, o, s, al, ow, ?_⟩
  unfold dDisp opRM at h
  cases e : δs ρ with
  | no => rw [e] at h; exact h
  | ex x ρ1 => rw [e] at h; exact h
  | ok as bs pu ρ' =>
    rw [e] at h
    cases e1 : vals as with
    | none => simp only [e1] at h; exact h.elim
    | some ds =>
      simp only [e1] at h
      cases e2 : f ds with
      | none => simp only [e2] at h; exact h.elim
      | some d =>
        simp only [e2] at h
        exact fun vs H1 P => opM_fin S e1 P e2 h
/-- a value without nodes comes, the heap as it is -/
theorem OpS.val (h : ∀ ds vs H o s d, Reps Γ H ds vs o s → f ds = some d → ∃ v, Rep Γ H d v [] [] ∧ ∀ Q : VK, Q v H → r vs H Q) : OpS Γ r f := by
  intro ds vs H o s d Q rs e q
  obtain ⟨v, rv, k⟩ := h ds vs H o s d rs e
  exact k Q (q v H [] [] rv .nil (fun _ m => nomatch m) (fun _ m => nomatch m) Keep.refl)
theorem Keep.new {p : Addr} {u : HO} (h : H p = none) : Keep H (upd H p u) [] := fun a x e _ => by rw [upd_ne (ne_of_none e h)]; exact e
theorem Reps.new {ds : List D} {vs : List V} {o s : List Addr} {p : Addr} {u : HO} (h : H p = none) (r : Reps Γ H ds vs o s) : Reps Γ (upd H p u) ds vs o s :=
  r.stay ((Keep.new h).tup fun _ m => nomatch m) fun a _ x e => by rw [upd_ne (ne_of_none e h)]; exact e
/-- a new list -/
theorem OpS.newL (h : ∀ ds vs H o s d, Reps Γ H ds vs o s → f ds = some d → ∃ es ws sw, d = .lst true es ∧ Reps Γ H es ws [] sw ∧ (∀ a ∈ sw, a ∈ o ∨ a ∈ s) ∧ ∀ Q : VK, (∀ p, H p = none → Q (.ref p) (upd H p (.lst ws))) → r vs H Q) : OpS Γ r f := by
  intro ds vs H o s d Q rs e q
  obtain ⟨es, ws, sw, rfl, rw', m, k⟩ := h ds vs H o s d rs e
  refine k Q fun p hp => q (.ref p) _ [p] sw ⟨p, ws, [], sw, rfl, rw'.new hp, upd_same, rfl, rfl⟩ (by simp) (fun a m => ?_) m (Keep.new hp)
  simp at m; subst m; exact hp
/-- a new tuple -/
theorem OpS.newT (h : ∀ ds vs H o s d, Reps Γ H ds vs o s → f ds = some d → ∃ es ws sw, d = .tup es ∧ Reps Γ H es ws [] sw ∧ (∀ a ∈ sw, a ∈ o ∨ a ∈ s) ∧ ∀ Q : VK, (∀ p, H p = none → Q (.ref p) (upd H p (.tup ws))) → r vs H Q) : OpS Γ r f := by
  intro ds vs H o s d Q rs e q
  obtain ⟨es, ws, sw, rfl, rw', m, k⟩ := h ds vs H o s d rs e
  exact k Q fun p hp => q (.ref p) _ [] sw ⟨p, ws, rfl, rw'.new hp, .inl (.inl upd_same)⟩ .nil (fun _ m => nomatch m) m (Keep.new hp)
theorem OpS.or {f g : List D → Option D} {r r' : List V → Hp → VK → Prop} (h : OpS Γ r f) (h' : OpS Γ r' g) : OpS Γ (fun vs H Q => r vs H Q ∨ r' vs H Q) (fun ds => (f ds).or (g ds)) := by
  intro ds vs H o s d Q rs e q
  cases e1 : f ds with
  | some x =>
    simp [e1] at e
    subst e
    exact .inl (h ds vs H o s _ Q rs e1 q)
  | none =>
    simp [e1] at e
    exact .inr (h' ds vs H o s _ Q rs e q)
end
end TB
end
section
set_option Elab.async false
set_option linter.all false
set_option maxRecDepth 100000
set_option maxHeartbeats 4000000
namespace TB
open PySem PySem.Spec L2

/-- the items of a list, a tuple -/
def sv : D → Option (List D)
  | .lst _ xs => some xs
  | .tup xs => some xs
  | .lk xs => some xs
  | _ => none
def r1L (r : V → Hp → VK → Prop) : List V → Hp → VK → Prop := fun vs H Q => ∃ x, vs = [x] ∧ r x H Q
def r2L (r : R2) : List V → Hp → VK → Prop := fun vs H Q => ∃ x y, vs = [x, y] ∧ r x y H Q
section
variable {Γ : Ctx} {X : Cx} {W : WX} {H H1 H2 H' : Hp} {o s : List Addr} {σ : L2.St} {v : V} {vs : List V} {δ δa δb δc : Den} {δs : DenA} {Q : VK} {f : List D → Option D}
theorem sizeL : (sizeLine : Nat) = 16777216 := sizeLine_eq
theorem Reps.one' {d : D} (h : Reps Γ H [d] vs o s) : ∃ v, vs = [v] ∧ Rep Γ H d v o s := by
  obtain ⟨v, vs', o1, s1, o2, s2, rfl, h1, ⟨rfl, rfl, rfl⟩, rfl, rfl⟩ := h
  exact ⟨v, rfl, by simpa using h1⟩
theorem Reps.two {d e : D} (h : Reps Γ H [d, e] vs o s) : ∃ v w oa sa ob sb, vs = [v, w] ∧ Rep Γ H d v oa sa ∧ Rep Γ H e w ob sb ∧ o = oa ++ ob ∧ s = sa ++ sb := by
  obtain ⟨v, vs', o1, s1, o2, s2, rfl, h1, h2, rfl, rfl⟩ := h
  obtain ⟨w, rfl, h3⟩ := h2.one'
  exact ⟨v, w, o1, s1, o2, s2, rfl, h1, h3, rfl, rfl⟩
theorem LkL.sq {a : Addr} {xs : List V} (h : LkL Γ.K H a xs) : SqL Γ.K H a xs := by
  rcases h with ⟨o, h⟩ | h
  · exact .inl (.inr ⟨o, h⟩)
  · exact .inr h
theorem Rep.seq {d : D} {ds : List D} (e : sv d = some ds) (h : Rep Γ H d v o s) : ∃ a vs o' s', v = .ref a ∧ Reps Γ H ds vs o' s' ∧ (∀ b ∈ o', b ∈ o) ∧ (∀ b ∈ s', b ∈ s) ∧ (SqL Γ.K H a vs ∨ SqT Γ.K H a vs) := by
  cases d with
  | lst w xs =>
    cases e
    obtain ⟨a, vs, o', s', rfl, r, n⟩ := h
    exact ⟨a, vs, o', s', rfl, r, n.osub.1, n.osub.2, .inl (.of n.it)⟩
  | tup xs =>
    cases e
    obtain ⟨a, vs, rfl, r, n⟩ := h
    exact ⟨a, vs, o, s, rfl, r, fun _ m => m, fun _ m => m, .inr n⟩
  | lk xs =>
    cases e
    obtain ⟨a, vs, rfl, r, n⟩ := h
    exact ⟨a, vs, o, s, rfl, r, fun _ m => m, fun _ m => m, .inl n.sq⟩
  | _ => cases e
theorem Rep.lstI {w : Bool} {ds : List D} (h : Rep Γ H (.lst w ds) v o s) : ∃ a vs o' s', v = .ref a ∧ Reps Γ H ds vs o' s' ∧ (∀ b ∈ o', b ∈ o) ∧ (∀ b ∈ s', b ∈ s) ∧ H a = some (.lst vs) := by
  obtain ⟨a, vs, o', s', rfl, r, n⟩ := h
  exact ⟨a, vs, o', s', rfl, r, n.osub.1, n.osub.2, n.it⟩

/-! ### expressions from operations -/
theorem ed1 {e : Expr} {t : TE} {r : List V → Hp → VK → Prop} (S : OpS Γ r f) (h : PE X e t) (i : ∀ σ H Q, tCons (tI Γ W δ) tNil σ H (fun vs H1 => r vs H1 Q) → t σ H Q) : PE X e (tI Γ W (dOp f (dCons δ dNil))) :=
  h.imp fun σ H Q q => i σ H Q ((tA_cons (op_ent S q)).mono fun v H1 z => tA_nil z)
theorem ed2 {e : Expr} {t : TE} {r : List V → Hp → VK → Prop} (S : OpS Γ r f) (h : PE X e t) (i : ∀ σ H Q, tCons (tI Γ W δa) (tCons (tI Γ W δb) tNil) σ H (fun vs H1 => r vs H1 Q) → t σ H Q) : PE X e (tI Γ W (dOp f (dCons δa (dCons δb dNil)))) :=
  h.imp fun σ H Q q => i σ H Q ((tA_cons (op_ent S q)).mono fun v H1 z => (tA_cons z).mono fun _ _ z => tA_nil z)
theorem tI_mono2 {r r' : R2} (h : tOp r (tI Γ W δa) (tI Γ W δb) σ H Q) (q : ∀ x y H Q, r x y H Q → r' x y H Q) : tOp r' (tI Γ W δa) (tI Γ W δb) σ H Q :=
  h.mono fun _ _ z => z.mono fun _ _ z => q _ _ _ _ z
theorem ed_bin {a b : Expr} {op : Operator} {pos : Pos} {r : R2} (S : OpS Γ (r2L r) f) (ho : OpR X (binaryOp op) r) (ha : PE X a (tI Γ W δa)) (hb : PE X b (tI Γ W δb)) : PE X (.BinOp a op b pos) (tI Γ W (dOp f (dCons δa (dCons δb dNil)))) :=
  ed2 S (pe_op ho ha hb) fun σ H Q q => tI.mono q fun v H1 z => tI.mono z fun w H2 ⟨x, y, e, k⟩ => by cases e; exact k
theorem ed_un {a : Expr} {op : UnaryOp} {pos : Pos} {r : V → Hp → VK → Prop} (S : OpS Γ (r1L r) f) (ho : UnR X (unaryOp op) r) (ha : PE X a (tI Γ W δ)) : PE X (.UnaryOp op a pos) (tI Γ W (dOp f (dCons δ dNil))) :=
  ed1 S (pe_un ho ha) fun σ H Q q => tI.mono q fun v H1 ⟨x, e, k⟩ => by cases e; exact k
theorem ed_cmp {a b : Expr} {op : CmpOp} {pos : Pos} {r : R2} (S : OpS Γ (r2L r) f) (ho : OpR X (compareOp op) r) (ha : PE X a (tI Γ W δa)) (hb : PE X b (tI Γ W δb)) (hm : behindInMarks op b = false) : PE X (.Compare a [op] [b] pos) (tI Γ W (dOp f (dCons δa (dCons δb dNil)))) :=
  ed2 S (pe_cmpR ho ha hb hm) fun σ H Q q => tI.mono q fun v H1 z => tI.mono z fun w H2 ⟨x, y, e, k⟩ => by cases e; exact k
theorem ed_ix {a b : Expr} {pos : Pos} {r : R2} (S : OpS Γ (r2L r) f) (ho : IxR X r) (ha : PE X a (tI Γ W δa)) (hb : PE X b (tI Γ W δb)) (hs : PlainIx b) : PE X (.Subscript a b pos) (tI Γ W (dOp f (dCons δa (dCons δb dNil)))) :=
  ed2 S (pe_ix ho ha hb hs) fun σ H Q q => tI.mono q fun v H1 z => tI.mono z fun w H2 ⟨x, y, e, k⟩ => by cases e; exact k
theorem ea_nil : PA X [] (tA Γ W dNil) := pa_nil.imp fun σ H Q q => tA_nil q
theorem ea_cons {e : Expr} {es : List Expr} (ha : PE X e (tI Γ W δ)) (hr : PA X es (tA Γ W δs)) (hs : starEach (e :: es) X.env = (false, eval e X.env) :: starEach es X.env := by rfl) : PA X (e :: es) (tA Γ W (dCons δ δs)) :=
  (pa_cons ha hr hs).imp fun σ H Q q => tA_cons q
theorem ea_io {i : Nat} {x : Str} {pos : Pos} {es : List Expr} (hr : PA X es (tA Γ W δs)) (hN : X.N[i]? = some x := by rfl) (hv : Vis X.env.scope x := by first | exact Or.inl rfl | exact Or.inr (Or.inl rfl) | exact Or.inr (Or.inr rfl)) (hd : (x == ("__debug__" : Str)) = false := by decide)
    (hcd : (x == ("__classdict__" : Str)) = false := by decide) (hs : starEach (Expr.Name x pos :: es) X.env = (false, eval (Expr.Name x pos) X.env) :: starEach es X.env := by rfl) : PA X (.Name x pos :: es) (tA Γ W (dIo i δs)) :=
  (pa_cons (pe_var hN hv hd hcd) hr hs).imp fun σ H Q q => tA_io q
theorem ed_callB {id : String} {x : Str} {p pos : Pos} {e : Expr} {es : List Expr} {r : List V → Hp → VK → Prop} (S : OpS Γ r f) (hc : CallR X (.builtin id) r) (hg : Gl X x) (hm : X.mg x = none) (hv : bootBuiltins x = some (.builtin id)) (ha : PA X (e :: es) (tA Γ W δs)) (hn : x ≠ "__name__" := by decide) (hdb : (x == ("__debug__" : Str)) = false := by decide)
    (he : starEach (e :: es) X.env = (false, eval e X.env) :: starEach es X.env := by rfl) (hpl : (backTo pos (starEach es X.env)).any (·.1) = false := by rfl) : PE X (.Call (.Name x p) (e :: es) [] pos) (tI Γ W (dOp f δs)) :=
  (pe_callB hc hg hm hv ha hn hdb he hpl).imp fun σ H Q q => op_ent S q
theorem ed_callTy {T : String} {x : Str} {p pos : Pos} {e : Expr} {es : List Expr} {r : List V → Hp → VK → Prop} (S : OpS Γ r f) (hc : CallR X (.type T) r) (hg : Gl X x) (hm : X.mg x = none) (hv : bootBuiltins x = some (.type T)) (ha : PA X (e :: es) (tA Γ W δs)) (hn : x ≠ "__name__" := by decide) (hdb : (x == ("__debug__" : Str)) = false := by decide)
    (he : starEach (e :: es) X.env = (false, eval e X.env) :: starEach es X.env := by rfl) (hpl : (backTo pos (starEach es X.env)).any (·.1) = false := by rfl) : PE X (.Call (.Name x p) (e :: es) [] pos) (tI Γ W (dOp f δs)) :=
  (pe_callTy hc hg hm hv ha hn hdb he hpl).imp fun σ H Q q => op_ent S q

/-! ### names, constants -/
def dVar (i : Nat) : Den := fun ρ => match ρ[i]? with
  | some (some d) => if imm d then .ok d [] true ρ else .ok (fr d) [i] true ρ
  | _ => .no
/-- a name read for the last time -/
def dMove (i : Nat) : Den := fun ρ => match ρ[i]? with
  | some (some d) => .ok d [] false (ρ.set i none)
  | _ => .no
def dC (d : D) : Den := fun ρ => .ok d [] true ρ
theorem tI_var {i : Nat} (h : tI Γ W (dVar i) σ H Q) : tVar i σ H Q := by
  obtain ⟨ρ, o, s, al, ow, h⟩ := h
  unfold dVar at h
  cases e : ρ[i]? with
  | none => rw [e] at h; exact h.elim
  | some x =>
    cases x with
    | none => rw [e] at h; exact h.elim
    | some d =>
      rw [e] at h
      obtain ⟨v, hv, l⟩ := ow.live.at al e
      refine ⟨v, hv, ?_⟩
      cases hi : imm d with
      | true =>
        simp only [hi, if_true] at h
        obtain ⟨o1, s1, r⟩ := l.rep
        exact h v H ⟨al, ow.live, ow.live.imm hi r, Keep.refl, fun _ => ⟨rfl, Keep.refl⟩⟩
      | false =>
        simp only [hi, Bool.false_eq_true, if_false] at h
        refine h v H ⟨al, ow.live, ?_, Keep.refl, fun _ => ⟨rfl, Keep.refl⟩⟩
        have p := slots_out (fz1_at e) hv
        rw [fz1_none] at p
        exact (l.dup fun _ m => m.toS).perm (p.symm.cons _)
theorem tI_move {i : Nat} (h : tI Γ W (dMove i) σ H Q) : tVar i σ H Q := by
  obtain ⟨ρ, o, s, al, ow, h⟩ := h
  unfold dMove at h
  cases e : ρ[i]? with
  | none => rw [e] at h; exact h.elim
  | some x =>
    cases x with
    | none => rw [e] at h; exact h.elim
    | some d =>
      rw [e] at h
      obtain ⟨v, hv, l⟩ := ow.live.at al e
      exact ⟨v, hv, h v H ⟨set_none_out al i, l.tail, l, Keep.refl, fun z => nomatch z⟩⟩
theorem ed_var (i : Nat) {x : Str} {pos : Pos} (hN : X.N[i]? = some x := by rfl) (hv : Vis X.env.scope x := by first | exact Or.inl rfl | exact Or.inr (Or.inl rfl) | exact Or.inr (Or.inr rfl)) (hd : (x == ("__debug__" : Str)) = false := by decide)
    (hcd : (x == ("__classdict__" : Str)) = false := by decide) : PE X (.Name x pos) (tI Γ W (dVar i)) := (pe_var hN hv hd hcd).imp fun σ H Q q => tI_var q
theorem ed_move (i : Nat) {x : Str} {pos : Pos} (hN : X.N[i]? = some x := by rfl) (hv : Vis X.env.scope x := by first | exact Or.inl rfl | exact Or.inr (Or.inl rfl) | exact Or.inr (Or.inr rfl)) (hd : (x == ("__debug__" : Str)) = false := by decide)
    (hcd : (x == ("__classdict__" : Str)) = false := by decide) : PE X (.Name x pos) (tI Γ W (dMove i)) := (pe_var hN hv hd hcd).imp fun σ H Q q => tI_move q
theorem tI_c {d : D} {v : V} (r : ∀ H, Rep Γ H d v [] []) (h : tI Γ W (dC d) σ H Q) : tC v σ H Q := by
  obtain ⟨ρ, o, s, al, ow, h⟩ := h
  refine h v H ⟨al, ow.live, ?_, Keep.refl, fun _ => ⟨rfl, Keep.refl⟩⟩
  exact ⟨[] ++ o, [] ++ s, Own.mkc (r H) ow .nil (fun _ z => nomatch z) (fun _ z => nomatch z) (fun _ z => nomatch z), fun a m => .inl (by simpa using m), fun a m => .inr (.inl (by simpa using m))⟩
theorem ed_int {i : Int} {j pos} : PE X (.Constant (.int i) j pos) (tI Γ W (dC (.int i))) := pe_int.imp fun σ H Q q => tI_c (d := .int i) (fun _ => ⟨rfl, rfl, rfl⟩) q
theorem ed_bl {b : Bool} {j pos} : PE X (.Constant (.bool b) j pos) (tI Γ W (dC (.bl b))) := pe_bl.imp fun σ H Q q => tI_c (d := .bl b) (fun _ => ⟨rfl, rfl, rfl⟩) q
theorem ed_non {j pos} : PE X (.Constant .none j pos) (tI Γ W (dC .non)) := pe_non.imp fun σ H Q q => tI_c (d := .non) (fun _ => ⟨rfl, rfl, rfl⟩) q
theorem ed_str {x : Str} (l : List Nat) {j pos} (h : x = ⟨l.toArray⟩) : PE X (.Constant (.str x) j pos) (tI Γ W (dC (.str l))) := pe_str.imp fun σ H Q q => tI_c (d := .str l) (fun _ => ⟨by rw [h], rfl, rfl⟩) q
/-- a global name that holds a constant -/
theorem ed_glob {x : Str} {d : D} {v : V} {u : Value} {pos : Pos} (hg : Gl X x) (hm : X.mg x = some u) (r : RelV v u) (rd : ∀ H, Rep Γ H d v [] []) (hd : (x == ("__debug__" : Str)) = false := by decide) : PE X (.Name x pos) (tI Γ W (dC d)) := (pe_glob hg hm r hd).imp fun σ H Q q => tI_c rd q

/-! ### displays -/
def opTup : List D → Option D := fun ds => if ds.length ≤ 16777216 then some (.tup ds) else none
def opLst : List D → Option D := fun ds => if ds.length ≤ 16777216 then some (.lst true ds) else none
theorem opTup_ok : OpM Γ (fun vs H Q => vs.length ≤ sizeLine ∧ ∀ p, H p = none → Q (.ref p) (upd H p (.tup vs))) opTup := by
  intro ds vs H o s d Q rs nd dj e q
  unfold opTup at e
  split at e
  · rename_i hl
    cases e
    refine ⟨by rw [← rs.len, sizeL]; exact hl, fun p hp => q _ _ o s ⟨p, vs, rfl, rs.new hp, .inl (.inl upd_same)⟩ nd (fun a m => .inl m) (fun a m => m) dj (Keep.new hp)⟩
  · cases e
theorem opLst_ok : OpM Γ (fun vs H Q => vs.length ≤ sizeLine ∧ ∀ p, H p = none → Q (.ref p) (upd H p (.lst vs))) opLst := by
  intro ds vs H o s d Q rs nd dj e q
  unfold opLst at e
  split at e
  · rename_i hl
    cases e
    have tr := rs.trk
    refine ⟨by rw [← rs.len, sizeL]; exact hl, fun p hp => q _ _ (p :: o) s ⟨p, vs, o, s, rfl, rs.new hp, upd_same, rfl, rfl⟩ (List.nodup_cons.mpr ⟨fun m => ?_, nd⟩) (fun a m => ?_) (fun a m => m) (fun a m n => ?_) (Keep.new hp)⟩
    · have := tr.1 p m
      rw [hp] at this; exact this
    · rcases List.mem_cons.mp m with m | m
      · subst m; exact .inr hp
      · exact .inl m
    · rcases List.mem_cons.mp n with n | n
      · subst n; exact tr.2 a m hp
      · exact dj a m n
  · cases e
theorem ed_tup {es : List Expr} {x1 pos} (h : PA X es (tA Γ W δs)) : PE X (.Tuple es x1 pos) (tI Γ W (dDisp opTup δs)) := (pe_tup h).imp fun σ H Q q => opM_ent opTup_ok q
theorem ed_lst {es : List Expr} {pos} (h : PA X es (tA Γ W δs)) : PE X (.List es pos) (tI Γ W (dDisp opLst δs)) := (pe_lst h).imp fun σ H Q q => opM_ent opLst_ok q
end
end TB
end
section
set_option Elab.async false
set_option linter.all false
set_option maxRecDepth 100000
set_option maxHeartbeats 4000000
namespace TB
open PySem PySem.Spec L2
/-! ### the operations of the language -/
section
variable {Γ : Ctx} {X : Cx} {W : WX} {H H1 H2 H' : Hp} {o s : List Addr} {σ : L2.St} {v : V} {vs : List V} {δ δa δb δc : Den} {δs : DenA} {Q : VK} {f : List D → Option D}

/-- two scalars in, a value without nodes out -/
theorem ops2 {r : R2} {f : List D → Option D} (h : ∀ a b v w d, ∀ H o s o' s', Rep Γ H a v o s → Rep Γ H b w o' s' → f [a, b] = some d → ∃ z, Rep Γ H d z [] [] ∧ ∀ Q : VK, Q z H → r v w H Q) (h2 : ∀ ds d, f ds = some d → ∃ a b, ds = [a, b]) : OpS Γ (r2L r) f :=
  OpS.val fun ds vs H o s d rs e => by
    obtain ⟨a, b, rfl⟩ := h2 ds d e
    obtain ⟨v, w, oa, sa, ob, sb, rfl, ra, rb, _, _⟩ := rs.two
    obtain ⟨z, rz, k⟩ := h a b v w d H oa sa ob sb ra rb e
    exact ⟨z, rz, fun Q q => ⟨v, w, rfl, k Q q⟩⟩
def two (g : D → D → Option D) : List D → Option D
  | [a, b] => g a b
  | _ => none
def one (g : D → Option D) : List D → Option D
  | [a] => g a
  | _ => none
theorem two_shape {g : D → D → Option D} : ∀ ds d, two g ds = some d → ∃ a b, ds = [a, b]
  | [a, b], _, _ => ⟨a, b, rfl⟩
  | [], _, h => nomatch h
  | [_], _, h => nomatch h
  | _ :: _ :: _ :: _, _, h => nomatch h
theorem one_shape {g : D → Option D} : ∀ ds d, one g ds = some d → ∃ a, ds = [a]
  | [a], _, _ => ⟨a, rfl⟩
  | [], _, h => nomatch h
  | _ :: _ :: _, _, h => nomatch h
def gSub : D → D → Option D
  | .int i, .int j => some (.int (i - j))
  | _, _ => none
theorem opSub_ok : OpS Γ (r2L (rI0 fun i j => .int (i - j))) (two gSub) := ops2 (fun a b v w d H o s o' s' ra rb e => by
  cases a <;> cases b <;> first | (cases e; done) | skip
  rename_i i j
  cases e
  obtain ⟨rfl, _, _⟩ := ra
  obtain ⟨rfl, _, _⟩ := rb
  exact ⟨_, ⟨rfl, rfl, rfl⟩, fun Q q => ⟨i, j, rfl, rfl, q⟩⟩) two_shape
def CMulB (i j : Int) : Bool := decide (-(2 ^ 64) < i ∧ i < 2 ^ 64) || decide (-(2 ^ 64) < j ∧ j < 2 ^ 64)
theorem CMulB_ok {i j : Int} (h : CMulB i j = true) : CMul i j := by
  unfold CMulB at h
  rw [Bool.or_eq_true] at h
  exact h.imp of_decide_eq_true of_decide_eq_true
def gMod : D → D → Option D
  | .int i, .int j => if 0 < j then some (.int (i % j)) else none
  | _, _ => none
theorem opMod_ok : OpS Γ (r2L (rI (fun _ j => 0 < j) fun i j => .int (i % j))) (two gMod) := ops2 (fun a b v w d H o s o' s' ra rb e => by
  cases a <;> cases b <;> first | (cases e; done) | skip
  rename_i i j
  have e : (if 0 < j then some (D.int (i % j)) else none) = some d := e
  split at e
  · rename_i hj
    cases e
    obtain ⟨rfl, _, _⟩ := ra
    obtain ⟨rfl, _, _⟩ := rb
    exact ⟨_, ⟨rfl, rfl, rfl⟩, fun Q q => ⟨i, j, rfl, rfl, hj, q⟩⟩
  · cases e) two_shape
def gDiv : D → D → Option D
  | .int i, .int j => if 0 < j ∧ j < 1073741824 then some (.int (i / j)) else if 0 < j ∧ j.natAbs < 2 ^ 256 then some (.int (i / j)) else none
  | _, _ => none
def CDivW (_ j : Int) : Prop := 0 < j ∧ j.natAbs.log2 < 9000
theorem op_divW : OpR X (binaryOp .FloorDiv) (rI CDivW fun i j => .int (i / j)) := opI fun i j _ _ _ _ _ hc q => by
  have h1 : (0 : Int) < j := hc.1
  exact PyProof.Rows.floordiv_int (by omega) (by rw [Int.fdiv_eq_ediv_of_nonneg i (by omega)]; exact q) (.inl (PyProof.noPylong_of_log2 hc.2))
theorem cdivW {i j : Int} {k : Nat} (hk : k ≤ 9000) (h0 : 0 < j) (h : j.natAbs < 2 ^ k) : CDivW i j := ⟨h0, by
  have := (Nat.log2_lt (n := j.natAbs) (k := k) (by omega)).mpr h
  omega⟩
theorem opDiv_ok : OpS Γ (r2L (rI CDivW fun i j => .int (i / j))) (two gDiv) := ops2 (fun a b v w d H o s o' s' ra rb e => by
  cases a <;> cases b <;> first | (cases e; done) | skip
  rename_i i j
  have e : (if 0 < j ∧ j < 1073741824 then some (D.int (i / j)) else if 0 < j ∧ j.natAbs < 2 ^ 256 then some (D.int (i / j)) else none) = some d := e
  split at e
  · rename_i hj
    cases e
    obtain ⟨rfl, _, _⟩ := ra
    obtain ⟨rfl, _, _⟩ := rb
    exact ⟨_, ⟨rfl, rfl, rfl⟩, fun Q q => ⟨i, j, rfl, rfl, cdivW (k := 30) (by omega) hj.1 (by omega), q⟩⟩
  · split at e
    · rename_i hj
      cases e
      obtain ⟨rfl, _, _⟩ := ra
      obtain ⟨rfl, _, _⟩ := rb
      exact ⟨_, ⟨rfl, rfl, rfl⟩, fun Q q => ⟨i, j, rfl, rfl, cdivW (k := 256) (by omega) hj.1 hj.2, q⟩⟩
    · cases e) two_shape
def gPow : D → D → Option D
  | .int i, .int j => if 0 ≤ j ∧ j ≤ 1000000 ∧ i.natAbs < 2 ^ 64 then some (.int (i ^ j.toNat)) else if 0 ≤ j ∧ j ≤ 100000 ∧ i.natAbs < 2 ^ 256 then some (.int (i ^ j.toNat)) else none
  | _, _ => none
def CPw (i j : Int) : Prop := 0 ≤ j ∧ (Builtin.Int.intBits i : Int) * j ≤ 2 ^ 27
theorem op_powW : OpR X (binaryOp .Pow) (rI CPw fun i j => .int (i ^ j.toNat)) := opI fun _ _ _ _ _ _ _ hc q => PyProof.Rows.pow_int hc.1 hc.2 q
theorem cpw_big {i j : Int} (h : 0 ≤ j ∧ j ≤ 100000 ∧ i.natAbs < 2 ^ 256) : CPw i j := by
  obtain ⟨h0, h1, h2⟩ := h
  have hb : Builtin.Int.intBits i ≤ 256 := PyProof.Rows.intBits_le h2
  have h3 : (Builtin.Int.intBits i : Int) * j ≤ 256 * j := Int.mul_le_mul_of_nonneg_right (by omega) h0
  exact ⟨h0, by omega⟩
theorem opPow_ok : OpS Γ (r2L (rI CPw fun i j => .int (i ^ j.toNat))) (two gPow) := ops2 (fun a b v w d H o s o' s' ra rb e => by
  cases a <;> cases b <;> first | (cases e; done) | skip
  rename_i i j
  have e : (if 0 ≤ j ∧ j ≤ 1000000 ∧ i.natAbs < 2 ^ 64 then some (D.int (i ^ j.toNat)) else if 0 ≤ j ∧ j ≤ 100000 ∧ i.natAbs < 2 ^ 256 then some (.int (i ^ j.toNat)) else none) = some d := e
  split at e
  · rename_i hj
    cases e
    obtain ⟨rfl, _, _⟩ := ra
    obtain ⟨rfl, _, _⟩ := rb
    exact ⟨_, ⟨rfl, rfl, rfl⟩, fun Q q => ⟨i, j, rfl, rfl, ⟨hj.1, PyProof.Rows.bits_mul_le hj.2.2 hj.1 hj.2.1⟩, q⟩⟩
  · split at e
    · rename_i hj
      cases e
      obtain ⟨rfl, _, _⟩ := ra
      obtain ⟨rfl, _, _⟩ := rb
      exact ⟨_, ⟨rfl, rfl, rfl⟩, fun Q q => ⟨i, j, rfl, rfl, cpw_big hj, q⟩⟩
    · cases e) two_shape
/-! #### + -/
def gAddI : D → D → Option D
  | .int i, .int j => some (.int (i + j))
  | .str x, .str y => if x.length + y.length ≤ 16777216 then some (.str (x ++ y)) else none
  | _, _ => none
def gAddL : D → D → Option D
  | .lst _ xs, .lst _ ys => if xs.length + ys.length ≤ 16777216 then some (.lst true (frs xs ++ frs ys)) else none
  | _, _ => none
def gAddT : D → D → Option D
  | .tup xs, .tup ys => if xs.length + ys.length ≤ 16777216 then some (.tup (frs xs ++ frs ys)) else none
  | _, _ => none
theorem str_app (x y : List Nat) : ((⟨x.toArray⟩ : Str) ++ (⟨y.toArray⟩ : Str)) = ⟨(x ++ y).toArray⟩ := by
  show (⟨x.toArray ++ y.toArray⟩ : Str) = _
  rw [List.append_toArray]
theorem opAddI_ok : OpS Γ (r2L (fun x y H Q => rI0 (fun i j => .int (i + j)) x y H Q ∨ ∃ i j, x = .str i ∧ y = .str j ∧ i.length + j.length ≤ sizeLine ∧ Q (.str (i ++ j)) H)) (two gAddI) := ops2 (fun a b v w d H o s o' s' ra rb e => by
  cases a <;> cases b <;> first | (cases e; done) | skip
  · rename_i i j
    cases e
    obtain ⟨rfl, _, _⟩ := ra
    obtain ⟨rfl, _, _⟩ := rb
    exact ⟨_, ⟨rfl, rfl, rfl⟩, fun Q q => .inl ⟨i, j, rfl, rfl, q⟩⟩
  · rename_i x y
    have e : (if x.length + y.length ≤ 16777216 then some (D.str (x ++ y)) else none) = some d := e
    split at e
    · rename_i hl
      cases e
      obtain ⟨rfl, _, _⟩ := ra
      obtain ⟨rfl, _, _⟩ := rb
      refine ⟨_, ⟨rfl, rfl, rfl⟩, fun Q q => .inr ⟨_, _, rfl, rfl, ?_, ?_⟩⟩
      · rw [sizeL]; exact hl
      · rw [str_app]; exact q
    · cases e) two_shape
theorem opAddL_ok : OpS Γ (r2L rCat) (two gAddL) := OpS.newL fun ds vs H o s d rs e => by
  obtain ⟨a, b, rfl⟩ := two_shape ds d e
  obtain ⟨v, w, oa, sa, ob, sb, rfl, ra, rb, rfl, rfl⟩ := rs.two
  cases a <;> cases b <;> first | (cases e; done) | skip
  rename_i w1 xs w2 ys
  have e : (if xs.length + ys.length ≤ 16777216 then some (D.lst true (frs xs ++ frs ys)) else none) = some d := e
  split at e
  · rename_i hl
    cases e
    obtain ⟨p, us, o1, s1, rfl, r1, m1, m2, h1⟩ := ra.lstI
    obtain ⟨q, ws, o2, s2, rfl, r2, m3, m4, h2⟩ := rb.lstI
    obtain ⟨t1, f1, g1⟩ := r1.frz
    obtain ⟨t2, f2, g2⟩ := r2.frz
    refine ⟨_, us ++ ws, t1 ++ t2, rfl, Reps.append f1 f2, fun a m => ?_, fun Q k => ⟨_, _, rfl, p, q, us, ws, rfl, rfl, h1, h2, ?_, k⟩⟩
    · rcases List.mem_append.mp m with m | m
      · exact (g1 a m).imp (fun z => List.mem_append_left _ (m1 a z)) (fun z => List.mem_append_left _ (m2 a z))
      · exact (g2 a m).imp (fun z => List.mem_append_right _ (m3 a z)) (fun z => List.mem_append_right _ (m4 a z))
    · rw [← r1.len, ← r2.len, sizeL]; exact hl
  · cases e
theorem Rep.tupI {ds : List D} (h : Rep Γ H (.tup ds) v o s) : ∃ a vs, v = .ref a ∧ Reps Γ H ds vs o s ∧ SqT Γ.K H a vs := h
theorem opAddT_ok : OpS Γ (r2L (rCatA Γ.K)) (two gAddT) := fun ds vs H o s d Q rs e q => by
  obtain ⟨a, b, rfl⟩ := two_shape ds d e
  obtain ⟨v, w, oa, sa, ob, sb, rfl, ra, rb, rfl, rfl⟩ := rs.two
  cases a <;> cases b <;> first | (cases e; done) | skip
  rename_i xs ys
  have e : (if xs.length + ys.length ≤ 16777216 then some (D.tup (frs xs ++ frs ys)) else none) = some d := e
  split at e
  · rename_i hl
    cases e
    obtain ⟨p, us, rfl, r1, h1⟩ := ra.tupI
    obtain ⟨p2, ws, rfl, r2, h2⟩ := rb.tupI
    obtain ⟨t1, f1, g1⟩ := r1.frz
    obtain ⟨t2, f2, g2⟩ := r2.frz
    have mm : ∀ a ∈ t1 ++ t2, a ∈ oa ++ ob ∨ a ∈ sa ++ sb := fun a m => by
      rcases List.mem_append.mp m with m | m
      · exact (g1 a m).imp (List.mem_append_left _) (List.mem_append_left _)
      · exact (g2 a m).imp (List.mem_append_right _) (List.mem_append_right _)
    have rr := Reps.append f1 f2
    refine ⟨_, _, rfl, p, p2, us, ws, rfl, rfl, h1, h2, ?_, fun z => ?_, fun _ z => ?_, fun _ _ x hx => ?_⟩
    · rw [← r1.len, ← r2.len, sizeL]; exact hl
    · subst z
      exact q _ _ [] _ ⟨p2, ws, rfl, rr, h2⟩ .nil (fun _ m => nomatch m) mm Keep.refl
    · subst z
      rw [List.append_nil] at rr
      exact q _ _ [] _ ⟨p, us, rfl, rr, h1⟩ .nil (fun _ m => nomatch m) mm Keep.refl
    · exact q _ _ [] _ ⟨x, us ++ ws, rfl, rr.new hx, .inl (.inl upd_same)⟩ .nil (fun _ m => nomatch m) mm (Keep.new hx)
  · cases e
theorem OpS.two_or {r r' : R2} {g g' : D → D → Option D} (h : OpS Γ (r2L r) (two g)) (h' : OpS Γ (r2L r') (two g')) : OpS Γ (r2L fun x y H Q => r x y H Q ∨ r' x y H Q) (two fun a b => (g a b).or (g' a b)) := by
  intro ds vs H o s d Q rs e q
  obtain ⟨a, b, rfl⟩ := two_shape ds d e
  have e : (g a b).or (g' a b) = some d := e
  cases e1 : g a b with
  | some x =>
    rw [e1] at e
    have e : some x = some d := e
    cases e
    obtain ⟨x, y, rfl, k⟩ := h [a, b] vs H o s _ Q rs e1 q
    exact ⟨x, y, rfl, .inl k⟩
  | none =>
    rw [e1] at e
    have e : g' a b = some d := e
    obtain ⟨x, y, rfl, k⟩ := h' [a, b] vs H o s _ Q rs e q
    exact ⟨x, y, rfl, .inr k⟩
theorem OpS.one_or {r r' : List V → Hp → VK → Prop} {g g' : D → Option D} (h : OpS Γ r (one g)) (h' : OpS Γ r' (one g')) : OpS Γ (fun xs H Q => r xs H Q ∨ r' xs H Q) (one fun a => (g a).or (g' a)) := by
  intro ds vs H o s d Q rs e q
  obtain ⟨a, rfl⟩ := one_shape ds d e
  have e : (g a).or (g' a) = some d := e
  cases e1 : g a with
  | some x =>
    rw [e1] at e
    have e : some x = some d := e
    cases e
    exact .inl (h [a] vs H o s _ Q rs e1 q)
  | none =>
    rw [e1] at e
    have e : g' a = some d := e
    exact .inr (h' [a] vs H o s _ Q rs e q)
def gAdd : D → D → Option D := fun a b => (gAddI a b).or ((gAddL a b).or (gAddT a b))
theorem ed_add {a b : Expr} {pos : Pos} (hK : X.K = Γ.K) (ha : PE X a (tI Γ W δa)) (hb : PE X b (tI Γ W δb)) : PE X (.BinOp a .Add b pos) (tI Γ W (dOp (two gAdd) (dCons δa (dCons δb dNil)))) :=
  ed_bin (opAddI_ok.two_or (opAddL_ok.two_or opAddT_ok)) ((op_add.or op_add_str).or (op_cat.or (hK ▸ op_catA))) ha hb
theorem ed_sub {a b : Expr} {pos : Pos} (ha : PE X a (tI Γ W δa)) (hb : PE X b (tI Γ W δb)) : PE X (.BinOp a .Sub b pos) (tI Γ W (dOp (two gSub) (dCons δa (dCons δb dNil)))) := ed_bin opSub_ok op_sub ha hb
theorem ed_mod {a b : Expr} {pos : Pos} (ha : PE X a (tI Γ W δa)) (hb : PE X b (tI Γ W δb)) : PE X (.BinOp a .Mod b pos) (tI Γ W (dOp (two gMod) (dCons δa (dCons δb dNil)))) := ed_bin opMod_ok op_mod ha hb
theorem ed_div {a b : Expr} {pos : Pos} (ha : PE X a (tI Γ W δa)) (hb : PE X b (tI Γ W δb)) : PE X (.BinOp a .FloorDiv b pos) (tI Γ W (dOp (two gDiv) (dCons δa (dCons δb dNil)))) := ed_bin opDiv_ok op_divW ha hb
theorem ed_pow {a b : Expr} {pos : Pos} (ha : PE X a (tI Γ W δa)) (hb : PE X b (tI Γ W δb)) : PE X (.BinOp a .Pow b pos) (tI Γ W (dOp (two gPow) (dCons δa (dCons δb dNil)))) := ed_bin opPow_ok op_powW ha hb
/-! #### * -/
def gMulI : D → D → Option D
  | .int i, .int j => if CMulB i j then some (.int (i * j)) else none
  | _, _ => none
def gMulL : D → D → Option D
  | .lst _ xs, .int k => if imms xs = true ∧ -(2 ^ 63) ≤ k ∧ k < 2 ^ 63 ∧ xs.length * k.toNat ≤ 16777216 then some (.lst true (List.replicate k.toNat xs).flatten) else none
  | _, _ => none
theorem opMulI_ok : OpS Γ (r2L (rI CMul fun i j => .int (i * j))) (two gMulI) := ops2 (fun a b v w d H o s o' s' ra rb e => by
  cases a <;> cases b <;> first | (cases e; done) | skip
  rename_i i j
  have e : (if CMulB i j then some (D.int (i * j)) else none) = some d := e
  split at e
  · rename_i hj
    cases e
    obtain ⟨rfl, _, _⟩ := ra
    obtain ⟨rfl, _, _⟩ := rb
    exact ⟨_, ⟨rfl, rfl, rfl⟩, fun Q q => ⟨i, j, rfl, rfl, CMulB_ok hj, q⟩⟩
  · cases e) two_shape
theorem Reps.imms {ds : List D} (e : imms ds = true) (h : Reps Γ H ds vs o s) : o = [] ∧ s = [] :=
  Reps.imm0 (P := fun d => imm d = true) (fun d v o s p => Rep.imm_nil d v o s p) (fun d m => imms_mem e d m) h
theorem Reps.rep {ds : List D} (h : Reps Γ H ds vs [] []) : ∀ n : Nat, Reps Γ H (List.replicate n ds).flatten (List.replicate n vs).flatten [] []
  | 0 => ⟨rfl, rfl, rfl⟩
  | n + 1 => by
    rw [List.replicate_succ, List.replicate_succ, List.flatten_cons, List.flatten_cons]
    exact Reps.append (o := []) (s := []) (o' := []) (s' := []) h (Reps.rep h n)
theorem opMulL_ok : OpS Γ (r2L rRep) (two gMulL) := OpS.newL fun ds vs H o s d rs e => by
  obtain ⟨a, b, rfl⟩ := two_shape ds d e
  obtain ⟨v, w, oa, sa, ob, sb, rfl, ra, rb, rfl, rfl⟩ := rs.two
  cases a <;> cases b <;> first | (cases e; done) | skip
  rename_i w1 xs k
  have e : (if imms xs = true ∧ -(2 ^ 63) ≤ k ∧ k < 2 ^ 63 ∧ xs.length * k.toNat ≤ 16777216 then some (D.lst true (List.replicate k.toNat xs).flatten) else none) = some d := e
  split at e
  · rename_i hl
    cases e
    obtain ⟨p, us, o1, s1, rfl, r1, m1, m2, h1⟩ := ra.lstI
    obtain ⟨rfl, _, _⟩ := rb
    obtain ⟨rfl, rfl⟩ := r1.imms hl.1
    refine ⟨_, _, [], rfl, r1.rep _, (fun _ m => nomatch m), fun Q q => ⟨_, _, rfl, p, k, us, rfl, rfl, h1, hl.2.1, hl.2.2.1, ?_, q⟩⟩
    rw [← r1.len, sizeL]; exact hl.2.2.2
  · cases e
def gMulB : D → D → Option D
  | .int i, .int j => if i.natAbs < 2 ^ 256 ∧ j.natAbs < 2 ^ 256 then some (.int (i * j)) else none
  | _, _ => none
theorem op_mulW : OpR X (binaryOp .Mult) (rI IntMulOk fun i j => .int (i * j)) := opI fun _ _ _ _ _ _ _ hc q => P.mul_int q hc
theorem opMulB_ok : OpS Γ (r2L (rI IntMulOk fun i j => .int (i * j))) (two gMulB) := ops2 (fun a b v w d H o s o' s' ra rb e => by
  cases a <;> cases b <;> first | (cases e; done) | skip
  rename_i i j
  have e : (if i.natAbs < 2 ^ 256 ∧ j.natAbs < 2 ^ 256 then some (D.int (i * j)) else none) = some d := e
  split at e
  · rename_i hj
    cases e
    obtain ⟨rfl, _, _⟩ := ra
    obtain ⟨rfl, _, _⟩ := rb
    have h1 : Builtin.Int.intBits i ≤ 256 := PyProof.Rows.intBits_le hj.1
    have h2 : Builtin.Int.intBits j ≤ 256 := PyProof.Rows.intBits_le hj.2
    exact ⟨_, ⟨rfl, rfl, rfl⟩, fun Q q => ⟨i, j, rfl, rfl, IntMulOk.of_bits (by omega) (by omega), q⟩⟩
  · cases e) two_shape
def gMul : D → D → Option D := fun a b => (gMulI a b).or ((gMulL a b).or (gMulB a b))
theorem ed_mul {a b : Expr} {pos : Pos} (ha : PE X a (tI Γ W δa)) (hb : PE X b (tI Γ W δb)) : PE X (.BinOp a .Mult b pos) (tI Γ W (dOp (two gMul) (dCons δa (dCons δb dNil)))) := ed_bin (opMulI_ok.two_or (opMulL_ok.two_or opMulB_ok)) (op_mul.or (op_rep.or op_mulW)) ha hb
end
end TB
end
section
set_option Elab.async false
set_option linter.all false
set_option maxRecDepth 100000
set_option maxHeartbeats 4000000
namespace TB
open PySem PySem.Spec L2
/-! ### equality of data -/
mutual
def toPy : D → PyData
  | .non => .none
  | .bl b => .bool b
  | .int i => .int i
  | .str x => .str ⟨x.toArray⟩
  | .lst _ xs => .list (toPys xs)
  | .tup xs => .tuple (toPys xs)
  | .lk xs => .list (toPys xs)
  | _ => .none
def toPys : List D → List PyData
  | [] => []
  | x :: xs => toPy x :: toPys xs
end
mutual
/-- what == takes: no dict, no object, texts of code points -/
def shp : D → Bool
  | .non => true
  | .bl _ => true
  | .int _ => true
  | .str x => x.all (· < 1114112)
  | .lst _ xs => shps xs
  | .tup xs => shps xs
  | .lk xs => shps xs
  | _ => false
def shps : List D → Bool
  | [] => true
  | x :: xs => shp x && shps xs
end
mutual
def dep : D → Nat
  | .lst _ xs => deps xs + 1
  | .tup xs => deps xs + 1
  | .lk xs => deps xs + 1
  | _ => 0
def deps : List D → Nat
  | [] => 0
  | x :: xs => max (dep x) (deps xs)
end
mutual
def eqD : D → D → Bool
  | .non, .non => true
  | .bl a, .bl b => a == b
  | .bl a, .int j => (if a then 1 else 0) == j
  | .int i, .bl b => i == (if b then 1 else 0)
  | .int i, .int j => i == j
  | .str x, .str y => x == y
  | .lst _ xs, .lst _ ys => eqDs xs ys
  | .lst _ xs, .lk ys => eqDs xs ys
  | .lk xs, .lst _ ys => eqDs xs ys
  | .lk xs, .lk ys => eqDs xs ys
  | .tup xs, .tup ys => eqDs xs ys
  | _, _ => false
def eqDs : List D → List D → Bool
  | [], [] => true
  | x :: xs, y :: ys => eqD x y && eqDs xs ys
  | _, _ => false
end
section
variable {Γ : Ctx} {X : Cx} {W : WX} {H H1 H2 H' : Hp} {o s : List Addr} {σ : L2.St} {v : V} {vs : List V} {δ δa δb δc : Den} {δs : DenA} {Q : VK} {f : List D → Option D}
theorem shps_mem : ∀ {xs : List D}, shps xs = true → ∀ x ∈ xs, shp x = true
  | [], _, _, h => nomatch h
  | y :: ys, e, x, h => by
    have e' : (shp y && shps ys) = true := e
    rw [Bool.and_eq_true] at e'
    rcases List.mem_cons.mp h with z | z
    · rw [z]; exact e'.1
    · exact shps_mem e'.2 x z
theorem shps_all : ∀ xs : List D, shps xs = xs.all shp
  | [] => rfl
  | x :: xs => by show (shp x && shps xs) = _; rw [shps_all xs]; rfl
theorem str_beq {x y : List Nat} : ((⟨x.toArray⟩ : Str) == (⟨y.toArray⟩ : Str)) = (x == y) := by
  rw [Bool.eq_iff_iff, beq_iff_eq, beq_iff_eq]
  constructor
  · intro h
    have := congrArg (fun z : Str => z.cps.toList) h
    simpa using this
  · intro h; rw [h]
abbrev EqvP (d : D) : Prop := ∀ e, shp d = true → shp e = true → PyData.eqv (toPy d) (toPy e) = eqD d e
theorem eqvAll_ok : ∀ {xs ys : List D}, (∀ x ∈ xs, EqvP x) → shps xs = true → shps ys = true → PyData.eqvAll (toPys xs) (toPys ys) = eqDs xs ys
  | [], [], _, _, _ => rfl
  | [], _ :: _, _, _, _ => rfl
  | _ :: _, [], _, _, _ => rfl
  | x :: xs, y :: ys, h, a, b => by
    have a' : (shp x && shps xs) = true := a
    have b' : (shp y && shps ys) = true := b
    rw [Bool.and_eq_true] at a' b'
    show (PyData.eqv (toPy x) (toPy y) && PyData.eqvAll (toPys xs) (toPys ys)) = (eqD x y && eqDs xs ys)
    rw [h x (by simp) y a'.1 b'.1, eqvAll_ok (fun z m => h z (List.mem_cons_of_mem _ m)) a'.2 b'.2]
theorem eqv_ok : ∀ d : D, EqvP d := by
  intro d
  induction d using D.ind with
  | non => intro e _ h; cases e <;> first | rfl | cases h
  | bl b => intro e _ h; cases e <;> first | rfl | cases h
  | int i => intro e _ h; cases e <;> first | rfl | cases h
  | str x => intro e _ h; cases e <;> first | rfl | cases h | exact str_beq
  | lst w xs ih => intro e a h; cases e <;> first | rfl | cases h | exact eqvAll_ok ih a h
  | tup xs ih => intro e a h; cases e <;> first | rfl | cases h | exact eqvAll_ok ih a h
  | lk xs ih => intro e a h; cases e <;> first | rfl | cases h | exact eqvAll_ok ih a h
  | dK w ks xs ih => intro e a h; cases a
  | dT w ks xs ih => intro e a h; cases a
  | obj w c fs xs ih => intro e a h; cases a
theorem canLays_ok : ∀ {xs : List D}, (∀ x ∈ xs, shp x = true → PyData.canLay0 (toPy x) = true) → shps xs = true → PyData.canLayAll0 (toPys xs) = true
  | [], _, _ => rfl
  | x :: xs, h, a => by
    have a' : (shp x && shps xs) = true := a
    rw [Bool.and_eq_true] at a'
    show (PyData.canLay0 (toPy x) && PyData.canLayAll0 (toPys xs)) = true
    rw [h x (by simp) a'.1, canLays_ok (fun z m => h z (List.mem_cons_of_mem _ m)) a'.2]; rfl
theorem canLay_ok : ∀ d : D, shp d = true → PyData.canLay0 (toPy d) = true := by
  intro d
  induction d using D.ind with
  | str x =>
    intro h
    show ((⟨x.toArray⟩ : Str).cps.all (· < 0x110000)) = true
    rw [← Array.all_toList]
    exact h
  | lst w xs ih => intro a; exact canLays_ok ih a
  | tup xs ih => intro a; exact canLays_ok ih a
  | lk xs ih => intro a; exact canLays_ok ih a
  | dK w ks xs ih => intro a; cases a
  | dT w ks xs ih => intro a; cases a
  | obj w c fs xs ih => intro a; cases a
  | _ => intros; rfl
theorem deps_ok : ∀ {xs : List D}, (∀ x ∈ xs, shp x = true → (toPy x).depth = dep x) → shps xs = true → PyData.depthAll (toPys xs) = deps xs
  | [], _, _ => rfl
  | x :: xs, h, a => by
    have a' : (shp x && shps xs) = true := a
    rw [Bool.and_eq_true] at a'
    show max (PyData.depth (toPy x)) (PyData.depthAll (toPys xs)) = max (dep x) (deps xs)
    rw [h x (by simp) a'.1, deps_ok (fun z m => h z (List.mem_cons_of_mem _ m)) a'.2]
theorem dep_ok : ∀ d : D, shp d = true → (toPy d).depth = dep d := by
  intro d
  induction d using D.ind with
  | lst w xs ih => intro a; exact congrArg (· + 1) (deps_ok ih a)
  | tup xs ih => intro a; exact congrArg (· + 1) (deps_ok ih a)
  | lk xs ih => intro a; exact congrArg (· + 1) (deps_ok ih a)
  | dK w ks xs ih => intro a; cases a
  | dT w ks xs ih => intro a; cases a
  | obj w c fs xs ih => intro a; cases a
  | _ => intros; rfl
theorem shaped_ok {d : D} (h : shp d = true) (h2 : dep d ≤ 64) : SeqAt.shaped (toPy d) = true := by
  unfold SeqAt.shaped
  rw [canLay_ok d h, dep_ok d h]
  simpa using h2
abbrev DpP (Γ : Ctx) (H : Hp) (d : D) : Prop := ∀ v o s, shp d = true → Rep Γ H d v o s → Dp Γ.K H v (toPy d)
theorem Reps.dp : ∀ {ds : List D} {vs : List V} {o s : List Addr}, (∀ d ∈ ds, DpP Γ H d) → shps ds = true → Reps Γ H ds vs o s → DpAll Γ.K H vs (toPys ds)
  | [], _, _, _, _, _, h => by obtain ⟨rfl, _⟩ := h; exact .nil
  | d :: ds, _, _, _, p, a, h => by
    have a' : (shp d && shps ds) = true := a
    rw [Bool.and_eq_true] at a'
    obtain ⟨v, vs', o1, s1, o2, s2, rfl, h1, h2, rfl, rfl⟩ := h
    exact .cons (p d (by simp) v _ _ a'.1 h1) (Reps.dp (fun z m => p z (List.mem_cons_of_mem _ m)) a'.2 h2)
theorem Rep.dp : ∀ d : D, DpP Γ H d := by
  intro d
  induction d using D.ind with
  | non => rintro v o s _ ⟨rfl, _⟩; exact .non
  | bl b => rintro v o s _ ⟨rfl, _⟩; exact .bl b
  | int i => rintro v o s _ ⟨rfl, _⟩; exact .int i
  | str x => rintro v o s _ ⟨rfl, _⟩; exact .str _
  | lst w xs ih => rintro v o s a ⟨p, us, o', s', rfl, r, n⟩; exact .lst (.of n.it) (Reps.dp ih a r)
  | tup xs ih => rintro v o s a ⟨p, us, rfl, r, n⟩; exact .tup n (Reps.dp ih a r)
  | lk xs ih => rintro v o s a ⟨p, us, rfl, r, n⟩; exact .lst n.sq (Reps.dp ih a r)
  | dK w ks xs ih => intro v o s a; cases a
  | dT w ks xs ih => intro v o s a; cases a
  | obj w c fs xs ih => intro v o s a; cases a

/-- == : of texts and numbers at once, of the rest as data -/
def gEqS : D → D → Option Bool
  | .str x, .str y => some (x == y)
  | .int i, .int j => some (i == j)
  | .bl i, .bl j => some (i == j)
  | .non, .non => some true
  | .non, .int _ => some false
  | .int _, .non => some false
  | .non, .str _ => some false
  | .str _, .non => some false
  | .int _, .str _ => some false
  | .str _, .int _ => some false
  | _, _ => none
def gEqD (a b : D) : Option Bool := if shp a = true ∧ shp b = true ∧ dep a ≤ 64 ∧ dep b ≤ 64 then some (eqD a b) else none
def gEq (a b : D) : Option D := ((gEqS a b).map D.bl).or ((gEqD a b).map D.bl)
def gNe (a b : D) : Option D := ((gEqS a b).map fun x => D.bl !x).or ((gEqD a b).map fun x => D.bl !x)
theorem eqS_ok {a b : D} {v w : V} {x : Bool} {o' s' : List Addr} (e : gEqS a b = some x) (ra : Rep Γ H a v o s) (rb : Rep Γ H b w o' s') : scal v w = true ∧ decide (v = w) = x := by
  cases a <;> cases b <;> first | (cases e; done) | skip
  all_goals
    obtain ⟨rfl, _, _⟩ := ra
    obtain ⟨rfl, _, _⟩ := rb
    refine ⟨rfl, ?_⟩
    cases e
  · rfl
  · rfl
  · rfl
  · exact dec_bl
  · rfl
  · exact dec_int
  · rfl
  · rfl
  · rfl
  · exact dec_str.trans str_beq
theorem opEqS_ok : OpS Γ (r2L rEq) (two fun a b => (gEqS a b).map D.bl) := ops2 (fun a b v w d H o s o' s' ra rb e => by
  have e : (gEqS a b).map D.bl = some d := e
  cases e1 : gEqS a b with
  | none => rw [e1] at e; cases e
  | some x =>
    rw [e1] at e
    cases e
    obtain ⟨h1, h2⟩ := eqS_ok e1 ra rb
    exact ⟨.bl x, ⟨rfl, rfl, rfl⟩, fun Q q => ⟨h1, by rw [h2]; exact q⟩⟩) two_shape
theorem opNeS_ok : OpS Γ (r2L rNe) (two fun a b => (gEqS a b).map fun x => D.bl !x) := ops2 (fun a b v w d H o s o' s' ra rb e => by
  have e : ((gEqS a b).map fun x => D.bl !x) = some d := e
  cases e1 : gEqS a b with
  | none => rw [e1] at e; cases e
  | some x =>
    rw [e1] at e
    cases e
    obtain ⟨h1, h2⟩ := eqS_ok e1 ra rb
    exact ⟨.bl !x, ⟨rfl, rfl, rfl⟩, fun Q q => ⟨h1, by rw [h2]; exact q⟩⟩) two_shape
theorem opEqD_ok : OpS Γ (r2L (rEqD Γ.K)) (two fun a b => (gEqD a b).map D.bl) := ops2 (fun a b v w d H o s o' s' ra rb e => by
  have e : (gEqD a b).map D.bl = some d := e
  unfold gEqD at e
  split at e
  · rename_i h
    cases e
    refine ⟨.bl (eqD a b), ⟨rfl, rfl, rfl⟩, fun Q q => ⟨toPy a, toPy b, Rep.dp a v o s h.1 ra, Rep.dp b w o' s' h.2.1 rb, shaped_ok h.1 h.2.2.1, shaped_ok h.2.1 h.2.2.2, ?_⟩⟩
    rw [eqv_ok a b h.1 h.2.1]; exact q
  · cases e) two_shape
theorem opNeD_ok : OpS Γ (r2L (rNeD Γ.K)) (two fun a b => (gEqD a b).map fun x => D.bl !x) := ops2 (fun a b v w d H o s o' s' ra rb e => by
  have e : ((gEqD a b).map fun x => D.bl !x) = some d := e
  unfold gEqD at e
  split at e
  · rename_i h
    cases e
    refine ⟨.bl !(eqD a b), ⟨rfl, rfl, rfl⟩, fun Q q => ⟨toPy a, toPy b, Rep.dp a v o s h.1 ra, Rep.dp b w o' s' h.2.1 rb, shaped_ok h.1 h.2.2.1, shaped_ok h.2.1 h.2.2.2, ?_⟩⟩
    rw [eqv_ok a b h.1 h.2.1]; exact q
  · cases e) two_shape
theorem ed_eq {a b : Expr} {pos : Pos} (hK : X.K = Γ.K) (hu : X.A.units + 64 < cLine) (ha : PE X a (tI Γ W δa)) (hb : PE X b (tI Γ W δb)) : PE X (.Compare a [.Eq] [b] pos) (tI Γ W (dOp (two gEq) (dCons δa (dCons δb dNil)))) :=
  ed_cmp (opEqS_ok.two_or opEqD_ok) (op_eq.or (hK ▸ op_eqD hu)) ha hb (nomark _)
theorem ed_ne {a b : Expr} {pos : Pos} (hK : X.K = Γ.K) (hu : X.A.units + 64 < cLine) (ha : PE X a (tI Γ W δa)) (hb : PE X b (tI Γ W δb)) : PE X (.Compare a [.NotEq] [b] pos) (tI Γ W (dOp (two gNe) (dCons δa (dCons δb dNil)))) :=
  ed_cmp (opNeS_ok.two_or opNeD_ok) (op_ne.or (hK ▸ op_neD hu)) ha hb (nomark _)

/-! ### order -/
def gCmp (p : Int → Int → Bool) : D → D → Option D
  | .int i, .int j => some (.bl (p i j))
  | _, _ => none
theorem opCmp_ok {p : Int → Int → Bool} : OpS Γ (r2L (rI0 fun i j => .bl (p i j))) (two (gCmp p)) := ops2 (fun a b v w d H o s o' s' ra rb e => by
  cases a <;> cases b <;> first | (cases e; done) | skip
  cases e
  obtain ⟨rfl, _, _⟩ := ra
  obtain ⟨rfl, _, _⟩ := rb
  exact ⟨_, ⟨rfl, rfl, rfl⟩, fun Q q => ⟨_, _, rfl, rfl, q⟩⟩) two_shape
abbrev gLt := gCmp fun i j => decide (i < j)
abbrev gLe := gCmp fun i j => decide (i ≤ j)
abbrev gGt := gCmp fun i j => decide (j < i)
abbrev gGe := gCmp fun i j => decide (j ≤ i)
theorem ed_lt {a b : Expr} {pos : Pos} (ha : PE X a (tI Γ W δa)) (hb : PE X b (tI Γ W δb)) : PE X (.Compare a [.Lt] [b] pos) (tI Γ W (dOp (two gLt) (dCons δa (dCons δb dNil)))) := ed_cmp opCmp_ok op_lt ha hb (nomark _)
theorem ed_le {a b : Expr} {pos : Pos} (ha : PE X a (tI Γ W δa)) (hb : PE X b (tI Γ W δb)) : PE X (.Compare a [.LtE] [b] pos) (tI Γ W (dOp (two gLe) (dCons δa (dCons δb dNil)))) := ed_cmp opCmp_ok op_le ha hb (nomark _)
theorem ed_gt {a b : Expr} {pos : Pos} (ha : PE X a (tI Γ W δa)) (hb : PE X b (tI Γ W δb)) : PE X (.Compare a [.Gt] [b] pos) (tI Γ W (dOp (two gGt) (dCons δa (dCons δb dNil)))) := ed_cmp opCmp_ok op_gt ha hb (nomark _)
theorem ed_ge {a b : Expr} {pos : Pos} (ha : PE X a (tI Γ W δa)) (hb : PE X b (tI Γ W δb)) : PE X (.Compare a [.GtE] [b] pos) (tI Γ W (dOp (two gGe) (dCons δa (dCons δb dNil)))) := ed_cmp opCmp_ok op_ge ha hb (nomark _)
/-! ### is None -/
def isNon : D → Bool
  | .non => true
  | _ => false
theorem Rep.non_iff {d : D} (r : Rep Γ H d v o s) : decide (v = .non) = isNon d := by
  cases d with
  | non => obtain ⟨rfl, _⟩ := r; rfl
  | bl b => obtain ⟨rfl, _⟩ := r; rfl
  | int b => obtain ⟨rfl, _⟩ := r; rfl
  | str b => obtain ⟨rfl, _⟩ := r; rfl
  | lst w xs => obtain ⟨a, vs, o', s', rfl, _⟩ := r; rfl
  | tup xs => obtain ⟨a, vs, rfl, _⟩ := r; rfl
  | lk xs => obtain ⟨a, vs, rfl, _⟩ := r; rfl
  | dK w ks xs => obtain ⟨a, vs, o', s', rfl, _⟩ := r; rfl
  | dT w ks xs => obtain ⟨a, vs, o', s', rfl, _⟩ := r; rfl
  | obj w c fs xs => obtain ⟨a, dx, vs, o', s', rfl, _⟩ := r; rfl
theorem opIsN_ok : OpS Γ (r1L fun x H Q => Q (.bl (decide (x = .non))) H) (one fun a => some (.bl (isNon a))) := OpS.val fun ds vs H o s d rs e => by
  obtain ⟨a, rfl⟩ := one_shape ds d e
  obtain ⟨v, rfl, r⟩ := rs.one'
  cases e
  exact ⟨_, ⟨rfl, rfl, rfl⟩, fun Q q => ⟨v, rfl, by show Q (.bl (decide (v = .non))) H; rw [r.non_iff]; exact q⟩⟩
theorem opNotN_ok : OpS Γ (r1L fun x H Q => Q (.bl (!decide (x = .non))) H) (one fun a => some (.bl (!isNon a))) := OpS.val fun ds vs H o s d rs e => by
  obtain ⟨a, rfl⟩ := one_shape ds d e
  obtain ⟨v, rfl, r⟩ := rs.one'
  cases e
  exact ⟨_, ⟨rfl, rfl, rfl⟩, fun Q q => ⟨v, rfl, by show Q (.bl (!decide (v = .non))) H; rw [r.non_iff]; exact q⟩⟩
theorem ed_isN {a : Expr} {j pos pos'} (ha : PE X a (tI Γ W δ)) : PE X (.Compare a [.Is] [.Constant .none j pos'] pos) (tI Γ W (dOp (one fun a => some (.bl (isNon a))) (dCons δ dNil))) :=
  ed1 opIsN_ok (pe_cmp (pc_isN ha) rfl) fun σ H Q q => tI.mono q fun v H1 ⟨x, e, k⟩ => by cases e; exact k
theorem ed_notN {a : Expr} {j pos pos'} (ha : PE X a (tI Γ W δ)) : PE X (.Compare a [.IsNot] [.Constant .none j pos'] pos) (tI Γ W (dOp (one fun a => some (.bl (!isNon a))) (dCons δ dNil))) :=
  ed1 opNotN_ok (pe_cmp (pc_notN ha) rfl) fun σ H Q q => tI.mono q fun v H1 ⟨x, e, k⟩ => by cases e; exact k
/-! ### in -/
def scalD : D → Bool
  | .non => true
  | .bl _ => true
  | .int _ => true
  | .str _ => true
  | _ => false
theorem Rep.flat {d : D} (h : scalD d = true) (r : Rep Γ H d v o s) : flatV v = true := by
  cases d <;> first | (cases h; done) | (obtain ⟨rfl, _⟩ := r; rfl)
theorem eqV_ok {a b : D} {w : V} {o' s' : List Addr} (ha : scalD a = true) (hb : scalD b = true) (ra : Rep Γ H a v o s) (rb : Rep Γ H b w o' s') : eqV v w = eqD a b := by
  cases a <;> cases b <;> first | (cases ha; done) | (cases hb; done) | skip
  all_goals
    obtain ⟨rfl, _, _⟩ := ra
    obtain ⟨rfl, _, _⟩ := rb
    first | rfl | exact str_beq
theorem inV_ok {b : D} {w : V} {o' s' : List Addr} (hb : scalD b = true) (rb : Rep Γ H b w o' s') : ∀ {ds : List D} {vs : List V} {o s : List Addr}, ds.all scalD = true → Reps Γ H ds vs o s → vs.all flatV = true ∧ inV w vs = ds.any fun d => eqD d b
  | [], _, _, _, _, h => by obtain ⟨rfl, _⟩ := h; exact ⟨rfl, rfl⟩
  | d :: ds, _, _, _, e, h => by
    rw [List.all_cons, Bool.and_eq_true] at e
    obtain ⟨v, vs', o1, s1, o2, s2, rfl, h1, h2, rfl, rfl⟩ := h
    obtain ⟨a1, a2⟩ := inV_ok hb rb e.2 h2
    refine ⟨by rw [List.all_cons, h1.flat e.1, a1]; rfl, ?_⟩
    unfold inV at a2 ⊢
    rw [List.any_cons, a2, eqV_ok e.1 hb h1 rb, List.any_cons]
/-- in: a sign in a text, a scalar in a list or tuple of scalars -/
def inD : D → D → Option Bool
  | .str [c], .str z => some (decide (c ∈ z))
  | a, .lst _ ds => if scalD a && ds.all scalD then some (ds.any fun d => eqD d a) else none
  | a, .tup ds => if scalD a && ds.all scalD then some (ds.any fun d => eqD d a) else none
  | a, .lk ds => if scalD a && ds.all scalD then some (ds.any fun d => eqD d a) else none
  | _, _ => none
def gIn (a b : D) : Option D := (inD a b).map D.bl
def gNotIn (a b : D) : Option D := (inD a b).map fun x => D.bl !x
theorem inD_seq {a b : D} {x : Bool} (e : inD a b = some x) : (∃ c z, a = .str [c] ∧ b = .str z ∧ x = decide (c ∈ z)) ∨ ∃ ds, sv b = some ds ∧ scalD a = true ∧ ds.all scalD = true ∧ x = ds.any fun d => eqD d a := by
  unfold inD at e
  split at e
  · exact .inl ⟨_, _, rfl, rfl, (Option.some.inj e).symm⟩
  · split at e
    · rename_i h
      rw [Bool.and_eq_true] at h
      exact .inr ⟨_, rfl, h.1, h.2, (Option.some.inj e).symm⟩
    · cases e
  · split at e
    · rename_i h
      rw [Bool.and_eq_true] at h
      exact .inr ⟨_, rfl, h.1, h.2, (Option.some.inj e).symm⟩
    · cases e
  · split at e
    · rename_i h
      rw [Bool.and_eq_true] at h
      exact .inr ⟨_, rfl, h.1, h.2, (Option.some.inj e).symm⟩
    · cases e
  · cases e
theorem opIn_ok : OpS Γ (r2L fun x y H Q => (∃ (c : Nat) (z : Str), x = .str ⟨#[c]⟩ ∧ y = .str z ∧ Q (.bl (decide (c ∈ z.cps.toList))) H) ∨ rIn Γ.K false x y H Q) (two gIn) := ops2 (fun a b v w d H o s o' s' ra rb e => by
  have e : (inD a b).map D.bl = some d := e
  cases e1 : inD a b with
  | none => rw [e1] at e; cases e
  | some x =>
    rw [e1] at e
    cases e
    refine ⟨.bl x, ⟨rfl, rfl, rfl⟩, fun Q q => ?_⟩
    rcases inD_seq e1 with ⟨c, z, rfl, rfl, rfl⟩ | ⟨ds, hb, ha, hs, rfl⟩
    · obtain ⟨rfl, _⟩ := ra
      obtain ⟨rfl, _⟩ := rb
      exact .inl ⟨c, _, rfl, rfl, by simpa using q⟩
    · obtain ⟨p, us, o2, s2, rfl, r2, _, _, hq⟩ := rb.seq hb
      obtain ⟨h1, h2⟩ := inV_ok ha ra hs r2
      exact .inr ⟨p, us, rfl, hq, ra.flat ha, h1, by simp only [Bool.false_eq_true, if_false]; rw [h2]; exact q⟩) two_shape
theorem opNotIn_ok : OpS Γ (r2L fun x y H Q => (∃ (c : Nat) (z : Str), x = .str ⟨#[c]⟩ ∧ y = .str z ∧ Q (.bl (!decide (c ∈ z.cps.toList))) H) ∨ rIn Γ.K true x y H Q) (two gNotIn) := ops2 (fun a b v w d H o s o' s' ra rb e => by
  have e : ((inD a b).map fun x => D.bl !x) = some d := e
  cases e1 : inD a b with
  | none => rw [e1] at e; cases e
  | some x =>
    rw [e1] at e
    cases e
    refine ⟨.bl !x, ⟨rfl, rfl, rfl⟩, fun Q q => ?_⟩
    rcases inD_seq e1 with ⟨c, z, rfl, rfl, rfl⟩ | ⟨ds, hb, ha, hs, rfl⟩
    · obtain ⟨rfl, _⟩ := ra
      obtain ⟨rfl, _⟩ := rb
      exact .inl ⟨c, _, rfl, rfl, by simpa using q⟩
    · obtain ⟨p, us, o2, s2, rfl, r2, _, _, hq⟩ := rb.seq hb
      obtain ⟨h1, h2⟩ := inV_ok ha ra hs r2
      exact .inr ⟨p, us, rfl, hq, ra.flat ha, h1, by simp only [if_true]; rw [h2]; exact q⟩) two_shape
theorem ed_in {a b : Expr} {pos : Pos} (hK : X.K = Γ.K) (ha : PE X a (tI Γ W δa)) (hb : PE X b (tI Γ W δb)) (hm : behindInMarks .In b = false := by rfl) : PE X (.Compare a [.In] [b] pos) (tI Γ W (dOp (two gIn) (dCons δa (dCons δb dNil)))) :=
  ed_cmp opIn_ok (op_in_sign.or (hK ▸ op_in_seq)) ha hb hm
theorem ed_notin {a b : Expr} {pos : Pos} (hK : X.K = Γ.K) (ha : PE X a (tI Γ W δa)) (hb : PE X b (tI Γ W δb)) (hm : behindInMarks .NotIn b = false := by rfl) : PE X (.Compare a [.NotIn] [b] pos) (tI Γ W (dOp (two gNotIn) (dCons δa (dCons δb dNil)))) :=
  ed_cmp opNotIn_ok (op_notIn_sign.or (hK ▸ op_notIn_seq)) ha hb hm
end
end TB
end
section
set_option Elab.async false
set_option linter.all false
set_option maxRecDepth 100000
set_option maxHeartbeats 4000000
namespace TB
open PySem PySem.Spec L2
section
variable {Γ : Ctx} {X : Cx} {W : WX} {H H1 H2 H' : Hp} {o s : List Addr} {ρ ρ' ρ1 : VE} {σ : L2.St} {v : V} {vs : List V} {d : D} {bs : List Nat} {pu : Bool} {δ δa δb δc : Den} {δs : DenA} {Q : VK} {f : List D → Option D}

/-! ### one behind the other -/
theorem PostE.step {b : List Nat} {p : Bool} (P : PostE Γ H o s ρ σ d b p ρ1 v H1) : ∃ o1 s1, Own Γ H1 (slots ρ1 σ) o1 s1 ∧
    (∀ d b2 p2 ρ2 v2 H2, PostE Γ H1 o1 s1 ρ1 σ d b2 p2 ρ2 v2 H2 → PostE Γ H o s ρ σ d b2 (p && p2) ρ2 v2 H2) ∧
    (∀ as b2 p2 ρ2 vs H2, PostA Γ H1 o1 s1 ρ1 σ as b2 p2 ρ2 vs H2 → PostA Γ H o s ρ σ as b2 (p && p2) ρ2 vs H2) ∧
    (∀ e ρ2 cls dx H2, PostX Γ H1 o1 s1 σ e ρ2 cls dx H2 → PostX Γ H o s σ e ρ2 cls dx H2) := by
  obtain ⟨o1, s1, ow, p1, p2⟩ := P.l1
  refine ⟨o1, s1, ow, fun d b2 p2' ρ2 v2 H2 P2 => ?_, fun as b2 p2' ρ2 vs H2 P2 => ?_, fun e ρ2 cls dx H2 P2 => ?_⟩
  · refine ⟨P2.al, P2.l1.comp P.kp p1 p2, P2.l2.comp P.kp p1 p2, P.kp.trans P2.kp p1, fun z => ?_⟩
    rw [Bool.and_eq_true] at z
    obtain ⟨e1, k1⟩ := P.pu z.1
    obtain ⟨e2, k2⟩ := P2.pu z.2
    exact ⟨e2.trans e1, k1.trans k2 fun _ m => nomatch m⟩
  · refine ⟨P2.al, P2.ar, P2.l1.comp P.kp p1 p2, P2.l2.comp P.kp p1 p2, P.kp.trans P2.kp p1, fun z => ?_⟩
    rw [Bool.and_eq_true] at z
    obtain ⟨e1, k1⟩ := P.pu z.1
    obtain ⟨e2, k2⟩ := P2.pu z.2
    exact ⟨e2.trans e1, k1.trans k2 fun _ m => nomatch m⟩
  · exact ⟨P2.al, P2.l1.comp P.kp p1 p2, P.kp.trans P2.kp p1, P2.er⟩
def andP (p : Bool) : R → R
  | .ok d b q ρ => .ok d b (p && q) ρ
  | r => r
theorem DoneE.step {b : List Nat} {p : Bool} {r : R} (P : PostE Γ H o s ρ σ d b p ρ1 v H1) (h : DoneE Γ W H o s ρ σ Q (andP p r)) : ∃ o1 s1, Own Γ H1 (slots ρ1 σ) o1 s1 ∧ DoneE Γ W H1 o1 s1 ρ1 σ Q r := by
  obtain ⟨o1, s1, ow, f1, _, f3⟩ := P.step
  refine ⟨o1, s1, ow, ?_⟩
  cases r with
  | ok d2 b2 p2 ρ2 => exact fun v2 H2 P2 => h v2 H2 (f1 _ _ _ _ _ _ P2)
  | ex e ρ2 => exact fun cls dx H2 P2 => h cls dx H2 (f3 _ _ _ _ _ P2)
  | no => exact h
theorem DoneB.step {b : List Nat} {p : Bool} {r : R} {Q : Bool → Hp → Prop} (P : PostE Γ H o s ρ σ d b p ρ1 v H1) (h : DoneB Γ W H o s ρ σ Q (andP p r)) : ∃ o1 s1, Own Γ H1 (slots ρ1 σ) o1 s1 ∧ DoneB Γ W H1 o1 s1 ρ1 σ Q r := by
  obtain ⟨o1, s1, ow, f1, _, f3⟩ := P.step
  refine ⟨o1, s1, ow, ?_⟩
  cases r with
  | ok d2 b2 p2 ρ2 =>
    cases d2 <;> first | exact h.elim | exact fun H2 P2 => h H2 (f1 _ _ _ _ _ _ P2)
  | ex e ρ2 => exact fun cls dx H2 P2 => h cls dx H2 (f3 _ _ _ _ _ P2)
  | no => exact h

/-! ### tests -/
theorem tB_tI {Q : Bool → Hp → Prop} (h : tB Γ W δ σ H Q) : tI Γ W δ σ H (fun x H1 => ∃ c, x = .bl c ∧ Q c H1) := by
  obtain ⟨ρ, o, s, al, ow, h⟩ := h
  refine ⟨ρ, o, s, al, ow, ?_⟩
  cases e : δ ρ with
  | no => rw [e] at h; exact h
  | ex x ρ1 => rw [e] at h; exact h
  | ok d b p ρ1 =>
    rw [e] at h
    cases d <;> first | exact h.elim | skip
    rename_i c
    intro v H1 P
    obtain ⟨_, _, r⟩ := P.l2.rep
    obtain ⟨rfl, _⟩ := id r
    exact ⟨c, rfl, h H1 P⟩
theorem et_val {e : Expr} (h : PE X e (tI Γ W δ)) (he : ∀ whole, isTrue e X.env whole = (do let v ← whole; standAt e.pos; holding [v] (truthy v)) := by intro _; rfl) : PT X e (tB Γ W δ) :=
  (pt_val h he).imp fun σ H Q q => tB_tI q
theorem et_cmp {a b : Expr} {op : CmpOp} {pos : Pos} {r : R2} (S : OpS Γ (r2L r) f) (ho : OpR X (compareOp op) r) (ha : PE X a (tI Γ W δa)) (hb : PE X b (tI Γ W δb)) (hm : behindInMarks op b = false) : PT X (.Compare a [op] [b] pos) (tB Γ W (dOp f (dCons δa (dCons δb dNil)))) :=
  (pt_cmpR ho ha hb hm).imp fun σ H Q q => tI.mono ((tA_cons (op_ent S (tB_tI q))).mono fun v H1 z => (tA_cons z).mono fun _ _ z => tA_nil z) fun v H1 z => tI.mono z fun w H2 ⟨x, y, e, k⟩ => by cases e; exact k
theorem et_isN {a : Expr} {j pos pos'} (ha : PE X a (tI Γ W δ)) : PT X (.Compare a [.Is] [.Constant .none j pos'] pos) (tB Γ W (dOp (one fun a => some (.bl (isNon a))) (dCons δ dNil))) :=
  (pt_cmp (pc_isN ha) rfl).imp fun σ H Q q => tI.mono ((tA_cons (op_ent opIsN_ok (tB_tI q))).mono fun v H1 z => tA_nil z) fun v H1 ⟨x, e, k⟩ => by cases e; exact k
theorem et_notN {a : Expr} {j pos pos'} (ha : PE X a (tI Γ W δ)) : PT X (.Compare a [.IsNot] [.Constant .none j pos'] pos) (tB Γ W (dOp (one fun a => some (.bl (!isNon a))) (dCons δ dNil))) :=
  (pt_cmp (pc_notN ha) rfl).imp fun σ H Q q => tI.mono ((tA_cons (op_ent opNotN_ok (tB_tI q))).mono fun v H1 z => tA_nil z) fun v H1 ⟨x, e, k⟩ => by cases e; exact k
theorem et_eq {a b : Expr} {pos : Pos} (hK : X.K = Γ.K) (hu : X.A.units + 64 < cLine) (ha : PE X a (tI Γ W δa)) (hb : PE X b (tI Γ W δb)) : PT X (.Compare a [.Eq] [b] pos) (tB Γ W (dOp (two gEq) (dCons δa (dCons δb dNil)))) :=
  et_cmp (opEqS_ok.two_or opEqD_ok) (op_eq.or (hK ▸ op_eqD hu)) ha hb (nomark _)
theorem et_ne {a b : Expr} {pos : Pos} (hK : X.K = Γ.K) (hu : X.A.units + 64 < cLine) (ha : PE X a (tI Γ W δa)) (hb : PE X b (tI Γ W δb)) : PT X (.Compare a [.NotEq] [b] pos) (tB Γ W (dOp (two gNe) (dCons δa (dCons δb dNil)))) :=
  et_cmp (opNeS_ok.two_or opNeD_ok) (op_ne.or (hK ▸ op_neD hu)) ha hb (nomark _)
theorem et_lt {a b : Expr} {pos : Pos} (ha : PE X a (tI Γ W δa)) (hb : PE X b (tI Γ W δb)) : PT X (.Compare a [.Lt] [b] pos) (tB Γ W (dOp (two gLt) (dCons δa (dCons δb dNil)))) := et_cmp opCmp_ok op_lt ha hb (nomark _)
theorem et_le {a b : Expr} {pos : Pos} (ha : PE X a (tI Γ W δa)) (hb : PE X b (tI Γ W δb)) : PT X (.Compare a [.LtE] [b] pos) (tB Γ W (dOp (two gLe) (dCons δa (dCons δb dNil)))) := et_cmp opCmp_ok op_le ha hb (nomark _)
theorem et_gt {a b : Expr} {pos : Pos} (ha : PE X a (tI Γ W δa)) (hb : PE X b (tI Γ W δb)) : PT X (.Compare a [.Gt] [b] pos) (tB Γ W (dOp (two gGt) (dCons δa (dCons δb dNil)))) := et_cmp opCmp_ok op_gt ha hb (nomark _)
theorem et_ge {a b : Expr} {pos : Pos} (ha : PE X a (tI Γ W δa)) (hb : PE X b (tI Γ W δb)) : PT X (.Compare a [.GtE] [b] pos) (tB Γ W (dOp (two gGe) (dCons δa (dCons δb dNil)))) := et_cmp opCmp_ok op_ge ha hb (nomark _)
theorem et_in {a b : Expr} {pos : Pos} (hK : X.K = Γ.K) (ha : PE X a (tI Γ W δa)) (hb : PE X b (tI Γ W δb)) (hm : behindInMarks .In b = false := by rfl) : PT X (.Compare a [.In] [b] pos) (tB Γ W (dOp (two gIn) (dCons δa (dCons δb dNil)))) :=
  et_cmp opIn_ok (op_in_sign.or (hK ▸ op_in_seq)) ha hb hm
theorem et_notin {a b : Expr} {pos : Pos} (hK : X.K = Γ.K) (ha : PE X a (tI Γ W δa)) (hb : PE X b (tI Γ W δb)) (hm : behindInMarks .NotIn b = false := by rfl) : PT X (.Compare a [.NotIn] [b] pos) (tB Γ W (dOp (two gNotIn) (dCons δa (dCons δb dNil)))) :=
  et_cmp opNotIn_ok (op_notIn_sign.or (hK ▸ op_notIn_seq)) ha hb hm

def dAnd (δa δb : Den) : Den := fun ρ => match δa ρ with
  | .ok (.bl true) _ p ρ1 => andP p (δb ρ1)
  | .ok (.bl false) _ p ρ1 => .ok (.bl false) [] p ρ1
  | .ex e ρ1 => .ex e ρ1
  | _ => .no
def dOr (δa δb : Den) : Den := fun ρ => match δa ρ with
  | .ok (.bl true) _ p ρ1 => .ok (.bl true) [] p ρ1
  | .ok (.bl false) _ p ρ1 => andP p (δb ρ1)
  | .ex e ρ1 => .ex e ρ1
  | _ => .no
def dIf (δc δa δb : Den) : Den := fun ρ => match δc ρ with
  | .ok (.bl true) _ p ρ1 => andP p (δa ρ1)
  | .ok (.bl false) _ p ρ1 => andP p (δb ρ1)
  | .ex e ρ1 => .ex e ρ1
  | _ => .no
def gNot : D → Option D
  | .bl b => some (.bl !b)
  | _ => none
theorem PostE.nob {b : Bool} {v : V} (P : PostE Γ H o s ρ σ (.bl b) bs pu ρ1 v H1) : v = .bl b ∧ PostE Γ H o s ρ σ (.bl b) [] pu ρ1 v H1 := by
  obtain ⟨_, _, r⟩ := P.l2.rep
  obtain ⟨rfl, _⟩ := id r
  exact ⟨rfl, P.al, P.l1, P.l1.imm rfl r, P.kp, P.pu⟩
theorem tB_and {Q : Bool → Hp → Prop} (h : tB Γ W (dAnd δa δb) σ H Q) : L2.tAnd (tB Γ W δa) (tB Γ W δb) σ H Q := by
  obtain ⟨ρ, o, s, al, ow, h⟩ := h
  refine ⟨ρ, o, s, al, ow, ?_⟩
  unfold dAnd at h
  cases e : δa ρ with
  | no => rw [e] at h; exact h
  | ex x ρ1 => rw [e] at h; exact h
  | ok d b p ρ1 =>
    rw [e] at h
    cases d <;> first | exact h.elim | skip
    rename_i c
    cases c with
    | true =>
      intro H1 P
      rw [if_pos rfl]
      obtain ⟨o1, s1, ow1, h1⟩ := DoneB.step P h
      exact ⟨ρ1, o1, s1, P.al, ow1, h1⟩
    | false =>
      intro H1 P
      rw [if_neg Bool.false_ne_true]
      exact h H1 P.nob.2
theorem tB_or {Q : Bool → Hp → Prop} (h : tB Γ W (dOr δa δb) σ H Q) : L2.tOr (tB Γ W δa) (tB Γ W δb) σ H Q := by
  obtain ⟨ρ, o, s, al, ow, h⟩ := h
  refine ⟨ρ, o, s, al, ow, ?_⟩
  unfold dOr at h
  cases e : δa ρ with
  | no => rw [e] at h; exact h
  | ex x ρ1 => rw [e] at h; exact h
  | ok d b p ρ1 =>
    rw [e] at h
    cases d <;> first | exact h.elim | skip
    rename_i c
    cases c with
    | true =>
      intro H1 P
      rw [if_pos rfl]
      exact h H1 P.nob.2
    | false =>
      intro H1 P
      rw [if_neg Bool.false_ne_true]
      obtain ⟨o1, s1, ow1, h1⟩ := DoneB.step P h
      exact ⟨ρ1, o1, s1, P.al, ow1, h1⟩
theorem tI_and (h : tI Γ W (dAnd δa δb) σ H Q) : L2.tAndV (tI Γ W δa) (tI Γ W δb) σ H Q := by
  obtain ⟨ρ, o, s, al, ow, h⟩ := h
  refine ⟨ρ, o, s, al, ow, ?_⟩
  unfold dAnd at h
  cases e : δa ρ with
  | no => rw [e] at h; exact h
  | ex x ρ1 => rw [e] at h; exact h
  | ok d b p ρ1 =>
    rw [e] at h
    cases d <;> first | exact h.elim | skip
    rename_i c
    cases c with
    | true =>
      intro v H1 P
      obtain ⟨rfl, _⟩ := P.nob
      refine ⟨true, rfl, ?_⟩
      rw [if_pos rfl]
      obtain ⟨o1, s1, ow1, h1⟩ := DoneE.step P h
      exact ⟨ρ1, o1, s1, P.al, ow1, h1⟩
    | false =>
      intro v H1 P
      obtain ⟨rfl, P'⟩ := P.nob
      refine ⟨false, rfl, ?_⟩
      rw [if_neg Bool.false_ne_true]
      exact h _ H1 P'
theorem tI_or (h : tI Γ W (dOr δa δb) σ H Q) : L2.tOrV (tI Γ W δa) (tI Γ W δb) σ H Q := by
  obtain ⟨ρ, o, s, al, ow, h⟩ := h
  refine ⟨ρ, o, s, al, ow, ?_⟩
  unfold dOr at h
  cases e : δa ρ with
  | no => rw [e] at h; exact h
  | ex x ρ1 => rw [e] at h; exact h
  | ok d b p ρ1 =>
    rw [e] at h
    cases d <;> first | exact h.elim | skip
    rename_i c
    cases c with
    | true =>
      intro v H1 P
      obtain ⟨rfl, P'⟩ := P.nob
      refine ⟨true, rfl, ?_⟩
      rw [if_pos rfl]
      exact h _ H1 P'
    | false =>
      intro v H1 P
      obtain ⟨rfl, _⟩ := P.nob
      refine ⟨false, rfl, ?_⟩
      rw [if_neg Bool.false_ne_true]
      obtain ⟨o1, s1, ow1, h1⟩ := DoneE.step P h
      exact ⟨ρ1, o1, s1, P.al, ow1, h1⟩
theorem tI_if (h : tI Γ W (dIf δc δa δb) σ H Q) : L2.tIf (tB Γ W δc) (tI Γ W δa) (tI Γ W δb) σ H Q := by
  obtain ⟨ρ, o, s, al, ow, h⟩ := h
  refine ⟨ρ, o, s, al, ow, ?_⟩
  unfold dIf at h
  cases e : δc ρ with
  | no => rw [e] at h; exact h
  | ex x ρ1 => rw [e] at h; exact h
  | ok d b p ρ1 =>
    rw [e] at h
    cases d <;> first | exact h.elim | skip
    rename_i c
    cases c with
    | true =>
      intro H1 P
      rw [if_pos rfl]
      obtain ⟨o1, s1, ow1, h1⟩ := DoneE.step P h
      exact ⟨ρ1, o1, s1, P.al, ow1, h1⟩
    | false =>
      intro H1 P
      rw [if_neg Bool.false_ne_true]
      obtain ⟨o1, s1, ow1, h1⟩ := DoneE.step P h
      exact ⟨ρ1, o1, s1, P.al, ow1, h1⟩
theorem _root_.L2.PW.imp {X : Cx} {e : Expr} {t t' : TT} (h : PW X e t) (i : ∀ σ H Q, t' σ H Q → t σ H Q) : PW X e t' := ⟨fun wh pins s σ H Q I q => h.run wh pins s σ H Q I (i σ H Q q)⟩
theorem ew_and1 {a : Expr} {pos : Pos} (ha : PT X a (tB Γ W δ)) : PW X (.BoolOp .And [a] pos) (tB Γ W δ) := pw_and1 ha
theorem ew_or1 {a : Expr} {pos : Pos} (ha : PT X a (tB Γ W δ)) : PW X (.BoolOp .Or [a] pos) (tB Γ W δ) := pw_or1 ha
theorem ew_and {a b : Expr} {rest : List Expr} {pos : Pos} (ha : PT X a (tB Γ W δa)) (hb : PW X (.BoolOp .And (b :: rest) pos) (tB Γ W δb)) : PW X (.BoolOp .And (a :: b :: rest) pos) (tB Γ W (dAnd δa δb)) := (pw_and ha hb).imp fun σ H Q q => tB_and q
theorem ew_or {a b : Expr} {rest : List Expr} {pos : Pos} (ha : PT X a (tB Γ W δa)) (hb : PW X (.BoolOp .Or (b :: rest) pos) (tB Γ W δb)) : PW X (.BoolOp .Or (a :: b :: rest) pos) (tB Γ W (dOr δa δb)) := (pw_or ha hb).imp fun σ H Q q => tB_or q
theorem ed_one {a : Expr} {op} {pos : Pos} (ha : PE X a (tI Γ W δ)) : PE X (.BoolOp op [a] pos) (tI Γ W δ) := pe_one ha
theorem ed_and {a b : Expr} {rest : List Expr} {pos : Pos} (ha : PE X a (tI Γ W δa)) (hb : PE X (.BoolOp .And (b :: rest) pos) (tI Γ W δb)) : PE X (.BoolOp .And (a :: b :: rest) pos) (tI Γ W (dAnd δa δb)) := (pe_and ha hb).imp fun σ H Q q => tI_and q
theorem ed_or {a b : Expr} {rest : List Expr} {pos : Pos} (ha : PE X a (tI Γ W δa)) (hb : PE X (.BoolOp .Or (b :: rest) pos) (tI Γ W δb)) : PE X (.BoolOp .Or (a :: b :: rest) pos) (tI Γ W (dOr δa δb)) := (pe_or ha hb).imp fun σ H Q q => tI_or q
theorem ed_if {c a b : Expr} {pos : Pos} (hc : PT X c (tB Γ W δc)) (ha : PE X a (tI Γ W δa)) (hb : PE X b (tI Γ W δb)) : PE X (.IfExp c a b pos) (tI Γ W (dIf δc δa δb)) := (pe_ifExp hc ha hb).imp fun σ H Q q => tI_if q
theorem opNot_ok : OpS Γ (r1L fun x H Q => ∃ c, x = .bl c ∧ Q (.bl (!c)) H) (one gNot) := OpS.val fun ds vs H o s d rs e => by
  obtain ⟨a, rfl⟩ := one_shape ds d e
  obtain ⟨v, rfl, r⟩ := rs.one'
  cases a <;> first | (cases e; done) | skip
  cases e
  obtain ⟨rfl, _⟩ := r
  exact ⟨_, ⟨rfl, rfl, rfl⟩, fun Q q => ⟨_, rfl, _, rfl, q⟩⟩
theorem ed_not {a : Expr} {pos : Pos} (ha : PE X a (tI Γ W δ)) : PE X (.UnaryOp .Not a pos) (tI Γ W (dOp (one gNot) (dCons δ dNil))) :=
  ed1 opNot_ok (pe_not ha) fun σ H Q q => tI.mono q fun v H1 ⟨x, e, k⟩ => by cases e; exact k
/-- not, of a test -/
def dNot (δ : Den) : Den := fun ρ => match δ ρ with
  | .ok (.bl b) _ p ρ1 => .ok (.bl !b) [] p ρ1
  | .ex e ρ1 => .ex e ρ1
  | _ => .no
theorem et_not {a : Expr} {pos : Pos} (ha : PT X a (tB Γ W δ)) : PT X (.UnaryOp .Not a pos) (tB Γ W (dNot δ)) := (pt_not ha).imp fun σ H Q q => by
  obtain ⟨ρ, o, s, al, ow, h⟩ := q
  refine ⟨ρ, o, s, al, ow, ?_⟩
  unfold dNot at h
  cases e : δ ρ with
  | no => rw [e] at h; exact h
  | ex x ρ1 => rw [e] at h; exact h
  | ok d b p ρ1 =>
    rw [e] at h
    cases d <;> first | exact h.elim | skip
    intro H1 P
    exact h H1 ⟨P.al, P.l1, P.l1.imm (d := .bl _) rfl ⟨rfl, rfl, rfl⟩, P.kp, P.pu⟩
/-- a value's truth -/
def gTru : D → Option D
  | .non => some (.bl false)
  | .bl b => some (.bl b)
  | .int i => some (.bl (i != 0))
  | .str x => if x.length ≤ 16777216 then some (.bl (!x.isEmpty)) else none
  | .lst _ xs => some (.bl (!xs.isEmpty))
  | .lk xs => some (.bl (!xs.isEmpty))
  | .tup xs => some (.bl (!xs.isEmpty))
  | .dK _ ks _ => some (.bl (!ks.isEmpty))
  | _ => none
theorem isEmpty_len {α β : Type} {xs : List α} {ys : List β} (h : xs.length = ys.length) : (!xs.isEmpty) = !ys.isEmpty := by
  cases xs <;> cases ys <;> first | rfl | (simp at h)
theorem opTru_ok : OpS Γ (r1L fun x H Q => ∃ k, TruV Γ.K x H k ∧ Q (.bl k) H) (one gTru) := OpS.val fun ds vs H o s d rs e => by
  obtain ⟨a, rfl⟩ := one_shape ds d e
  obtain ⟨v, rfl, r⟩ := rs.one'
  cases a <;> first | (cases e; done) | skip
  · cases e; obtain ⟨rfl, _⟩ := r; exact ⟨_, ⟨rfl, rfl, rfl⟩, fun Q q => ⟨_, rfl, _, rfl, q⟩⟩
  · cases e; obtain ⟨rfl, _⟩ := r; exact ⟨_, ⟨rfl, rfl, rfl⟩, fun Q q => ⟨_, rfl, _, rfl, q⟩⟩
  · cases e; obtain ⟨rfl, _⟩ := r; exact ⟨_, ⟨rfl, rfl, rfl⟩, fun Q q => ⟨_, rfl, _, rfl, q⟩⟩
  · rename_i x
    have e : (if x.length ≤ 16777216 then some (D.bl (!x.isEmpty)) else none) = some d := e
    split at e
    · rename_i hl
      cases e
      obtain ⟨rfl, _⟩ := r
      refine ⟨_, ⟨rfl, rfl, rfl⟩, fun Q q => ⟨_, rfl, _, ⟨?_, rfl⟩, ?_⟩⟩
      · rw [sizeL]; exact hl
      · have : ((Str.length ⟨x.toArray⟩ : Int) != 0) = !x.isEmpty := by cases x <;> rfl
        rw [this]; exact q
    · cases e
  · rename_i w xs
    cases e
    obtain ⟨p, us, o1, s1, rfl, r1, m1, m2, h1⟩ := r.lstI
    exact ⟨_, ⟨rfl, rfl, rfl⟩, fun Q q => ⟨_, rfl, _, .inl ⟨us, .of h1, isEmpty_len r1.len⟩, q⟩⟩
  · rename_i xs
    cases e
    obtain ⟨p, us, rfl, r1, n⟩ := r
    exact ⟨_, ⟨rfl, rfl, rfl⟩, fun Q q => ⟨_, rfl, _, .inr (.inl ⟨us, n, isEmpty_len r1.len⟩), q⟩⟩
  · rename_i xs
    cases e
    obtain ⟨p, us, rfl, r1, n⟩ := r
    exact ⟨_, ⟨rfl, rfl, rfl⟩, fun Q q => ⟨_, rfl, _, .inl ⟨us, n.sq, isEmpty_len r1.len⟩, q⟩⟩
  · rename_i w ks xs
    cases e
    obtain ⟨p, us, o', s', rfl, el, r1, n⟩ := r
    exact ⟨_, ⟨rfl, rfl, rfl⟩, fun Q q => ⟨_, rfl, _, .inr (.inr ⟨_, n.it, isEmpty_len (by rw [List.length_zip, ← el]; simp)⟩), q⟩⟩
theorem et_truth {a : Expr} (hK : X.K = Γ.K) (ha : PE X a (tI Γ W δ)) (he : ∀ whole, isTrue a X.env whole = (do let v ← whole; standAt a.pos; holding [v] (truthy v)) := by intro _; rfl) : PT X a (tB Γ W (dOp (one gTru) (dCons δ dNil))) :=
  (pt_truth ha he).imp fun σ H Q q => tI.mono ((tA_cons (op_ent opTru_ok (tB_tI q))).mono fun v H1 z => tA_nil z) fun v H1 ⟨x, e, k, t, c, e2, k2⟩ => by
    cases e; cases e2; exact ⟨k, hK ▸ t, k2⟩
end
end TB
end
section
set_option Elab.async false
set_option linter.all false
set_option maxRecDepth 100000
set_option maxHeartbeats 4000000
namespace TB
open PySem PySem.Spec L2
section
variable {Γ : Ctx} {X : Cx} {W : WX} {H H1 H2 H' : Hp} {o s : List Addr} {ρ ρ' ρ1 : VE} {σ : L2.St} {v : V} {vs : List V} {d : D} {bs : List Nat} {pu : Bool} {δ δa δb δc : Den} {δs : DenA} {Q : VK} {f : List D → Option D}
/-! ### len, abs, sum, -x -/
def gLen : D → Option D
  | .str x => if x.length ≤ 16777216 then some (.int x.length) else none
  | .lst _ xs => some (.int xs.length)
  | .tup xs => some (.int xs.length)
  | .lk xs => some (.int xs.length)
  | _ => none
theorem opLen_ok : OpS Γ (fun xs H Q => ∃ x n, xs = [x] ∧ LenV Γ.K x H n ∧ Q (.int n) H) (one gLen) := OpS.val fun ds vs H o s d rs e => by
  obtain ⟨a, rfl⟩ := one_shape ds d e
  obtain ⟨v, rfl, r⟩ := rs.one'
  cases a <;> first | (cases e; done) | skip
  · rename_i x
    have e : (if x.length ≤ 16777216 then some (D.int x.length) else none) = some d := e
    split at e
    · rename_i hl
      cases e
      obtain ⟨rfl, _⟩ := r
      refine ⟨_, ⟨rfl, rfl, rfl⟩, fun Q q => ⟨_, _, rfl, ⟨?_, rfl⟩, q⟩⟩
      rw [sizeL]; exact hl
    · cases e
  · cases e
    obtain ⟨p, us, o1, s1, rfl, r1, m1, m2, h1⟩ := r.lstI
    exact ⟨_, ⟨rfl, rfl, rfl⟩, fun Q q => ⟨_, _, rfl, .inl ⟨us, .of h1, rfl⟩, by rw [← r1.len]; exact q⟩⟩
  · cases e
    obtain ⟨p, us, rfl, r1, n⟩ := r
    exact ⟨_, ⟨rfl, rfl, rfl⟩, fun Q q => ⟨_, _, rfl, .inr ⟨us, n, rfl⟩, by rw [← r1.len]; exact q⟩⟩
  · cases e
    obtain ⟨p, us, rfl, r1, n⟩ := r
    exact ⟨_, ⟨rfl, rfl, rfl⟩, fun Q q => ⟨_, _, rfl, .inl ⟨us, n.sq, rfl⟩, by rw [← r1.len]; exact q⟩⟩
theorem ed_len {p pos : Pos} {a : Expr} (hK : X.K = Γ.K) (hm : X.mg "len" = none) (ha : PE X a (tI Γ W δ)) (hg : Gl X "len" := by rfl) (hs : starEach [a] X.env = [(false, eval a X.env)] := by rfl) : PE X (.Call (.Name "len" p) [a] [] pos) (tI Γ W (dOp (one gLen) (dCons δ dNil))) :=
  ed_callB opLen_ok (hK ▸ call_len) hg hm PySem.boot_len (ea_cons ha ea_nil hs) (by decide) (by decide) hs rfl
def gAbs : D → Option D
  | .int i => some (.int (if i < 0 then -i else i))
  | _ => none
theorem opAbs_ok : OpS Γ (fun xs H Q => ∃ i, xs = [.int i] ∧ Q (.int (if i < 0 then -i else i)) H) (one gAbs) := OpS.val fun ds vs H o s d rs e => by
  obtain ⟨a, rfl⟩ := one_shape ds d e
  obtain ⟨v, rfl, r⟩ := rs.one'
  cases a <;> first | (cases e; done) | skip
  cases e
  obtain ⟨rfl, _⟩ := r
  exact ⟨_, ⟨rfl, rfl, rfl⟩, fun Q q => ⟨_, rfl, q⟩⟩
theorem ed_abs {p pos : Pos} {a : Expr} (hm : X.mg "abs" = none) (ha : PE X a (tI Γ W δ)) (hg : Gl X "abs" := by rfl) (hs : starEach [a] X.env = [(false, eval a X.env)] := by rfl) : PE X (.Call (.Name "abs" p) [a] [] pos) (tI Γ W (dOp (one gAbs) (dCons δ dNil))) :=
  ed_callB opAbs_ok call_abs hg hm (by decide +kernel) (ea_cons ha ea_nil hs) (by decide) (by decide) hs rfl
def gNeg : D → Option D
  | .int i => some (.int (-i))
  | _ => none
theorem opNeg_ok : OpS Γ (r1L (rU fun i => .int (-i))) (one gNeg) := OpS.val fun ds vs H o s d rs e => by
  obtain ⟨a, rfl⟩ := one_shape ds d e
  obtain ⟨v, rfl, r⟩ := rs.one'
  cases a <;> first | (cases e; done) | skip
  cases e
  obtain ⟨rfl, _⟩ := r
  exact ⟨_, ⟨rfl, rfl, rfl⟩, fun Q q => ⟨_, rfl, _, rfl, q⟩⟩
theorem ed_neg {a : Expr} {pos : Pos} (ha : PE X a (tI Γ W δ)) : PE X (.UnaryOp .USub a pos) (tI Γ W (dOp (one gNeg) (dCons δ dNil))) := ed_un opNeg_ok un_neg ha
/-- a list of ints -/
def ints? : List D → Option (List Int)
  | [] => some []
  | .int i :: ds => (ints? ds).map (i :: ·)
  | _ => none
theorem ints_ok : ∀ {ds : List D} {ns : List Int} {vs : List V} {o s : List Addr}, ints? ds = some ns → Reps Γ H ds vs o s → vs = ns.map V.int
  | [], _, _, _, _, e, h => by cases e; obtain ⟨rfl, _⟩ := h; rfl
  | .int i :: ds, _, _, _, _, e, h => by
    obtain ⟨v, vs', o1, s1, o2, s2, rfl, ⟨rfl, _⟩, h2, rfl, rfl⟩ := h
    cases e1 : ints? ds with
    | none => simp [ints?, e1] at e
    | some ns =>
      simp [ints?, e1] at e
      subst e
      rw [ints_ok e1 h2]; rfl
  | .non :: _, _, _, _, _, e, _ => by cases e
  | .bl _ :: _, _, _, _, _, e, _ => by cases e
  | .str _ :: _, _, _, _, _, e, _ => by cases e
  | .lst _ _ :: _, _, _, _, _, e, _ => by cases e
  | .tup _ :: _, _, _, _, _, e, _ => by cases e
  | .lk _ :: _, _, _, _, _, e, _ => by cases e
  | .dK _ _ _ :: _, _, _, _, _, e, _ => by cases e
  | .dT _ _ _ :: _, _, _, _, _, e, _ => by cases e
  | .obj _ _ _ _ :: _, _, _, _, _, e, _ => by cases e
theorem ints_map : ∀ ns : List Int, ints? (ns.map D.int) = some ns
  | [] => rfl
  | n :: ns => by simp [ints?, ints_map ns]
def gSum : D → Option D
  | .lst _ xs => (ints? xs).map fun ns => .int ns.sum
  | .lk xs => (ints? xs).map fun ns => .int ns.sum
  | _ => none
theorem opSum_ok : OpS Γ (rSum Γ.K) (one gSum) := OpS.val fun ds vs H o s d rs e => by
  obtain ⟨a, rfl⟩ := one_shape ds d e
  obtain ⟨v, rfl, r⟩ := rs.one'
  cases a <;> first | (cases e; done) | skip
  · rename_i w xs
    have e : ((ints? xs).map fun ns => D.int ns.sum) = some d := e
    cases e1 : ints? xs with
    | none => rw [e1] at e; cases e
    | some ns =>
      rw [e1] at e
      cases e
      obtain ⟨p, us, o1, s1, rfl, r1, m1, m2, h1⟩ := r.lstI
      exact ⟨_, ⟨rfl, rfl, rfl⟩, fun Q q => ⟨p, ns, rfl, by rw [← ints_ok e1 r1]; exact .of h1, q⟩⟩
  · rename_i xs
    have e : ((ints? xs).map fun ns => D.int ns.sum) = some d := e
    cases e1 : ints? xs with
    | none => rw [e1] at e; cases e
    | some ns =>
      rw [e1] at e
      cases e
      obtain ⟨p, us, rfl, r1, n⟩ := r
      exact ⟨_, ⟨rfl, rfl, rfl⟩, fun Q q => ⟨p, ns, rfl, by rw [← ints_ok e1 r1]; exact n.sq, q⟩⟩
theorem ed_sum {p pos : Pos} {a : Expr} (hK : X.K = Γ.K) (hc : X.calm = true) (hm : X.mg "sum" = none) (ha : PE X a (tI Γ W δ)) (hg : Gl X "sum" := by rfl) (hs : starEach [a] X.env = [(false, eval a X.env)] := by rfl) : PE X (.Call (.Name "sum" p) [a] [] pos) (tI Γ W (dOp (one gSum) (dCons δ dNil))) :=
  ed_callB opSum_ok (hK ▸ cr_sum hc) hg hm (by decide +kernel) (ea_cons ha ea_nil hs) (by decide) (by decide) hs rfl

/-! ### subscripts -/
def gIx : D → D → Option D
  | .str x, .int i => if x.length ≤ 16777216 then (atI x i).map (fun c => .str [c]) else none
  | .lst _ xs, .int i => (atI xs i).map fr
  | .tup xs, .int i => (atI xs i).map fr
  | .lk xs, .int i => (atI xs i).map fr
  | _, _ => none
theorem atI_map {α β : Type} {xs : List α} {ys : List β} {i : Int} {x : α} (hl : xs.length = ys.length) (e : atI xs i = some x) : ∃ j : Nat, xs[j]? = some x ∧ ∀ y : β, ys[j]? = some y → atI ys i = some y := by
  unfold atI at e ⊢
  rw [← hl]
  cases h : ixN xs.length i with
  | none => rw [h] at e; cases e
  | some j =>
    rw [h] at e
    exact ⟨j, e, fun y hy => hy⟩
theorem opIx_ok : OpS Γ (r2L (rIx Γ.K)) (two gIx) := by
  intro ds vs H o s d Q rs e q
  obtain ⟨a, b, rfl⟩ := two_shape ds d e
  obtain ⟨v, w, oa, sa, ob, sb, rfl, ra, rb, rfl, rfl⟩ := rs.two
  have main : ∀ {xs : List D} {i : Int}, sv a = some xs → b = .int i → (atI xs i).map fr = some d → r2L (rIx Γ.K) [v, w] H Q := by
    intro xs i h1 h2 h3
    subst h2
    obtain ⟨rfl, _, _⟩ := rb
    cases h4 : atI xs i with
    | none => rw [h4] at h3; cases h3
    | some x =>
      rw [h4] at h3
      cases h3
      obtain ⟨p, us, o1, s1, rfl, r1, m1, m2, hq⟩ := ra.seq h1
      obtain ⟨j, e1, e2⟩ := atI_map r1.len h4
      obtain ⟨y, o2, s2, e3, r2, m3, m4⟩ := r1.get e1
      obtain ⟨s3, r3, m5⟩ := Rep.frz _ _ _ _ r2
      have qq : Q y H := q y H [] s3 r3 .nil (fun _ m => nomatch m) (fun z m => by
        rcases m5 z m with m | m
        · exact .inl (List.mem_append_left _ (m1 z (m3 z m)))
        · exact .inr (List.mem_append_left _ (m2 z (m4 z m)))) Keep.refl
      rcases hq with hq | hq
      · exact ⟨_, _, rfl, .inl ⟨p, us, i, y, rfl, rfl, hq, e2 y e3, qq⟩⟩
      · exact ⟨_, _, rfl, .inr (.inl ⟨p, us, i, y, rfl, rfl, hq, e2 y e3, qq⟩)⟩
  cases a <;> cases b <;> first | (cases e; done) | skip
  · rename_i x i
    have e : (if x.length ≤ 16777216 then (atI x i).map (fun c => D.str [c]) else none) = some d := e
    split at e
    · rename_i hl
      cases h4 : atI x i with
      | none => rw [h4] at e; cases e
      | some c =>
        rw [h4] at e
        cases e
        obtain ⟨rfl, _, _⟩ := ra
        obtain ⟨rfl, _, _⟩ := rb
        refine ⟨_, _, rfl, .inr (.inr ⟨_, i, c, rfl, rfl, ?_, ?_, q _ H [] [] ⟨rfl, rfl, rfl⟩ .nil (fun _ m => nomatch m) (fun _ m => nomatch m) Keep.refl⟩)⟩
        · rw [sizeL]; exact hl
        · exact h4
    · cases e
  · exact main rfl rfl e
  · exact main rfl rfl e
  · exact main rfl rfl e
theorem ed_idx {a b : Expr} {pos : Pos} (hK : X.K = Γ.K) (ha : PE X a (tI Γ W δa)) (hb : PE X b (tI Γ W δb)) (hs : PlainIx b := by intro _ _; rfl) : PE X (.Subscript a b pos) (tI Γ W (dOp (two gIx) (dCons δa (dCons δb dNil)))) :=
  ed_ix opIx_ok (hK ▸ ix_seq) ha hb hs

/-! ### slices -/
def lop : List V → Option (Option Int)
  | [] => some none
  | [.int i] => some (some i)
  | _ => none
structure PQ (X : Cx) (e : Option Expr) (t : TA) : Prop where
  run : ∀ (pins : List (Addr × Obj)) (s : Shared) (σ : L2.St) (H : Hp) (Q : List V → Hp → Prop), Inv X pins σ H s → t σ H Q →
    wpAny (model X.prog X.w) X.A (evalPart e X.env) (fun u s' => ∃ vs H', Inv X pins σ H' s' ∧ (∀ o, lop vs = some o → IsPart u o) ∧ Q vs H') X.xe s
theorem pq_none : PQ X none tNil := by
  refine ⟨fun pins s σ H Q I h => ?_⟩
  rw [evalPart_none]
  exact wpAny_pure ⟨[], H, I, fun o e => by cases e; exact .none, h⟩
theorem pq_some {e : Expr} {te : TE} (h : PE X e te) : PQ X (some e) (tCons te tNil) := by
  refine ⟨fun pins s σ H Q I hw => ?_⟩
  rw [evalPart_some]
  refine thn (h.run pins s σ H _ I hw) fun u s1 ⟨x, H1, I1, r1, q1⟩ => ?_
  refine ⟨[x], H1, I1, fun o e => ?_, q1⟩
  cases x <;> first | (cases e; done) | skip
  cases e
  obtain ⟨t, rfl⟩ := r1
  exact .int _ t
def tSlX (r : V → Option Int → Option Int → Hp → VK → Prop) (te : TE) (tl th : TA) : TE := fun σ H Q => te σ H fun x H1 => tl σ H1 fun l H2 => th σ H2 fun u H3 => ∃ lo hi, lop l = some lo ∧ lop u = some hi ∧ r x lo hi H3 Q
theorem pe_slX {r : V → Option Int → Option Int → Hp → VK → Prop} {e : Expr} {lo hi : Option Expr} {te : TE} {tl th : TA} {pos p2 : Pos} (hr : SlR X r) (he : PE X e te) (hl : PQ X lo tl) (hu : PQ X hi th) : PE X (.Subscript e (.Slice lo hi none p2) pos) (tSlX r te tl th) := by
  refine ⟨fun pins s σ H Q I h => ?_⟩
  refine PyProof.Rows.Subscript_ (thn (he.run pins s σ H _ I h) fun v s1 ⟨x, H1, I1, r1, q1⟩ => ?_)
  refine wpAny_Slice (thn (hl.run pins s1 σ H1 _ I1 q1) fun vl s2 ⟨l, H2, I2, pl, q2⟩ => thn (hu.run pins s2 σ H2 _ I2 q2) fun vu s3 ⟨u, H3, I3, pu, q3⟩ => ?_)
  rw [evalPart_none]
  refine wpAny_pure ?_
  obtain ⟨l1, u1, el, eu, q3⟩ := q3
  have I4 : Inv X pins σ H3 { s3 with heap := s3.heap.push { cls := .type "slice", data := .fields #[vl, vu, .none] } } := I3.kept (t' := s3.toks) fun b ob q => Heap.get?_push_of_some _ q
  obtain ⟨T, id, hT, ht, hg⟩ := hr pins { s3 with heap := s3.heap.push { cls := .type "slice", data := .fields #[vl, vu, .none] } } σ H3 x v vl vu l1 u1 s3.heap.objs.size Q I4 r1 (Heap.IsSliceOf.new ..) (pl _ el) (pu _ eu) q3
  show wpAny (model X.prog X.w) X.A (PyProof.Rows.subscriptTail e (.Slice lo hi none p2) v (.ref s3.heap.objs.size)) (EP X pins σ Q) X.xe { s3 with heap := s3.heap.push { cls := .type "slice", data := .fields #[vl, vu, .none] } }
  exact PyProof.Rows.tail_any (ops := [.ref s3.heap.objs.size, v]) ht hT hg (by with_unfolding_all rfl)
/-- the items of xs[lo:hi] -/
def cutL {α : Type} (xs : List α) (lo hi : Option Int) : List α := (xs.drop (HT.sIx xs.length 0 lo)).take (HT.sIx xs.length xs.length hi - HT.sIx xs.length 0 lo)
theorem cutL_V (xs : List V) (lo hi : Option Int) : cutL xs lo hi = cutV xs lo hi := rfl
theorem Reps.drop : ∀ {ds : List D} {vs : List V} {s : List Addr} (n : Nat), Reps Γ H ds vs [] s → ∃ s', Reps Γ H (ds.drop n) (vs.drop n) [] s' ∧ ∀ a ∈ s', a ∈ s
  | ds, vs, s, 0, h => ⟨s, h, fun _ m => m⟩
  | [], _, _, _ + 1, h => by obtain ⟨rfl, _, rfl⟩ := h; exact ⟨[], ⟨rfl, rfl, rfl⟩, fun _ m => m⟩
  | d :: ds, _, _, n + 1, h => by
    obtain ⟨v, vs', o1, s1, o2, s2, rfl, h1, h2, e1, rfl⟩ := h
    obtain ⟨rfl, rfl⟩ := List.append_eq_nil_iff.mp e1.symm
    obtain ⟨s', h', m⟩ := Reps.drop n h2
    exact ⟨s', h', fun a z => List.mem_append_right _ (m a z)⟩
theorem Reps.take : ∀ {ds : List D} {vs : List V} {s : List Addr} (n : Nat), Reps Γ H ds vs [] s → ∃ s', Reps Γ H (ds.take n) (vs.take n) [] s' ∧ ∀ a ∈ s', a ∈ s
  | ds, vs, s, 0, h => ⟨[], by rw [List.take_zero, List.take_zero]; exact ⟨rfl, rfl, rfl⟩, fun _ m => nomatch m⟩
  | [], _, _, _ + 1, h => by obtain ⟨rfl, _, rfl⟩ := h; exact ⟨[], ⟨rfl, rfl, rfl⟩, fun _ m => m⟩
  | d :: ds, _, _, n + 1, h => by
    obtain ⟨v, vs', o1, s1, o2, s2, rfl, h1, h2, e1, rfl⟩ := h
    obtain ⟨rfl, rfl⟩ := List.append_eq_nil_iff.mp e1.symm
    obtain ⟨s', h', m⟩ := Reps.take n h2
    exact ⟨s1 ++ s', ⟨v, _, [], s1, [], s', rfl, h1, h', rfl, rfl⟩, fun a z => (List.mem_append.mp z).elim (List.mem_append_left _) fun z => List.mem_append_right _ (m a z)⟩
theorem Reps.cut {ds : List D} {s : List Addr} (h : Reps Γ H ds vs [] s) (lo hi : Option Int) : ∃ s', Reps Γ H (cutL ds lo hi) (cutV vs lo hi) [] s' ∧ ∀ a ∈ s', a ∈ s := by
  rw [← cutL_V]
  unfold cutL
  rw [← h.len]
  obtain ⟨s1, h1, m1⟩ := h.drop (HT.sIx ds.length 0 lo)
  obtain ⟨s2, h2, m2⟩ := h1.take (HT.sIx ds.length ds.length hi - HT.sIx ds.length 0 lo)
  exact ⟨s2, h2, fun a m => m1 a (m2 a m)⟩
def lod : List D → Option (Option Int)
  | [] => some none
  | [.int i] => some (some i)
  | _ => none
def gSl (x : D) (lo hi : Option Int) : Option D := match x with
  | .str z => if z.length ≤ 16777216 then some (.str (cutL z lo hi)) else none
  | .lst _ xs => some (.lst true (cutL (frs xs) lo hi))
  | .lk xs => some (.lst true (cutL (frs xs) lo hi))
  | .tup xs => some (.tup (cutL (frs xs) lo hi))
  | _ => none
/-- n: how many of the arguments stand for the lower end (0 or 1) -/
def opSl (n : Nat) : List D → Option D
  | [] => none
  | x :: ds => match lod (ds.take n), lod (ds.drop n) with
    | some lo, some hi => gSl x lo hi
    | _, _ => none
def rSlAll (K : PySem.W.Frag) : V → Option Int → Option Int → Hp → VK → Prop := fun x lo hi H Q => rSlS x lo hi H Q ∨ (rSlL K x lo hi H Q ∨ rSlA K x lo hi H Q)
def rSlN (K : PySem.W.Frag) (n : Nat) : List V → Hp → VK → Prop := fun vs H Q => ∃ x ws lo hi, vs = x :: ws ∧ lop (ws.take n) = some lo ∧ lop (ws.drop n) = some hi ∧ rSlAll K x lo hi H Q
theorem lod_lop {ds : List D} {x : Option Int} (e : lod ds = some x) (h : Reps Γ H ds vs o s) : lop vs = some x := by
  match ds, e with
  | [], e => cases e; obtain ⟨rfl, _⟩ := h; rfl
  | [.int i], e =>
    cases e
    obtain ⟨v, rfl, ⟨rfl, _⟩⟩ := h.one'
    rfl
theorem Reps.takeO : ∀ {ds : List D} {vs : List V} {o s : List Addr} (n : Nat), Reps Γ H ds vs o s → ∃ o' s', Reps Γ H (ds.take n) (vs.take n) o' s'
  | ds, vs, o, s, 0, h => ⟨[], [], by rw [List.take_zero, List.take_zero]; exact ⟨rfl, rfl, rfl⟩⟩
  | [], _, _, _, _ + 1, h => by obtain ⟨rfl, _, rfl⟩ := h; exact ⟨[], [], rfl, rfl, rfl⟩
  | d :: ds, _, _, _, n + 1, h => by
    obtain ⟨v, vs', o1, s1, o2, s2, rfl, h1, h2, e1, rfl⟩ := h
    obtain ⟨o', s', h'⟩ := Reps.takeO n h2
    exact ⟨_, _, v, _, o1, s1, o', s', rfl, h1, h', rfl, rfl⟩
theorem Reps.dropO : ∀ {ds : List D} {vs : List V} {o s : List Addr} (n : Nat), Reps Γ H ds vs o s → ∃ o' s', Reps Γ H (ds.drop n) (vs.drop n) o' s'
  | ds, vs, o, s, 0, h => ⟨o, s, h⟩
  | [], _, _, _, _ + 1, h => by obtain ⟨rfl, _, rfl⟩ := h; exact ⟨[], [], rfl, rfl, rfl⟩
  | d :: ds, _, _, _, n + 1, h => by
    obtain ⟨v, vs', o1, s1, o2, s2, rfl, h1, h2, e1, rfl⟩ := h
    exact Reps.dropO n h2
theorem sIx_zero (n : Nat) {lo : Option Int} {hi : Option Int} {α : Type} {xs : List α} (h : HT.sIx xs.length 0 lo = 0 ∧ HT.sIx xs.length xs.length hi = xs.length) : cutL xs lo hi = xs := by
  unfold cutL
  rw [h.1, h.2]
  simp
theorem opSl_ok (n : Nat) : OpS Γ (rSlN Γ.K n) (opSl n) := by
  intro ds vs H o s d Q rs e q
  cases ds with
  | nil => cases e
  | cons x ds =>
    obtain ⟨v, vs', o1, s1, o2, s2, rfl, h1, h2, rfl, rfl⟩ := rs
    have e : (match lod (ds.take n), lod (ds.drop n) with | some lo, some hi => gSl x lo hi | _, _ => none) = some d := e
    cases el : lod (ds.take n) with
    | none => rw [el] at e; cases e
    | some lo =>
      cases eh : lod (ds.drop n) with
      | none => rw [el, eh] at e; cases e
      | some hi =>
        rw [el, eh] at e
        have e : gSl x lo hi = some d := e
        obtain ⟨_, _, ht⟩ := h2.takeO n
        obtain ⟨_, _, hd⟩ := h2.dropO n
        refine ⟨v, vs', lo, hi, rfl, lod_lop el ht, lod_lop eh hd, ?_⟩
        have sub : ∀ {o' s' t : List Addr}, (∀ a ∈ o', a ∈ o1) → (∀ a ∈ s', a ∈ s1) → (∀ a ∈ t, a ∈ o' ∨ a ∈ s') → ∀ a ∈ t, a ∈ o1 ++ o2 ∨ a ∈ s1 ++ s2 := fun f g k a m => by
          rcases k a m with m | m
          · exact .inl (List.mem_append_left _ (f a m))
          · exact .inr (List.mem_append_left _ (g a m))
        have newl : ∀ {us : List V} {o' s' : List Addr} {xs : List D}, Reps Γ H xs us o' s' → (∀ a ∈ o', a ∈ o1) → (∀ a ∈ s', a ∈ s1) → d = .lst true (cutL (frs xs) lo hi) → ∀ p, H p = none → Q (.ref p) (upd H p (.lst (cutV us lo hi))) := fun r1 m1 m2 ed p hp => by
          subst ed
          obtain ⟨t1, f1, g1⟩ := r1.frz
          obtain ⟨t2, f2, g2⟩ := f1.cut lo hi
          exact q _ _ [p] t2 ⟨p, _, [], t2, rfl, f2.new hp, upd_same, rfl, rfl⟩ (by simp) (fun a m => by simp at m; subst m; exact hp) (sub m1 m2 fun a m => g1 a (g2 a m)) (Keep.new hp)
        cases x <;> first | (cases e; done) | skip
        · rename_i z _ _
          have e : (if z.length ≤ 16777216 then some (D.str (cutL z lo hi)) else none) = some d := e
          split at e
          · rename_i hl
            cases e
            obtain ⟨rfl, _⟩ := h1
            exact .inl ⟨_, rfl, by rw [sizeL]; exact hl, q _ H [] [] ⟨rfl, rfl, rfl⟩ .nil (fun _ m => nomatch m) (fun _ m => nomatch m) Keep.refl⟩
          · cases e
        · cases e
          obtain ⟨p, us, o', s', rfl, r1, m1, m2, hq⟩ := h1.lstI
          exact .inr (.inl ⟨p, us, rfl, .of hq, newl r1 m1 m2 rfl⟩)
        · cases e
          obtain ⟨p, us, rfl, r1, hq⟩ := h1.tupI
          obtain ⟨t1, f1, g1⟩ := r1.frz
          refine .inr (.inr ⟨p, us, rfl, hq, fun z => ?_, fun z p' hp => ?_⟩)
          · have z' : HT.sIx (frs ‹_›).length 0 lo = 0 ∧ HT.sIx (frs ‹_›).length (frs ‹_›).length hi = (frs ‹_›).length := by rw [f1.len]; exact z
            rw [sIx_zero 0 z'] at q
            exact q _ H [] t1 ⟨p, us, rfl, f1, hq⟩ .nil (fun _ m => nomatch m) (sub (fun _ m => m) (fun _ m => m) g1) Keep.refl
          · obtain ⟨t2, f2, g2⟩ := f1.cut lo hi
            exact q _ _ [] t2 ⟨p', _, rfl, f2.new hp, .inl (.inl upd_same)⟩ .nil (fun _ m => nomatch m) (sub (fun _ m => m) (fun _ m => m) fun a m => g1 a (g2 a m)) (Keep.new hp)
        · cases e
          obtain ⟨p, us, rfl, r1, hq⟩ := h1
          exact .inr (.inl ⟨p, us, rfl, hq.sq, newl r1 (fun _ m => m) (fun _ m => m) rfl⟩)
theorem slR_all : SlR X (rSlAll X.K) := sl_str.or (sl_list.or sl_tupA)
/-- x[:] -/
theorem ed_sl00 {e : Expr} {pos p2 : Pos} (hK : X.K = Γ.K) (he : PE X e (tI Γ W δ)) : PE X (.Subscript e (.Slice none none none p2) pos) (tI Γ W (dOp (opSl 0) (dCons δ dNil))) :=
  ed1 (opSl_ok 0) (pe_slX slR_all he pq_none pq_none) fun σ H Q q => tI.mono q fun v H1 ⟨x, ws, lo, hi, e1, e2, e3, k⟩ => by
    cases e1; exact ⟨lo, hi, e2, e3, hK ▸ k⟩
/-- x[a:] -/
theorem ed_sl10 {e a : Expr} {pos p2 : Pos} (hK : X.K = Γ.K) (he : PE X e (tI Γ W δ)) (ha : PE X a (tI Γ W δa)) : PE X (.Subscript e (.Slice (some a) none none p2) pos) (tI Γ W (dOp (opSl 1) (dCons δ (dCons δa dNil)))) :=
  ed2 (opSl_ok 1) (pe_slX slR_all he (pq_some ha) pq_none) fun σ H Q q => tI.mono q fun v H1 z => tI.mono z fun w H2 ⟨x, ws, lo, hi, e1, e2, e3, k⟩ => by
    cases e1; exact ⟨lo, hi, e2, e3, hK ▸ k⟩
/-- x[:b] -/
theorem ed_sl01 {e b : Expr} {pos p2 : Pos} (hK : X.K = Γ.K) (he : PE X e (tI Γ W δ)) (hb : PE X b (tI Γ W δb)) : PE X (.Subscript e (.Slice none (some b) none p2) pos) (tI Γ W (dOp (opSl 0) (dCons δ (dCons δb dNil)))) :=
  ed2 (opSl_ok 0) (pe_slX slR_all he pq_none (pq_some hb)) fun σ H Q q => tI.mono q fun v H1 z => tI.mono z fun w H2 ⟨x, ws, lo, hi, e1, e2, e3, k⟩ => by
    cases e1; exact ⟨lo, hi, e2, e3, hK ▸ k⟩
/-- x[a:b] -/
theorem ed_sl11 {e a b : Expr} {pos p2 : Pos} (hK : X.K = Γ.K) (he : PE X e (tI Γ W δ)) (ha : PE X a (tI Γ W δa)) (hb : PE X b (tI Γ W δb)) : PE X (.Subscript e (.Slice (some a) (some b) none p2) pos) (tI Γ W (dOp (opSl 1) (dCons δ (dCons δa (dCons δb dNil))))) :=
  (pe_slX slR_all he (pq_some ha) (pq_some hb)).imp fun σ H Q q => tI.mono (tA_cons (op_ent (opSl_ok 1) q)) fun v H1 z => tI.mono (tA_cons z) fun w H2 z => tI.mono (tA_cons z) fun u H3 z => by
    obtain ⟨x, ws, lo, hi, e1, e2, e3, k⟩ := tA_nil z
    cases e1; exact ⟨lo, hi, e2, e3, hK ▸ k⟩
end
end TB
end
section
set_option Elab.async false
set_option linter.all false
set_option maxRecDepth 100000
set_option maxHeartbeats 4000000
namespace TB
open PySem PySem.Spec L2

/-! ### what a statement comes to -/
inductive RS where
  | nx (ρ : VE)
  | bk (ρ : VE)
  | ct (ρ : VE)
  | rt (d : D) (ρ : VE)
  | ex (e : Exn) (ρ : VE)
  | no
abbrev DenS := VE → RS
structure PostS (Γ : Ctx) (io : List Nat) (H : Hp) (o s : List Addr) (σ : L2.St) (ρ' : VE) (σ' : L2.St) (H' : Hp) : Prop where
  al : Al σ' ρ'
  l1 : Live Γ (nO H o) (nS H o s) H' (slots ρ' σ')
  kp : Keep H H' o
  io : ∀ i ∈ io, σ'[i]? = σ[i]?
structure PostR (Γ : Ctx) (io : List Nat) (H : Hp) (o s : List Addr) (σ : L2.St) (d : D) (ρ' : VE) (v : V) (σ' : L2.St) (H' : Hp) : Prop where
  al : Al σ' ρ'
  l2 : Live Γ (nO H o) (nS H o s) H' ((d, v) :: slots ρ' σ')
  kp : Keep H H' o
  io : ∀ i ∈ io, σ'[i]? = σ[i]?
structure PostXS (Γ : Ctx) (io : List Nat) (H : Hp) (o s : List Addr) (σ : L2.St) (e : Exn) (ρ' : VE) (cls : Value) (dx : Option Addr) (σ' : L2.St) (H' : Hp) : Prop where
  al : Al σ' ρ'
  l1 : Live Γ (nO H o) (nS H o s) H' (slots ρ' σ')
  kp : Keep H H' o
  er : ERep Γ H' e cls dx
  io : ∀ i ∈ io, σ'[i]? = σ[i]?
def DoneS (Γ : Ctx) (W : WX) (io : List Nat) (H : Hp) (o s : List Addr) (σ : L2.St) (D : Ends) : RS → Prop
  | .nx ρ' => ∀ σ' H', PostS Γ io H o s σ ρ' σ' H' → D.nx σ' H'
  | .bk ρ' => ∀ σ' H', PostS Γ io H o s σ ρ' σ' H' → D.bk σ' H'
  | .ct ρ' => ∀ σ' H', PostS Γ io H o s σ ρ' σ' H' → D.ct σ' H'
  | .rt d ρ' => ∀ v σ' H', PostR Γ io H o s σ d ρ' v σ' H' → D.rt v H'
  | .ex e ρ' => ∀ cls dx σ' H', PostXS Γ io H o s σ e ρ' cls dx σ' H' → W cls dx σ' H'
  | .no => False
def tS (Γ : Ctx) (W : WX) (io : List Nat) (δ : DenS) : TS := fun D σ H => ∃ ρ o s, Al σ ρ ∧ Own Γ H (slots ρ σ) o s ∧ DoneS Γ W io H o s σ D (δ ρ)

section
variable {Γ : Ctx} {X : Cx} {W : WX} {io : List Nat} {H H1 H2 H' : Hp} {o s o1 s1 : List Addr} {ρ ρ' ρ1 : VE} {σ σ1 : L2.St} {v : V} {vs : List V} {d : D} {bs : List Nat} {pu : Bool} {δ δa δb δc : Den} {δs : DenA} {Q : VK} {f : List D → Option D} {ς ς1 ς2 : DenS} {Z Z' : Ends}

theorem DoneS.back {r : RS} (kp : Keep H H1 o) (p1 : ∀ a ∈ o1, nO H o a) (p2 : ∀ a ∈ s1, nS H o s a) (hio : ∀ i ∈ io, σ1[i]? = σ[i]?) (h : DoneS Γ W io H o s σ Z r) : DoneS Γ W io H1 o1 s1 σ1 Z r := by
  cases r with
  | nx ρ' => exact fun σ' H' P => h σ' H' ⟨P.al, P.l1.comp kp p1 p2, kp.trans P.kp p1, fun i m => (P.io i m).trans (hio i m)⟩
  | bk ρ' => exact fun σ' H' P => h σ' H' ⟨P.al, P.l1.comp kp p1 p2, kp.trans P.kp p1, fun i m => (P.io i m).trans (hio i m)⟩
  | ct ρ' => exact fun σ' H' P => h σ' H' ⟨P.al, P.l1.comp kp p1 p2, kp.trans P.kp p1, fun i m => (P.io i m).trans (hio i m)⟩
  | rt d ρ' => exact fun v σ' H' P => h v σ' H' ⟨P.al, P.l2.comp kp p1 p2, kp.trans P.kp p1, fun i m => (P.io i m).trans (hio i m)⟩
  | ex e ρ' => exact fun cls dx σ' H' P => h cls dx σ' H' ⟨P.al, P.l1.comp kp p1 p2, kp.trans P.kp p1, P.er, fun i m => (P.io i m).trans (hio i m)⟩
  | no => exact h
theorem DoneS.imp {r : RS} (h : DoneS Γ W io H o s σ Z r) (h1 : ∀ σ H, Z.nx σ H → Z'.nx σ H) (h2 : ∀ σ H, Z.bk σ H → Z'.bk σ H) (h3 : ∀ σ H, Z.ct σ H → Z'.ct σ H) (h4 : ∀ v H, Z.rt v H → Z'.rt v H) : DoneS Γ W io H o s σ Z' r := by
  cases r with
  | nx ρ' => exact fun σ' H' P => h1 _ _ (h σ' H' P)
  | bk ρ' => exact fun σ' H' P => h2 _ _ (h σ' H' P)
  | ct ρ' => exact fun σ' H' P => h3 _ _ (h σ' H' P)
  | rt d ρ' => exact fun v σ' H' P => h4 _ _ (h v σ' H' P)
  | ex e ρ' => exact h
  | no => exact h
theorem PostS.start (P : PostS Γ io H o s σ ρ1 σ1 H1) : ∃ o1 s1, Own Γ H1 (slots ρ1 σ1) o1 s1 ∧ ∀ {Z : Ends} {r : RS}, DoneS Γ W io H o s σ Z r → DoneS Γ W io H1 o1 s1 σ1 Z r := by
  obtain ⟨o1, s1, ow, p1, p2⟩ := P.l1
  exact ⟨o1, s1, ow, fun h => h.back P.kp p1 p2 P.io⟩
theorem PostE.start {b : List Nat} {p : Bool} (P : PostE Γ H o s ρ σ d b p ρ1 v H1) : ∃ o1 s1, Own Γ H1 (slots ρ1 σ) o1 s1 ∧ ∀ {Z : Ends} {r : RS}, DoneS Γ W io H o s σ Z r → DoneS Γ W io H1 o1 s1 σ Z r := by
  obtain ⟨o1, s1, ow, p1, p2⟩ := P.l1
  exact ⟨o1, s1, ow, fun h => h.back P.kp p1 p2 fun _ _ => rfl⟩

/-! ### blocks -/
def dSeq (a b : DenS) : DenS := fun ρ => match a ρ with
  | .nx ρ1 => b ρ1
  | r => r
def dSkip : DenS := fun ρ => .nx ρ
theorem tS_seq (h : tS Γ W io (dSeq ς1 ς2) Z σ H) : tSeq (tS Γ W io ς1) (tS Γ W io ς2) Z σ H := by
  obtain ⟨ρ, o, s, al, ow, h⟩ := h
  refine ⟨ρ, o, s, al, ow, ?_⟩
  unfold dSeq at h
  cases e : ς1 ρ with
  | nx ρ1 =>
    rw [e] at h
    intro σ1 H1 P
    obtain ⟨o1, s1, ow1, k⟩ := P.start
    exact ⟨ρ1, o1, s1, P.al, ow1, k h⟩
  | bk ρ1 => rw [e] at h; exact h
  | ct ρ1 => rw [e] at h; exact h
  | rt d ρ1 => rw [e] at h; exact h
  | ex x ρ1 => rw [e] at h; exact h
  | no => rw [e] at h; exact h
theorem PostS.refl (al : Al σ ρ) (ow : Own Γ H (slots ρ σ) o s) : PostS Γ io H o s σ ρ σ H := ⟨al, ow.live, Keep.refl, fun _ _ => rfl⟩
theorem ess_nil : PSs X [] (tS Γ W io dSkip) := pss_nil.imp fun D σ H q => by
  obtain ⟨ρ, o, s, al, ow, h⟩ := q
  exact h σ H (PostS.refl al ow)
theorem ess_cons {st : Stmt} {rest : List Stmt} (h1 : PS X st (tS Γ W io ς1)) (h2 : PSs X rest (tS Γ W io ς2)) : PSs X (st :: rest) (tS Γ W io (dSeq ς1 ς2)) := (pss_cons h1 h2).imp fun D σ H q => tS_seq q
theorem ess_one {st : Stmt} (h1 : PS X st (tS Γ W io ς1)) : PSs X [st] (tS Γ W io ς1) := pss_one h1
theorem es_pass {pos : Pos} : PS X (.Pass pos) (tS Γ W io dSkip) := ps_pass.imp fun D σ H q => by
  obtain ⟨ρ, o, s, al, ow, h⟩ := q
  exact h σ H (PostS.refl al ow)
theorem es_break {pos : Pos} : PS X (.Break pos) (tS Γ W io fun ρ => .bk ρ) := ps_break.imp fun D σ H q => by
  obtain ⟨ρ, o, s, al, ow, h⟩ := q
  exact h σ H (PostS.refl al ow)
theorem es_cont {pos : Pos} : PS X (.Continue pos) (tS Γ W io fun ρ => .ct ρ) := ps_continue.imp fun D σ H q => by
  obtain ⟨ρ, o, s, al, ow, h⟩ := q
  exact h σ H (PostS.refl al ow)

/-! ### expressions as statements, return, if -/
theorem PostX.toS {e : Exn} {cls : Value} {dx : Option Addr} (P : PostX Γ H o s σ e ρ1 cls dx H1) : PostXS Γ io H o s σ e ρ1 cls dx σ H1 := ⟨P.al, P.l1, P.kp, P.er, fun _ _ => rfl⟩
def dExp (δ : Den) : DenS := fun ρ => match δ ρ with
  | .ok _ _ _ ρ1 => .nx ρ1
  | .ex e ρ1 => .ex e ρ1
  | .no => .no
theorem es_expr {e : Expr} {pos : Pos} (he : PE X e (tI Γ W δ)) (hs : swapsWith e none pos.line X.env = pure false := by rfl) : PS X (.Expr e pos) (tS Γ W io (dExp δ)) := (ps_expr he hs).imp fun D σ H q => by
  obtain ⟨ρ, o, s, al, ow, h⟩ := q
  refine ⟨ρ, o, s, al, ow, ?_⟩
  unfold dExp at h
  cases e1 : δ ρ with
  | ok d b p ρ1 =>
    rw [e1] at h
    exact fun v H1 P => h σ H1 ⟨P.al, P.l1, P.kp, fun _ _ => rfl⟩
  | ex x ρ1 => rw [e1] at h; exact fun cls dx H1 P => h cls dx σ H1 P.toS
  | no => rw [e1] at h; exact h
def dRet (δ : Den) : DenS := fun ρ => match δ ρ with
  | .ok d b _ ρ1 => .rt d (fz b ρ1)
  | .ex e ρ1 => .ex e ρ1
  | .no => .no
theorem es_ret {e : Expr} {pos : Pos} (he : PE X e (tI Γ W δ)) : PS X (.Return (some e) pos) (tS Γ W io (dRet δ)) := (ps_ret he).imp fun D σ H q => by
  obtain ⟨ρ, o, s, al, ow, h⟩ := q
  refine ⟨ρ, o, s, al, ow, ?_⟩
  unfold dRet at h
  cases e1 : δ ρ with
  | ok d b p ρ1 =>
    rw [e1] at h
    exact fun v H1 P => h v σ H1 ⟨P.al.fz b, P.l2, P.kp, fun _ _ => rfl⟩
  | ex x ρ1 => rw [e1] at h; exact fun cls dx H1 P => h cls dx σ H1 P.toS
  | no => rw [e1] at h; exact h
theorem es_retN {pos : Pos} : PS X (.Return none pos) (tS Γ W io fun ρ => .rt .non ρ) := ps_retN.imp fun D σ H q => by
  obtain ⟨ρ, o, s, al, ow, h⟩ := q
  exact h .non σ H ⟨al, ow.live.imm (d := .non) rfl ⟨rfl, rfl, rfl⟩, Keep.refl, fun _ _ => rfl⟩
def dIfS (δ : Den) (a b : DenS) : DenS := fun ρ => match δ ρ with
  | .ok (.bl true) _ _ ρ1 => a ρ1
  | .ok (.bl false) _ _ ρ1 => b ρ1
  | .ex e ρ1 => .ex e ρ1
  | _ => .no
theorem es_if {c : Expr} {a b : List Stmt} {pos : Pos} (hc : PT X c (tB Γ W δ)) (ha : PSs X a (tS Γ W io ς1)) (hb : PSs X b (tS Γ W io ς2)) : PS X (.If c a b pos) (tS Γ W io (dIfS δ ς1 ς2)) := (ps_if hc ha hb).imp fun D σ H q => by
  obtain ⟨ρ, o, s, al, ow, h⟩ := q
  refine ⟨ρ, o, s, al, ow, ?_⟩
  unfold dIfS at h
  cases e1 : δ ρ with
  | ok d b p ρ1 =>
    rw [e1] at h
    cases d <;> first | exact h.elim | skip
    rename_i c
    cases c with
    | true =>
      intro H1 P
      rw [if_pos rfl]
      obtain ⟨o1, s1, ow1, k⟩ := PostE.start P
      exact ⟨ρ1, o1, s1, P.al, ow1, k h⟩
    | false =>
      intro H1 P
      rw [if_neg Bool.false_ne_true]
      obtain ⟨o1, s1, ow1, k⟩ := PostE.start P
      exact ⟨ρ1, o1, s1, P.al, ow1, k h⟩
  | ex x ρ1 => rw [e1] at h; exact fun cls dx H1 P => h cls dx σ H1 P.toS
  | no => rw [e1] at h; exact h

/-! ### targets -/
abbrev DenG := D → VE → Option VE
/-- a target: from the value and the names, the names behind -/
def tG (Γ : Ctx) (io : List Nat) (g : DenG) : TG := fun v σ H Q => ∃ ρ o s d, Al σ ρ ∧ Own Γ H ((d, v) :: slots ρ σ) o s ∧ ∃ ρ', g d ρ = some ρ' ∧ ∀ σ' H', PostS Γ io H o s σ ρ' σ' H' → Keep H H' [] → Q σ' H'
theorem _root_.L2.PG.imp {X : Cx} {e : Expr} {t t' : TG} (h : PG X e t) (i : ∀ v σ H Q, t' v σ H Q → t v σ H Q) : PG X e t' := ⟨fun pins s σ H v u Q I r q => h.run pins s σ H v u Q I r (i v σ H Q q)⟩
def sName (io : List Nat) (i : Nat) : DenG := fun d ρ => if i < ρ.length ∧ i ∉ io then some (ρ.set i (some d)) else none
theorem Live.setN {PO PS : Addr → Prop} {i : Nat} (al : Al σ ρ) (hi : i < ρ.length) (h : Live Γ PO PS H ((d, v) :: slots ρ σ)) : Live Γ PO PS H (slots (ρ.set i (some d)) (σ.set i (some v))) := by
  have p := slots_set (d := d) (v := v) hi al.len
  refine Live.perm ?_ p.symm
  by_cases e : ∃ x, ρ[i]? = some (some x)
  · obtain ⟨x, e⟩ := e
    obtain ⟨y, ey⟩ := al.has i x e
    have q := slots_out e ey
    exact ((h.perm (q.cons _)).perm (.swap _ _ _)).tail
  · have : ρ.set i none = ρ := by
      have hh : ρ[i]? = some none := by
        cases e2 : ρ[i]? with
        | none => rw [List.getElem?_eq_none_iff] at e2; omega
        | some y =>
          cases y with
          | none => rfl
          | some x => exact absurd ⟨x, e2⟩ e
      apply List.ext_getElem?
      intro j
      by_cases hj : i = j
      · subst hj
        rw [List.getElem?_set_self hi, hh]
      · rw [List.getElem?_set_ne hj]
    rw [this]
    exact h
theorem eg_name {i : Nat} {x : Str} {pos : Pos} (hN : X.N.Nodup) (hi : X.N[i]? = some x := by rfl) (hx : Loc X.env.scope x := by first | exact Or.inl rfl | exact Or.inr rfl) (hf : X.fn x = true ∨ X.env.scope.names.lookup x = some .local := by first | exact .inl rfl | exact .inr rfl) : PG X (.Name x pos) (tG Γ io (sName io i)) :=
  (pg_name hN hi hx hf).imp fun v σ H Q q => by
    obtain ⟨ρ, o, s, d, al, ow, ρ', e, k⟩ := q
    unfold sName at e
    split at e
    · rename_i hh
      cases e
      exact k _ _ ⟨al.set i d v, Live.setN al hh.1 ow.live, Keep.refl, fun j m => by
        rw [List.getElem?_set_ne (fun e => hh.2 (by rw [e]; exact m))]⟩ Keep.refl
    · cases e
/-- a name assigned -/
def dAsg (g : DenG) (δ : Den) : DenS := fun ρ => match δ ρ with
  | .ok d b _ ρ1 => (match g d (fz b ρ1) with
    | some ρ2 => .nx ρ2
    | none => .no)
  | .ex e ρ1 => .ex e ρ1
  | .no => .no
theorem tS_asg {g : DenG} (h : tS Γ W io (dAsg g δ) Z σ H) : tAsg (tI Γ W δ) (tG Γ io g) Z σ H := by
  obtain ⟨ρ, o, s, al, ow, h⟩ := h
  refine ⟨ρ, o, s, al, ow, ?_⟩
  unfold dAsg at h
  cases e1 : δ ρ with
  | ok d b p ρ1 =>
    simp only [e1] at h
    cases e2 : g d (fz b ρ1) with
    | none => simp only [e2] at h; exact h.elim
    | some ρ2 =>
      simp only [e2] at h
      intro v H1 P
      obtain ⟨o1, s1, ow1, p1, p2⟩ := P.l2
      have h' : DoneS Γ W io H1 o1 s1 σ Z (.nx ρ2) := DoneS.back P.kp p1 p2 (fun _ _ => rfl) h
      exact ⟨fz b ρ1, o1, s1, d, P.al.fz b, ow1, ρ2, e2, fun σ' H' P' _ => h' σ' H' P'⟩
  | ex x ρ1 => simp only [e1] at h; exact fun cls dx H1 P => h cls dx σ H1 P.toS
  | no => simp only [e1] at h; exact h
theorem es_set {i : Nat} {x : Str} {e : Expr} {pos pos' : Pos} (hN : X.N.Nodup) (he : PE X e (tI Γ W δ)) (hi : X.N[i]? = some x := by rfl) (hx : Loc X.env.scope x := by first | exact Or.inl rfl | exact Or.inr rfl) (hs : swapsWith e (some (.Name x pos')) pos.line X.env = pure false := by rfl) (hf : X.fn x = true ∨ X.env.scope.names.lookup x = some .local := by first | exact .inl rfl | exact .inr rfl) :
    PS X (.Assign [.Name x pos'] e pos) (tS Γ W io (dAsg (sName io i) δ)) := (ps_set hN hi hx he hs hf).imp fun D σ H q => by
  refine tI.mono (tS_asg q) fun v H1 z => ?_
  obtain ⟨ρ, o, s, d, al, ow, ρ', e, k⟩ := z
  unfold sName at e
  split at e
  · rename_i hh
    cases e
    exact k _ _ ⟨al.set i d v, Live.setN al hh.1 ow.live, Keep.refl, fun j m => by
      rw [List.getElem?_set_ne (fun e => hh.2 (by rw [e]; exact m))]⟩ Keep.refl
  · cases e
theorem es_asg {tg e : Expr} {pos : Pos} {g : DenG} (he : PE X e (tI Γ W δ)) (hg : PG X tg (tG Γ io g)) (hs : swapsWithSole [tg] e pos.line X.env = pure false := by rfl) (hw : swappedStores [tg] e X.env = pure none := by rfl)
    (h1 : (assignEach [tg] X.env).map (·.2) = [assign tg X.env] := by rfl) : PS X (.Assign [tg] e pos) (tS Γ W io (dAsg g δ)) := (ps_asg he hg hs hw h1).imp fun D σ H q => tS_asg q
/-! several targets -/
abbrev DenGs := List D → VE → Option VE
def tGs (Γ : Ctx) (io : List Nat) (g : DenGs) : TGs := fun vs σ H Q => ∃ ρ o s ds, Al σ ρ ∧ ds.length = vs.length ∧ Own Γ H (ds.zip vs ++ slots ρ σ) o s ∧ ∃ ρ', g ds ρ = some ρ' ∧ ∀ σ' H', PostS Γ io H o s σ ρ' σ' H' → Keep H H' [] → Q σ' H'
theorem _root_.L2.PGs.imp {X : Cx} {e : List Expr} {t t' : TGs} (h : PGs X e t) (i : ∀ v σ H Q, t' v σ H Q → t v σ H Q) : PGs X e t' := ⟨fun pins s σ H v u Q I r q => h.run pins s σ H v u Q I r (i v σ H Q q)⟩
def sNil : DenGs := fun ds ρ => match ds with
  | [] => some ρ
  | _ => none
def sCons (g : DenG) (gs : DenGs) : DenGs := fun ds ρ => match ds with
  | d :: ds => (match g d ρ with
    | some ρ1 => gs ds ρ1
    | none => none)
  | [] => none
/-- (a, b, ..) = a tuple -/
def sTup (gs : DenGs) : DenG := fun d ρ => match d with
  | .tup ds => gs ds ρ
  | _ => none
theorem egs_nil : PGs X [] (tGs Γ io sNil) := pgs_nil.imp fun vs σ H Q q => by
  obtain ⟨ρ, o, s, ds, al, hl, ow, ρ', e, k⟩ := q
  cases ds with
  | nil =>
    cases vs with
    | nil =>
      have e : some ρ = some ρ' := e
      cases e
      exact ⟨rfl, k σ H (PostS.refl al ow) Keep.refl⟩
    | cons _ _ => simp at hl
  | cons _ _ => cases e
theorem egs_cons {e : Expr} {es : List Expr} {g : DenG} {gs : DenGs} (h1 : PG X e (tG Γ io g)) (h2 : PGs X es (tGs Γ io gs)) (hs : (assignEach (e :: es) X.env).map (·.2) = assign e X.env :: (assignEach es X.env).map (·.2) := by rfl) : PGs X (e :: es) (tGs Γ io (sCons g gs)) := (pgs_cons h1 h2 hs).imp fun vs σ H Q q => by
  obtain ⟨ρ, o, s, ds, al, hl, ow, ρ', e, k⟩ := q
  cases ds with
  | nil => cases e
  | cons d ds =>
    cases vs with
    | nil => simp at hl
    | cons v vs =>
      have e : (match g d ρ with | some ρ1 => gs ds ρ1 | none => none) = some ρ' := e
      cases e1 : g d ρ with
      | none => rw [e1] at e; cases e
      | some ρ1 =>
        rw [e1] at e
        have hl' : ds.length = vs.length := by simpa using hl
        refine ⟨v, vs, rfl, ?_⟩
        -- the rest of the parts stands beside
        have ow' : Own Γ H ((d, v) :: (ds.zip vs ++ slots ρ σ)) o s := ow
        obtain ⟨o2, s2, ow2, m1, m2⟩ := ow'.perm (G' := ((d, v) :: slots ρ σ) ++ ds.zip vs) (by
          have : ((d, v) :: (ds.zip vs ++ slots ρ σ)).Perm ((d, v) :: (slots ρ σ ++ ds.zip vs)) := List.Perm.cons _ List.perm_append_comm
          simpa using this)
        obtain ⟨oA, sA, owA, a1, a2, fr⟩ := ow2.frame
        refine ⟨ρ, oA, sA, d, al, owA, ρ1, e1, fun σ1 H1 P1 K1 => ?_⟩
        have l := fr H1 _ P1.kp P1.l1
        obtain ⟨o3, s3, ow3, p3, q3⟩ := l.perm List.perm_append_comm
        have kp : Keep H H1 o := P1.kp.mono fun a m => (m1 a).mp (a1 a m)
        have p3' : ∀ a ∈ o3, nO H o a := fun a m => (p3 a m).imp (m1 a).mp id
        have q3' : ∀ a ∈ s3, nS H o s a := fun a m => (q3 a m).imp (m1 a).mp (Or.imp (m2 a).mp id)
        refine ⟨ρ1, o3, s3, ds, P1.al, hl', ow3, ρ', e, fun σ2 H2 P2 K2 => k σ2 H2 ⟨P2.al, P2.l1.comp kp p3' q3', kp.trans P2.kp p3', fun i m => (P2.io i m).trans (P1.io i m)⟩ (K1.trans K2 fun _ m => nomatch m)⟩
theorem eg_tup {es : List Expr} {k : Nat} {pos : Pos} {gs : DenGs} {n : Nat} (hK : X.K = Γ.K) (hc : X.calm = true) (h : PGs X es (tGs Γ io gs)) (hlen : ∀ ds ρ ρ', gs ds ρ = some ρ' → ds.length = n)
    (hn : (assignEach es X.env).length = n := by rfl) (hst : (assignEach es X.env).findIdx? (·.1) = none := by rfl) : PG X (.Tuple es k pos) (tG Γ io (sTup gs)) := (pg_tup hc h hn hst).imp fun v σ H Q q => by
  obtain ⟨ρ, o, s, d, al, ow, ρ', e, k⟩ := q
  cases d <;> first | (cases e; done) | skip
  rename_i ds
  have e : gs ds ρ = some ρ' := e
  obtain ⟨o1, s1, o2, s2, h1, h2, rfl, rfl, n1, d1, d2, d3⟩ := ow.cons
  obtain ⟨a, us, rfl, r1, hq⟩ := h1.tupI
  have hl := r1.len
  refine ⟨a, us, rfl, hK ▸ hq, by rw [← hl]; exact hlen _ _ _ e, ρ, o1 ++ o2, s1 ++ s2, ds, al, hl, ⟨?_, ow.2.1, ow.2.2⟩, ρ', e, k⟩
  refine RepG.app ?_ h2.1
  unfold RepG
  rw [zip_fst hl, zip_snd hl]
  exact r1
theorem sNil_len : ∀ ds ρ ρ', sNil ds ρ = some ρ' → ds.length = 0
  | [], _, _, _ => rfl
  | _ :: _, _, _, h => nomatch h
theorem sCons_len {g : DenG} {gs : DenGs} {n : Nat} (h : ∀ ds ρ ρ', gs ds ρ = some ρ' → ds.length = n) : ∀ ds ρ ρ', sCons g gs ds ρ = some ρ' → ds.length = n + 1
  | [], _, _, e => nomatch e
  | d :: ds, ρ, ρ', e => by
    have e : (match g d ρ with | some ρ1 => gs ds ρ1 | none => none) = some ρ' := e
    cases e1 : g d ρ with
    | none => rw [e1] at e; cases e
    | some ρ1 =>
      rw [e1] at e
      simp [h ds ρ1 ρ' e]
end
end TB
end
section
set_option Elab.async false
set_option linter.all false
set_option maxRecDepth 100000
set_option maxHeartbeats 4000000
namespace TB
open PySem PySem.Spec L2

/-! ### defs: what a call comes to -/
inductive FR where
  | ok (d : D) (us : List D)
  | ex (e : Exn) (us : List D)
  | no
abbrev CF := Nat → List D → FR
structure FnDef where
  npar : Nat
  nloc : Nat
  io : List Nat
  body : CF → DenS
def outsOf (ρ : VE) : List Nat → Option (List D)
  | [] => some []
  | i :: io => match ρ[i]? with
    | some (some d) => (outsOf ρ io).map (d :: ·)
    | _ => none
def endF (io : List Nat) : RS → FR
  | .rt d ρ => (match outsOf ρ io with
    | some us => .ok d us
    | none => .no)
  | .nx ρ => (match outsOf ρ io with
    | some us => .ok .non us
    | none => .no)
  | .ex e ρ => (match outsOf ρ io with
    | some us => .ex e us
    | none => .no)
  | _ => .no
def startF (n : Nat) (ds : List D) : VE := ds.map some ++ List.replicate (n - ds.length) none
def runF (F : FnDef) (cf : CF) (ds : List D) : FR := if ds.length = F.npar then endF F.io (F.body cf (startF F.nloc ds)) else .no
def callF (tbl : Nat → Option FnDef) : Nat → CF
  | 0, _, _ => .no
  | k + 1, f, ds => match tbl f with
    | some F => runF F (callF tbl k) ds
    | none => .no
def pick (io : List Nat) (vs : List V) : List V := io.filterMap fun i => vs[i]?
/-- a def's promise -/
def spF (Γ : Ctx) (io : List Nat) (n : Nat) (g : List D → FR) : Sp := fun vs H Q E => vs.length = n ∧ ∃ ds o s, ds.length = vs.length ∧ Own Γ H (ds.zip vs) o s ∧ match g ds with
  | .ok d us => ∀ v H', us.length = (pick io vs).length → Live Γ (nO H o) (nS H o s) H' ((d, v) :: us.zip (pick io vs)) → Keep H H' o → Q v H'
  | .ex e us => ∀ cls dx H', us.length = (pick io vs).length → Live Γ (nO H o) (nS H o s) H' (us.zip (pick io vs)) → Keep H H' o → ERep Γ H' e cls dx → E cls dx H'
  | .no => False
structure FnK (Γ : Ctx) (P : Program) (w : World) (mg : Str → Option Value) (base : Heap) (k : Nat) (x : Str) (ps : List Str) (sp : Sp) : Prop where
  ex : ∃ f fd, FnOk P w Γ.K mg base (L2.CX P w) k f fd ps sp ∧ mg x = some (.ref f) ∧ PySem.W.keepIn Γ.K (.ref f) = true ∧ Binds Γ.K fd ps []

section
variable {Γ : Ctx} {X : Cx} {W : WX} {io : List Nat} {H H1 H2 H' : Hp} {o s o1 s1 : List Addr} {ρ ρ' ρ1 : VE} {σ σ1 : L2.St} {v : V} {vs : List V} {d : D} {bs : List Nat} {pu : Bool} {as : List AR} {δ δa δb δc : Den} {δs : DenA} {Q : VK}

/-! #### a call that writes nothing -/
def dCall0 (g : List D → FR) (δs : DenA) : Den := fun ρ => match δs ρ with
  | .ok as bs pu ρ' => (match vals as with
    | some ds => (match g (frs ds) with
      | .ok d [] => .ok d (if clean d then [] else bs) pu ρ'
      | .ex e [] => .ex e ρ'
      | _ => .no)
    | none => .no)
  | .ex e ρ' => .ex e ρ'
  | .no => .no
theorem PostA.fin {ds : List D} (e : vals as = some ds) (P : PostA Γ H o s ρ σ as bs pu ρ' vs H1) : ds.length = vs.length ∧ ∃ oa sa, Reps Γ H1 ds vs oa sa ∧
    ∀ d v H2 od sd, Rep Γ H2 d v od sd → od.Nodup → (∀ a ∈ od, H1 a = none) → (∀ a ∈ sd, a ∈ oa ∨ a ∈ sa ∨ H1 a = none) → (∀ a ∈ sd, a ∉ od) → Keep H1 H2 [] → PostE Γ H o s ρ σ d (if clean d then [] else bs) pu ρ' v H2 := by
  obtain ⟨hl, ht⟩ := vals_tmps e P.ar
  obtain ⟨o1, s1, ow, p1, p2⟩ := P.l2
  rw [ht] at ow
  obtain ⟨oa, sa, ob, sb, owA, owB, rfl, rfl⟩ := id ow.left
  have nd := List.nodup_append.mp ow.2.1
  have dj := ow.2.2
  have tr := ow.trk
  have ra : Reps Γ H1 ds vs oa sa := by
    have := owA.1
    unfold RepG at this
    rwa [zip_fst hl, zip_snd hl] at this
  refine ⟨hl, oa, sa, ra, fun d v H2 od sd rd ndd fod ssd sdod k => ?_⟩
  have nH : ∀ a ∈ od, nO H o a := fun a m => P.kp.unt (fod a m)
  have trb : ∀ a, a ∈ ob ∨ a ∈ sb → H1 a ≠ none := fun a m => by
    rcases m with m | m
    · intro z
      have := tr.1 a (List.mem_append_right _ m)
      rw [z] at this; exact this
    · exact tr.2 a (List.mem_append_right _ m)
  have kp2 : Keep H H2 o := P.kp.trans k fun _ m => nomatch m
  refine ⟨P.al, P.l1.same k, ?_, kp2, fun z => ⟨(P.pu z).1, (P.pu z).2.trans k fun _ m => nomatch m⟩⟩
  cases hc : clean d with
  | true =>
    obtain rfl : sd = [] := Rep.clean_nil _ _ _ _ hc rd
    obtain ⟨o2, s2, ow2, q1, q2⟩ := P.l1
    have tr2 := ow2.trk
    refine ⟨od ++ o2, [] ++ s2, Own.mkc rd (ow2.same k) ndd sdod (fun a m => ⟨fun n => ?_, fun n => ?_⟩) (fun _ m => nomatch m), fun a m => ?_, fun a m => q2 a (by simpa using m)⟩
    · have := tr2.1 a n
      rw [fod a m] at this; exact this
    · exact tr2.2 a n (fod a m)
    · rcases List.mem_append.mp m with m | m
      · exact nH a m
      · exact q1 a m
  | false =>
    refine ⟨od ++ ob, sd ++ sb, Own.mkc rd (owB.same k) ndd sdod (fun a m => ⟨fun n => trb a (.inl n) (fod a m), fun n => trb a (.inr n) (fod a m)⟩) (fun a m n => ?_), fun a m => ?_, fun a m => ?_⟩
    · rcases ssd a m with z | z | z
      · exact nd.2.2 a z a n rfl
      · exact dj a (List.mem_append_left _ z) (List.mem_append_right _ n)
      · exact trb a (.inl n) z
    · rcases List.mem_append.mp m with m | m
      · exact nH a m
      · exact p1 a (List.mem_append_right _ m)
    · rcases List.mem_append.mp m with m | m
      · rcases ssd a m with z | z | z
        · exact (p1 a (List.mem_append_left _ z)).toS
        · exact p2 a (List.mem_append_left _ z)
        · exact (P.kp.unt z).toS
      · exact p2 a (List.mem_append_right _ m)
theorem frs_len (ds : List D) : (frs ds).length = ds.length := by rw [frs_map, List.length_map]
theorem call0_ent {g : List D → FR} {n : Nat} (hn : ∀ ds, g ds ≠ .no → ds.length = n) (h : tI Γ W (dCall0 g δs) σ H Q) : tA Γ W δs σ H (fun vs H1 => spF Γ [] n g vs H1 Q (WE W σ)) := by
  obtain ⟨ρ, o, s, al, ow, h⟩ := h
  refine ⟨ρ, o, s, al, ow, ?_⟩
  unfold dCall0 at h
  cases e : δs ρ with
  | no => rw [e] at h; exact h
  | ex x ρ1 => rw [e] at h; exact h
  | ok as bs pu ρ' =>
    rw [e] at h
    cases e1 : vals as with
    | none => simp only [e1] at h; exact h.elim
    | some ds =>
      simp only [e1] at h
      intro vs H1 P
      obtain ⟨hl, oa, sa, ra, fin⟩ := P.fin e1
      obtain ⟨s3, rf, m3⟩ := ra.frz
      have hl' : (frs ds).length = vs.length := by rw [frs_len, hl]
      have own : Own Γ H1 ((frs ds).zip vs) [] s3 := ⟨by unfold RepG; rw [zip_fst hl', zip_snd hl']; exact rf, .nil, fun _ _ m => nomatch m⟩
      have hg : g (frs ds) ≠ .no := by
        intro z
        rw [z] at h
        exact h
      refine ⟨by rw [← hl']; exact hn _ hg, frs ds, [], s3, hl', own, ?_⟩
      cases e2 : g (frs ds) with
      | no => exact absurd e2 hg
      | ok d us =>
        simp only [e2] at h
        intro v H2 lu lv k
        cases us with
        | cons _ _ => exact h.elim
        | nil =>
          obtain ⟨od, sd, ow2, p1, p2⟩ := lv
          obtain ⟨od, sd, _, _, rd, ⟨⟨_, rfl, rfl⟩, _⟩, rfl, rfl, nd, dd, _, _⟩ := ow2.cons
          refine h v H2 (fin d v H2 od sd rd nd (fun a m => ?_) (fun a m => ?_) dd k)
          · rcases p1 a (by simpa using m) with z | z
            · cases z
            · exact z
          · rcases p2 a (by simpa using m) with z | z | z
            · cases z
            · rcases m3 a z with z | z
              · exact .inl z
              · exact .inr (.inl z)
            · exact .inr (.inr z)
      | ex x us =>
        simp only [e2] at h
        intro cls dx H2 lu lv k er
        cases us with
        | cons _ _ => exact h.elim
        | nil => exact h cls dx H2 ⟨P.al, P.l1.same k, P.kp.trans k (fun _ m => nomatch m), er⟩
theorem ed_call0 {g : List D → FR} {k : Nat} {x : Str} {ps : List Str} {p pos : Pos} {e : Expr} {es : List Expr} {n : Nat} (F : FnK Γ X.prog X.w X.mg X.base k x ps (spF Γ [] n g)) (hn : ∀ ds, g ds ≠ .no → ds.length = n) (hK : X.K = Γ.K) (hr : Room k X.A) (tk : Takes X W) (ha : PA X (e :: es) (tA Γ W δs))
    (hg : Gl X x := by rfl) (hdb : (x == ("__debug__" : Str)) = false := by decide) (he : starEach (e :: es) X.env = (false, eval e X.env) :: starEach es X.env := by rfl) (hpl : (backTo pos (starEach es X.env)).any (·.1) = false := by rfl) : PE X (.Call (.Name x p) (e :: es) [] pos) (tI Γ W (dCall0 g δs)) := by
  obtain ⟨f, fd, F, hm, hk, hb⟩ := F.ex
  exact (pe_callS (E := WE W) (by rw [hK]; exact F) hr hg hm (by rw [hK]; exact hk) (by rw [hK]; exact hb) (fun σ => passAt tk σ) ha hdb he hpl).imp fun σ H Q q => call0_ent hn q

/-! #### a call that writes one list -/
def splitIo : List AR → Option (List D × Nat × List D)
  | [] => none
  | .v d :: as => (splitIo as).map fun (a, i, b) => (d :: a, i, b)
  | .io i :: as => (vals as).map fun b => ([], i, b)
def dCallIo (j : Nat) (g : List D → FR) (δs : DenA) : Den := fun ρ => match δs ρ with
  | .ok as bs pu ρ' => (match splitIo as with
    | some (pre, i, post) => if pre.length = j then (match (fz bs ρ')[i]? with
      | some (some di) => (match g (frs pre ++ di :: frs post) with
        | .ok d [u] => .ok d [] false ((fz bs ρ').set i (some u))
        | .ex e [u] => .ex e ((fz bs ρ').set i (some u))
        | _ => .no)
      | _ => .no) else .no
    | none => .no)
  | .ex e ρ' => .ex e ρ'
  | .no => .no
theorem splitIo_ok : ∀ {as : List AR} {vs : List V} {pre post : List D} {i : Nat}, splitIo as = some (pre, i, post) → ArOk σ as vs → ∃ us v ws, vs = us ++ v :: ws ∧ σ[i]? = some (some v) ∧ pre.length = us.length ∧ post.length = ws.length ∧ tmps as vs = pre.zip us ++ post.zip ws
  | [], _, _, _, _, e, _ => nomatch e
  | .v d :: as, _, _, _, _, e, a => by
    obtain ⟨v, vs', rfl, a⟩ := a
    cases e1 : splitIo as with
    | none => simp [splitIo, e1] at e
    | some t =>
      obtain ⟨p, i', q⟩ := t
      simp [splitIo, e1] at e
      obtain ⟨rfl, rfl, rfl⟩ := e
      obtain ⟨us, w, ws, rfl, hs, h1, h2, h3⟩ := splitIo_ok e1 a
      exact ⟨v :: us, w, ws, rfl, hs, by simp [h1], h2, by simp [tmps, h3]⟩
  | .io i :: as, _, _, _, _, e, a => by
    obtain ⟨v, vs', rfl, hs, a⟩ := a
    cases e1 : vals as with
    | none => simp [splitIo, e1] at e
    | some b =>
      simp [splitIo, e1] at e
      obtain ⟨rfl, rfl, rfl⟩ := e
      obtain ⟨h1, h2⟩ := vals_tmps e1 a
      exact ⟨[], v, vs', rfl, hs, rfl, h1, by simp [tmps, h2]⟩
theorem Live.frG {PO PS : Addr → Prop} {G : Grp} {ds : List D} {us : List V} (q : ∀ a, PO a → PS a) (hl : ds.length = us.length) (h : Live Γ PO PS H (ds.zip us ++ G)) : Live Γ PO PS H ((frs ds).zip us ++ G) := by
  induction ds generalizing us G with
  | nil => exact h
  | cons d ds ih =>
    cases us with
    | nil => simp at hl
    | cons u us =>
      have h1 : Live Γ PO PS H ((fr d, u) :: (ds.zip us ++ G)) := Live.fr1 h q
      have h2 : Live Γ PO PS H (ds.zip us ++ ((fr d, u) :: G)) := h1.perm List.perm_middle.symm
      exact (ih (by simpa using hl) h2).perm List.perm_middle
theorem zip_app : ∀ {a b : List D} {c d : List V}, a.length = c.length → (a ++ b).zip (c ++ d) = a.zip c ++ b.zip d
  | [], _, [], _, _ => rfl
  | [], _, _ :: _, _, h => by simp at h
  | _ :: _, _, [], _, h => by simp at h
  | x :: a, b, y :: c, d, h => by simp [zip_app (a := a) (b := b) (c := c) (d := d) (by simpa using h)]
theorem pick_mid {us ws : List V} {v : V} {j : Nat} (h : us.length = j) : pick [j] (us ++ v :: ws) = [v] := by
  subst h
  simp [pick]
theorem callIo_ent {g : List D → FR} {j n : Nat} (hn : ∀ ds, g ds ≠ .no → ds.length = n) (h : tI Γ W (dCallIo j g δs) σ H Q) : tA Γ W δs σ H (fun vs H1 => spF Γ [j] n g vs H1 Q (WE W σ)) := by
  obtain ⟨ρ, o, s, al, ow, h⟩ := h
  refine ⟨ρ, o, s, al, ow, ?_⟩
  unfold dCallIo at h
  cases e : δs ρ with
  | no => rw [e] at h; exact h
  | ex x ρ1 => rw [e] at h; exact h
  | ok as bs pu ρ' =>
    rw [e] at h
    cases e1 : splitIo as with
    | none => simp only [e1] at h; exact h.elim
    | some t =>
      obtain ⟨pre, i, post⟩ := t
      simp only [e1] at h
      split at h
      · rename_i hj
        cases e3 : (fz bs ρ')[i]? with
        | none => simp only [e3] at h; exact h.elim
        | some y =>
          cases y with
          | none => simp only [e3] at h; exact h.elim
          | some di =>
            simp only [e3] at h
            intro vs H1 P
            obtain ⟨us, v, ws, rfl, hs, l1, l2, l3⟩ := splitIo_ok e1 P.ar
            have hil : i < (fz bs ρ').length := by
              rcases Nat.lt_or_ge i (fz bs ρ').length with z | z
              · exact z
              · rw [List.getElem?_eq_none z] at e3; cases e3
            have live := P.l2
            rw [l3] at live
            -- the arguments, in their order, then the rest of the names
            have so := slots_out e3 hs
            have live1 : Live Γ (nO H o) (nS H o s) H1 (pre.zip us ++ (post.zip ws ++ ((di, v) :: slots ((fz bs ρ').set i none) σ))) := live.perm (by
              rw [List.append_assoc]
              exact (so.append_left _).append_left _)
            have live2 := Live.frG (fun _ m => m.toS) l1 live1
            have live3 : Live Γ (nO H o) (nS H o s) H1 (post.zip ws ++ ((frs pre).zip us ++ ((di, v) :: slots ((fz bs ρ').set i none) σ))) := live2.perm (by
              rw [← List.append_assoc, ← List.append_assoc]
              exact List.Perm.append_right _ List.perm_append_comm)
            have live4 := Live.frG (fun _ m => m.toS) l2 live3
            have la : (frs pre).length = us.length := by rw [frs_len]; exact l1
            have lb : (frs post).length = ws.length := by rw [frs_len]; exact l2
            have live5 : Live Γ (nO H o) (nS H o s) H1 (((frs pre ++ di :: frs post).zip (us ++ v :: ws)) ++ slots ((fz bs ρ').set i none) σ) := live4.perm (by
              rw [zip_app la]
              show ((frs post).zip ws ++ ((frs pre).zip us ++ ((di, v) :: slots ((fz bs ρ').set i none) σ))).Perm (((frs pre).zip us ++ ((di, v) :: (frs post).zip ws)) ++ slots ((fz bs ρ').set i none) σ)
              have a1 : ((frs post).zip ws ++ ((frs pre).zip us ++ ((di, v) :: slots ((fz bs ρ').set i none) σ))).Perm ((frs pre).zip us ++ ((frs post).zip ws ++ ((di, v) :: slots ((fz bs ρ').set i none) σ))) := by
                rw [← List.append_assoc, ← List.append_assoc]
                exact List.Perm.append_right _ List.perm_append_comm
              refine a1.trans ?_
              rw [List.append_assoc]
              exact List.Perm.append_left _ List.perm_middle)
            obtain ⟨o1, s1, ow1, p1, p2⟩ := live5
            obtain ⟨oA, sA, owA, a1, a2, fr⟩ := ow1.frame
            have hl : (frs pre ++ di :: frs post).length = (us ++ v :: ws).length := by simp [la, lb]
            have hg : g (frs pre ++ di :: frs post) ≠ .no := by
              intro z
              rw [z] at h
              exact h
            have pk := pick_mid (v := v) (ws := ws) (show us.length = j by rw [← l1]; exact hj)
            refine ⟨by rw [← hl]; exact hn _ hg, _, oA, sA, hl, owA, ?_⟩
            have back : ∀ {u : D} {G : Grp} {H2 : Hp}, Keep H1 H2 oA → Live Γ (nO H1 oA) (nS H1 oA sA) H2 (G ++ [(u, v)]) → Live Γ (nO H o) (nS H o s) H2 (G ++ slots ((fz bs ρ').set i (some u)) σ) := fun {u G H2} k l => by
              have x1 := (fr H2 _ k l).comp P.kp p1 p2
              refine x1.perm ?_
              rw [List.append_assoc]
              refine List.Perm.append_left _ ?_
              exact (slots_in hil hs).symm
            have kk : ∀ {H2 : Hp}, Keep H1 H2 oA → Keep H H2 o := fun k => P.kp.trans (k.mono a1) p1
            have alc : ∀ u : D, Al σ ((fz bs ρ').set i (some u)) := fun u => by
              have x1 := (P.al.fz bs)
              refine ⟨by simp [x1.len], fun q d' eq => ?_⟩
              by_cases hq : i = q
              · subst hq
                exact ⟨v, hs⟩
              · rw [List.getElem?_set_ne hq] at eq
                exact x1.has q d' eq
            cases e2 : g (frs pre ++ di :: frs post) with
            | no => exact absurd e2 hg
            | ok d us' =>
              simp only [e2] at h
              intro z H2 lu lv k
              rw [pk] at lu lv
              match us', lu, h with
              | [u], _, h =>
                have lv' : Live Γ (nO H1 oA) (nS H1 oA sA) H2 ([(d, z)] ++ [(u, v)]) := lv
                have l2' := back k lv'
                exact h z H2 ⟨alc u, l2'.tail, l2', kk k, fun z => nomatch z⟩
            | ex x us' =>
              simp only [e2] at h
              intro cls dx H2 lu lv k er
              rw [pk] at lu lv
              match us', lu, h with
              | [u], _, h =>
                have lv' : Live Γ (nO H1 oA) (nS H1 oA sA) H2 ([] ++ [(u, v)]) := lv
                exact h cls dx H2 ⟨alc u, back k lv', kk k, er⟩
      · exact h.elim
theorem ed_callIo {g : List D → FR} {k j : Nat} {x : Str} {ps : List Str} {p pos : Pos} {e : Expr} {es : List Expr} {n : Nat} (F : FnK Γ X.prog X.w X.mg X.base k x ps (spF Γ [j] n g)) (hn : ∀ ds, g ds ≠ .no → ds.length = n) (hK : X.K = Γ.K) (hr : Room k X.A) (tk : Takes X W) (ha : PA X (e :: es) (tA Γ W δs))
    (hg : Gl X x := by rfl) (hdb : (x == ("__debug__" : Str)) = false := by decide) (he : starEach (e :: es) X.env = (false, eval e X.env) :: starEach es X.env := by rfl) (hpl : (backTo pos (starEach es X.env)).any (·.1) = false := by rfl) : PE X (.Call (.Name x p) (e :: es) [] pos) (tI Γ W (dCallIo j g δs)) := by
  obtain ⟨f, fd, F, hm, hk, hb⟩ := F.ex
  exact (pe_callS (E := WE W) (by rw [hK]; exact F) hr hg hm (by rw [hK]; exact hk) (by rw [hK]; exact hb) (fun σ => passAt tk σ) ha hdb he hpl).imp fun σ H Q q => callIo_ent hn q
end
end TB
end
section
set_option Elab.async false
set_option linter.all false
set_option maxRecDepth 100000
set_option maxHeartbeats 4000000
namespace TB
open PySem PySem.Spec L2
section
variable {Γ : Ctx} {P : Program} {w : World} {mg : Str → Option Value} {base : Heap} {PO PS : Addr → Prop} {H H' : Hp}
theorem slots_start : ∀ (ds : List D) (vs : List V) (n m : Nat), ds.length = vs.length → slots (ds.map some ++ List.replicate n none) (vs.map some ++ List.replicate m none) = ds.zip vs
  | [], [], n, m, _ => by
    have : ∀ (n m : Nat), slots (List.replicate n (none : Option D)) (List.replicate m (none : Option V)) = [] := by
      intro n
      induction n with
      | zero => intro m; cases m <;> rfl
      | succ n ih =>
        intro m
        cases m with
        | zero => rfl
        | succ m => rw [List.replicate_succ, List.replicate_succ]; exact ih m
    exact this n m
  | [], _ :: _, _, _, h => by simp at h
  | _ :: _, [], _, _, h => by simp at h
  | d :: ds, v :: vs, n, m, h => by
    show (d, v) :: slots (ds.map some ++ List.replicate n none) (vs.map some ++ List.replicate m none) = (d, v) :: ds.zip vs
    rw [slots_start ds vs n m (by simpa using h)]
theorem al_start {ds : List D} {vs : List V} {n : Nat} (h : ds.length = vs.length) (hn : vs.length ≤ n) : Al (vs.map some ++ List.replicate (n - vs.length) none) (ds.map some ++ List.replicate (n - ds.length) none) := by
  refine ⟨by simp [h], fun i d e => ?_⟩
  by_cases hi : i < ds.length
  · refine ⟨vs[i]'(by omega), ?_⟩
    rw [List.getElem?_append_left (by simpa using (by omega : i < vs.length)), List.getElem?_map, List.getElem?_eq_getElem (by omega)]
    rfl
  · rw [List.getElem?_append_right (by simpa using hi), List.getElem?_replicate] at e
    split at e <;> cases e
theorem outs_ok {io : List Nat} {ρ : VE} {σ : L2.St} {vs : List V} {us : List D} {T : Grp} (al : Al σ ρ) (hio : io = [] ∨ ∃ j, io = [j] ∧ j < vs.length) (e : outsOf ρ io = some us) (hs : ∀ i ∈ io, σ[i]? = (vs.map some)[i]?) (l : Live Γ PO PS H (T ++ slots ρ σ)) :
    us.length = (pick io vs).length ∧ Live Γ PO PS H (T ++ us.zip (pick io vs)) := by
  rcases hio with rfl | ⟨j, rfl, hj⟩
  · cases e
    refine ⟨rfl, ?_⟩
    have : T ++ ([] : List D).zip (pick [] vs) = T := by simp
    rw [this]
    exact l.leftp
  · cases e1 : ρ[j]? with
    | none => simp [outsOf, e1] at e
    | some x =>
      cases x with
      | none => simp [outsOf, e1] at e
      | some d =>
        simp [outsOf, e1] at e
        subst e
        have hv : σ[j]? = some (some vs[j]) := by rw [hs j (by simp), List.getElem?_map, List.getElem?_eq_getElem hj]; rfl
        have pk : pick [j] vs = [vs[j]] := by simp [pick, List.getElem?_eq_getElem hj]
        rw [pk]
        refine ⟨rfl, ?_⟩
        have l2 := l.perm ((slots_out e1 hv).append_left T)
        have l3 : Live Γ PO PS H ((T ++ [(d, vs[j])]) ++ slots (ρ.set j none) σ) := by simpa using l2
        exact l3.leftp
/-- a def of the text keeps its promise -/
theorem fn_ok {F : FnDef} {cf : CF} {x : Str} {params : Arguments} {body : List Stmt} {scope : Scope} {f : Addr} {fd : FuncData} {N ps : List Str} {k : Nat} (FD : FunD Γ.K x x params body scope [] [] f fd) (S : FnScope N ps scope) (hn : F.npar = ps.length) (hl : F.nloc = N.length)
    (hio : F.io = [] ∨ ∃ j, F.io = [j] ∧ j < F.npar)
    (drv : ∀ (cdv : Value) (A : Around) (outer : List Env) (s : Shared) (H : Hp) (E : XK), Room k (A.deeper (PyProof.Rows.envOfC x scope s.heap.objs.size f cdv)) →
      PSs (cxOf (L2.CX P w) P w Γ.K mg base N x scope f cdv A outer s H E) body (tS Γ (fun cls dx _ H => E cls dx H) F.io (F.body cf))) : FnOk P w Γ.K mg base (L2.CX P w) (k + 1) f fd ps (spF Γ F.io F.npar (runF F cf)) := by
  refine FD.ok S (fun vs H Q E h => by rw [h.1, hn]) fun cdv A outer s H vs Q E hr h => ⟨_, drv cdv A outer s H E hr, ?_⟩
  obtain ⟨hlen, ds, o, sh, hds, own, h⟩ := h
  have hpl : F.npar ≤ F.nloc := by
    rw [hn, hl]
    have := congrArg List.length S.pre
    rw [List.length_take] at this
    omega
  have hio' : F.io = [] ∨ ∃ j, F.io = [j] ∧ j < vs.length := by rw [hlen]; exact hio
  have al : Al (L2.start N vs) (startF F.nloc ds) := by
    unfold L2.start startF
    rw [hl]
    exact al_start hds (by omega)
  have hsl : slots (startF F.nloc ds) (L2.start N vs) = ds.zip vs := slots_start _ _ _ _ hds
  have hst : ∀ i ∈ F.io, (L2.start N vs)[i]? = (vs.map some)[i]? := fun i hi => by
    rcases hio' with e | ⟨j, e, hj⟩
    · rw [e] at hi; cases hi
    · rw [e] at hi
      have : i = j := by simpa using hi
      subst this
      unfold L2.start
      rw [List.getElem?_append_left (by simpa using hj)]
  refine ⟨startF F.nloc ds, o, sh, al, by rw [hsl]; exact own, ?_⟩
  unfold runF at h
  rw [if_pos (by rw [hds, hlen])] at h
  cases e : F.body cf (startF F.nloc ds) with
  | no => rw [e] at h; exact h
  | bk ρ => rw [e] at h; exact h.elim
  | ct ρ => rw [e] at h; exact h.elim
  | rt d ρ =>
    rw [e] at h
    intro v σ' H' P
    cases e1 : outsOf ρ F.io with
    | none => simp only [endF, e1] at h
    | some us =>
      simp only [endF, e1] at h
      obtain ⟨h1, h2⟩ := outs_ok (T := [(d, v)]) P.al hio' e1 (fun i hi => (P.io i hi).trans (hst i hi)) P.l2
      exact h v H' h1 h2 P.kp
  | nx ρ =>
    rw [e] at h
    intro σ' H' P
    cases e1 : outsOf ρ F.io with
    | none => simp only [endF, e1] at h
    | some us =>
      simp only [endF, e1] at h
      have l2 : Live Γ (nO H o) (nS H o sh) H' ((D.non, V.non) :: slots ρ σ') := P.l1.imm (d := .non) rfl ⟨rfl, rfl, rfl⟩
      obtain ⟨h1, h2⟩ := outs_ok (T := [(D.non, V.non)]) P.al hio' e1 (fun i hi => (P.io i hi).trans (hst i hi)) l2
      exact h .non H' h1 h2 P.kp
  | ex x ρ =>
    rw [e] at h
    intro cls dx σ' H' P
    cases e1 : outsOf ρ F.io with
    | none => simp only [endF, e1] at h
    | some us =>
      simp only [endF, e1] at h
      obtain ⟨h1, h2⟩ := outs_ok (T := []) P.al hio' e1 (fun i hi => (P.io i hi).trans (hst i hi)) P.l1
      exact h cls dx H' h1 h2 P.kp P.er
theorem runF_len {F : FnDef} {cf : CF} : ∀ ds, runF F cf ds ≠ .no → ds.length = F.npar := fun ds h => by
  unfold runF at h
  split at h
  · assumption
  · exact absurd rfl h
/-- the contract of a def, at level k -/
theorem fnK_ok {F : FnDef} {cf : CF} {x : Str} {ps : List Str} {k : Nat} {f : Addr} {fd : FuncData} (h : FnOk P w Γ.K mg base (L2.CX P w) k f fd ps (spF Γ F.io F.npar (runF F cf))) (hm : mg x = some (.ref f)) (hk : PySem.W.keepIn Γ.K (.ref f) = true) (hb : Binds Γ.K fd ps []) : FnK Γ P w mg base k x ps (spF Γ F.io F.npar (runF F cf)) := ⟨f, fd, h, hm, hk, hb⟩
/-- at no level at all nothing is promised -/
theorem fnK_zero {io : List Nat} {n : Nat} {x : Str} {ps : List Str} {f : Addr} {fd : FuncData} (hn : n = ps.length) (hm : mg x = some (.ref f)) (hk : PySem.W.keepIn Γ.K (.ref f) = true) (hb : Binds Γ.K fd ps []) : FnK Γ P w mg base 0 x ps (spF Γ io n fun _ => .no) :=
  ⟨f, fd, ⟨fun vs H Q E h => by rw [h.1, hn], fun A outer s H args us vs Q E _ _ _ _ h => by
    obtain ⟨_, ds, o, s, _, _, h⟩ := h
    exact h.elim⟩, hm, hk, hb⟩
end
end TB
end
section
set_option Elab.async false
set_option linter.all false
set_option maxRecDepth 100000
set_option maxHeartbeats 4000000
namespace TB
open PySem PySem.Spec L2
/-- a group, the address a kept apart -/
def LiveR (Γ : Ctx) (a : Addr) (PO PS : Addr → Prop) (H : Hp) (G : Grp) : Prop := ∃ o s, Own Γ H G o s ∧ a ∉ o ∧ a ∉ s ∧ (∀ x ∈ o, PO x) ∧ ∀ x ∈ s, PS x
section
variable {Γ : Ctx} {X : Cx} {W : WX} {io : List Nat} {H H1 H2 H' : Hp} {o s o1 s1 : List Addr} {ρ ρ' ρ1 : VE} {σ σ1 : L2.St} {v : V} {vs us : List V} {d : D} {ds : List D} {bs : List Nat} {pu : Bool} {as : List AR} {δ δa δb δc : Den} {δs : DenA} {Q : VK} {PO PS : Addr → Prop} {G G' : Grp} {a : Addr}
theorem LiveR.perm (h : LiveR Γ a PO PS H G) (p : G.Perm G') : LiveR Γ a PO PS H G' := by
  obtain ⟨o, s, h, n1, n2, p1, p2⟩ := h
  obtain ⟨o', s', h', a', b'⟩ := h.perm p
  exact ⟨o', s', h', fun m => n1 ((a' a).mp m), fun m => n2 ((b' a).mp m), fun x m => p1 x ((a' x).mp m), fun x m => p2 x ((b' x).mp m)⟩
theorem Live.openL (h : Live Γ PO PS H ((.lst true ds, v) :: G)) : ∃ a us, v = .ref a ∧ H a = some (.lst us) ∧ ds.length = us.length ∧ PO a ∧ LiveR Γ a PO PS H (ds.zip us ++ G) := by
  obtain ⟨o, s, h, p1, p2⟩ := h
  obtain ⟨oA, sA, o2, s2, hA, h2, rfl, rfl, n1, d1, d2, d3⟩ := h.cons
  obtain ⟨a, us, o', s', rfl, r, e, rfl, rfl⟩ := hA
  have hl := r.len
  have nd := List.nodup_cons.mp n1
  refine ⟨a, us, rfl, e, hl, p1 a (by simp), o' ++ o2, sA ++ s2, ⟨RepG.app ?_ h2.1, ?_, ?_⟩, ?_, ?_, ?_, ?_⟩
  · unfold RepG; rw [zip_fst hl, zip_snd hl]; exact r
  · exact List.nodup_append.mpr ⟨nd.2, h2.2.1, fun x m y n q => (d2 x (List.mem_cons_of_mem _ m)).1 (q ▸ n)⟩
  · intro x m n
    rcases List.mem_append.mp m with m | m <;> rcases List.mem_append.mp n with n | n
    · exact d1 x m (List.mem_cons_of_mem _ n)
    · exact d3 x m n
    · exact (d2 x (List.mem_cons_of_mem _ n)).2 m
    · exact h2.2.2 x m n
  · intro m
    rcases List.mem_append.mp m with m | m
    · exact nd.1 m
    · exact (d2 a (by simp)).1 m
  · intro m
    rcases List.mem_append.mp m with m | m
    · exact d1 a m (by simp)
    · exact (d2 a (by simp)).2 m
  · intro x m
    rcases List.mem_append.mp m with m | m
    · exact p1 x (List.mem_append_left _ (List.mem_cons_of_mem _ m))
    · exact p1 x (List.mem_append_right _ m)
  · exact p2
theorem Keep.upd {u : HO} : Keep H (upd H a u) [a] := fun b x e n => by rw [upd_ne (fun z => n (by simp [z]))]; exact e
theorem LiveR.close {es : List D} {ws : List V} (h : LiveR Γ a PO PS H (es.zip ws ++ G)) (hl : es.length = ws.length) (po : PO a) (m : Mut (H a)) : Live Γ PO PS (upd H a (.lst ws)) ((.lst true es, .ref a) :: G) := by
  obtain ⟨o, s, h, n1, n2, p1, p2⟩ := h
  have h' : Own Γ (upd H a (.lst ws)) (es.zip ws ++ G) o s := h.stay Keep.upd (fun b z => by simp at z; subst z; exact m) fun b z q => by
    simp at q; subst q
    rcases z with z | z
    · exact n1 z
    · exact n2 z
  obtain ⟨oA, sA, oB, sB, hA, hB, rfl, rfl⟩ := id h'.left
  have rA : Reps Γ (upd H a (.lst ws)) es ws oA sA := by
    have := hA.1
    unfold RepG at this
    rwa [zip_fst hl, zip_snd hl] at this
  have nd := List.nodup_append.mp h'.2.1
  refine ⟨(a :: oA) ++ oB, sA ++ sB, Own.mkc ⟨a, ws, oA, sA, rfl, rA, upd_same, rfl, rfl⟩ hB (List.nodup_cons.mpr ⟨fun z => n1 (List.mem_append_left _ z), nd.1⟩) (fun x z q => ?_) (fun x z => ⟨fun q => ?_, fun q => ?_⟩) (fun x z q => ?_), fun x z => ?_, p2⟩
  · rcases List.mem_cons.mp q with q | q
    · subst q; exact n2 (List.mem_append_left _ z)
    · exact h'.2.2 x (List.mem_append_left _ z) (List.mem_append_left _ q)
  · rcases List.mem_cons.mp z with z | z
    · subst z; exact n1 (List.mem_append_right _ q)
    · exact nd.2.2 x z x q rfl
  · rcases List.mem_cons.mp z with z | z
    · subst z; exact n2 (List.mem_append_right _ q)
    · exact h'.2.2 x (List.mem_append_right _ q) (List.mem_append_left _ z)
  · exact h'.2.2 x (List.mem_append_left _ z) (List.mem_append_right _ q)
  · rcases List.mem_append.mp z with z | z
    · rcases List.mem_cons.mp z with z | z
      · subst z; exact po
      · exact p1 x (List.mem_append_left _ z)
    · exact p1 x (List.mem_append_right _ z)
theorem mut_lst (h : H a = some (.lst us)) : Mut (H a) := by rw [h]; trivial
theorem nO_keep {u : HO} (h : nO H o a) (hs : H a ≠ none) : Keep H (upd H a u) o := Keep.upd.mono fun b m => by
  simp at m; subst m
  rcases h with h | h
  · exact h
  · exact absurd h hs
/-- a list at a name, changed -/
theorem Live.chg {i : Nat} {T : Grp} {x : V} (al : Al σ ρ) (e : ρ[i]? = some (some (.lst true ds))) (hx : σ[i]? = some (some x)) (h : Live Γ PO PS H (T ++ slots ρ σ)) : ∃ a us, x = .ref a ∧ H a = some (.lst us) ∧ ds.length = us.length ∧ PO a ∧ LiveR Γ a PO PS H (ds.zip us ++ (T ++ slots (ρ.set i none) σ)) ∧
    ∀ (es : List D) (ws : List V) (T' : Grp), es.length = ws.length → LiveR Γ a PO PS H (es.zip ws ++ (T' ++ slots (ρ.set i none) σ)) → Live Γ PO PS (upd H a (.lst ws)) (T' ++ slots (ρ.set i (some (.lst true es))) σ) := by
  have so := slots_out e hx
  have h1 : Live Γ PO PS H ((.lst true ds, x) :: (T ++ slots (ρ.set i none) σ)) := h.perm ((so.append_left T).trans List.perm_middle)
  obtain ⟨a, us, rfl, e1, hl, po, lr⟩ := h1.openL
  refine ⟨a, us, rfl, e1, hl, po, lr, fun es ws T' hl' lr' => ?_⟩
  have h2 := lr'.close hl' po (mut_lst e1)
  have hi : i < ρ.length := by
    rcases Nat.lt_or_ge i ρ.length with z | z
    · exact z
    · rw [List.getElem?_eq_none z] at e; cases e
  exact h2.perm ((List.perm_middle.symm.trans ((slots_in hi hx).symm.append_left T')))
theorem al_setd {i : Nat} {x : V} (al : Al σ ρ) (hx : σ[i]? = some (some x)) : Al σ (ρ.set i (some d)) := ⟨by simp [al.len], fun q d' eq => by
  by_cases hq : i = q
  · subst hq; exact ⟨x, hx⟩
  · rw [List.getElem?_set_ne hq] at eq
    exact al.has q d' eq⟩

/-! ### x.append(e), x.pop(), x.reverse(), x[k] = e -/
def isLst : Option (Option D) → Bool
  | some (some (.lst _ _)) => true
  | _ => false
def dAppend (i : Nat) (δ : Den) : Den := fun ρ => if isLst ρ[i]? then (match δ ρ with
  | .ok d b _ ρ1 => (match (fz b ρ1)[i]? with
    | some (some (.lst true ds)) => if ds.length < 16777216 then .ok .non [] false ((fz b ρ1).set i (some (.lst true (ds ++ [d])))) else .no
    | _ => .no)
  | .ex e ρ1 => .ex e ρ1
  | .no => .no) else .no
theorem isLst_ty {i : Nat} (al : Al σ ρ) (ow : Own Γ H (slots ρ σ) o s) (e : isLst ρ[i]? = true) : ∃ x, σ[i]? = some (some x) ∧ tyV Γ.K "list" x H := by
  cases e1 : ρ[i]? with
  | none => rw [e1] at e; cases e
  | some y =>
    cases y with
    | none => rw [e1] at e; cases e
    | some d =>
      rw [e1] at e
      cases d <;> first | (cases e; done) | skip
      obtain ⟨x, hx, l⟩ := ow.live.at al e1
      obtain ⟨_, _, r⟩ := l.rep
      obtain ⟨a, vs, o', s', rfl, r1, n⟩ := r
      exact ⟨_, hx, .inl ⟨rfl, vs, .of n.it⟩⟩
theorem append_ent {i : Nat} (h : tI Γ W (dAppend i δ) σ H Q) : tVar i σ H fun x H1 => tyV Γ.K "list" x H1 ∧ tI Γ W δ σ H1 fun y H2 => rAppend x [y] H2 Q := by
  obtain ⟨ρ, o, s, al, ow, h⟩ := h
  unfold dAppend at h
  split at h
  · rename_i hi
    obtain ⟨x, hx, ty⟩ := isLst_ty al ow hi
    refine ⟨x, hx, ty, ρ, o, s, al, ow, ?_⟩
    cases e : δ ρ with
    | no => simp only [e] at h; exact h
    | ex z ρ1 => simp only [e] at h; exact h
    | ok d b p ρ1 =>
      simp only [e] at h
      cases e1 : (fz b ρ1)[i]? with
      | none => simp only [e1] at h; exact h.elim
      | some y =>
        cases y with
        | none => simp only [e1] at h; exact h.elim
        | some d1 =>
          cases d1 with
          | lst w ds =>
            cases w with
            | false => simp only [e1] at h; exact h.elim
            | true =>
              simp only [e1] at h
              split at h
              · rename_i hz
                intro v H1 P
                obtain ⟨a, us, rfl, ea, hl, po, lr, back⟩ := Live.chg (T := [(d, v)]) (P.al.fz b) e1 hx P.l2
                have lr2 : LiveR Γ a (nO H o) (nS H o s) H1 ((ds ++ [d]).zip (us ++ [v]) ++ ([] ++ slots ((fz b ρ1).set i none) σ)) := lr.perm (by
                  rw [zip_app hl]
                  simp)
                have l := back (ds ++ [d]) (us ++ [v]) [] (by simp [hl]) lr2
                refine ⟨a, us, v, rfl, rfl, ea, by rw [← hl, sizeL]; exact hz, ?_⟩
                have k : Keep H (upd H1 a (.lst (us ++ [v]))) o := fun b' x' e' n => by
                  have ne : b' ≠ a := fun z => by
                    subst z
                    rcases po with po | po
                    · exact n po
                    · rw [e'] at po; cases po
                  rw [upd_ne ne]
                  exact P.kp _ _ e' n
                exact h .non _ ⟨al_setd (P.al.fz b) hx, l, l.imm (d := .non) rfl ⟨rfl, rfl, rfl⟩, k, fun z => nomatch z⟩
              · exact h.elim
          | _ => simp only [e1] at h; exact h.elim
  · exact h.elim
theorem ed_append {i : Nat} {x : Str} {p apos pos : Pos} {e : Expr} (hK : X.K = Γ.K) (he : PE X e (tI Γ W δ)) (hN : X.N[i]? = some x := by rfl) (hv : Vis X.env.scope x := by first | exact Or.inl rfl | exact Or.inr (Or.inl rfl) | exact Or.inr (Or.inr rfl)) (hd : (x == ("__debug__" : Str)) = false := by decide)
    (hcd : (x == ("__classdict__" : Str)) = false := by decide) (hbase : attributeBase (.Name x p) "append" X.env (eval (.Name x p) X.env) = eval (.Name x p) X.env := by rfl)
    (hfew : ((backTo pos (starEach [e] X.env)).all (fun x => !x.1) && (backToKw pos (keywordEach [] X.env)).all (fun x => x.1.isSome)
      && decide ([e].length + ([] : List Keyword).length + (if ([] : List Keyword).isEmpty then 0 else 1) < 30)) = true := by rfl)
    (hline : (apos.endLine == pos.line) = true := by rfl) (hs : starEach [e] X.env = [(false, eval e X.env)] := by rfl) :
    PE X (.Call (.Attribute (.Name x p) "append" apos) [e] [] pos) (tI Γ W (dAppend i δ)) :=
  (pe_bm PySem.F.plainAttrs_list PySem.F.slot_list_append PySem.F.type_list_append mt_append (pe_var hN hv hd hcd) (pa_cons he pa_nil hs) hbase hfew hline hs rfl).imp fun σ H Q q => by
    obtain ⟨x, hx, ty, q⟩ := append_ent q
    exact ⟨x, hx, hK ▸ ty, q⟩
def dPop (i : Nat) : Den := fun ρ => match ρ[i]? with
  | some (some (.lst true ds)) => (match ds.getLast? with
    | some d => .ok d [] false (ρ.set i (some (.lst true ds.dropLast)))
    | none => .no)
  | _ => .no
theorem pop_ent {i : Nat} (h : tI Γ W (dPop i) σ H Q) : tVar i σ H fun x H1 => tyV Γ.K "list" x H1 ∧ rPop x [] H1 Q := by
  obtain ⟨ρ, o, s, al, ow, h⟩ := h
  unfold dPop at h
  cases e1 : ρ[i]? with
  | none => simp only [e1] at h; exact h.elim
  | some y =>
    cases y with
    | none => simp only [e1] at h; exact h.elim
    | some d1 =>
      cases d1 with
      | lst w ds =>
        cases w with
        | false => simp only [e1] at h; exact h.elim
        | true =>
          simp only [e1] at h
          cases e2 : ds.getLast? with
          | none => simp only [e2] at h; exact h.elim
          | some d =>
            simp only [e2] at h
            obtain ⟨x, hx, ty⟩ := isLst_ty al ow (by rw [e1]; rfl)
            refine ⟨x, hx, ty, ?_⟩
            obtain ⟨a, us, rfl, ea, hl, po, lr, back⟩ := Live.chg (T := []) al e1 hx ow.live
            have hne : ds ≠ [] := fun z => by rw [z] at e2; cases e2
            have hne' : us ≠ [] := fun z => hne (List.length_eq_zero_iff.mp (by rw [hl, z]; rfl))
            obtain ⟨ds', rfl⟩ : ∃ ds', ds = ds' ++ [d] := ⟨ds.dropLast, by
              have := List.dropLast_concat_getLast hne
              rw [List.getLast?_eq_some_getLast hne] at e2
              rw [← Option.some.inj e2]
              exact this.symm⟩
            obtain ⟨us', y, rfl⟩ : ∃ us' y, us = us' ++ [y] := ⟨us.dropLast, us.getLast hne', (List.dropLast_concat_getLast hne').symm⟩
            have hl' : ds'.length = us'.length := by simpa using hl
            rw [List.dropLast_concat] at h
            have lr2 : LiveR Γ a (nO H o) (nS H o s) H (ds'.zip us' ++ ([(d, y)] ++ slots (ρ.set i none) σ)) := lr.perm (by
              rw [zip_app hl']
              simp)
            have l := back _ _ [(d, y)] hl' lr2
            refine ⟨a, us' ++ [y], y, rfl, rfl, ea, by simp, ?_⟩
            rw [List.dropLast_concat]
            exact h _ _ ⟨al_setd al hx, l.tail, l, nO_keep po (by rw [ea]; simp), fun z => nomatch z⟩
      | _ => simp only [e1] at h; exact h.elim
theorem ed_pop {i : Nat} {x : Str} {p apos pos : Pos} (hK : X.K = Γ.K) (hN : X.N[i]? = some x := by rfl) (hv : Vis X.env.scope x := by first | exact Or.inl rfl | exact Or.inr (Or.inl rfl) | exact Or.inr (Or.inr rfl)) (hd : (x == ("__debug__" : Str)) = false := by decide)
    (hcd : (x == ("__classdict__" : Str)) = false := by decide) (hbase : attributeBase (.Name x p) "pop" X.env (eval (.Name x p) X.env) = eval (.Name x p) X.env := by rfl) (hline : (apos.endLine == pos.line) = true := by rfl) :
    PE X (.Call (.Attribute (.Name x p) "pop" apos) [] [] pos) (tI Γ W (dPop i)) :=
  (pe_bm0 PySem.F.plainAttrs_list PySem.F.slot_list_pop PySem.F.type_list_pop mt_pop (pe_var hN hv hd hcd) hbase hline).imp fun σ H Q q => by
    obtain ⟨x, hx, ty, q⟩ := pop_ent q
    exact ⟨x, hx, hK ▸ ty, q⟩
def dReverse (i : Nat) : Den := fun ρ => match ρ[i]? with
  | some (some (.lst true ds)) => .ok .non [] false (ρ.set i (some (.lst true ds.reverse)))
  | _ => .no
theorem zip_rev {ds : List D} {us : List V} (h : ds.length = us.length) : (ds.zip us).Perm (ds.reverse.zip us.reverse) := by
  induction ds generalizing us with
  | nil => simp
  | cons d ds ih =>
    cases us with
    | nil => simp at h
    | cons u us =>
      have h' : ds.length = us.length := by simpa using h
      rw [List.reverse_cons, List.reverse_cons, zip_app (by simpa using h')]
      show ((d, u) :: ds.zip us).Perm _
      exact ((ih h').cons _).trans (List.perm_append_comm (l₁ := [(d, u)]))
theorem reverse_ent {i : Nat} (h : tI Γ W (dReverse i) σ H Q) : tVar i σ H fun x H1 => tyV Γ.K "list" x H1 ∧ rReverse x [] H1 Q := by
  obtain ⟨ρ, o, s, al, ow, h⟩ := h
  unfold dReverse at h
  cases e1 : ρ[i]? with
  | none => simp only [e1] at h; exact h.elim
  | some y =>
    cases y with
    | none => simp only [e1] at h; exact h.elim
    | some d1 =>
      cases d1 with
      | lst w ds =>
        cases w with
        | false => simp only [e1] at h; exact h.elim
        | true =>
          simp only [e1] at h
          obtain ⟨x, hx, ty⟩ := isLst_ty al ow (by rw [e1]; rfl)
          refine ⟨x, hx, ty, ?_⟩
          obtain ⟨a, us, rfl, ea, hl, po, lr, back⟩ := Live.chg (T := []) al e1 hx ow.live
          have l := back ds.reverse us.reverse [] (by simp [hl]) (lr.perm (List.Perm.append_right _ (zip_rev hl)))
          exact ⟨a, us, rfl, rfl, ea, h _ _ ⟨al_setd al hx, l, l.imm (d := .non) rfl ⟨rfl, rfl, rfl⟩, nO_keep po (by rw [ea]; simp), fun z => nomatch z⟩⟩
      | _ => simp only [e1] at h; exact h.elim
theorem ed_reverse {i : Nat} {x : Str} {p apos pos : Pos} (hK : X.K = Γ.K) (hN : X.N[i]? = some x := by rfl) (hv : Vis X.env.scope x := by first | exact Or.inl rfl | exact Or.inr (Or.inl rfl) | exact Or.inr (Or.inr rfl)) (hd : (x == ("__debug__" : Str)) = false := by decide)
    (hcd : (x == ("__classdict__" : Str)) = false := by decide) (hbase : attributeBase (.Name x p) "reverse" X.env (eval (.Name x p) X.env) = eval (.Name x p) X.env := by rfl) (hline : (apos.endLine == pos.line) = true := by rfl) :
    PE X (.Call (.Attribute (.Name x p) "reverse" apos) [] [] pos) (tI Γ W (dReverse i)) :=
  (pe_bm0 PySem.F.plainAttrs_list PySem.F.slot_list_reverse PySem.F.type_list_reverse mt_reverse (pe_var hN hv hd hcd) hbase hline).imp fun σ H Q q => by
    obtain ⟨x, hx, ty, q⟩ := reverse_ent q
    exact ⟨x, hx, hK ▸ ty, q⟩
/-- x[k] = e -/
def dSetIx (i : Nat) (δv δk : Den) : DenS := fun ρ => match δv ρ with
  | .ok d b _ ρ1 => if ((fz b ρ1)[i]?.getD none).isSome then (match δk (fz b ρ1) with
    | .ok (.int k) _ _ ρ2 => (match ρ2[i]? with
      | some (some (.lst true ds)) => (match ixN ds.length k with
        | some j => .nx (ρ2.set i (some (.lst true (ds.set j d))))
        | none => .no)
      | _ => .no)
    | .ex e ρ2 => .ex e ρ2
    | _ => .no) else .no
  | .ex e ρ1 => .ex e ρ1
  | .no => .no
theorem zip_set {ds : List D} {us : List V} {j : Nat} (hj : j < ds.length) (hl : ds.length = us.length) (d : D) (v : V) : ∃ x : D × V, ((d, v) :: ds.zip us).Perm (x :: (ds.set j d).zip (us.set j v)) := by
  induction ds generalizing us j with
  | nil => simp at hj
  | cons e ds ih =>
    cases us with
    | nil => simp at hl
    | cons u us =>
      cases j with
      | zero => exact ⟨(e, u), .swap _ _ _⟩
      | succ j =>
        obtain ⟨x, p⟩ := ih (us := us) (j := j) (by simpa using hj) (by simpa using hl)
        exact ⟨x, (List.Perm.swap (e, u) (d, v) (ds.zip us)).trans ((p.cons _).trans (.swap _ _ _))⟩
theorem LiveR.tail {x : D × V} (h : LiveR Γ a PO PS H (x :: G)) : LiveR Γ a PO PS H G := by
  obtain ⟨o, s, h, n1, n2, p1, p2⟩ := h
  obtain ⟨d, v⟩ := x
  obtain ⟨o1, s1, o2, s2, _, h2, rfl, rfl, _⟩ := h.cons
  exact ⟨o2, s2, h2, fun m => n1 (List.mem_append_right _ m), fun m => n2 (List.mem_append_right _ m), fun x m => p1 x (List.mem_append_right _ m), fun x m => p2 x (List.mem_append_right _ m)⟩
theorem setIx_ent {i : Nat} {δv δk : Den} {Z : Ends} (h : tS Γ W io (dSetIx i δv δk) Z σ H) : tAsg (tI Γ W δv) (L2.gSub (tVar i) (tI Γ W δk) rSetL) Z σ H := by
  obtain ⟨ρ, o, s, al, ow, h⟩ := h
  refine ⟨ρ, o, s, al, ow, ?_⟩
  unfold dSetIx at h
  cases e : δv ρ with
  | no => simp only [e] at h; exact h
  | ex z ρ1 => simp only [e] at h; exact fun cls dx H1 P => h cls dx σ H1 P.toS
  | ok d b p ρ1 =>
    simp only [e] at h
    split at h
    · rename_i hi
      intro v H1 P
      obtain ⟨oA, sA, owA, back⟩ := Live.next (T := [(d, v)]) P.l2 P.kp
      cases e0 : (fz b ρ1)[i]? with
      | none => rw [e0] at hi; cases hi
      | some y =>
        cases y with
        | none => rw [e0] at hi; cases hi
        | some d0 =>
          obtain ⟨x, hx⟩ := (P.al.fz b).has i d0 e0
          refine ⟨x, hx, fz b ρ1, oA, sA, P.al.fz b, owA, ?_⟩
          cases e2 : δk (fz b ρ1) with
          | no => simp only [e2] at h; exact h
          | ex z ρ2 =>
            simp only [e2] at h
            intro cls dx H2 PX
            exact h cls dx σ H2 (PostX.toS (PX.back fun H2 k => ⟨(back H2 k).1, fun A' l => ((back H2 k).2 A' l).2⟩))
          | ok dk b2 p2 ρ2 =>
            cases dk with
            | int k =>
              simp only [e2] at h
              cases e3 : ρ2[i]? with
              | none => simp only [e3] at h; exact h.elim
              | some y =>
                cases y with
                | none => simp only [e3] at h; exact h.elim
                | some d1 =>
                  cases d1 with
                  | lst w ds =>
                    cases w with
                    | false => simp only [e3] at h; exact h.elim
                    | true =>
                      simp only [e3] at h
                      cases e4 : ixN ds.length k with
                      | none => simp only [e4] at h; exact h.elim
                      | some j =>
                        simp only [e4] at h
                        intro z H2 P2
                        obtain ⟨_, _, rz⟩ := P2.l2.rep
                        obtain ⟨rfl, _⟩ := id rz
                        obtain ⟨k2, back2⟩ := back H2 P2.kp
                        have l1 := (back2 _ P2.l1).1
                        obtain ⟨a, us, rfl, ea, hl, po, lr, close⟩ := Live.chg (T := [(d, v)]) P2.al e3 hx l1
                        have hj : j < ds.length := (ixN_seq e4).2.1
                        obtain ⟨x', pp⟩ := zip_set hj hl d v
                        have lr2 : LiveR Γ a (nO H o) (nS H o s) H2 (x' :: ((ds.set j d).zip (us.set j v) ++ ([] ++ slots (ρ2.set i none) σ))) := lr.perm (by
                          have q1 : (ds.zip us ++ ([(d, v)] ++ slots (ρ2.set i none) σ)).Perm (((d, v) :: ds.zip us) ++ slots (ρ2.set i none) σ) := by
                            rw [← List.append_assoc]
                            exact List.Perm.append_right _ List.perm_append_comm
                          exact q1.trans (pp.append_right _))
                        have l := close _ _ [] (by simp [hl]) lr2.tail
                        refine ⟨a, us, k, j, rfl, rfl, ea, by rw [← hl]; exact e4, ?_⟩
                        have kk : Keep H (upd H2 a (.lst (us.set j v))) o := fun b' x' e' n => by
                          have ne : b' ≠ a := fun z => by
                            subst z
                            rcases po with po | po
                            · exact n po
                            · rw [e'] at po; cases po
                          rw [upd_ne ne]
                          exact k2 _ _ e' n
                        exact h _ _ ⟨al_setd P2.al hx, l, kk, fun _ _ => rfl⟩
                  | _ => simp only [e3] at h; exact h.elim
            | _ => simp only [e2] at h; exact h.elim
    · exact h.elim
theorem es_setIx {i : Nat} {x : Str} {p p2 pos : Pos} {k e : Expr} {δv δk : Den} (he : PE X e (tI Γ W δv)) (hk : PE X k (tI Γ W δk)) (hN : X.N[i]? = some x := by rfl) (hv : Vis X.env.scope x := by first | exact Or.inl rfl | exact Or.inr (Or.inl rfl) | exact Or.inr (Or.inr rfl)) (hd : (x == ("__debug__" : Str)) = false := by decide)
    (hcd : (x == ("__classdict__" : Str)) = false := by decide)
    (ha : ∀ v, assign (.Subscript (.Name x p) k p2) X.env v = (do
      let ov ← holding [v] (eval (.Name x p) X.env)
      let iv ← holding [v, ov] (eval k X.env)
      standAt p2
      holding [v, ov, iv] (setItem ov iv v)
      release [v, ov, iv] []) := by intro _; rfl) (hs : swapsWithSole [.Subscript (.Name x p) k p2] e pos.line X.env = pure false := by rfl) (hw : swappedStores [.Subscript (.Name x p) k p2] e X.env = pure none := by rfl)
    (h1 : (assignEach [.Subscript (.Name x p) k p2] X.env).map (·.2) = [assign (.Subscript (.Name x p) k p2) X.env] := by rfl) : L2.PS X (.Assign [.Subscript (.Name x p) k p2] e pos) (tS Γ W io (dSetIx i δv δk)) :=
  (ps_asg he (pg_sub (pe_var hN hv hd hcd) hk set_list ha) hs hw h1).imp fun D σ H q => setIx_ent q
end
end TB
end
section
set_option Elab.async false
set_option linter.all false
set_option maxRecDepth 100000
set_option maxHeartbeats 4000000
namespace TB
open PySem PySem.Spec L2
/-! ### what is walked -/
/-- items: what comes, one by one; hold: what must stand meanwhile -/
inductive RI where
  | ok (items hold : List D) (bs : List Nat) (pu : Bool) (ρ : VE)
  | ex (e : Exn) (ρ : VE)
  | no
abbrev DenI := VE → RI
def ItOk (Γ : Ctx) (J : It) (items : List D) (hold : Grp) : Prop := ∀ (H : Hp) (oh sh : List Addr), RepG Γ H hold oh sh →
  (∀ i, items.length ≤ i → J.stop i H) ∧ ∀ (i : Nat) (d : D), items[i]? = some d → J.go i H ∧ ∀ x H', J.yld i H x H' → Keep H H' [] ∧ ∃ sx, Rep Γ H' d x [] sx ∧ ∀ a ∈ sx, a ∈ sh
structure PostI (Γ : Ctx) (H : Hp) (o s : List Addr) (ρ : VE) (σ : L2.St) (items hold : List D) (bs : List Nat) (pu : Bool) (ρ' : VE) (hvs : List V) (J : It) (H' : Hp) : Prop where
  al : Al σ ρ'
  hl : hold.length = hvs.length
  l1 : Live Γ (nO H o) (nS H o s) H' (slots ρ' σ)
  l2 : Live Γ (nO H o) (nS H o s) H' (hold.zip hvs ++ slots (fz bs ρ') σ)
  kp : Keep H H' o
  pu : pu = true → ρ' = ρ ∧ Keep H H' []
  it : ItOk Γ J items (hold.zip hvs)
def DoneI (Γ : Ctx) (W : WX) (H : Hp) (o s : List Addr) (ρ : VE) (σ : L2.St) (R : It → Hp → Prop) : RI → Prop
  | .ok items hold bs pu ρ' => ∀ hvs J H', PostI Γ H o s ρ σ items hold bs pu ρ' hvs J H' → R J H'
  | .ex e ρ' => ∀ cls dx H', PostX Γ H o s σ e ρ' cls dx H' → W cls dx σ H'
  | .no => False
def tIt (Γ : Ctx) (W : WX) (δ : DenI) : TI := fun σ H R => ∃ ρ o s, Al σ ρ ∧ Own Γ H (slots ρ σ) o s ∧ DoneI Γ W H o s ρ σ R (δ ρ)
/-- from values: the items, and what must stand -/
def itR (f : List D → Option (List D × List D)) : RA → RI
  | .ok as bs pu ρ => (match vals as with
    | some ds => (match f ds with
      | some (items, hold) => .ok items hold bs pu ρ
      | none => .no)
    | none => .no)
  | .ex e ρ => .ex e ρ
  | .no => .no
def dIt (f : List D → Option (List D × List D)) (δs : DenA) : DenI := fun ρ => itR f (δs ρ)
/-- what an iterable's rule asks -/
def ItS (Γ : Ctx) (r : List V → Hp → (It → Hp → Prop) → Prop) (f : List D → Option (List D × List D)) : Prop :=
  ∀ (ds : List D) (vs : List V) (H : Hp) (o s : List Addr) (items hold : List D) (R : It → Hp → Prop), Reps Γ H ds vs o s → f ds = some (items, hold) →
    (∀ J hvs sh, hold.length = hvs.length → Reps Γ H hold hvs [] sh → (∀ a ∈ sh, a ∈ o ∨ a ∈ s) → ItOk Γ J items (hold.zip hvs) → R J H) → r vs H R

section
variable {Γ : Ctx} {X : Cx} {W : WX} {io : List Nat} {H H1 H2 H' : Hp} {o s o1 s1 : List Addr} {ρ ρ' ρ1 : VE} {σ σ1 : L2.St} {v : V} {vs us : List V} {d : D} {ds : List D} {bs : List Nat} {pu : Bool} {as : List AR} {δ δa δb δc : Den} {δs : DenA} {δi : DenI}
  {r : List V → Hp → (It → Hp → Prop) → Prop} {f : List D → Option (List D × List D)} {R : It → Hp → Prop}
theorem it_ent (S : ItS Γ r f) (h : tIt Γ W (dIt f δs) σ H R) : tA Γ W δs σ H (fun vs H1 => r vs H1 R) := by
  obtain ⟨ρ, o, s, al, ow, h⟩ := h
  refine ⟨ρ, o, s, al, ow, ?_⟩
  unfold dIt itR at h
  cases e : δs ρ with
  | no => rw [e] at h; exact h
  | ex x ρ1 => rw [e] at h; exact h
  | ok as bs pu ρ' =>
    rw [e] at h
    cases e1 : vals as with
    | none => simp only [e1] at h; exact h.elim
    | some ds =>
      simp only [e1] at h
      cases e2 : f ds with
      | none => simp only [e2] at h; exact h.elim
      | some t =>
        obtain ⟨items, hold⟩ := t
        simp only [e2] at h
        intro vs H1 P
        obtain ⟨hl, ht⟩ := vals_tmps e1 P.ar
        obtain ⟨o1, s1, ow, p1, p2⟩ := P.l2
        rw [ht] at ow
        obtain ⟨oa, sa, ob, sb, owA, owB, rfl, rfl⟩ := id ow.left
        have ra : Reps Γ H1 ds vs oa sa := by
          have := owA.1
          unfold RepG at this
          rwa [zip_fst hl, zip_snd hl] at this
        refine S ds vs H1 oa sa items hold R ra e2 fun J hvs sh hl2 rh m it => h hvs J H1 ⟨P.al, hl2, P.l1, ?_, P.kp, P.pu, it⟩
        have nd := List.nodup_append.mp ow.2.1
        refine ⟨[] ++ ob, sh ++ sb, ⟨RepG.app (by unfold RepG; rw [zip_fst hl2, zip_snd hl2]; exact rh) owB.1, by simpa using owB.2.1, fun a z n => ?_⟩, fun a z => p1 a (List.mem_append_right _ (by simpa using z)), fun a z => ?_⟩
        · have n : a ∈ ob := by simpa using n
          rcases List.mem_append.mp z with z | z
          · rcases m a z with z | z
            · exact nd.2.2 a z a n rfl
            · exact ow.2.2 a (List.mem_append_left _ z) (List.mem_append_right _ n)
          · exact owB.2.2 a z n
        · rcases List.mem_append.mp z with z | z
          · rcases m a z with z | z
            · exact (p1 a (List.mem_append_left _ z)).toS
            · exact p2 a (List.mem_append_left _ z)
          · exact p2 a (List.mem_append_right _ z)
theorem _root_.L2.PI.imp {X : Cx} {tg e : Expr} {t t' : TI} (h : PI X tg e t) (i : ∀ σ H R, t' σ H R → t σ H R) : PI X tg e t' := ⟨fun pins s σ H R I q => h.run pins s σ H R I (i σ H R q)⟩
/-! #### lists, tuples -/
def itL : List D → Option (List D × List D)
  | [.lst _ xs] => some (frs xs, [.lst false (frs xs)])
  | [.lk xs] => some (frs xs, [.lk (frs xs)])
  | _ => none
def itT : List D → Option (List D × List D)
  | [.tup xs] => some (frs xs, [.tup (frs xs)])
  | _ => none
theorem sqL_inj {H : Hp} {a : Addr} {us : List V} (h : H a = some (.lst us)) : Rd H a (.lst us) := .inl h
theorem RepG.one {H : Hp} {oh sh : List Addr} (h : RepG Γ H [(d, v)] oh sh) : Rep Γ H d v oh sh := by
  obtain ⟨o1, s1, o2, s2, h1, ⟨_, rfl, rfl⟩, rfl, rfl⟩ := RepG.cons h
  simpa using h1
theorem frs_get {xs : List D} {i : Nat} (h : (frs xs)[i]? = some d) : fr d = d → True := fun _ => trivial
mutual
theorem fr_fr : ∀ d : D, fr (fr d) = fr d
  | .lst _ xs => congrArg (D.lst false) (frs_frs xs)
  | .tup xs => congrArg D.tup (frs_frs xs)
  | .lk xs => congrArg D.lk (frs_frs xs)
  | .dK _ ks xs => congrArg (D.dK false ks) (frs_frs xs)
  | .dT _ ks xs => congrArg (D.dT false ks) (frs_frs xs)
  | .obj _ c fs xs => congrArg (D.obj false c fs) (frs_frs xs)
  | .non => rfl
  | .bl _ => rfl
  | .int _ => rfl
  | .str _ => rfl
theorem frs_frs : ∀ xs : List D, frs (frs xs) = frs xs
  | [] => rfl
  | x :: xs => by show fr (fr x) :: frs (frs xs) = fr x :: frs xs; rw [fr_fr x, frs_frs xs]
end
theorem Reps.own0 {P : D → Prop} (k : ∀ d v o s, P d → Rep Γ H (fr d) v o s → o = []) : ∀ {ds : List D} {vs : List V} {o s : List Addr}, (∀ d ∈ ds, P d) → Reps Γ H (frs ds) vs o s → o = []
  | [], _, _, _, _, h => h.2.1
  | d :: ds, _, _, _, p, h => by
    obtain ⟨v, vs', o1, s1, o2, s2, rfl, h1, h2, rfl, rfl⟩ := h
    obtain rfl := k _ _ _ _ (p d (by simp)) h1
    obtain rfl := Reps.own0 k (fun d m => p d (List.mem_cons_of_mem _ m)) h2
    rfl
abbrev OwnP (Γ : Ctx) (H : Hp) (d : D) : Prop := ∀ v o s, Rep Γ H (fr d) v o s → o = []
theorem Rep.own_nil : ∀ d : D, OwnP Γ H d := by
  intro d
  induction d using D.ind with
  | non => rintro v o s ⟨_, rfl, _⟩; rfl
  | bl b => rintro v o s ⟨_, rfl, _⟩; rfl
  | int i => rintro v o s ⟨_, rfl, _⟩; rfl
  | str x => rintro v o s ⟨_, rfl, _⟩; rfl
  | lst w xs ih =>
    rintro v o s ⟨a, vs, o', s', rfl, r, _, rfl, rfl⟩
    exact Reps.own0 (P := OwnP Γ H) (fun d v o s p => p v o s) ih r
  | tup xs ih =>
    rintro v o s ⟨a, vs, rfl, r, n⟩
    exact Reps.own0 (P := OwnP Γ H) (fun d v o s p => p v o s) ih r
  | lk xs ih =>
    rintro v o s ⟨a, vs, rfl, r, n⟩
    exact Reps.own0 (P := OwnP Γ H) (fun d v o s p => p v o s) ih r
  | dK w ks xs ih =>
    rintro v o s ⟨a, vs, o', s', rfl, e, r, _, rfl, rfl⟩
    exact Reps.own0 (P := OwnP Γ H) (fun d v o s p => p v o s) ih r
  | dT w ks xs ih =>
    rintro v o s ⟨a, vs, o', s', rfl, e, r, _, rfl, rfl⟩
    exact Reps.own0 (P := OwnP Γ H) (fun d v o s p => p v o s) ih r
  | obj w c fs xs ih =>
    rintro v o s ⟨a, dx, vs, o', s', rfl, e, r, _, rfl, rfl⟩
    exact Reps.own0 (P := OwnP Γ H) (fun d v o s p => p v o s) ih r
theorem Reps.own_nil {xs : List D} {H : Hp} (r : Reps Γ H (frs xs) us o s) : o = [] := Reps.own0 (P := fun _ => True) (fun d v o s _ => Rep.own_nil d v o s) (fun _ _ => trivial) r
theorem Reps.getF {xs : List D} {i : Nat} {H : Hp} (r : Reps Γ H (frs xs) us o s) (e : (frs xs)[i]? = some d) : ∃ x, us[i]? = some x ∧ ∃ sx, Rep Γ H d x [] sx ∧ ∀ a ∈ sx, a ∈ o ∨ a ∈ s := by
  obtain ⟨x, o1, s1, e1, r1, m1, m2⟩ := r.get e
  obtain ⟨sx, r2, m3⟩ := Rep.frz _ _ _ _ r1
  have : fr d = d := by
    rw [frs_map, List.getElem?_map] at e
    cases e2 : xs[i]? with
    | none => rw [e2] at e; cases e
    | some y => rw [e2] at e; cases e; exact fr_fr y
  rw [this] at r2
  exact ⟨x, e1, sx, r2, fun a m => (m3 a m).imp (m1 a) (m2 a)⟩
/-- the part of a list's Rep that a walk leans on -/
theorem itOk_seq {a : Addr} {xs : List D} {hd : D} {J : It} (hJ : ∀ (H : Hp) (oh sh : List Addr), Rep Γ H hd (.ref a) oh sh → ∃ us o' s', Reps Γ H (frs xs) us o' s' ∧ (∀ b ∈ o', b ∈ sh) ∧ (∀ b ∈ s', b ∈ sh) ∧
      (∀ i, us.length ≤ i → J.stop i H) ∧ ∀ (i : Nat) x, us[i]? = some x → J.go i H ∧ ∀ y H', J.yld i H y H' → H' = H ∧ y = x) : ItOk Γ J (frs xs) [(hd, .ref a)] := by
  intro H oh sh rg
  obtain ⟨us, o', s', r, m1, m2, st, go⟩ := hJ H oh sh rg.one
  have hl := r.len
  refine ⟨fun i hi => st i (by rw [← hl]; exact hi), fun i d e => ?_⟩
  obtain ⟨x, e1, sx, r2, m⟩ := r.getF e
  obtain ⟨g1, g2⟩ := go i x e1
  refine ⟨g1, fun y H' hy => ?_⟩
  obtain ⟨rfl, rfl⟩ := g2 y H' hy
  exact ⟨Keep.refl, sx, r2, fun a z => (m a z).elim (m1 a) (m2 a)⟩
theorem itOk_L {a : Addr} {xs : List D} : ItOk Γ (Itl Γ.K a) (frs xs) [(.lst false (frs xs), .ref a)] := itOk_seq fun H oh sh rp => by
  obtain ⟨b, us, o', s', e, r, n⟩ := rp
  cases e
  obtain ⟨e, rfl, rfl⟩ := n
  have hs : SqL Γ.K H a us := .of e
  obtain rfl := r.own_nil
  exact ⟨us, [], s', r, (fun _ m => nomatch m), fun _ m => List.mem_cons_of_mem _ m, fun i hi => ⟨us, hs, hi⟩, fun i x ex => ⟨⟨us, x, hs, ex⟩, fun y H' ⟨e1, e2⟩ => ⟨e1, Option.some.inj ((e2 us hs).symm.trans ex)⟩⟩⟩
theorem itOk_LK {a : Addr} {xs : List D} : ItOk Γ (Itl Γ.K a) (frs xs) [(.lk (frs xs), .ref a)] := itOk_seq fun H oh sh rp => by
  obtain ⟨b, us, e, r, n⟩ := rp
  cases e
  obtain rfl := r.own_nil
  exact ⟨us, [], sh, r, (fun _ m => nomatch m), fun _ m => m, fun i hi => ⟨us, n.sq, hi⟩, fun i x ex => ⟨⟨us, x, n.sq, ex⟩, fun y H' ⟨e1, e2⟩ => ⟨e1, Option.some.inj ((e2 us n.sq).symm.trans ex)⟩⟩⟩
theorem itOk_T {a : Addr} {xs : List D} : ItOk Γ (Itt Γ.K a) (frs xs) [(.tup (frs xs), .ref a)] := itOk_seq fun H oh sh rp => by
  obtain ⟨b, us, e, r, n⟩ := rp
  cases e
  obtain rfl := r.own_nil
  exact ⟨us, [], sh, r, (fun _ m => nomatch m), fun _ m => m, fun i hi => ⟨us, n, hi⟩, fun i x ex => ⟨⟨us, x, n, ex⟩, fun y H' ⟨e1, e2⟩ => ⟨e1, Option.some.inj ((e2 us n).symm.trans ex)⟩⟩⟩
theorem itL_ok : ItS Γ (fun vs H R => ∃ x a, vs = [x] ∧ x = .ref a ∧ (∃ xs, SqL Γ.K H a xs) ∧ R (Itl Γ.K a) H) itL := by
  intro ds vs H o s items hold R rs e k
  match ds, e with
  | [.lst w xs], e =>
    cases e
    obtain ⟨v, rfl, r⟩ := rs.one'
    obtain ⟨s', r', m⟩ := Rep.frz _ _ _ _ r
    obtain ⟨a, us, o2, s2, rfl, r2, n⟩ := id r
    exact ⟨_, a, rfl, rfl, ⟨us, .of n.it⟩, k _ [.ref a] s' rfl (Reps.one r') m itOk_L⟩
  | [.lk xs], e =>
    cases e
    obtain ⟨v, rfl, r⟩ := rs.one'
    obtain ⟨s', r', m⟩ := Rep.frz _ _ _ _ r
    obtain ⟨a, us, rfl, r2, n⟩ := id r
    exact ⟨_, a, rfl, rfl, ⟨us, n.sq⟩, k _ [.ref a] s' rfl (Reps.one r') m itOk_LK⟩
theorem itT_ok : ItS Γ (fun vs H R => ∃ x a, vs = [x] ∧ x = .ref a ∧ (∃ xs, SqT Γ.K H a xs) ∧ R (Itt Γ.K a) H) itT := by
  intro ds vs H o s items hold R rs e k
  match ds, e with
  | [.tup xs], e =>
    cases e
    obtain ⟨v, rfl, r⟩ := rs.one'
    obtain ⟨s', r', m⟩ := Rep.frz _ _ _ _ r
    obtain ⟨a, us, rfl, r2, n⟩ := id r
    exact ⟨_, a, rfl, rfl, ⟨us, n⟩, k _ [.ref a] s' rfl (Reps.one r') m itOk_T⟩
/-- signs of a text -/
def itS : List D → Option (List D × List D)
  | [.str x] => some (x.map fun c => .str [c], [])
  | _ => none
theorem itS_ok : ItS Γ (fun vs H R => ∃ x z, vs = [x] ∧ x = .str z ∧ R (Its z) H) itS := by
  intro ds vs H o s items hold R rs e k
  match ds, e with
  | [.str x], e =>
    cases e
    obtain ⟨v, rfl, ⟨rfl, _⟩⟩ := rs.one'
    refine ⟨_, _, rfl, rfl, k _ [] [] rfl ⟨rfl, rfl, rfl⟩ (fun _ m => nomatch m) fun H oh sh rg => ⟨fun i hi => ?_, fun i d e => ?_⟩⟩
    · show x.toArray.size ≤ i
      simpa using hi
    · rw [List.getElem?_map] at e
      cases e1 : x[i]? with
      | none => rw [e1] at e; cases e
      | some c =>
        rw [e1] at e
        cases e
        have hi : i < x.length := (List.getElem?_eq_some_iff.mp e1).1
        refine ⟨show i < x.toArray.size by simpa using hi, fun y H' ⟨eH, c', ec, ey⟩ => ?_⟩
        subst eH
        have ec : x.toArray[i]? = some c' := ec
        have : c' = c := by
          simp at ec
          rw [e1] at ec
          exact (Option.some.inj ec).symm
        subst this
        exact ⟨Keep.refl, [], ⟨ey, rfl, rfl⟩, fun _ m => nomatch m⟩
/-- the numbers from i, n of them -/
def rng (i : Int) (n : Nat) : List D := (List.range n).map fun (j : Nat) => D.int (i + (j : Int))
def itR1 : List D → Option (List D × List D)
  | [.int j] => if -(2 ^ 62) ≤ j ∧ j < 2 ^ 62 then some (rng 0 j.toNat, []) else none
  | _ => none
def itR2 : List D → Option (List D × List D)
  | [.int i, .int j] => if -(2 ^ 62) ≤ i ∧ i < 2 ^ 62 ∧ -(2 ^ 62) ≤ j ∧ j < 2 ^ 62 then some (rng i (j - i).toNat, []) else none
  | _ => none
theorem rng_len (i : Int) (n : Nat) : (rng i n).length = n := by simp [rng]
theorem itOk_rng {i : Int} {n : Nat} : ItOk Γ (Itr i n) (rng i n) [] := fun H oh sh rg => ⟨fun j hj => by rw [rng_len] at hj; exact hj, fun j d e => by
  have hj : j < n := by
    have := (List.getElem?_eq_some_iff.mp e).1
    rwa [rng_len] at this
  refine ⟨hj, fun y H' ⟨eH, ey⟩ => ?_⟩
  subst eH
  have : d = .int (i + (j : Int)) := by
    unfold rng at e
    rw [List.getElem?_map, List.getElem?_range hj] at e
    exact (Option.some.inj e).symm
  subst this
  exact ⟨Keep.refl, [], ⟨ey, rfl, rfl⟩, fun _ m => nomatch m⟩⟩
theorem itR1_ok : ItS Γ (fun vs H R => ∃ j : Int, vs = [.int j] ∧ -(2 ^ 62) ≤ j ∧ j < 2 ^ 62 ∧ R (Itr 0 j.toNat) H) itR1 := by
  intro ds vs H o s items hold R rs e k
  match ds, e with
  | [.int j], e =>
    have e : (if -(2 ^ 62) ≤ j ∧ j < 2 ^ 62 then some (rng 0 j.toNat, []) else none) = some (items, hold) := e
    split at e
    · rename_i h
      cases e
      obtain ⟨v, rfl, ⟨rfl, _⟩⟩ := rs.one'
      exact ⟨j, rfl, h.1, h.2, k _ [] [] rfl ⟨rfl, rfl, rfl⟩ (fun _ m => nomatch m) itOk_rng⟩
    · cases e
theorem itR2_ok : ItS Γ (fun vs H R => ∃ i j : Int, vs = [.int i, .int j] ∧ (-(2 ^ 62) ≤ i ∧ i < 2 ^ 62 ∧ -(2 ^ 62) ≤ j ∧ j < 2 ^ 62) ∧ R (Itr i (j - i).toNat) H) itR2 := by
  intro ds vs H o s items hold R rs e k
  match ds, e with
  | [.int i, .int j], e =>
    have e : (if -(2 ^ 62) ≤ i ∧ i < 2 ^ 62 ∧ -(2 ^ 62) ≤ j ∧ j < 2 ^ 62 then some (rng i (j - i).toNat, []) else none) = some (items, hold) := e
    split at e
    · rename_i h
      cases e
      obtain ⟨v, w, oa, sa, ob, sb, rfl, ⟨rfl, _⟩, ⟨rfl, _⟩, _⟩ := rs.two
      exact ⟨i, j, rfl, h, k _ [] [] rfl ⟨rfl, rfl, rfl⟩ (fun _ m => nomatch m) itOk_rng⟩
    · cases e
/-- reversed(a list) -/
def itRev : List D → Option (List D × List D)
  | [.lst _ xs] => some ((frs xs).reverse, [.lst false (frs xs)])
  | [.lk xs] => some ((frs xs).reverse, [.lk (frs xs)])
  | _ => none
theorem itOk_rev {a : Addr} {xs : List D} {hd : D} {n : Nat} (hn : n = xs.length) (hJ : ∀ (H : Hp) (oh sh : List Addr), Rep Γ H hd (.ref a) oh sh → ∃ us s', Reps Γ H (frs xs) us [] s' ∧ (∀ b ∈ s', b ∈ sh) ∧ SqL Γ.K H a us) : ItOk Γ (Itv Γ.K a n) (frs xs).reverse [(hd, .ref a)] := by
  intro H oh sh rg
  obtain ⟨us, s', r, m, hq⟩ := hJ H oh sh rg.one
  have hl := r.len
  have hx : (frs xs).length = n := by rw [frs_len, hn]
  refine ⟨fun i hi => by rw [List.length_reverse, hx] at hi; exact hi, fun i d e => ?_⟩
  have hi : i < n := by
    have := (List.getElem?_eq_some_iff.mp e).1
    rwa [List.length_reverse, hx] at this
  rw [List.getElem?_reverse (by rw [hx]; exact hi), hx] at e
  obtain ⟨x, e1, sx, r2, m2⟩ := r.getF e
  refine ⟨⟨hi, us, x, hq, e1⟩, fun y H' ⟨eH, ey⟩ => ?_⟩
  subst eH
  have : y = x := Option.some.inj ((ey us hq).symm.trans e1)
  subst this
  exact ⟨Keep.refl, sx, r2, fun b z => (m2 b z).elim (fun z => nomatch z) (m b)⟩
theorem itRev_ok : ItS Γ (fun vs H R => ∃ (a : Addr) (xs : List V), vs = [.ref a] ∧ SqL Γ.K H a xs ∧ R (Itv Γ.K a xs.length) H) itRev := by
  intro ds vs H o s items hold R rs e k
  match ds, e with
  | [.lst w xs], e =>
    cases e
    obtain ⟨v, rfl, r⟩ := rs.one'
    obtain ⟨s', r', m⟩ := Rep.frz _ _ _ _ r
    obtain ⟨a, us, o2, s2, rfl, r2, n⟩ := id r
    refine ⟨a, us, rfl, .of n.it, k _ [.ref a] s' rfl (Reps.one r') m (itOk_rev (by rw [← r2.len]) fun H oh sh rp => ?_)⟩
    obtain ⟨b, us', o', s3, e, r3, n3⟩ := rp
    cases e
    obtain ⟨e, rfl, rfl⟩ := n3
    obtain rfl := r3.own_nil
    exact ⟨us', s3, r3, fun _ m => List.mem_cons_of_mem _ m, .of e⟩
  | [.lk xs], e =>
    cases e
    obtain ⟨v, rfl, r⟩ := rs.one'
    obtain ⟨s', r', m⟩ := Rep.frz _ _ _ _ r
    obtain ⟨a, us, rfl, r2, n⟩ := id r
    refine ⟨a, us, rfl, n.sq, k _ [.ref a] s' rfl (Reps.one r') m (itOk_rev (by rw [← r2.len]) fun H oh sh rp => ?_)⟩
    obtain ⟨b, us', e, r3, n3⟩ := rp
    cases e
    obtain rfl := r3.own_nil
    exact ⟨us', sh, r3, fun _ m => m, n3.sq⟩
/-! #### the rules -/
theorem ei_list {tg e : Expr} (hK : X.K = Γ.K) (he : PE X e (tI Γ W δ)) : PI X tg e (tIt Γ W (dIt itL (dCons δ dNil))) := (pi_list he).imp fun σ H R q => tI.mono (tA_cons (it_ent itL_ok q)) fun v H1 z => by
  obtain ⟨x, a, e1, e2, h, k⟩ := tA_nil z
  cases e1
  exact ⟨a, e2, hK ▸ h, hK ▸ k⟩
theorem ei_tup {tg e : Expr} (hK : X.K = Γ.K) (he : PE X e (tI Γ W δ)) : PI X tg e (tIt Γ W (dIt itT (dCons δ dNil))) := (pi_tup he).imp fun σ H R q => tI.mono (tA_cons (it_ent itT_ok q)) fun v H1 z => by
  obtain ⟨x, a, e1, e2, h, k⟩ := tA_nil z
  cases e1
  exact ⟨a, e2, hK ▸ h, hK ▸ k⟩
theorem ei_str {tg e : Expr} (he : PE X e (tI Γ W δ)) : PI X tg e (tIt Γ W (dIt itS (dCons δ dNil))) := (pi_str he).imp fun σ H R q => tI.mono (tA_cons (it_ent itS_ok q)) fun v H1 z => by
  obtain ⟨x, a, e1, e2, k⟩ := tA_nil z
  cases e1
  exact ⟨a, e2, k⟩
theorem ei_range1 {tg a : Expr} {p pos : Pos} (hm : X.mg "range" = none) (ha : PE X a (tI Γ W δ)) (hg : Gl X "range" := by rfl) (hs : starEach [a] X.env = [(false, eval a X.env)] := by rfl) : PI X tg (.Call (.Name "range" p) [a] [] pos) (tIt Γ W (dIt itR1 (dCons δ dNil))) :=
  (pi_range1 hg hm (ea_cons ha ea_nil hs) hs).imp fun σ H R q => it_ent itR1_ok q
theorem ei_range2 {tg a b : Expr} {p pos : Pos} (hm : X.mg "range" = none) (ha : PE X a (tI Γ W δa)) (hb : PE X b (tI Γ W δb)) (hg : Gl X "range" := by rfl) (hs : starEach [a, b] X.env = [(false, eval a X.env), (false, eval b X.env)] := by rfl) (hs2 : starEach [b] X.env = [(false, eval b X.env)] := by rfl) :
    PI X tg (.Call (.Name "range" p) [a, b] [] pos) (tIt Γ W (dIt itR2 (dCons δa (dCons δb dNil)))) :=
  (pi_range2 hg hm (ea_cons ha (ea_cons hb ea_nil hs2) (hs.trans (by rw [hs2]))) hs hs2).imp fun σ H R q => it_ent itR2_ok q
theorem ei_rev {tg e : Expr} {p pos : Pos} (hK : X.K = Γ.K) (hm : X.mg "reversed" = none) (he : PE X e (tI Γ W δ)) (hg : Gl X "reversed" := by rfl) (hs : starEach [e] X.env = [(false, eval e X.env)] := by rfl) : PI X tg (.Call (.Name "reversed" p) [e] [] pos) (tIt Γ W (dIt itRev (dCons δ dNil))) :=
  (pi_reversed hg hm (ea_cons he ea_nil hs) hs).imp fun σ H R q => (it_ent itRev_ok q).mono fun vs H1 ⟨a, xs, e, h, k⟩ => ⟨a, xs, e, hK ▸ h, hK ▸ k⟩
end
end TB
end
section
set_option Elab.async false
set_option linter.all false
set_option maxRecDepth 100000
set_option maxHeartbeats 4000000
namespace TB
open PySem PySem.Spec L2
def loopF (g : DenG) (body : DenS) : List D → VE → RS
  | [], ρ => .nx ρ
  | d :: ds, ρ => match g d ρ with
    | some ρ1 => (match body ρ1 with
      | .nx ρ2 => loopF g body ds ρ2
      | .ct ρ2 => loopF g body ds ρ2
      | .bk ρ2 => .nx ρ2
      | r => r)
    | none => .no
def dFor (δi : DenI) (g : DenG) (body : DenS) : DenS := fun ρ => match δi ρ with
  | .ok items _ bs _ ρ' => loopF g body items (fz bs ρ')
  | .ex e ρ' => .ex e ρ'
  | .no => .no
/-- n: more than the turns -/
def loopW : Nat → Den → DenS → DenS
  | 0, _, _ => fun _ => .no
  | n + 1, c, body => fun ρ => match c ρ with
    | .ok (.bl true) _ _ ρ1 => (match body ρ1 with
      | .nx ρ2 => loopW n c body ρ2
      | .ct ρ2 => loopW n c body ρ2
      | .bk ρ2 => .nx ρ2
      | r => r)
    | .ok (.bl false) _ _ ρ1 => .nx ρ1
    | .ex e ρ1 => .ex e ρ1
    | _ => .no
section
variable {Γ : Ctx} {X : Cx} {W : WX} {io : List Nat} {H H1 H2 H' : Hp} {o s o1 s1 oB sB : List Addr} {ρ ρ' ρ1 : VE} {σ σ1 : L2.St} {v : V} {δ δa δb δc : Den} {δi : DenI} {ς : DenS} {g : DenG} {Z : Ends}
theorem DoneS.sub {r : RS} (h1 : ∀ a ∈ oB, a ∈ o) (h2 : ∀ a ∈ sB, a ∈ s) (h : DoneS Γ W io H o s σ Z r) : DoneS Γ W io H oB sB σ Z r :=
  h.back Keep.refl (fun a m => .inl (h1 a m)) (fun a m => .inr (.inl (h2 a m))) fun _ _ => rfl
/-- how a body's end goes on -/
theorem DoneS.turn {r : RS} {r' : VE → RS} {N : L2.St → Hp → Prop} (c1 : ∀ a ∈ oB, a ∈ o) (c2 : ∀ a ∈ sB, a ∈ s) (h : DoneS Γ W io H o s σ Z (match r with
      | .nx ρ2 => r' ρ2
      | .ct ρ2 => r' ρ2
      | .bk ρ2 => .nx ρ2
      | r => r)) (hN : ∀ ρ2 σ2 H2, DoneS Γ W io H o s σ Z (r' ρ2) → PostS Γ io H oB sB σ ρ2 σ2 H2 → N σ2 H2) : DoneS Γ W io H oB sB σ { Z with nx := N, ct := N, bk := Z.nx } r := by
  cases r with
  | nx ρ2 => exact fun σ2 H2 P => hN ρ2 σ2 H2 h P
  | ct ρ2 => exact fun σ2 H2 P => hN ρ2 σ2 H2 h P
  | bk ρ2 => exact DoneS.sub (Z := Z) (r := .nx ρ2) c1 c2 h
  | rt d ρ2 => exact DoneS.sub (Z := Z) (r := .rt d ρ2) c1 c2 h
  | ex e ρ2 => exact DoneS.sub (Z := Z) (r := .ex e ρ2) c1 c2 h
  | no => exact h
theorem for_ent (h : tS Γ W io (dFor δi g ς) Z σ H) : tFor (tIt Γ W δi) (tG Γ io g) (tS Γ W io ς) Z σ H := by
  obtain ⟨ρ, o, s, al, ow, h⟩ := h
  refine ⟨ρ, o, s, al, ow, ?_⟩
  unfold dFor at h
  cases e : δi ρ with
  | no => rw [e] at h; exact h
  | ex x ρ1 => rw [e] at h; exact fun cls dx H1 P => h cls dx σ H1 P.toS
  | ok items hold bs pu ρ1 =>
    rw [e] at h
    intro hvs J H1 P
    obtain ⟨o1, s1, ow1, p1, p2⟩ := P.l2
    refine ⟨fun i m σ' H' => m = items.length - i ∧ i ≤ items.length ∧ ∃ ρi oi si, Al σ' ρi ∧ Own Γ H' (hold.zip hvs ++ slots ρi σ') oi si ∧ DoneS Γ W io H' oi si σ' Z (loopF g ς (items.drop i) ρi), ⟨_, rfl, Nat.zero_le _, fz bs ρ1, o1, s1, P.al.fz bs, ow1, ?_⟩, ?_⟩
    · rw [List.drop_zero]
      exact h.back P.kp p1 p2 fun _ _ => rfl
    · rintro i m σ' H' ⟨rfl, hi, ρi, oi, si, ali, owi, hd⟩
      obtain ⟨oh, sh, os, ss, owh, ows, rfl, rfl⟩ := id owi.left
      obtain ⟨stp, itm⟩ := P.it H' oh sh owh.1
      by_cases hlt : i < items.length
      · right
        have ed : items[i]? = some items[i] := List.getElem?_eq_getElem hlt
        obtain ⟨go, yl⟩ := itm i _ ed
        refine ⟨go, fun σ2 H2 => ∃ ρ2 o2 s2, Al σ2 ρ2 ∧ Own Γ H2 (hold.zip hvs ++ slots ρ2 σ2) o2 s2 ∧ DoneS Γ W io H2 o2 s2 σ2 Z (loopF g ς (items.drop (i + 1)) ρ2), fun σ2 H2 ⟨ρ2, o2, s2, a1, a2, a3⟩ => ⟨items.length - (i + 1), by omega, rfl, hlt, ρ2, o2, s2, a1, a2, a3⟩, fun x H'' hy => ?_⟩
        obtain ⟨kk, sx, rx, mx⟩ := yl x H'' hy
        rw [List.drop_eq_getElem_cons hlt] at hd
        generalize items[i] = d at *
        have hd : DoneS Γ W io H' (oh ++ os) (sh ++ ss) σ' Z (match g d ρi with
          | some ρ1 => (match ς ρ1 with
            | .nx ρ2 => loopF g ς (items.drop (i + 1)) ρ2
            | .ct ρ2 => loopF g ς (items.drop (i + 1)) ρ2
            | .bk ρ2 => .nx ρ2
            | r => r)
          | none => .no) := hd
        cases eg : g d ρi with
        | none => rw [eg] at hd; exact hd.elim
        | some ρ2 =>
          rw [eg] at hd
          -- the item beside the names, then what is held
          have owi' := owi.same kk
          have ow2 : Own Γ H'' ((d, x) :: (hold.zip hvs ++ slots ρi σ')) ([] ++ (oh ++ os)) (sx ++ (sh ++ ss)) := Own.mkc rx owi' .nil (fun _ _ z => nomatch z) (fun _ z => nomatch z) (fun a z => owi'.2.2 a (List.mem_append_left _ (mx a z)))
          have pp : ((d, x) :: (hold.zip hvs ++ slots ρi σ')).Perm (((d, x) :: slots ρi σ') ++ hold.zip hvs) := List.Perm.cons _ List.perm_append_comm
          obtain ⟨o3, s3, ow3, m3, n3⟩ := ow2.perm pp
          obtain ⟨oA, sA, owA, a1, a2, back⟩ := ow3.frame
          refine ⟨ρi, oA, sA, d, ali, owA, ρ2, eg, fun σ3 H3 P3 _ => ?_⟩
          have l3 := back H3 _ P3.kp P3.l1
          obtain ⟨o4, s4, ow4, q4, r4⟩ := l3
          have kH3 : Keep H' H3 (oh ++ os) := fun a y ea na => P3.kp a y (kk a y ea (fun z => nomatch z)) fun z => na (by
            have := (m3 a).mp (a1 a z)
            simpa using this)
          have q4' : ∀ a ∈ o4, nO H' (oh ++ os) a := fun a z => by
            rcases q4 a z with y | y
            · have := (m3 a).mp y
              exact .inl (by simpa using this)
            · exact .inr (by
                cases ea : H' a with
                | none => rfl
                | some u => rw [kk a u ea (fun z => nomatch z)] at y; cases y)
          have r4' : ∀ a ∈ s4, nS H' (oh ++ os) (sh ++ ss) a := fun a z => by
            rcases r4 a z with y | y | y
            · have := (m3 a).mp y
              exact .inl (by simpa using this)
            · have := (n3 a).mp y
              rcases List.mem_append.mp this with w | w
              · exact .inr (.inl (List.mem_append_left _ (mx a w)))
              · exact .inr (.inl w)
            · exact .inr (.inr (by
                cases ea : H' a with
                | none => rfl
                | some u => rw [kk a u ea (fun z => nomatch z)] at y; cases y))
          have hd3 := hd.back kH3 q4' r4' P3.io
          obtain ⟨oC, sC, owC, c1, c2, back2⟩ := ow4.frame
          refine ⟨ρ2, oC, sC, P3.al, owC, ?_⟩
          refine DoneS.turn (r' := fun ρ => loopF g ς (items.drop (i + 1)) ρ) c1 c2 hd3 fun ρ5 σ5 H5 hd5 P5 => ?_
          obtain ⟨o5, s5, ow5, q5, r5⟩ := back2 H5 _ P5.kp P5.l1
          obtain ⟨o6, s6, ow6, m6, n6⟩ := ow5.perm List.perm_append_comm
          exact ⟨ρ5, o6, s6, P5.al, ow6, hd5.back (P5.kp.mono c1) (fun a z => q5 a ((m6 a).mp z)) (fun a z => r5 a ((n6 a).mp z)) P5.io⟩
      · left
        have ei : i = items.length := by omega
        subst ei
        rw [List.drop_length] at hd
        exact ⟨stp _ (Nat.le_refl _), hd σ' H' ⟨ali, owi.live.right, Keep.refl, fun _ _ => rfl⟩⟩
theorem es_for {tg iter : Expr} {body : List Stmt} {pos : Pos} (hp : PassesOwn (model X.prog X.w) X.A X.env X.xe) (hc : X.calm = true) (hi : PI X tg iter (tIt Γ W δi)) (hg : PG X tg (tG Γ io g)) (hb : PSs X body (tS Γ W io ς))
    (hs : ∀ x, foldedSetIterable iter X.env x = pure x := by intro _; rfl) : PS X (.For tg iter body [] pos) (tS Γ W io (dFor δi g ς)) := (ps_for hp hc hi hg hb hs).imp fun Z σ H q => for_ent q
theorem while_ent {n : Nat} (h : tS Γ W io (loopW n δ ς) Z σ H) : tWhile (tB Γ W δ) (tS Γ W io ς) Z σ H := by
  refine ⟨fun m σ' H' => tS Γ W io (loopW m δ ς) Z σ' H', ⟨n, h⟩, fun m σ' H' hw => ?_⟩
  obtain ⟨ρ, o, s, al, ow, h⟩ := hw
  cases m with
  | zero => exact h.elim
  | succ m =>
    refine ⟨ρ, o, s, al, ow, ?_⟩
    unfold loopW at h
    cases e : δ ρ with
    | no => rw [e] at h; exact h
    | ex x ρ1 => rw [e] at h; exact fun cls dx H1 P => h cls dx σ' H1 P.toS
    | ok d b p ρ1 =>
      rw [e] at h
      cases d <;> first | exact h.elim | skip
      rename_i c
      cases c with
      | false =>
        intro H1 P
        rw [if_neg Bool.false_ne_true]
        exact h σ' H1 ⟨P.al, P.l1, P.kp, fun _ _ => rfl⟩
      | true =>
        intro H1 P
        rw [if_pos rfl]
        refine ⟨fun σ2 H2 => tS Γ W io (loopW m δ ς) Z σ2 H2, fun σ2 H2 h2 => ⟨m, Nat.lt_succ_self m, h2⟩, ?_⟩
        obtain ⟨o1, s1, ow1, k⟩ := PostE.start P
        refine ⟨ρ1, o1, s1, P.al, ow1, ?_⟩
        refine DoneS.turn (r' := fun ρ => loopW m δ ς ρ) (fun _ z => z) (fun _ z => z) (k h) fun ρ2 σ2 H2 hd P2 => ?_
        obtain ⟨o2, s2, ow2, k2⟩ := P2.start
        exact ⟨ρ2, o2, s2, P2.al, ow2, k2 hd⟩
theorem es_while (n : Nat) {c : Expr} {body : List Stmt} {pos : Pos} (hp : PassesOwn (model X.prog X.w) X.A X.env X.xe) (hc : PT X c (tB Γ W δ)) (hb : PSs X body (tS Γ W io ς)) : PS X (.While c body [] pos) (tS Γ W io (loopW n δ ς)) := (ps_while hp hc hb).imp fun Z σ H q => while_ent q
end
end TB
end
section
set_option Elab.async false
set_option linter.all false
set_option maxRecDepth 100000
set_option maxHeartbeats 4000000
namespace TB
open PySem PySem.Spec L2
/-! ### comprehensions -/
def wipeE : VE → List Nat → VE
  | ρ, [] => ρ
  | ρ, v :: vs => (wipeE ρ vs).set v none
inductive RC where
  | ok (acc : List D) (P : Bool) (ρ : VE)
  | no
def loopC (g : DenG) (vs : List Nat) (δc δe : Den) : List D → VE → List D → Bool → RC
  | [], ρ, acc, P => .ok acc P ρ
  | d :: ds, ρ, acc, P => match g d ρ with
    | some ρ1 => (match δc ρ1 with
      | .ok (.bl true) _ p1 ρ2 => (match δe ρ2 with
        | .ok y b p2 ρ3 => if acc.length < 16777216 then loopC g vs δc δe ds (wipeE (fz b ρ3) vs) (acc ++ [y]) (P && p1 && p2 && b.isEmpty) else .no
        | _ => .no)
      | .ok (.bl false) _ p1 ρ2 => loopC g vs δc δe ds (wipeE ρ2 vs) acc (P && p1)
      | _ => .no)
    | none => .no
def noneAt (vs : List Nat) (ρ : VE) : Bool := vs.all fun i => match ρ[i]? with
  | some (some _) => false
  | _ => true
def dComp (δi : DenI) (g : DenG) (vs : List Nat) (δc δe : Den) : Den := fun ρ => match δi ρ with
  | .ok items _ bs pu ρ' => (match loopC g vs δc δe items (fz bs (wipeE ρ' vs)) [] true with
    | .ok acc P ρe => if P then .ok (.lst true acc) (if imms acc then [] else bs) (pu && noneAt vs ρ') (wipeE ρ' vs) else .ok (.lst true acc) [] false ρe
    | .no => .no)
  | .ex e ρ' => .ex e ρ'
  | .no => .no
def dTrue : Den := fun ρ => .ok (.bl true) [] true ρ
def cmpl (vs : List Nat) (n : Nat) : List Nat := (List.range n).filter fun i => !vs.contains i
section
variable {Γ : Ctx} {X : Cx} {W : WX} {io : List Nat} {H H1 H2 H' : Hp} {o s o1 s1 oB sB : List Addr} {ρ ρ' ρ1 : VE} {σ σ1 : L2.St} {v : V} {δ δa δb δc δe : Den} {δi : DenI} {g : DenG} {PO PS : Addr → Prop} {Q : VK}
theorem set_id {i : Nat} (h : ∀ d, ρ[i]? ≠ some (some d)) : ρ.set i none = ρ := by
  apply List.ext_getElem?
  intro j
  by_cases hj : i = j
  · subst hj
    rw [List.getElem?_set]
    simp only [if_true]
    split
    · cases e : ρ[i]? with
      | none => rw [List.getElem?_eq_none_iff] at e; omega
      | some y =>
        cases y with
        | none => rfl
        | some d => exact absurd e (h d)
    · rename_i hl
      rw [List.getElem?_eq_none (by omega)]
  · rw [List.getElem?_set_ne hj]
theorem Live.drop1 {T : Grp} (al : Al σ ρ) (i : Nat) (h : Live Γ PO PS H (T ++ slots ρ σ)) : Live Γ PO PS H (T ++ slots (ρ.set i none) σ) := by
  by_cases e : ∃ d, ρ[i]? = some (some d)
  · obtain ⟨d, e⟩ := e
    obtain ⟨v, hv⟩ := al.has i d e
    exact (h.perm (((slots_out e hv).append_left T).trans List.perm_middle)).tail
  · rw [set_id fun d z => e ⟨d, z⟩]; exact h
theorem Al.wipe (al : Al σ ρ) : ∀ vs : List Nat, Al σ (wipeE ρ vs)
  | [] => al
  | v :: vs => set_none_out (Al.wipe al vs) v
theorem Live.dropE {T : Grp} (al : Al σ ρ) (h : Live Γ PO PS H (T ++ slots ρ σ)) : ∀ vs : List Nat, Live Γ PO PS H (T ++ slots (wipeE ρ vs) σ)
  | [] => h
  | v :: vs => Live.drop1 (al.wipe vs) v (Live.dropE al h vs)
theorem wipeE_at : ∀ {vs : List Nat} {i : Nat} {d : D}, (wipeE ρ vs)[i]? = some (some d) → i ∉ vs ∧ ρ[i]? = some (some d)
  | [], i, d, h => ⟨by simp, h⟩
  | v :: vs, i, d, h => by
    unfold wipeE at h
    by_cases hi : v = i
    · subst hi
      rw [List.getElem?_set] at h
      simp at h
    · rw [List.getElem?_set_ne hi] at h
      obtain ⟨h1, h2⟩ := wipeE_at h
      exact ⟨by simp [h1]; exact fun z => hi z.symm, h2⟩
theorem Al.wipe2 (al : Al σ ρ) (vs : List Nat) : Al (L2.wipe σ vs) (wipeE ρ vs) := ⟨by rw [wipe_length, al.len, ← (al.wipe vs).len, al.len], fun i d e => by
  obtain ⟨h1, h2⟩ := wipeE_at e
  obtain ⟨v, hv⟩ := al.has i d h2
  exact ⟨v, by rw [wipe_out h1]; exact hv⟩⟩
theorem slots_wipe : ∀ {vs : List Nat}, slots (wipeE ρ vs) (L2.wipe σ vs) = slots (wipeE ρ vs) σ
  | [] => rfl
  | v :: vs => by
    unfold wipeE L2.wipe
    rw [slots_none]
    -- the wiped names do not count
    have key : ∀ (ρ : VE) (a b : L2.St), (∀ (i : Nat) d, ρ[i]? = some (some d) → a[i]? = b[i]?) → a.length = b.length → slots ρ a = slots ρ b := by
      intro ρ
      induction ρ with
      | nil => intro a b _ _; cases a <;> cases b <;> rfl
      | cons x ρ ih =>
        intro a b h hl
        cases a with
        | nil => cases b with
          | nil => rfl
          | cons _ _ => simp at hl
        | cons p a =>
          cases b with
          | nil => simp at hl
          | cons q b =>
            have r := ih a b (fun i d e => by simpa using h (i + 1) d (by simpa using e)) (by simpa using hl)
            cases x with
            | none => exact r
            | some d =>
              have e0 := h 0 d rfl
              simp at e0
              subst e0
              cases p with
              | none => exact r
              | some y => exact congrArg ((d, y) :: ·) r
    refine key _ _ _ (fun i d e => ?_) (wipe_length σ vs)
    have : i ∉ v :: vs := (wipeE_at (ρ := ρ) (vs := v :: vs) e).1
    simp at this
    exact wipe_out this.2
theorem noneAt_wipe : ∀ {vs : List Nat}, noneAt vs ρ = true → wipeE ρ vs = ρ
  | [], _ => rfl
  | v :: vs, h => by
    unfold noneAt at h
    rw [List.all_cons, Bool.and_eq_true] at h
    have r : wipeE ρ vs = ρ := noneAt_wipe h.2
    unfold wipeE
    rw [r]
    refine set_id fun d e => ?_
    rw [e] at h
    cases h.1
theorem wipe_same {vs : List Nat} {σ2 : L2.St} (hl : σ2.length = σ.length) (h : ∀ i, i < σ.length → i ∉ vs → σ2[i]? = σ[i]?) : L2.wipe σ2 vs = L2.wipe σ vs := by
  have wi : ∀ (σ : L2.St) (vs : List Nat) (i : Nat), i ∈ vs → i < σ.length → (L2.wipe σ vs)[i]? = some none := by
    intro σ vs
    induction vs with
    | nil => intro i m; cases m
    | cons v vs ih =>
      intro i m hi
      unfold L2.wipe
      by_cases e : v = i
      · subst e
        rw [List.getElem?_set_self (by rw [wipe_length]; exact hi)]
      · rw [List.getElem?_set_ne e]
        rcases List.mem_cons.mp m with z | z
        · exact absurd z.symm e
        · exact ih i z hi
  apply List.ext_getElem?
  intro i
  by_cases hi : i < σ.length
  · by_cases m : i ∈ vs
    · rw [wi _ _ _ m (by omega), wi _ _ _ m hi]
    · rw [wipe_out m, wipe_out m, h i hi m]
  · rw [List.getElem?_eq_none (by rw [wipe_length]; omega), List.getElem?_eq_none (by rw [wipe_length]; omega)]
theorem wipe_wipe {vs : List Nat} : L2.wipe (L2.wipe σ vs) vs = L2.wipe σ vs := wipe_same (wipe_length σ vs) fun i _ m => wipe_out m
theorem mem_cmpl {vs : List Nat} {n i : Nat} (hi : i < n) (m : i ∉ vs) : i ∈ cmpl vs n := by
  unfold cmpl
  rw [List.mem_filter]
  refine ⟨List.mem_range.mpr hi, ?_⟩
  simpa using m
theorem Live.newL {T : Grp} {a : Addr} (h : Live Γ PO PS H T) (hn : H a = none) (po : PO a) : Live Γ PO PS (upd H a (.lst [])) ((.lst true [], .ref a) :: T) := by
  obtain ⟨o, s, ow, p1, p2⟩ := h
  have tr := ow.trk
  refine ⟨[a] ++ o, [] ++ s, Own.mkc ⟨a, [], [], [], rfl, ⟨rfl, rfl, rfl⟩, upd_same, rfl, rfl⟩ (ow.same (Keep.new hn)) (by simp) (fun _ z => nomatch z) (fun b z => ?_) (fun _ z => nomatch z), fun b z => ?_, fun b z => p2 b (by simpa using z)⟩
  · simp at z; subst z
    refine ⟨fun z => ?_, fun z => tr.2 b z hn⟩
    have := tr.1 b z
    rw [hn] at this; exact this
  · rcases List.mem_append.mp z with z | z
    · simp at z; subst z; exact po
    · exact p1 b z
theorem wipeE_get : ∀ {vs : List Nat} {i : Nat}, i ∉ vs → (wipeE ρ vs)[i]? = ρ[i]?
  | [], _, _ => rfl
  | v :: vs, i, h => by
    simp at h
    unfold wipeE
    rw [List.getElem?_set_ne (fun e => h.1 e.symm), wipeE_get h.2]
theorem wipeE_len : ∀ (vs : List Nat), (wipeE ρ vs).length = ρ.length
  | [] => rfl
  | v :: vs => by unfold wipeE; rw [List.length_set, wipeE_len vs]
theorem wipeE_in : ∀ {vs : List Nat} {i : Nat}, i ∈ vs → i < ρ.length → (wipeE ρ vs)[i]? = some none
  | v :: vs, i, h, hi => by
    unfold wipeE
    by_cases e : v = i
    · subst e
      rw [List.getElem?_set_self (by rw [wipeE_len]; exact hi)]
    · rw [List.getElem?_set_ne e]
      rcases List.mem_cons.mp h with z | z
      · exact absurd z.symm e
      · exact wipeE_in z hi
theorem wipeE_set {vs : List Nat} {i : Nat} {x : Option D} (h : i ∈ vs) : wipeE (ρ.set i x) vs = wipeE ρ vs := by
  apply List.ext_getElem?
  intro j
  by_cases hj : j < ρ.length
  · by_cases m : j ∈ vs
    · rw [wipeE_in m (by simpa using hj), wipeE_in m hj]
    · rw [wipeE_get m, wipeE_get m, List.getElem?_set_ne (fun e => m (by rw [← e]; exact h))]
  · rw [List.getElem?_eq_none (by rw [wipeE_len]; simp; omega), List.getElem?_eq_none (by rw [wipeE_len]; omega)]
/-- a target that stores names of vs alone -/
def GOk (vs : List Nat) (g : DenG) : Prop := ∀ d ρ ρ', g d ρ = some ρ' → ρ'.length = ρ.length ∧ wipeE ρ' vs = wipeE ρ vs
theorem gok_name {vs : List Nat} {i : Nat} (h : i ∈ vs) : GOk vs (sName io i) := fun d ρ ρ' e => by
  unfold sName at e
  split at e
  · cases e; exact ⟨by simp, wipeE_set h⟩
  · cases e
def GsOk (vs : List Nat) (g : DenGs) : Prop := ∀ d ρ ρ', g d ρ = some ρ' → ρ'.length = ρ.length ∧ wipeE ρ' vs = wipeE ρ vs
theorem gsok_nil {vs : List Nat} : GsOk vs sNil := fun d ρ ρ' e => by
  cases d with
  | nil => cases e; exact ⟨rfl, rfl⟩
  | cons _ _ => cases e
theorem gsok_cons {vs : List Nat} {gs : DenGs} (h1 : GOk vs g) (h2 : GsOk vs gs) : GsOk vs (sCons g gs) := fun d ρ ρ' e => by
  cases d with
  | nil => cases e
  | cons d ds =>
    have e : (match g d ρ with | some ρ1 => gs ds ρ1 | none => none) = some ρ' := e
    cases e1 : g d ρ with
    | none => rw [e1] at e; cases e
    | some ρ1 =>
      rw [e1] at e
      obtain ⟨a1, a2⟩ := h1 _ _ _ e1
      obtain ⟨b1, b2⟩ := h2 _ _ _ e
      exact ⟨b1.trans a1, b2.trans a2⟩
theorem gok_tup {vs : List Nat} {gs : DenGs} (h : GsOk vs gs) : GOk vs (sTup gs) := fun d ρ ρ' e => by
  cases d <;> first | (cases e; done) | exact h _ _ _ e
theorem comp_ent {vs : List Nat} {n : Nat} (hgk : GOk vs g) (hσ : σ.length = n) (h : tI Γ W (dComp δi g vs δc δe) σ H Q) :
    tLc (tIt Γ W δi) (tG Γ (cmpl vs n) g) (tB Γ (fun _ _ _ _ => False) δc) (tI Γ (fun _ _ _ _ => False) δe) vs σ H Q := by
  obtain ⟨ρ, o, s, al, ow, h⟩ := h
  refine ⟨ρ, o, s, al, ow, ?_⟩
  unfold dComp at h
  cases e : δi ρ with
  | no => rw [e] at h; exact h
  | ex x ρ1 => rw [e] at h; exact h
  | ok items hold bs pu ρ1 =>
    rw [e] at h
    cases eL : loopC g vs δc δe items (fz bs (wipeE ρ1 vs)) [] true with
    | no => simp only [eL] at h; exact h.elim
    | ok accF PF ρF =>
    simp only [eL] at h
    intro hvs J H1 P D hD
    have nOD : nO H o D := P.kp.unt hD
    have alw : Al σ (fz bs (wipeE ρ1 vs)) := (P.al.wipe vs).fz bs
    have fzw : ∀ (bs : List Nat) (ρ : VE) (i : Nat) d, (fz bs ρ)[i]? = some (some d) → ∃ d', ρ[i]? = some (some d') := by
      intro bs
      induction bs with
      | nil => intro ρ i d e; exact ⟨d, e⟩
      | cons b bs ih =>
        intro ρ i d e
        obtain ⟨d', e'⟩ := ih _ _ _ e
        exact fz1_get b i ρ d' e'
    have alw2 : Al (L2.wipe σ vs) (fz bs (wipeE ρ1 vs)) := ⟨by rw [wipe_length]; exact alw.len, fun i d e => by
      obtain ⟨d', e'⟩ := fzw _ _ _ _ e
      obtain ⟨h1, h2⟩ := wipeE_at e'
      obtain ⟨v, hv⟩ := alw.has i d e
      exact ⟨v, by rw [wipe_out h1]; exact hv⟩⟩
    have slw : ∀ ρ : VE, (∀ (i : Nat) d, ρ[i]? = some (some d) → i ∉ vs) → slots ρ (L2.wipe σ vs) = slots ρ σ := by
      intro ρ hρ
      have e1 : wipeE ρ vs = ρ := noneAt_wipe (by
        unfold noneAt
        rw [List.all_eq_true]
        intro i m
        split
        · rename_i d ed
          exact absurd m (hρ i d ed)
        · rfl)
      have := slots_wipe (ρ := ρ) (σ := σ) (vs := vs)
      rwa [e1] at this
    have hfz : slots (fz bs (wipeE ρ1 vs)) (L2.wipe σ vs) = slots (fz bs (wipeE ρ1 vs)) σ := slw _ fun i d e => by
      obtain ⟨d', e'⟩ := fzw _ _ _ _ e
      exact (wipeE_at e').1
    -- the start: the new list, what is held, the names
    have lw1 : Live Γ (nO H o) (nS H o s) H1 (slots (wipeE ρ1 vs) σ) := Live.dropE (T := []) P.al P.l1 vs
    have lw2 : Live Γ (nO H o) (nS H o s) H1 (hold.zip hvs ++ slots (fz bs (wipeE ρ1 vs)) σ) := by
      have comm : ∀ (bs : List Nat) (ρ : VE) (i : Nat), fz bs (ρ.set i none) = (fz bs ρ).set i none := by
        have c1 : ∀ (b : Nat) (ρ : VE) (i : Nat), fz1 b (ρ.set i none) = (fz1 b ρ).set i none := by
          intro b ρ
          induction ρ generalizing b with
          | nil => intro i; cases b <;> rfl
          | cons x ρ ih =>
            intro i
            cases b with
            | zero => cases i <;> rfl
            | succ b =>
              cases i with
              | zero => rfl
              | succ i => exact congrArg (x :: ·) (ih b i)
        intro bs
        induction bs with
        | nil => intro ρ i; rfl
        | cons b bs ih => intro ρ i; show fz bs (fz1 b (ρ.set i none)) = _; rw [c1, ih]; rfl
      have commE : ∀ (vs : List Nat), fz bs (wipeE ρ1 vs) = wipeE (fz bs ρ1) vs := by
        intro vs
        induction vs with
        | nil => rfl
        | cons v vs ih => show fz bs ((wipeE ρ1 vs).set v none) = (wipeE (fz bs ρ1) vs).set v none; rw [comm, ih]
      rw [commE]
      exact Live.dropE (P.al.fz bs) P.l2 vs
    have start : Live Γ (nO H o) (nS H o s) (upd H1 D (.lst [])) ((.lst true [], .ref D) :: (hold.zip hvs ++ slots (fz bs (wipeE ρ1 vs)) (L2.wipe σ vs))) := by
      rw [hfz]
      exact lw2.newL hD nOD
    have kst : Keep H (upd H1 D (.lst [])) o := P.kp.trans (Keep.new hD) fun _ z => nomatch z
    refine ⟨fun i m H' => m = items.length - i ∧ i ≤ items.length ∧ ∃ ρi acc Pi, Al (L2.wipe σ vs) ρi ∧ (∀ (j : Nat) d, ρi[j]? = some (some d) → j ∉ vs) ∧ Keep H H' o ∧
        Live Γ (nO H o) (nS H o s) H' ((.lst true acc, .ref D) :: (hold.zip hvs ++ slots ρi (L2.wipe σ vs))) ∧ (Pi = true → ρi = fz bs (wipeE ρ1 vs) ∧ Keep H1 H' []) ∧
        loopC g vs δc δe (items.drop i) ρi acc Pi = .ok accF PF ρF, ⟨_, rfl, Nat.zero_le _, _, [], true, alw2, fun j d e => (by
          obtain ⟨d', e'⟩ := fzw _ _ _ _ e
          exact (wipeE_at e').1), kst, start, fun _ => ⟨rfl, Keep.new hD⟩, by rw [List.drop_zero]; exact eL⟩, ?_⟩
    rintro i m H' ⟨rfl, hi, ρi, acc, Pi, ali, avi, ki, li, pi, ei⟩
    by_cases hlt : i < items.length
    · right
      -- what is held
      obtain ⟨oL, sL, owL, pL1, pL2⟩ := li.tail
      obtain ⟨oh, sh, os, ss, owh, ows, rfl, rfl⟩ := id owL.left
      obtain ⟨stp, itm⟩ := P.it H' oh sh owh.1
      have ed : items[i]? = some items[i] := List.getElem?_eq_getElem hlt
      obtain ⟨go, yl⟩ := itm i _ ed
      refine ⟨go, fun H2 => ∃ ρ2 acc Pi, Al (L2.wipe σ vs) ρ2 ∧ (∀ (j : Nat) d, ρ2[j]? = some (some d) → j ∉ vs) ∧ Keep H H2 o ∧
        Live Γ (nO H o) (nS H o s) H2 ((.lst true acc, .ref D) :: (hold.zip hvs ++ slots ρ2 (L2.wipe σ vs))) ∧ (Pi = true → ρ2 = fz bs (wipeE ρ1 vs) ∧ Keep H1 H2 []) ∧
        loopC g vs δc δe (items.drop (i + 1)) ρ2 acc Pi = .ok accF PF ρF, fun H2 ⟨ρ2, acc2, P2, a1, a2, a3, a4, a5, a6⟩ => ⟨items.length - (i + 1), by omega, rfl, hlt, ρ2, acc2, P2, a1, a2, a3, a4, a5, a6⟩, fun x H'' hy => ?_⟩
      rw [List.drop_eq_getElem_cons hlt] at ei
      generalize items[i] = d at *
      have ei : (match g d ρi with
        | some ρ1 => (match δc ρ1 with
          | .ok (.bl true) _ p1 ρ2 => (match δe ρ2 with
            | .ok y b p2 ρ3 => if acc.length < 16777216 then loopC g vs δc δe (items.drop (i + 1)) (wipeE (fz b ρ3) vs) (acc ++ [y]) (Pi && p1 && p2 && b.isEmpty) else .no
            | _ => .no)
          | .ok (.bl false) _ p1 ρ2 => loopC g vs δc δe (items.drop (i + 1)) (wipeE ρ2 vs) acc (Pi && p1)
          | _ => .no)
        | none => RC.no) = .ok accF PF ρF := ei
      cases eg : g d ρi with
      | none => rw [eg] at ei; cases ei
      | some ρ2 =>
      simp only [eg] at ei
      -- the item comes: it is part of what is held
      obtain ⟨kk, sx, rx, mx⟩ := yl x H'' hy
      have k2 : Keep H H'' o := ki.trans kk fun _ z => nomatch z
      have lx : Live Γ (nO H o) (nS H o s) H'' (((.lst true acc, .ref D) :: hold.zip hvs) ++ ((d, x) :: slots ρi (L2.wipe σ vs))) := by
        obtain ⟨oA, sA, owA, q1, q2⟩ := li
        obtain ⟨oa, sa, ob, sb, ra, owB, rfl, rfl, n1, d1, d2, d3⟩ := owA.cons
        obtain ⟨oc, sc, od, sd, owc, owd, rfl, rfl⟩ := id owB.left
        obtain ⟨_, itm2⟩ := P.it H' oc sc owc.1
        obtain ⟨_, yl2⟩ := itm2 i _ ed
        obtain ⟨_, sx2, rx2, mx2⟩ := yl2 x H'' hy
        have owA' := owA.same kk
        have ow3 : Own Γ H'' ((d, x) :: ((.lst true acc, .ref D) :: (hold.zip hvs ++ slots ρi (L2.wipe σ vs)))) ([] ++ (oa ++ (oc ++ od))) (sx2 ++ (sa ++ (sc ++ sd))) :=
          Own.mkc rx2 owA' .nil (fun _ _ z => nomatch z) (fun _ z => nomatch z) (fun a z => owA'.2.2 a (List.mem_append_right _ (List.mem_append_left _ (mx2 a z))))
        have l3 : Live Γ (nO H o) (nS H o s) H'' ((d, x) :: ((.lst true acc, .ref D) :: (hold.zip hvs ++ slots ρi (L2.wipe σ vs)))) := ⟨_, _, ow3, fun a z => q1 a (by simpa using z), fun a z => by
          rcases List.mem_append.mp z with z | z
          · exact q2 a (List.mem_append_right _ (List.mem_append_left _ (mx2 a z)))
          · exact q2 a z⟩
        exact l3.perm (by
          show ((d, x) :: (((.lst true acc, .ref D) :: hold.zip hvs) ++ slots ρi (L2.wipe σ vs))).Perm _
          exact List.perm_middle.symm)
      obtain ⟨oA, sA, owA, back⟩ := Live.next lx k2
      refine ⟨ρi, oA, sA, d, ali, owA, ρ2, eg, fun σ2 H2 P2 K2 => ?_⟩
      obtain ⟨gl, gw⟩ := hgk _ _ _ eg
      have hln : (L2.wipe σ vs).length = n := by rw [wipe_length, hσ]
      have hw : L2.wipe σ2 vs = L2.wipe σ vs := by
        have e1 : σ2.length = (L2.wipe σ vs).length := by rw [P2.al.len, gl, ← ali.len]
        have := wipe_same (σ := L2.wipe σ vs) (σ2 := σ2) (vs := vs) e1 fun j hj mj => P2.io j (mem_cmpl (by rw [← hln]; exact hj) mj)
        rw [this, wipe_wipe]
      have wri : wipeE ρi vs = ρi := noneAt_wipe (by
        unfold noneAt
        rw [List.all_eq_true]
        intro i m
        split
        · rename_i d ed
          exact absurd m (avi i d ed)
        · rfl)
      -- how a turn ends
      have fin : ∀ {ρ4 : VE} {H4 : Hp} {acc2 : List TB.D} {P4 : Bool}, Al σ2 ρ4 → Keep H H4 o → Live Γ (nO H o) (nS H o s) H4 (((.lst true acc2, .ref D) :: hold.zip hvs) ++ slots ρ4 σ2) → (P4 = true → wipeE ρ4 vs = fz bs (wipeE ρ1 vs) ∧ Keep H1 H4 []) →
          loopC g vs δc δe (items.drop (i + 1)) (wipeE ρ4 vs) acc2 P4 = .ok accF PF ρF →
          ∃ ρ2 acc Pi, Al (L2.wipe σ vs) ρ2 ∧ (∀ (j : Nat) d, ρ2[j]? = some (some d) → j ∉ vs) ∧ Keep H H4 o ∧
            Live Γ (nO H o) (nS H o s) H4 ((.lst true acc, .ref D) :: (hold.zip hvs ++ slots ρ2 (L2.wipe σ vs))) ∧ (Pi = true → ρ2 = fz bs (wipeE ρ1 vs) ∧ Keep H1 H4 []) ∧
            loopC g vs δc δe (items.drop (i + 1)) ρ2 acc Pi = .ok accF PF ρF := fun {ρ4 H4 acc2 P4} al4 k4 l4 p4 e4 => by
        refine ⟨wipeE ρ4 vs, acc2, P4, ?_, fun j d e => (wipeE_at e).1, k4, ?_, p4, e4⟩
        · rw [← hw]; exact al4.wipe2 vs
        · have := Live.dropE (T := ((.lst true acc2, .ref D) :: hold.zip hvs)) al4 l4 vs
          rw [← hw, slots_wipe]
          exact this
      refine ⟨hw, ?_⟩
      obtain ⟨k3, back3⟩ := back H2 P2.kp
      have l2 := (back3 _ P2.l1).1
      obtain ⟨oB, sB, owB, backB⟩ := Live.next l2 k3
      refine ⟨ρ2, oB, sB, P2.al, owB, ?_⟩
      cases ec : δc ρ2 with
      | no => simp only [ec] at ei; cases ei
      | ex _ _ => simp only [ec] at ei; cases ei
      | ok dc bc p1 ρ3 =>
        simp only [ec] at ei
        cases dc <;> first | (cases ei; done) | skip
        rename_i c
        cases c with
        | false =>
          intro H3 P3
          obtain ⟨k5, back5⟩ := backB H3 P3.kp
          have l3 := (back5 _ P3.l1).1
          rw [if_neg Bool.false_ne_true]
          refine fin P3.al k5 l3 (fun z => ?_) ei
          rw [Bool.and_eq_true] at z
          obtain ⟨e1, k1⟩ := pi z.1
          obtain ⟨e2, k2'⟩ := P3.pu z.2
          refine ⟨by rw [e2, gw, wri, e1], ?_⟩
          exact ((k1.trans kk fun _ z => nomatch z).trans K2 fun _ z => nomatch z).trans k2' fun _ z => nomatch z
        | true =>
          intro H3 P3
          obtain ⟨k5, back5⟩ := backB H3 P3.kp
          have l3 := (back5 _ P3.l1).1
          rw [if_pos rfl]
          obtain ⟨oC, sC, owC, backC⟩ := Live.next l3 k5
          refine ⟨ρ3, oC, sC, P3.al, owC, ?_⟩
          cases ee : δe ρ3 with
          | no => simp only [ee] at ei; cases ei
          | ex _ _ => simp only [ee] at ei; cases ei
          | ok y b p2 ρ4 =>
            simp only [ee] at ei
            split at ei
            · rename_i hz
              intro v H4 P4
              obtain ⟨k6, back6⟩ := backC H4 P4.kp
              have l4 := (back6 _ P4.l2).1
              have l5 : Live Γ (nO H o) (nS H o s) H4 ((.lst true acc, .ref D) :: ((y, v) :: (hold.zip hvs ++ slots (fz b ρ4) σ2))) := l4.perm (by
                show ((.lst true acc, V.ref D) :: (hold.zip hvs ++ ((y, v) :: slots (fz b ρ4) σ2))).Perm _
                exact List.perm_middle.cons _)
              obtain ⟨a, us, ea, eH, hl, po, lr⟩ := l5.openL
              cases ea
              have lr2 : LiveR Γ D (nO H o) (nS H o s) H4 ((acc ++ [y]).zip (us ++ [v]) ++ (hold.zip hvs ++ slots (fz b ρ4) σ2)) := lr.perm (by
                rw [zip_app hl]
                simp)
              have l6 := lr2.close (by simp [hl]) po (mut_lst eH)
              refine ⟨us, eH, by rw [← hl, sizeL]; exact hz, ?_⟩
              refine fin (P4.al.fz b) ?_ l6 (fun z => ?_) ei
              · intro b' x' e' n
                have ne : b' ≠ D := fun z => by
                  subst z
                  rcases po with po | po
                  · exact n po
                  · rw [e'] at po; cases po
                rw [upd_ne ne]
                exact k6 _ _ e' n
              · rw [Bool.and_eq_true, Bool.and_eq_true, Bool.and_eq_true] at z
                obtain ⟨⟨⟨z1, z2⟩, z3⟩, z4⟩ := z
                obtain ⟨e1, k1⟩ := pi z1
                obtain ⟨e2, k2'⟩ := P3.pu z2
                obtain ⟨e3, k3'⟩ := P4.pu z3
                have eb : b = [] := by simpa using z4
                subst eb
                refine ⟨by show wipeE ρ4 vs = _; rw [e3, e2, gw, wri, e1], fun b' x' e' n => ?_⟩
                have kall := (((k1.trans kk fun _ z => nomatch z).trans K2 fun _ z => nomatch z).trans k2' fun _ z => nomatch z).trans k3' fun _ z => nomatch z
                rw [upd_ne (ne_of_none e' hD)]
                exact kall _ _ e' n
            · cases ei
    · left
      have ei' : i = items.length := by omega
      subst ei'
      rw [List.drop_length] at ei
      have ei : RC.ok acc Pi ρi = .ok accF PF ρF := ei
      cases ei
      obtain ⟨oL, sL, owL, pL1, pL2⟩ := li.tail
      obtain ⟨oh, sh, os, ss, owh, ows, rfl, rfl⟩ := id owL.left
      obtain ⟨stp, _⟩ := P.it H' oh sh owh.1
      refine ⟨stp _ (Nat.le_refl _), ?_⟩
      have alo : Al σ ρF := ⟨by rw [← ali.len, wipe_length], fun j d e => by
        obtain ⟨v, hv⟩ := ali.has j d e
        exact ⟨v, by rw [wipe_out (avi j d e)] at hv; exact hv⟩⟩
      have lo : Live Γ (nO H o) (nS H o s) H' ((.lst true accF, .ref D) :: slots ρF σ) := by
        rw [slw ρF avi] at li
        exact (Live.perm (G' := hold.zip hvs ++ ((.lst true accF, .ref D) :: slots ρF σ)) li List.perm_middle.symm).right
      cases PF with
      | false =>
        simp only [Bool.false_eq_true, if_false] at h
        exact h _ H' ⟨alo, lo.tail, lo, ki, fun z => nomatch z⟩
      | true =>
        simp only [if_true] at h
        obtain ⟨rfl, k0⟩ := pi rfl
        refine h _ H' ⟨P.al.wipe vs, lw1.same k0, ?_, ki, fun z => ?_⟩
        · cases hi : imms accF with
          | false =>
            simp only [Bool.false_eq_true, if_false]
            exact lo
          | true =>
            simp only [if_true]
            -- the list alone is new
            obtain ⟨o9, s9, r9⟩ := lo.rep
            obtain ⟨a, ws, o', s', ea, r, ed, rfl, rfl⟩ := r9
            cases ea
            obtain ⟨rfl, rfl⟩ := r.imms hi
            obtain ⟨o8, s8, ow8, q1, q2⟩ := lw1
            have tr := ow8.trk
            refine ⟨[D] ++ o8, [] ++ s8, Own.mkc ⟨D, ws, [], [], rfl, r, ed, rfl, rfl⟩ (ow8.same k0) (by simp) (fun _ z => nomatch z) (fun b z => ?_) (fun _ z => nomatch z), fun b z => ?_, fun b z => q2 b (by simpa using z)⟩
            · simp at z; subst z
              refine ⟨fun z => ?_, fun z => tr.2 b z hD⟩
              have := tr.1 b z
              rw [hD] at this; exact this
            · rcases List.mem_append.mp z with z | z
              · simp at z; subst z; exact nOD
              · exact q1 b z
        · rw [Bool.and_eq_true] at z
          obtain ⟨e1, k1⟩ := P.pu z.1
          exact ⟨(noneAt_wipe z.2).trans e1, k1.trans k0 fun _ z => nomatch z⟩
theorem _root_.L2.PE.impL {X : Cx} {e : Expr} {t t' : TE} (h : PE X e t) (i : ∀ σ H Q, σ.length = X.N.length → t' σ H Q → t σ H Q) : PE X e t' := ⟨fun pins s σ H Q I q => h.run pins s σ H Q I (i σ H Q I.len q)⟩
theorem _root_.L2.PS.impL {X : Cx} {e : Stmt} {t t' : TS} (h : L2.PS X e t) (i : ∀ D σ H, σ.length = X.N.length → t' D σ H → t D σ H) : L2.PS X e t' := ⟨fun pins s σ H D I q => h.run pins s σ H D I (i D σ H I.len q)⟩
abbrev W0 : WX := fun _ _ _ _ => False
theorem epts_nil : PTs X [] (tB Γ W0 dTrue) := ⟨fun pins s σ H Q I q => pts_nil.run pins s σ H Q I (by
  obtain ⟨ρ, o, s, al, ow, h⟩ := q
  exact h H ⟨al, ow.live, ow.live.imm (d := .bl true) rfl ⟨rfl, rfl, rfl⟩, Keep.refl, fun _ => ⟨rfl, Keep.refl⟩⟩)⟩
theorem epts_one {c : Expr} (h : PT X c (tB Γ W0 δ)) : PTs X [c] (tB Γ W0 δ) := pts_one h
/-- [elt for tg in iter if ..] -/
theorem ed_comp {elt tg iter : Expr} {ifs : List Expr} {scope : Scope} (own : List (Str × Nat)) {pos : Pos} (hc : X.calm = true) (hN : X.N.Nodup) (hi : PI X tg iter (tIt Γ W δi)) (ok : BlkOk X.N X.env.scope scope own) (hgk : GOk (own.map (·.2)) g)
    (hg : ∀ (s : Shared) (H : Hp) (C : Addr) (cl : List (Str × Addr)) (fp : List Addr), PG (X.blk s H scope (compEnvC scope cl C X.env) fp) tg (tG Γ (cmpl (own.map (·.2)) X.N.length) g))
    (ht : ∀ (s : Shared) (H : Hp) (C : Addr) (cl : List (Str × Addr)) (fp : List Addr), PTs (X.blk s H scope (compEnvC scope cl C X.env) fp) ifs (tB Γ W0 δc))
    (he : ∀ (s : Shared) (H : Hp) (C : Addr) (cl : List (Str × Addr)) (fp : List Addr), PE (X.blk s H scope (compEnvC scope cl C X.env) fp) elt (tI Γ W0 δe)) (hs : ∀ x, foldedSetIterable iter X.env x = pure x := by intro _; rfl) :
    PE X (.ListComp elt [⟨tg, iter, ifs, 0⟩] scope pos) (tI Γ W (dComp δi g (own.map (·.2)) δc δe)) :=
  (pe_lc hc hN hi ok hg ht he hs).impL fun σ H Q hl q => comp_ent hgk hl q
/-- name = [..] on one line, the name a local of its own -/
theorem es_setComp {i : Nat} {y : Str} {py : Pos} {elt tg iter : Expr} {ifs : List Expr} {scope : Scope} (own : List (Str × Nat)) {pos spos : Pos} (hc : X.calm = true) (hN : X.N.Nodup) (hi : PI X tg iter (tIt Γ W δi)) (ok : BlkOk X.N X.env.scope scope own) (hgk : GOk (own.map (·.2)) g)
    (hg : ∀ (s : Shared) (H : Hp) (C : Addr) (cl : List (Str × Addr)) (fp : List Addr), PG (X.blk s H scope (compEnvC scope cl C X.env) fp) tg (tG Γ (cmpl (own.map (·.2)) X.N.length) g))
    (ht : ∀ (s : Shared) (H : Hp) (C : Addr) (cl : List (Str × Addr)) (fp : List Addr), PTs (X.blk s H scope (compEnvC scope cl C X.env) fp) ifs (tB Γ W0 δc))
    (he : ∀ (s : Shared) (H : Hp) (C : Addr) (cl : List (Str × Addr)) (fp : List Addr), PE (X.blk s H scope (compEnvC scope cl C X.env) fp) elt (tI Γ W0 δe))
    (hy : X.N[i]? = some y := by rfl) (hyl : X.env.scope.names.lookup y = some .local := by rfl) (hsw : swapsWith (.ListComp elt [⟨tg, iter, ifs, 0⟩] scope pos) (some (.Name y py)) spos.line X.env = pure true := by exact sw_true rfl rfl rfl (by decide +kernel))
    (hs : ∀ x, foldedSetIterable iter X.env x = pure x := by intro _; rfl) :
    L2.PS X (.Assign [.Name y py] (.ListComp elt [⟨tg, iter, ifs, 0⟩] scope pos) spos) (tS Γ W io (dAsg (sName io i) (dComp δi g (own.map (·.2)) δc δe))) :=
  (ps_setLc hc hN hy hyl hsw hi ok hg ht he hs).impL fun Z σ H hl q => by
    refine comp_ent hgk hl ((tS_asg q).mono fun v H1 z => ?_)
    obtain ⟨ρ, o, s, d, al, ow, ρ', e, k⟩ := z
    unfold sName at e
    split at e
    · rename_i hh
      cases e
      exact k _ _ ⟨al.set i d v, Live.setN al hh.1 ow.live, Keep.refl, fun j m => by
        rw [List.getElem?_set_ne (fun e => hh.2 (by rw [e]; exact m))]⟩ Keep.refl
    · cases e
end
end TB
end
section
set_option Elab.async false
set_option linter.all false
set_option maxRecDepth 100000
set_option maxHeartbeats 4000000
namespace TB
open PySem PySem.Spec L2
section
variable {Γ : Ctx} {X : Cx} {W : WX} {H H1 H2 H' : Hp} {o s : List Addr} {ρ ρ' ρ1 : VE} {σ : L2.St} {v : V} {vs : List V} {d : D} {bs : List Nat} {pu : Bool} {δ δa δb δc : Den} {δs : DenA} {Q : VK} {f : List D → Option D}
/-! ### list(x), tuple(x) -/
def gList : D → Option D
  | .lst _ xs => some (.lst true (frs xs))
  | .lk xs => some (.lst true (frs xs))
  | .tup xs => some (.lst true (frs xs))
  | _ => none
theorem opList_ok : OpS Γ (fun xs H Q => ∃ p ys, xs = [.ref p] ∧ (SqL Γ.K H p ys ∨ SqT Γ.K H p ys) ∧ ∀ l, H l = none → Q (.ref l) (upd H l (.lst ys))) (one gList) := OpS.newL fun ds vs H o s d rs e => by
  obtain ⟨a, rfl⟩ := one_shape ds d e
  obtain ⟨v, rfl, r⟩ := rs.one'
  have main : ∀ {xs : List D}, sv a = some xs → d = .lst true (frs xs) → ∃ es ws sw, d = .lst true es ∧ Reps Γ H es ws [] sw ∧ (∀ a ∈ sw, a ∈ o ∨ a ∈ s) ∧ ∀ Q : VK, (∀ p, H p = none → Q (.ref p) (upd H p (.lst ws))) → ∃ p ys, [v] = [V.ref p] ∧ (SqL Γ.K H p ys ∨ SqT Γ.K H p ys) ∧ ∀ l, H l = none → Q (.ref l) (upd H l (.lst ys)) := fun {xs} h1 h2 => by
    obtain ⟨p, us, o', s', rfl, r1, m1, m2, hq⟩ := r.seq h1
    obtain ⟨t, f, m⟩ := r1.frz
    exact ⟨_, us, t, h2, f, fun b z => (m b z).imp (m1 b) (m2 b), fun Q q => ⟨p, us, rfl, hq, q⟩⟩
  cases a <;> first | (cases e; done) | (cases e; exact main rfl rfl)
theorem ed_list {p pos : Pos} {a : Expr} (hK : X.K = Γ.K) (hm : X.mg "list" = none) (ha : PE X a (tI Γ W δ)) (hg : Gl X "list" := by rfl) (hs : starEach [a] X.env = [(false, eval a X.env)] := by rfl) : PE X (.Call (.Name "list" p) [a] [] pos) (tI Γ W (dOp (one gList) (dCons δ dNil))) :=
  ed_callTy opList_ok (hK ▸ call_list_of) hg hm (by decide +kernel) (ea_cons ha ea_nil hs) (by decide) (by decide) hs rfl
def gTuple : D → Option D
  | .lst _ xs => some (.tup (frs xs))
  | .lk xs => some (.tup (frs xs))
  | .tup xs => some (.tup (frs xs))
  | _ => none
theorem opTuple_ok : OpS Γ (fun xs H Q => ∃ p ys, xs = [.ref p] ∧ ((SqL Γ.K H p ys ∧ ∀ l, H l = none → Q (.ref l) (upd H l (.tup ys))) ∨ (SqT Γ.K H p ys ∧ Q (.ref p) H))) (one gTuple) := fun ds vs H o s d Q rs e q => by
  obtain ⟨a, rfl⟩ := one_shape ds d e
  obtain ⟨v, rfl, r⟩ := rs.one'
  cases a <;> first | (cases e; done) | cases e
  · obtain ⟨p, us, o', s', rfl, r1, m1, m2, h1⟩ := r.lstI
    obtain ⟨t, f, m⟩ := r1.frz
    exact ⟨p, us, rfl, .inl ⟨.of h1, fun l hl => q _ _ [] t ⟨l, us, rfl, f.new hl, .inl (.inl upd_same)⟩ .nil (fun _ m => nomatch m) (fun b z => (m b z).imp (m1 b) (m2 b)) (Keep.new hl)⟩⟩
  · obtain ⟨p, us, rfl, r1, n⟩ := r
    obtain ⟨t, f, m⟩ := r1.frz
    exact ⟨p, us, rfl, .inr ⟨n, q _ _ [] t ⟨p, us, rfl, f, n⟩ .nil (fun _ m => nomatch m) m Keep.refl⟩⟩
  · obtain ⟨p, us, rfl, r1, n⟩ := r
    obtain ⟨t, f, m⟩ := r1.frz
    exact ⟨p, us, rfl, .inl ⟨n.sq, fun l hl => q _ _ [] t ⟨l, us, rfl, f.new hl, .inl (.inl upd_same)⟩ .nil (fun _ m => nomatch m) m (Keep.new hl)⟩⟩
theorem ed_tuple {p pos : Pos} {a : Expr} (hK : X.K = Γ.K) (hm : X.mg "tuple" = none) (ha : PE X a (tI Γ W δ)) (hg : Gl X "tuple" := by rfl) (hs : starEach [a] X.env = [(false, eval a X.env)] := by rfl) : PE X (.Call (.Name "tuple" p) [a] [] pos) (tI Γ W (dOp (one gTuple) (dCons δ dNil))) :=
  ed_callTy opTuple_ok (hK ▸ call_tuple_of) hg hm (by decide +kernel) (ea_cons ha ea_nil hs) (by decide) (by decide) hs rfl
/-! ### isinstance -/
inductive Ty where | str | int | bool | list | tuple | dict
def Ty.nm : Ty → String
  | .str => "str"
  | .int => "int"
  | .bool => "bool"
  | .list => "list"
  | .tuple => "tuple"
  | .dict => "dict"
def tyOf : D → Option Ty
  | .bl _ => some .bool
  | .int _ => some .int
  | .str _ => some .str
  | .lst _ _ => some .list
  | .lk _ => some .list
  | .tup _ => some .tuple
  | .dK _ _ _ => some .dict
  | .dT _ _ _ => some .dict
  | _ => none
def isTy : Ty → D → Option Bool
  | .str, .str _ => some true
  | .int, .int _ => some true
  | .int, .bl _ => some true
  | .bool, .bl _ => some true
  | .list, .lst _ _ => some true
  | .list, .lk _ => some true
  | .tuple, .tup _ => some true
  | .dict, .dK _ _ _ => some true
  | .dict, .dT _ _ _ => some true
  | _, .obj _ _ _ _ => none
  | _, _ => some false
def kitT : Ty → Option Ty → Option Bool := fun b a => kitB (match a with | some a => a.nm | none => "NoneType") b.nm
def tyTab : Option Ty → Ty → Bool
  | some .str, .str => true
  | some .int, .int => true
  | some .bool, .int => true
  | some .bool, .bool => true
  | some .list, .list => true
  | some .tuple, .tuple => true
  | some .dict, .dict => true
  | _, _ => false
theorem kitT_ok (b : Ty) (a : Option Ty) : kitT b a = some (tyTab a b) := by
  cases b <;> (cases a with
    | none => decide +kernel
    | some a => cases a <;> decide +kernel)
theorem Rep.tyX {d : D} (r : Rep Γ H d v o s) (e : ∀ w c fs xs, d ≠ .obj w c fs xs) : TyX Γ.K H v (.type (match tyOf d with | some a => a.nm | none => "NoneType")) := by
  cases d with
  | non => obtain ⟨rfl, _⟩ := r; exact .base .non
  | bl b => obtain ⟨rfl, _⟩ := r; exact .base (.bl b)
  | int b => obtain ⟨rfl, _⟩ := r; exact .base (.int b)
  | str b => obtain ⟨rfl, _⟩ := r; exact .base (.str _)
  | lst w xs => obtain ⟨a, us, o', s', rfl, r1, n⟩ := r; exact .base (.lst n.it)
  | lk xs =>
    obtain ⟨a, us, rfl, r1, n⟩ := r
    rcases n with ⟨ob, n⟩ | ⟨ob, its, m, n, c, _⟩
    · exact .base (.frz n)
    · exact .kList n c
  | tup xs =>
    obtain ⟨a, us, rfl, r1, n⟩ := r
    rcases n with (n | ⟨ob, n⟩) | ⟨ob, its, m, n, c, _⟩
    · exact .base (.tup n)
    · exact .fTuple n
    · exact .kTuple n c
  | dK w ks xs => obtain ⟨a, us, o', s', rfl, _, r1, n⟩ := r; exact .base (.dK n.it)
  | dT w ks xs => obtain ⟨a, us, o', s', rfl, _, r1, n⟩ := r; exact .base (.dT n.it)
  | obj w c fs xs => exact absurd rfl (e w c fs xs)
def gIsi (t : Ty) : D → Option D := fun d => (isTy t d).map D.bl
theorem opIsi_ok (t : Ty) : OpS Γ (fun xs H Q => ∃ x, xs = [x] ∧ rIsi Γ.K [x, .ty t.nm] H Q) (one (gIsi t)) := OpS.val fun ds vs H o s d rs e => by
  obtain ⟨a, rfl⟩ := one_shape ds d e
  obtain ⟨v, rfl, r⟩ := rs.one'
  have e : (isTy t a).map D.bl = some d := e
  have no : ∀ w c fs xs, a ≠ .obj w c fs xs := fun w c fs xs z => by subst z; cases t <;> cases e
  have hk := kitT_ok t (tyOf a)
  refine ⟨.bl (tyTab (tyOf a) t), ?_, fun Q q => ⟨v, rfl, v, _, _, _, _, rfl, .ty _, r.tyX no, kit_ty hk, q⟩⟩
  cases t <;> cases a <;> first | (cases e; done) | (cases e; exact ⟨rfl, rfl, rfl⟩) | exact absurd rfl (no _ _ _ _)
theorem ed_isi (t : Ty) {p p2 pos : Pos} {a : Expr} {x : Str} (hx : x = Str.ofString t.nm) (hK : X.K = Γ.K) (hm : X.mg "isinstance" = none) (hm2 : X.mg x = none) (hv2 : bootBuiltins x = some (.type t.nm)) (hn2 : x ≠ "__name__") (hd2 : (x == ("__debug__" : Str)) = false) (ha : PE X a (tI Γ W δ)) (hg : Gl X "isinstance" := by rfl) (hg2 : Gl X x := by rfl)
    (hs : starEach [a, .Name x p2] X.env = (false, eval a X.env) :: starEach [.Name x p2] X.env := by rfl) (hs2 : starEach [.Name x p2] X.env = [(false, eval (.Name x p2) X.env)] := by rfl) (hpl : (backTo pos (starEach [.Name x p2] X.env)).any (·.1) = false := by rfl) : PE X (.Call (.Name "isinstance" p) [a, .Name x p2] [] pos) (tI Γ W (dOp (one (gIsi t)) (dCons δ dNil))) :=
  (pe_callB (call_isi) hg hm (by decide +kernel) (pa_cons ha (pa_cons (pe_bltn hg2 hm2 hv2 (v := .ty t.nm) rfl hn2 hd2) pa_nil hs2) hs) (by decide) (by decide) hs hpl).imp fun σ H Q q => by
    refine tI.mono (tA_cons (op_ent (opIsi_ok t) q)) fun v H1 z => ?_
    obtain ⟨x, e, k⟩ := tA_nil z
    cases e
    exact hK ▸ k
/-! ### join -/
def strs? : List D → Option (List (List Nat))
  | [] => some []
  | .str x :: ds => (strs? ds).map (x :: ·)
  | _ => none
theorem strs_ok : ∀ {ds : List D} {xs : List (List Nat)} {vs : List V} {o s : List Addr}, strs? ds = some xs → Reps Γ H ds vs o s → vs = (xs.map fun x => (⟨x.toArray⟩ : Str)).map V.str
  | [], _, _, _, _, e, h => by cases e; obtain ⟨rfl, _⟩ := h; rfl
  | .str i :: ds, _, _, _, _, e, h => by
    obtain ⟨v, vs', o1, s1, o2, s2, rfl, ⟨rfl, _⟩, h2, rfl, rfl⟩ := h
    cases e1 : strs? ds with
    | none => simp [strs?, e1] at e
    | some ns =>
      simp [strs?, e1] at e
      subst e
      rw [strs_ok e1 h2]; rfl
  | .non :: _, _, _, _, _, e, _ => by cases e
  | .bl _ :: _, _, _, _, _, e, _ => by cases e
  | .int _ :: _, _, _, _, _, e, _ => by cases e
  | .lst _ _ :: _, _, _, _, _, e, _ => by cases e
  | .tup _ :: _, _, _, _, _, e, _ => by cases e
  | .lk _ :: _, _, _, _, _, e, _ => by cases e
  | .dK _ _ _ :: _, _, _, _, _, e, _ => by cases e
  | .dT _ _ _ :: _, _, _, _, _, e, _ => by cases e
  | .obj _ _ _ _ :: _, _, _, _, _, e, _ => by cases e
theorem strs_map : ∀ ns : List (List Nat), strs? (ns.map D.str) = some ns
  | [] => rfl
  | n :: ns => by simp [strs?, strs_map ns]
/-- joined lists -/
abbrev joinN : List Nat → List (List Nat) → List Nat := TL.joinL
theorem joinN_ok (S : List Nat) (xs : List (List Nat)) : Txt.join ⟨S.toArray⟩ (xs.map fun x => (⟨x.toArray⟩ : Str)) = ⟨(joinN S xs).toArray⟩ := by
  rw [TL.join_eq]
  have h := TL.tl_join ⟨S.toArray⟩ (xs.map fun x => (⟨x.toArray⟩ : Str))
  have e1 : TL.tl ⟨S.toArray⟩ = S := rfl
  have e2 : (xs.map fun x => (⟨x.toArray⟩ : Str)).map TL.tl = xs := by
    rw [List.map_map]
    have : (TL.tl ∘ fun x => (⟨x.toArray⟩ : Str)) = id := by funext x; rfl
    rw [this, List.map_id]
  rw [e1, e2] at h
  generalize Str.join ⟨S.toArray⟩ (xs.map fun x => (⟨x.toArray⟩ : Str)) = y at *
  obtain ⟨y⟩ := y
  have h : y.toList = joinN S xs := h
  rw [← h]
def gJoin (S : List Nat) : D → Option D := fun d => match sv d with
  | some ds => (match strs? ds with
    | some xs => if (xs.map List.length).sum + xs.length * S.length ≤ 16777216 then some (.str (joinN S xs)) else none
    | none => none)
  | none => none
theorem opJoin_ok (S : List Nat) : OpS Γ (fun vs H Q => ∃ x, vs = [x] ∧ ∃ p, ∃ ys : List Str, x = .ref p ∧ (SqL Γ.K H p (ys.map V.str) ∨ SqT Γ.K H p (ys.map V.str)) ∧ (ys.map (·.length)).sum + ys.length * S.length ≤ 16777216 ∧ Q (.str (Txt.join ⟨S.toArray⟩ ys)) H) (one (gJoin S)) := OpS.val fun ds vs H o s d rs e => by
  obtain ⟨a, rfl⟩ := one_shape ds d e
  obtain ⟨v, rfl, r⟩ := rs.one'
  have e : gJoin S a = some d := e
  unfold gJoin at e
  cases e1 : sv a with
  | none => rw [e1] at e; cases e
  | some es =>
    simp only [e1] at e
    cases e2 : strs? es with
    | none => rw [e2] at e; cases e
    | some xs =>
      simp only [e2] at e
      split at e
      · rename_i hz
        cases e
        obtain ⟨p, us, o', s', rfl, r1, m1, m2, hq⟩ := r.seq e1
        have eu := strs_ok e2 r1
        subst eu
        refine ⟨.str ⟨(joinN S xs).toArray⟩, ⟨rfl, rfl, rfl⟩, fun Q q => ⟨_, rfl, p, _, rfl, hq, ?_, ?_⟩⟩
        · rw [List.map_map, List.length_map]
          have : ((fun x : Str => x.length) ∘ fun x : List Nat => (⟨x.toArray⟩ : Str)) = List.length := by funext x; rfl
          rw [this]; exact hz
        · rw [joinN_ok]; exact q
      · cases e
theorem ed_join (l : List Nat) {x : Str} {e : Expr} {j : Nat} {p apos pos : Pos} (hx : x = ⟨l.toArray⟩) (hK : X.K = Γ.K) (he : PE X e (tI Γ W δ)) (hs : starEach [e] X.env = [(false, eval e X.env)] := by rfl) (hbase : attributeBase (.Constant (.str x) j p) "join" X.env (eval (.Constant (.str x) j p) X.env) = eval (.Constant (.str x) j p) X.env := by rfl) (hline : (apos.endLine == pos.line) = true := by rfl) :
    PE X (.Call (.Attribute (.Constant (.str x) j p) "join" apos) [e] [] pos) (tI Γ W (dOp (one (gJoin l)) (dCons δ dNil))) :=
  (pe_join pe_str he hs hbase hline).imp fun σ H Q q => by
    refine ⟨⟨_, rfl⟩, tI.mono (tA_cons (op_ent (opJoin_ok l) q)) fun v H1 z => ?_⟩
    obtain ⟨x', e', p', ys, ex, hq, hz, k⟩ := tA_nil z
    cases e'
    subst hx
    exact ⟨_, p', ys, rfl, by rw [ex], hK ▸ hq, hz, k⟩
end
end TB
end
section
set_option Elab.async false
set_option linter.all false
set_option maxRecDepth 100000
set_option maxHeartbeats 4000000
namespace TB
open PySem PySem.W PySem.Calls PyProof.Rows PySem.Spec
/-! ### an own error's __init__: super().__init__(a, ..), then self.a = a, .. -/
abbrev FP := Str × Pos × Pos × Pos × Pos
def stB : List FP → List Stmt
  | [] => []
  | (f, q1, q2, q3, q4) :: r => .Assign [.Attribute (.Name "self" q1) f q2] (.Name f q3) q4 :: stB r
def nmB : List (Str × Pos) → List Expr
  | [] => []
  | (f, p) :: r => .Name f p :: nmB r
/-- fields stored, one by one -/
def mput (m0 : Str → Option Value) : List Str → List Value → Str → Option Value
  | f :: fs, u :: us => mput (fun y => if y = f then some u else m0 y) fs us
  | _, _ => m0
section
variable {prog : Program} {w : World} {A : Around} {E : Value → Shared → Prop} {K : Frag}
theorem spl_names {name : Str} {scope : Scope} {L a : Addr} {cd : Value} {cc : Addr} {m : Str → Option Value} {pos : Pos} (hk : scope.kind = .function) : ∀ {ns : List (Str × Pos)} {us : List Value} {s : Shared} {Q : List Value → Shared → Prop}, s.heap.Ns L m →
    (∀ x ∈ ns, scope.names.lookup x.1 = some .local ∧ (x.1 == ("__debug__" : Str)) = false) → ns.map (fun x => m x.1) = us.map some → Q us s → wpAny (model prog w) A (spliced (backTo pos (starEach (nmB ns) (ksEnv name scope L a cd cc)))) Q E s
  | [], [], s, Q, hn, hx, e, q => args_nil q
  | [], _ :: _, _, _, _, _, e, _ => by simp at e
  | _ :: _, [], _, _, _, _, e, _ => by simp at e
  | (f, p) :: ns, u :: us, s, Q, hn, hx, e, q => by
    simp only [List.map_cons, List.cons.injEq] at e
    refine args_cons (wpAny_Name (wpAny_loadName_local hk (hx (f, p) List.mem_cons_self).1 hn e.1 ?_) (hx (f, p) List.mem_cons_self).2) ?_
    · exact spl_names hk hn (fun x z => hx x (List.mem_cons_of_mem _ z)) e.2 q
    · rfl
theorem nm_plain {name : Str} {scope : Scope} {L a : Addr} {cd : Value} {cc : Addr} {pos : Pos} : ∀ (ns : List (Str × Pos)), (backTo pos (starEach (nmB ns) (ksEnv name scope L a cd cc))).any (·.1) = false
  | [] => rfl
  | (f, p) :: ns => by
    have e : starEach (nmB ((f, p) :: ns)) (ksEnv name scope L a cd cc) = (false, eval (.Name f p) (ksEnv name scope L a cd cc)) :: starEach (nmB ns) (ksEnv name scope L a cd cc) := rfl
    rw [e]
    show (false || (backTo pos (starEach (nmB ns) (ksEnv name scope L a cd cc))).any (·.1)) = false
    rw [nm_plain ns]
    rfl
theorem kxs_call0 {h : Heap} {g : Array GenState} {d : Drawn} {t : Nat} {os : OsState} {u e t0 C : Addr} {rest : List Value} {Q : Value → Shared → Prop} (T : L2.OexC K C) (X : K.In h) (he : h.get? e = some (HandSPX.excO C t0)) (hu : h.get? u = some (kxs_mw "ValueError.__init__" e)) (hz : rest.length ≤ sizeLine)
    (hq : ∀ h' t1, (∀ b o, b ≠ e → h.get? b = some o → h'.get? b = some o) → h'.get? e = some (HandSPX.excO C t1) → Q .none ⟨h', g, d, t, os⟩) : wpAny (model prog w) A (call (.ref u) rest) Q E ⟨h, g, d, t, os⟩ := by
  obtain ⟨nm, q, N, bs, bm, sn, sub, ab, col, dd, k0, k1, k2, k3, k5, hC, hbm⟩ := T.cls
  refine wpAny_call (codeAny_of_tree ?_)
  show wpAny _ A.in1 (callAny (.ref u) ⟨rest, []⟩) _ _ _
  simp only [callAny]
  refine wpAny_bind (wpAny_load hu ?_)
  simp only [kxs_mw, show (Value.type "method-wrapper" == Value.type "method" || Value.type "method-wrapper" == Value.type "builtin_function_or_method" || Value.type "method-wrapper" == Value.type "method-wrapper") = true by decide, if_true]
  refine KFB.if_so (by decide) ?_
  refine wpAny_bind (check_bound_init F.excBase_ValueError.toExcCallFacts (X _ _ hC) he rfl ?_)
  refine wpAny_bind (wpAny_pure (wpAny_pure ?_))
  refine ⟨plainId_quiet F.excBase_ValueError.init.plain _, codeAny_builtin F.excBase_ValueError.initEntry ?_⟩
  exact exc_init_tree (cls := .ref C) (t0 := t0) (dv := none) (c2 := .none) (c3 := .none) (b4 := .bool false) he hz fun h' k e' _ => hq h' _ k e'
/-- what the written part says of such a class and of its __init__ -/
structure ErrC (P : Program) (K : Frag) (C fI : Addr) (ps : List Str) (params : Arguments) (body : List Stmt) (scope : Scope) (fd : FuncData) : Prop where
  oex : L2.OexC K C
  iC : findIn K (.ref C) "__init__" = some (some (.ref fI))
  tI : typeIn K (.ref fI) = some (.type "function")
  no : ∀ f ∈ ps, findIn K (.ref C) f = some none
  opq : nsIn K cStatics "thirdparty.any" = some none
  sup : ks_superIn K C C "__init__" = some (some (.builtin "ValueError.__init__"))
  ve : subIn K (.ref C) (.type "ValueError") = some true
  own : mroIn K C (.ref C) = some true
  hasD : hasDictIn K C = true
  top : (P.main.scope.names.lookup ("super" : Str)).isSome = false
  fn : ∃ (qual : Str) (kV doc pm ct oc : Value) (an od : Option Addr) (osl : Array (Option Value)) (cda cc : Addr) (ccl cl : Value) (cdd cld : Option Addr) (ccs csl : Array (Option Value)) (vs : Array Value) (file : Str) (tf : Tok),
    fd = ksFn "__init__" qual params body scope .none kV doc pm an (.ref cda) ct cc ∧ K.lookup fI = some ⟨oc, od, .func fd, osl⟩ ∧ codeIn K (.ref cda) qual = true ∧ K.lookup cc = some ⟨cl, cld, .cell (some (.ref C)), csl⟩ ∧ K.lookup cda = some ⟨ccl, cdd, .fields vs, ccs⟩ ∧ vs[2]? = some (.str file tf) ∧ ((P.main.file : Str) == file) = true
/-- its scope: self and the fields local, super from outside, the class by its cell -/
structure ErrS (ps : List Str) (sc : Scope) : Prop where
  kind : sc.kind = .function
  co : sc.isCoroutine = false
  gen : sc.isGenerator = false
  nocell : ∀ x ∈ sc.names, x.2 ≠ .cell
  sup : sc.names.lookup ("super" : Str) = some .globalImplicit
  cls : sc.names.lookup ("__class__" : Str) = some .free
  loc : ∀ x ∈ ("self" : Str) :: ps, sc.names.lookup x = some .local ∧ (x == ("__debug__" : Str)) = false
theorem sup_step {C fI L cc cda x t0 : Addr} {ps : List Str} {ns : List (Str × Pos)} {qual : Str} {params : Arguments} {body body' : List Stmt} {scope : Scope} {kV doc pm ct oc ccl cl : Value} {an od cdd cld : Option Addr} {osl ccs csl : Array (Option Value)} {vs : Array Value} {file : Str} {tf : Tok} {fd : FuncData}
    {m mg mb : Str → Option Value} {us : List Value} {s : Shared} {Q : Flow → Shared → Prop} {p0 p1 p2 p3 p4 : Pos} {ar : Arg}
    (T : ErrC prog K C fI ps params body scope fd) (S : ErrS ps scope) (hfd : fd = ksFn "__init__" qual params body scope .none kV doc pm an (.ref cda) ct cc) (lk : K.lookup fI = some ⟨oc, od, .func fd, osl⟩) (lc : K.lookup cc = some ⟨cl, cld, .cell (some (.ref C)), csl⟩) (ld : K.lookup cda = some ⟨ccl, cdd, .fields vs, ccs⟩) (hvs : vs[2]? = some (.str file tf)) (hfile : ((prog.main.file : Str) == file) = true)
    (hp : (params.posonlyargs ++ params.args).head? = some ar) (har : ar.arg = "self")
    (X : K.In s.heap) (hn : s.heap.Ns L m) (G : s.heap.Ns mainGlobals mg) (hmg : mg "super" = none) (B : s.heap.Ns builtinsNs mb) (hmb : mb "super" = some (.type "super")) (hx : s.heap.get? x = some (HandSPX.excO C t0)) (hv : m "self" = some (.ref x)) (hLx : L ≠ x)
    (hne : ns ≠ []) (hns : ns.map (fun x => m x.1) = us.map some) (hloc : ∀ x ∈ ns, scope.names.lookup x.1 = some .local ∧ (x.1 == ("__debug__" : Str)) = false) (hz : us.length ≤ sizeLine)
    {pl : Sem Bool} (hi : interactive (ksEnv qual scope L fI (.ref cda) cc) = false)
    (hc : eval (.Call (.Attribute (.Call (.Name "super" p0) [] [] p1) "__init__" p2) (nmB ns) [] p3) (ksEnv qual scope L fI (.ref cda) cc) = (do
      let ov ← attributeBase (.Call (.Name "super" p0) [] [] p1) "__init__" (ksEnv qual scope L fI (.ref cda) cc) (eval (.Call (.Name "super" p0) [] [] p1) (ksEnv qual scope L fI (.ref cda) cc))
      standAt p2.atName
      let (f, first) ← holding [ov] (getMethod ov "__init__" pl)
      callWith p3 f first (backTo p3 (starEach (nmB ns) (ksEnv qual scope L fI (.ref cda) cc))) []))
    (hq : ∀ h' tk t1, (∀ b o, b ≠ x → s.heap.get? b = some o → h'.get? b = some o) → h'.get? x = some (HandSPX.excO C t1) → Q .next { s with heap := h', toks := tk }) :
    _root_.PySem.wpAt (model prog w) A (.func body' (ksEnv qual scope L fI (.ref cda) cc)) (exec (.Expr (.Call (.Attribute (.Call (.Name "super" p0) [] [] p1) "__init__" p2) (nmB ns) [] p3) p4) (ksEnv qual scope L fI (.ref cda) cc)) Q E s := by
  have hcl : ∃ cd, clsIn K C = some cd := by
    have := T.hasD
    unfold hasDictIn at this
    cases e : clsIn K C with
    | none => rw [e] at this; cases this
    | some cd => exact ⟨cd, rfl⟩
  obtain ⟨cd, hcd⟩ := hcl
  obtain ⟨hh, g, d, t, os⟩ := s
  obtain ⟨oD, hD1, hD2⟩ : ∃ oD, hh.get? C = some oD ∧ oD.data = .cls cd := by
    unfold clsIn at hcd
    split at hcd
    · rename_i c d cd' sl ho
      cases hcd
      exact ⟨_, X _ _ ho, rfl⟩
    · cases hcd
  refine ks_wpAt_Expr_any (hi := hi) ?_
  refine ks_wpAt_MethodCall (he := hc) ?_
  refine ks_wpAt_super_base (env := ksEnv qual scope L fI (.ref cda) cc) S.sup S.cls (by decide) rfl (X _ _ lk) rfl (ar := ar) (by rw [hfd]; exact hp) rfl (X _ _ ld) rfl hvs hfile T.top ?_
  refine ks_loadName_global S.kind S.sup (loadGlobal_builtin (env := ksEnv qual scope L fI (.ref cda) cc) G hmg B hmb ⟨rfl, ?_⟩)
  refine wpAny_loadName_free S.kind S.cls rfl ⟨_, X _ _ lc, rfl⟩ ?_
  rw [har]
  refine wpAny_loadName_local S.kind (S.loc "self" List.mem_cons_self).1 hn hv ?_
  refine ks_wpAny_isType_cls hD1 hD2 ⟨rfl, ?_⟩
  refine ks_wpAny_call_super hD1 hD2 hx rfl (fun c e => nomatch e) (looks_mroIn X T.own) (fun h1 e k => ?_)
  have X1 : K.In h1 := X.keeps k
  have hx1 := k _ _ hx
  have hxC : x ≠ C := fun z => by
    subst z
    rw [hx] at hD1
    cases hD1
    cases hD2
  have J : InstAt h1 x (HandSPX.excO C t0) C none := ⟨hx1, rfl, rfl, trivial⟩
  refine kxs_getMethod kxs_ValueError e (looks_opaque X1 T.opq) (l₀ := cd.mro) ?_ rfl X1 ?_ (J.type.andThen (looks_subIn X1 T.ve)) hxC (by decide) ?_
  · exact fun A Q E s k q => wpAny_bind ((looks_clsIn X1 hcd) A _ E s k (wpAny_pure q))
  · have := T.sup
    unfold ks_superIn at this
    rw [hcd] at this
    exact this
  have k2 : ∀ b o, h1.get? b = some o → (h1.push (kxs_mw "ValueError.__init__" x)).get? b = some o := fun b o e => Heap.get?_push_of_some _ e
  have hu : (h1.push (kxs_mw "ValueError.__init__" x)).get? h1.objs.size = some (kxs_mw "ValueError.__init__" x) := Heap.get?_push_size _ rfl
  refine kxs_callWith (i := "ValueError.__init__") (x := x) (nm_plain ns) ?_
  have ev : ∀ {Q : Args → Shared → Prop} {s2 : Shared}, s2.heap.Ns L m → Q ⟨us, []⟩ s2 → wpAny (model prog w) A (evalArgs (.ref h1.objs.size) true (backTo p3 (starEach (nmB ns) (ksEnv qual scope L fI (.ref cda) cc))) []) Q E s2 := fun {Q s2} hn2 q => by
    cases ns with
    | nil => exact absurd rfl hne
    | cons n ns =>
      obtain ⟨f, p⟩ := n
      have e : starEach (nmB ((f, p) :: ns)) (ksEnv qual scope L fI (.ref cda) cc) = (false, eval (.Name f p) (ksEnv qual scope L fI (.ref cda) cc)) :: starEach (nmB ns) (ksEnv qual scope L fI (.ref cda) cc) := rfl
      have q2 := spl_names (prog := prog) (w := w) (A := A) (E := E) (pos := p3) (name := qual) (a := fI) (cd := .ref cda) (cc := cc) (Q := fun vs s' => Q ⟨vs, []⟩ s') S.kind hn2 hloc hns q
      rw [e] at q2 ⊢
      exact evalArgs_plain q2
  refine ev (hn.at fun o e2 => k2 _ _ (k _ _ e2)) ⟨hu, ?_⟩
  refine kxs_call0 T.oex (X1.keeps k2) (k2 _ _ hx1) hu hz fun h' t1 k3 hx3 => ?_
  exact hq h' _ t1 (fun b o hb e => k3 b o hb (k2 b o (k b o e))) hx3
end
end TB
end
section
set_option Elab.async false
set_option linter.all false
set_option maxRecDepth 100000
set_option maxHeartbeats 4000000
namespace TB
open PySem PySem.W PySem.Calls PyProof.Rows PySem.Spec
abbrev exF (C t1 : Addr) (dv : Option Addr) : Obj := { cls := .ref C, dict := dv, data := .fields #[.ref t1, .none, .none, .none, .bool false, .none] }
section
variable {prog : Program} {w : World} {A : Around} {E : Value → Shared → Prop} {K : Frag}
/-- the fields behind the first -/
theorem sts_old {C fI L cc x t1 dx : Addr} {cda : Value} {qual : Str} {scope : Scope} {m : Str → Option Value} (T : L2.OexC K C) (hcls : ∃ cd, clsIn K C = some cd ∧ HandSPX.refsVE cd.mro = true ∧ cd.hasDict = true) (hk : scope.kind = .function) (hself : scope.names.lookup ("self" : Str) = some .local) (hv : m "self" = some (.ref x)) (hLx : L ≠ x) (hLd : L ≠ dx) (hxd : x ≠ dx)
    (hKd : K.lookup dx = none) :
    ∀ (fs : List FP) (us : List Value) (s : Shared) (m0 : Str → Option Value) (nl : List Str) (Q : Flow → Shared → Prop),
    K.In s.heap → s.heap.Ns L m → s.heap.get? x = some (exF C t1 (some dx)) → s.heap.Ns1 dx m0 → Within m0 nl → nl.length + fs.length ≤ 1000 → fs.map (fun f => m f.1) = us.map some →
    (∀ f ∈ fs, findIn K (.ref C) f.1 = some none ∧ scope.names.lookup f.1 = some .local ∧ (f.1 == ("__debug__" : Str)) = false) →
    (∀ h' tk, (∀ b o, b ≠ dx → s.heap.get? b = some o → h'.get? b = some o) → h'.get? x = some (exF C t1 (some dx)) → h'.Ns1 dx (mput m0 (fs.map (·.1)) us) → Q .next { s with heap := h', toks := tk }) →
    wpAny (model prog w) A (execs (stB fs) (ksEnv qual scope L fI cda cc)) Q E s := by
  obtain ⟨cd, hcd, hm, hh⟩ := hcls
  intro fs
  induction fs with
  | nil =>
    intro us s m0 nl Q X hn hx hns hw hz hus hno hq
    cases us with
    | nil => exact wpAny_execs_nil (hq s.heap s.toks (fun _ _ _ e => e) hx hns)
    | cons _ _ => simp at hus
  | cons f fs ih =>
    obtain ⟨f, q1, q2, q3, q4⟩ := f
    intro us s m0 nl Q X hn hx hns hw hz hus hno hq
    cases us with
    | nil => simp at hus
    | cons u us =>
      simp only [List.map_cons, List.cons.injEq] at hus
      obtain ⟨h1, h2, h3⟩ := hno _ List.mem_cons_self
      show wpAny _ _ (execs (.Assign [.Attribute (.Name "self" q1) f q2] (.Name f q3) q4 :: stB fs) _) _ _ _
      refine wpAny_execs_cons (plainObj_wpAny_Assign_Attribute ?_)
      refine wpAny_Name (wpAny_loadName_local hk h2 hn hus.1 ?_) h3
      refine wpAny_Name (wpAny_loadName_local hk hself hn hv ?_) (by decide)
      obtain ⟨oD, _, _, hoD, _, _⟩ := hns.count hw
      obtain ⟨hp, g, d, t, os⟩ := s
      refine set_plain X (ox := exF C t1 (some dx)) (od := some oD) ⟨hx, rfl, rfl, hoD⟩ T.sa ?_
      refine PySem.OEX.osa_old X hx hns hw (by simp only [List.length_cons] at hz; omega) hcd hm hh h1 (fun h' tk' k hn' => ?_)
      refine ih us ⟨h', g, d, tk', os⟩ _ (f :: nl) Q (fun a o e => k a o (fun z => by rw [z, hKd] at e; cases e) (X a o e)) (hn.at fun o e => k _ _ hLd e) (k _ _ hxd hx) hn' ?_ (by simp only [List.length_cons] at hz ⊢; omega) hus.2 (fun f' hf => hno f' (List.mem_cons_of_mem _ hf)) fun h2 tk2 k2 hx2 hn2 => ?_
      · exact hw.cons f u
      · exact hq h2 tk2 (fun b o hb e => k2 b o hb (k b o hb e)) hx2 hn2
/-- the first field, then the rest -/
theorem sts_new {C fI L cc x t1 : Addr} {cda : Value} {qual : Str} {scope : Scope} {m : Str → Option Value} (T : L2.OexC K C) (hcls : ∃ cd, clsIn K C = some cd ∧ HandSPX.refsVE cd.mro = true ∧ cd.hasDict = true) (hk : scope.kind = .function) (hself : scope.names.lookup ("self" : Str) = some .local) (hv : m "self" = some (.ref x)) (hLx : L ≠ x)
    (hKx : K.lookup x = none) {fs : List FP} {us : List Value} {s : Shared} {Q : Flow → Shared → Prop} (hne : fs ≠ []) (hl : fs.length ≤ 900)
    (X : K.In s.heap) (hn : s.heap.Ns L m) (hx : s.heap.get? x = some (exF C t1 none)) (hus : fs.map (fun f => m f.1) = us.map some)
    (hno : ∀ f ∈ fs, findIn K (.ref C) f.1 = some none ∧ scope.names.lookup f.1 = some .local ∧ (f.1 == ("__debug__" : Str)) = false)
    (hq : ∀ h' tk dx, s.heap.objs.size ≤ dx → dx ≠ x → (∀ b o, b ≠ x → s.heap.get? b = some o → h'.get? b = some o) → h'.get? x = some (exF C t1 (some dx)) → h'.Ns1 dx (mput (fun _ => none) (fs.map (·.1)) us) → Q .next { s with heap := h', toks := tk }) :
    wpAny (model prog w) A (execs (stB fs) (ksEnv qual scope L fI cda cc)) Q E s := by
  obtain ⟨cd, hcd, hm, hh⟩ := id hcls
  cases fs with
  | nil => exact absurd rfl hne
  | cons f fs =>
    obtain ⟨f, q1, q2, q3, q4⟩ := f
    cases us with
    | nil => simp at hus
    | cons u us =>
      simp only [List.map_cons, List.cons.injEq] at hus
      obtain ⟨h1, h2, h3⟩ := hno _ List.mem_cons_self
      show wpAny _ _ (execs (.Assign [.Attribute (.Name "self" q1) f q2] (.Name f q3) q4 :: stB fs) _) _ _ _
      refine wpAny_execs_cons (plainObj_wpAny_Assign_Attribute ?_)
      refine wpAny_Name (wpAny_loadName_local hk h2 hn hus.1 ?_) h3
      refine wpAny_Name (wpAny_loadName_local hk hself hn hv ?_) (by decide)
      obtain ⟨hp, g, d, t, os⟩ := s
      refine set_plain X (ox := exF C t1 none) (od := none) ⟨hx, rfl, rfl, trivial⟩ T.sa ?_
      refine HandSPX.exc_osa X hx hcd hm hh h1 (fun h' tk' dx k dn dne hx' hn' => ?_)
      have hLd : L ≠ dx := Nat.ne_of_lt (Nat.lt_of_lt_of_le hn.lt dn)
      have hKd : K.lookup dx = none := by
        cases e : K.lookup dx with
        | none => rfl
        | some o => exact absurd (Nat.lt_of_lt_of_le (Heap.lt_size (X _ _ e)) dn) (Nat.lt_irrefl _)
      refine sts_old T hcls hk hself hv hLx hLd (Ne.symm dne) hKd fs us ⟨h', g, d, tk', os⟩ _ [f] Q (fun a o e => k a o (fun z => by rw [z, hKx] at e; cases e) (X a o e)) (hn.at fun o e => k _ _ hLx e) hx' hn' ?_ (by simp only [List.length_cons, List.length_nil] at hl ⊢; omega) hus.2 (fun f' hf => hno f' (List.mem_cons_of_mem _ hf)) fun h2 tk2 k2 hx2 hn2 => ?_
      · exact Within.cons (m := fun _ => none) (ns := []) f u fun y hy => absurd rfl hy
      · exact hq h2 tk2 dx dn dne (fun b o hb e => k2 b o (fun z => by
          have := Heap.lt_size e
          rw [z] at this
          exact absurd (Nat.lt_of_lt_of_le this dn) (Nat.lt_irrefl _)) (k b o hb e)) hx2 hn2
end
end TB
end
section
set_option Elab.async false
set_option linter.all false
set_option maxRecDepth 100000
set_option maxHeartbeats 4000000
namespace TB
open PySem PySem.W PySem.Calls PyProof.Rows PySem.Spec
theorem lookup_nd {α : Type} : ∀ {l : List (Str × α)} {k : Str} {v : α}, (l.map (·.1)).Nodup → (k, v) ∈ l → l.lookup k = some v
  | [], _, _, _, h => nomatch h
  | (k', v') :: l, k, v, nd, h => by
    rcases List.mem_cons.mp h with e | e
    · cases e
      simp [List.lookup]
    · have nd' := List.nodup_cons.mp nd
      have h1 : k ≠ k' := fun z => nd'.1 (by rw [← z]; exact List.mem_map_of_mem (f := (·.1)) e)
      have h2 : (k == k') = false := by simpa using h1
      simp only [List.lookup, h2]
      exact lookup_nd nd'.2 e
theorem zip_keys : ∀ {ps : List Str} {us : List Value}, ps.length = us.length → (ps.zip us).map (·.1) = ps
  | [], [], _ => rfl
  | [], _ :: _, h => by simp at h
  | _ :: _, [], h => by simp at h
  | p :: ps, u :: us, h => by simp [zip_keys (ps := ps) (us := us) (by simpa using h)]
theorem look_rev {ps : List Str} {us : List Value} (nd : ps.Nodup) (hl : ps.length = us.length) {p : Str} {u : Value} (h : (p, u) ∈ ps.zip us) : (ps.zip us).reverse.lookup p = some u := by
  refine lookup_nd ?_ (List.mem_reverse.mpr h)
  rw [List.map_reverse, zip_keys hl]
  exact (List.reverse_perm ps).nodup_iff.mpr nd
theorem look_all {ps : List Str} {us : List Value} (nd : ps.Nodup) (hl : ps.length = us.length) (k : Str) (x : Value) (hk : k ∉ ps) : ps.map (fun p => ((k :: ps).zip (x :: us)).reverse.lookup p) = us.map some := by
  have nd' : (k :: ps).Nodup := List.nodup_cons.mpr ⟨hk, nd⟩
  have key : ∀ (qs : List Str) (vs : List Value), qs.length = vs.length → (∀ y ∈ qs.zip vs, y ∈ (k :: ps).zip (x :: us)) → qs.map (fun p => ((k :: ps).zip (x :: us)).reverse.lookup p) = vs.map some := by
    intro qs
    induction qs with
    | nil => intro vs h _; cases vs with | nil => rfl | cons _ _ => simp at h
    | cons q qs ih =>
      intro vs h hm
      cases vs with
      | nil => simp at h
      | cons v vs =>
        rw [List.map_cons, List.map_cons, look_rev nd' (by simpa using hl) (hm (q, v) (by simp)), ih vs (by simpa using h) fun y hy => hm y (by simp [hy])]
  exact key ps us hl fun y hy => by simp [hy]
theorem relO_all : ∀ (ps : List Str) {ys : List L2.V} {us : List Value} {acc : List (Str × L2.V)} {m0 : Str → Option Value}, L2.Vals ys us → (∀ f, L2.RelO (acc.lookup f) (m0 f)) → ∀ f, L2.RelO (((ps.zip ys).reverse ++ acc).lookup f) (mput m0 ps us f)
  | [], _, _, _, _, _, h, f => by simpa [mput] using h f
  | p :: ps, _, _, acc, m0, r, h, f => by
    cases r with
    | nil => simpa [mput] using h f
    | @cons y u ys us ry rr =>
      have := relO_all ps (acc := (p, y) :: acc) (m0 := fun z => if z = p then some u else m0 z) rr (L2.relO_put ry h) f
      simpa [mput] using this
/-- what it promises: the exception's dict stands, the fields in it -/
def spInit (C : Addr) (ps : List Str) : L2.Sp := fun vs H Q _ => ∃ (a : Addr) (ys : List L2.V), vs = .ref a :: ys ∧ ys.length = ps.length ∧ H a = some (L2.exo a C none) ∧ ∀ dx, H dx = none → dx ≠ a → Q .non (L2.upd (L2.upd H dx (L2.exd dx (ps.zip ys).reverse)) a (L2.exo a C (some dx)))
open L2 in
theorem init_ok {P : Program} {w : World} {K : Frag} {mg : Str → Option Value} {base : Heap} {C fI : Addr} {ps : List Str} {params : Arguments} {scope : Scope} {fd : FuncData} {fs : List FP} {ns : List (Str × Pos)} {p0 p1 p2 p3 p4 : Pos} {ar : Arg}
    (T : ErrC P K C fI ps params (.Expr (.Call (.Attribute (.Call (.Name "super" p0) [] [] p1) "__init__" p2) (nmB ns) [] p3) p4 :: stB fs) scope fd) (S : ErrS ps scope) (hps : ps ≠ []) (hl : ps.length ≤ 900) (hnd : (("self" : Str) :: ps).Nodup) (hfs : fs.map (·.1) = ps) (hns : ns.map (·.1) = ps)
    (hp : (params.posonlyargs ++ params.args).head? = some ar) (har : ar.arg = "self") (hmg : mg "super" = none)
    (hi : ∀ (qual : Str) (L cc : Addr) (cda : Value), interactive (ksEnv qual scope L fI cda cc) = false)
    (hc : ∀ (qual : Str) (L cc : Addr) (cda : Value), ∃ pl, eval (.Call (.Attribute (.Call (.Name "super" p0) [] [] p1) "__init__" p2) (nmB ns) [] p3) (ksEnv qual scope L fI cda cc) = (do
      let ov ← attributeBase (.Call (.Name "super" p0) [] [] p1) "__init__" (ksEnv qual scope L fI cda cc) (eval (.Call (.Name "super" p0) [] [] p1) (ksEnv qual scope L fI cda cc))
      standAt p2.atName
      let (f, first) ← holding [ov] (getMethod ov "__init__" pl)
      callWith p3 f first (backTo p3 (starEach (nmB ns) (ksEnv qual scope L fI cda cc))) [])) :
    FnOk P w K mg base (L2.CX P w) 0 fI fd ("self" :: ps) (spInit C ps) := by
  refine ⟨fun vs H Q E h => ?_, fun A outer s H args us vs Q E hr e0 hb r hsp => ?_⟩
  · obtain ⟨a, ys, rfl, h, _⟩ := h
    simp [h]
  obtain ⟨a, ys, rfl, hyl, ha, hq⟩ := hsp
  obtain ⟨qual, kV, doc, pm, ct, oc, an, od, osl, cda, cc, ccl, cl, cdd, cld, ccs, csl, vs, file, tf, hfd, lk, hcd, lc, ld, hvs, hfile⟩ := T.fn
  have KX : K.In s.heap := e0.mod.kin.keeps fun b o e => (e0.bs b o e).1
  have lim : s.heap.NoLimit := e0.mod.nolimit.keeps fun b o e => (e0.bs b o e).1
  obtain ⟨t1, hx⟩ := exo_at e0.hok ha
  cases r with
  | @cons _ u0 _ ur ra rw' =>
  obtain rfl : u0 = Value.ref a := ra
  have hul : ps.length = ur.length := by rw [← hyl]; exact rw'.length
  have hset : ("self" : Str) ∉ ps := (List.nodup_cons.mp hnd).1
  have hndp := (List.nodup_cons.mp hnd).2
  have hKa : K.lookup a = none := by
    cases e : K.lookup a with
    | none => rfl
    | some o =>
      have := (e0.bs a o (e0.mod.kin _ _ e)).2
      rw [ha] at this; cases this
  obtain ⟨nm, q, N, bs, bm, sn, sub, ab, col, dd, k0, k1, k2, k3, k5, hC, hbm⟩ := T.oex.cls
  have hcl : clsIn K C = some { name := nm, bases := bs, mro := .ref C :: bm, ns := N, qualname := q, hasDict := true, slotNames := sn, subclasses := sub, abstract := ab, collection := col, hasDel := false } := by unfold clsIn; rw [hC] <;> rfl
  have hcls : ∃ cd, clsIn K C = some cd ∧ HandSPX.refsVE cd.mro = true ∧ cd.hasDict = true := ⟨_, hcl, hbm, rfl⟩
  obtain ⟨mb, hB, hB2⟩ := e0.mod.blt
  have hloc : ∀ y ∈ (("self" : Str) :: ps).zip (Value.ref a :: ur), scope.names.lookup y.1 = some .local := fun ⟨n, v⟩ hy => (S.loc n (List.of_mem_zip hy).1).1
  subst hfd
  refine ks_codeAny_call_defAt (body := .Expr (.Call (.Attribute (.Call (.Name "super" p0) [] [] p1) "__init__" p2) (nmB ns) [] p3) p4 :: stB fs) hr.depth (KX _ _ lk) rfl lim (codeRec_of KX hcd) rfl hb S.nocell hloc (fun h₀ hn hk => ?_) S.co S.gen S.kind
  have hLx : s.heap.objs.size ≠ a := Nat.ne_of_gt (Heap.lt_size hx)
  have hself : ((("self" : Str) :: ps).zip (Value.ref a :: ur)).reverse.lookup ("self" : Str) = some (Value.ref a) := look_rev hnd (by simp [hul]) (by simp)
  have hall := look_all hndp hul "self" (.ref a) hset
  obtain ⟨pl, hc⟩ := hc qual s.heap.objs.size cc (.ref cda)
  refine ks_wpAt_execs_cons ?_
  refine sup_step (L := s.heap.objs.size) (mg := mg) (mb := mb) (us := ur) (x := a) (pl := pl) T S rfl lk lc ld hvs hfile hp har (KX.keeps hk) hn (e0.mod.glob.at fun o e => hk _ _ (e0.bs _ _ e).1) hmg (hB.at fun o e => hk _ _ (e0.bs _ _ e).1) ((hB2 _ (by decide)).trans (by decide +kernel)) (hk _ _ hx) hself hLx ?_ ?_ ?_ ?_ (hi _ _ _ _) hc (fun h1 tk1 t2 k1 hx1 => ?_)
  · intro z; subst z; exact hps hns.symm
  · rw [← hall, ← hns, List.map_map]; rfl
  · intro x hx; exact S.loc x.1 (List.mem_cons_of_mem _ (by rw [← hns]; exact List.mem_map_of_mem (f := (·.1)) hx))
  · rw [← hul, sizeLine_eq]; omega
  show _root_.PySem.wpAt _ _ _ (execs (stB fs) _) _ _ _
  refine wpAt_of_wpAny (sts_new (m := fun x => ((("self" : Str) :: ps).zip (Value.ref a :: ur)).reverse.lookup x) (us := ur) (x := a) T.oex hcls S.kind (S.loc "self" List.mem_cons_self).1 hself hLx hKa ?_ ?_ (fun c o e => k1 c o (fun z => by rw [z, hKa] at e; cases e) (hk c o (KX _ _ e))) (hn.at fun o e => k1 _ _ hLx e) hx1 ?_ ?_ (fun h2 tk2 dx dn dne k2 hx2 hn2 => ?_))
  · intro z; subst z; exact hps hfs.symm
  · have := congrArg List.length hfs; simp at this; omega
  · rw [← hall, ← hfs, List.map_map]; rfl
  · intro f hf
    have m : f.1 ∈ ps := by rw [← hfs]; exact List.mem_map_of_mem (f := (·.1)) hf
    exact ⟨T.no _ m, S.loc f.1 (List.mem_cons_of_mem _ m)⟩
  -- the end
  rw [hfs] at hn2
  have k : ∀ b o, b ≠ a → s.heap.get? b = some o → h2.get? b = some o := fun b o hb e => k2 b o hb (k1 b o hb (hk b o e))
  have dn' : s.heap.objs.size ≤ dx := by
    have z : s.heap.objs.size < h₀.objs.size := hn.lt
    have z2 : s.heap.objs.size < h1.objs.size := by
      obtain ⟨o, es, ep, ho, _⟩ := hn
      exact Heap.lt_size (k1 _ _ hLx ho)
    exact Nat.le_of_lt (Nat.lt_of_lt_of_le z2 dn)
  have hnd2 : H dx = none := e0.hok.fresh dn'
  have nd : ∀ {b : Addr} {o : Obj}, s.heap.get? b = some o → b ≠ dx := fun {b o} q => Nat.ne_of_lt (Nat.lt_of_lt_of_le (Heap.lt_size q) dn')
  have na : ∀ {b : Addr}, H b = none → b ≠ a := fun {b} n z => by rw [z, ha] at n; cases n
  have rel : ∀ f, RelO ((ps.zip ys).reverse.lookup f) (mput (fun _ => none) ps ur f) := fun f => by
    have := relO_all ps (acc := []) (m0 := fun _ => none) rw' (fun _ => trivial) f
    simpa using this
  have un : Un (L2.frs outer) [] H (upd (upd H dx (exd dx (ps.zip ys).reverse)) a (exo a C (some dx))) s.heap h2 := {
    keep := fun b o q n _ _ => k b o (na n) q
    slot := fun b o q n _ _ => ⟨o.slots, k b o (na n) q⟩
    free := fun b o q n _ => by rw [upd_ne (na n), upd_ne (nd q)]; exact n
    there := fun b o q _ => by
      by_cases hb : b = a
      · exact ⟨_, by rw [hb]; exact hx2⟩
      · exact ⟨o, k b o hb q⟩
    tups := fun b xs q => by rw [upd_ne (at_ne ha q exo_tup), upd_ne (ne_of_none q hnd2)]; exact q
    frzs := fun b o v q => by rw [upd_ne (at_ne ha q exo_frz), upd_ne (ne_of_none q hnd2)]; exact q
    tbls := fun b ps q => ⟨#[], by rw [upd_ne (at_ne ha q exo_tbl), upd_ne (ne_of_none q hnd2), q]; simp⟩ }
  have hok : HOk P w (upd (upd H dx (exd dx (ps.zip ys).reverse)) a (exo a C (some dx))) h2 := fun b o q => by
    by_cases hb : b = a
    · subst hb
      rw [upd_same] at q
      cases q
      exact exo_ok hx2
    · rw [upd_ne hb] at q
      by_cases hd : b = dx
      · subst hd
        rw [upd_same] at q
        cases q
        exact exd_ok (by obtain ⟨o, es, ep, e⟩ := hn2; exact ⟨o, es, ep, e⟩) rel
      · rw [upd_ne hd] at q
        exact (e0.hok b o q).stay (fun c v hc z => k c v (by
            rcases hc with hc | hc
            · rw [hc]
              exact hb
            · exact at_ne ha hc exo_own) z)
          (fun c hc => by rw [upd_ne (at_ne ha hc exo_own), upd_ne (ne_of_none hc hnd2)]; exact hc) (fun c xs hc => by rw [upd_ne (at_ne ha hc exo_tup), upd_ne (ne_of_none hc hnd2)]; exact hc)
  exact ⟨.non, _, rfl, e0.bare, un, hok, rfl, hq dx hnd2 dne⟩
end TB
end
section
set_option Elab.async false
set_option linter.all false
set_option maxRecDepth 100000
set_option maxHeartbeats 4000000
namespace TB
open PySem PySem.Spec L2
/-- what is known of an own error class of index c, under the name x -/
structure ExK (Γ : Ctx) (P : Program) (w : World) (mg : Str → Option Value) (base : Heap) (c : Nat) (x : Str) (ps : List Str) : Prop where
  ex : ∃ fI fd, FnOk P w Γ.K mg base (L2.CX P w) 0 fI fd ("self" :: ps) (spInit (Γ.ce c) ps) ∧ OexC Γ.K (Γ.ce c) ∧ PySem.W.findIn Γ.K (.ref (Γ.ce c)) "__init__" = some (some (.ref fI)) ∧ PySem.W.typeIn Γ.K (.ref fI) = some (.type "function") ∧ Binds Γ.K fd ("self" :: ps) []
  mg : mg x = some (.ref (Γ.ce c))
/-- raise C(a, ..) -/
def dRaise (c : Nat) (ps : List Str) (δs : DenA) : DenS := fun ρ => match δs ρ with
  | .ok as _ _ ρ' => (match vals as with
    | some ds => if ds.length = ps.length ∧ ps.length ≤ 900 ∧ imms ds = true then .ex ⟨c, ps.reverse.zip ds.reverse⟩ ρ' else .no
    | none => .no)
  | .ex e ρ' => .ex e ρ'
  | .no => .no
section
variable {Γ : Ctx} {X : Cx} {W : WX} {io : List Nat} {H H1 H2 H' : Hp} {o s o1 s1 oB sB : List Addr} {ρ ρ' ρ1 : VE} {σ σ1 : L2.St} {v : V} {vs us : List V} {d : D} {ds : List D} {δ δa δb δc : Den} {δs : DenA} {ς : DenS} {Z : Ends}
theorem zip_revE {α β : Type} : ∀ {a : List α} {b : List β}, a.length = b.length → (a.zip b).reverse = a.reverse.zip b.reverse
  | [], [], _ => rfl
  | [], _ :: _, h => by simp at h
  | _ :: _, [], h => by simp at h
  | x :: a, y :: b, h => by
    have hl : a.length = b.length := by simpa using h
    rw [List.zip_cons_cons, List.reverse_cons, List.reverse_cons, List.reverse_cons, zip_revE hl, List.zip_append (by simp [hl])]
    rfl
theorem Reps.rev : ∀ {ds : List D} {vs : List V}, Reps Γ H ds vs [] [] → Reps Γ H ds.reverse vs.reverse [] []
  | [], _, h => by obtain ⟨rfl, _, _⟩ := h; exact ⟨rfl, rfl, rfl⟩
  | d :: ds, _, h => by
    obtain ⟨v, vs', o1, s1, o2, s2, rfl, h1, h2, e1, e2⟩ := h
    obtain ⟨rfl, rfl⟩ := List.append_eq_nil_iff.mp e1.symm
    obtain ⟨rfl, rfl⟩ := List.append_eq_nil_iff.mp e2.symm
    have := (Reps.rev h2).append (Reps.one h1)
    simpa using this
theorem raise_ent {c : Nat} {ps : List Str} (h : tS Γ W io (dRaise c ps δs) Z σ H) : tMkO (Γ.ce c) (spInit (Γ.ce c) ps) [] (tA Γ W δs) σ H (fun cls d H' => W cls d σ H') := by
  obtain ⟨ρ, o, s, al, ow, h⟩ := h
  refine ⟨ρ, o, s, al, ow, ?_⟩
  unfold dRaise at h
  cases e : δs ρ with
  | no => rw [e] at h; exact h
  | ex x ρ1 => rw [e] at h; exact fun cls dx H1 P => h cls dx σ H1 P.toS
  | ok as bs pu ρ' =>
    rw [e] at h
    cases e1 : vals as with
    | none => simp only [e1] at h; exact h.elim
    | some ds =>
      simp only [e1] at h
      split at h
      · rename_i hc
        obtain ⟨hl1, hl2, him⟩ := hc
        intro vs H1 P
        obtain ⟨hl, oa, sa, ra, fin⟩ := P.fin e1
        obtain ⟨rfl, rfl⟩ := Reps.imms him ra
        refine ⟨by omega, fun a ha => ⟨a, vs, by simp, by omega, upd_same, fun dx hdx hne => ⟨rfl, dx, (ps.zip vs).reverse, upd_same, ?_, ?_, ?_⟩⟩⟩
        · rw [upd_ne hne, upd_same]
        · have := hdx; rwa [upd_ne hne] at this
        have hdx1 : H1 dx = none := by have := hdx; rwa [upd_ne hne] at this
        have e3 : upd (del (upd (upd (upd H1 a (exo a (Γ.ce c) none)) dx (exd dx (ps.zip vs).reverse)) a (exo a (Γ.ce c) (some dx))) a) dx (.xd (ps.zip vs).reverse) = upd H1 dx (.xd (ps.zip vs).reverse) := by
          funext b
          by_cases h1 : b = dx
          · rw [h1, upd_same, upd_same]
          · rw [upd_ne h1, upd_ne h1]
            by_cases h2 : b = a
            · rw [h2, del_same, ha]
            · rw [del_ne h2, upd_ne h2, upd_ne h1, upd_ne h2]
        rw [e3]
        have k : Keep H1 (upd H1 dx (.xd (ps.zip vs).reverse)) [] := Keep.new hdx1
        refine h _ _ σ _ ⟨P.al, P.l1.same k, P.kp.trans k (fun _ m => nomatch m), ⟨rfl, .inr ⟨dx, vs.reverse, rfl, ?_, ?_, ?_⟩⟩, fun _ _ => rfl⟩
        · rw [upd_same, zip_revE (by omega)]
          have : (ps.reverse.zip ds.reverse).map (·.1) = ps.reverse := List.map_fst_zip (by simp [hl1])
          rw [this]
        · simp [hl1, ← hl]
        · have : (ps.reverse.zip ds.reverse).map (·.2) = ds.reverse := List.map_snd_zip (by simp [hl1])
          rw [this]
          exact (Reps.new hdx1 ra).rev
      · exact h.elim
theorem es_raise {c : Nat} {x : Str} {ps : List Str} {e : Expr} {es : List Expr} {p pos pos2 : Pos} (F : ExK Γ X.prog X.w X.mg X.base c x ps) (hK : X.K = Γ.K) (hc : X.calm = true) (hr : Room 1 X.A) (tk : Takes X W) (ha : PA X (e :: es) (tA Γ W δs)) (hg : Gl X x := by rfl)
    (hdb : (x == ("__debug__" : Str)) = false := by decide) (he : starEach (e :: es) X.env = (false, eval e X.env) :: starEach es X.env := by rfl) (hpl : (backTo pos (starEach es X.env)).any (·.1) = false := by rfl) :
    PS X (.Raise (some (.Call (.Name x p) (e :: es) [] pos)) none pos2) (tS Γ W io (dRaise c ps δs)) := by
  obtain ⟨fI, fd, F1, T, iC, tI, hb⟩ := F.ex
  refine (ps_raise hc tk (pmk_oex (p := p) (pos := pos) (CX := L2.CX X.prog X.w) (by rw [hK]; exact T) (by rw [hK]; exact iC) (by rw [hK]; exact tI) (by rw [hK]; exact F1) hr (by rw [hK]; exact hb) .nil ?_ hg F.mg ha hdb he hpl)).imp fun Z σ H q => ?_
  · intro pins σ H s e s' I c
    obtain ⟨_, _, _, _, _, _, _, _, _, _, _, _, z⟩ := c
    exact z.elim
  · exact raise_ent q
end
end TB
end
section
set_option Elab.async false
set_option linter.all false
set_option maxRecDepth 100000
set_option maxHeartbeats 4000000
namespace TB
open PySem PySem.Spec L2
/-- what is known in an except suite: e lies at a, which slot i holds -/
def Xi (Γ : Ctx) (i : Nat) (a : Addr) (cls : Value) (dx : Option Addr) (e : Exn) (σ : L2.St) (H : Hp) : Prop := ERep Γ H e cls dx ∧ σ[i]? = some (some (.ref a))
def tXE (Ξ : L2.St → Hp → Prop) (t : TE) : TE := fun σ H Q => Ξ σ H ∧ t σ H Q
def tXA (Ξ : L2.St → Hp → Prop) (t : TA) : TA := fun σ H Q => Ξ σ H ∧ t σ H Q
abbrev W0x : WX := fun _ _ _ _ => False
/-- error.f -/
def dXf (e : Exn) (L : List Nat) (f : Str) : Den := fun ρ => if e.cls ∈ L then (match e.fs.lookup f with
  | some d => if imm d = true then .ok d [] true ρ else .no
  | none => .no) else .no
/-- isinstance(error, D): an answer for each class -/
def dXi (e : Exn) (L : List (Nat × Bool)) : Den := fun ρ => match L.lookup e.cls with
  | some b => .ok (.bl b) [] true ρ
  | none => .no
/-- what the written part must say of such a class -/
structure XcOk (K : PySem.W.Frag) (C : Addr) : Prop where
  xf : XfC K C
  ec : ExcC K C
section
variable {Γ : Ctx} {X : Cx} {W : WX} {io : List Nat} {H H1 H2 H' : Hp} {o s o1 s1 oB sB : List Addr} {ρ ρ' ρ1 : VE} {σ σ1 : L2.St} {v : V} {vs us : List V} {d : D} {ds : List D} {δ δa δb δc : Den} {δs : DenA} {ς : DenS} {Z : Ends} {Q : VK} {i : Nat} {a : Addr} {oe : Obj} {cls : Value} {dx : Option Addr} {e : Exn} {pn : List (Addr × Obj)}
theorem tI.keep (h : tI Γ W δ σ H Q) : tI Γ W δ σ H (fun v H1 => Q v H1 ∧ TupKept H H1) := by
  obtain ⟨ρ, o, s, al, ow, h⟩ := h
  refine ⟨ρ, o, s, al, ow, ?_⟩
  cases e1 : δ ρ with
  | no => rw [e1] at h; exact h
  | ex x ρ1 => rw [e1] at h; exact h
  | ok d b p ρ1 =>
    rw [e1] at h
    exact fun v H1 P => ⟨h v H1 P, P.kp.tup ow.trk.1⟩
theorem Xi.kept (x : Xi Γ i a cls dx e σ H) (t : TupKept H H1) : Xi Γ i a cls dx e σ H1 := by
  obtain ⟨⟨h1, h2⟩, h3⟩ := x
  refine ⟨⟨h1, ?_⟩, h3⟩
  rcases h2 with h2 | ⟨b, vs, e1, e2, e3, r⟩
  · exact .inl h2
  · exact .inr ⟨b, vs, e1, t _ _ e2 fun z => z, e3, r.stay t fun _ m => by simp at m⟩
theorem xa_nil {Ξ : L2.St → Hp → Prop} : PA X [] (tXA Ξ (tA Γ W dNil)) := ea_nil.imp fun σ H Q q => q.2
theorem xa_cons {ex : Expr} {es : List Expr} (h1 : PE X ex (tXE (Xi Γ i a cls dx e) (tI Γ W δ))) (h2 : PA X es (tXA (Xi Γ i a cls dx e) (tA Γ W δs))) (hs : starEach (ex :: es) X.env = (false, eval ex X.env) :: starEach es X.env := by rfl) : PA X (ex :: es) (tXA (Xi Γ i a cls dx e) (tA Γ W (dCons δ δs))) :=
  (pa_cons h1 h2 hs).imp fun σ H Q q => ⟨q.1, (tI.keep (tA_cons q.2)).mono fun v H1 z => ⟨q.1.kept z.2, z.1⟩⟩
theorem xe_of {Ξ : L2.St → Hp → Prop} {ex : Expr} (h : PE X ex (tI Γ W δ)) : PE X ex (tXE Ξ (tI Γ W δ)) := h.imp fun σ H Q q => q.2
theorem purE {Q : VK} (al : Al σ ρ) (ow : Own Γ H (slots ρ σ) o s) (hi : imm d = true) (r : Rep Γ H d v [] []) : PostE Γ H o s ρ σ d [] true ρ v H := ⟨al, ow.live, ow.live.imm hi r, Keep.refl, fun _ => ⟨rfl, Keep.refl⟩⟩
theorem Reps.look {H : Hp} : ∀ {fs : List (Str × D)} {vs : List V} {f : Str} {d : D}, Reps Γ H (fs.map (·.2)) vs [] [] → fs.lookup f = some d → ∃ v, ((fs.map (·.1)).zip vs).lookup f = some v ∧ Rep Γ H d v [] []
  | [], _, _, _, _, e => nomatch e
  | (g, d0) :: fs, _, f, d, r, e => by
    obtain ⟨v, vs', o1, s1, o2, s2, rfl, r1, r2, e1, e2⟩ := r
    obtain ⟨rfl, rfl⟩ := List.append_eq_nil_iff.mp e1.symm
    obtain ⟨rfl, rfl⟩ := List.append_eq_nil_iff.mp e2.symm
    cases hb : f == g with
    | true =>
      simp only [List.lookup, hb] at e
      cases e
      exact ⟨v, by simp [List.lookup, hb], r1⟩
    | false =>
      simp only [List.lookup, hb] at e
      obtain ⟨v', h1, h2⟩ := Reps.look r2 e
      exact ⟨v', by simp [List.lookup, hb]; exact h1, h2⟩
theorem xe_field {L : List Nat} {n f : Str} {pos p : Pos} (hK : X.K = Γ.K) (hL : ∀ c ∈ L, XfC Γ.K (Γ.ce c) ∧ PySem.W.findIn Γ.K (.ref (Γ.ce c)) f = some none) (hz : Zc cls dx oe) (hf : ∃ vs, oe.data = .fields vs) (hN : X.N[i]? = some n := by rfl)
    (hv : Vis X.env.scope n := by first | exact Or.inl rfl | exact Or.inr (Or.inl rfl) | exact Or.inr (Or.inr rfl)) (hb : attributeBase (.Name n p) f X.env (eval (.Name n p) X.env) = eval (.Name n p) X.env := by rfl) (hd : (n == ("__debug__" : Str)) = false := by decide) (hcd : (n == ("__classdict__" : Str)) = false := by decide) :
    PE (X.suite a ((a, oe) :: pn)) (.Attribute (.Name n p) f pos) (tXE (Xi Γ i a cls dx e) (tI Γ W (dXf e L f))) := by
  refine ⟨fun pins s σ H Q I h => ?_⟩
  obtain ⟨⟨⟨ec, er⟩, hs⟩, ρ, o, sh, al, ow, h⟩ := h
  unfold dXf at h
  split at h
  · rename_i hm
    cases e1 : e.fs.lookup f with
    | none => rw [e1] at h; exact h.elim
    | some d =>
      rw [e1] at h
      dsimp only at h
      split at h
      · rename_i hi
        obtain ⟨T, hno⟩ := hL _ hm
        rcases er with ⟨e2, _⟩ | ⟨b, vs, e2, e3, e4, r⟩
        · rw [e2] at e1; cases e1
        · obtain ⟨v, h1, h2⟩ := r.look e1
          exact (pe_xf (X := X) (a := a) (pn := pn) (te := tVar i) (by rw [hK]; exact T) (by rw [hK]; exact hno) hz hf (pe_var (X := X.suite a ((a, oe) :: pn)) hN hv hd hcd) hb).run pins s σ H Q I ⟨_, hs, rfl, ec, b, _, v, e2, e3, h1, h v H (purE (Q := Q) al ow hi h2)⟩
      · exact h.elim
  · exact h.elim
theorem call_isX {D : Addr} {c : V} {cv : Value} {b : Bool} (C : ExcC X.K D) (hz : Zc (.ref D) dx oe) (hf : ∃ vs, oe.data = .fields vs) (hcv : ∀ u, RelV c u → u = cv) (ek : PySem.W.kitOne X.K (.ref D) cv = some b) :
    CallR (X.suite a ((a, oe) :: pn)) (.builtin "isinstance") (fun xs H Q => xs = [.ref a, c] ∧ (dx = none ∨ ∃ dd fs, dx = some dd ∧ H dd = some (.xd fs)) ∧ Q (.bl b) H) := by
  intro pins s σ H xs us Q I r h
  obtain ⟨rfl, hdx, q⟩ := h
  cases r with
  | cons rx rr =>
    cases rr with
    | cons rt rr =>
      cases rr
      cases rx
      have ec := hcv _ rt
      subst ec
      obtain ⟨hget, _⟩ := I.pin (a, oe) (List.mem_append.mpr (.inl List.mem_cons_self))
      obtain ⟨vs, hv⟩ := hf
      have J : ∃ od, PySem.W.InstAt s.heap a oe D od := by
        rcases hdx with rfl | ⟨dd, fs, rfl, ed⟩
        · refine ⟨none, hget, hz.1, by unfold PySem.W.notCls; rw [hv] <;> rfl, ?_⟩
          rw [hz.2]; trivial
        · obtain ⟨mA, hns, hr⟩ := (show ObjOk X.prog X.w H s.heap dd (.xd fs) from I.hok dd _ ed)
          obtain ⟨od, ho, hl⟩ := lookIn_ns hns
          exact ⟨some od, hget, hz.1, by unfold PySem.W.notCls; rw [hv] <;> rfl, by rw [hz.2]; exact ho⟩
      obtain ⟨od, J⟩ := J
      have hcl : (PySem.W.clsIn X.K D).isSome = true := by
        have := C.hd
        unfold PySem.W.hasDictIn at this
        cases e : PySem.W.clsIn X.K D with
        | none => rw [e] at this; cases this
        | some cd => rfl
      exact PySem.W.kia_one (PySem.W.kitx_exc (od := od) hcl C.hg C.hk C.hs C.ha C.hn C.ht C.hm) I.kIn J ek (fun z => nomatch z) fun tk => ⟨.bl b, H, I.kept (t' := tk) fun _ _ z => z, rfl, q⟩
theorem xe_is {L : List (Nat × Bool)} {n x : Str} {c : V} {cv : Value} {p p1 p2 pos : Pos} (hK : X.K = Γ.K) (hm : X.mg "isinstance" = none) (hc : RelV c cv) (hc2 : ∀ u, RelV c u → u = cv) (hx : Names X x cv) (hL : ∀ k b, (k, b) ∈ L → ExcC Γ.K (Γ.ce k) ∧ PySem.W.kitOne Γ.K (.ref (Γ.ce k)) cv = some b) (hz : Zc cls dx oe) (hf : ∃ vs, oe.data = .fields vs)
    (hg : Gl X "isinstance" := by rfl) (hN : X.N[i]? = some n := by rfl)
    (hv : Vis X.env.scope n := by first | exact Or.inl rfl | exact Or.inr (Or.inl rfl) | exact Or.inr (Or.inr rfl)) (hd : (n == ("__debug__" : Str)) = false := by decide) (hcd : (n == ("__classdict__" : Str)) = false := by decide)
    (hs : starEach [.Name n p1, .Name x p2] X.env = (false, eval (.Name n p1) X.env) :: starEach [.Name x p2] X.env := by rfl) (hs2 : starEach [.Name x p2] X.env = [(false, eval (.Name x p2) X.env)] := by rfl) (hpl : (backTo pos (starEach [.Name x p2] X.env)).any (·.1) = false := by rfl) :
    PE (X.suite a ((a, oe) :: pn)) (.Call (.Name "isinstance" p) [.Name n p1, .Name x p2] [] pos) (tXE (Xi Γ i a cls dx e) (tI Γ W (dXi e L))) := by
  refine ⟨fun pins s σ H Q I h => ?_⟩
  obtain ⟨⟨⟨ec, er⟩, hs'⟩, ρ, o, sh, al, ow, h⟩ := h
  unfold dXi at h
  cases e1 : L.lookup e.cls with
  | none => rw [e1] at h; exact h.elim
  | some b =>
    rw [e1] at h
    have hmem : (e.cls, b) ∈ L := by
      clear h hL
      induction L with
      | nil => cases e1
      | cons q L ih =>
        obtain ⟨k, b'⟩ := q
        cases hb : e.cls == k with
        | true =>
          simp only [List.lookup, hb] at e1
          cases e1
          rw [beq_iff_eq.mp hb]; exact List.mem_cons_self
        | false =>
          simp only [List.lookup, hb] at e1
          exact List.mem_cons_of_mem _ (ih e1)
    obtain ⟨C, ek⟩ := hL _ _ hmem
    subst ec
    have pc : PE (X.suite a ((a, oe) :: pn)) (.Name x p2) (tC c) := by
      obtain ⟨hg, hdb, h1 | ⟨h1, h2, h3⟩⟩ := hx
      · exact pe_glob (X := X.suite a ((a, oe) :: pn)) hg h1 hc hdb
      · exact pe_bltn (X := X.suite a ((a, oe) :: pn)) hg h1 h2 hc h3 hdb
    refine (pe_callB (call_isX (X := X) (pn := pn) (c := c) (cv := cv) (by rw [hK]; exact C) hz hf hc2 (by rw [hK]; exact ek)) hg hm PyProof.Rows.boot_isinstance (pa_cons (pe_var (X := X.suite a ((a, oe) :: pn)) hN hv hd hcd) (pa_cons pc pa_nil hs2) hs) (by decide) (by decide) hs hpl).run pins s σ H Q I ⟨_, hs', rfl, ?_, h _ H (purE (Q := Q) al ow rfl ⟨rfl, rfl, rfl⟩)⟩
    rcases er with ⟨_, e2⟩ | ⟨b, vs, e2, e3, e4, r⟩
    · exact .inl e2
    · exact .inr ⟨b, _, e2, e3⟩
end
end TB
end
section
set_option Elab.async false
set_option linter.all false
set_option maxRecDepth 100000
set_option maxHeartbeats 4000000
namespace TB
open PySem PySem.Spec L2
/-- try: body, except C as slot i: suite(e), which returns. L: which classes C takes -/
def dTry (L : List (Nat × Bool)) (i : Nat) (body : DenS) (suite : Exn → DenS) : DenS := fun ρ => match body ρ with
  | .ex e ρ1 => (match L.lookup e.cls with
    | some true => if i < ρ1.length then (match suite e (ρ1.set i none) with
      | .rt d ρ2 => .rt d ρ2
      | _ => .no) else .no
    | some false => .ex e ρ1
    | none => .no)
  | r => r
section
variable {Γ : Ctx} {X : Cx} {W : WX} {io : List Nat} {H H1 H2 H' : Hp} {o s o1 s1 oB sB : List Addr} {ρ ρ' ρ1 : VE} {σ σ1 : L2.St} {v : V} {vs us : List V} {d : D} {ds : List D} {δ δa δb δc : Den} {δs : DenA} {ς ςb : DenS} {Z : Ends} {Q : VK} {i : Nat} {a : Addr} {oe : Obj} {cls : Value} {dx : Option Addr} {e : Exn} {pn : List (Addr × Obj)}
theorem Live.drop {PO PS : Addr → Prop} {ρ : VE} (al : Al σ ρ) (h : Live Γ PO PS H (slots ρ σ)) (i : Nat) (y : Option V) : Live Γ PO PS H (slots (ρ.set i none) (σ.set i y)) := by
  rw [slots_none]
  by_cases e : ∃ d, ρ[i]? = some (some d)
  · obtain ⟨d, e⟩ := e
    obtain ⟨v, e'⟩ := al.has i d e
    exact (h.perm (slots_out e e')).tail
  · have : ρ.set i none = ρ := by
      apply List.ext_getElem?
      intro j
      by_cases hj : i = j
      · subst hj
        by_cases hl : i < ρ.length
        · rw [List.getElem?_set_self hl]
          cases e2 : ρ[i]? with
          | none => rw [List.getElem?_eq_none_iff] at e2; omega
          | some y =>
            cases y with
            | none => rfl
            | some x => exact absurd ⟨x, e2⟩ e
        · rw [List.getElem?_eq_none (by simp; omega), List.getElem?_eq_none (by omega)]
      · rw [List.getElem?_set_ne hj]
    rw [this]; exact h
theorem Al.drop (al : Al σ ρ) (i : Nat) (y : Option V) : Al (σ.set i y) (ρ.set i none) := ⟨by simp [al.len], fun j d e => by
  by_cases h : i = j
  · subst h
    rw [List.getElem?_set] at e
    simp at e
  · rw [List.getElem?_set_ne h] at e ⊢
    exact al.has j d e⟩
/-- the suite's reading -/
def tSu (Γ : Ctx) (io : List Nat) (i : Nat) (suite : Exn → DenS) : Addr → Value → Option Addr → TS := fun a cls dx D σ H => ∃ e, Xi Γ i a cls dx e σ H ∧ tS Γ W0x io (suite e) D σ H
theorem try_ent {L : List (Nat × Bool)} {C : Value} {suite : Exn → DenS} (hi : i ∉ io) (hx : ∀ k b, L.lookup k = some b → PySem.W.exmOne Γ.K (.ref (Γ.ce k)) C = some b) (h : tS Γ W io (dTry L i ςb suite) Z σ H) :
    tS Γ (wAs Γ.K C i (tSu Γ io i suite) W Z) io ςb Z σ H := by
  obtain ⟨ρ, o, s, al, ow, h⟩ := h
  refine ⟨ρ, o, s, al, ow, ?_⟩
  unfold dTry at h
  cases e : ςb ρ with
  | nx ρ1 => rw [e] at h; exact h
  | bk ρ1 => rw [e] at h; exact h
  | ct ρ1 => rw [e] at h; exact h
  | rt d ρ1 => rw [e] at h; exact h
  | no => rw [e] at h; exact h
  | ex x ρ1 =>
    rw [e] at h
    intro cls dx σ1 H1 P
    cases e1 : L.lookup x.cls with
    | none => simp only [e1] at h; exact h.elim
    | some b =>
      have ec := P.er.1
      refine ⟨b, by rw [ec]; exact hx _ _ e1, fun hb a ha => ?_, fun hb => ?_⟩
      · subst hb
        simp only [e1] at h
        split at h
        · rename_i hil
          have hl1 : i < σ1.length := by rw [P.al.len]; exact hil
          obtain ⟨o1, s1, ow1, p1, p2⟩ := Live.drop P.al P.l1 i (some (.ref a))
          refine ⟨x, ⟨P.er, by rw [List.getElem?_set_self hl1]⟩, ρ1.set i none, o1, s1, P.al.drop i _, ow1, ?_⟩
          cases e2 : suite x (ρ1.set i none) with
          | rt d ρ2 =>
            rw [e2] at h
            have h' : DoneS Γ W io H1 o1 s1 (σ1.set i (some (.ref a))) Z (.rt d ρ2) := DoneS.back P.kp p1 p2 (fun j m => by
              rw [List.getElem?_set_ne (fun z => hi (by rw [z]; exact m))]
              exact P.io j m) h
            exact h'
          | nx _ => rw [e2] at h; exact h.elim
          | bk _ => rw [e2] at h; exact h.elim
          | ct _ => rw [e2] at h; exact h.elim
          | ex _ _ => rw [e2] at h; exact h.elim
          | no => rw [e2] at h; exact h.elim
        · exact h.elim
      · subst hb
        simp only [e1] at h
        exact h cls dx σ1 H1 P
theorem es_try {L : List (Nat × Bool)} {suite : Exn → DenS} {x n : Str} {c : Value} {body st : List Stmt} {b₀ : Stmt} {np pos pos' : Pos} (hK : X.K = Γ.K) (hs : X.stack = X.env :: X.outer) (hf : X.env.frame = some X.env.locals) (hN : X.N.Nodup) (hi : X.N[i]? = some n) (hln : X.env.kindOf n = some .local) (hc : Names X x c) (tk : Takes X W)
    (hio : i ∉ io) (hx : ∀ k b, L.lookup k = some b → PySem.W.exmOne Γ.K (.ref (Γ.ce k)) c = some b)
    (hb : ∀ (W : WX) (pn : List (Addr × Obj)) (xe : Value → Shared → Prop), Takes (X.tr pn xe) W → PassesOwn (model X.prog X.w) X.A X.env xe → PSs (X.tr pn xe) body (tS Γ W io ςb))
    (hsu : ∀ (a : Addr) (oe : Obj) (cls : Value) (d : Option Addr) (pn : List (Addr × Obj)), Zc cls d oe → (∃ vs, oe.data = .fields vs) → PSs (X.suite a ((a, oe) :: pn)) (b₀ :: st) (tSu Γ io i suite a cls d)) :
    PS X (.Try body [.ExceptHandler (some (.Name x np)) (some n) (b₀ :: st) pos'] [] [] pos) (tS Γ W io (dTry L i ςb suite)) :=
  (ps_try_as (tb := fun W => tS Γ W io ςb) (ts := tSu Γ io i suite) (Wout := W) hs hf hN hi hln hc tk hb hsu).imp fun Z σ H q => by
    rw [hK]
    exact try_ent hio hx q
/-- a suite that returns -/
theorem xs_ret {δ : Exn → Den} {ex : Expr} {pos : Pos} (h : ∀ e, PE (X.suite a ((a, oe) :: pn)) ex (tXE (Xi Γ i a cls dx e) (tI Γ W0x (δ e)))) : PSs (X.suite a ((a, oe) :: pn)) [.Return (some ex) pos] (tSu Γ io i (fun e => dRet (δ e)) a cls dx) := by
  refine ⟨fun pins s σ H D I q => ?_⟩
  obtain ⟨e, hx, q⟩ := q
  refine (pss_one (ps_ret (h e))).run pins s σ H D I ⟨hx, ?_⟩
  obtain ⟨ρ, o, s, al, ow, h⟩ := q
  refine ⟨ρ, o, s, al, ow, ?_⟩
  have h : DoneS Γ W0x io H o s σ D (match δ e ρ with | .ok d b _ ρ1 => .rt d (fz b ρ1) | .ex e ρ1 => .ex e ρ1 | .no => .no) := h
  cases e1 : δ e ρ with
  | ok d b p ρ1 =>
    rw [e1] at h
    exact fun v H1 P => h v σ H1 ⟨P.al.fz b, P.l2, P.kp, fun _ _ => rfl⟩
  | ex x ρ1 => rw [e1] at h; exact fun cls dx H1 P => h cls dx σ H1 P.toS
  | no => rw [e1] at h; exact h
theorem xe_tup {Ξ : L2.St → Hp → Prop} {es : List Expr} {x1 pos} (h : PA X es (tXA Ξ (tA Γ W δs))) : PE X (.Tuple es x1 pos) (tXE Ξ (tI Γ W (dDisp opTup δs))) := (pe_tup h).imp fun σ H Q q => ⟨q.1, opM_ent opTup_ok q.2⟩
theorem xe_lst {Ξ : L2.St → Hp → Prop} {es : List Expr} {pos} (h : PA X es (tXA Ξ (tA Γ W δs))) : PE X (.List es pos) (tXE Ξ (tI Γ W (dDisp opLst δs))) := (pe_lst h).imp fun σ H Q q => ⟨q.1, opM_ent opLst_ok q.2⟩
end
end TB
end
section
set_option Elab.async false
set_option linter.all false
set_option maxRecDepth 100000
set_option maxHeartbeats 4000000
namespace TB
open PySem PySem.Spec L2
/-- x[k], x a name: of a list that is its own, only the part that is read is frozen -/
def dVarIx (i : Nat) (δk : Den) : Den := fun ρ => match ρ[i]?, δk ρ with
  | some (some (.lst true ds)), .ok (.int k) [] true _ => (match ixN ds.length k with
    | some j => (match ds[j]? with
      | some d => if imm d then .ok d [] true ρ else .ok (fr d) [] false (ρ.set i (some (.lst true (ds.set j (fr d)))))
      | none => .no)
    | none => .no)
  | _, _ => dOp (two gIx) (dCons (dVar i) (dCons δk dNil)) ρ
section
variable {Γ : Ctx} {X : Cx} {W : WX} {H H1 H2 H' : Hp} {o s o1 s1 : List Addr} {ρ ρ' ρ1 : VE} {σ σ1 : L2.St} {v : V} {vs us : List V} {d : D} {ds : List D} {δ δk : Den} {Q : VK} {PO PS : Addr → Prop} {G G' : Grp} {a : Addr}
theorem LiveR.toLive (h : LiveR Γ a PO PS H G) : Live Γ (fun x => PO x ∧ x ≠ a) (fun x => PS x ∧ x ≠ a) H G := by
  obtain ⟨o, s, h, n1, n2, p1, p2⟩ := h
  exact ⟨o, s, h, fun x m => ⟨p1 x m, fun z => n1 (z ▸ m)⟩, fun x m => ⟨p2 x m, fun z => n2 (z ▸ m)⟩⟩
theorem LiveR.ofLive (h : Live Γ (fun x => PO x ∧ x ≠ a) (fun x => PS x ∧ x ≠ a) H G) : LiveR Γ a PO PS H G := by
  obtain ⟨o, s, h, p1, p2⟩ := h
  exact ⟨o, s, h, fun m => (p1 a m).2 rfl, fun m => (p2 a m).2 rfl, fun x m => (p1 x m).1, fun x m => (p2 x m).1⟩
theorem zip_at : ∀ {ds : List D} {us : List V} {j : Nat} {d : D} {u : V}, ds.length = us.length → ds[j]? = some d → us[j]? = some u → ∃ R : Grp, (ds.zip us).Perm ((d, u) :: R) ∧ ∀ e, ((ds.set j e).zip us).Perm ((e, u) :: R)
  | [], _, _, _, _, _, h, _ => by simp at h
  | _ :: _, [], _, _, _, h, _, _ => by simp at h
  | x :: ds, y :: us, 0, d, u, hl, h1, h2 => by
    simp at h1 h2
    subst h1; subst h2
    exact ⟨ds.zip us, .refl _, fun e => .refl _⟩
  | x :: ds, y :: us, j + 1, d, u, hl, h1, h2 => by
    obtain ⟨R, p, q⟩ := zip_at (ds := ds) (us := us) (j := j) (d := d) (u := u) (by simpa using hl) (by simpa using h1) (by simpa using h2)
    exact ⟨(x, y) :: R, (p.cons _).trans (.swap _ _ _), fun e => ((q e).cons _).trans (.swap _ _ _)⟩
theorem upd_id {u : HO} (h : H a = some u) : upd H a u = H := by
  funext b
  by_cases hb : b = a
  · rw [hb, upd_same, h]
  · rw [upd_ne hb]
/-- a part of an own list at a name, frozen there and read -/
theorem Live.part {i j : Nat} {x : V} (q : ∀ a, PO a → PS a) (al : Al σ ρ) (e : ρ[i]? = some (some (.lst true ds))) (hx : σ[i]? = some (some x)) (hj : ds[j]? = some d) (h : Live Γ PO PS H (slots ρ σ)) :
    ∃ a us y, x = .ref a ∧ H a = some (.lst us) ∧ ds.length = us.length ∧ us[j]? = some y ∧ (∃ o1 s1, Rep Γ H d y o1 s1) ∧ Live Γ PO PS H ((fr d, y) :: slots (ρ.set i (some (.lst true (ds.set j (fr d))))) σ) := by
  have h0 : Live Γ PO PS H ([] ++ slots ρ σ) := h
  obtain ⟨a, us, rfl, e1, hl, po, lr, back⟩ := Live.chg al e hx h0
  have hjl : j < us.length := by rw [← hl]; exact (List.getElem?_eq_some_iff.mp hj).1
  obtain ⟨R, p, pe⟩ := zip_at hl hj (List.getElem?_eq_getElem hjl)
  have l1 : LiveR Γ a PO PS H ((d, us[j]) :: (R ++ slots (ρ.set i none) σ)) := lr.perm (by
    rw [List.nil_append]
    exact p.append_right _)
  have l2 := l1.toLive
  have l3 := l2.dup (fun x z => ⟨q x z.1, z.2⟩)
  have l4 : LiveR Γ a PO PS H ((ds.set j (fr d)).zip us ++ ([(fr d, us[j])] ++ slots (ρ.set i none) σ)) := (LiveR.ofLive l3).perm (by
    have p1 : ((fr d, us[j]) :: (fr d, us[j]) :: (R ++ slots (ρ.set i none) σ)).Perm ((fr d, us[j]) :: (((ds.set j (fr d)).zip us) ++ slots (ρ.set i none) σ)) := List.Perm.cons _ (((pe (fr d)).symm).append_right _)
    refine p1.trans ?_
    exact List.perm_middle.symm)
  have l5 := back (ds.set j (fr d)) us [(fr d, us[j])] (by simpa using hl) l4
  rw [upd_id e1] at l5
  exact ⟨a, us, us[j], rfl, e1, hl, List.getElem?_eq_getElem hjl, l2.rep, l5⟩
theorem varIx_ent {i : Nat} (h : tI Γ W (dVarIx i δk) σ H Q) : tVar i σ H (fun v H1 => tI Γ W δk σ H1 (fun w H2 => rIx Γ.K v w H2 Q)) ∨ tI Γ W (dOp (two gIx) (dCons (dVar i) (dCons δk dNil))) σ H Q := by
  obtain ⟨ρ, o, s, al, ow, h⟩ := h
  unfold dVarIx at h
  split at h
  · rename_i ds k ρ1 e1 e2
    left
    split at h
    · rename_i j ej
      split at h
      · rename_i d ed
        obtain ⟨x, hx⟩ := al.has i _ e1
        refine ⟨x, hx, ρ, o, s, al, ow, ?_⟩
        rw [e2]
        intro w H1 P
        obtain ⟨rfl, k0⟩ := P.pu rfl
        obtain ⟨a, us, y, rfl, ea, hl, ey, ⟨o1, s1, ry⟩, lp⟩ := Live.part (fun a z => z.toS) al e1 hx ed P.l1
        obtain ⟨_, _, rw'⟩ := P.l2.rep
        obtain rfl : w = .int k := rw'.1
        refine .inl ⟨a, us, k, y, rfl, rfl, .of ea, by unfold atI; rw [← hl, ej]; exact ey, ?_⟩
        split at h
        · rename_i hi
          exact h y H1 ⟨al, P.l1, P.l1.imm hi ry, P.kp, fun _ => ⟨rfl, k0⟩⟩
        · exact h y H1 ⟨al_setd al hx, lp.tail, lp, P.kp, fun z => nomatch z⟩
      · exact h.elim
    · exact h.elim
  · right
    exact ⟨ρ, o, s, al, ow, h⟩
theorem ed_varIx (i : Nat) {x : Str} {b : Expr} {p pos : Pos} (hK : X.K = Γ.K) (hb : PE X b (tI Γ W δk)) (hN : X.N[i]? = some x := by rfl) (hv : Vis X.env.scope x := by first | exact Or.inl rfl | exact Or.inr (Or.inl rfl) | exact Or.inr (Or.inr rfl)) (hd : (x == ("__debug__" : Str)) = false := by decide)
    (hcd : (x == ("__classdict__" : Str)) = false := by decide) (hs : PlainIx b := by intro _ _; rfl) : PE X (.Subscript (.Name x p) b pos) (tI Γ W (dVarIx i δk)) := by
  refine ⟨fun pins s σ H Q I h => ?_⟩
  rcases varIx_ent h with h | h
  · exact (pe_ix (hK ▸ ix_seq) (pe_var hN hv hd hcd) hb hs).run pins s σ H Q I h
  · exact (ed_idx hK (ed_var i hN hv hd hcd) hb hs).run pins s σ H Q I h
end
end TB
end
section
set_option Elab.async false
set_option linter.all false
set_option maxRecDepth 100000
set_option maxHeartbeats 4000000
namespace TB
open PySem PySem.Spec L2
theorem kit_b {x : Option Bool} {b : Bool} (h : b = true) (e : x = some true) : x = some b := h ▸ e
section
variable {Γ : Ctx} {X : Cx} {W : WX} {io : List Nat} {H H1 H2 H' : Hp} {o s o1 s1 : List Addr} {ρ ρ' ρ1 : VE} {σ σ1 : L2.St} {v : V} {vs : List V} {d : D} {bs : List Nat} {pu : Bool} {δ δa δb δc : Den} {δs : DenA} {Q : VK} {Z : Ends}
/-! ### a, b = x, y -/
theorem Live.setT {PO PS : Addr → Prop} {T : Grp} {i : Nat} (al : Al σ ρ) (hi : i < ρ.length) (h : Live Γ PO PS H ((d, v) :: (T ++ slots ρ σ))) : Live Γ PO PS H (T ++ slots (ρ.set i (some d)) (σ.set i (some v))) := by
  have p := slots_set (d := d) (v := v) hi al.len
  refine Live.perm ?_ (p.symm.append_left T)
  have q1 : ((d, v) :: (T ++ slots (ρ.set i none) σ)).Perm (T ++ (d, v) :: slots (ρ.set i none) σ) := List.perm_middle.symm
  refine Live.perm ?_ q1
  by_cases e : ∃ x, ρ[i]? = some (some x)
  · obtain ⟨x, e⟩ := e
    obtain ⟨y, ey⟩ := al.has i x e
    have q := slots_out e ey
    have q2 : ((d, v) :: (T ++ slots ρ σ)).Perm ((x, y) :: (d, v) :: (T ++ slots (ρ.set i none) σ)) := by
      refine (List.Perm.cons _ (q.append_left T)).trans ?_
      refine (List.Perm.cons _ List.perm_middle).trans ?_
      exact .swap _ _ _
    exact (h.perm q2).tail
  · have : ρ.set i none = ρ := by
      have hh : ρ[i]? = some none := by
        cases e2 : ρ[i]? with
        | none => rw [List.getElem?_eq_none_iff] at e2; omega
        | some y =>
          cases y with
          | none => rfl
          | some x => exact absurd ⟨x, e2⟩ e
      apply List.ext_getElem?
      intro j
      by_cases hj : i = j
      · subst hj
        rw [List.getElem?_set_self hi, hh]
      · rw [List.getElem?_set_ne hj]
    rw [this]
    exact h
def dPar (io : List Nat) (i j : Nat) (δs : DenA) : DenS := fun ρ => match δs ρ with
  | .ok as bs _ ρ1 => (match vals as with
    | some [d, e] => (match sName io i d (fz bs ρ1) with
      | some ρ2 => (match sName io j e ρ2 with
        | some ρ3 => .nx ρ3
        | none => .no)
      | none => .no)
    | _ => .no)
  | .ex e ρ1 => .ex e ρ1
  | .no => .no
theorem par_ent {i j : Nat} (h : tS Γ W io (dPar io i j δs) Z σ H) : tPar i j (tA Γ W δs) Z σ H := by
  obtain ⟨ρ, o, s, al, ow, h⟩ := h
  refine ⟨ρ, o, s, al, ow, ?_⟩
  unfold dPar at h
  cases e : δs ρ with
  | no => rw [e] at h; exact h
  | ex x ρ1 => rw [e] at h; exact fun cls dx H1 P => h cls dx σ H1 P.toS
  | ok as bs pu ρ1 =>
    rw [e] at h
    cases e1 : vals as with
    | none => simp only [e1] at h; exact h.elim
    | some ds =>
      simp only [e1] at h
      match ds, e1, h with
      | [], _, h => exact h.elim
      | [_], _, h => exact h.elim
      | _ :: _ :: _ :: _, _, h => exact h.elim
      | [d, e2], e1, h =>
        simp only [sName] at h
        split at h
        · rename_i ρ2 hh
          split at hh
          · rename_i c1
            cases hh
            split at h
            · rename_i ρ3 hh2
              split at hh2
              · rename_i c2
                cases hh2
                intro vs H1 P
                obtain ⟨hl, ht⟩ := vals_tmps e1 P.ar
                match vs, hl, ht, P with
                | [v, w], _, ht, P =>
                  refine ⟨v, w, rfl, h _ _ ⟨((P.al.fz bs).set i d v).set j e2 w, ?_, P.kp, fun q m => ?_⟩⟩
                  · have l2 := P.l2
                    rw [ht] at l2
                    have l3 : Live Γ (nO H o) (nS H o s) H1 ((d, v) :: ([(e2, w)] ++ slots (fz bs ρ1) σ)) := l2
                    have l4 := Live.setT (P.al.fz bs) c1.1 l3
                    exact Live.setN ((P.al.fz bs).set i d v) c2.1 l4
                  · rw [List.getElem?_set_ne (fun e => c2.2 (by rw [e]; exact m)), List.getElem?_set_ne (fun e => c1.2 (by rw [e]; exact m))]
              · cases hh2
            · exact h.elim
          · cases hh
        · exact h.elim
theorem es_par {i j : Nat} {x y : Str} {a b : Expr} {px py pt pt2 pos : Pos} {kt k2 : Nat} (hc : X.calm = true) (hN : X.N.Nodup) (ha : PA X [a, b] (tA Γ W δs)) (hij : i ≠ j := by decide) (hi : X.N[i]? = some x := by rfl) (hj : X.N[j]? = some y := by rfl) (hx : X.env.scope.names.lookup x = some .local := by rfl) (hy : X.env.scope.names.lookup y = some .local := by rfl)
    (hw : swappedStores [.Tuple [.Name x px, .Name y py] kt pt] (.Tuple [a, b] k2 pt2) X.env = pure (some [x, y]) := by rfl) : PS X (.Assign [.Tuple [.Name x px, .Name y py] kt pt] (.Tuple [a, b] k2 pt2) pos) (tS Γ W io (dPar io i j δs)) :=
  (ps_par hc hN hi hj hij hx hy ha hw).imp fun D σ H q => par_ent q
end
end TB
end
section
set_option Elab.async false
set_option linter.all false
set_option maxRecDepth 100000
set_option maxHeartbeats 4000000
namespace TB
open PySem PySem.Spec PyProof.Rows L2
/-! ### several clauses, each with its own name -/
abbrev Sui : Type := Value × Nat × (Addr → Value → Option Addr → TS)
def wAll (K : PySem.W.Frag) (Wo : WX) (Z : Ends) : List Sui → WX
  | [] => Wo
  | (c, i, t) :: r => fun cls dx σ H => ∃ b, PySem.W.exmOne K cls c = some b ∧
    (b = true → ∀ z, H z = none → t z cls dx { nx := fun τ G => Z.nx (τ.set i none) G, rt := Z.rt, bk := fun τ G => Z.bk (τ.set i none) G, ct := fun τ G => Z.ct (τ.set i none) G } (σ.set i (some (.ref z))) H) ∧ (b = false → wAll K Wo Z r cls dx σ H)
/-- the clauses and their readings -/
inductive ClOk (X : Cx) : List ExceptHandler → List Sui → Prop
  | nil : ClOk X [] []
  | cons {x n : Str} {c : Value} {i : Nat} {t : Addr → Value → Option Addr → TS} {first : Stmt} {more : List Stmt} {q1 q2 : Pos} {hs : List ExceptHandler} {l : List Sui} (named : Names X x c) (at_ : X.N[i]? = some n) (loc : X.env.kindOf n = some .local)
      (read : ∀ (z : Addr) (ob : Obj) (cls : Value) (dx : Option Addr) (pn : List (Addr × Obj)), Zc cls dx ob → (∃ vs, ob.data = .fields vs) → PSs (X.suite z ((z, ob) :: pn)) (first :: more) (t z cls dx)) (rest : ClOk X hs l) :
      ClOk X (.ExceptHandler (some (.Name x q1)) (some n) (first :: more) q2 :: hs) ((c, i, t) :: l)
section
variable {X : Cx} {body : List Stmt} {one : ExceptHandler} {others : List ExceptHandler} {l : List Sui} {pos : Pos} {tb : WX → TS} {Wo : WX}
theorem ps_tries (hs : X.stack = X.env :: X.outer) (hf : X.env.frame = some X.env.locals) (hN : X.N.Nodup) (tk : Takes X Wo)
    (hb : ∀ (W : WX) (pn : List (Addr × Obj)) (xe : Value → Shared → Prop), Takes (X.tr pn xe) W → PassesOwn (model X.prog X.w) X.A X.env xe → PSs (X.tr pn xe) body (tb W)) (hh : ClOk X (one :: others) l) :
    PS X (.Try body (one :: others) [] [] pos) (fun Z σ H => tb (wAll X.K Wo Z l) Z σ H) := by
  constructor
  intro pins s σ H Z I want
  have good := I.ok
  have frames : X.A.frames = some (X.env :: X.outer) := hs ▸ good.frames
  apply wpAny_Try_except
  have behind : ∀ f s1, SP (X.tr (X.pn ++ pins) (fun e s₁ => wpAny (model X.prog X.w) X.A (noteFrame e X.env) (fun _ s₂ => wpAny (model X.prog X.w) X.A (setFlight e none) (fun _ s₃ => wpAny (model X.prog X.w) X.A (handleBy e X.env (one :: others)) (SP X pins Z) X.xe s₃) X.xe s₂) X.xe s₁)) [] Z f s1 → SP X pins Z f s1 := by
    intro f s1 q
    cases f with
    | next => exact let ⟨τ, G, J, w⟩ := q; ⟨τ, G, J.ofTry good, w⟩
    | brk => exact let ⟨τ, G, J, w⟩ := q; ⟨τ, G, J.ofTry good, w⟩
    | cont => exact let ⟨τ, G, J, w⟩ := q; ⟨τ, G, J.ofTry good, w⟩
    | ret u => exact let ⟨y, τ, G, J, r, w⟩ := q; ⟨y, τ, G, J.ofTry good, r, w⟩
  refine wpAny_mono ((hb (wAll X.K Wo Z l) (X.pn ++ pins) _ ?caught PassesOwn.looking).run [] s σ H Z (I.toTry _) want) ?through (fun _ _ z => z)
  case through =>
    intro f s1 q
    have q' := behind f s1 q
    cases f with
    | next => exact wpAny_execs_nil q'
    | brk => exact q'
    | cont => exact q'
    | ret u => exact q'
  case caught =>
    intro u s' met
    obtain ⟨z, B, sI, pins', τ, G, cls, dx, rfl, J', nb, up, sky, nz, os, ag, w⟩ := met
    have J : Inv X pins τ G sI := J'.ofTry good
    have sky2 : Sky B (X.env :: X.outer) z (Zc cls dx) X.env.locals s'.heap := hs ▸ sky
    show wpAny (model X.prog X.w) X.A (noteFrame (.ref z) X.env) _ _ _
    apply Sky.land Zc.steady frames hf sky2
    intro h3 fl3 up3
    have J3 : Inv X pins τ G { s' with heap := h3 } := J.landed nb fl3.1 (up.trans up3) os ag
    obtain ⟨ob, vs, hob, hzc, hda⟩ := fl3.there
    have off : z ∉ L2.frs (X.env :: X.outer) := fun m => by
      obtain ⟨_, ob', e1, free⟩ := fl3.2.2.1.mem m
      rw [hob] at e1
      cases e1
      exact free _ hda
    have offL : z ≠ X.env.locals := fun e => off (List.mem_filterMap.mpr ⟨X.env, by simp, by rw [hf, e]⟩)
    have offF : z ∉ X.fs := fun m => by
      obtain ⟨e, me, q⟩ := List.mem_filterMap.mp m
      exact off (List.mem_filterMap.mpr ⟨e, by simp [me], q⟩)
    have S3 := J3.suite hob hda nz offL offF
    have each : ∀ {hs' : List ExceptHandler} {l' : List Sui}, ClOk X hs' l' → wAll X.K Wo Z l' cls dx τ G → wpAny (model X.prog X.w) X.A (handleBy (.ref z) X.env hs') (SP X pins Z) X.xe { s' with heap := h3 } := by
      intro hs' l' ok
      induction ok with
      | nil =>
        intro w
        apply wpAny_handleBy_nil
        obtain ⟨_, _, _, o3, v3, T, oT, t3, g1, _, g3, g4, _⟩ := id fl3
        unfold PySem.passOn
        refine wpAny_bind (wpAny_field g1 g3 g4 ?_)
        rw [if_neg (show ¬ ((Value.ref T == Value.none) = true) by simp)]
        have last : wpAny (model X.prog X.w) X.A (setFlight (.ref z) X.env.frame) (fun _ s4 => wpAny (model X.prog X.w) X.A (throw (.ref z) : Sem Flow) (SP X pins Z) X.xe s4) X.xe { s' with heap := h3 } := by
          rw [hf]
          refine HandSPX.setFlight_upZ fl3 fun h4 on up4 => wpAny_throw (tk _ _ ⟨z, B, sI, pins, τ, G, cls, dx, rfl, J, nb, (up.trans up3).trans up4, .inr (.inr (hs ▸ on)), nz, os, ag, w⟩)
        first
          | exact wpAny_bind (wpAny_pure (wpAny_bind last))
          | exact wpAny_bind last
      | @cons x n c i t first more q1 q2 hs2 l2 named at_ loc read rest ih =>
        rintro ⟨b, hm, yes, no⟩
        refine wpAny_handleBy_cons (codeAny_handlers_test ?_) (by intro q; cases q)
        have looks : PySem.W.Looks (model X.prog X.w) h3 (typeOf (.ref z)) cls := fun A Q E s k q => wpAny_typeOf_ref (k _ _ hob) (hzc.1.symm ▸ q)
        have told := PySem.W.exm_one (M := model X.prog X.w) (J3.kIn) looks hm
        have asked : ∀ {Q : Value → Shared → Prop} {E : Value → Shared → Prop}, Q c { s' with heap := h3 } → wpAny (model X.prog X.w) (X.A.mark (some (.ref z))) (eval (.Name x q1) X.env) Q E { s' with heap := h3 } := by
          intro Q E q
          obtain ⟨a1, a2, a3⟩ := named
          rcases a3 with a3 | ⟨a3, a4, a5⟩
          · exact ld_glob (X := X.suite z ((z, ob) :: (X.pn ++ pins))) S3 a1 a3 q a2
          · exact ld_blt (X := X.suite z ((z, ob) :: (X.pn ++ pins))) S3 a1 a3 a4 q a5 a2
        refine asked (told.here ?_)
        cases b with
        | false => exact ih (no rfl)
        | true =>
          apply codeAny_handlers_suite_as
          apply HandSPX.lands_againZ fl3
          intro h4 fl4 up4
          have J4 : Inv X pins τ G { s' with heap := h4 } := J.landed nb fl4.1 ((up.trans up3).trans up4) os ag
          obtain ⟨ob4, vs4, hob4, hzc4, hda4⟩ := fl4.there
          have S4 := J4.suite hob4 hda4 nz offL offF
          refine store_ok (X := X.suite z ((z, ob4) :: (X.pn ++ pins))) (v := .ref z) S4 hN at_ (.inl loc) rfl ?_ (.inr loc)
          intro s5 S5
          refine wpAny_mono ((read z ob4 cls dx (X.pn ++ pins) hzc4 ⟨_, hda4⟩).run [] s5 _ G _ S5 (yes rfl z nz)) ?_ (fun _ _ e => e.elim)
          intro f s6 q
          have leave : ∀ {τ6 : L2.St} {G6 : Hp} {R : Shared → Prop}, Inv (X.suite z ((z, ob4) :: (X.pn ++ pins))) [] τ6 G6 s6 → (∀ s7, Inv X pins (τ6.set i none) G6 s7 → R s7) →
              wpAny (model X.prog X.w) X.A (do bindName X.env n .none; unbindBehindTheSuite X.env n q2) (fun _ s7 => R s7) X.xe s6 := fun S6 k => gone_ok (S6.unsuite good) hN at_ loc k
          cases f with
          | next => exact let ⟨_, _, S6, w6⟩ := q; leave S6 fun _ J7 => ⟨_, _, J7, w6⟩
          | brk => exact let ⟨_, _, S6, w6⟩ := q; leave S6 fun _ J7 => ⟨_, _, J7, w6⟩
          | cont => exact let ⟨_, _, S6, w6⟩ := q; leave S6 fun _ J7 => ⟨_, _, J7, w6⟩
          | ret y => exact let ⟨_, _, _, S6, r6, w6⟩ := q; leave S6 fun _ J7 => ⟨_, _, _, J7, r6, w6⟩
    exact each hh w
end
end TB
end
section
set_option Elab.async false
set_option linter.all false
set_option maxRecDepth 100000
set_option maxHeartbeats 4000000
namespace TB
open PySem PySem.Spec L2
/-! ### several clauses: what comes -/
abbrev Cls : Type := List (Nat × Bool) × Nat × (Exn → DenS)
def dCls : List Cls → Exn → VE → RS
  | [], e, ρ => .ex e ρ
  | (L, i, su) :: r, e, ρ => match L.lookup e.cls with
    | some true => if i < ρ.length then (match su e (ρ.set i none) with
      | .rt d ρ2 => .rt d ρ2
      | _ => .no) else .no
    | some false => dCls r e ρ
    | none => .no
def dTrys (body : DenS) (cs : List Cls) : DenS := fun ρ => match body ρ with
  | .ex e ρ1 => dCls cs e ρ1
  | r => r
section
variable {Γ : Ctx} {X : Cx} {W : WX} {io : List Nat} {H H1 H2 H' : Hp} {o s o1 s1 oB sB : List Addr} {ρ ρ' ρ1 : VE} {σ σ1 : L2.St} {v : V} {vs us : List V} {d : D} {ds : List D} {δ δa δb δc : Den} {δs : DenA} {ς ςb : DenS} {Z : Ends} {Q : VK} {a : Addr} {oe : Obj} {cls : Value} {dx : Option Addr} {e : Exn} {pn : List (Addr × Obj)}
/-- the clauses' readings go with what they come to -/
inductive CsOk (Γ : Ctx) (io : List Nat) : List Cls → List Sui → Prop
  | nil : CsOk Γ io [] []
  | cons {L : List (Nat × Bool)} {i : Nat} {su : Exn → DenS} {c : Value} {cs : List Cls} {l : List Sui} (hi : i ∉ io) (hx : ∀ k b, L.lookup k = some b → PySem.W.exmOne Γ.K (.ref (Γ.ce k)) c = some b) (r : CsOk Γ io cs l) : CsOk Γ io ((L, i, su) :: cs) ((c, i, tSu Γ io i su) :: l)
theorem cls_ent {cs : List Cls} {l : List Sui} (ok : CsOk Γ io cs l) (h : DoneS Γ W io H o s σ Z (dCls cs e ρ1)) (P : PostXS Γ io H o s σ e ρ1 cls dx σ1 H1) : wAll Γ.K W Z l cls dx σ1 H1 := by
  induction ok with
  | nil => exact h cls dx σ1 H1 P
  | @cons L i su c cs l hi hx r ih =>
    have ec := P.er.1
    cases e1 : L.lookup e.cls with
    | none => simp only [dCls, e1] at h; exact h.elim
    | some b =>
      refine ⟨b, by rw [ec]; exact hx _ _ e1, fun hb a ha => ?_, fun hb => ?_⟩
      · subst hb
        simp only [dCls, e1] at h
        split at h
        · rename_i hil
          have hl1 : i < σ1.length := by rw [P.al.len]; exact hil
          obtain ⟨o1, s1, ow1, p1, p2⟩ := Live.drop P.al P.l1 i (some (.ref a))
          refine ⟨e, ⟨P.er, by rw [List.getElem?_set_self hl1]⟩, ρ1.set i none, o1, s1, P.al.drop i _, ow1, ?_⟩
          cases e2 : su e (ρ1.set i none) with
          | rt d ρ2 =>
            rw [e2] at h
            have h' : DoneS Γ W io H1 o1 s1 (σ1.set i (some (.ref a))) Z (.rt d ρ2) := DoneS.back P.kp p1 p2 (fun j m => by
              rw [List.getElem?_set_ne (fun z => hi (by rw [z]; exact m))]
              exact P.io j m) h
            exact h'
          | nx _ => rw [e2] at h; exact h.elim
          | bk _ => rw [e2] at h; exact h.elim
          | ct _ => rw [e2] at h; exact h.elim
          | ex _ _ => rw [e2] at h; exact h.elim
          | no => rw [e2] at h; exact h.elim
        · exact h.elim
      · subst hb
        simp only [dCls, e1] at h
        exact ih h
theorem trys_ent {cs : List Cls} {l : List Sui} (ok : CsOk Γ io cs l) (h : tS Γ W io (dTrys ςb cs) Z σ H) : tS Γ (wAll Γ.K W Z l) io ςb Z σ H := by
  obtain ⟨ρ, o, s, al, ow, h⟩ := h
  refine ⟨ρ, o, s, al, ow, ?_⟩
  unfold dTrys at h
  cases e : ςb ρ with
  | nx ρ1 => rw [e] at h; exact h
  | bk ρ1 => rw [e] at h; exact h
  | ct ρ1 => rw [e] at h; exact h
  | rt d ρ1 => rw [e] at h; exact h
  | no => rw [e] at h; exact h
  | ex x ρ1 =>
    rw [e] at h
    exact fun cls dx σ1 H1 P => cls_ent ok h P
theorem es_trys {cs : List Cls} {l : List Sui} {body : List Stmt} {one : ExceptHandler} {others : List ExceptHandler} {pos : Pos} (hK : X.K = Γ.K) (hs : X.stack = X.env :: X.outer) (hf : X.env.frame = some X.env.locals) (hN : X.N.Nodup) (tk : Takes X W) (ok : CsOk Γ io cs l)
    (hb : ∀ (W : WX) (pn : List (Addr × Obj)) (xe : Value → Shared → Prop), Takes (X.tr pn xe) W → PassesOwn (model X.prog X.w) X.A X.env xe → PSs (X.tr pn xe) body (tS Γ W io ςb)) (hh : ClOk X (one :: others) l) :
    PS X (.Try body (one :: others) [] [] pos) (tS Γ W io (dTrys ςb cs)) := (ps_tries (tb := fun W => tS Γ W io ςb) (Wo := W) hs hf hN tk hb hh).imp fun Z σ H q => by
  rw [hK]
  exact trys_ent ok q
end
end TB
end
section
set_option Elab.async false
set_option linter.all false
set_option maxRecDepth 100000
set_option maxHeartbeats 4000000
namespace TB
open PySem PySem.Spec L2
section
variable {Γ : Ctx} {X : Cx} {W : WX} {io : List Nat} {H H1 H2 H' : Hp} {o s o1 s1 : List Addr} {ρ ρ' ρ1 : VE} {σ σ1 : L2.St} {v : V} {vs us : List V} {d : D} {ds : List D} {bs : List Nat} {pu : Bool} {δ δa δb δc : Den} {δs : DenA} {Q : VK} {Z : Ends} {f : List D → Option D}
/-! ### all, any, max, int -/
def bls? : List D → Option (List Bool)
  | [] => some []
  | .bl i :: ds => (bls? ds).map (i :: ·)
  | _ => none
theorem bls_ok : ∀ {ds : List D} {ns : List Bool} {vs : List V} {o s : List Addr}, bls? ds = some ns → Reps Γ H ds vs o s → vs = ns.map V.bl
  | [], _, _, _, _, e, h => by cases e; obtain ⟨rfl, _⟩ := h; rfl
  | .bl i :: ds, _, _, _, _, e, h => by
    obtain ⟨v, vs', o1, s1, o2, s2, rfl, ⟨rfl, _⟩, h2, rfl, rfl⟩ := h
    cases e1 : bls? ds with
    | none => simp [bls?, e1] at e
    | some ns =>
      simp [bls?, e1] at e
      subst e
      rw [bls_ok e1 h2]; rfl
  | .non :: _, _, _, _, _, e, _ => by cases e
  | .int _ :: _, _, _, _, _, e, _ => by cases e
  | .str _ :: _, _, _, _, _, e, _ => by cases e
  | .lst _ _ :: _, _, _, _, _, e, _ => by cases e
  | .tup _ :: _, _, _, _, _, e, _ => by cases e
  | .lk _ :: _, _, _, _, _, e, _ => by cases e
  | .dK _ _ _ :: _, _, _, _, _, e, _ => by cases e
  | .dT _ _ _ :: _, _, _, _, _, e, _ => by cases e
  | .obj _ _ _ _ :: _, _, _, _, _, e, _ => by cases e
theorem bls_map : ∀ ns : List Bool, bls? (ns.map D.bl) = some ns
  | [] => rfl
  | n :: ns => by simp [bls?, bls_map ns]
def lstOf : D → Option (List D)
  | .lst _ xs => some xs
  | .lk xs => some xs
  | _ => none
theorem Rep.lq {d : D} {ds : List D} (e : lstOf d = some ds) (h : Rep Γ H d v o s) : ∃ a us o' s', v = .ref a ∧ Reps Γ H ds us o' s' ∧ (∀ b ∈ o', b ∈ o) ∧ (∀ b ∈ s', b ∈ s) ∧ SqL Γ.K H a us := by
  cases d <;> first | (cases e; done) | skip
  · cases e
    obtain ⟨p, us, o1, s1, rfl, r1, m1, m2, h1⟩ := h.lstI
    exact ⟨p, us, o1, s1, rfl, r1, m1, m2, .of h1⟩
  · cases e
    obtain ⟨p, us, rfl, r1, n⟩ := h
    exact ⟨p, us, o, s, rfl, r1, fun _ m => m, fun _ m => m, n.sq⟩
def gAll (d : D) : Option D := ((lstOf d).bind bls?).map fun bs => .bl (bs.all id)
def gAny (d : D) : Option D := ((lstOf d).bind bls?).map fun bs => .bl (bs.any id)
theorem bls_of {d : D} {bs : List Bool} (e : (lstOf d).bind bls? = some bs) (r : Rep Γ H d v o s) : ∃ a, v = .ref a ∧ SqL Γ.K H a (bs.map V.bl) := by
  cases e1 : lstOf d with
  | none => rw [e1] at e; cases e
  | some ds =>
    rw [e1] at e
    obtain ⟨a, us, o', s', rfl, r1, _, _, h⟩ := Rep.lq e1 r
    exact ⟨a, rfl, by rw [← bls_ok e r1]; exact h⟩
theorem opAll_ok : OpS Γ (rAll Γ.K) (one gAll) := OpS.val fun ds vs H o s d rs e => by
  obtain ⟨a, rfl⟩ := one_shape ds d e
  obtain ⟨v, rfl, r⟩ := rs.one'
  have e : ((lstOf a).bind bls?).map (fun bs => D.bl (bs.all id)) = some d := e
  cases e1 : (lstOf a).bind bls? with
  | none => rw [e1] at e; cases e
  | some bs =>
    rw [e1] at e
    cases e
    obtain ⟨p, rfl, h⟩ := bls_of e1 r
    exact ⟨_, ⟨rfl, rfl, rfl⟩, fun Q q => ⟨p, bs, rfl, h, q⟩⟩
theorem opAny_ok : OpS Γ (rAny Γ.K) (one gAny) := OpS.val fun ds vs H o s d rs e => by
  obtain ⟨a, rfl⟩ := one_shape ds d e
  obtain ⟨v, rfl, r⟩ := rs.one'
  have e : ((lstOf a).bind bls?).map (fun bs => D.bl (bs.any id)) = some d := e
  cases e1 : (lstOf a).bind bls? with
  | none => rw [e1] at e; cases e
  | some bs =>
    rw [e1] at e
    cases e
    obtain ⟨p, rfl, h⟩ := bls_of e1 r
    exact ⟨_, ⟨rfl, rfl, rfl⟩, fun Q q => ⟨p, bs, rfl, h, q⟩⟩
theorem ed_all {p pos : Pos} {a : Expr} (hK : X.K = Γ.K) (hc : X.calm = true) (hm : X.mg "all" = none) (ha : PE X a (tI Γ W δ)) (hg : Gl X "all" := by rfl) (hs : starEach [a] X.env = [(false, eval a X.env)] := by rfl) : PE X (.Call (.Name "all" p) [a] [] pos) (tI Γ W (dOp (one gAll) (dCons δ dNil))) :=
  ed_callB opAll_ok (hK ▸ cr_all hc) hg hm (by decide +kernel) (ea_cons ha ea_nil hs) (by decide) (by decide) hs rfl
theorem ed_any {p pos : Pos} {a : Expr} (hK : X.K = Γ.K) (hc : X.calm = true) (hm : X.mg "any" = none) (ha : PE X a (tI Γ W δ)) (hg : Gl X "any" := by rfl) (hs : starEach [a] X.env = [(false, eval a X.env)] := by rfl) : PE X (.Call (.Name "any" p) [a] [] pos) (tI Γ W (dOp (one gAny) (dCons δ dNil))) :=
  ed_callB opAny_ok (hK ▸ cr_any hc) hg hm (by decide +kernel) (ea_cons ha ea_nil hs) (by decide) (by decide) hs rfl
/-- the greatest of some ints -/
def mxI : List Int → Option Int
  | [] => none
  | n :: ns => some (ns.foldl max n)
theorem foldl_max (n : Int) (ns : List Int) : (∀ y ∈ n :: ns, y ≤ ns.foldl max n) ∧ ns.foldl max n ∈ n :: ns := by
  induction ns generalizing n with
  | nil => simp
  | cons m ns ih =>
    obtain ⟨h1, h2⟩ := ih (max n m)
    have h0 := h1 (max n m) (by simp)
    refine ⟨fun y hy => ?_, ?_⟩
    · simp only [List.mem_cons] at hy
      simp only [List.foldl_cons]
      rcases hy with rfl | rfl | hy
      · omega
      · omega
      · exact h1 y (by simp [hy])
    · simp only [List.foldl_cons, List.mem_cons] at h2 ⊢
      rcases h2 with h2 | h2
      · rw [h2]
        rcases Int.le_total n m with z | z
        · right; left; omega
        · left; omega
      · exact .inr (.inr h2)
theorem mxI_uniq {ns : List Int} {m x : Int} (h : mxI ns = some x) (hm : m ∈ ns) (hmax : ∀ y ∈ ns, y ≤ m) : m = x := by
  cases ns with
  | nil => cases hm
  | cons n ns =>
    cases h
    obtain ⟨h1, h2⟩ := foldl_max n ns
    have a := h1 m hm
    have b := hmax _ h2
    omega
def gMaxL (d : D) : Option D := (((lstOf d).bind ints?).bind mxI).map D.int
theorem opMaxL_ok : OpS Γ (rMax Γ.K) (one gMaxL) := OpS.val fun ds vs H o s d rs e => by
  obtain ⟨a, rfl⟩ := one_shape ds d e
  obtain ⟨v, rfl, r⟩ := rs.one'
  have e : (((lstOf a).bind ints?).bind mxI).map D.int = some d := e
  cases e1 : lstOf a with
  | none => rw [e1] at e; cases e
  | some xs =>
    rw [e1] at e
    cases e2 : ints? xs with
    | none => simp [e2] at e
    | some ns =>
      simp only [Option.bind_some, e2] at e
      cases e3 : mxI ns with
      | none => simp [e3] at e
      | some x =>
        simp [e3] at e
        subst e
        obtain ⟨p, us, o', s', rfl, r1, _, _, h⟩ := Rep.lq e1 r
        refine ⟨_, ⟨rfl, rfl, rfl⟩, fun Q q => ⟨p, ns, rfl, by rw [← ints_ok e2 r1]; exact h, ?_, fun m hm hmax => ?_⟩⟩
        · cases ns with
          | nil => cases e3
          | cons _ _ => simp
        · rw [mxI_uniq e3 hm hmax]; exact q
theorem ed_maxL {p pos : Pos} {a : Expr} (hK : X.K = Γ.K) (hc : X.calm = true) (hm : X.mg "max" = none) (ha : PE X a (tI Γ W δ)) (hg : Gl X "max" := by rfl) (hs : starEach [a] X.env = [(false, eval a X.env)] := by rfl) : PE X (.Call (.Name "max" p) [a] [] pos) (tI Γ W (dOp (one gMaxL) (dCons δ dNil))) :=
  ed_callB opMaxL_ok (hK ▸ cr_max hc) hg hm (by decide +kernel) (ea_cons ha ea_nil hs) (by decide) (by decide) hs rfl
def gMax2 : D → D → Option D
  | .int i, .int j => some (.int (if j > i then j else i))
  | _, _ => none
theorem opMax2_ok : OpS Γ (fun xs H Q => ∃ i j, xs = [.int i, .int j] ∧ Q (.int (if j > i then j else i)) H) (two gMax2) := OpS.val fun ds vs H o s d rs e => by
  obtain ⟨a, b, rfl⟩ := two_shape ds d e
  obtain ⟨v, w, oa, sa, ob, sb, rfl, ra, rb, _, _⟩ := rs.two
  cases a <;> cases b <;> first | (cases e; done) | skip
  cases e
  obtain ⟨rfl, _⟩ := ra
  obtain ⟨rfl, _⟩ := rb
  exact ⟨_, ⟨rfl, rfl, rfl⟩, fun Q q => ⟨_, _, rfl, q⟩⟩
theorem ed_max2 {p pos : Pos} {a b : Expr} (hc : X.calm = true) (hm : X.mg "max" = none) (ha : PE X a (tI Γ W δa)) (hb : PE X b (tI Γ W δb)) (hg : Gl X "max" := by rfl) (hs2 : starEach [b] X.env = [(false, eval b X.env)] := by rfl) (hs : starEach [a, b] X.env = (false, eval a X.env) :: starEach [b] X.env := by rfl) (hpl : (backTo pos (starEach [b] X.env)).any (·.1) = false := by rfl) : PE X (.Call (.Name "max" p) [a, b] [] pos) (tI Γ W (dOp (two gMax2) (dCons δa (dCons δb dNil)))) :=
  ed_callB opMax2_ok (call_max2 hc) hg hm (by decide +kernel) (ea_cons ha (ea_cons hb ea_nil hs2) hs) (by decide) (by decide) hs hpl
def gInt : D → Option D
  | .int i => some (.int i)
  | .bl k => some (.int (if k then 1 else 0))
  | _ => none
theorem opInt_ok : OpS Γ (fun xs H Q => (∃ i, xs = [.int i] ∧ Q (.int i) H) ∨ ∃ k, xs = [.bl k] ∧ Q (.int (if k then 1 else 0)) H) (one gInt) := OpS.val fun ds vs H o s d rs e => by
  obtain ⟨a, rfl⟩ := one_shape ds d e
  obtain ⟨v, rfl, r⟩ := rs.one'
  cases a <;> first | (cases e; done) | skip
  · cases e
    obtain ⟨rfl, _⟩ := r
    exact ⟨_, ⟨rfl, rfl, rfl⟩, fun Q q => .inr ⟨_, rfl, q⟩⟩
  · cases e
    obtain ⟨rfl, _⟩ := r
    exact ⟨_, ⟨rfl, rfl, rfl⟩, fun Q q => .inl ⟨_, rfl, q⟩⟩
theorem ed_int1 {p pos : Pos} {a : Expr} (hm : X.mg "int" = none) (ha : PE X a (tI Γ W δ)) (hg : Gl X "int" := by rfl) (hs : starEach [a] X.env = [(false, eval a X.env)] := by rfl) : PE X (.Call (.Name "int" p) [a] [] pos) (tI Γ W (dOp (one gInt) (dCons δ dNil))) :=
  ed_callTy opInt_ok call_int1 hg hm (by decide +kernel) (ea_cons ha ea_nil hs) (by decide) (by decide) hs rfl
/-! ### text * int -/
theorem fold_rep (x : Array Nat) (n : Nat) : ∀ acc : Array Nat, (List.replicate n x).foldl (· ++ ·) acc = acc ++ (List.replicate n x.toList).flatten.toArray := by
  induction n with
  | zero => intro acc; simp
  | succ n ih => intro acc; rw [List.replicate_succ, List.foldl_cons, ih, List.replicate_succ, List.flatten_cons, ← List.append_toArray]; simp
theorem txt_mul (x : List Nat) (n : Int) : Txt.mul ⟨x.toArray⟩ n = ⟨(List.replicate n.toNat x).flatten.toArray⟩ := by
  unfold Txt.mul
  by_cases h1 : n < 1
  · rw [if_pos h1]
    have : n.toNat = 0 := by omega
    rw [this]; rfl
  · rw [if_neg h1]
    by_cases h2 : (n == 1 || (Str.length ⟨x.toArray⟩) == 0) = true
    · rw [if_pos h2]
      rw [Bool.or_eq_true] at h2
      rcases h2 with h2 | h2
      · have : n = 1 := by simpa using h2
        subst this; simp
      · have h3 : x.length = 0 := by
          have : (Str.length ⟨x.toArray⟩) = 0 := by simpa using h2
          simpa [Str.length] using this
        have : x = [] := List.length_eq_zero_iff.mp h3
        subst this
        congr 1
        simp
    · rw [if_neg h2, fold_rep]; simp
theorem op_mul_str : OpR X (binaryOp .Mult) (fun x y H Q => ∃ a i, x = .str a ∧ y = .int i ∧ MulOk a i ∧ Q (.str (Txt.mul a i)) H) := by
  rintro pins st τ G p q u w R J ru rw ⟨a, i, rfl, rfl, ok, k⟩
  obtain ⟨_, rfl⟩ := ru
  obtain ⟨_, rfl⟩ := rw
  exact SB.mul ok fun t' n => ⟨.str (Txt.mul a i), G, J.tok _, ⟨_, rfl⟩, k⟩
def gMulS : D → D → Option D
  | .str x, .int k => if x.length ≤ 64 ∧ -(2 ^ 63) ≤ k ∧ k ≤ 200000 then some (.str (List.replicate k.toNat x).flatten) else none
  | _, _ => none
theorem opMulS_ok : OpS Γ (r2L fun x y H Q => ∃ a i, x = .str a ∧ y = .int i ∧ MulOk a i ∧ Q (.str (Txt.mul a i)) H) (two gMulS) := ops2 (fun a b v w d H o s o' s' ra rb e => by
  cases a <;> cases b <;> first | (cases e; done) | skip
  rename_i x k
  have e : (if x.length ≤ 64 ∧ -(2 ^ 63) ≤ k ∧ k ≤ 200000 then some (D.str (List.replicate k.toNat x).flatten) else none) = some d := e
  split at e
  · rename_i hl
    cases e
    obtain ⟨rfl, _, _⟩ := ra
    obtain ⟨rfl, _, _⟩ := rb
    refine ⟨_, ⟨rfl, rfl, rfl⟩, fun Q q => ⟨_, k, rfl, rfl, PyProof.Rows.mulOk_of 64 200000 hl.1 hl.2.2 hl.2.1 (by omega) (by omega), ?_⟩⟩
    rw [txt_mul]; exact q
  · cases e) two_shape
theorem ed_mulS {a b : Expr} {pos : Pos} (ha : PE X a (tI Γ W δa)) (hb : PE X b (tI Γ W δb)) : PE X (.BinOp a .Mult b pos) (tI Γ W (dOp (two gMulS) (dCons δa (dCons δb dNil)))) := ed_bin opMulS_ok op_mul_str ha hb
/-! ### methods of texts -/
def dStr (δ : Den) : Den := fun ρ => match δ ρ with
  | .ok (.str z) b p ρ1 => .ok (.str z) b p ρ1
  | .ex e ρ1 => .ex e ρ1
  | _ => .no
theorem tI_str (h : tI Γ W (dStr δ) σ H Q) : tI Γ W δ σ H (fun x H1 => (∃ a, x = .str a) ∧ Q x H1) := by
  obtain ⟨ρ, o, s, al, ow, h⟩ := h
  refine ⟨ρ, o, s, al, ow, ?_⟩
  unfold dStr at h
  cases e : δ ρ with
  | no => rw [e] at h; exact h
  | ex x ρ1 => rw [e] at h; exact h
  | ok d b p ρ1 =>
    rw [e] at h
    cases d <;> first | exact h.elim | skip
    intro v H1 P
    obtain ⟨_, _, r⟩ := P.l2.rep
    obtain ⟨rfl, _⟩ := id r
    exact ⟨⟨_, rfl⟩, h _ H1 P⟩
theorem find1 (z : List Nat) (c : Nat) : Txt.index0 ⟨z.toArray⟩ ⟨#[c]⟩ = if c ∈ z then some (z.idxOf c) else none := by
  have at_iff : ∀ i, PySem.StrLaws.At ⟨z.toArray⟩ ⟨#[c]⟩ (Str.length ⟨z.toArray⟩) i ↔ z[i]? = some c := fun i => by
    have := PySem.StrLaws.subAt_one ⟨z.toArray⟩ c i
    simpa [PySem.StrLaws.At] using this
  unfold Txt.index0
  rcases PySem.StrLaws.occ_head ⟨z.toArray⟩ ⟨#[c]⟩ 1 (Nat.le_refl _) with ⟨h, hn⟩ | ⟨i, r, h, ha, hb⟩
  · rw [h]
    have : c ∉ z := fun m => by
      obtain ⟨i, hi⟩ := List.mem_iff_getElem?.mp m
      exact hn i ((at_iff i).mpr hi)
    rw [if_neg this]; rfl
  · rw [h]
    have hi := (at_iff i).mp ha
    have m : c ∈ z := List.mem_of_getElem? hi
    rw [if_pos m]
    have hlt : z.idxOf c < z.length := List.idxOf_lt_length_iff.mpr m
    have e : i = z.idxOf c := by
      rcases Nat.lt_trichotomy i (z.idxOf c) with q | q | q
      · exfalso
        have h1 := List.not_of_lt_findIdx (p := (· == c)) (xs := z) (i := i) q
        have h2 : z[i]'(by omega) = c := by
          have := List.getElem?_eq_getElem (l := z) (i := i) (by omega)
          rw [this] at hi
          exact Option.some.inj hi
        rw [h2] at h1
        simp at h1
      · exact q
      · exact absurd ((at_iff _).mpr (by rw [List.getElem?_eq_getElem hlt]; simp)) (hb _ q)
    rw [e]; rfl
def gIdx : D → D → Option D
  | .str z, .str [c] => if c ∈ z then some (.int (z.idxOf c)) else none
  | _, _ => none
theorem opIdx_ok (W0 : WX) (τ : L2.St) : OpS Γ (fun xs H Q => ∃ x ys, xs = x :: ys ∧ rIndexX W0 τ x ys H Q) (two gIdx) := OpS.val fun ds vs H o s d rs e => by
  obtain ⟨a, b, rfl⟩ := two_shape ds d e
  obtain ⟨v, w, oa, sa, ob, sb, rfl, ra, rb, _, _⟩ := rs.two
  cases a <;> cases b <;> first | (cases e; done) | skip
  rename_i z y
  match y, e, rb with
  | [c], e, rb =>
    have e : (if c ∈ z then some (D.int (z.idxOf c)) else none) = some d := e
    split at e
    · rename_i m
      cases e
      obtain ⟨rfl, _⟩ := ra
      obtain ⟨rfl, _⟩ := rb
      have h := find1 z c
      rw [if_pos m] at h
      refine ⟨_, ⟨rfl, rfl, rfl⟩, fun Q q => ⟨_, _, rfl, _, _, rfl, rfl, fun k hk => ?_, fun hk => ?_⟩⟩
      · have hk' : Txt.index0 ⟨z.toArray⟩ ⟨#[c]⟩ = some k := hk
        rw [h] at hk'
        cases hk'
        exact q
      · have hk' : Txt.index0 ⟨z.toArray⟩ ⟨#[c]⟩ = none := hk
        rw [h] at hk'
        cases hk'
    · cases e
theorem ed_index {o e : Expr} {apos cpos : Pos} (hc : X.calm = true) (tk : Takes X W) (ho : PE X o (tI Γ W δ)) (ha : PE X e (tI Γ W δa)) (hbase : attributeBase o "index" X.env (eval o X.env) = eval o X.env := by rfl)
    (hfew : ((backTo cpos (starEach [e] X.env)).all (fun x => !x.1) && (backToKw cpos (keywordEach [] X.env)).all (fun x => x.1.isSome)
      && decide ([e].length + ([] : List Keyword).length + (if ([] : List Keyword).isEmpty then 0 else 1) < 30)) = true := by rfl)
    (hline : (apos.endLine == cpos.line) = true := by rfl) (hs : starEach [e] X.env = [(false, eval e X.env)] := by rfl) : PE X (.Call (.Attribute o "index" apos) [e] [] cpos) (tI Γ W (dOp (two gIdx) (dCons (dStr δ) (dCons δa dNil)))) :=
  (pe_bmS PySem.F.plainAttrs_str PySem.F.slot_str_index PySem.F.type_str_index (mt_indexX hc tk) ho (pa_cons ha pa_nil hs) hbase hfew hline hs rfl).imp fun σ H Q q => by
    refine tI.mono (tI_str (tA_cons (op_ent (opIdx_ok W σ) q))) fun x H1 z => ?_
    obtain ⟨⟨a, rfl⟩, z⟩ := z
    refine ⟨rfl, tI.mono (tA_cons z) fun y H2 z2 => ?_⟩
    obtain ⟨x', ys, e1, k⟩ := tA_nil z2
    cases e1
    exact k
/-! ### x += e, x -= e for ints -/
def dAug (i : Nat) (g : Int → Int → Int) (δ : Den) : DenS := fun ρ => match ρ[i]? with
  | some (some (.int a)) => (match δ ρ with
    | .ok (.int b) bs _ ρ1 => .nx ((fz bs ρ1).set i (some (.int (g a b))))
    | .ex e ρ1 => .ex e ρ1
    | _ => .no)
  | _ => .no
theorem aug_ent {i : Nat} {g : Int → Int → Int} (hio : i ∉ io) (h : tS Γ W io (dAug i g δ) Z σ H) : tAug i (tI Γ W δ) (ipI g) Z σ H := by
  obtain ⟨ρ, o, s, al, ow, h⟩ := h
  unfold dAug at h
  cases e0 : ρ[i]? with
  | none => rw [e0] at h; exact h.elim
  | some y =>
    cases y with
    | none => rw [e0] at h; exact h.elim
    | some d0 =>
      rw [e0] at h
      cases d0 <;> first | exact h.elim | skip
      rename_i a
      obtain ⟨x, hx, l⟩ := ow.live.at al e0
      obtain ⟨_, _, r⟩ := l.rep
      obtain ⟨rfl, _⟩ := id r
      refine ⟨.int a, hx, ρ, o, s, al, ow, ?_⟩
      cases e : δ ρ with
      | no => simp only [e] at h; exact h
      | ex z ρ1 => simp only [e] at h; exact fun cls dx H1 P => h cls dx σ H1 P.toS
      | ok d b p ρ1 =>
        simp only [e] at h
        cases d <;> first | exact h.elim | skip
        rename_i b1
        intro v H1 P
        obtain ⟨_, _, r2⟩ := P.l2.rep
        obtain ⟨rfl, _⟩ := id r2
        have hi : i < (fz b ρ1).length := by
          have := (List.getElem?_eq_some_iff.mp hx).1
          rw [(P.al.fz b).len] at this
          exact this
        refine ⟨a, b1, rfl, rfl, h _ H1 ⟨(P.al.fz b).set i _ _, Live.setN (P.al.fz b) hi (P.l2.tail.imm (d := .int (g a b1)) rfl ⟨rfl, rfl, rfl⟩), P.kp, fun j m => ?_⟩⟩
        rw [List.getElem?_set_ne (fun q => hio (by rw [q]; exact m))]
theorem es_augAdd {i : Nat} {x : Str} {e : Expr} {pos pos' : Pos} (hN : X.N.Nodup) (he : PE X e (tI Γ W δ)) (hio : i ∉ io := by decide) (hi : X.N[i]? = some x := by rfl) (hx : Loc X.env.scope x := by first | exact Or.inl rfl | exact Or.inr rfl) (hf : X.fn x = true ∨ X.env.scope.names.lookup x = some .local := by first | exact .inl rfl | exact .inr rfl) :
    PS X (.AugAssign (.Name x pos') .Add e pos) (tS Γ W io (dAug i (fun a b => a + b) δ)) := (ps_aug hN hi hx he ip_add hf).imp fun D σ H q => aug_ent hio q
theorem es_augSub {i : Nat} {x : Str} {e : Expr} {pos pos' : Pos} (hN : X.N.Nodup) (he : PE X e (tI Γ W δ)) (hio : i ∉ io := by decide) (hi : X.N[i]? = some x := by rfl) (hx : Loc X.env.scope x := by first | exact Or.inl rfl | exact Or.inr rfl) (hf : X.fn x = true ∨ X.env.scope.names.lookup x = some .local := by first | exact .inl rfl | exact .inr rfl) :
    PS X (.AugAssign (.Name x pos') .Sub e pos) (tS Γ W io (dAug i (fun a b => a - b) δ)) := (ps_aug hN hi hx he ip_sub hf).imp fun D σ H q => aug_ent hio q
/-! ### global constants -/
theorem ed_globI {x : Str} {i : Int} {pos : Pos} (h : ∃ t, X.mg x = some (.int i t)) (hg : Gl X x := by rfl) (hd : (x == ("__debug__" : Str)) = false := by decide) : PE X (.Name x pos) (tI Γ W (dC (.int i))) := by
  obtain ⟨t, h⟩ := h
  exact ed_glob (v := .int i) hg h ⟨t, rfl⟩ (fun _ => ⟨rfl, rfl, rfl⟩) hd
theorem ed_globS {x : Str} {l : List Nat} {pos : Pos} (h : ∃ t, X.mg x = some (.str ⟨l.toArray⟩ t)) (hg : Gl X x := by rfl) (hd : (x == ("__debug__" : Str)) = false := by decide) : PE X (.Name x pos) (tI Γ W (dC (.str l))) := by
  obtain ⟨t, h⟩ := h
  exact ed_glob (v := .str ⟨l.toArray⟩) hg h ⟨t, rfl⟩ (fun _ => ⟨rfl, rfl, rfl⟩) hd
end
end TB
end
section
set_option Elab.async false
set_option linter.all false
set_option maxRecDepth 100000
set_option maxHeartbeats 4000000
namespace TB
open PySem PySem.Spec L2
section
variable {Γ : Ctx} {X : Cx} {W : WX} {io : List Nat} {H H1 H2 H' : Hp} {o s o1 s1 : List Addr} {ρ ρ' ρ1 : VE} {σ σ1 : L2.St} {v : V} {vs us : List V} {d : D} {ds : List D} {bs : List Nat} {pu : Bool} {δ δa δb δc : Den} {δs : DenA} {Q : VK} {Z : Ends} {f : List D → Option D}
/-! ### list(text) -/
theorem signs_vals {z : Str} : ∀ (n : Nat) (its : List Value) (k : Nat), its.length = n → (∀ j u, its[j]? = some u → PySem.SignAt z (k + j) u) → k + n = z.cps.size → Vals ((z.cps.toList.drop k).map fun c => V.str ⟨#[c]⟩) its
  | 0, its, k, hl, _, hk => by
    have : its = [] := List.length_eq_zero_iff.mp hl
    subst this
    have e : z.cps.toList.drop k = [] := List.drop_eq_nil_of_le (by simp; omega)
    rw [e]; exact .nil
  | n + 1, its, k, hl, h, hk => by
    match its, hl, h with
    | u :: its, hl, h =>
      obtain ⟨c, t, e1, e2⟩ := h 0 u rfl
      have hlt : k < z.cps.toList.length := by simp; omega
      have e3 : z.cps.toList[k] = c := by
        have : z.cps[k]? = some c := by simpa using e1
        have h2 : z.cps.toList[k]? = some c := by simpa using this
        rw [List.getElem?_eq_getElem hlt] at h2
        exact Option.some.inj h2
      rw [List.drop_eq_getElem_cons hlt, List.map_cons, e3]
      refine .cons ⟨t, e2⟩ (signs_vals n its (k + 1) (by simpa using hl) (fun j u' hj => ?_) (by omega))
      have := h (j + 1) u' (by simpa using hj)
      rwa [show k + 1 + j = k + (j + 1) by omega]
theorem call_signs (hc : X.calm = true) : CallR X (.type "list") (fun xs H Q => ∃ z : Str, xs = [.str z] ∧ z.length ≤ sizeLine ∧ ∀ l, H l = none → Q (.ref l) (upd H l (.lst (z.cps.toList.map fun c => V.str ⟨#[c]⟩)))) := by
  rintro pins st τ G xs ws R J r ⟨z, rfl, hz, k⟩
  obtain ⟨w, rfl, rw'⟩ := vals1 r
  obtain ⟨t, rfl⟩ := rw'
  refine call_list_str (J.ok.hd hc) z t (fun h' tk acc c' keep new items => ?_) hz
  have hv := signs_vals (z := z) z.cps.size acc.toList 0 (by simp [items.1]) (fun j u hj => by
    rw [Nat.zero_add]
    exact items.2 j u (by simpa using hj)) (by simp)
  rw [List.drop_zero] at hv
  refine ⟨.ref st.heap.objs.size, _, J.laid (t' := tk) keep (Nat.le_refl _) (o := .lst (z.cps.toList.map fun c => V.str ⟨#[c]⟩)) ⟨by simpa [Str.length] using hz, acc.toList, c', hv, new⟩, rfl, k _ (J.hok.fresh (Nat.le_refl _))⟩
def gListS : D → Option D
  | .str x => if x.length ≤ 16777216 then some (.lst true (x.map fun c => .str [c])) else none
  | _ => none
theorem reps_signs : ∀ x : List Nat, Reps Γ H (x.map fun c => D.str [c]) (x.map fun c => V.str ⟨#[c]⟩) [] []
  | [] => ⟨rfl, rfl, rfl⟩
  | c :: x => ⟨_, _, [], [], [], [], rfl, ⟨rfl, rfl, rfl⟩, reps_signs x, rfl, rfl⟩
theorem opListS_ok : OpS Γ (fun xs H Q => ∃ z : Str, xs = [.str z] ∧ z.length ≤ sizeLine ∧ ∀ l, H l = none → Q (.ref l) (upd H l (.lst (z.cps.toList.map fun c => V.str ⟨#[c]⟩)))) (one gListS) := OpS.newL fun ds vs H o s d rs e => by
  obtain ⟨a, rfl⟩ := one_shape ds d e
  obtain ⟨v, rfl, r⟩ := rs.one'
  cases a <;> first | (cases e; done) | skip
  rename_i x
  have e : (if x.length ≤ 16777216 then some (D.lst true (x.map fun c => .str [c])) else none) = some d := e
  split at e
  · rename_i hl
    cases e
    obtain ⟨rfl, _⟩ := r
    exact ⟨_, _, [], rfl, reps_signs x, (fun _ m => nomatch m), fun Q k => ⟨_, rfl, by rw [sizeL]; exact hl, k⟩⟩
  · cases e
theorem ed_listS {p pos : Pos} {a : Expr} (hc : X.calm = true) (hm : X.mg "list" = none) (ha : PE X a (tI Γ W δ)) (hg : Gl X "list" := by rfl) (hs : starEach [a] X.env = [(false, eval a X.env)] := by rfl) : PE X (.Call (.Name "list" p) [a] [] pos) (tI Γ W (dOp (one gListS) (dCons δ dNil))) :=
  ed_callTy opListS_ok (call_signs hc) hg hm (by decide +kernel) (ea_cons ha ea_nil hs) (by decide) (by decide) hs rfl
/-! ### dicts of plain values -/
def putG {α : Type} (kvs : List (Key × α)) (k : Key) (x : α) : List (Key × α) := if (kvs.any fun kv => decide (kv.1 = k)) = true then kvs.map (fun kv => if kv.1 = k then (kv.1, x) else kv) else kvs ++ [(k, x)]
def mergeG {α : Type} (kvs more : List (Key × α)) : List (Key × α) := more.foldl (fun acc kv => putG acc kv.1 kv.2) kvs
def RP (Γ : Ctx) (H : Hp) : List (Key × D) → List (Key × V) → Prop
  | [], [] => True
  | a :: as, b :: bs => (a.1 = b.1 ∧ Rep Γ H a.2 b.2 [] []) ∧ RP Γ H as bs
  | _, _ => False
theorem RP.len : ∀ {as : List (Key × D)} {bs : List (Key × V)}, RP Γ H as bs → as.length = bs.length
  | [], [], _ => rfl
  | [], _ :: _, h => h.elim
  | _ :: _, [], h => h.elim
  | a :: as, b :: bs, h => by simp [RP.len h.2]
theorem RP.any {k : Key} : ∀ {as : List (Key × D)} {bs : List (Key × V)}, RP Γ H as bs → (as.any fun kv => decide (kv.1 = k)) = bs.any fun kv => decide (kv.1 = k)
  | [], [], _ => rfl
  | [], _ :: _, h => h.elim
  | _ :: _, [], h => h.elim
  | a :: as, b :: bs, h => by simp only [List.any_cons, h.1.1, RP.any (k := k) h.2]
theorem RP.map {k : Key} {x : D} {y : V} (r : Rep Γ H x y [] []) : ∀ {as : List (Key × D)} {bs : List (Key × V)}, RP Γ H as bs → RP Γ H (as.map fun kv => if kv.1 = k then (kv.1, x) else kv) (bs.map fun kv => if kv.1 = k then (kv.1, y) else kv)
  | [], [], _ => trivial
  | [], _ :: _, h => h.elim
  | _ :: _, [], h => h.elim
  | a :: as, b :: bs, h => by
    refine ⟨?_, RP.map r h.2⟩
    by_cases e : a.1 = k
    · have e' : b.1 = k := h.1.1 ▸ e
      simp only [if_pos e, if_pos e']
      exact ⟨h.1.1, r⟩
    · have e' : ¬ b.1 = k := fun z => e (h.1.1.trans z)
      simp only [if_neg e, if_neg e']
      exact h.1
theorem RP.snoc {a : Key × D} {b : Key × V} (h : a.1 = b.1 ∧ Rep Γ H a.2 b.2 [] []) : ∀ {as : List (Key × D)} {bs : List (Key × V)}, RP Γ H as bs → RP Γ H (as ++ [a]) (bs ++ [b])
  | [], [], _ => ⟨h, trivial⟩
  | [], _ :: _, h => h.elim
  | _ :: _, [], h => h.elim
  | _ :: _, _ :: _, q => ⟨q.1, RP.snoc h q.2⟩
theorem RP.put {as : List (Key × D)} {bs : List (Key × V)} {k : Key} {x : D} {y : V} (h : RP Γ H as bs) (r : Rep Γ H x y [] []) : RP Γ H (putG as k x) (putK bs k y) := by
  unfold putG putK
  rw [h.any]
  split
  · exact h.map r
  · exact h.snoc ⟨rfl, r⟩
theorem RP.merge : ∀ {more : List (Key × D)} {more' : List (Key × V)} {as : List (Key × D)} {bs : List (Key × V)}, RP Γ H as bs → RP Γ H more more' → RP Γ H (mergeG as more) (mergeK bs more')
  | [], [], _, _, h, _ => h
  | [], _ :: _, _, _, _, q => q.elim
  | _ :: _, [], _, _, _, q => q.elim
  | m :: more, m' :: more', as, bs, h, q => by
    show RP Γ H (mergeG (putG as m.1 m.2) more) (mergeK (putK bs m'.1 m'.2) more')
    rw [q.1.1]
    exact RP.merge (h.put q.1.2) q.2
theorem RP.reps : ∀ {as : List (Key × D)} {bs : List (Key × V)}, RP Γ H as bs → Reps Γ H (as.map (·.2)) (bs.map (·.2)) [] [] ∧ as.map (·.1) = bs.map (·.1)
  | [], [], _ => ⟨⟨rfl, rfl, rfl⟩, rfl⟩
  | [], _ :: _, h => h.elim
  | _ :: _, [], h => h.elim
  | a :: as, b :: bs, h => by
    obtain ⟨h1, h2⟩ := RP.reps h.2
    exact ⟨⟨_, _, [], [], [], [], rfl, h.1.2, h1, rfl, rfl⟩, by simp [h.1.1, h2]⟩
def keyOf : D → Option Key
  | .int i => some (.inl i)
  | .str x => some (.inr ⟨x.toArray⟩)
  | _ => none
theorem keyOf_ok {d : D} {k : Key} (e : keyOf d = some k) (r : Rep Γ H d v o s) : v = kV k := by
  cases d <;> first | (cases e; done) | skip
  · cases e; exact r.1
  · cases e; exact r.1
/-- the pairs of a list of tuples (k, v), v plain -/
def pairs? : List D → Option (List (Key × D))
  | [] => some []
  | .tup [k, x] :: ds => match keyOf k, imm x, pairs? ds with
    | some q, true, some r => some ((q, x) :: r)
    | _, _, _ => none
  | _ :: _ => none
theorem pairs_ok : ∀ {ds : List D} {kds : List (Key × D)} {vs : List V} {o s : List Addr}, pairs? ds = some kds → Reps Γ H ds vs o s → ∃ (ps : List Addr) (kvs : List (Key × V)), vs = ps.map V.ref ∧ Paired (fun p kv => SqT Γ.K H p [kV kv.1, kv.2]) ps kvs ∧ RP Γ H kds kvs
  | [], _, _, _, _, e, h => by
    cases e
    obtain ⟨rfl, _⟩ := h
    exact ⟨[], [], rfl, .nil, trivial⟩
  | .tup [k, x] :: ds, kds, _, _, _, e, h => by
    obtain ⟨v, vs', o1, s1, o2, s2, rfl, h1, h2, rfl, rfl⟩ := h
    cases ek : keyOf k with
    | none => simp [pairs?, ek] at e
    | some q =>
      cases ei : imm x with
      | false => simp [pairs?, ek, ei] at e
      | true =>
        cases er : pairs? ds with
        | none => simp [pairs?, ek, ei, er] at e
        | some r =>
          simp [pairs?, ek, ei, er] at e
          subst e
          obtain ⟨ps, kvs, rfl, hp, hr⟩ := pairs_ok er h2
          obtain ⟨a, us, rfl, r1, sq⟩ := h1.tupI
          obtain ⟨y, z, oa, sa, ob, sb, rfl, ra, rb, _, _⟩ := r1.two
          obtain ⟨rfl, rfl⟩ := Rep.imm_nil x z ob sb ei rb
          have hk := keyOf_ok ek ra
          subst hk
          exact ⟨a :: ps, (q, z) :: kvs, rfl, .cons sq hp, ⟨rfl, rb⟩, hr⟩
  | .non :: _, _, _, _, _, e, _ => by cases e
  | .bl _ :: _, _, _, _, _, e, _ => by cases e
  | .int _ :: _, _, _, _, _, e, _ => by cases e
  | .str _ :: _, _, _, _, _, e, _ => by cases e
  | .lst _ _ :: _, _, _, _, _, e, _ => by cases e
  | .tup [] :: _, _, _, _, _, e, _ => by cases e
  | .tup [_] :: _, _, _, _, _, e, _ => by cases e
  | .tup (_ :: _ :: _ :: _) :: _, _, _, _, _, e, _ => by cases e
  | .lk _ :: _, _, _, _, _, e, _ => by cases e
  | .dK _ _ _ :: _, _, _, _, _, e, _ => by cases e
  | .dT _ _ _ :: _, _, _, _, _, e, _ => by cases e
  | .obj _ _ _ _ :: _, _, _, _, _, e, _ => by cases e
def mkDK (kvs : List (Key × D)) : D := .dK true (kvs.map (·.1)) (kvs.map (·.2))
def gDictP (d : D) : Option D := ((lstOf d).bind pairs?).map fun kds => mkDK (mergeG [] kds)
theorem rep_mkDK {kds : List (Key × D)} {kvs : List (Key × V)} (h : RP Γ H kds kvs) {p : Addr} (hp : H p = none) : Rep Γ (upd H p (.dK kvs)) (mkDK kds) (.ref p) [p] [] := by
  obtain ⟨r, e⟩ := h.reps
  refine ⟨p, kvs.map (·.2), [], [], rfl, by simp [h.len], r.new hp, ?_, rfl, rfl⟩
  rw [e]
  have : ∀ l : List (Key × V), (l.map (·.1)).zip (l.map (·.2)) = l := fun l => by
    induction l with
    | nil => rfl
    | cons x l ih => simp [ih]
  rw [this]; exact upd_same
theorem opDictP_ok : OpS Γ (fun xs H Q => ∃ (a : Addr) (ps : List Addr) (kvs : List (Key × V)), xs = [.ref a] ∧ SqL Γ.K H a (ps.map V.ref) ∧ Paired (fun p kv => SqT Γ.K H p [kV kv.1, kv.2]) ps kvs ∧ ∀ p, H p = none → Q (.ref p) (upd H p (.dK (mergeK [] kvs)))) (one gDictP) := by
  intro ds vs H o s d Q rs e q
  obtain ⟨a, rfl⟩ := one_shape ds d e
  obtain ⟨v, rfl, r⟩ := rs.one'
  have e : ((lstOf a).bind pairs?).map (fun kds => mkDK (mergeG [] kds)) = some d := e
  cases e1 : lstOf a with
  | none => rw [e1] at e; cases e
  | some xs =>
    rw [e1] at e
    cases e2 : pairs? xs with
    | none => simp [e2] at e
    | some kds =>
      simp [e2] at e
      subst e
      obtain ⟨b, us, o', s', rfl, r1, _, _, h⟩ := Rep.lq e1 r
      obtain ⟨ps, kvs, rfl, hp, hr⟩ := pairs_ok e2 r1
      have hm : RP Γ H (mergeG [] kds) (mergeK [] kvs) := RP.merge (as := []) (bs := []) trivial hr
      refine ⟨b, ps, kvs, rfl, h, hp, fun p hn => q _ _ [p] [] (rep_mkDK hm hn) (by simp) (fun a m => ?_) (fun _ m => nomatch m) (Keep.new hn)⟩
      simp at m; subst m; exact hn
theorem ed_dictP {p pos : Pos} {a : Expr} (hK : X.K = Γ.K) (hc : X.calm = true) (hm : X.mg "dict" = none) (ha : PE X a (tI Γ W δ)) (hg : Gl X "dict" := by rfl) (hs : starEach [a] X.env = [(false, eval a X.env)] := by rfl) : PE X (.Call (.Name "dict" p) [a] [] pos) (tI Γ W (dOp (one gDictP) (dCons δ dNil))) :=
  ed_callTy opDictP_ok (hK ▸ call_dictP hc) hg hm (by decide +kernel) (ea_cons ha ea_nil hs) (by decide) (by decide) hs rfl
def keyD : Key → D
  | .inl i => .int i
  | .inr x => .str x.cps.toList
theorem reps_keys : ∀ ks : List Key, Reps Γ H (ks.map keyD) (ks.map kV) [] []
  | [] => ⟨rfl, rfl, rfl⟩
  | k :: ks => ⟨_, _, [], [], [], [], rfl, by cases k <;> exact ⟨rfl, rfl, rfl⟩, reps_keys ks, rfl, rfl⟩
def gListD : D → Option D
  | .dK _ ks _ => some (.lst true (ks.map keyD))
  | _ => none
theorem opListD_ok : OpS Γ rListD (one gListD) := OpS.newL fun ds vs H o s d rs e => by
  obtain ⟨a, rfl⟩ := one_shape ds d e
  obtain ⟨v, rfl, r⟩ := rs.one'
  cases a <;> first | (cases e; done) | skip
  rename_i w ks xs
  cases e
  obtain ⟨p, us, o', s', rfl, hl, r1, n⟩ := r
  refine ⟨_, _, [], rfl, reps_keys ks, (fun _ m => nomatch m), fun Q k => ⟨p, _, rfl, n.it, fun q hq => ?_⟩⟩
  have e : ((ks.zip us).map fun kv => kV kv.1) = ks.map kV := by
    rw [show (fun kv : Key × V => kV kv.1) = kV ∘ Prod.fst from rfl, ← List.map_map, List.map_fst_zip (by omega)]
  rw [e]; exact k q hq
theorem ed_listD {p pos : Pos} {a : Expr} (hc : X.calm = true) (hm : X.mg "list" = none) (ha : PE X a (tI Γ W δ)) (hg : Gl X "list" := by rfl) (hs : starEach [a] X.env = [(false, eval a X.env)] := by rfl) : PE X (.Call (.Name "list" p) [a] [] pos) (tI Γ W (dOp (one gListD) (dCons δ dNil))) :=
  ed_callTy opListD_ok (call_list_dK hc) hg hm (by decide +kernel) (ea_cons ha ea_nil hs) (by decide) (by decide) hs rfl
/-! ### sorted(ints) -/
def insI (x : Int) : List Int → List Int
  | [] => [x]
  | y :: ys => if x ≤ y then x :: y :: ys else y :: insI x ys
def isortI : List Int → List Int
  | [] => []
  | x :: xs => insI x (isortI xs)
theorem insI_perm (x : Int) : ∀ ys : List Int, (insI x ys).Perm (x :: ys)
  | [] => .refl _
  | y :: ys => by
    unfold insI
    split
    · exact .refl _
    · exact ((insI_perm x ys).cons y).trans (.swap _ _ _)
theorem isortI_perm : ∀ xs : List Int, (isortI xs).Perm xs
  | [] => .refl _
  | x :: xs => (insI_perm x _).trans ((isortI_perm xs).cons x)
theorem insI_sorted (x : Int) : ∀ {ys : List Int}, ys.Pairwise (· ≤ ·) → (insI x ys).Pairwise (· ≤ ·)
  | [], _ => by simp [insI]
  | y :: ys, h => by
    unfold insI
    obtain ⟨h1, h2⟩ := List.pairwise_cons.mp h
    split
    · rename_i hx
      exact List.pairwise_cons.mpr ⟨fun z m => by
        rcases List.mem_cons.mp m with rfl | m
        · exact hx
        · have := h1 z m; omega, h⟩
    · rename_i hx
      refine List.pairwise_cons.mpr ⟨fun z m => ?_, insI_sorted x h2⟩
      rcases List.mem_cons.mp ((insI_perm x ys).mem_iff.mp m) with rfl | m
      · omega
      · exact h1 z m
theorem isortI_sorted : ∀ xs : List Int, (isortI xs).Pairwise (· ≤ ·)
  | [] => .nil
  | x :: xs => insI_sorted x (isortI_sorted xs)
theorem sorted_uniq : ∀ {a b : List Int}, a.Perm b → a.Pairwise (· ≤ ·) → b.Pairwise (· ≤ ·) → a = b
  | [], b, p, _, _ => by rw [List.nil_perm.mp p]
  | x :: a, [], p, _, _ => by have := p.length_eq; simp at this
  | x :: a, y :: b, p, ha, hb => by
    obtain ⟨a1, a2⟩ := List.pairwise_cons.mp ha
    obtain ⟨b1, b2⟩ := List.pairwise_cons.mp hb
    have e : x = y := by
      have m1 : x ∈ y :: b := p.mem_iff.mp (by simp)
      have m2 : y ∈ x :: a := p.mem_iff.mpr (by simp)
      rcases List.mem_cons.mp m1 with z | m1
      · exact z
      · rcases List.mem_cons.mp m2 with z | m2
        · exact z.symm
        · have := a1 y m2
          have := b1 x m1
          omega
    subst e
    rw [sorted_uniq (List.perm_cons x |>.mp p) a2 b2]
def gSortI (d : D) : Option D := match (lstOf d).bind ints? with
  | some ns => if ns.length < 64 then some (.lst true ((isortI ns).map D.int)) else none
  | none => none
theorem reps_intsV : ∀ ns : List Int, Reps Γ H (ns.map D.int) (ns.map V.int) [] []
  | [] => ⟨rfl, rfl, rfl⟩
  | n :: ns => ⟨.int n, ns.map V.int, [], [], [], [], rfl, ⟨rfl, rfl, rfl⟩, reps_intsV ns, rfl, rfl⟩
theorem opSortI_ok : OpS Γ (rSorted Γ.K) (one gSortI) := OpS.newL fun ds vs H o s d rs e => by
  obtain ⟨a, rfl⟩ := one_shape ds d e
  obtain ⟨v, rfl, r⟩ := rs.one'
  have e : gSortI a = some d := e
  unfold gSortI at e
  cases e1 : lstOf a with
  | none => rw [e1] at e; cases e
  | some xs =>
    rw [e1] at e
    cases e2 : ints? xs with
    | none => simp [e2] at e
    | some ns =>
      simp only [Option.bind_some, e2] at e
      split at e
      · rename_i h64
        cases e
        obtain ⟨p, us, o', s', rfl, r1, _, _, h⟩ := Rep.lq e1 r
        refine ⟨_, _, [], rfl, reps_intsV (isortI ns), (fun _ m => nomatch m), fun Q k => ⟨p, ns, rfl, by rw [← ints_ok e2 r1]; exact h, h64, fun ns' q hp hs hq => ?_⟩⟩
        rw [sorted_uniq (hp.trans (isortI_perm ns).symm) hs (isortI_sorted ns)]
        exact k q hq
      · cases e
theorem ed_sortI {p pos : Pos} {a : Expr} (hK : X.K = Γ.K) (hm : X.mg "sorted" = none) (ha : PE X a (tI Γ W δ)) (hg : Gl X "sorted" := by rfl) (hs : starEach [a] X.env = [(false, eval a X.env)] := by rfl) : PE X (.Call (.Name "sorted" p) [a] [] pos) (tI Γ W (dOp (one gSortI) (dCons δ dNil))) :=
  ed_callB opSortI_ok (hK ▸ cr_sorted) hg hm (by decide +kernel) (ea_cons ha ea_nil hs) (by decide) (by decide) hs rfl
end
end TB
end
section
set_option Elab.async false
set_option linter.all false
set_option maxRecDepth 100000
set_option maxHeartbeats 4000000
namespace TB
open PySem PySem.Spec L2
section
variable {Γ : Ctx} {X : Cx} {W : WX} {io : List Nat} {H H1 H2 H' : Hp} {o s o1 s1 : List Addr} {ρ ρ' ρ1 : VE} {σ σ1 : L2.St} {v : V} {vs us : List V} {d : D} {ds es : List D} {δ δa δb δc : Den} {δs : DenA} {Q : VK} {PO PS : Addr → Prop} {G G' : Grp} {a : Addr}
/-! ### x.extend(e), e a list of plain values -/
theorem LiveR.imms (h : LiveR Γ a PO PS H G) (r : Reps Γ H es us [] []) : LiveR Γ a PO PS H (es.zip us ++ G) := by
  obtain ⟨o, s, h, n1, n2, p1, p2⟩ := h
  have hl := r.len
  refine ⟨o, s, ⟨?_, h.2⟩, n1, n2, p1, p2⟩
  have : RepG Γ H (es.zip us) [] [] := by unfold RepG; rw [zip_fst hl, zip_snd hl]; exact r
  simpa using RepG.app this h.1
def dExtend (i : Nat) (δ : Den) : Den := fun ρ => if isLst ρ[i]? then (match δ ρ with
  | .ok (.lst _ es) b _ ρ1 => (match (fz b ρ1)[i]? with
    | some (some (.lst true ds)) => if imms es = true ∧ ds.length + es.length ≤ 16777216 then .ok .non [] false ((fz b ρ1).set i (some (.lst true (ds ++ es)))) else .no
    | _ => .no)
  | .ex e ρ1 => .ex e ρ1
  | _ => .no) else .no
theorem extend_ent {i : Nat} (h : tI Γ W (dExtend i δ) σ H Q) : tVar i σ H fun x H1 => tyV Γ.K "list" x H1 ∧ tI Γ W δ σ H1 fun y H2 => rExtend x [y] H2 Q := by
  obtain ⟨ρ, o, s, al, ow, h⟩ := h
  unfold dExtend at h
  split at h
  · rename_i hi
    obtain ⟨x, hx, ty⟩ := isLst_ty al ow hi
    refine ⟨x, hx, ty, ρ, o, s, al, ow, ?_⟩
    cases e : δ ρ with
    | no => simp only [e] at h; exact h
    | ex z ρ1 => simp only [e] at h; exact h
    | ok d b p ρ1 =>
      simp only [e] at h
      cases d <;> first | exact h.elim | skip
      rename_i w es
      simp only at h
      cases e1 : (fz b ρ1)[i]? with
      | none => simp only [e1] at h; exact h.elim
      | some y =>
        cases y with
        | none => simp only [e1] at h; exact h.elim
        | some d1 =>
          cases d1 with
          | lst w ds =>
            cases w with
            | false => simp only [e1] at h; exact h.elim
            | true =>
              simp only [e1] at h
              split at h
              · rename_i hz
                intro v H1 P
                obtain ⟨o5, s5, r5⟩ := P.l2.rep
                obtain ⟨q, us2, o6, s6, rfl, r6, m1, m2, hq⟩ := r5.lstI
                obtain ⟨rfl, rfl⟩ := r6.imms hz.1
                obtain ⟨a, us, rfl, ea, hl, po, lr, back⟩ := Live.chg (T := [(.lst _ es, .ref q)]) (P.al.fz b) e1 hx P.l2
                have lr1 : LiveR Γ a (nO H o) (nS H o s) H1 (ds.zip us ++ slots ((fz b ρ1).set i none) σ) := (lr.perm (G' := (.lst _ es, .ref q) :: (ds.zip us ++ slots ((fz b ρ1).set i none) σ)) List.perm_middle).tail
                have lr2 : LiveR Γ a (nO H o) (nS H o s) H1 ((ds ++ es).zip (us ++ us2) ++ ([] ++ slots ((fz b ρ1).set i none) σ)) := (lr1.imms r6).perm (by
                  rw [List.zip_append hl, List.nil_append, List.append_assoc]
                  rw [← List.append_assoc, ← List.append_assoc]
                  exact List.perm_append_comm.append_right _)
                have hl6 := r6.len
                have l := back (ds ++ es) (us ++ us2) [] (by simp [hl, hl6]) lr2
                refine ⟨a, q, us, us2, rfl, rfl, ea, hq, by rw [← hl, ← hl6, sizeL]; exact hz.2, ?_⟩
                have k : Keep H (upd H1 a (.lst (us ++ us2))) o := fun b' x' e' n => by
                  have ne : b' ≠ a := fun z => by
                    subst z
                    rcases po with po | po
                    · exact n po
                    · rw [e'] at po; cases po
                  rw [upd_ne ne]
                  exact P.kp _ _ e' n
                exact h .non _ ⟨al_setd (P.al.fz b) hx, l, l.imm (d := .non) rfl ⟨rfl, rfl, rfl⟩, k, fun z => nomatch z⟩
              · exact h.elim
          | _ => simp only [e1] at h; exact h.elim
  · exact h.elim
theorem ed_extend {i : Nat} {x : Str} {p apos pos : Pos} {e : Expr} (hK : X.K = Γ.K) (he : PE X e (tI Γ W δ)) (hN : X.N[i]? = some x := by rfl) (hv : Vis X.env.scope x := by first | exact Or.inl rfl | exact Or.inr (Or.inl rfl) | exact Or.inr (Or.inr rfl)) (hd : (x == ("__debug__" : Str)) = false := by decide)
    (hcd : (x == ("__classdict__" : Str)) = false := by decide) (hbase : attributeBase (.Name x p) "extend" X.env (eval (.Name x p) X.env) = eval (.Name x p) X.env := by rfl)
    (hfew : ((backTo pos (starEach [e] X.env)).all (fun x => !x.1) && (backToKw pos (keywordEach [] X.env)).all (fun x => x.1.isSome)
      && decide ([e].length + ([] : List Keyword).length + (if ([] : List Keyword).isEmpty then 0 else 1) < 30)) = true := by rfl)
    (hline : (apos.endLine == pos.line) = true := by rfl) (hs : starEach [e] X.env = [(false, eval e X.env)] := by rfl) :
    PE X (.Call (.Attribute (.Name x p) "extend" apos) [e] [] pos) (tI Γ W (dExtend i δ)) :=
  (pe_bm PySem.F.plainAttrs_list PySem.F.slot_list_extend PySem.F.type_list_extend mt_extend (pe_var hN hv hd hcd) (pa_cons he pa_nil hs) hbase hfew hline hs rfl).imp fun σ H Q q => by
    obtain ⟨x, hx, ty, q⟩ := extend_ent q
    exact ⟨x, hx, hK ▸ ty, q⟩
end
end TB
end
section
set_option Elab.async false
set_option linter.all false
set_option maxRecDepth 100000
set_option maxHeartbeats 4000000
namespace TB
open PySem PySem.Spec L2
/-! ### a comprehension with two `for`: plain items, pure parts, scalars come -/
def vOf : D → V
  | .bl b => .bl b
  | .int i => .int i
  | .str x => .str ⟨x.toArray⟩
  | _ => .non
def loopJ (g1 : DenG) (δe : Den) : List D → VE → List D → Option (List D)
  | [], _, acc => some acc
  | d :: ds, ρ, acc => if imm d = true then (match g1 d ρ with
    | some ρ2 => (match δe ρ2 with
      | .ok y _ true _ => if scalD y = true ∧ acc.length < 16777216 then loopJ g1 δe ds ρ (acc ++ [y]) else none
      | _ => none)
    | none => none) else none
def loopI (g : DenG) (δi1 : DenI) (g1 : DenG) (vs1 : List Nat) (δe : Den) : List D → VE → List D → Option (List D)
  | [], _, acc => some acc
  | d :: ds, ρ, acc => match g d ρ with
    | some ρ1 => (match δi1 ρ1 with
      | .ok items1 _ _ true _ => (match loopJ g1 δe items1 (wipeE ρ1 vs1) acc with
        | some acc' => loopI g δi1 g1 vs1 δe ds ρ acc'
        | none => none)
      | _ => none)
    | none => none
def dComp2 (δi : DenI) (g : DenG) (vs : List Nat) (δi1 : DenI) (g1 : DenG) (vs1 : List Nat) (δe : Den) : Den := fun ρ => match δi ρ with
  | .ok items _ bs pu ρ' => (match loopI g δi1 g1 vs1 δe items (fz bs (wipeE ρ' vs)) [] with
    | some acc => .ok (.lst true acc) [] (pu && noneAt vs ρ') (wipeE ρ' vs)
    | none => .no)
  | .ex e ρ' => .ex e ρ'
  | .no => .no
section
variable {Γ : Ctx} {X : Cx} {W : WX} {io : List Nat} {H H1 H2 H' : Hp} {o s o1 s1 oB sB : List Addr} {ρ ρ' ρ1 : VE} {σ σ1 : L2.St} {v : V} {d : D} {δ δa δb δc δe : Den} {δi δi1 : DenI} {g g1 : DenG} {PO PS : Addr → Prop} {Q : VK} {G : Grp} {D0 : Addr}
theorem rep_scal (h : scalD d = true) (r : Rep Γ H d v o s) : v = vOf d := by
  cases d <;> first | (cases h; done) | exact r.1
theorem scals_rep : ∀ {ds : List D}, ds.all scalD = true → Reps Γ H ds (ds.map vOf) [] []
  | [], _ => ⟨rfl, rfl, rfl⟩
  | d :: ds, h => by
    rw [List.all_cons, Bool.and_eq_true] at h
    refine ⟨vOf d, ds.map vOf, [], [], [], [], rfl, ?_, scals_rep h.2, rfl, rfl⟩
    have h1 := h.1
    cases d <;> first | (cases h1; done) | exact ⟨rfl, rfl, rfl⟩
theorem LiveD.keep (h : Live Γ (fun a => a ≠ D0) (fun a => a ≠ D0) H G) (k : Keep H H' [D0]) (m : Mut (H D0)) : Live Γ (fun a => a ≠ D0) (fun a => a ≠ D0) H' G := by
  obtain ⟨o, s, ow, p1, p2⟩ := h
  refine ⟨o, s, ow.stay k (fun a z => by simp at z; subst z; exact m) (fun a z q => ?_), p1, p2⟩
  simp at q; subst q
  rcases z with z | z
  · exact p1 _ z rfl
  · exact p2 _ z rfl
theorem Live.toD (h : Live Γ (nO H o) (nS H o s) H1 G) (hD : H D0 ≠ none) (ho : ∀ a ∈ o, a ≠ D0) (hs : ∀ a ∈ s, a ≠ D0) : Live Γ (fun a => a ≠ D0) (fun a => a ≠ D0) H1 G :=
  h.imp (fun a z q => by
    subst q
    rcases z with z | z
    · exact ho _ z rfl
    · exact hD z) (fun a z q => by
    subst q
    rcases z with z | z | z
    · exact ho _ z rfl
    · exact hs _ z rfl
    · exact hD z)
theorem Own.toD (h : Own Γ H G o s) (hD : H D0 = none) : Live Γ (fun a => a ≠ D0) (fun a => a ≠ D0) H G := by
  have tr := h.trk
  refine ⟨o, s, h, fun a m q => ?_, fun a m q => ?_⟩
  · subst q
    have := tr.1 _ m
    rw [hD] at this; exact this
  · subst q
    exact tr.2 _ m hD
theorem fz1_setN : ∀ (b : Nat) (ρ : VE) (i : Nat), fz1 b (ρ.set i none) = (fz1 b ρ).set i none
  | b, [], i => by cases b <;> rfl
  | 0, x :: ρ, i => by cases i <;> rfl
  | b + 1, x :: ρ, i => by
    cases i with
    | zero => rfl
    | succ i => exact congrArg (x :: ·) (fz1_setN b ρ i)
theorem fz_setN : ∀ (bs : List Nat) (ρ : VE) (i : Nat), fz bs (ρ.set i none) = (fz bs ρ).set i none
  | [], _, _ => rfl
  | b :: bs, ρ, i => by show fz bs (fz1 b (ρ.set i none)) = _; rw [fz1_setN, fz_setN bs]; rfl
theorem fz_wipeE (bs : List Nat) (ρ : VE) : ∀ vs : List Nat, fz bs (wipeE ρ vs) = wipeE (fz bs ρ) vs
  | [] => rfl
  | v :: vs => by show fz bs ((wipeE ρ vs).set v none) = (wipeE (fz bs ρ) vs).set v none; rw [fz_setN, fz_wipeE bs ρ vs]
theorem comp2_ent {vs vs1 : List Nat} {n : Nat} (hgk : GOk vs g) (hgk1 : GOk vs1 g1) (hσ : σ.length = n) (h : tI Γ W (dComp2 δi g vs δi1 g1 vs1 δe) σ H Q) :
    tLc2 (tIt Γ W δi) (tG Γ (cmpl vs n) g) (tB Γ W0 dTrue) (tIt Γ W0 δi1) (tG Γ (cmpl vs1 n) g1) (tB Γ W0 dTrue) (tI Γ W0 δe) vs vs1 σ H Q := by
  obtain ⟨ρ, o, s, al, ow, h⟩ := h
  refine ⟨ρ, o, s, al, ow, ?_⟩
  unfold dComp2 at h
  cases e : δi ρ with
  | no => rw [e] at h; exact h
  | ex x ρ1 => rw [e] at h; exact h
  | ok items hold bs pu ρ1 =>
  rw [e] at h
  cases eL : loopI g δi1 g1 vs1 δe items (fz bs (wipeE ρ1 vs)) [] with
  | none => simp only [eL] at h; exact h.elim
  | some accF =>
  simp only [eL] at h
  intro hvs J H1 P D hD
  have nOD : nO H o D := P.kp.unt hD
  have lw1 : Live Γ (nO H o) (nS H o s) H1 (slots (wipeE ρ1 vs) σ) := Live.dropE (T := []) P.al P.l1 vs
  have lJ : Live Γ (fun a => a ≠ D) (fun a => a ≠ D) H1 (hold.zip hvs ++ slots (fz bs (wipeE ρ1 vs)) (L2.wipe σ vs)) := by
    rw [fz_wipeE, slots_wipe]
    obtain ⟨o8, s8, ow8, _, _⟩ := Live.dropE (P.al.fz bs) P.l2 vs
    exact ow8.toD hD
  have alw : Al (L2.wipe σ vs) (fz bs (wipeE ρ1 vs)) := by rw [fz_wipeE]; exact (P.al.fz bs).wipe2 vs
  generalize hρw : fz bs (wipeE ρ1 vs) = ρw at *
  have kst : Keep H1 (upd H1 D (.lst [])) [] := Keep.new hD
  refine ⟨fun i m H' => m = items.length - i ∧ i ≤ items.length ∧ ∃ acc : List TB.D, Keep H1 H' [] ∧ acc.all scalD = true ∧ H' D = some (.lst (acc.map vOf)) ∧ loopI g δi1 g1 vs1 δe (items.drop i) ρw acc = some accF,
    ⟨_, rfl, Nat.zero_le _, [], kst, rfl, upd_same, by rw [List.drop_zero]; exact eL⟩, ?_⟩
  rintro i m H' ⟨rfl, hi, acc, k1, ha, eD, ei⟩
  by_cases hlt : i < items.length
  · right
    obtain ⟨oJ, sJ, owJ, pJ1, pJ2⟩ := lJ.same k1
    obtain ⟨oh, sh, on, sn, owh, own, rfl, rfl⟩ := id owJ.left
    obtain ⟨stp, itm⟩ := P.it H' oh sh owh.1
    have ed : items[i]? = some items[i] := List.getElem?_eq_getElem hlt
    obtain ⟨go, yl⟩ := itm i _ ed
    refine ⟨go, fun H2 => ∃ acc : List TB.D, Keep H1 H2 [] ∧ acc.all scalD = true ∧ H2 D = some (.lst (acc.map vOf)) ∧ loopI g δi1 g1 vs1 δe (items.drop (i + 1)) ρw acc = some accF, fun H2 ⟨acc2, a1, a2, a3, a4⟩ => ⟨items.length - (i + 1), by omega, rfl, hlt, acc2, a1, a2, a3, a4⟩, fun x H'' hy => ?_⟩
    rw [List.drop_eq_getElem_cons hlt] at ei
    generalize items[i] = d at *
    unfold loopI at ei
    · cases eg : g d ρw with
      | none => rw [eg] at ei; cases ei
      | some ρ2 =>
      simp only [eg] at ei
      obtain ⟨kk, sx, rx, mx⟩ := yl x H'' hy
      have k2 : Keep H1 H'' [] := k1.trans kk fun _ z => nomatch z
      have eD2 := kk _ _ eD (by simp)
      have owJ2 := owJ.same kk
      have l2 : Live Γ (fun a => a ≠ D) (fun a => a ≠ D) H'' ((d, x) :: slots ρw (L2.wipe σ vs)) := ⟨_, _, Own.mkc rx (own.same kk) .nil (fun _ _ z => nomatch z) (fun _ z => nomatch z) (fun a z q => owJ2.2.2 a (List.mem_append_left _ (mx a z)) (List.mem_append_right _ q)),
        fun a z => pJ1 a (List.mem_append_right _ (by simpa using z)), fun a z => by
          rcases List.mem_append.mp z with z | z
          · exact pJ2 a (List.mem_append_left _ (mx a z))
          · exact pJ2 a (List.mem_append_right _ z)⟩
      obtain ⟨oA, sA, owA, pA1, pA2⟩ := l2
      refine ⟨ρw, oA, sA, d, alw, owA, ρ2, eg, fun σ2 H2 P2 K2 => ?_⟩
      obtain ⟨gl, gw⟩ := hgk _ _ _ eg
      have hln : (L2.wipe σ vs).length = n := by rw [wipe_length, hσ]
      have hw : L2.wipe σ2 vs = L2.wipe σ vs := by
        have e1 : σ2.length = (L2.wipe σ vs).length := by rw [P2.al.len, gl, ← alw.len]
        have := wipe_same (σ := L2.wipe σ vs) (σ2 := σ2) (vs := vs) e1 fun j hj mj => P2.io j (mem_cmpl (by rw [← hln]; exact hj) mj)
        rw [this, wipe_wipe]
      have hσ2 : σ2.length = n := by rw [P2.al.len, gl, ← alw.len, hln]
      refine ⟨hw, ?_⟩
      have k3 : Keep H1 H2 [] := k2.trans K2 fun _ z => nomatch z
      have eD3 := K2 _ _ eD2 (by simp)
      obtain ⟨oB, sB, owB, pB1, pB2⟩ := P2.l1.toD (D0 := D) (by rw [eD2]; simp) pA1 pA2
      refine ⟨ρ2, oB, sB, P2.al, owB, ?_⟩
      show DoneB Γ W0 H2 oB sB ρ2 σ2 _ (.ok (.bl true) [] true ρ2)
      intro H3 P3
      rw [if_pos rfl]
      have K3 := (P3.pu rfl).2
      have k4 : Keep H1 H3 [] := k3.trans K3 fun _ z => nomatch z
      have eD4 := K3 _ _ eD3 (by simp)
      obtain ⟨oC, sC, owC, pC1, pC2⟩ := P3.l1.toD (D0 := D) (by rw [eD3]; simp) pB1 pB2
      refine ⟨ρ2, oC, sC, P3.al, owC, ?_⟩
      cases e1 : δi1 ρ2 with
      | no => simp only [e1] at ei; cases ei
      | ex _ _ => simp only [e1] at ei; cases ei
      | ok items1 hold1 bs1 pu1 ρ3 =>
      simp only [e1] at ei
      cases pu1 with
      | false => cases ei
      | true =>
      simp only at ei
      cases eJ : loopJ g1 δe items1 (wipeE ρ2 vs1) acc with
      | none => simp only [eJ] at ei; cases ei
      | some acc1 =>
      simp only [eJ] at ei
      intro hvs1 J1 H4 P4
      obtain ⟨rfl, K4⟩ := P4.pu rfl
      have k5 : Keep H1 H4 [] := k4.trans K4 fun _ z => nomatch z
      have eD5 := K4 _ _ eD4 (by simp)
      have hn4 : H3 D ≠ none := by rw [eD4]; simp
      have l5 := P4.l1.toD (D0 := D) hn4 pC1 pC2
      have lh := (P4.l2.toD (D0 := D) hn4 pC1 pC2).leftp
      have l6 : Live Γ (fun a => a ≠ D) (fun a => a ≠ D) H4 (slots (wipeE ρ3 vs1) (L2.wipe σ2 vs1)) := by
        rw [slots_wipe]
        exact Live.dropE (T := []) P4.al l5 vs1
      have al6 : Al (L2.wipe σ2 vs1) (wipeE ρ3 vs1) := P4.al.wipe2 vs1
      have mutD : Mut (H4 D) := mut_lst eD5
      refine ⟨fun j k H' => k = items1.length - j ∧ j ≤ items1.length ∧ ∃ acc' : List TB.D, Keep H1 H' [] ∧ Keep H4 H' [D] ∧ acc'.all scalD = true ∧ H' D = some (.lst (acc'.map vOf)) ∧ loopJ g1 δe (items1.drop j) (wipeE ρ3 vs1) acc' = some acc1,
        ⟨_, rfl, Nat.zero_le _, acc, k5, Keep.refl, ha, eD5, by rw [List.drop_zero]; exact eJ⟩, ?_⟩
      rintro j k H5 ⟨rfl, hj, acc', k6, k7, ha', eD6, ej⟩
      obtain ⟨oh1, sh1, owh1, _, _⟩ := LiveD.keep lh k7 mutD
      obtain ⟨stp1, itm1⟩ := P4.it H5 oh1 sh1 owh1.1
      by_cases hlj : j < items1.length
      · right
        have ed1 : items1[j]? = some items1[j] := List.getElem?_eq_getElem hlj
        obtain ⟨go1, yl1⟩ := itm1 j _ ed1
        refine ⟨go1, fun H6 => ∃ acc' : List TB.D, Keep H1 H6 [] ∧ Keep H4 H6 [D] ∧ acc'.all scalD = true ∧ H6 D = some (.lst (acc'.map vOf)) ∧ loopJ g1 δe (items1.drop (j + 1)) (wipeE ρ3 vs1) acc' = some acc1,
          fun H6 ⟨acc2, a1, a2, a3, a4, a5⟩ => ⟨items1.length - (j + 1), by omega, rfl, hlj, acc2, a1, a2, a3, a4, a5⟩, fun y H6 hy1 => ?_⟩
        rw [List.drop_eq_getElem_cons hlj] at ej
        generalize items1[j] = d1 at *
        unfold loopJ at ej
        split at ej
        · rename_i hid1
          cases eg1 : g1 d1 (wipeE ρ3 vs1) with
          | none => rw [eg1] at ej; cases ej
          | some ρ4 =>
          simp only [eg1] at ej
          obtain ⟨kk1, sx1, rx1, mx1⟩ := yl1 y H6 hy1
          obtain ⟨_, rfl⟩ := Rep.imm_nil d1 y [] sx1 hid1 rx1
          have m1 : Keep H1 H6 [] := k6.trans kk1 fun _ z => nomatch z
          have m2 : Keep H4 H6 [D] := k7.trans kk1 fun _ z => nomatch z
          have eD7 := kk1 _ _ eD6 (by simp)
          obtain ⟨oE, sE, owE, pE1, pE2⟩ := (LiveD.keep l6 m2 mutD).imm hid1 rx1
          refine ⟨wipeE ρ3 vs1, oE, sE, d1, al6, owE, ρ4, eg1, fun σ3 H7 P7 K7 => ?_⟩
          obtain ⟨gl1, gw1⟩ := hgk1 _ _ _ eg1
          have hw1 : L2.wipe σ3 vs1 = L2.wipe σ2 vs1 := by
            have e1 : σ3.length = (L2.wipe σ2 vs1).length := by rw [P7.al.len, gl1, ← al6.len]
            have hl2 : (L2.wipe σ2 vs1).length = n := by rw [wipe_length, hσ2]
            have := wipe_same (σ := L2.wipe σ2 vs1) (σ2 := σ3) (vs := vs1) e1 fun j hj mj => P7.io j (mem_cmpl (by rw [← hl2]; exact hj) mj)
            rw [this, wipe_wipe]
          refine ⟨hw1, ?_⟩
          have m3 : Keep H1 H7 [] := m1.trans K7 fun _ z => nomatch z
          have m4 : Keep H4 H7 [D] := m2.trans K7 fun _ z => nomatch z
          have eD8 := K7 _ _ eD7 (by simp)
          obtain ⟨oF, sF, owF, pF1, pF2⟩ := P7.l1.toD (D0 := D) (by rw [eD7]; simp) pE1 pE2
          refine ⟨ρ4, oF, sF, P7.al, owF, ?_⟩
          show DoneB Γ W0 H7 oF sF ρ4 σ3 _ (.ok (.bl true) [] true ρ4)
          intro H8 P8
          rw [if_pos rfl]
          have K8 := (P8.pu rfl).2
          have m5 : Keep H1 H8 [] := m3.trans K8 fun _ z => nomatch z
          have m6 : Keep H4 H8 [D] := m4.trans K8 fun _ z => nomatch z
          have eD9 := K8 _ _ eD8 (by simp)
          obtain ⟨oG, sG, owG, pG1, pG2⟩ := P8.l1.toD (D0 := D) (by rw [eD8]; simp) pF1 pF2
          refine ⟨ρ4, oG, sG, P8.al, owG, ?_⟩
          cases ee : δe ρ4 with
          | no => simp only [ee] at ej; cases ej
          | ex _ _ => simp only [ee] at ej; cases ej
          | ok yv b p ρ5 =>
          simp only [ee] at ej
          cases p with
          | false => cases ej
          | true =>
          simp only at ej
          split at ej
          · rename_i hz
            intro v H9 P9
            have K9 := (P9.pu rfl).2
            have m7 : Keep H1 H9 [] := m5.trans K9 fun _ z => nomatch z
            have m8 : Keep H4 H9 [D] := m6.trans K9 fun _ z => nomatch z
            have eD10 := K9 _ _ eD9 (by simp)
            obtain ⟨o9, s9, r9⟩ := P9.l2.rep
            have hv := rep_scal hz.1 r9
            subst hv
            refine ⟨acc'.map vOf, eD10, by rw [List.length_map, sizeL]; exact hz.2, acc' ++ [yv], fun b' x' e' n' => ?_, fun b' x' e' n' => ?_, ?_, ?_, ej⟩
            · rw [upd_ne (ne_of_none e' hD)]
              exact m7 _ _ e' n'
            · rw [upd_ne (fun z => n' (by simp [z]))]
              exact m8 _ _ e' n'
            · rw [List.all_append, ha']; simp [hz.1]
            · rw [upd_same]; simp
          · cases ej
        · cases ej
      · left
        have ej' : j = items1.length := by omega
        subst ej'
        rw [List.drop_length] at ej
        have ej : some acc' = some acc1 := ej
        cases ej
        exact ⟨stp1 _ (Nat.le_refl _), _, k6, ha', eD6, ei⟩
  · left
    have ei' : i = items.length := by omega
    subst ei'
    rw [List.drop_length] at ei
    have ei : some acc = some accF := ei
    cases ei
    obtain ⟨oh, sh, owh, _, _⟩ := (lJ.leftp).same k1
    obtain ⟨stp, _⟩ := P.it H' oh sh owh.1
    refine ⟨stp _ (Nat.le_refl _), h _ H' ⟨P.al.wipe vs, lw1.same k1, ?_, P.kp.trans k1 (fun _ z => nomatch z), fun z => ?_⟩⟩
    · obtain ⟨o8, s8, ow8, q1, q2⟩ := lw1
      have tr := ow8.trk
      refine ⟨[D] ++ o8, [] ++ s8, Own.mkc ⟨D, accF.map vOf, [], [], rfl, scals_rep ha, eD, rfl, rfl⟩ (ow8.same k1) (by simp) (fun _ z => nomatch z) (fun b z => ?_) (fun _ z => nomatch z), fun b z => ?_, fun b z => q2 b (by simpa using z)⟩
      · simp at z; subst z
        refine ⟨fun z => ?_, fun z => tr.2 b z hD⟩
        have := tr.1 b z
        rw [hD] at this; exact this
      · rcases List.mem_append.mp z with z | z
        · simp at z; subst z; exact nOD
        · exact q1 b z
    · rw [Bool.and_eq_true] at z
      obtain ⟨e1, k0⟩ := P.pu z.1
      exact ⟨(noneAt_wipe z.2).trans e1, k0.trans k1 fun _ z => nomatch z⟩
theorem ed_comp2 {elt tg iter tg1 iter1 : Expr} {scope : Scope} (own : List (Str × Nat)) (vs1 : List Nat) {pos : Pos} (hc : X.calm = true) (hN : X.N.Nodup) (hi : PI X tg iter (tIt Γ W δi)) (ok : BlkOk X.N X.env.scope scope own) (hv : ∀ i ∈ vs1, i ∈ own.map (·.2)) (hgk : GOk (own.map (·.2)) g) (hgk1 : GOk vs1 g1)
    (hg : ∀ (s : Shared) (H : Hp) (C : Addr) (cl : List (Str × Addr)) (fp : List Addr), PG (X.blk s H scope (compEnvC scope cl C X.env) fp) tg (tG Γ (cmpl (own.map (·.2)) X.N.length) g))
    (hi1 : ∀ (s : Shared) (H : Hp) (C : Addr) (cl : List (Str × Addr)) (fp : List Addr), PI (X.blk s H scope (compEnvC scope cl C X.env) fp) tg1 iter1 (tIt Γ W0 δi1))
    (hg1 : ∀ (s : Shared) (H : Hp) (C : Addr) (cl : List (Str × Addr)) (fp : List Addr), PG (X.blk s H scope (compEnvC scope cl C X.env) fp) tg1 (tG Γ (cmpl vs1 X.N.length) g1))
    (he : ∀ (s : Shared) (H : Hp) (C : Addr) (cl : List (Str × Addr)) (fp : List Addr), PE (X.blk s H scope (compEnvC scope cl C X.env) fp) elt (tI Γ W0 δe)) (hs : ∀ x, foldedSetIterable iter X.env x = pure x := by intro _; rfl) (hs1 : ∀ env x, foldedSetIterable iter1 env x = pure x := by intro _ _; rfl) :
    PE X (.ListComp elt [⟨tg, iter, [], 0⟩, ⟨tg1, iter1, [], 0⟩] scope pos) (tI Γ W (dComp2 δi g (own.map (·.2)) δi1 g1 vs1 δe)) :=
  (pe_lc2 hc hN hi ok hv hg (fun _ _ _ _ _ => epts_nil) hi1 hg1 (fun _ _ _ _ _ => epts_nil) he hs hs1).impL fun σ H Q hl q => comp2_ent hgk hgk1 hl q
end
end TB
end
section
set_option Elab.async false
set_option linter.all false
set_option maxRecDepth 100000
set_option maxHeartbeats 4000000
namespace TB
open PySem PySem.Spec L2
theorem callF_len {tbl : Nat → Option FnDef} {f : Nat} {F : FnDef} (h : tbl f = some F) : ∀ (k : Nat) (ds : List D), callF tbl k f ds ≠ .no → ds.length = F.npar
  | 0, _, e => absurd rfl e
  | k + 1, ds, e => by
    have e' : (match tbl f with | some F => runF F (callF tbl k) ds | none => .no) ≠ .no := e
    rw [h] at e'
    exact runF_len ds e'
/-- reversed(range(n)) -/
def itRR1 : List D → Option (List D × List D)
  | [.int j] => if -(2 ^ 62) ≤ j ∧ j < 2 ^ 62 then some ((rng 0 j.toNat).reverse, []) else none
  | _ => none
section
variable {Γ : Ctx} {X : Cx} {W : WX} {H : Hp} {δ : Den} {R : It → Hp → Prop}
theorem itOk_rr {lo : Int} {n : Nat} (hlo : lo = (n : Int) - 1) : ItOk Γ (Itc lo (-1) n) (rng 0 n).reverse [] := fun H oh sh rg => ⟨fun j hj => by rw [List.length_reverse, rng_len] at hj; exact hj, fun j d e => by
  have hj : j < n := by
    have := (List.getElem?_eq_some_iff.mp e).1
    rwa [List.length_reverse, rng_len] at this
  refine ⟨hj, fun y H' ⟨eH, ey⟩ => ?_⟩
  subst eH
  have : d = .int (lo + (j : Int) * (-1)) := by
    rw [List.getElem?_reverse (by rw [rng_len]; exact hj), rng_len] at e
    unfold rng at e
    rw [List.getElem?_map, List.getElem?_range (by omega)] at e
    have h2 : (0 : Int) + ((n - 1 - j : Nat) : Int) = lo + (j : Int) * (-1) := by omega
    rw [← h2]
    exact (Option.some.inj e).symm
  subst this
  exact ⟨Keep.refl, [], ⟨ey, rfl, rfl⟩, fun _ m => nomatch m⟩⟩
theorem itRR1_ok : ItS Γ (fun vs H R => ∃ j : Int, vs = [.int j] ∧ -(2 ^ 62) ≤ j ∧ j < 2 ^ 62 ∧ R (Itc (0 + (((j - 0).toNat : Nat) : Int) - 1) (-1) (j - 0).toNat) H) itRR1 := by
  intro ds vs H o s items hold R rs e k
  match ds, e with
  | [.int j], e =>
    have e : (if -(2 ^ 62) ≤ j ∧ j < 2 ^ 62 then some ((rng 0 j.toNat).reverse, []) else none) = some (items, hold) := e
    split at e
    · rename_i h
      cases e
      obtain ⟨v, rfl, ⟨rfl, _⟩⟩ := rs.one'
      refine ⟨j, rfl, h.1, h.2, k _ [] [] rfl ⟨rfl, rfl, rfl⟩ (fun _ m => nomatch m) ?_⟩
      have e0 : (j - 0).toNat = j.toNat := by simp
      rw [e0]
      exact itOk_rr (by omega)
    · cases e
theorem ei_revR1 {tg a : Expr} {p p1 pos pos1 : Pos} (hm : X.mg "reversed" = none) (hm1 : X.mg "range" = none) (ha : PE X a (tI Γ W δ)) (hg : Gl X "reversed" := by rfl) (hg1 : Gl X "range" := by rfl) (hs1 : starEach [a] X.env = (false, eval a X.env) :: starEach [] X.env := by rfl)
    (hs : starEach [.Call (.Name "range" p1) [a] [] pos1] X.env = (false, eval (.Call (.Name "range" p1) [a] [] pos1) X.env) :: starEach [] X.env := by rfl) : PI X tg (.Call (.Name "reversed" p) [.Call (.Name "range" p1) [a] [] pos1] [] pos) (tIt Γ W (dIt itRR1 (dCons δ dNil))) :=
  (pi_revR hg hm (prg_1 hg1 hm1 ha hs1) hs).imp fun σ H R q => by
    have z := it_ent itRR1_ok q
    refine tI.mono (tA_cons z) fun v H1 z => ?_
    obtain ⟨j, e, h1, h2, h3⟩ := tA_nil z
    cases e
    exact ⟨j, rfl, by decide, by decide, h1, h2, h3⟩
end
end TB
end
section
set_option Elab.async false
set_option linter.all false
set_option maxRecDepth 100000
set_option maxHeartbeats 4000000
namespace TB
open PySem PySem.Spec PyProof.Rows L2
/-! ### the end -/
theorem walk_x {l : PySem.W.OpenLaw} {n k : Nat} {q : Program} {loose : List Str} {XP : (Str → Option Value) → Heap → Prop} {YP : World → Heap → Prop} {d : DefRec} {x : Str}
    (hn : l.most = some n) (hn2 : n ≤ sizeLine) (hdf : d.params.defaults = []) (hr : Room k callerA)
    (F : ∀ (w : World) (mg : Str → Option Value) (fa : Addr) (h : Heap), YP w h → h.Ns mainGlobals mg → mg d.name = some (.ref fa) →
      ∃ (K : PySem.W.Frag) (fd : FuncData) (sp : Sp), K.In h ∧ (∀ (s : Shared) (u : Value), BindsTo s fd ⟨[u], []⟩ [(x, u)]) ∧
        (∀ (H : Hp) (a : Addr) (ns : List Int), ns.length ≤ n → Only H → SqL K H a (ns.map V.int) → sp [.ref a] H (fun v _ => v = .bl true) fun _ _ _ => False) ∧
        ∀ base : Heap, K.In base → base.Ns mainGlobals mg → FnOk l.prog w K mg base (L2.CX l.prog w) k fa fd [x] sp) :
    PySem.W.WalkO q loose XP YP l.row.toRowW d [] (fun f vs => PySem.call f vs) := by
  refine Att.attach_call hn hdf fun w s₀ s₁ mg mb fa o pm cd doc a vs ns G Y ho hd hcd hmg hobj hints hlen hg => ?_
  obtain ⟨K, fd, sp, KX, hb, hsp, hF⟩ := F w mg fa _ Y G.T.g hmg
  exact law_call KX G.T.g G.T.b G.T.builtins G.T.nolimit hg hobj hints (Nat.le_trans hlen hn2) hr hF hb (fun H hO hS => hsp H a ns hlen hO hS) fun H e s' c => by
    obtain ⟨_, _, _, _, _, _, _, _, _, _, _, _, z⟩ := c
    exact z
theorem reps_ints {Γ : Ctx} {H : Hp} : ∀ ns : List Int, Reps Γ H (ns.map D.int) (ns.map V.int) [] []
  | [] => ⟨rfl, rfl, rfl⟩
  | n :: ns => ⟨.int n, ns.map V.int, [], [], [], [], rfl, ⟨rfl, rfl, rfl⟩, reps_ints ns, rfl, rfl⟩
theorem sp_script {Γ : Ctx} {H : Hp} {a : Addr} {ns : List Int} {g : List D → FR} (hO : Only H) (hS : SqL Γ.K H a (ns.map V.int)) (hg : g [.lk (ns.map D.int)] = .ok (.bl true) []) : spF Γ [] 1 g [.ref a] H (fun v _ => v = .bl true) (fun _ _ _ => False) := by
  refine ⟨rfl, [.lk (ns.map D.int)], [], [], rfl, ⟨?_, .nil, fun _ _ m => nomatch m⟩, ?_⟩
  · refine ⟨.ref a, [], [], [], [], [], rfl, ⟨a, ns.map V.int, rfl, reps_ints ns, ?_⟩, ⟨rfl, rfl, rfl⟩, rfl, rfl⟩
    rcases hS with hS | hS
    · rcases hS with h | ⟨o, h⟩
      · rcases hO a with z | ⟨o, xs, z⟩
        · rw [z] at h; cases h
        · rw [z] at h; cases h
      · exact .inl ⟨o, h⟩
    · exact .inr hS
  · rw [hg]
    intro v H' _ lv _
    obtain ⟨o1, s1, ow, _, _⟩ := lv
    obtain ⟨od, sd, _, _, rd, _⟩ := ow.cons
    exact rd.1
/-! ### the head's facts -/
structure XD where
  name : Str
  qual : Str
  ps : List Str
  params : Arguments
  body : List Stmt
  scope : Scope
def ceK (cs : List Str) (K : PySem.W.Frag) : Nat → Addr := fun n => He.ga K (cs.getD n Str.empty)
abbrev FnI : Type := Option (Str × Str × Arguments × FuncBody × Scope × Addr × Addr)
def fnI (K : PySem.W.Frag) (f : Addr) : FnI := match K.lookup f with
  | some ⟨_, _, .func fd, _⟩ => some (fd.name, fd.qualname, fd.params, fd.body, fd.scope, fd.globals, fd.builtins)
  | _ => none
def XD.val (x : XD) : FnI := some ("__init__", x.qual, x.params, .stmts x.body, x.scope, mainGlobals, builtinsNs)
def oexB (K : PySem.W.Frag) (C : Addr) : Bool := (match K.lookup C with
  | some ⟨c, _, .cls cd, sl⟩ => (match cd.mro, sl.toList with
    | .ref C' :: bm, [_, _, _, _, some (.builtin n), _] => decide (c = .type "type") && (!cd.hasDel && (cd.hasDict && (decide (C' = C) && (PySem.HandSPX.refsVE bm && decide (n = "ValueError.__new__")))))
    | _, _ => false)
  | _ => false) && (He.eqO (PySem.W.findIn K (.ref C) "__setattr__") (some (some (.builtin "object.__setattr__"))) && (decide (PySem.W.subIn K (.ref C) (.type "BaseException") = some true) && (decide (PySem.W.typeIn K (.ref C) = some (.type "type")) && PySem.W.keepIn K (.ref C))))
theorem oexB_ok {K : PySem.W.Frag} {C : Addr} (h : oexB K C = true) : OexC K C := by
  obtain ⟨h1, h⟩ := He.ba h
  obtain ⟨h2, h⟩ := He.ba h
  obtain ⟨h3, h⟩ := He.ba h
  obtain ⟨h4, h5⟩ := He.ba h
  refine ⟨?_, He.eqO_ok h2, of_decide_eq_true h3, of_decide_eq_true h4, h5⟩
  split at h1
  · rename_i c dd cd sl hl
    split at h1
    · rename_i C' bm k0 k1 k2 k3 n k5 hm hs
      simp only [Bool.and_eq_true, decide_eq_true_eq, Bool.not_eq_true'] at h1
      obtain ⟨rfl, hdel, hd, rfl, hr, rfl⟩ := h1
      obtain ⟨nm, bs, mro, ns, qn, hd', sn, sub, ab, col, del⟩ := cd
      dsimp only at hm hdel hd
      subst hm hdel hd
      have hsl : sl = #[k0, k1, k2, k3, some (.builtin "ValueError.__new__"), k5] := by
        obtain ⟨l⟩ := sl
        simp only at hs
        rw [hs]
      subst hsl
      exact ⟨nm, qn, ns, bs, bm, sn, sub, ab, col, dd, k0, k1, k2, k3, k5, hl, hr⟩
    · cases h1
  · cases h1
def initB (K : PySem.W.Frag) (file : Str) (x : XD) : Bool :=
  let C := He.ga K x.name
  let f := He.ma K C "__init__"
  He.eqO (PySem.W.findIn K (.ref C) "__init__") (some (some (.ref f))) && (decide (PySem.W.typeIn K (.ref f) = some (.type "function")) && (x.ps.all (fun p => He.eqO (PySem.W.findIn K (.ref C) p) (some none)) && (He.eqO (PySem.W.nsIn K cStatics "thirdparty.any") (some none) &&
    (He.eqO (PySem.W.ks_superIn K C C "__init__") (some (some (.builtin "ValueError.__init__"))) && (decide (PySem.W.subIn K (.ref C) (.type "ValueError") = some true) && (decide (PySem.W.mroIn K C (.ref C) = some true) && (PySem.W.hasDictIn K C &&
    (match K.lookup f with
      | some ⟨_, _, .func fd, _⟩ => (match fd.closure, fd.code with
        | [(n, cc)], .ref cda => decide (n = "__class__") && (decide (fd.defaults = .none) && (PySem.W.codeIn K (.ref cda) x.qual && ((match K.lookup cc with
          | some ⟨_, _, .cell (some (.ref D)), _⟩ => decide (D = C)
          | _ => false) && (match K.lookup cda with
          | some ⟨_, _, .fields vs, _⟩ => (match vs[2]? with
            | some (Value.str g _) => file == g
            | _ => false)
          | _ => false))))
        | _, _ => false)
      | _ => false))))))))
theorem initB_ok {P : Program} {K : PySem.W.Frag} {x : XD} (h : initB K P.main.file x = true) (ho : oexB K (He.ga K x.name) = true) (e : fnI K (He.ma K (He.ga K x.name) "__init__") = x.val) (ht : (P.main.scope.names.lookup ("super" : Str)).isSome = false) :
    ∃ fd, ErrC P K (He.ga K x.name) (He.ma K (He.ga K x.name) "__init__") x.ps x.params x.body x.scope fd ∧ ∀ ps : List Str, (∀ (kV doc pm ct : Value) (an : Option Addr) (cda cc : Addr) (us : List Value), us.length = ps.length → bindArgs (PySem.W.ksFn "__init__" x.qual x.params x.body x.scope .none kV doc pm an (.ref cda) ct cc) ⟨us, []⟩ = pure (ps.zip us)) → Binds K fd ps [] := by
  unfold initB at h
  dsimp only at h
  obtain ⟨h1, h⟩ := He.ba h
  obtain ⟨h2, h⟩ := He.ba h
  obtain ⟨h3, h⟩ := He.ba h
  obtain ⟨h4, h⟩ := He.ba h
  obtain ⟨h5, h⟩ := He.ba h
  obtain ⟨h6, h⟩ := He.ba h
  obtain ⟨h7, h⟩ := He.ba h
  obtain ⟨h8, h⟩ := He.ba h
  unfold fnI at e
  generalize He.ma K (He.ga K x.name) "__init__" = f at *
  split at h
  · rename_i oc od fd osl hl
    rw [hl] at e
    obtain ⟨n1, n2, n3, n4, n5, n6, n7, n8, n9, n10, n11, n12, n13, n14, n15⟩ := fd
    have e2 : (some (n1, n2, n3, n4, n5, n6, n15) : FnI) = (some (("__init__" : Str), x.qual, x.params, FuncBody.stmts x.body, x.scope, mainGlobals, builtinsNs) : FnI) := e
    simp only [Option.some.injEq, Prod.mk.injEq] at e2
    obtain ⟨g1, g2, g3, g4, g5, g6, g7⟩ := e2
    subst g1 g2 g3 g4 g5 g6 g7
    dsimp only at h
    split at h
    · rename_i n cc cda
      obtain ⟨k1, h⟩ := He.ba h
      obtain ⟨k2, h⟩ := He.ba h
      obtain ⟨k3, h⟩ := He.ba h
      obtain ⟨k4, k5⟩ := He.ba h
      obtain rfl := of_decide_eq_true k1
      obtain rfl := of_decide_eq_true k2
      split at k4
      · rename_i cl cld D csl hc
        obtain rfl := of_decide_eq_true k4
        split at k5
        · rename_i ccl cdd vs ccs hd
          split at k5
          · rename_i g tf hv
            refine ⟨_, ⟨oexB_ok ho, He.eqO_ok h1, of_decide_eq_true h2, fun p hp => He.eqO_ok (List.all_eq_true.mp h3 p hp), He.eqO_ok h4, He.eqO_ok h5, of_decide_eq_true h6, of_decide_eq_true h7, h8, ht, ⟨x.qual, _, _, _, _, oc, _, od, osl, cda, cc, ccl, cl, cdd, cld, ccs, csl, vs, g, tf, rfl, hl, k3, hc, hd, hv, k5⟩⟩, fun ps hb => .all fun us hu => hb _ _ _ _ _ _ _ us hu⟩
          · cases k5
        · cases k5
      · cases k4
    · cases h
  · cases h
end TB
end
section
set_option Elab.async false
set_option linter.all false
set_option maxRecDepth 100000
set_option maxHeartbeats 4000000
namespace TB
open PySem PySem.Spec PyProof.Rows L2
def excB (K : PySem.W.Frag) (D : Addr) : Bool := He.eqO (PySem.W.findIn K (.ref D) "__getattribute__") (some (some (.builtin "BaseException.__getattribute__"))) && (He.eqO (PySem.W.findIn K (.ref D) "__getattr__") (some none) && (decide (PySem.W.subIn K (.ref D) (.type "BaseException") = some true) && (PySem.W.hasDictIn K D && (He.eqO (PySem.W.findIn K (.ref D) "__class__") (some (some (.builtin "object.__class__"))) &&
  (He.eqO (PySem.W.specialIn K (.builtin "object.__class__") "__get__") (some (some (.builtin "getset_descriptor.__get__"))) && (decide (PySem.W.takesIn K (.builtin "object.__class__") = some true) && decide (PySem.W.mroIn K D (.type "object") = some true)))))))
theorem excB_ok {K : PySem.W.Frag} {D : Addr} (h : excB K D = true) : ExcC K D := by
  obtain ⟨h1, h⟩ := He.ba h
  obtain ⟨h2, h⟩ := He.ba h
  obtain ⟨h3, h⟩ := He.ba h
  obtain ⟨h4, h⟩ := He.ba h
  obtain ⟨h5, h⟩ := He.ba h
  obtain ⟨h6, h⟩ := He.ba h
  obtain ⟨h7, h8⟩ := He.ba h
  exact ⟨He.eqO_ok h1, He.eqO_ok h2, of_decide_eq_true h3, h4, He.eqO_ok h5, He.eqO_ok h6, of_decide_eq_true h7, of_decide_eq_true h8⟩
abbrev TX := List (Nat × Nat × Bool)
def exnB (K : PySem.W.Frag) (cs : List Str) (T : TX) (F : List (Nat × Str)) : Bool :=
  let ce := ceK cs K
  (List.range cs.length).all (fun k => xfB K (ce k) && (excB K (ce k) && decide (PySem.W.kitOne K (.ref (ce k)) (.type "ValueError") = some true))) &&
    (T.all (fun t => decide (PySem.W.exmOne K (.ref (ce t.1)) (.ref (ce t.2.1)) = some t.2.2) && decide (PySem.W.kitOne K (.ref (ce t.1)) (.ref (ce t.2.1)) = some t.2.2)) && F.all (fun f => He.eqO (PySem.W.findIn K (.ref (ce f.1)) f.2) (some none)))
/-- what stands of the error classes -/
structure Exs (Γ : Ctx) (n : Nat) (T : TX) (F : List (Nat × Str)) : Prop where
  xm : ∀ k c b, (k, c, b) ∈ T → PySem.W.exmOne Γ.K (.ref (Γ.ce k)) (.ref (Γ.ce c)) = some b
  xk : ∀ k c b, (k, c, b) ∈ T → PySem.W.kitOne Γ.K (.ref (Γ.ce k)) (.ref (Γ.ce c)) = some b
  xv : ∀ k, k < n → PySem.W.kitOne Γ.K (.ref (Γ.ce k)) (.type "ValueError") = some true
  xf : ∀ k, k < n → XfC Γ.K (Γ.ce k)
  xc : ∀ k, k < n → ExcC Γ.K (Γ.ce k)
  no : ∀ k f, (k, f) ∈ F → PySem.W.findIn Γ.K (.ref (Γ.ce k)) f = some none
theorem exnB_ok {K : PySem.W.Frag} {cs : List Str} {T : TX} {F : List (Nat × Str)} (h : exnB K cs T F = true) : Exs ⟨K, ceK cs K⟩ cs.length T F := by
  unfold exnB at h
  dsimp only at h
  obtain ⟨h1, h⟩ := He.ba h
  obtain ⟨h2, h3⟩ := He.ba h
  have a1 : ∀ k, k < cs.length → xfB K (ceK cs K k) = true ∧ excB K (ceK cs K k) = true ∧ PySem.W.kitOne K (.ref (ceK cs K k)) (.type "ValueError") = some true := fun k hk => by
    have := List.all_eq_true.mp h1 k (List.mem_range.mpr hk)
    obtain ⟨b1, b2⟩ := He.ba this
    obtain ⟨b2, b3⟩ := He.ba b2
    exact ⟨b1, b2, of_decide_eq_true b3⟩
  have a2 : ∀ k c b, (k, c, b) ∈ T → PySem.W.exmOne K (.ref (ceK cs K k)) (.ref (ceK cs K c)) = some b ∧ PySem.W.kitOne K (.ref (ceK cs K k)) (.ref (ceK cs K c)) = some b := fun k c b m => by
    obtain ⟨b1, b2⟩ := He.ba (List.all_eq_true.mp h2 _ m)
    exact ⟨of_decide_eq_true b1, of_decide_eq_true b2⟩
  exact ⟨fun k c b m => (a2 k c b m).1, fun k c b m => (a2 k c b m).2, fun k hk => (a1 k hk).2.2, fun k hk => xfB_ok (a1 k hk).1, fun k hk => excB_ok (a1 k hk).2.1, fun k f m => He.eqO_ok (List.all_eq_true.mp h3 _ m)⟩
/-! ### the hook -/
def asX (g : Addr → Option Obj) : Nat → List Addr
  | 0 => [mainGlobals, cStatics]
  | n + 1 => He.growD g (asX g n)
abbrev AlX : Type := He.AlD × (Bool × List FnI)
structure XS where
  fa : List He.Fa
  fn : List He.DefD
  xs : List XD
  cs : List Str
  T : TX
  F : List (Nat × Str)
  file : Str
def XS.obs (x : XS) (K : PySem.W.Frag) : AlX := (He.obsD x.fa x.fn K, (x.xs.all (fun y => oexB K (He.ga K y.name) && initB K x.file y) && exnB K x.cs x.T x.F, x.xs.map fun y => fnI K (He.ma K (He.ga K y.name) "__init__")))
def XS.val (x : XS) : AlX := (He.valD x.fn, (true, x.xs.map XD.val))
def XS.obsG (x : XS) (n : Nat) (g : Addr → Option Obj) : AlX := x.obs (He.frG g (asX g n))
def XS.hook (x : XS) (n : Nat) : PySem.W.Hook where
  α := AlX
  obs := fun s => x.obsG n s.heap.get?
  val := fun _ => x.val
  says := fun _ h => ∃ K : PySem.W.Frag, K.In h ∧ x.obs K = x.val
  of := fun _ _ e => ⟨_, He.frG_in, e⟩
  keeps := fun _ _ _ ⟨K, hK, c⟩ k => ⟨K, PySem.W.Frag.In.keeps hK k, c⟩
theorem XS.obsG_eq {x : XS} {n : Nat} {g : Addr → Option Obj} {s : Shared} (h : ∀ a, g a = s.heap.get? a) : x.obsG n g = (x.hook n).obs s := by
  have e : g = s.heap.get? := funext h
  rw [e] <;> rfl
section
variable {x : XS} {K : PySem.W.Frag}
theorem XS.d (c : x.obs K = x.val) : He.SaysD x.fa x.fn K := congrArg (fun z : AlX => z.1) c
theorem XS.e (c : x.obs K = x.val) : Exs ⟨K, ceK x.cs K⟩ x.cs.length x.T x.F := exnB_ok (He.ba (show (x.xs.all (fun y => oexB K (He.ga K y.name) && initB K x.file y) && exnB K x.cs x.T x.F) = true from congrArg (fun z : AlX => z.2.1) c)).2
/-- the i-th error class with an own __init__ -/
theorem XS.xd {P : Program} (c : x.obs K = x.val) (hf : P.main.file = x.file) (ht : (P.main.scope.names.lookup ("super" : Str)).isSome = false) (i : Nat) {y : XD} (h : x.xs[i]? = some y := by rfl) :
    ∃ fd, ErrC P K (He.ga K y.name) (He.ma K (He.ga K y.name) "__init__") y.ps y.params y.body y.scope fd ∧ ∀ ps : List Str, (∀ (kV doc pm ct : Value) (an : Option Addr) (cda cc : Addr) (us : List Value), us.length = ps.length → bindArgs (PySem.W.ksFn "__init__" y.qual y.params y.body y.scope .none kV doc pm an (.ref cda) ct cc) ⟨us, []⟩ = pure (ps.zip us)) → Binds K fd ps [] := by
  have c1 := (He.ba (show (x.xs.all (fun y => oexB K (He.ga K y.name) && initB K x.file y) && exnB K x.cs x.T x.F) = true from congrArg (fun z : AlX => z.2.1) c)).1
  obtain ⟨b1, b2⟩ := He.ba (List.all_eq_true.mp c1 y (List.mem_of_getElem? h))
  have e2 : (x.xs.map fun y => fnI K (He.ma K (He.ga K y.name) "__init__")) = x.xs.map XD.val := congrArg (fun z : AlX => z.2.2) c
  have e3 : (x.xs.map fun y => fnI K (He.ma K (He.ga K y.name) "__init__"))[i]? = (x.xs.map XD.val)[i]? := by rw [e2]
  rw [List.getElem?_map, List.getElem?_map, h] at e3
  exact initB_ok (by rw [hf]; exact b2) b1 (Option.some.inj e3) ht
end
/-- an own error class, ready to be raised -/
theorem exK {P : Program} {w : World} {K : PySem.W.Frag} {ce : Nat → Addr} {mg : Str → Option Value} {base : Heap} {c : Nat} {x : Str} {ps : List Str} {params : Arguments} {scope : Scope} {fd : FuncData} {fs : List FP} {ns : List (Str × Pos)} {p0 p1 p2 p3 p4 : Pos} {ar : Arg} {fI : Addr}
    (T : ErrC P K (ce c) fI ps params (.Expr (.Call (.Attribute (.Call (.Name "super" p0) [] [] p1) "__init__" p2) (nmB ns) [] p3) p4 :: stB fs) scope fd) (hb : Binds K fd ("self" :: ps) []) (hm : mg x = some (.ref (ce c))) (S : ErrS ps scope) (hps : ps ≠ []) (hl : ps.length ≤ 900) (hnd : (("self" : Str) :: ps).Nodup) (hfs : fs.map (·.1) = ps) (hns : ns.map (·.1) = ps)
    (hp : (params.posonlyargs ++ params.args).head? = some ar) (har : ar.arg = "self") (hmg : mg "super" = none)
    (hi : ∀ (qual : Str) (L cc : Addr) (cda : Value), interactive (PySem.W.ksEnv qual scope L fI cda cc) = false)
    (hc : ∀ (qual : Str) (L cc : Addr) (cda : Value), ∃ pl, eval (.Call (.Attribute (.Call (.Name "super" p0) [] [] p1) "__init__" p2) (nmB ns) [] p3) (PySem.W.ksEnv qual scope L fI cda cc) = (do
      let ov ← attributeBase (.Call (.Name "super" p0) [] [] p1) "__init__" (PySem.W.ksEnv qual scope L fI cda cc) (eval (.Call (.Name "super" p0) [] [] p1) (PySem.W.ksEnv qual scope L fI cda cc))
      standAt p2.atName
      let (f, first) ← holding [ov] (getMethod ov "__init__" pl)
      callWith p3 f first (backTo p3 (starEach (nmB ns) (PySem.W.ksEnv qual scope L fI cda cc))) [])) : ExK ⟨K, ce⟩ P w mg base c x ps :=
  ⟨⟨fI, fd, init_ok T S hps hl hnd hfs hns hp har hmg hi hc, T.oex, T.iC, T.tI, hb⟩, hm⟩
end TB
namespace TB
open PySem PySem.Spec L2
theorem lk_all {L : List (Nat × Bool)} {p : Nat → Bool → Prop} (h : ∀ q ∈ L, p q.1 q.2) : ∀ k b, L.lookup k = some b → p k b := by
  induction L with
  | nil => intro k b e; cases e
  | cons q L ih =>
    obtain ⟨k', b'⟩ := q
    intro k b e
    cases hb : k == k' with
    | true =>
      simp only [List.lookup, hb] at e
      cases e
      rw [beq_iff_eq.mp hb]; exact h (k', b') List.mem_cons_self
    | false =>
      simp only [List.lookup, hb] at e
      exact ih (fun q m => h q (List.mem_cons_of_mem _ m)) k b e
section
variable {Γ : Ctx} {P : Program} {w : World} {mg : Str → Option Value} {base : Heap}
theorem fnK_none {io : List Nat} {n k : Nat} {x : Str} {ps : List Str} {f : Addr} {fd : FuncData} (hn : n = ps.length) (hm : mg x = some (.ref f)) (hk : PySem.W.keepIn Γ.K (.ref f) = true) (hb : Binds Γ.K fd ps []) : FnK Γ P w mg base k x ps (spF Γ io n fun _ => .no) :=
  ⟨f, fd, ⟨fun vs H Q E h => by rw [h.1, hn], fun A outer s H args us vs Q E _ _ _ _ h => by
    obtain ⟨_, ds, o, s, _, _, h⟩ := h
    exact h.elim⟩, hm, hk, hb⟩
end
/-- a def of the top: where it stands -/
structure DfK (K : PySem.W.Frag) (mg : Str → Option Value) (x : Str) (st : Stmt) (ps : List Str) : Prop where
  ex : ∃ f fd, FunD K x x (defArgs st) (defBody st) (defScope st) [] [] f fd ∧ mg x = some (.ref f) ∧ Binds K fd ps []
theorem dfK {fa : List He.Fa} {fn : List He.DefD} {K : PySem.W.Frag} {h : Heap} {mg : Str → Option Value} {x : Str} {st : Stmt} {ps : List Str} (X : K.In h) (G : h.Ns mainGlobals mg) (c : He.SaysD fa fn K) (i j : Nat) (hi : fn[i]? = some ⟨(x, none), x, x, defArgs st, defBody st, defScope st, [], []⟩) (hj : fa[j]? = some (.glo x))
    (hb : ∀ (kV doc pm : Value) (an : Option Addr) (cdv ct : Value) (us : List Value), us.length = ps.length → bindArgs (PySem.W.fnOf x x (defArgs st) (defBody st) (defScope st) .none kV doc pm an cdv ct) ⟨us, []⟩ = pure (ps.zip us)) : DfK K mg x st ps := by
  obtain ⟨fd, F⟩ := c.def_ i hi
  exact ⟨_, fd, F, He.glo_ok X G (c.fact j hj), FunD.bindsN F hb⟩
theorem DfK.fn {Γ : Ctx} {P : Program} {w : World} {mg : Str → Option Value} {base : Heap} {F : FnDef} {cf : CF} {x : Str} {st : Stmt} {N ps : List Str} {k : Nat} (d : DfK Γ.K mg x st ps) (S : FnScope N ps (defScope st)) (hn : F.npar = ps.length) (hl : F.nloc = N.length)
    (hio : F.io = [] ∨ ∃ j, F.io = [j] ∧ j < F.npar)
    (drv : ∀ (f : Addr) (cdv : Value) (A : Around) (outer : List Env) (s : Shared) (H : Hp) (E : XK), Room k (A.deeper (PyProof.Rows.envOfC x (defScope st) s.heap.objs.size f cdv)) →
      PSs (cxOf (L2.CX P w) P w Γ.K mg base N x (defScope st) f cdv A outer s H E) (defBody st) (tS Γ (fun cls dx _ H => E cls dx H) F.io (F.body cf))) : FnK Γ P w mg base (k + 1) x ps (spF Γ F.io F.npar (runF F cf)) := by
  obtain ⟨f, fd, FD, hm, hb⟩ := d.ex
  exact fnK_ok (fn_ok FD S hn hl hio (drv f)) hm FD.kp hb
theorem DfK.none {Γ : Ctx} {P : Program} {w : World} {mg : Str → Option Value} {base : Heap} {io : List Nat} {n k : Nat} {x : Str} {st : Stmt} {ps : List Str} (d : DfK Γ.K mg x st ps) (hn : n = ps.length) : FnK Γ P w mg base k x ps (spF Γ io n fun _ => .no) := by
  obtain ⟨f, fd, FD, hm, hb⟩ := d.ex
  exact fnK_none hn hm FD.kp hb
/-! ### reading an own __init__ off its text -/
def clsB : Stmt → List Stmt
  | .ClassDef (body := b) .. => b
  | _ => []
def p00 : Pos := ⟨0, 0, 0, 0⟩
def grF : Stmt → FP
  | .Assign [.Attribute (.Name _ q1) f q2] (.Name _ q3) q4 => (f, q1, q2, q3, q4)
  | _ => (Str.empty, p00, p00, p00, p00)
def grN : Expr → Str × Pos
  | .Name x p => (x, p)
  | _ => (Str.empty, p00)
def grI : List Stmt → List Expr × Pos × Pos × Pos × Pos × Pos
  | .Expr (.Call (.Attribute (.Call (.Name _ p0) _ _ p1) _ p2) as _ p3) p4 :: _ => (as, p0, p1, p2, p3, p4)
  | _ => ([], p00, p00, p00, p00, p00)
end TB
end
section
set_option Elab.async false
set_option linter.all false
set_option maxRecDepth 100000
set_option maxHeartbeats 4000000
namespace TB
open PySem PySem.Spec L2

def top (i : Nat) : Stmt := PySem.Challenge.pw_treesbeside_k02_trees_in_order_and_by_nu.main.body.getD i (.Pass ⟨0, 0, 0, 0⟩)
def wFuel : Nat := 1000000
abbrev s_right_starts : Stmt := top 5
def N_right_starts : List Str := ["text", "found", "begun", "at"]
abbrev s_left_of : Stmt := top 6
def N_left_of : List Str := ["tree"]
abbrev s_right_of : Stmt := top 7
def N_right_of : List Str := ["tree"]
abbrev s_size_of : Stmt := top 8
def N_size_of : List Str := ["tree"]
abbrev s_counts_of_trees : Stmt := top 11
def N_counts_of_trees : List Str := ["letters", "size", "counts", "many", "left"]
abbrev s_trees_up_to : Stmt := top 12
def N_trees_up_to : List Str := ["letters", "most", "counts", "by_size", "many", "row", "letter", "size", "tree", "left", "right"]
abbrev s_tree_in_size : Stmt := top 13
def N_tree_in_size : List Str := ["letters", "counts", "size", "number", "block", "letter", "left", "many", "first"]
abbrev s_tree_by_number : Stmt := top 14
def N_tree_by_number : List Str := ["letters", "number", "size", "counts"]
abbrev s_number_in_size : Stmt := top 15
def N_number_in_size : List Str := ["letters", "counts", "tree", "size", "number", "many", "left", "right"]
abbrev s_tree_number : Stmt := top 16
def N_tree_number : List Str := ["letters", "tree", "size", "counts"]
abbrev s_comes_before : Stmt := top 17
def N_comes_before : List Str := ["letters", "first", "second", "sizes"]
abbrev s_law_same : Stmt := top 19
def N_law_same : List Str := ["told", "due", "k"]
abbrev s_law_picks : Stmt := top 20
def N_law_picks : List Str := ["script", "k", "count", "cell", "found", "at", "state", "mixed"]
abbrev s_law_pick : Stmt := top 21
def N_law_pick : List Str := ["picks", "many"]
abbrev s_law_one : Stmt := top 22
def N_law_one : List Str := ["picks", "items"]
abbrev s_law_end : Stmt := top 23
def N_law_end : List Str := ["tree", "at", "open_signs", "k"]
abbrev s_law_left : Stmt := top 24
def N_law_left : List Str := ["tree"]
abbrev s_law_right : Stmt := top 25
def N_law_right : List Str := ["tree"]
abbrev s_law_levels : Stmt := top 26
def N_law_levels : List Str := ["letters", "most", "found", "size", "row", "letter", "many", "left", "right"]
abbrev s_law_trees : Stmt := top 27
def N_law_trees : List Str := ["letters", "most", "found", "row"]
abbrev s_law_tree : Stmt := top 28
def N_law_tree : List Str := ["picks", "letters", "size", "many", "letter"]
abbrev s_law_spots : Stmt := top 29
def N_law_spots : List Str := ["tree", "left", "pair"]
abbrev s_law_put : Stmt := top 30
def N_law_put : List Str := ["tree", "spot", "part"]
abbrev s_law_told : Stmt := top 31
def N_law_told : List Str := ["letters", "kind", "value", "error"]
abbrev s_law_counts : Stmt := top 32
def N_law_counts : List Str := ["letters", "most", "counts", "size", "one"]
abbrev s_law_inside : Stmt := top 33
def N_law_inside : List Str := ["letters", "counts", "tree", "number", "inner", "left", "right", "size", "many", "one"]
abbrev s_law_number : Stmt := top 34
def N_law_number : List Str := ["letters", "counts", "tree"]
abbrev s_law_list_due : Stmt := top 35
def N_law_list_due : List Str := ["letters", "most", "counts", "least", "size"]
abbrev s_law : Stmt := top 36
def N_law : List Str := ["script", "shape", "picks", "letters", "great", "counts", "trees", "size", "numbers", "first", "at", "most", "few", "number", "kind", "tall", "second", "last", "asks", "k", "tree", "pair"]
abbrev c_MOST_TREES : D := .int 5000
def t_right_starts_1 (cf : CF) : DenS := dAsg (sName [] 1) (dOp (two gMul) (dCons (dDisp opLst (dCons (dC (.int 0)) dNil)) (dCons (dOp (one gLen) (dCons (dVar 0) dNil)) dNil)))
def t_right_starts_2 (cf : CF) : DenS := dAsg (sName [] 2) (dDisp opLst (dNil))
def t_right_starts_6 (cf : CF) : DenS := dRet (dC .non)
def t_right_starts_5 (cf : CF) : DenS := dIfS (dOp (two gLt) (dCons (dOp (one gLen) (dCons (dVar 2) dNil)) (dCons (dC (.int 2)) dNil))) (t_right_starts_6 cf) (dSkip)
def t_right_starts_7 (cf : CF) : DenS := dExp (dPop 2)
def t_right_starts_8 (cf : CF) : DenS := dSetIx 1 (dPop 2) (dVar 3)
def t_right_starts_4 (cf : CF) : DenS := dIfS (dOp (two gNe) (dCons (dOp (two gIx) (dCons (dVar 0) (dCons (dVar 3) dNil))) (dCons (dC (.str [46])) dNil))) (dSeq (t_right_starts_5 cf) (dSeq (t_right_starts_7 cf) (t_right_starts_8 cf))) (dSkip)
def t_right_starts_9 (cf : CF) : DenS := dExp (dAppend 2 (dVar 3))
def b_right_starts_3 (cf : CF) : DenS := dSeq (t_right_starts_4 cf) (t_right_starts_9 cf)
def t_right_starts_3 (cf : CF) : DenS := dFor (dIt itRR1 (dCons (dOp (one gLen) (dCons (dVar 0) dNil)) dNil)) (sName [] 3) (b_right_starts_3 cf)
def t_right_starts_10 (cf : CF) : DenS := dRet (dIf (dOp (two gEq) (dCons (dOp (one gLen) (dCons (dVar 2) dNil)) (dCons (dC (.int 1)) dNil))) (dVar 1) (dC .non))
def den_right_starts (cf : CF) : DenS :=
  dSeq (t_right_starts_1 cf) (dSeq (t_right_starts_2 cf) (dSeq (t_right_starts_3 cf) (t_right_starts_10 cf)))
def fn_right_starts : FnDef := ⟨1, 4, [], den_right_starts⟩
def t_left_of_2 (cf : CF) : DenS := dRet (dC (.str [46]))
def t_left_of_1 (cf : CF) : DenS := dIfS (dOp (two gEq) (dCons (dVar 0) (dCons (dC (.str [46])) dNil))) (t_left_of_2 cf) (dSkip)
def t_left_of_3 (cf : CF) : DenS := dRet (dOp (opSl 1) (dCons (dVar 0) (dCons (dC (.int 1)) (dCons (dOp (two gIx) (dCons (dCall0 (cf 0) (dCons (dVar 0) dNil)) (dCons (dC (.int 0)) dNil))) dNil))))
def den_left_of (cf : CF) : DenS :=
  dSeq (t_left_of_1 cf) (t_left_of_3 cf)
def fn_left_of : FnDef := ⟨1, 1, [], den_left_of⟩
def t_right_of_2 (cf : CF) : DenS := dRet (dC (.str [46]))
def t_right_of_1 (cf : CF) : DenS := dIfS (dOp (two gEq) (dCons (dVar 0) (dCons (dC (.str [46])) dNil))) (t_right_of_2 cf) (dSkip)
def t_right_of_3 (cf : CF) : DenS := dRet (dOp (opSl 1) (dCons (dVar 0) (dCons (dOp (two gIx) (dCons (dCall0 (cf 0) (dCons (dVar 0) dNil)) (dCons (dC (.int 0)) dNil))) dNil)))
def den_right_of (cf : CF) : DenS :=
  dSeq (t_right_of_1 cf) (t_right_of_3 cf)
def fn_right_of : FnDef := ⟨1, 1, [], den_right_of⟩
def t_size_of_1 (cf : CF) : DenS := dRet (dOp (two gDiv) (dCons (dOp (one gLen) (dCons (dVar 0) dNil)) (dCons (dC (.int 2)) dNil)))
def den_size_of (cf : CF) : DenS :=
  t_size_of_1 cf
def fn_size_of : FnDef := ⟨1, 1, [], den_size_of⟩
def t_counts_of_trees_1 (cf : CF) : DenS := dAsg (sName [] 2) (dDisp opLst (dCons (dC (.int 1)) dNil))
def t_counts_of_trees_3 (cf : CF) : DenS := dExp (dAppend 2 (dOp (two gMul) (dCons (dOp (one gLen) (dCons (dVar 0) dNil)) (dCons (dOp (one gSum) (dCons (dComp (dIt itR1 (dCons (dVar 3) dNil)) (sName (cmpl [4] 5) 4) [4] (dTrue) (dOp (two gMul) (dCons (dOp (two gIx) (dCons (dVar 2) (dCons (dVar 4) dNil))) (dCons (dOp (two gIx) (dCons (dVar 2) (dCons (dOp (two gSub) (dCons (dOp (two gSub) (dCons (dVar 3) (dCons (dC (.int 1)) dNil))) (dCons (dVar 4) dNil))) dNil))) dNil)))) dNil)) dNil))))
def b_counts_of_trees_2 (cf : CF) : DenS := t_counts_of_trees_3 cf
def t_counts_of_trees_2 (cf : CF) : DenS := dFor (dIt itR2 (dCons (dC (.int 1)) (dCons (dOp (two gAdd) (dCons (dVar 1) (dCons (dC (.int 1)) dNil))) dNil))) (sName [] 3) (b_counts_of_trees_2 cf)
def t_counts_of_trees_4 (cf : CF) : DenS := dRet (dMove 2)
def den_counts_of_trees (cf : CF) : DenS :=
  dSeq (t_counts_of_trees_1 cf) (dSeq (t_counts_of_trees_2 cf) (t_counts_of_trees_4 cf))
def fn_counts_of_trees : FnDef := ⟨2, 5, [], den_counts_of_trees⟩
def t_trees_up_to_2 (cf : CF) : DenS := dRaise 1 ["number"] (dCons (dVar 1) dNil)
def t_trees_up_to_1 (cf : CF) : DenS := dIfS (dOp (two gLt) (dCons (dVar 1) (dCons (dC (.int 0)) dNil))) (t_trees_up_to_2 cf) (dSkip)
def t_trees_up_to_3 (cf : CF) : DenS := dAsg (sName [] 2) (dDisp opLst (dCons (dC (.int 1)) dNil))
def t_trees_up_to_5 (cf : CF) : DenS := dAsg (sName [] 2) (dCall0 (cf 4) (dCons (dVar 0) (dCons (dOp (one gLen) (dCons (dVar 2) dNil)) dNil)))
def b_trees_up_to_4 (cf : CF) : DenS := t_trees_up_to_5 cf
def t_trees_up_to_4 (cf : CF) : DenS := loopW wFuel (dAnd (dOp (two gLe) (dCons (dOp (one gLen) (dCons (dVar 2) dNil)) (dCons (dVar 1) dNil))) (dOp (two gLe) (dCons (dOp (one gSum) (dCons (dVar 2) dNil)) (dCons (dC c_MOST_TREES) dNil)))) (b_trees_up_to_4 cf)
def t_trees_up_to_7 (cf : CF) : DenS := dRaise 2 ["number"] (dCons (dOp (two gSub) (dCons (dOp (one gLen) (dCons (dVar 2) dNil)) (dCons (dC (.int 1)) dNil))) dNil)
def t_trees_up_to_6 (cf : CF) : DenS := dIfS (dOp (two gGt) (dCons (dOp (one gSum) (dCons (dVar 2) dNil)) (dCons (dC c_MOST_TREES) dNil))) (t_trees_up_to_7 cf) (dSkip)
def t_trees_up_to_8 (cf : CF) : DenS := dAsg (sName [] 3) (dDisp opLst (dCons (dDisp opLst (dCons (dC (.str [46])) dNil)) dNil))
def t_trees_up_to_10 (cf : CF) : DenS := dAsg (sName [] 5) (dDisp opLst (dNil))
def t_trees_up_to_13 (cf : CF) : DenS := dExp (dExtend 5 (dComp2 (dIt itL (dCons (dOp (two gIx) (dCons (dVar 3) (dCons (dVar 7) dNil))) dNil)) (sName (cmpl [9, 10] 11) 9) [9, 10] (dIt itL (dCons (dOp (two gIx) (dCons (dVar 3) (dCons (dOp (two gSub) (dCons (dOp (two gSub) (dCons (dVar 4) (dCons (dC (.int 1)) dNil))) (dCons (dVar 7) dNil))) dNil))) dNil)) (sName (cmpl [10] 11) 10) [10] (dOp (two gAdd) (dCons (dOp (two gAdd) (dCons (dVar 6) (dCons (dVar 9) dNil))) (dCons (dVar 10) dNil)))))
def b_trees_up_to_12 (cf : CF) : DenS := t_trees_up_to_13 cf
def t_trees_up_to_12 (cf : CF) : DenS := dFor (dIt itR1 (dCons (dVar 4) dNil)) (sName [] 7) (b_trees_up_to_12 cf)
def b_trees_up_to_11 (cf : CF) : DenS := t_trees_up_to_12 cf
def t_trees_up_to_11 (cf : CF) : DenS := dFor (dIt itS (dCons (dVar 0) dNil)) (sName [] 6) (b_trees_up_to_11 cf)
def t_trees_up_to_14 (cf : CF) : DenS := dExp (dAppend 3 (dMove 5))
def b_trees_up_to_9 (cf : CF) : DenS := dSeq (t_trees_up_to_10 cf) (dSeq (t_trees_up_to_11 cf) (t_trees_up_to_14 cf))
def t_trees_up_to_9 (cf : CF) : DenS := dFor (dIt itR2 (dCons (dC (.int 1)) (dCons (dOp (two gAdd) (dCons (dVar 1) (dCons (dC (.int 1)) dNil))) dNil))) (sName [] 4) (b_trees_up_to_9 cf)
def t_trees_up_to_15 (cf : CF) : DenS := dRet (dComp2 (dIt itL (dCons (dVar 3) dNil)) (sName (cmpl [5, 8] 11) 5) [5, 8] (dIt itL (dCons (dVar 5) dNil)) (sName (cmpl [8] 11) 8) [8] (dVar 8))
def den_trees_up_to (cf : CF) : DenS :=
  dSeq (t_trees_up_to_1 cf) (dSeq (t_trees_up_to_3 cf) (dSeq (t_trees_up_to_4 cf) (dSeq (t_trees_up_to_6 cf) (dSeq (t_trees_up_to_8 cf) (dSeq (t_trees_up_to_9 cf) (t_trees_up_to_15 cf))))))
def fn_trees_up_to : FnDef := ⟨2, 11, [], den_trees_up_to⟩
def t_tree_in_size_2 (cf : CF) : DenS := dRet (dC (.str [46]))
def t_tree_in_size_1 (cf : CF) : DenS := dIfS (dOp (two gEq) (dCons (dVar 2) (dCons (dC (.int 0)) dNil))) (t_tree_in_size_2 cf) (dSkip)
def t_tree_in_size_3 (cf : CF) : DenS := dAsg (sName [] 4) (dOp (two gDiv) (dCons (dOp (two gIx) (dCons (dVar 1) (dCons (dVar 2) dNil))) (dCons (dOp (one gLen) (dCons (dVar 0) dNil)) dNil)))
def t_tree_in_size_4 (cf : CF) : DenS := dAsg (sName [] 5) (dOp (two gIx) (dCons (dVar 0) (dCons (dOp (two gDiv) (dCons (dVar 3) (dCons (dVar 4) dNil))) dNil)))
def t_tree_in_size_5 (cf : CF) : DenS := dAsg (sName [] 3) (dOp (two gMod) (dCons (dVar 3) (dCons (dVar 4) dNil)))
def t_tree_in_size_6 (cf : CF) : DenS := dAsg (sName [] 6) (dC (.int 0))
def t_tree_in_size_8 (cf : CF) : DenS := dAug 3 (fun a b => a - b) (dOp (two gMul) (dCons (dOp (two gIx) (dCons (dVar 1) (dCons (dVar 6) dNil))) (dCons (dOp (two gIx) (dCons (dVar 1) (dCons (dOp (two gSub) (dCons (dOp (two gSub) (dCons (dVar 2) (dCons (dC (.int 1)) dNil))) (dCons (dVar 6) dNil))) dNil))) dNil)))
def t_tree_in_size_9 (cf : CF) : DenS := dAug 6 (fun a b => a + b) (dC (.int 1))
def b_tree_in_size_7 (cf : CF) : DenS := dSeq (t_tree_in_size_8 cf) (t_tree_in_size_9 cf)
def t_tree_in_size_7 (cf : CF) : DenS := loopW wFuel (dOp (two gGe) (dCons (dVar 3) (dCons (dOp (two gMul) (dCons (dOp (two gIx) (dCons (dVar 1) (dCons (dVar 6) dNil))) (dCons (dOp (two gIx) (dCons (dVar 1) (dCons (dOp (two gSub) (dCons (dOp (two gSub) (dCons (dVar 2) (dCons (dC (.int 1)) dNil))) (dCons (dVar 6) dNil))) dNil))) dNil))) dNil))) (b_tree_in_size_7 cf)
def t_tree_in_size_10 (cf : CF) : DenS := dAsg (sName [] 7) (dOp (two gIx) (dCons (dVar 1) (dCons (dOp (two gSub) (dCons (dOp (two gSub) (dCons (dVar 2) (dCons (dC (.int 1)) dNil))) (dCons (dVar 6) dNil))) dNil)))
def t_tree_in_size_11 (cf : CF) : DenS := dAsg (sName [] 8) (dCall0 (cf 6) (dCons (dVar 0) (dCons (dVar 1) (dCons (dVar 6) (dCons (dOp (two gDiv) (dCons (dVar 3) (dCons (dVar 7) dNil))) dNil)))))
def t_tree_in_size_12 (cf : CF) : DenS := dRet (dOp (two gAdd) (dCons (dOp (two gAdd) (dCons (dVar 5) (dCons (dVar 8) dNil))) (dCons (dCall0 (cf 6) (dCons (dVar 0) (dCons (dVar 1) (dCons (dOp (two gSub) (dCons (dOp (two gSub) (dCons (dVar 2) (dCons (dC (.int 1)) dNil))) (dCons (dVar 6) dNil))) (dCons (dOp (two gMod) (dCons (dVar 3) (dCons (dVar 7) dNil))) dNil))))) dNil)))
def den_tree_in_size (cf : CF) : DenS :=
  dSeq (t_tree_in_size_1 cf) (dSeq (t_tree_in_size_3 cf) (dSeq (t_tree_in_size_4 cf) (dSeq (t_tree_in_size_5 cf) (dSeq (t_tree_in_size_6 cf) (dSeq (t_tree_in_size_7 cf) (dSeq (t_tree_in_size_10 cf) (dSeq (t_tree_in_size_11 cf) (t_tree_in_size_12 cf))))))))
def fn_tree_in_size : FnDef := ⟨4, 9, [], den_tree_in_size⟩
def t_tree_by_number_2 (cf : CF) : DenS := dRaise 1 ["number"] (dCons (dVar 1) dNil)
def t_tree_by_number_1 (cf : CF) : DenS := dIfS (dOp (two gLt) (dCons (dVar 1) (dCons (dC (.int 0)) dNil))) (t_tree_by_number_2 cf) (dSkip)
def t_tree_by_number_3 (cf : CF) : DenS := dAsg (sName [] 2) (dC (.int 0))
def t_tree_by_number_4 (cf : CF) : DenS := dAsg (sName [] 3) (dDisp opLst (dCons (dC (.int 1)) dNil))
def t_tree_by_number_6 (cf : CF) : DenS := dAug 1 (fun a b => a - b) (dOp (two gIx) (dCons (dVar 3) (dCons (dVar 2) dNil)))
def t_tree_by_number_7 (cf : CF) : DenS := dAug 2 (fun a b => a + b) (dC (.int 1))
def t_tree_by_number_9 (cf : CF) : DenS := dRaise 2 ["number"] (dCons (dVar 2) dNil)
def t_tree_by_number_8 (cf : CF) : DenS := dIfS (dOp (two gGt) (dCons (dVar 2) (dCons (dC (.int 60)) dNil))) (t_tree_by_number_9 cf) (dSkip)
def t_tree_by_number_10 (cf : CF) : DenS := dAsg (sName [] 3) (dCall0 (cf 4) (dCons (dVar 0) (dCons (dVar 2) dNil)))
def b_tree_by_number_5 (cf : CF) : DenS := dSeq (t_tree_by_number_6 cf) (dSeq (t_tree_by_number_7 cf) (dSeq (t_tree_by_number_8 cf) (t_tree_by_number_10 cf)))
def t_tree_by_number_5 (cf : CF) : DenS := loopW wFuel (dOp (two gGe) (dCons (dVar 1) (dCons (dOp (two gIx) (dCons (dVar 3) (dCons (dVar 2) dNil))) dNil))) (b_tree_by_number_5 cf)
def t_tree_by_number_11 (cf : CF) : DenS := dRet (dCall0 (cf 6) (dCons (dVar 0) (dCons (dVar 3) (dCons (dVar 2) (dCons (dVar 1) dNil)))))
def den_tree_by_number (cf : CF) : DenS :=
  dSeq (t_tree_by_number_1 cf) (dSeq (t_tree_by_number_3 cf) (dSeq (t_tree_by_number_4 cf) (dSeq (t_tree_by_number_5 cf) (t_tree_by_number_11 cf))))
def fn_tree_by_number : FnDef := ⟨2, 4, [], den_tree_by_number⟩
def t_number_in_size_2 (cf : CF) : DenS := dRet (dC (.int 0))
def t_number_in_size_1 (cf : CF) : DenS := dIfS (dOp (two gEq) (dCons (dVar 2) (dCons (dC (.str [46])) dNil))) (t_number_in_size_2 cf) (dSkip)
def t_number_in_size_3 (cf : CF) : DenS := dAsg (sName [] 3) (dCall0 (cf 3) (dCons (dVar 2) dNil))
def t_number_in_size_4 (cf : CF) : DenS := dPar [] 6 7 (dCons (dCall0 (cf 1) (dCons (dVar 2) dNil)) (dCons (dCall0 (cf 2) (dCons (dVar 2) dNil)) dNil))
def t_number_in_size_5 (cf : CF) : DenS := dAsg (sName [] 4) (dOp (two gMul) (dCons (dOp (two gIdx) (dCons (dStr (dVar 0)) (dCons (dOp (two gIx) (dCons (dVar 2) (dCons (dC (.int 0)) dNil))) dNil))) (dCons (dOp (two gDiv) (dCons (dOp (two gIx) (dCons (dVar 1) (dCons (dVar 3) dNil))) (dCons (dOp (one gLen) (dCons (dVar 0) dNil)) dNil))) dNil)))
def t_number_in_size_7 (cf : CF) : DenS := dAug 4 (fun a b => a + b) (dOp (two gMul) (dCons (dOp (two gIx) (dCons (dVar 1) (dCons (dVar 5) dNil))) (dCons (dOp (two gIx) (dCons (dVar 1) (dCons (dOp (two gSub) (dCons (dOp (two gSub) (dCons (dVar 3) (dCons (dC (.int 1)) dNil))) (dCons (dVar 5) dNil))) dNil))) dNil)))
def b_number_in_size_6 (cf : CF) : DenS := t_number_in_size_7 cf
def t_number_in_size_6 (cf : CF) : DenS := dFor (dIt itR1 (dCons (dCall0 (cf 3) (dCons (dVar 6) dNil)) dNil)) (sName [] 5) (b_number_in_size_6 cf)
def t_number_in_size_8 (cf : CF) : DenS := dAug 4 (fun a b => a + b) (dOp (two gMul) (dCons (dCall0 (cf 8) (dCons (dVar 0) (dCons (dVar 1) (dCons (dVar 6) dNil)))) (dCons (dOp (two gIx) (dCons (dVar 1) (dCons (dCall0 (cf 3) (dCons (dVar 7) dNil)) dNil))) dNil)))
def t_number_in_size_9 (cf : CF) : DenS := dRet (dOp (two gAdd) (dCons (dVar 4) (dCons (dCall0 (cf 8) (dCons (dVar 0) (dCons (dVar 1) (dCons (dVar 7) dNil)))) dNil)))
def den_number_in_size (cf : CF) : DenS :=
  dSeq (t_number_in_size_1 cf) (dSeq (t_number_in_size_3 cf) (dSeq (t_number_in_size_4 cf) (dSeq (t_number_in_size_5 cf) (dSeq (t_number_in_size_6 cf) (dSeq (t_number_in_size_8 cf) (t_number_in_size_9 cf))))))
def fn_number_in_size : FnDef := ⟨3, 8, [], den_number_in_size⟩
def t_tree_number_1 (cf : CF) : DenS := dAsg (sName [] 2) (dCall0 (cf 3) (dCons (dVar 1) dNil))
def t_tree_number_3 (cf : CF) : DenS := dRaise 2 ["number"] (dCons (dVar 2) dNil)
def t_tree_number_2 (cf : CF) : DenS := dIfS (dOp (two gGt) (dCons (dVar 2) (dCons (dC (.int 60)) dNil))) (t_tree_number_3 cf) (dSkip)
def t_tree_number_4 (cf : CF) : DenS := dAsg (sName [] 3) (dCall0 (cf 4) (dCons (dVar 0) (dCons (dVar 2) dNil)))
def t_tree_number_5 (cf : CF) : DenS := dRet (dOp (two gAdd) (dCons (dOp (one gSum) (dCons (dOp (opSl 0) (dCons (dVar 3) (dCons (dVar 2) dNil))) dNil)) (dCons (dCall0 (cf 8) (dCons (dVar 0) (dCons (dVar 3) (dCons (dVar 1) dNil)))) dNil)))
def den_tree_number (cf : CF) : DenS :=
  dSeq (t_tree_number_1 cf) (dSeq (t_tree_number_2 cf) (dSeq (t_tree_number_4 cf) (t_tree_number_5 cf)))
def fn_tree_number : FnDef := ⟨2, 4, [], den_tree_number⟩
def t_comes_before_1 (cf : CF) : DenS := dAsg (sName [] 3) (dDisp opTup (dCons (dCall0 (cf 3) (dCons (dVar 1) dNil)) (dCons (dCall0 (cf 3) (dCons (dVar 2) dNil)) dNil)))
def t_comes_before_3 (cf : CF) : DenS := dRet (dOp (two gLt) (dCons (dOp (two gIx) (dCons (dVar 3) (dCons (dC (.int 0)) dNil))) (dCons (dOp (two gIx) (dCons (dVar 3) (dCons (dC (.int 1)) dNil))) dNil)))
def t_comes_before_2 (cf : CF) : DenS := dIfS (dOr (dOp (two gNe) (dCons (dOp (two gIx) (dCons (dVar 3) (dCons (dC (.int 0)) dNil))) (dCons (dOp (two gIx) (dCons (dVar 3) (dCons (dC (.int 1)) dNil))) dNil))) (dOp (two gEq) (dCons (dVar 1) (dCons (dVar 2) dNil)))) (t_comes_before_3 cf) (dSkip)
def t_comes_before_5 (cf : CF) : DenS := dRet (dOp (two gLt) (dCons (dOp (two gIdx) (dCons (dStr (dVar 0)) (dCons (dOp (two gIx) (dCons (dVar 1) (dCons (dC (.int 0)) dNil))) dNil))) (dCons (dOp (two gIdx) (dCons (dStr (dVar 0)) (dCons (dOp (two gIx) (dCons (dVar 2) (dCons (dC (.int 0)) dNil))) dNil))) dNil)))
def t_comes_before_4 (cf : CF) : DenS := dIfS (dOp (two gNe) (dCons (dOp (two gIx) (dCons (dVar 1) (dCons (dC (.int 0)) dNil))) (dCons (dOp (two gIx) (dCons (dVar 2) (dCons (dC (.int 0)) dNil))) dNil))) (t_comes_before_5 cf) (dSkip)
def t_comes_before_7 (cf : CF) : DenS := dRet (dCall0 (cf 10) (dCons (dVar 0) (dCons (dCall0 (cf 1) (dCons (dVar 1) dNil)) (dCons (dCall0 (cf 1) (dCons (dVar 2) dNil)) dNil))))
def t_comes_before_6 (cf : CF) : DenS := dIfS (dOp (two gNe) (dCons (dCall0 (cf 1) (dCons (dVar 1) dNil)) (dCons (dCall0 (cf 1) (dCons (dVar 2) dNil)) dNil))) (t_comes_before_7 cf) (dSkip)
def t_comes_before_8 (cf : CF) : DenS := dRet (dCall0 (cf 10) (dCons (dVar 0) (dCons (dCall0 (cf 2) (dCons (dVar 1) dNil)) (dCons (dCall0 (cf 2) (dCons (dVar 2) dNil)) dNil))))
def den_comes_before (cf : CF) : DenS :=
  dSeq (t_comes_before_1 cf) (dSeq (t_comes_before_2 cf) (dSeq (t_comes_before_4 cf) (dSeq (t_comes_before_6 cf) (t_comes_before_8 cf))))
def fn_comes_before : FnDef := ⟨3, 4, [], den_comes_before⟩
def t_law_same_2 (cf : CF) : DenS := dRet (dAnd (dOp (one (gIsi .bool)) (dCons (dVar 1) dNil)) (dAnd (dOp (one (gIsi .bool)) (dCons (dVar 0) dNil)) (dOp (two gEq) (dCons (dVar 0) (dCons (dVar 1) dNil)))))
def t_law_same_1 (cf : CF) : DenS := dIfS (dOr (dOp (one (gIsi .bool)) (dCons (dVar 1) dNil)) (dOp (one (gIsi .bool)) (dCons (dVar 0) dNil))) (t_law_same_2 cf) (dSkip)
def t_law_same_4 (cf : CF) : DenS := dRet (dAnd (dOp (two gEq) (dCons (dVar 0) (dCons (dVar 1) dNil))) (dOr (dOp (one fun a => some (.bl (isNon a))) (dCons (dVar 1) dNil)) (dOp (one (gIsi .int)) (dCons (dVar 0) dNil))))
def t_law_same_3 (cf : CF) : DenS := dIfS (dOr (dOp (one fun a => some (.bl (isNon a))) (dCons (dVar 1) dNil)) (dOp (one (gIsi .int)) (dCons (dVar 1) dNil))) (t_law_same_4 cf) (dSkip)
def t_law_same_6 (cf : CF) : DenS := dRet (dAnd (dOp (one (gIsi .str)) (dCons (dVar 0) dNil)) (dOp (two gEq) (dCons (dVar 0) (dCons (dVar 1) dNil))))
def t_law_same_5 (cf : CF) : DenS := dIfS (dOp (one (gIsi .str)) (dCons (dVar 1) dNil)) (t_law_same_6 cf) (dSkip)
def t_law_same_8 (cf : CF) : DenS := dRet (dC (.bl false))
def t_law_same_7 (cf : CF) : DenS := dIfS (dOr (dOp (two gNe) (dCons (dOp (one (gIsi .list)) (dCons (dVar 1) dNil)) (dCons (dOp (one (gIsi .list)) (dCons (dVar 0) dNil)) dNil))) (dOp (two gNe) (dCons (dOp (one (gIsi .tuple)) (dCons (dVar 1) dNil)) (dCons (dOp (one (gIsi .tuple)) (dCons (dVar 0) dNil)) dNil)))) (t_law_same_8 cf) (dSkip)
def t_law_same_10 (cf : CF) : DenS := dRet (dC (.bl false))
def t_law_same_9 (cf : CF) : DenS := dIfS (dOp (two gNe) (dCons (dOp (one gLen) (dCons (dVar 0) dNil)) (dCons (dOp (one gLen) (dCons (dVar 1) dNil)) dNil))) (t_law_same_10 cf) (dSkip)
def t_law_same_13 (cf : CF) : DenS := dRet (dC (.bl false))
def t_law_same_12 (cf : CF) : DenS := dIfS (dNot (dCall0 (cf 11) (dCons (dOp (two gIx) (dCons (dVar 0) (dCons (dVar 2) dNil))) (dCons (dOp (two gIx) (dCons (dVar 1) (dCons (dVar 2) dNil))) dNil)))) (t_law_same_13 cf) (dSkip)
def b_law_same_11 (cf : CF) : DenS := t_law_same_12 cf
def t_law_same_11 (cf : CF) : DenS := dFor (dIt itR1 (dCons (dOp (one gLen) (dCons (dVar 1) dNil)) dNil)) (sName [] 2) (b_law_same_11 cf)
def t_law_same_14 (cf : CF) : DenS := dRet (dC (.bl true))
def den_law_same (cf : CF) : DenS :=
  dSeq (t_law_same_1 cf) (dSeq (t_law_same_3 cf) (dSeq (t_law_same_5 cf) (dSeq (t_law_same_7 cf) (dSeq (t_law_same_9 cf) (dSeq (t_law_same_11 cf) (t_law_same_14 cf))))))
def fn_law_same : FnDef := ⟨2, 3, [], den_law_same⟩
def t_law_picks_1 (cf : CF) : DenS := dAsg (sName [] 3) (dIf (dOp (two gLt) (dCons (dVar 1) (dCons (dOp (one gLen) (dCons (dVar 0) dNil)) dNil))) (dOp (one gAbs) (dCons (dOp (two gIx) (dCons (dVar 0) (dCons (dVar 1) dNil))) dNil)) (dOp (two gAdd) (dCons (dOp (two gMul) (dCons (dOp (one gAbs) (dCons (dOp (one gSum) (dCons (dVar 0) dNil)) dNil)) (dCons (dC (.int 17)) dNil))) (dCons (dOp (two gMul) (dCons (dC (.int 900001)) (dCons (dOp (two gAdd) (dCons (dVar 1) (dCons (dC (.int 1)) dNil))) dNil))) dNil))))
def t_law_picks_2 (cf : CF) : DenS := dAsg (sName [] 4) (dDisp opLst (dNil))
def t_law_picks_4 (cf : CF) : DenS := dAsg (sName [] 3) (dOp (two gSub) (dCons (dVar 3) (dCons (dOp (two gPow) (dCons (dC (.int 10)) (dCons (dC (.int 18)) dNil))) dNil)))
def t_law_picks_6 (cf : CF) : DenS := dExp (dAppend 4 (dOp (two gMod) (dCons (dVar 3) (dCons (dC (.int 9240)) dNil))))
def t_law_picks_7 (cf : CF) : DenS := dAsg (sName [] 3) (dOp (two gDiv) (dCons (dVar 3) (dCons (dC (.int 9240)) dNil)))
def b_law_picks_5 (cf : CF) : DenS := dSeq (t_law_picks_6 cf) (t_law_picks_7 cf)
def t_law_picks_5 (cf : CF) : DenS := dFor (dIt itR1 (dCons (dVar 2) dNil)) (sName [] 5) (b_law_picks_5 cf)
def t_law_picks_9 (cf : CF) : DenS := dAsg (sName [] 6) (dOp (two gMod) (dCons (dOp (two gAdd) (dCons (dOp (two gAdd) (dCons (dOp (two gMul) (dCons (dVar 3) (dCons (dC (.int 2)) dNil))) (dCons (dOp (two gMul) (dCons (dC (.int 7)) (dCons (dVar 1) dNil))) dNil))) (dCons (dC (.int 3)) dNil))) (dCons (dC (.int 4294967291)) dNil)))
def t_law_picks_11 (cf : CF) : DenS := dAsg (sName [] 6) (dOp (two gMod) (dCons (dOp (two gAdd) (dCons (dOp (two gAdd) (dCons (dOp (two gMul) (dCons (dVar 6) (dCons (dC (.int 1588635695)) dNil))) (dCons (dOp (two gMul) (dCons (dC (.int 40503)) (dCons (dVar 5) dNil))) dNil))) (dCons (dC (.int 11)) dNil))) (dCons (dC (.int 4294967291)) dNil)))
def t_law_picks_12 (cf : CF) : DenS := dAsg (sName [] 7) (dOp (two gMod) (dCons (dOp (two gAdd) (dCons (dOp (two gAdd) (dCons (dOp (two gDiv) (dCons (dVar 6) (dCons (dC (.int 4096)) dNil))) (dCons (dOp (two gMul) (dCons (dVar 6) (dCons (dC (.int 31)) dNil))) dNil))) (dCons (dVar 5) dNil))) (dCons (dC (.int 4294967279)) dNil)))
def t_law_picks_13 (cf : CF) : DenS := dExp (dAppend 4 (dOp (two gMod) (dCons (dOp (two gDiv) (dCons (dVar 7) (dCons (dC (.int 16)) dNil))) (dCons (dC (.int 9240)) dNil))))
def b_law_picks_10 (cf : CF) : DenS := dSeq (t_law_picks_11 cf) (dSeq (t_law_picks_12 cf) (t_law_picks_13 cf))
def t_law_picks_10 (cf : CF) : DenS := dFor (dIt itR1 (dCons (dVar 2) dNil)) (sName [] 5) (b_law_picks_10 cf)
def t_law_picks_3 (cf : CF) : DenS := dIfS (dOp (two gGe) (dCons (dVar 3) (dCons (dOp (two gPow) (dCons (dC (.int 10)) (dCons (dC (.int 18)) dNil))) dNil))) (dSeq (t_law_picks_4 cf) (t_law_picks_5 cf)) (dSeq (t_law_picks_9 cf) (t_law_picks_10 cf))
def t_law_picks_14 (cf : CF) : DenS := dExp (dReverse 4)
def t_law_picks_15 (cf : CF) : DenS := dRet (dMove 4)
def den_law_picks (cf : CF) : DenS :=
  dSeq (t_law_picks_1 cf) (dSeq (t_law_picks_2 cf) (dSeq (t_law_picks_3 cf) (dSeq (t_law_picks_14 cf) (t_law_picks_15 cf))))
def fn_law_picks : FnDef := ⟨3, 8, [], den_law_picks⟩
def t_law_pick_2 (cf : CF) : DenS := dRet (dC (.int 0))
def t_law_pick_1 (cf : CF) : DenS := dIfS (dOp (two gEq) (dCons (dOp (one gLen) (dCons (dVar 0) dNil)) (dCons (dC (.int 0)) dNil))) (t_law_pick_2 cf) (dSkip)
def t_law_pick_3 (cf : CF) : DenS := dRet (dOp (two gMod) (dCons (dPop 0) (dCons (dVar 1) dNil)))
def den_law_pick (cf : CF) : DenS :=
  dSeq (t_law_pick_1 cf) (t_law_pick_3 cf)
def fn_law_pick : FnDef := ⟨2, 2, [0], den_law_pick⟩
def t_law_one_1 (cf : CF) : DenS := dRet (dOp (two gIx) (dCons (dVar 1) (dCons (dCallIo 0 (cf 13) (dIo 0 (dCons (dOp (one gLen) (dCons (dVar 1) dNil)) dNil))) dNil)))
def den_law_one (cf : CF) : DenS :=
  t_law_one_1 cf
def fn_law_one : FnDef := ⟨2, 2, [0], den_law_one⟩
def t_law_end_1 (cf : CF) : DenS := dAsg (sName [] 2) (dC (.int 1))
def t_law_end_3 (cf : CF) : DenS := dAsg (sName [] 2) (dIf (dOp (two gEq) (dCons (dOp (two gIx) (dCons (dVar 0) (dCons (dVar 3) dNil))) (dCons (dC (.str [46])) dNil))) (dOp (two gSub) (dCons (dVar 2) (dCons (dC (.int 1)) dNil))) (dOp (two gAdd) (dCons (dVar 2) (dCons (dC (.int 1)) dNil))))
def t_law_end_5 (cf : CF) : DenS := dRet (dOp (two gAdd) (dCons (dVar 3) (dCons (dC (.int 1)) dNil)))
def t_law_end_4 (cf : CF) : DenS := dIfS (dOp (two gEq) (dCons (dVar 2) (dCons (dC (.int 0)) dNil))) (t_law_end_5 cf) (dSkip)
def b_law_end_2 (cf : CF) : DenS := dSeq (t_law_end_3 cf) (t_law_end_4 cf)
def t_law_end_2 (cf : CF) : DenS := dFor (dIt itR2 (dCons (dVar 1) (dCons (dOp (one gLen) (dCons (dVar 0) dNil)) dNil))) (sName [] 3) (b_law_end_2 cf)
def t_law_end_6 (cf : CF) : DenS := dRet (dOp (one gLen) (dCons (dVar 0) dNil))
def den_law_end (cf : CF) : DenS :=
  dSeq (t_law_end_1 cf) (dSeq (t_law_end_2 cf) (t_law_end_6 cf))
def fn_law_end : FnDef := ⟨2, 4, [], den_law_end⟩
def t_law_left_1 (cf : CF) : DenS := dRet (dIf (dOp (two gEq) (dCons (dVar 0) (dCons (dC (.str [46])) dNil))) (dC (.str [46])) (dOp (opSl 1) (dCons (dVar 0) (dCons (dC (.int 1)) (dCons (dCall0 (cf 15) (dCons (dVar 0) (dCons (dC (.int 1)) dNil))) dNil)))))
def den_law_left (cf : CF) : DenS :=
  t_law_left_1 cf
def fn_law_left : FnDef := ⟨1, 1, [], den_law_left⟩
def t_law_right_1 (cf : CF) : DenS := dRet (dIf (dOp (two gEq) (dCons (dVar 0) (dCons (dC (.str [46])) dNil))) (dC (.str [46])) (dOp (opSl 1) (dCons (dVar 0) (dCons (dCall0 (cf 15) (dCons (dVar 0) (dCons (dC (.int 1)) dNil))) dNil))))
def den_law_right (cf : CF) : DenS :=
  t_law_right_1 cf
def fn_law_right : FnDef := ⟨1, 1, [], den_law_right⟩
def t_law_levels_1 (cf : CF) : DenS := dAsg (sName [] 2) (dDisp opLst (dCons (dDisp opLst (dCons (dC (.str [46])) dNil)) dNil))
def t_law_levels_3 (cf : CF) : DenS := dAsg (sName [] 4) (dDisp opLst (dNil))
def t_law_levels_7 (cf : CF) : DenS := dAsg (sName [] 4) (dOp (two gAdd) (dCons (dVar 4) (dCons (dComp (dIt itL (dCons (dVarIx 2 (dOp (two gSub) (dCons (dOp (two gSub) (dCons (dVar 3) (dCons (dC (.int 1)) dNil))) (dCons (dVar 6) dNil)))) dNil)) (sName (cmpl [8] 9) 8) [8] (dTrue) (dOp (two gAdd) (dCons (dOp (two gAdd) (dCons (dVar 5) (dCons (dVar 7) dNil))) (dCons (dVar 8) dNil)))) dNil)))
def b_law_levels_6 (cf : CF) : DenS := t_law_levels_7 cf
def t_law_levels_6 (cf : CF) : DenS := dFor (dIt itL (dCons (dVarIx 2 (dVar 6)) dNil)) (sName [] 7) (b_law_levels_6 cf)
def b_law_levels_5 (cf : CF) : DenS := t_law_levels_6 cf
def t_law_levels_5 (cf : CF) : DenS := dFor (dIt itR1 (dCons (dVar 3) dNil)) (sName [] 6) (b_law_levels_5 cf)
def b_law_levels_4 (cf : CF) : DenS := t_law_levels_5 cf
def t_law_levels_4 (cf : CF) : DenS := dFor (dIt itS (dCons (dVar 0) dNil)) (sName [] 5) (b_law_levels_4 cf)
def t_law_levels_8 (cf : CF) : DenS := dExp (dAppend 2 (dMove 4))
def b_law_levels_2 (cf : CF) : DenS := dSeq (t_law_levels_3 cf) (dSeq (t_law_levels_4 cf) (t_law_levels_8 cf))
def t_law_levels_2 (cf : CF) : DenS := dFor (dIt itR2 (dCons (dC (.int 1)) (dCons (dOp (two gAdd) (dCons (dVar 1) (dCons (dC (.int 1)) dNil))) dNil))) (sName [] 3) (b_law_levels_2 cf)
def t_law_levels_9 (cf : CF) : DenS := dRet (dMove 2)
def den_law_levels (cf : CF) : DenS :=
  dSeq (t_law_levels_1 cf) (dSeq (t_law_levels_2 cf) (t_law_levels_9 cf))
def fn_law_levels : FnDef := ⟨2, 9, [], den_law_levels⟩
def t_law_trees_1 (cf : CF) : DenS := dAsg (sName [] 2) (dDisp opLst (dNil))
def t_law_trees_3 (cf : CF) : DenS := dAsg (sName [] 2) (dOp (two gAdd) (dCons (dVar 2) (dCons (dVar 3) dNil)))
def b_law_trees_2 (cf : CF) : DenS := t_law_trees_3 cf
def t_law_trees_2 (cf : CF) : DenS := dFor (dIt itL (dCons (dCall0 (cf 18) (dCons (dVar 0) (dCons (dVar 1) dNil))) dNil)) (sName [] 3) (b_law_trees_2 cf)
def t_law_trees_4 (cf : CF) : DenS := dRet (dMove 2)
def den_law_trees (cf : CF) : DenS :=
  dSeq (t_law_trees_1 cf) (dSeq (t_law_trees_2 cf) (t_law_trees_4 cf))
def fn_law_trees : FnDef := ⟨2, 4, [], den_law_trees⟩
def t_law_tree_2 (cf : CF) : DenS := dRet (dC (.str [46]))
def t_law_tree_1 (cf : CF) : DenS := dIfS (dOp (two gLe) (dCons (dVar 2) (dCons (dC (.int 0)) dNil))) (t_law_tree_2 cf) (dSkip)
def t_law_tree_3 (cf : CF) : DenS := dAsg (sName [0] 3) (dCallIo 0 (cf 13) (dIo 0 (dCons (dVar 2) dNil)))
def t_law_tree_4 (cf : CF) : DenS := dAsg (sName [0] 4) (dCallIo 0 (cf 14) (dIo 0 (dCons (dVar 1) dNil)))
def t_law_tree_5 (cf : CF) : DenS := dRet (dOp (two gAdd) (dCons (dOp (two gAdd) (dCons (dVar 4) (dCons (dCallIo 0 (cf 20) (dIo 0 (dCons (dVar 1) (dCons (dVar 3) dNil)))) dNil))) (dCons (dCallIo 0 (cf 20) (dIo 0 (dCons (dVar 1) (dCons (dOp (two gSub) (dCons (dOp (two gSub) (dCons (dVar 2) (dCons (dC (.int 1)) dNil))) (dCons (dVar 3) dNil))) dNil)))) dNil)))
def den_law_tree (cf : CF) : DenS :=
  dSeq (t_law_tree_1 cf) (dSeq (t_law_tree_3 cf) (dSeq (t_law_tree_4 cf) (t_law_tree_5 cf)))
def fn_law_tree : FnDef := ⟨3, 5, [0], den_law_tree⟩
def t_law_spots_2 (cf : CF) : DenS := dRet (dDisp opLst (dCons (dDisp opTup (dCons (dC (.str [])) (dCons (dC (.str [46])) dNil))) dNil))
def t_law_spots_1 (cf : CF) : DenS := dIfS (dOp (two gEq) (dCons (dVar 0) (dCons (dC (.str [46])) dNil))) (t_law_spots_2 cf) (dSkip)
def t_law_spots_3 (cf : CF) : DenS := dAsg (sName [] 1) (dComp (dIt itL (dCons (dCall0 (cf 21) (dCons (dCall0 (cf 16) (dCons (dVar 0) dNil)) dNil)) dNil)) (sName (cmpl [2] 3) 2) [2] (dTrue) (dDisp opTup (dCons (dOp (two gAdd) (dCons (dC (.str [108])) (dCons (dOp (two gIx) (dCons (dVar 2) (dCons (dC (.int 0)) dNil))) dNil))) (dCons (dOp (two gIx) (dCons (dVar 2) (dCons (dC (.int 1)) dNil))) dNil))))
def t_law_spots_4 (cf : CF) : DenS := dRet (dOp (two gAdd) (dCons (dOp (two gAdd) (dCons (dDisp opLst (dCons (dDisp opTup (dCons (dC (.str [])) (dCons (dOp (two gIx) (dCons (dVar 0) (dCons (dC (.int 0)) dNil))) dNil))) dNil)) (dCons (dVar 1) dNil))) (dCons (dComp (dIt itL (dCons (dCall0 (cf 21) (dCons (dCall0 (cf 17) (dCons (dVar 0) dNil)) dNil)) dNil)) (sName (cmpl [2] 3) 2) [2] (dTrue) (dDisp opTup (dCons (dOp (two gAdd) (dCons (dC (.str [114])) (dCons (dOp (two gIx) (dCons (dVar 2) (dCons (dC (.int 0)) dNil))) dNil))) (dCons (dOp (two gIx) (dCons (dVar 2) (dCons (dC (.int 1)) dNil))) dNil)))) dNil)))
def den_law_spots (cf : CF) : DenS :=
  dSeq (t_law_spots_1 cf) (dSeq (t_law_spots_3 cf) (t_law_spots_4 cf))
def fn_law_spots : FnDef := ⟨1, 3, [], den_law_spots⟩
def t_law_put_2 (cf : CF) : DenS := dRet (dVar 2)
def t_law_put_1 (cf : CF) : DenS := dIfS (dOp (two gEq) (dCons (dVar 1) (dCons (dC (.str [])) dNil))) (t_law_put_2 cf) (dSkip)
def t_law_put_4 (cf : CF) : DenS := dRet (dOp (two gAdd) (dCons (dOp (two gAdd) (dCons (dOp (two gIx) (dCons (dVar 0) (dCons (dC (.int 0)) dNil))) (dCons (dCall0 (cf 22) (dCons (dCall0 (cf 16) (dCons (dVar 0) dNil)) (dCons (dOp (opSl 1) (dCons (dVar 1) (dCons (dC (.int 1)) dNil))) (dCons (dVar 2) dNil)))) dNil))) (dCons (dCall0 (cf 17) (dCons (dVar 0) dNil)) dNil)))
def t_law_put_3 (cf : CF) : DenS := dIfS (dOp (two gEq) (dCons (dOp (two gIx) (dCons (dVar 1) (dCons (dC (.int 0)) dNil))) (dCons (dC (.str [108])) dNil))) (t_law_put_4 cf) (dSkip)
def t_law_put_5 (cf : CF) : DenS := dRet (dOp (two gAdd) (dCons (dOp (two gAdd) (dCons (dOp (two gIx) (dCons (dVar 0) (dCons (dC (.int 0)) dNil))) (dCons (dCall0 (cf 16) (dCons (dVar 0) dNil)) dNil))) (dCons (dCall0 (cf 22) (dCons (dCall0 (cf 17) (dCons (dVar 0) dNil)) (dCons (dOp (opSl 1) (dCons (dVar 1) (dCons (dC (.int 1)) dNil))) (dCons (dVar 2) dNil)))) dNil)))
def den_law_put (cf : CF) : DenS :=
  dSeq (t_law_put_1 cf) (dSeq (t_law_put_3 cf) (t_law_put_5 cf))
def fn_law_put : FnDef := ⟨3, 3, [], den_law_put⟩
def t_law_told_3 (cf : CF) : DenS := dRet (dCall0 (cf 5) (dCons (dVar 0) (dCons (dVar 2) dNil)))
def t_law_told_2 (cf : CF) : DenS := dIfS (dOp (two gEq) (dCons (dVar 1) (dCons (dC (.str [108, 105, 115, 116])) dNil))) (t_law_told_3 cf) (dSkip)
def t_law_told_4 (cf : CF) : DenS := dRet (dIf (dOp (two gEq) (dCons (dVar 1) (dCons (dC (.str [110, 117, 109, 98, 101, 114])) dNil))) (dCall0 (cf 9) (dCons (dVar 0) (dCons (dVar 2) dNil))) (dCall0 (cf 7) (dCons (dVar 0) (dCons (dVar 2) dNil))))
def t_law_told_1 (cf : CF) : DenS := dTrys (dSeq (t_law_told_2 cf) (t_law_told_4 cf)) [([(0, false), (1, true), (2, false)], 3, fun e => dRet (dDisp opTup (dCons (dC (.str [98, 97, 100])) (dCons (dXf e [1] "number") (dCons (dXi e [(0, true), (1, true), (2, true)]) (dNil)))))), ([(0, false), (1, false), (2, true)], 3, fun e => dRet (dDisp opTup (dCons (dC (.str [109, 97, 110, 121])) (dCons (dXf e [2] "number") (dCons (dXi e [(0, true), (1, true), (2, true)]) (dNil))))))]
def den_law_told (cf : CF) : DenS :=
  t_law_told_1 cf
def fn_law_told : FnDef := ⟨3, 4, [], den_law_told⟩
def t_law_counts_1 (cf : CF) : DenS := dAsg (sName [] 2) (dDisp opLst (dCons (dC (.int 1)) dNil))
def t_law_counts_3 (cf : CF) : DenS := dExp (dAppend 2 (dOp (two gMul) (dCons (dOp (one gLen) (dCons (dVar 0) dNil)) (dCons (dOp (one gSum) (dCons (dComp (dIt itR1 (dCons (dVar 3) dNil)) (sName (cmpl [4] 5) 4) [4] (dTrue) (dOp (two gMul) (dCons (dOp (two gIx) (dCons (dVar 2) (dCons (dVar 4) dNil))) (dCons (dOp (two gIx) (dCons (dVar 2) (dCons (dOp (two gSub) (dCons (dOp (two gSub) (dCons (dVar 3) (dCons (dC (.int 1)) dNil))) (dCons (dVar 4) dNil))) dNil))) dNil)))) dNil)) dNil))))
def b_law_counts_2 (cf : CF) : DenS := t_law_counts_3 cf
def t_law_counts_2 (cf : CF) : DenS := dFor (dIt itR2 (dCons (dC (.int 1)) (dCons (dOp (two gAdd) (dCons (dVar 1) (dCons (dC (.int 1)) dNil))) dNil))) (sName [] 3) (b_law_counts_2 cf)
def t_law_counts_4 (cf : CF) : DenS := dRet (dMove 2)
def den_law_counts (cf : CF) : DenS :=
  dSeq (t_law_counts_1 cf) (dSeq (t_law_counts_2 cf) (t_law_counts_4 cf))
def fn_law_counts : FnDef := ⟨2, 5, [], den_law_counts⟩
def t_law_inside_2 (cf : CF) : DenS := dRet (dC (.int 0))
def t_law_inside_1 (cf : CF) : DenS := dIfS (dOp (two gEq) (dCons (dVar 2) (dCons (dC (.str [46])) dNil))) (t_law_inside_2 cf) (dSkip)
def t_law_inside_3 (cf : CF) : DenS := dPar [] 5 6 (dCons (dCall0 (cf 16) (dCons (dVar 2) dNil)) (dCons (dCall0 (cf 17) (dCons (dVar 2) dNil)) dNil))
def t_law_inside_4 (cf : CF) : DenS := dAsg (sTup (sCons (sName [] 7) (sCons (sName [] 8) (sNil)))) (dDisp opTup (dCons (dOp (two gDiv) (dCons (dOp (one gLen) (dCons (dVar 2) dNil)) (dCons (dC (.int 2)) dNil))) (dCons (dOp (two gDiv) (dCons (dOp (one gLen) (dCons (dVar 5) dNil)) (dCons (dC (.int 2)) dNil))) dNil)))
def t_law_inside_5 (cf : CF) : DenS := dAsg (sName [] 3) (dOp (two gMul) (dCons (dOp (two gIdx) (dCons (dStr (dVar 0)) (dCons (dOp (two gIx) (dCons (dVar 2) (dCons (dC (.int 0)) dNil))) dNil))) (dCons (dOp (two gDiv) (dCons (dOp (two gIx) (dCons (dVar 1) (dCons (dVar 7) dNil))) (dCons (dOp (one gLen) (dCons (dVar 0) dNil)) dNil))) dNil)))
def t_law_inside_6 (cf : CF) : DenS := dAsg (sName [] 3) (dOp (two gAdd) (dCons (dVar 3) (dCons (dOp (one gSum) (dCons (dComp (dIt itR1 (dCons (dVar 8) dNil)) (sName (cmpl [9] 10) 9) [9] (dTrue) (dOp (two gMul) (dCons (dOp (two gIx) (dCons (dVar 1) (dCons (dVar 9) dNil))) (dCons (dOp (two gIx) (dCons (dVar 1) (dCons (dOp (two gSub) (dCons (dOp (two gSub) (dCons (dVar 7) (dCons (dC (.int 1)) dNil))) (dCons (dVar 9) dNil))) dNil))) dNil)))) dNil)) dNil)))
def t_law_inside_7 (cf : CF) : DenS := dAsg (sName [] 4) (dOp (two gMul) (dCons (dCall0 (cf 25) (dCons (dVar 0) (dCons (dVar 1) (dCons (dVar 5) dNil)))) (dCons (dOp (two gIx) (dCons (dVar 1) (dCons (dOp (two gSub) (dCons (dOp (two gSub) (dCons (dVar 7) (dCons (dC (.int 1)) dNil))) (dCons (dVar 8) dNil))) dNil))) dNil)))
def t_law_inside_8 (cf : CF) : DenS := dRet (dOp (two gAdd) (dCons (dOp (two gAdd) (dCons (dVar 3) (dCons (dVar 4) dNil))) (dCons (dCall0 (cf 25) (dCons (dVar 0) (dCons (dVar 1) (dCons (dVar 6) dNil)))) dNil)))
def den_law_inside (cf : CF) : DenS :=
  dSeq (t_law_inside_1 cf) (dSeq (t_law_inside_3 cf) (dSeq (t_law_inside_4 cf) (dSeq (t_law_inside_5 cf) (dSeq (t_law_inside_6 cf) (dSeq (t_law_inside_7 cf) (t_law_inside_8 cf))))))
def fn_law_inside : FnDef := ⟨3, 10, [], den_law_inside⟩
def t_law_number_1 (cf : CF) : DenS := dRet (dOp (two gAdd) (dCons (dOp (one gSum) (dCons (dOp (opSl 0) (dCons (dVar 1) (dCons (dOp (two gDiv) (dCons (dOp (one gLen) (dCons (dVar 2) dNil)) (dCons (dC (.int 2)) dNil))) dNil))) dNil)) (dCons (dCall0 (cf 25) (dCons (dVar 0) (dCons (dVar 1) (dCons (dVar 2) dNil)))) dNil)))
def den_law_number (cf : CF) : DenS :=
  t_law_number_1 cf
def fn_law_number : FnDef := ⟨3, 3, [], den_law_number⟩
def t_law_list_due_2 (cf : CF) : DenS := dRet (dDisp opTup (dCons (dC (.str [98, 97, 100])) (dCons (dVar 1) (dCons (dC (.bl true)) dNil))))
def t_law_list_due_1 (cf : CF) : DenS := dIfS (dOp (two gLt) (dCons (dVar 1) (dCons (dC (.int 0)) dNil))) (t_law_list_due_2 cf) (dSkip)
def t_law_list_due_3 (cf : CF) : DenS := dAsg (sName [] 2) (dCall0 (cf 24) (dCons (dVar 0) (dCons (dC (.int 9)) dNil)))
def t_law_list_due_4 (cf : CF) : DenS := dAsg (sName [] 3) (dOp (two gIx) (dCons (dComp (dIt itR1 (dCons (dC (.int 10)) dNil)) (sName (cmpl [4] 5) 4) [4] (dOp (two gGt) (dCons (dOp (one gSum) (dCons (dOp (opSl 0) (dCons (dVar 2) (dCons (dOp (two gAdd) (dCons (dVar 4) (dCons (dC (.int 1)) dNil))) dNil))) dNil)) (dCons (dC (.int 5000)) dNil))) (dVar 4)) (dCons (dC (.int 0)) dNil)))
def t_law_list_due_5 (cf : CF) : DenS := dRet (dIf (dOp (two gGe) (dCons (dVar 1) (dCons (dVar 3) dNil))) (dDisp opTup (dCons (dC (.str [109, 97, 110, 121])) (dCons (dVar 3) (dCons (dC (.bl true)) dNil)))) (dCall0 (cf 19) (dCons (dVar 0) (dCons (dVar 1) dNil))))
def den_law_list_due (cf : CF) : DenS :=
  dSeq (t_law_list_due_1 cf) (dSeq (t_law_list_due_3 cf) (dSeq (t_law_list_due_4 cf) (t_law_list_due_5 cf)))
def fn_law_list_due : FnDef := ⟨2, 5, [], den_law_list_due⟩
def t_law_1 (cf : CF) : DenS := dAsg (sName [] 1) (dCall0 (cf 12) (dCons (dVar 0) (dCons (dC (.int 0)) (dCons (dC (.int 40)) dNil))))
def t_law_2 (cf : CF) : DenS := dAsg (sName [] 2) (dCall0 (cf 12) (dCons (dVar 0) (dCons (dC (.int 1)) (dCons (dC (.int 420)) dNil))))
def t_law_3 (cf : CF) : DenS := dAsg (sName [] 3) (dCallIo 0 (cf 14) (dIo 1 (dCons (dDisp opLst (dCons (dC (.str [97])) (dCons (dC (.str [98, 97])) (dCons (dC (.str [97, 98])) (dCons (dC (.str [98, 99, 97])) dNil))))) dNil)))
def t_law_4 (cf : CF) : DenS := dAsg (sName [] 4) (dIf (dOp (two gEq) (dCons (dCallIo 0 (cf 13) (dIo 1 (dCons (dC (.int 4)) dNil))) (dCons (dC (.int 3)) dNil))) (dC (.int 61)) (dC (.int 10)))
def t_law_5 (cf : CF) : DenS := dAsg (sName [] 5) (dCall0 (cf 24) (dCons (dVar 3) (dCons (dC (.int 70)) dNil)))
def t_law_6 (cf : CF) : DenS := dAsg (sName [] 6) (dComp (dIt itR1 (dCons (dC (.int 3)) dNil)) (sName (cmpl [19] 22) 19) [19] (dTrue) (dCallIo 0 (cf 20) (dIo 2 (dCons (dVar 3) (dCons (dCallIo 0 (cf 13) (dIo 1 (dCons (dVar 4) dNil))) dNil)))))
def t_law_7 (cf : CF) : DenS := dAsg (sName [] 7) (dOp (two gDiv) (dCons (dOp (one gLen) (dCons (dOp (two gIx) (dCons (dVar 6) (dCons (dC (.int 0)) dNil))) dNil)) (dCons (dC (.int 2)) dNil)))
def t_law_8 (cf : CF) : DenS := dAsg (sName [] 6) (dOp (two gAdd) (dCons (dVar 6) (dCons (dDisp opLst (dCons (dOp (two gIx) (dCons (dVar 6) (dCons (dC (.int 0)) dNil))) (dCons (dCall0 (cf 22) (dCons (dOp (two gIx) (dCons (dVar 6) (dCons (dC (.int 0)) dNil))) (dCons (dCallIo 0 (cf 14) (dIo 1 (dCons (dComp (dIt itL (dCons (dCall0 (cf 21) (dCons (dOp (two gIx) (dCons (dVar 6) (dCons (dC (.int 0)) dNil))) dNil)) dNil)) (sName (cmpl [21] 22) 21) [21] (dTrue) (dOp (two gIx) (dCons (dVar 21) (dCons (dC (.int 0)) dNil)))) dNil))) (dCons (dC (.str [46])) dNil)))) dNil))) dNil)))
def t_law_10 (cf : CF) : DenS := dExp (dAppend 6 (dOp (two gAdd) (dCons (dCallIo 0 (cf 14) (dIo 1 (dCons (dOp (one gListS) (dCons (dVar 3) dNil)) dNil))) (dCons (dOp (opSl 1) (dCons (dOp (two gIx) (dCons (dVar 6) (dCons (dC (.int 0)) dNil))) (dCons (dC (.int 1)) dNil))) dNil))))
def t_law_11 (cf : CF) : DenS := dExp (dAppend 6 (dOp (two gAdd) (dCons (dOp (two gAdd) (dCons (dOp (two gIx) (dCons (dOp (two gIx) (dCons (dVar 6) (dCons (dC (.int 0)) dNil))) (dCons (dC (.int 0)) dNil))) (dCons (dCall0 (cf 17) (dCons (dOp (two gIx) (dCons (dVar 6) (dCons (dC (.int 0)) dNil))) dNil)) dNil))) (dCons (dCall0 (cf 16) (dCons (dOp (two gIx) (dCons (dVar 6) (dCons (dC (.int 0)) dNil))) dNil)) dNil))))
def t_law_9 (cf : CF) : DenS := dIfS (dOp (two gNe) (dCons (dOp (two gIx) (dCons (dVar 6) (dCons (dC (.int 0)) dNil))) (dCons (dC (.str [46])) dNil))) (dSeq (t_law_10 cf) (t_law_11 cf)) (dSkip)
def t_law_12 (cf : CF) : DenS := dAsg (sName [] 8) (dComp (dIt itL (dCons (dVar 6) dNil)) (sName (cmpl [20] 22) 20) [20] (dTrue) (dCall0 (cf 26) (dCons (dVar 3) (dCons (dVar 5) (dCons (dVar 20) dNil)))))
def t_law_16 (cf : CF) : DenS := dRet (dC (.bl false))
def t_law_15 (cf : CF) : DenS := dIfS (dNot (dCall0 (cf 11) (dCons (dCall0 (cf 10) (dCons (dVar 3) (dCons (dOp (two gIx) (dCons (dVar 6) (dCons (dVar 9) dNil))) (dCons (dOp (two gIx) (dCons (dVar 6) (dCons (dVar 16) dNil))) dNil)))) (dCons (dOp (two gLt) (dCons (dOp (two gIx) (dCons (dVar 8) (dCons (dVar 9) dNil))) (dCons (dOp (two gIx) (dCons (dVar 8) (dCons (dVar 16) dNil))) dNil))) dNil)))) (t_law_16 cf) (dSkip)
def b_law_14 (cf : CF) : DenS := t_law_15 cf
def t_law_14 (cf : CF) : DenS := dFor (dIt itR1 (dCons (dOp (one gLen) (dCons (dVar 6) dNil)) dNil)) (sName [] 16) (b_law_14 cf)
def t_law_18 (cf : CF) : DenS := dRet (dC (.bl false))
def t_law_17 (cf : CF) : DenS := dIfS (dNot (dCall0 (cf 11) (dCons (dCall0 (cf 23) (dCons (dVar 3) (dCons (dC (.str [110, 117, 109, 98, 101, 114])) (dCons (dOp (two gIx) (dCons (dVar 6) (dCons (dVar 9) dNil))) dNil)))) (dCons (dOp (two gIx) (dCons (dVar 8) (dCons (dVar 9) dNil))) dNil)))) (t_law_18 cf) (dSkip)
def b_law_13 (cf : CF) : DenS := dSeq (t_law_14 cf) (t_law_17 cf)
def t_law_13 (cf : CF) : DenS := dFor (dIt itR1 (dCons (dOp (one gLen) (dCons (dVar 6) dNil)) dNil)) (sName [] 9) (b_law_13 cf)
def t_law_21 (cf : CF) : DenS := dRet (dC (.bl false))
def t_law_20 (cf : CF) : DenS := dIfS (dNot (dCall0 (cf 11) (dCons (dCall0 (cf 23) (dCons (dVar 3) (dCons (dC (.str [116, 114, 101, 101])) (dCons (dOp (two gIx) (dCons (dVar 8) (dCons (dVar 10) dNil))) dNil)))) (dCons (dOp (two gIx) (dCons (dVar 6) (dCons (dVar 10) dNil))) dNil)))) (t_law_21 cf) (dSkip)
def b_law_19 (cf : CF) : DenS := t_law_20 cf
def t_law_19 (cf : CF) : DenS := dFor (dIt itT (dCons (dDisp opTup (dCons (dC (.int 0)) (dCons (dC (.int 1)) dNil))) dNil)) (sName [] 10) (b_law_19 cf)
def t_law_24 (cf : CF) : DenS := dRet (dC (.bl false))
def t_law_23 (cf : CF) : DenS := dIfS (dNot (dCall0 (cf 11) (dCons (dCall0 (cf 23) (dCons (dVar 3) (dCons (dC (.str [108, 105, 115, 116])) (dCons (dVar 11) dNil)))) (dCons (dCall0 (cf 27) (dCons (dVar 3) (dCons (dVar 11) dNil))) dNil)))) (t_law_24 cf) (dSkip)
def b_law_22 (cf : CF) : DenS := t_law_23 cf
def t_law_22 (cf : CF) : DenS := dFor (dIt itL (dCons (dDisp opLst (dCons (dCallIo 0 (cf 13) (dIo 1 (dCons (dC (.int 4)) dNil))) (dCons (dOp (two gSub) (dCons (dOp (two gSub) (dCons (dC (.int 0)) (dCons (dC (.int 1)) dNil))) (dCons (dCallIo 0 (cf 13) (dIo 1 (dCons (dC (.int 3)) dNil))) dNil))) (dCons (dOp (two gAdd) (dCons (dC (.int 9)) (dCons (dCallIo 0 (cf 13) (dIo 1 (dCons (dC (.int 4)) dNil))) dNil))) (dCons (dOp (two gAdd) (dCons (dOp (two gPow) (dCons (dC (.int 10)) (dCons (dC (.int 20)) dNil))) (dCons (dVar 7) dNil))) dNil))))) dNil)) (sName [] 11) (b_law_22 cf)
def t_law_25 (cf : CF) : DenS := dAsg (sName [] 12) (dCall0 (cf 19) (dCons (dVar 3) (dCons (dIf (dOp (two gGt) (dCons (dOp (one gLen) (dCons (dVar 3) dNil)) (dCons (dC (.int 1)) dNil))) (dC (.int 3)) (dC (.int 5))) dNil)))
def t_law_26 (cf : CF) : DenS := dAsg (sName [] 13) (dCallIo 0 (cf 13) (dIo 1 (dCons (dOp (one gLen) (dCons (dVar 12) dNil)) dNil)))
def t_law_28 (cf : CF) : DenS := dRet (dC (.bl false))
def t_law_27 (cf : CF) : DenS := dIfS (dNot (dCall0 (cf 11) (dCons (dCall0 (cf 23) (dCons (dVar 3) (dCons (dC (.str [116, 114, 101, 101])) (dCons (dVar 13) dNil)))) (dCons (dOp (two gIx) (dCons (dVar 12) (dCons (dVar 13) dNil))) dNil)))) (t_law_28 cf) (dSkip)
def t_law_30 (cf : CF) : DenS := dRet (dC (.bl false))
def t_law_29 (cf : CF) : DenS := dIfS (dNot (dCall0 (cf 11) (dCons (dCall0 (cf 23) (dCons (dVar 3) (dCons (dC (.str [116, 114, 101, 101])) (dCons (dOp (two gSub) (dCons (dOp (two gSub) (dCons (dC (.int 0)) (dCons (dC (.int 1)) dNil))) (dCons (dVar 13) dNil))) dNil)))) (dCons (dDisp opTup (dCons (dC (.str [98, 97, 100])) (dCons (dOp (two gSub) (dCons (dOp (two gSub) (dCons (dC (.int 0)) (dCons (dC (.int 1)) dNil))) (dCons (dVar 13) dNil))) (dCons (dC (.bl true)) dNil)))) dNil)))) (t_law_30 cf) (dSkip)
def t_law_31 (cf : CF) : DenS := dAsg (sName [] 14) (dCallIo 0 (cf 13) (dIo 1 (dCons (dC (.int 8)) dNil)))
def t_law_33 (cf : CF) : DenS := dAsg (sName [] 17) (dOp (two gAdd) (dCons (dOp (two gMulS) (dCons (dOp (two gIx) (dCons (dVar 3) (dCons (dOp (two gSub) (dCons (dC (.int 0)) (dCons (dC (.int 1)) dNil))) dNil))) (dCons (dC (.int 60)) dNil))) (dCons (dOp (two gMulS) (dCons (dC (.str [46])) (dCons (dC (.int 61)) dNil))) dNil)))
def t_law_34 (cf : CF) : DenS := dAsg (sName [] 18) (dDisp opLst (dCons (dCall0 (cf 23) (dCons (dVar 3) (dCons (dC (.str [110, 117, 109, 98, 101, 114])) (dCons (dVar 17) dNil)))) (dCons (dCall0 (cf 23) (dCons (dVar 3) (dCons (dC (.str [116, 114, 101, 101])) (dCons (dOp (two gSub) (dCons (dOp (one gSum) (dCons (dOp (opSl 0) (dCons (dVar 5) (dCons (dC (.int 61)) dNil))) dNil)) (dCons (dC (.int 1)) dNil))) dNil)))) dNil)))
def t_law_35 (cf : CF) : DenS := dAsg (sName [] 18) (dOp (two gAdd) (dCons (dVar 18) (dCons (dDisp opLst (dCons (dCall0 (cf 23) (dCons (dVar 3) (dCons (dC (.str [116, 114, 101, 101])) (dCons (dOp (two gAdd) (dCons (dOp (one gSum) (dCons (dOp (opSl 0) (dCons (dVar 5) (dCons (dC (.int 61)) dNil))) dNil)) (dCons (dVar 13) dNil))) dNil)))) dNil)) dNil)))
def t_law_36 (cf : CF) : DenS := dRet (dCall0 (cf 11) (dCons (dVar 18) (dCons (dDisp opLst (dCons (dOp (two gSub) (dCons (dOp (one gSum) (dCons (dOp (opSl 0) (dCons (dVar 5) (dCons (dC (.int 61)) dNil))) dNil)) (dCons (dC (.int 1)) dNil))) (dCons (dVar 17) (dCons (dDisp opTup (dCons (dC (.str [109, 97, 110, 121])) (dCons (dC (.int 61)) (dCons (dC (.bl true)) dNil)))) dNil)))) dNil)))
def t_law_32 (cf : CF) : DenS := dIfS (dOp (two gEq) (dCons (dVar 14) (dCons (dC (.int 7)) dNil))) (dSeq (t_law_33 cf) (dSeq (t_law_34 cf) (dSeq (t_law_35 cf) (t_law_36 cf)))) (dSkip)
def t_law_38 (cf : CF) : DenS := dAsg (sName [] 11) (dOp (two gAdd) (dCons (dC (.int 4)) (dCons (dCallIo 0 (cf 13) (dIo 1 (dCons (dC (.int 6)) dNil))) dNil)))
def t_law_39 (cf : CF) : DenS := dRet (dCall0 (cf 11) (dCons (dCall0 (cf 23) (dCons (dVar 3) (dCons (dC (.str [108, 105, 115, 116])) (dCons (dVar 11) dNil)))) (dCons (dCall0 (cf 27) (dCons (dVar 3) (dCons (dVar 11) dNil))) dNil)))
def t_law_37 (cf : CF) : DenS := dIfS (dOp (two gEq) (dCons (dVar 14) (dCons (dC (.int 6)) dNil))) (dSeq (t_law_38 cf) (t_law_39 cf)) (dSkip)
def t_law_40 (cf : CF) : DenS := dAsg (sName [] 15) (dOp (two gAdd) (dCons (dOp (two gMulS) (dCons (dOp (two gIx) (dCons (dVar 3) (dCons (dC (.int 0)) dNil))) (dCons (dOp (two gAdd) (dCons (dC (.int 61)) (dCons (dVar 7) dNil))) dNil))) (dCons (dOp (two gMulS) (dCons (dC (.str [46])) (dCons (dOp (two gAdd) (dCons (dC (.int 62)) (dCons (dVar 7) dNil))) dNil))) dNil)))
def t_law_41 (cf : CF) : DenS := dRet (dCall0 (cf 11) (dCons (dDisp opLst (dCons (dCall0 (cf 23) (dCons (dVar 3) (dCons (dC (.str [110, 117, 109, 98, 101, 114])) (dCons (dVar 15) dNil)))) (dCons (dCall0 (cf 23) (dCons (dVar 3) (dCons (dC (.str [110, 117, 109, 98, 101, 114])) (dCons (dC (.str [46])) dNil)))) dNil))) (dCons (dDisp opLst (dCons (dDisp opTup (dCons (dC (.str [109, 97, 110, 121])) (dCons (dOp (two gAdd) (dCons (dC (.int 61)) (dCons (dVar 7) dNil))) (dCons (dC (.bl true)) dNil)))) (dCons (dC (.int 0)) dNil))) dNil)))
def den_law (cf : CF) : DenS :=
  dSeq (t_law_1 cf) (dSeq (t_law_2 cf) (dSeq (t_law_3 cf) (dSeq (t_law_4 cf) (dSeq (t_law_5 cf) (dSeq (t_law_6 cf) (dSeq (t_law_7 cf) (dSeq (t_law_8 cf) (dSeq (t_law_9 cf) (dSeq (t_law_12 cf) (dSeq (t_law_13 cf) (dSeq (t_law_19 cf) (dSeq (t_law_22 cf) (dSeq (t_law_25 cf) (dSeq (t_law_26 cf) (dSeq (t_law_27 cf) (dSeq (t_law_29 cf) (dSeq (t_law_31 cf) (dSeq (t_law_32 cf) (dSeq (t_law_37 cf) (dSeq (t_law_40 cf) (t_law_41 cf)))))))))))))))))))))
def fn_law : FnDef := ⟨1, 22, [], den_law⟩
def tbl : Nat → Option FnDef
  | 0 => some fn_right_starts
  | 1 => some fn_left_of
  | 2 => some fn_right_of
  | 3 => some fn_size_of
  | 4 => some fn_counts_of_trees
  | 5 => some fn_trees_up_to
  | 6 => some fn_tree_in_size
  | 7 => some fn_tree_by_number
  | 8 => some fn_number_in_size
  | 9 => some fn_tree_number
  | 10 => some fn_comes_before
  | 11 => some fn_law_same
  | 12 => some fn_law_picks
  | 13 => some fn_law_pick
  | 14 => some fn_law_one
  | 15 => some fn_law_end
  | 16 => some fn_law_left
  | 17 => some fn_law_right
  | 18 => some fn_law_levels
  | 19 => some fn_law_trees
  | 20 => some fn_law_tree
  | 21 => some fn_law_spots
  | 22 => some fn_law_put
  | 23 => some fn_law_told
  | 24 => some fn_law_counts
  | 25 => some fn_law_inside
  | 26 => some fn_law_number
  | 27 => some fn_law_list_due
  | 28 => some fn_law
  | _ => none
end TB
end
section
set_option Elab.async false
set_option linter.all false
set_option maxRecDepth 100000
set_option maxHeartbeats 4000000
namespace TB
open PySem PySem.Spec L2

theorem sc_right_starts : FnScope N_right_starts ["text"] (defScope s_right_starts) := ⟨rfl, rfl, rfl, by decide +kernel, rfl, by decide +kernel, by decide +kernel⟩
theorem sc_left_of : FnScope N_left_of ["tree"] (defScope s_left_of) := ⟨rfl, rfl, rfl, by decide +kernel, rfl, by decide +kernel, by decide +kernel⟩
theorem sc_right_of : FnScope N_right_of ["tree"] (defScope s_right_of) := ⟨rfl, rfl, rfl, by decide +kernel, rfl, by decide +kernel, by decide +kernel⟩
theorem sc_size_of : FnScope N_size_of ["tree"] (defScope s_size_of) := ⟨rfl, rfl, rfl, by decide +kernel, rfl, by decide +kernel, by decide +kernel⟩
theorem sc_counts_of_trees : FnScope N_counts_of_trees ["letters", "size"] (defScope s_counts_of_trees) := ⟨rfl, rfl, rfl, by decide +kernel, rfl, by decide +kernel, by decide +kernel⟩
theorem sc_trees_up_to : FnScope N_trees_up_to ["letters", "most"] (defScope s_trees_up_to) := ⟨rfl, rfl, rfl, by decide +kernel, rfl, by decide +kernel, by decide +kernel⟩
theorem sc_tree_in_size : FnScope N_tree_in_size ["letters", "counts", "size", "number"] (defScope s_tree_in_size) := ⟨rfl, rfl, rfl, by decide +kernel, rfl, by decide +kernel, by decide +kernel⟩
theorem sc_tree_by_number : FnScope N_tree_by_number ["letters", "number"] (defScope s_tree_by_number) := ⟨rfl, rfl, rfl, by decide +kernel, rfl, by decide +kernel, by decide +kernel⟩
theorem sc_number_in_size : FnScope N_number_in_size ["letters", "counts", "tree"] (defScope s_number_in_size) := ⟨rfl, rfl, rfl, by decide +kernel, rfl, by decide +kernel, by decide +kernel⟩
theorem sc_tree_number : FnScope N_tree_number ["letters", "tree"] (defScope s_tree_number) := ⟨rfl, rfl, rfl, by decide +kernel, rfl, by decide +kernel, by decide +kernel⟩
theorem sc_comes_before : FnScope N_comes_before ["letters", "first", "second"] (defScope s_comes_before) := ⟨rfl, rfl, rfl, by decide +kernel, rfl, by decide +kernel, by decide +kernel⟩
theorem sc_law_same : FnScope N_law_same ["told", "due"] (defScope s_law_same) := ⟨rfl, rfl, rfl, by decide +kernel, rfl, by decide +kernel, by decide +kernel⟩
theorem sc_law_picks : FnScope N_law_picks ["script", "k", "count"] (defScope s_law_picks) := ⟨rfl, rfl, rfl, by decide +kernel, rfl, by decide +kernel, by decide +kernel⟩
theorem sc_law_pick : FnScope N_law_pick ["picks", "many"] (defScope s_law_pick) := ⟨rfl, rfl, rfl, by decide +kernel, rfl, by decide +kernel, by decide +kernel⟩
theorem sc_law_one : FnScope N_law_one ["picks", "items"] (defScope s_law_one) := ⟨rfl, rfl, rfl, by decide +kernel, rfl, by decide +kernel, by decide +kernel⟩
theorem sc_law_end : FnScope N_law_end ["tree", "at"] (defScope s_law_end) := ⟨rfl, rfl, rfl, by decide +kernel, rfl, by decide +kernel, by decide +kernel⟩
theorem sc_law_left : FnScope N_law_left ["tree"] (defScope s_law_left) := ⟨rfl, rfl, rfl, by decide +kernel, rfl, by decide +kernel, by decide +kernel⟩
theorem sc_law_right : FnScope N_law_right ["tree"] (defScope s_law_right) := ⟨rfl, rfl, rfl, by decide +kernel, rfl, by decide +kernel, by decide +kernel⟩
theorem sc_law_levels : FnScope N_law_levels ["letters", "most"] (defScope s_law_levels) := ⟨rfl, rfl, rfl, by decide +kernel, rfl, by decide +kernel, by decide +kernel⟩
theorem sc_law_trees : FnScope N_law_trees ["letters", "most"] (defScope s_law_trees) := ⟨rfl, rfl, rfl, by decide +kernel, rfl, by decide +kernel, by decide +kernel⟩
theorem sc_law_tree : FnScope N_law_tree ["picks", "letters", "size"] (defScope s_law_tree) := ⟨rfl, rfl, rfl, by decide +kernel, rfl, by decide +kernel, by decide +kernel⟩
theorem sc_law_spots : FnScope N_law_spots ["tree"] (defScope s_law_spots) := ⟨rfl, rfl, rfl, by decide +kernel, rfl, by decide +kernel, by decide +kernel⟩
theorem sc_law_put : FnScope N_law_put ["tree", "spot", "part"] (defScope s_law_put) := ⟨rfl, rfl, rfl, by decide +kernel, rfl, by decide +kernel, by decide +kernel⟩
theorem sc_law_told : FnScope N_law_told ["letters", "kind", "value"] (defScope s_law_told) := ⟨rfl, rfl, rfl, by decide +kernel, rfl, by decide +kernel, by decide +kernel⟩
theorem sc_law_counts : FnScope N_law_counts ["letters", "most"] (defScope s_law_counts) := ⟨rfl, rfl, rfl, by decide +kernel, rfl, by decide +kernel, by decide +kernel⟩
theorem sc_law_inside : FnScope N_law_inside ["letters", "counts", "tree"] (defScope s_law_inside) := ⟨rfl, rfl, rfl, by decide +kernel, rfl, by decide +kernel, by decide +kernel⟩
theorem sc_law_number : FnScope N_law_number ["letters", "counts", "tree"] (defScope s_law_number) := ⟨rfl, rfl, rfl, by decide +kernel, rfl, by decide +kernel, by decide +kernel⟩
theorem sc_law_list_due : FnScope N_law_list_due ["letters", "most"] (defScope s_law_list_due) := ⟨rfl, rfl, rfl, by decide +kernel, rfl, by decide +kernel, by decide +kernel⟩
theorem sc_law : FnScope N_law ["script"] (defScope s_law) := ⟨rfl, rfl, rfl, by decide +kernel, rfl, by decide +kernel, by decide +kernel⟩
theorem ln_right_starts (k : Nat) : ∀ ds, callF tbl k 0 ds ≠ .no → ds.length = 1 := callF_len (F := fn_right_starts) rfl k
theorem ln_left_of (k : Nat) : ∀ ds, callF tbl k 1 ds ≠ .no → ds.length = 1 := callF_len (F := fn_left_of) rfl k
theorem ln_right_of (k : Nat) : ∀ ds, callF tbl k 2 ds ≠ .no → ds.length = 1 := callF_len (F := fn_right_of) rfl k
theorem ln_size_of (k : Nat) : ∀ ds, callF tbl k 3 ds ≠ .no → ds.length = 1 := callF_len (F := fn_size_of) rfl k
theorem ln_counts_of_trees (k : Nat) : ∀ ds, callF tbl k 4 ds ≠ .no → ds.length = 2 := callF_len (F := fn_counts_of_trees) rfl k
theorem ln_trees_up_to (k : Nat) : ∀ ds, callF tbl k 5 ds ≠ .no → ds.length = 2 := callF_len (F := fn_trees_up_to) rfl k
theorem ln_tree_in_size (k : Nat) : ∀ ds, callF tbl k 6 ds ≠ .no → ds.length = 4 := callF_len (F := fn_tree_in_size) rfl k
theorem ln_tree_by_number (k : Nat) : ∀ ds, callF tbl k 7 ds ≠ .no → ds.length = 2 := callF_len (F := fn_tree_by_number) rfl k
theorem ln_number_in_size (k : Nat) : ∀ ds, callF tbl k 8 ds ≠ .no → ds.length = 3 := callF_len (F := fn_number_in_size) rfl k
theorem ln_tree_number (k : Nat) : ∀ ds, callF tbl k 9 ds ≠ .no → ds.length = 2 := callF_len (F := fn_tree_number) rfl k
theorem ln_comes_before (k : Nat) : ∀ ds, callF tbl k 10 ds ≠ .no → ds.length = 3 := callF_len (F := fn_comes_before) rfl k
theorem ln_law_same (k : Nat) : ∀ ds, callF tbl k 11 ds ≠ .no → ds.length = 2 := callF_len (F := fn_law_same) rfl k
theorem ln_law_picks (k : Nat) : ∀ ds, callF tbl k 12 ds ≠ .no → ds.length = 3 := callF_len (F := fn_law_picks) rfl k
theorem ln_law_pick (k : Nat) : ∀ ds, callF tbl k 13 ds ≠ .no → ds.length = 2 := callF_len (F := fn_law_pick) rfl k
theorem ln_law_one (k : Nat) : ∀ ds, callF tbl k 14 ds ≠ .no → ds.length = 2 := callF_len (F := fn_law_one) rfl k
theorem ln_law_end (k : Nat) : ∀ ds, callF tbl k 15 ds ≠ .no → ds.length = 2 := callF_len (F := fn_law_end) rfl k
theorem ln_law_left (k : Nat) : ∀ ds, callF tbl k 16 ds ≠ .no → ds.length = 1 := callF_len (F := fn_law_left) rfl k
theorem ln_law_right (k : Nat) : ∀ ds, callF tbl k 17 ds ≠ .no → ds.length = 1 := callF_len (F := fn_law_right) rfl k
theorem ln_law_levels (k : Nat) : ∀ ds, callF tbl k 18 ds ≠ .no → ds.length = 2 := callF_len (F := fn_law_levels) rfl k
theorem ln_law_trees (k : Nat) : ∀ ds, callF tbl k 19 ds ≠ .no → ds.length = 2 := callF_len (F := fn_law_trees) rfl k
theorem ln_law_tree (k : Nat) : ∀ ds, callF tbl k 20 ds ≠ .no → ds.length = 3 := callF_len (F := fn_law_tree) rfl k
theorem ln_law_spots (k : Nat) : ∀ ds, callF tbl k 21 ds ≠ .no → ds.length = 1 := callF_len (F := fn_law_spots) rfl k
theorem ln_law_put (k : Nat) : ∀ ds, callF tbl k 22 ds ≠ .no → ds.length = 3 := callF_len (F := fn_law_put) rfl k
theorem ln_law_told (k : Nat) : ∀ ds, callF tbl k 23 ds ≠ .no → ds.length = 3 := callF_len (F := fn_law_told) rfl k
theorem ln_law_counts (k : Nat) : ∀ ds, callF tbl k 24 ds ≠ .no → ds.length = 2 := callF_len (F := fn_law_counts) rfl k
theorem ln_law_inside (k : Nat) : ∀ ds, callF tbl k 25 ds ≠ .no → ds.length = 3 := callF_len (F := fn_law_inside) rfl k
theorem ln_law_number (k : Nat) : ∀ ds, callF tbl k 26 ds ≠ .no → ds.length = 3 := callF_len (F := fn_law_number) rfl k
theorem ln_law_list_due (k : Nat) : ∀ ds, callF tbl k 27 ds ≠ .no → ds.length = 2 := callF_len (F := fn_law_list_due) rfl k
theorem ln_law (k : Nat) : ∀ ds, callF tbl k 28 ds ≠ .no → ds.length = 1 := callF_len (F := fn_law) rfl k
/-! ### what the defs lean on -/
structure Blt (mg : Str → Option Value) : Prop where
  abs : mg "abs" = none
  bool : mg "bool" = none
  int : mg "int" = none
  isinstance : mg "isinstance" = none
  len : mg "len" = none
  list : mg "list" = none
  range : mg "range" = none
  reversed : mg "reversed" = none
  str : mg "str" = none
  sum : mg "sum" = none
  tuple : mg "tuple" = none
  k_MOST_TREES : ∃ t, mg "MOST_TREES" = some (.int 5000 t)
def erT : TX := [(0, 0, true), (1, 0, true), (2, 0, true), (0, 1, false), (1, 1, true), (2, 1, false), (0, 2, false), (1, 2, false), (2, 2, true)]
def erF : List (Nat × Str) := [(1, "number"), (2, "number")]
structure Erk (Γ : Ctx) (P : Program) (w : World) (mg : Str → Option Value) (base : Heap) : Prop where
  x : Exs Γ 3 erT erF
  g_TreesError : mg "TreesError" = some (.ref (Γ.ce 0))
  BadNumber : ExK Γ P w mg base 1 "BadNumber" ["number"]
  g_BadNumber : mg "BadNumber" = some (.ref (Γ.ce 1))
  TooMany : ExK Γ P w mg base 2 "TooMany" ["number"]
  g_TooMany : mg "TooMany" = some (.ref (Γ.ce 2))
structure Fns (Γ : Ctx) (P : Program) (w : World) (mg : Str → Option Value) (base : Heap) (k : Nat) : Prop where
  right_starts : FnK Γ P w mg base (k + 1) "right_starts" ["text"] (spF Γ [] 1 (callF tbl k 0))
  left_of : FnK Γ P w mg base (k + 1) "left_of" ["tree"] (spF Γ [] 1 (callF tbl k 1))
  right_of : FnK Γ P w mg base (k + 1) "right_of" ["tree"] (spF Γ [] 1 (callF tbl k 2))
  size_of : FnK Γ P w mg base (k + 1) "size_of" ["tree"] (spF Γ [] 1 (callF tbl k 3))
  counts_of_trees : FnK Γ P w mg base (k + 1) "counts_of_trees" ["letters", "size"] (spF Γ [] 2 (callF tbl k 4))
  trees_up_to : FnK Γ P w mg base (k + 1) "trees_up_to" ["letters", "most"] (spF Γ [] 2 (callF tbl k 5))
  tree_in_size : FnK Γ P w mg base (k + 1) "tree_in_size" ["letters", "counts", "size", "number"] (spF Γ [] 4 (callF tbl k 6))
  tree_by_number : FnK Γ P w mg base (k + 1) "tree_by_number" ["letters", "number"] (spF Γ [] 2 (callF tbl k 7))
  number_in_size : FnK Γ P w mg base (k + 1) "number_in_size" ["letters", "counts", "tree"] (spF Γ [] 3 (callF tbl k 8))
  tree_number : FnK Γ P w mg base (k + 1) "tree_number" ["letters", "tree"] (spF Γ [] 2 (callF tbl k 9))
  comes_before : FnK Γ P w mg base (k + 1) "comes_before" ["letters", "first", "second"] (spF Γ [] 3 (callF tbl k 10))
  law_same : FnK Γ P w mg base (k + 1) "_law_same" ["told", "due"] (spF Γ [] 2 (callF tbl k 11))
  law_picks : FnK Γ P w mg base (k + 1) "_law_picks" ["script", "k", "count"] (spF Γ [] 3 (callF tbl k 12))
  law_pick : FnK Γ P w mg base (k + 1) "_law_pick" ["picks", "many"] (spF Γ [0] 2 (callF tbl k 13))
  law_one : FnK Γ P w mg base (k + 1) "_law_one" ["picks", "items"] (spF Γ [0] 2 (callF tbl k 14))
  law_end : FnK Γ P w mg base (k + 1) "_law_end" ["tree", "at"] (spF Γ [] 2 (callF tbl k 15))
  law_left : FnK Γ P w mg base (k + 1) "_law_left" ["tree"] (spF Γ [] 1 (callF tbl k 16))
  law_right : FnK Γ P w mg base (k + 1) "_law_right" ["tree"] (spF Γ [] 1 (callF tbl k 17))
  law_levels : FnK Γ P w mg base (k + 1) "_law_levels" ["letters", "most"] (spF Γ [] 2 (callF tbl k 18))
  law_trees : FnK Γ P w mg base (k + 1) "_law_trees" ["letters", "most"] (spF Γ [] 2 (callF tbl k 19))
  law_tree : FnK Γ P w mg base (k + 1) "_law_tree" ["picks", "letters", "size"] (spF Γ [0] 3 (callF tbl k 20))
  law_spots : FnK Γ P w mg base (k + 1) "_law_spots" ["tree"] (spF Γ [] 1 (callF tbl k 21))
  law_put : FnK Γ P w mg base (k + 1) "_law_put" ["tree", "spot", "part"] (spF Γ [] 3 (callF tbl k 22))
  law_told : FnK Γ P w mg base (k + 1) "_law_told" ["letters", "kind", "value"] (spF Γ [] 3 (callF tbl k 23))
  law_counts : FnK Γ P w mg base (k + 1) "_law_counts" ["letters", "most"] (spF Γ [] 2 (callF tbl k 24))
  law_inside : FnK Γ P w mg base (k + 1) "_law_inside" ["letters", "counts", "tree"] (spF Γ [] 3 (callF tbl k 25))
  law_number : FnK Γ P w mg base (k + 1) "_law_number" ["letters", "counts", "tree"] (spF Γ [] 3 (callF tbl k 26))
  law_list_due : FnK Γ P w mg base (k + 1) "_law_list_due" ["letters", "most"] (spF Γ [] 2 (callF tbl k 27))
  law : FnK Γ P w mg base (k + 1) "law" ["script"] (spF Γ [] 1 (callF tbl k 28))
section
variable {Γ : Ctx} {P : Program} {w : World} {mg : Str → Option Value} {base : Heap} {k : Nat}
theorem drv_right_starts (B : Blt mg) (R : Erk Γ P w mg base) (F : Fns Γ P w mg base k) (f : Addr) (cdv : Value) (A : Around) (outer : List PySem.Env) (s : Shared) (H : Hp) (E : XK) (hr : Room (k + 1) (A.deeper (PyProof.Rows.envOfC "right_starts" (defScope s_right_starts) s.heap.objs.size f cdv))) :
    PSs (cxOf (L2.CX P w) P w Γ.K mg base N_right_starts "right_starts" (defScope s_right_starts) f cdv A outer s H E) (defBody s_right_starts) (tS Γ (fun cls dx _ H => E cls dx H) [] (den_right_starts (callF tbl k))) := by
  have hK : (cxOf (L2.CX P w) P w Γ.K mg base N_right_starts "right_starts" (defScope s_right_starts) f cdv A outer s H E).K = Γ.K := rfl
  have hu := hr.units
  have tk : Takes (cxOf (L2.CX P w) P w Γ.K mg base N_right_starts "right_starts" (defScope s_right_starts) f cdv A outer s H E) (fun cls dx _ H => E cls dx H) := takes_of rfl rfl rfl rfl
  have pso : PassesOwn (model P w) (cxOf (L2.CX P w) P w Γ.K mg base N_right_starts "right_starts" (defScope s_right_starts) f cdv A outer s H E).A (cxOf (L2.CX P w) P w Γ.K mg base N_right_starts "right_starts" (defScope s_right_starts) f cdv A outer s H E).env (cxOf (L2.CX P w) P w Γ.K mg base N_right_starts "right_starts" (defScope s_right_starts) f cdv A outer s H E).xe := passes_of rfl
  exact ess_cons (es_set sc_right_starts.nd (ed_mul (ed_lst (ea_cons (ed_int) ea_nil)) (ed_len hK B.len (ed_var 0)))) (ess_cons (es_set sc_right_starts.nd (ed_lst (ea_nil))) (ess_cons (es_for pso rfl (ei_revR1 B.reversed B.range (ed_len hK B.len (ed_var 0))) (eg_name sc_right_starts.nd) (ess_cons (es_if (et_ne hK hu (ed_idx hK (ed_var 0) (ed_var 3)) (ed_str [46] rfl)) (ess_cons (es_if (et_lt (ed_len hK B.len (ed_var 2)) (ed_int)) (ess_one (es_ret (ed_non))) (ess_nil)) (ess_cons (es_expr (ed_pop hK)) (ess_one (es_setIx (ed_pop hK) (ed_var 3))))) (ess_nil)) (ess_one (es_expr (ed_append hK (ed_var 3)))))) (ess_one (es_ret (ed_if (et_eq hK hu (ed_len hK B.len (ed_var 2)) (ed_int)) (ed_var 1) (ed_non))))))
theorem drv_left_of (B : Blt mg) (R : Erk Γ P w mg base) (F : Fns Γ P w mg base k) (f : Addr) (cdv : Value) (A : Around) (outer : List PySem.Env) (s : Shared) (H : Hp) (E : XK) (hr : Room (k + 1) (A.deeper (PyProof.Rows.envOfC "left_of" (defScope s_left_of) s.heap.objs.size f cdv))) :
    PSs (cxOf (L2.CX P w) P w Γ.K mg base N_left_of "left_of" (defScope s_left_of) f cdv A outer s H E) (defBody s_left_of) (tS Γ (fun cls dx _ H => E cls dx H) [] (den_left_of (callF tbl k))) := by
  have hK : (cxOf (L2.CX P w) P w Γ.K mg base N_left_of "left_of" (defScope s_left_of) f cdv A outer s H E).K = Γ.K := rfl
  have hu := hr.units
  have tk : Takes (cxOf (L2.CX P w) P w Γ.K mg base N_left_of "left_of" (defScope s_left_of) f cdv A outer s H E) (fun cls dx _ H => E cls dx H) := takes_of rfl rfl rfl rfl
  have pso : PassesOwn (model P w) (cxOf (L2.CX P w) P w Γ.K mg base N_left_of "left_of" (defScope s_left_of) f cdv A outer s H E).A (cxOf (L2.CX P w) P w Γ.K mg base N_left_of "left_of" (defScope s_left_of) f cdv A outer s H E).env (cxOf (L2.CX P w) P w Γ.K mg base N_left_of "left_of" (defScope s_left_of) f cdv A outer s H E).xe := passes_of rfl
  exact ess_cons (es_if (et_eq hK hu (ed_var 0) (ed_str [46] rfl)) (ess_one (es_ret (ed_str [46] rfl))) (ess_nil)) (ess_one (es_ret (ed_sl11 hK (ed_var 0) (ed_int) (ed_idx hK (ed_call0 F.right_starts (ln_right_starts _) hK hr tk (ea_cons (ed_var 0) ea_nil)) (ed_int)))))
theorem drv_right_of (B : Blt mg) (R : Erk Γ P w mg base) (F : Fns Γ P w mg base k) (f : Addr) (cdv : Value) (A : Around) (outer : List PySem.Env) (s : Shared) (H : Hp) (E : XK) (hr : Room (k + 1) (A.deeper (PyProof.Rows.envOfC "right_of" (defScope s_right_of) s.heap.objs.size f cdv))) :
    PSs (cxOf (L2.CX P w) P w Γ.K mg base N_right_of "right_of" (defScope s_right_of) f cdv A outer s H E) (defBody s_right_of) (tS Γ (fun cls dx _ H => E cls dx H) [] (den_right_of (callF tbl k))) := by
  have hK : (cxOf (L2.CX P w) P w Γ.K mg base N_right_of "right_of" (defScope s_right_of) f cdv A outer s H E).K = Γ.K := rfl
  have hu := hr.units
  have tk : Takes (cxOf (L2.CX P w) P w Γ.K mg base N_right_of "right_of" (defScope s_right_of) f cdv A outer s H E) (fun cls dx _ H => E cls dx H) := takes_of rfl rfl rfl rfl
  have pso : PassesOwn (model P w) (cxOf (L2.CX P w) P w Γ.K mg base N_right_of "right_of" (defScope s_right_of) f cdv A outer s H E).A (cxOf (L2.CX P w) P w Γ.K mg base N_right_of "right_of" (defScope s_right_of) f cdv A outer s H E).env (cxOf (L2.CX P w) P w Γ.K mg base N_right_of "right_of" (defScope s_right_of) f cdv A outer s H E).xe := passes_of rfl
  exact ess_cons (es_if (et_eq hK hu (ed_var 0) (ed_str [46] rfl)) (ess_one (es_ret (ed_str [46] rfl))) (ess_nil)) (ess_one (es_ret (ed_sl10 hK (ed_var 0) (ed_idx hK (ed_call0 F.right_starts (ln_right_starts _) hK hr tk (ea_cons (ed_var 0) ea_nil)) (ed_int)))))
theorem drv_size_of (B : Blt mg) (R : Erk Γ P w mg base) (F : Fns Γ P w mg base k) (f : Addr) (cdv : Value) (A : Around) (outer : List PySem.Env) (s : Shared) (H : Hp) (E : XK) (hr : Room (k + 1) (A.deeper (PyProof.Rows.envOfC "size_of" (defScope s_size_of) s.heap.objs.size f cdv))) :
    PSs (cxOf (L2.CX P w) P w Γ.K mg base N_size_of "size_of" (defScope s_size_of) f cdv A outer s H E) (defBody s_size_of) (tS Γ (fun cls dx _ H => E cls dx H) [] (den_size_of (callF tbl k))) := by
  have hK : (cxOf (L2.CX P w) P w Γ.K mg base N_size_of "size_of" (defScope s_size_of) f cdv A outer s H E).K = Γ.K := rfl
  have hu := hr.units
  have tk : Takes (cxOf (L2.CX P w) P w Γ.K mg base N_size_of "size_of" (defScope s_size_of) f cdv A outer s H E) (fun cls dx _ H => E cls dx H) := takes_of rfl rfl rfl rfl
  have pso : PassesOwn (model P w) (cxOf (L2.CX P w) P w Γ.K mg base N_size_of "size_of" (defScope s_size_of) f cdv A outer s H E).A (cxOf (L2.CX P w) P w Γ.K mg base N_size_of "size_of" (defScope s_size_of) f cdv A outer s H E).env (cxOf (L2.CX P w) P w Γ.K mg base N_size_of "size_of" (defScope s_size_of) f cdv A outer s H E).xe := passes_of rfl
  exact ess_one (es_ret (ed_div (ed_len hK B.len (ed_var 0)) (ed_int)))
theorem drv_counts_of_trees (B : Blt mg) (R : Erk Γ P w mg base) (F : Fns Γ P w mg base k) (f : Addr) (cdv : Value) (A : Around) (outer : List PySem.Env) (s : Shared) (H : Hp) (E : XK) (hr : Room (k + 1) (A.deeper (PyProof.Rows.envOfC "counts_of_trees" (defScope s_counts_of_trees) s.heap.objs.size f cdv))) :
    PSs (cxOf (L2.CX P w) P w Γ.K mg base N_counts_of_trees "counts_of_trees" (defScope s_counts_of_trees) f cdv A outer s H E) (defBody s_counts_of_trees) (tS Γ (fun cls dx _ H => E cls dx H) [] (den_counts_of_trees (callF tbl k))) := by
  have hK : (cxOf (L2.CX P w) P w Γ.K mg base N_counts_of_trees "counts_of_trees" (defScope s_counts_of_trees) f cdv A outer s H E).K = Γ.K := rfl
  have hu := hr.units
  have tk : Takes (cxOf (L2.CX P w) P w Γ.K mg base N_counts_of_trees "counts_of_trees" (defScope s_counts_of_trees) f cdv A outer s H E) (fun cls dx _ H => E cls dx H) := takes_of rfl rfl rfl rfl
  have pso : PassesOwn (model P w) (cxOf (L2.CX P w) P w Γ.K mg base N_counts_of_trees "counts_of_trees" (defScope s_counts_of_trees) f cdv A outer s H E).A (cxOf (L2.CX P w) P w Γ.K mg base N_counts_of_trees "counts_of_trees" (defScope s_counts_of_trees) f cdv A outer s H E).env (cxOf (L2.CX P w) P w Γ.K mg base N_counts_of_trees "counts_of_trees" (defScope s_counts_of_trees) f cdv A outer s H E).xe := passes_of rfl
  exact ess_cons (es_set sc_counts_of_trees.nd (ed_lst (ea_cons (ed_int) ea_nil))) (ess_cons (es_for pso rfl (ei_range2 B.range (ed_int) (ed_add hK (ed_var 1) (ed_int))) (eg_name sc_counts_of_trees.nd) (ess_one (es_expr (ed_append hK (ed_mul (ed_len hK B.len (ed_var 0)) (ed_sum hK rfl B.sum (ed_comp [("left", 4)] rfl sc_counts_of_trees.nd (ei_range1 B.range (ed_var 3)) (by refine blkOk_by ?_; show blkC N_counts_of_trees (defScope s_counts_of_trees) _ _ = true; decide +kernel) (gok_name (by decide)) (fun _ _ _ _ _ => eg_name sc_counts_of_trees.nd) (fun _ _ _ _ _ => epts_nil) (fun _ _ _ _ _ => ed_mul (ed_idx hK (ed_var 2) (ed_var 4)) (ed_idx hK (ed_var 2) (ed_sub (ed_sub (ed_var 3) (ed_int)) (ed_var 4))))))))))) (ess_one (es_ret (ed_move 2))))
theorem drv_trees_up_to (B : Blt mg) (R : Erk Γ P w mg base) (F : Fns Γ P w mg base k) (f : Addr) (cdv : Value) (A : Around) (outer : List PySem.Env) (s : Shared) (H : Hp) (E : XK) (hr : Room (k + 1) (A.deeper (PyProof.Rows.envOfC "trees_up_to" (defScope s_trees_up_to) s.heap.objs.size f cdv))) :
    PSs (cxOf (L2.CX P w) P w Γ.K mg base N_trees_up_to "trees_up_to" (defScope s_trees_up_to) f cdv A outer s H E) (defBody s_trees_up_to) (tS Γ (fun cls dx _ H => E cls dx H) [] (den_trees_up_to (callF tbl k))) := by
  have hK : (cxOf (L2.CX P w) P w Γ.K mg base N_trees_up_to "trees_up_to" (defScope s_trees_up_to) f cdv A outer s H E).K = Γ.K := rfl
  have hu := hr.units
  have tk : Takes (cxOf (L2.CX P w) P w Γ.K mg base N_trees_up_to "trees_up_to" (defScope s_trees_up_to) f cdv A outer s H E) (fun cls dx _ H => E cls dx H) := takes_of rfl rfl rfl rfl
  have pso : PassesOwn (model P w) (cxOf (L2.CX P w) P w Γ.K mg base N_trees_up_to "trees_up_to" (defScope s_trees_up_to) f cdv A outer s H E).A (cxOf (L2.CX P w) P w Γ.K mg base N_trees_up_to "trees_up_to" (defScope s_trees_up_to) f cdv A outer s H E).env (cxOf (L2.CX P w) P w Γ.K mg base N_trees_up_to "trees_up_to" (defScope s_trees_up_to) f cdv A outer s H E).xe := passes_of rfl
  exact ess_cons (es_if (et_lt (ed_var 1) (ed_int)) (ess_one (es_raise R.BadNumber hK rfl (hr.mono (Nat.succ_le_succ (Nat.zero_le k))) tk (ea_cons (ed_var 1) ea_nil))) (ess_nil)) (ess_cons (es_set sc_trees_up_to.nd (ed_lst (ea_cons (ed_int) ea_nil))) (ess_cons (es_while wFuel pso (PW.pt (ew_and (et_le (ed_len hK B.len (ed_var 2)) (ed_var 1)) (ew_and1 (et_le (ed_sum hK rfl B.sum (ed_var 2)) (ed_globI B.k_MOST_TREES))))) (ess_one (es_set sc_trees_up_to.nd (ed_call0 F.counts_of_trees (ln_counts_of_trees _) hK hr tk (ea_cons (ed_var 0) (ea_cons (ed_len hK B.len (ed_var 2)) ea_nil)))))) (ess_cons (es_if (et_gt (ed_sum hK rfl B.sum (ed_var 2)) (ed_globI B.k_MOST_TREES)) (ess_one (es_raise R.TooMany hK rfl (hr.mono (Nat.succ_le_succ (Nat.zero_le k))) tk (ea_cons (ed_sub (ed_len hK B.len (ed_var 2)) (ed_int)) ea_nil))) (ess_nil)) (ess_cons (es_set sc_trees_up_to.nd (ed_lst (ea_cons (ed_lst (ea_cons (ed_str [46] rfl) ea_nil)) ea_nil))) (ess_cons (es_for pso rfl (ei_range2 B.range (ed_int) (ed_add hK (ed_var 1) (ed_int))) (eg_name sc_trees_up_to.nd) (ess_cons (es_set sc_trees_up_to.nd (ed_lst (ea_nil))) (ess_cons (es_for pso rfl (ei_str (ed_var 0)) (eg_name sc_trees_up_to.nd) (ess_one (es_for pso rfl (ei_range1 B.range (ed_var 4)) (eg_name sc_trees_up_to.nd) (ess_one (es_expr (ed_extend hK (ed_comp2 [("left", 9), ("right", 10)] [10] rfl sc_trees_up_to.nd (ei_list hK (ed_idx hK (ed_var 3) (ed_var 7))) (by refine blkOk_by ?_; show blkC N_trees_up_to (defScope s_trees_up_to) _ _ = true; decide +kernel) (by decide) (gok_name (by decide)) (gok_name (by decide)) (fun _ _ _ _ _ => eg_name sc_trees_up_to.nd) (fun _ _ _ _ _ => ei_list hK (ed_idx hK (ed_var 3) (ed_sub (ed_sub (ed_var 4) (ed_int)) (ed_var 7)))) (fun _ _ _ _ _ => eg_name sc_trees_up_to.nd) (fun _ _ _ _ _ => ed_add hK (ed_add hK (ed_var 6) (ed_var 9)) (ed_var 10))))))))) (ess_one (es_expr (ed_append hK (ed_move 5))))))) (ess_one (es_ret (ed_comp2 [("row", 5), ("tree", 8)] [8] rfl sc_trees_up_to.nd (ei_list hK (ed_var 3)) (by refine blkOk_by ?_; show blkC N_trees_up_to (defScope s_trees_up_to) _ _ = true; decide +kernel) (by decide) (gok_name (by decide)) (gok_name (by decide)) (fun _ _ _ _ _ => eg_name sc_trees_up_to.nd) (fun _ _ _ _ _ => ei_list hK (ed_var 5)) (fun _ _ _ _ _ => eg_name sc_trees_up_to.nd) (fun _ _ _ _ _ => ed_var 8)))))))))
theorem drv_tree_in_size (B : Blt mg) (R : Erk Γ P w mg base) (F : Fns Γ P w mg base k) (f : Addr) (cdv : Value) (A : Around) (outer : List PySem.Env) (s : Shared) (H : Hp) (E : XK) (hr : Room (k + 1) (A.deeper (PyProof.Rows.envOfC "tree_in_size" (defScope s_tree_in_size) s.heap.objs.size f cdv))) :
    PSs (cxOf (L2.CX P w) P w Γ.K mg base N_tree_in_size "tree_in_size" (defScope s_tree_in_size) f cdv A outer s H E) (defBody s_tree_in_size) (tS Γ (fun cls dx _ H => E cls dx H) [] (den_tree_in_size (callF tbl k))) := by
  have hK : (cxOf (L2.CX P w) P w Γ.K mg base N_tree_in_size "tree_in_size" (defScope s_tree_in_size) f cdv A outer s H E).K = Γ.K := rfl
  have hu := hr.units
  have tk : Takes (cxOf (L2.CX P w) P w Γ.K mg base N_tree_in_size "tree_in_size" (defScope s_tree_in_size) f cdv A outer s H E) (fun cls dx _ H => E cls dx H) := takes_of rfl rfl rfl rfl
  have pso : PassesOwn (model P w) (cxOf (L2.CX P w) P w Γ.K mg base N_tree_in_size "tree_in_size" (defScope s_tree_in_size) f cdv A outer s H E).A (cxOf (L2.CX P w) P w Γ.K mg base N_tree_in_size "tree_in_size" (defScope s_tree_in_size) f cdv A outer s H E).env (cxOf (L2.CX P w) P w Γ.K mg base N_tree_in_size "tree_in_size" (defScope s_tree_in_size) f cdv A outer s H E).xe := passes_of rfl
  exact ess_cons (es_if (et_eq hK hu (ed_var 2) (ed_int)) (ess_one (es_ret (ed_str [46] rfl))) (ess_nil)) (ess_cons (es_set sc_tree_in_size.nd (ed_div (ed_idx hK (ed_var 1) (ed_var 2)) (ed_len hK B.len (ed_var 0)))) (ess_cons (es_set sc_tree_in_size.nd (ed_idx hK (ed_var 0) (ed_div (ed_var 3) (ed_var 4)))) (ess_cons (es_set sc_tree_in_size.nd (ed_mod (ed_var 3) (ed_var 4))) (ess_cons (es_set sc_tree_in_size.nd (ed_int)) (ess_cons (es_while wFuel pso (et_ge (ed_var 3) (ed_mul (ed_idx hK (ed_var 1) (ed_var 6)) (ed_idx hK (ed_var 1) (ed_sub (ed_sub (ed_var 2) (ed_int)) (ed_var 6))))) (ess_cons (es_augSub sc_tree_in_size.nd (ed_mul (ed_idx hK (ed_var 1) (ed_var 6)) (ed_idx hK (ed_var 1) (ed_sub (ed_sub (ed_var 2) (ed_int)) (ed_var 6))))) (ess_one (es_augAdd sc_tree_in_size.nd (ed_int))))) (ess_cons (es_set sc_tree_in_size.nd (ed_idx hK (ed_var 1) (ed_sub (ed_sub (ed_var 2) (ed_int)) (ed_var 6)))) (ess_cons (es_set sc_tree_in_size.nd (ed_call0 F.tree_in_size (ln_tree_in_size _) hK hr tk (ea_cons (ed_var 0) (ea_cons (ed_var 1) (ea_cons (ed_var 6) (ea_cons (ed_div (ed_var 3) (ed_var 7)) ea_nil)))))) (ess_one (es_ret (ed_add hK (ed_add hK (ed_var 5) (ed_var 8)) (ed_call0 F.tree_in_size (ln_tree_in_size _) hK hr tk (ea_cons (ed_var 0) (ea_cons (ed_var 1) (ea_cons (ed_sub (ed_sub (ed_var 2) (ed_int)) (ed_var 6)) (ea_cons (ed_mod (ed_var 3) (ed_var 7)) ea_nil)))))))))))))))
theorem drv_tree_by_number (B : Blt mg) (R : Erk Γ P w mg base) (F : Fns Γ P w mg base k) (f : Addr) (cdv : Value) (A : Around) (outer : List PySem.Env) (s : Shared) (H : Hp) (E : XK) (hr : Room (k + 1) (A.deeper (PyProof.Rows.envOfC "tree_by_number" (defScope s_tree_by_number) s.heap.objs.size f cdv))) :
    PSs (cxOf (L2.CX P w) P w Γ.K mg base N_tree_by_number "tree_by_number" (defScope s_tree_by_number) f cdv A outer s H E) (defBody s_tree_by_number) (tS Γ (fun cls dx _ H => E cls dx H) [] (den_tree_by_number (callF tbl k))) := by
  have hK : (cxOf (L2.CX P w) P w Γ.K mg base N_tree_by_number "tree_by_number" (defScope s_tree_by_number) f cdv A outer s H E).K = Γ.K := rfl
  have hu := hr.units
  have tk : Takes (cxOf (L2.CX P w) P w Γ.K mg base N_tree_by_number "tree_by_number" (defScope s_tree_by_number) f cdv A outer s H E) (fun cls dx _ H => E cls dx H) := takes_of rfl rfl rfl rfl
  have pso : PassesOwn (model P w) (cxOf (L2.CX P w) P w Γ.K mg base N_tree_by_number "tree_by_number" (defScope s_tree_by_number) f cdv A outer s H E).A (cxOf (L2.CX P w) P w Γ.K mg base N_tree_by_number "tree_by_number" (defScope s_tree_by_number) f cdv A outer s H E).env (cxOf (L2.CX P w) P w Γ.K mg base N_tree_by_number "tree_by_number" (defScope s_tree_by_number) f cdv A outer s H E).xe := passes_of rfl
  exact ess_cons (es_if (et_lt (ed_var 1) (ed_int)) (ess_one (es_raise R.BadNumber hK rfl (hr.mono (Nat.succ_le_succ (Nat.zero_le k))) tk (ea_cons (ed_var 1) ea_nil))) (ess_nil)) (ess_cons (es_set sc_tree_by_number.nd (ed_int)) (ess_cons (es_set sc_tree_by_number.nd (ed_lst (ea_cons (ed_int) ea_nil))) (ess_cons (es_while wFuel pso (et_ge (ed_var 1) (ed_idx hK (ed_var 3) (ed_var 2))) (ess_cons (es_augSub sc_tree_by_number.nd (ed_idx hK (ed_var 3) (ed_var 2))) (ess_cons (es_augAdd sc_tree_by_number.nd (ed_int)) (ess_cons (es_if (et_gt (ed_var 2) (ed_int)) (ess_one (es_raise R.TooMany hK rfl (hr.mono (Nat.succ_le_succ (Nat.zero_le k))) tk (ea_cons (ed_var 2) ea_nil))) (ess_nil)) (ess_one (es_set sc_tree_by_number.nd (ed_call0 F.counts_of_trees (ln_counts_of_trees _) hK hr tk (ea_cons (ed_var 0) (ea_cons (ed_var 2) ea_nil))))))))) (ess_one (es_ret (ed_call0 F.tree_in_size (ln_tree_in_size _) hK hr tk (ea_cons (ed_var 0) (ea_cons (ed_var 3) (ea_cons (ed_var 2) (ea_cons (ed_var 1) ea_nil))))))))))
theorem drv_number_in_size (B : Blt mg) (R : Erk Γ P w mg base) (F : Fns Γ P w mg base k) (f : Addr) (cdv : Value) (A : Around) (outer : List PySem.Env) (s : Shared) (H : Hp) (E : XK) (hr : Room (k + 1) (A.deeper (PyProof.Rows.envOfC "number_in_size" (defScope s_number_in_size) s.heap.objs.size f cdv))) :
    PSs (cxOf (L2.CX P w) P w Γ.K mg base N_number_in_size "number_in_size" (defScope s_number_in_size) f cdv A outer s H E) (defBody s_number_in_size) (tS Γ (fun cls dx _ H => E cls dx H) [] (den_number_in_size (callF tbl k))) := by
  have hK : (cxOf (L2.CX P w) P w Γ.K mg base N_number_in_size "number_in_size" (defScope s_number_in_size) f cdv A outer s H E).K = Γ.K := rfl
  have hu := hr.units
  have tk : Takes (cxOf (L2.CX P w) P w Γ.K mg base N_number_in_size "number_in_size" (defScope s_number_in_size) f cdv A outer s H E) (fun cls dx _ H => E cls dx H) := takes_of rfl rfl rfl rfl
  have pso : PassesOwn (model P w) (cxOf (L2.CX P w) P w Γ.K mg base N_number_in_size "number_in_size" (defScope s_number_in_size) f cdv A outer s H E).A (cxOf (L2.CX P w) P w Γ.K mg base N_number_in_size "number_in_size" (defScope s_number_in_size) f cdv A outer s H E).env (cxOf (L2.CX P w) P w Γ.K mg base N_number_in_size "number_in_size" (defScope s_number_in_size) f cdv A outer s H E).xe := passes_of rfl
  exact ess_cons (es_if (et_eq hK hu (ed_var 2) (ed_str [46] rfl)) (ess_one (es_ret (ed_int))) (ess_nil)) (ess_cons (es_set sc_number_in_size.nd (ed_call0 F.size_of (ln_size_of _) hK hr tk (ea_cons (ed_var 2) ea_nil))) (ess_cons (es_par rfl sc_number_in_size.nd (ea_cons (ed_call0 F.left_of (ln_left_of _) hK hr tk (ea_cons (ed_var 2) ea_nil)) (ea_cons (ed_call0 F.right_of (ln_right_of _) hK hr tk (ea_cons (ed_var 2) ea_nil)) ea_nil))) (ess_cons (es_set sc_number_in_size.nd (ed_mul (ed_index rfl tk (ed_var 0) (ed_idx hK (ed_var 2) (ed_int))) (ed_div (ed_idx hK (ed_var 1) (ed_var 3)) (ed_len hK B.len (ed_var 0))))) (ess_cons (es_for pso rfl (ei_range1 B.range (ed_call0 F.size_of (ln_size_of _) hK hr tk (ea_cons (ed_var 6) ea_nil))) (eg_name sc_number_in_size.nd) (ess_one (es_augAdd sc_number_in_size.nd (ed_mul (ed_idx hK (ed_var 1) (ed_var 5)) (ed_idx hK (ed_var 1) (ed_sub (ed_sub (ed_var 3) (ed_int)) (ed_var 5))))))) (ess_cons (es_augAdd sc_number_in_size.nd (ed_mul (ed_call0 F.number_in_size (ln_number_in_size _) hK hr tk (ea_cons (ed_var 0) (ea_cons (ed_var 1) (ea_cons (ed_var 6) ea_nil)))) (ed_idx hK (ed_var 1) (ed_call0 F.size_of (ln_size_of _) hK hr tk (ea_cons (ed_var 7) ea_nil))))) (ess_one (es_ret (ed_add hK (ed_var 4) (ed_call0 F.number_in_size (ln_number_in_size _) hK hr tk (ea_cons (ed_var 0) (ea_cons (ed_var 1) (ea_cons (ed_var 7) ea_nil))))))))))))
theorem drv_tree_number (B : Blt mg) (R : Erk Γ P w mg base) (F : Fns Γ P w mg base k) (f : Addr) (cdv : Value) (A : Around) (outer : List PySem.Env) (s : Shared) (H : Hp) (E : XK) (hr : Room (k + 1) (A.deeper (PyProof.Rows.envOfC "tree_number" (defScope s_tree_number) s.heap.objs.size f cdv))) :
    PSs (cxOf (L2.CX P w) P w Γ.K mg base N_tree_number "tree_number" (defScope s_tree_number) f cdv A outer s H E) (defBody s_tree_number) (tS Γ (fun cls dx _ H => E cls dx H) [] (den_tree_number (callF tbl k))) := by
  have hK : (cxOf (L2.CX P w) P w Γ.K mg base N_tree_number "tree_number" (defScope s_tree_number) f cdv A outer s H E).K = Γ.K := rfl
  have hu := hr.units
  have tk : Takes (cxOf (L2.CX P w) P w Γ.K mg base N_tree_number "tree_number" (defScope s_tree_number) f cdv A outer s H E) (fun cls dx _ H => E cls dx H) := takes_of rfl rfl rfl rfl
  have pso : PassesOwn (model P w) (cxOf (L2.CX P w) P w Γ.K mg base N_tree_number "tree_number" (defScope s_tree_number) f cdv A outer s H E).A (cxOf (L2.CX P w) P w Γ.K mg base N_tree_number "tree_number" (defScope s_tree_number) f cdv A outer s H E).env (cxOf (L2.CX P w) P w Γ.K mg base N_tree_number "tree_number" (defScope s_tree_number) f cdv A outer s H E).xe := passes_of rfl
  exact ess_cons (es_set sc_tree_number.nd (ed_call0 F.size_of (ln_size_of _) hK hr tk (ea_cons (ed_var 1) ea_nil))) (ess_cons (es_if (et_gt (ed_var 2) (ed_int)) (ess_one (es_raise R.TooMany hK rfl (hr.mono (Nat.succ_le_succ (Nat.zero_le k))) tk (ea_cons (ed_var 2) ea_nil))) (ess_nil)) (ess_cons (es_set sc_tree_number.nd (ed_call0 F.counts_of_trees (ln_counts_of_trees _) hK hr tk (ea_cons (ed_var 0) (ea_cons (ed_var 2) ea_nil)))) (ess_one (es_ret (ed_add hK (ed_sum hK rfl B.sum (ed_sl01 hK (ed_var 3) (ed_var 2))) (ed_call0 F.number_in_size (ln_number_in_size _) hK hr tk (ea_cons (ed_var 0) (ea_cons (ed_var 3) (ea_cons (ed_var 1) ea_nil)))))))))
theorem drv_comes_before (B : Blt mg) (R : Erk Γ P w mg base) (F : Fns Γ P w mg base k) (f : Addr) (cdv : Value) (A : Around) (outer : List PySem.Env) (s : Shared) (H : Hp) (E : XK) (hr : Room (k + 1) (A.deeper (PyProof.Rows.envOfC "comes_before" (defScope s_comes_before) s.heap.objs.size f cdv))) :
    PSs (cxOf (L2.CX P w) P w Γ.K mg base N_comes_before "comes_before" (defScope s_comes_before) f cdv A outer s H E) (defBody s_comes_before) (tS Γ (fun cls dx _ H => E cls dx H) [] (den_comes_before (callF tbl k))) := by
  have hK : (cxOf (L2.CX P w) P w Γ.K mg base N_comes_before "comes_before" (defScope s_comes_before) f cdv A outer s H E).K = Γ.K := rfl
  have hu := hr.units
  have tk : Takes (cxOf (L2.CX P w) P w Γ.K mg base N_comes_before "comes_before" (defScope s_comes_before) f cdv A outer s H E) (fun cls dx _ H => E cls dx H) := takes_of rfl rfl rfl rfl
  have pso : PassesOwn (model P w) (cxOf (L2.CX P w) P w Γ.K mg base N_comes_before "comes_before" (defScope s_comes_before) f cdv A outer s H E).A (cxOf (L2.CX P w) P w Γ.K mg base N_comes_before "comes_before" (defScope s_comes_before) f cdv A outer s H E).env (cxOf (L2.CX P w) P w Γ.K mg base N_comes_before "comes_before" (defScope s_comes_before) f cdv A outer s H E).xe := passes_of rfl
  exact ess_cons (es_set sc_comes_before.nd (ed_tup (ea_cons (ed_call0 F.size_of (ln_size_of _) hK hr tk (ea_cons (ed_var 1) ea_nil)) (ea_cons (ed_call0 F.size_of (ln_size_of _) hK hr tk (ea_cons (ed_var 2) ea_nil)) ea_nil)))) (ess_cons (es_if (PW.pt (ew_or (et_ne hK hu (ed_idx hK (ed_var 3) (ed_int)) (ed_idx hK (ed_var 3) (ed_int))) (ew_or1 (et_eq hK hu (ed_var 1) (ed_var 2))))) (ess_one (es_ret (ed_lt (ed_idx hK (ed_var 3) (ed_int)) (ed_idx hK (ed_var 3) (ed_int))))) (ess_nil)) (ess_cons (es_if (et_ne hK hu (ed_idx hK (ed_var 1) (ed_int)) (ed_idx hK (ed_var 2) (ed_int))) (ess_one (es_ret (ed_lt (ed_index rfl tk (ed_var 0) (ed_idx hK (ed_var 1) (ed_int))) (ed_index rfl tk (ed_var 0) (ed_idx hK (ed_var 2) (ed_int)))))) (ess_nil)) (ess_cons (es_if (et_ne hK hu (ed_call0 F.left_of (ln_left_of _) hK hr tk (ea_cons (ed_var 1) ea_nil)) (ed_call0 F.left_of (ln_left_of _) hK hr tk (ea_cons (ed_var 2) ea_nil))) (ess_one (es_ret (ed_call0 F.comes_before (ln_comes_before _) hK hr tk (ea_cons (ed_var 0) (ea_cons (ed_call0 F.left_of (ln_left_of _) hK hr tk (ea_cons (ed_var 1) ea_nil)) (ea_cons (ed_call0 F.left_of (ln_left_of _) hK hr tk (ea_cons (ed_var 2) ea_nil)) ea_nil)))))) (ess_nil)) (ess_one (es_ret (ed_call0 F.comes_before (ln_comes_before _) hK hr tk (ea_cons (ed_var 0) (ea_cons (ed_call0 F.right_of (ln_right_of _) hK hr tk (ea_cons (ed_var 1) ea_nil)) (ea_cons (ed_call0 F.right_of (ln_right_of _) hK hr tk (ea_cons (ed_var 2) ea_nil)) ea_nil)))))))))
theorem drv_law_same (B : Blt mg) (R : Erk Γ P w mg base) (F : Fns Γ P w mg base k) (f : Addr) (cdv : Value) (A : Around) (outer : List PySem.Env) (s : Shared) (H : Hp) (E : XK) (hr : Room (k + 1) (A.deeper (PyProof.Rows.envOfC "_law_same" (defScope s_law_same) s.heap.objs.size f cdv))) :
    PSs (cxOf (L2.CX P w) P w Γ.K mg base N_law_same "_law_same" (defScope s_law_same) f cdv A outer s H E) (defBody s_law_same) (tS Γ (fun cls dx _ H => E cls dx H) [] (den_law_same (callF tbl k))) := by
  have hK : (cxOf (L2.CX P w) P w Γ.K mg base N_law_same "_law_same" (defScope s_law_same) f cdv A outer s H E).K = Γ.K := rfl
  have hu := hr.units
  have tk : Takes (cxOf (L2.CX P w) P w Γ.K mg base N_law_same "_law_same" (defScope s_law_same) f cdv A outer s H E) (fun cls dx _ H => E cls dx H) := takes_of rfl rfl rfl rfl
  have pso : PassesOwn (model P w) (cxOf (L2.CX P w) P w Γ.K mg base N_law_same "_law_same" (defScope s_law_same) f cdv A outer s H E).A (cxOf (L2.CX P w) P w Γ.K mg base N_law_same "_law_same" (defScope s_law_same) f cdv A outer s H E).env (cxOf (L2.CX P w) P w Γ.K mg base N_law_same "_law_same" (defScope s_law_same) f cdv A outer s H E).xe := passes_of rfl
  exact ess_cons (es_if (PW.pt (ew_or (et_val (ed_isi .bool rfl hK B.isinstance B.bool (by decide +kernel) (by decide) (by decide) (ed_var 1))) (ew_or1 (et_val (ed_isi .bool rfl hK B.isinstance B.bool (by decide +kernel) (by decide) (by decide) (ed_var 0)))))) (ess_one (es_ret (ed_and (ed_isi .bool rfl hK B.isinstance B.bool (by decide +kernel) (by decide) (by decide) (ed_var 1)) (ed_and (ed_isi .bool rfl hK B.isinstance B.bool (by decide +kernel) (by decide) (by decide) (ed_var 0)) (ed_one (ed_eq hK hu (ed_var 0) (ed_var 1))))))) (ess_nil)) (ess_cons (es_if (PW.pt (ew_or (et_isN (ed_var 1)) (ew_or1 (et_val (ed_isi .int rfl hK B.isinstance B.int (by decide +kernel) (by decide) (by decide) (ed_var 1)))))) (ess_one (es_ret (ed_and (ed_eq hK hu (ed_var 0) (ed_var 1)) (ed_one (ed_or (ed_isN (ed_var 1)) (ed_one (ed_isi .int rfl hK B.isinstance B.int (by decide +kernel) (by decide) (by decide) (ed_var 0)))))))) (ess_nil)) (ess_cons (es_if (et_val (ed_isi .str rfl hK B.isinstance B.str (by decide +kernel) (by decide) (by decide) (ed_var 1))) (ess_one (es_ret (ed_and (ed_isi .str rfl hK B.isinstance B.str (by decide +kernel) (by decide) (by decide) (ed_var 0)) (ed_one (ed_eq hK hu (ed_var 0) (ed_var 1)))))) (ess_nil)) (ess_cons (es_if (PW.pt (ew_or (et_ne hK hu (ed_isi .list rfl hK B.isinstance B.list (by decide +kernel) (by decide) (by decide) (ed_var 1)) (ed_isi .list rfl hK B.isinstance B.list (by decide +kernel) (by decide) (by decide) (ed_var 0))) (ew_or1 (et_ne hK hu (ed_isi .tuple rfl hK B.isinstance B.tuple (by decide +kernel) (by decide) (by decide) (ed_var 1)) (ed_isi .tuple rfl hK B.isinstance B.tuple (by decide +kernel) (by decide) (by decide) (ed_var 0)))))) (ess_one (es_ret (ed_bl))) (ess_nil)) (ess_cons (es_if (et_ne hK hu (ed_len hK B.len (ed_var 0)) (ed_len hK B.len (ed_var 1))) (ess_one (es_ret (ed_bl))) (ess_nil)) (ess_cons (es_for pso rfl (ei_range1 B.range (ed_len hK B.len (ed_var 1))) (eg_name sc_law_same.nd) (ess_one (es_if (et_not (et_val (ed_call0 F.law_same (ln_law_same _) hK hr tk (ea_cons (ed_idx hK (ed_var 0) (ed_var 2)) (ea_cons (ed_idx hK (ed_var 1) (ed_var 2)) ea_nil))))) (ess_one (es_ret (ed_bl))) (ess_nil)))) (ess_one (es_ret (ed_bl))))))))
theorem drv_law_picks (B : Blt mg) (R : Erk Γ P w mg base) (F : Fns Γ P w mg base k) (f : Addr) (cdv : Value) (A : Around) (outer : List PySem.Env) (s : Shared) (H : Hp) (E : XK) (hr : Room (k + 1) (A.deeper (PyProof.Rows.envOfC "_law_picks" (defScope s_law_picks) s.heap.objs.size f cdv))) :
    PSs (cxOf (L2.CX P w) P w Γ.K mg base N_law_picks "_law_picks" (defScope s_law_picks) f cdv A outer s H E) (defBody s_law_picks) (tS Γ (fun cls dx _ H => E cls dx H) [] (den_law_picks (callF tbl k))) := by
  have hK : (cxOf (L2.CX P w) P w Γ.K mg base N_law_picks "_law_picks" (defScope s_law_picks) f cdv A outer s H E).K = Γ.K := rfl
  have hu := hr.units
  have tk : Takes (cxOf (L2.CX P w) P w Γ.K mg base N_law_picks "_law_picks" (defScope s_law_picks) f cdv A outer s H E) (fun cls dx _ H => E cls dx H) := takes_of rfl rfl rfl rfl
  have pso : PassesOwn (model P w) (cxOf (L2.CX P w) P w Γ.K mg base N_law_picks "_law_picks" (defScope s_law_picks) f cdv A outer s H E).A (cxOf (L2.CX P w) P w Γ.K mg base N_law_picks "_law_picks" (defScope s_law_picks) f cdv A outer s H E).env (cxOf (L2.CX P w) P w Γ.K mg base N_law_picks "_law_picks" (defScope s_law_picks) f cdv A outer s H E).xe := passes_of rfl
  exact ess_cons (es_set sc_law_picks.nd (ed_if (et_lt (ed_var 1) (ed_len hK B.len (ed_var 0))) (ed_abs B.abs (ed_idx hK (ed_var 0) (ed_var 1))) (ed_add hK (ed_mul (ed_abs B.abs (ed_sum hK rfl B.sum (ed_var 0))) (ed_int)) (ed_mul (ed_int) (ed_add hK (ed_var 1) (ed_int)))))) (ess_cons (es_set sc_law_picks.nd (ed_lst (ea_nil))) (ess_cons (es_if (et_ge (ed_var 3) (ed_pow (ed_int) (ed_int))) (ess_cons (es_set sc_law_picks.nd (ed_sub (ed_var 3) (ed_pow (ed_int) (ed_int)))) (ess_one (es_for pso rfl (ei_range1 B.range (ed_var 2)) (eg_name sc_law_picks.nd) (ess_cons (es_expr (ed_append hK (ed_mod (ed_var 3) (ed_int)))) (ess_one (es_set sc_law_picks.nd (ed_div (ed_var 3) (ed_int)))))))) (ess_cons (es_set sc_law_picks.nd (ed_mod (ed_add hK (ed_add hK (ed_mul (ed_var 3) (ed_int)) (ed_mul (ed_int) (ed_var 1))) (ed_int)) (ed_int))) (ess_one (es_for pso rfl (ei_range1 B.range (ed_var 2)) (eg_name sc_law_picks.nd) (ess_cons (es_set sc_law_picks.nd (ed_mod (ed_add hK (ed_add hK (ed_mul (ed_var 6) (ed_int)) (ed_mul (ed_int) (ed_var 5))) (ed_int)) (ed_int))) (ess_cons (es_set sc_law_picks.nd (ed_mod (ed_add hK (ed_add hK (ed_div (ed_var 6) (ed_int)) (ed_mul (ed_var 6) (ed_int))) (ed_var 5)) (ed_int))) (ess_one (es_expr (ed_append hK (ed_mod (ed_div (ed_var 7) (ed_int)) (ed_int))))))))))) (ess_cons (es_expr (ed_reverse hK)) (ess_one (es_ret (ed_move 4))))))
theorem drv_law_pick (B : Blt mg) (R : Erk Γ P w mg base) (F : Fns Γ P w mg base k) (f : Addr) (cdv : Value) (A : Around) (outer : List PySem.Env) (s : Shared) (H : Hp) (E : XK) (hr : Room (k + 1) (A.deeper (PyProof.Rows.envOfC "_law_pick" (defScope s_law_pick) s.heap.objs.size f cdv))) :
    PSs (cxOf (L2.CX P w) P w Γ.K mg base N_law_pick "_law_pick" (defScope s_law_pick) f cdv A outer s H E) (defBody s_law_pick) (tS Γ (fun cls dx _ H => E cls dx H) [0] (den_law_pick (callF tbl k))) := by
  have hK : (cxOf (L2.CX P w) P w Γ.K mg base N_law_pick "_law_pick" (defScope s_law_pick) f cdv A outer s H E).K = Γ.K := rfl
  have hu := hr.units
  have tk : Takes (cxOf (L2.CX P w) P w Γ.K mg base N_law_pick "_law_pick" (defScope s_law_pick) f cdv A outer s H E) (fun cls dx _ H => E cls dx H) := takes_of rfl rfl rfl rfl
  have pso : PassesOwn (model P w) (cxOf (L2.CX P w) P w Γ.K mg base N_law_pick "_law_pick" (defScope s_law_pick) f cdv A outer s H E).A (cxOf (L2.CX P w) P w Γ.K mg base N_law_pick "_law_pick" (defScope s_law_pick) f cdv A outer s H E).env (cxOf (L2.CX P w) P w Γ.K mg base N_law_pick "_law_pick" (defScope s_law_pick) f cdv A outer s H E).xe := passes_of rfl
  exact ess_cons (es_if (et_eq hK hu (ed_len hK B.len (ed_var 0)) (ed_int)) (ess_one (es_ret (ed_int))) (ess_nil)) (ess_one (es_ret (ed_mod (ed_pop hK) (ed_var 1))))
theorem drv_law_one (B : Blt mg) (R : Erk Γ P w mg base) (F : Fns Γ P w mg base k) (f : Addr) (cdv : Value) (A : Around) (outer : List PySem.Env) (s : Shared) (H : Hp) (E : XK) (hr : Room (k + 1) (A.deeper (PyProof.Rows.envOfC "_law_one" (defScope s_law_one) s.heap.objs.size f cdv))) :
    PSs (cxOf (L2.CX P w) P w Γ.K mg base N_law_one "_law_one" (defScope s_law_one) f cdv A outer s H E) (defBody s_law_one) (tS Γ (fun cls dx _ H => E cls dx H) [0] (den_law_one (callF tbl k))) := by
  have hK : (cxOf (L2.CX P w) P w Γ.K mg base N_law_one "_law_one" (defScope s_law_one) f cdv A outer s H E).K = Γ.K := rfl
  have hu := hr.units
  have tk : Takes (cxOf (L2.CX P w) P w Γ.K mg base N_law_one "_law_one" (defScope s_law_one) f cdv A outer s H E) (fun cls dx _ H => E cls dx H) := takes_of rfl rfl rfl rfl
  have pso : PassesOwn (model P w) (cxOf (L2.CX P w) P w Γ.K mg base N_law_one "_law_one" (defScope s_law_one) f cdv A outer s H E).A (cxOf (L2.CX P w) P w Γ.K mg base N_law_one "_law_one" (defScope s_law_one) f cdv A outer s H E).env (cxOf (L2.CX P w) P w Γ.K mg base N_law_one "_law_one" (defScope s_law_one) f cdv A outer s H E).xe := passes_of rfl
  exact ess_one (es_ret (ed_idx hK (ed_var 1) (ed_callIo F.law_pick (ln_law_pick _) hK hr tk (ea_io (ea_cons (ed_len hK B.len (ed_var 1)) ea_nil)))))
theorem drv_law_end (B : Blt mg) (R : Erk Γ P w mg base) (F : Fns Γ P w mg base k) (f : Addr) (cdv : Value) (A : Around) (outer : List PySem.Env) (s : Shared) (H : Hp) (E : XK) (hr : Room (k + 1) (A.deeper (PyProof.Rows.envOfC "_law_end" (defScope s_law_end) s.heap.objs.size f cdv))) :
    PSs (cxOf (L2.CX P w) P w Γ.K mg base N_law_end "_law_end" (defScope s_law_end) f cdv A outer s H E) (defBody s_law_end) (tS Γ (fun cls dx _ H => E cls dx H) [] (den_law_end (callF tbl k))) := by
  have hK : (cxOf (L2.CX P w) P w Γ.K mg base N_law_end "_law_end" (defScope s_law_end) f cdv A outer s H E).K = Γ.K := rfl
  have hu := hr.units
  have tk : Takes (cxOf (L2.CX P w) P w Γ.K mg base N_law_end "_law_end" (defScope s_law_end) f cdv A outer s H E) (fun cls dx _ H => E cls dx H) := takes_of rfl rfl rfl rfl
  have pso : PassesOwn (model P w) (cxOf (L2.CX P w) P w Γ.K mg base N_law_end "_law_end" (defScope s_law_end) f cdv A outer s H E).A (cxOf (L2.CX P w) P w Γ.K mg base N_law_end "_law_end" (defScope s_law_end) f cdv A outer s H E).env (cxOf (L2.CX P w) P w Γ.K mg base N_law_end "_law_end" (defScope s_law_end) f cdv A outer s H E).xe := passes_of rfl
  exact ess_cons (es_set sc_law_end.nd (ed_int)) (ess_cons (es_for pso rfl (ei_range2 B.range (ed_var 1) (ed_len hK B.len (ed_var 0))) (eg_name sc_law_end.nd) (ess_cons (es_set sc_law_end.nd (ed_if (et_eq hK hu (ed_idx hK (ed_var 0) (ed_var 3)) (ed_str [46] rfl)) (ed_sub (ed_var 2) (ed_int)) (ed_add hK (ed_var 2) (ed_int)))) (ess_one (es_if (et_eq hK hu (ed_var 2) (ed_int)) (ess_one (es_ret (ed_add hK (ed_var 3) (ed_int)))) (ess_nil))))) (ess_one (es_ret (ed_len hK B.len (ed_var 0)))))
theorem drv_law_left (B : Blt mg) (R : Erk Γ P w mg base) (F : Fns Γ P w mg base k) (f : Addr) (cdv : Value) (A : Around) (outer : List PySem.Env) (s : Shared) (H : Hp) (E : XK) (hr : Room (k + 1) (A.deeper (PyProof.Rows.envOfC "_law_left" (defScope s_law_left) s.heap.objs.size f cdv))) :
    PSs (cxOf (L2.CX P w) P w Γ.K mg base N_law_left "_law_left" (defScope s_law_left) f cdv A outer s H E) (defBody s_law_left) (tS Γ (fun cls dx _ H => E cls dx H) [] (den_law_left (callF tbl k))) := by
  have hK : (cxOf (L2.CX P w) P w Γ.K mg base N_law_left "_law_left" (defScope s_law_left) f cdv A outer s H E).K = Γ.K := rfl
  have hu := hr.units
  have tk : Takes (cxOf (L2.CX P w) P w Γ.K mg base N_law_left "_law_left" (defScope s_law_left) f cdv A outer s H E) (fun cls dx _ H => E cls dx H) := takes_of rfl rfl rfl rfl
  have pso : PassesOwn (model P w) (cxOf (L2.CX P w) P w Γ.K mg base N_law_left "_law_left" (defScope s_law_left) f cdv A outer s H E).A (cxOf (L2.CX P w) P w Γ.K mg base N_law_left "_law_left" (defScope s_law_left) f cdv A outer s H E).env (cxOf (L2.CX P w) P w Γ.K mg base N_law_left "_law_left" (defScope s_law_left) f cdv A outer s H E).xe := passes_of rfl
  exact ess_one (es_ret (ed_if (et_eq hK hu (ed_var 0) (ed_str [46] rfl)) (ed_str [46] rfl) (ed_sl11 hK (ed_var 0) (ed_int) (ed_call0 F.law_end (ln_law_end _) hK hr tk (ea_cons (ed_var 0) (ea_cons (ed_int) ea_nil))))))
theorem drv_law_right (B : Blt mg) (R : Erk Γ P w mg base) (F : Fns Γ P w mg base k) (f : Addr) (cdv : Value) (A : Around) (outer : List PySem.Env) (s : Shared) (H : Hp) (E : XK) (hr : Room (k + 1) (A.deeper (PyProof.Rows.envOfC "_law_right" (defScope s_law_right) s.heap.objs.size f cdv))) :
    PSs (cxOf (L2.CX P w) P w Γ.K mg base N_law_right "_law_right" (defScope s_law_right) f cdv A outer s H E) (defBody s_law_right) (tS Γ (fun cls dx _ H => E cls dx H) [] (den_law_right (callF tbl k))) := by
  have hK : (cxOf (L2.CX P w) P w Γ.K mg base N_law_right "_law_right" (defScope s_law_right) f cdv A outer s H E).K = Γ.K := rfl
  have hu := hr.units
  have tk : Takes (cxOf (L2.CX P w) P w Γ.K mg base N_law_right "_law_right" (defScope s_law_right) f cdv A outer s H E) (fun cls dx _ H => E cls dx H) := takes_of rfl rfl rfl rfl
  have pso : PassesOwn (model P w) (cxOf (L2.CX P w) P w Γ.K mg base N_law_right "_law_right" (defScope s_law_right) f cdv A outer s H E).A (cxOf (L2.CX P w) P w Γ.K mg base N_law_right "_law_right" (defScope s_law_right) f cdv A outer s H E).env (cxOf (L2.CX P w) P w Γ.K mg base N_law_right "_law_right" (defScope s_law_right) f cdv A outer s H E).xe := passes_of rfl
  exact ess_one (es_ret (ed_if (et_eq hK hu (ed_var 0) (ed_str [46] rfl)) (ed_str [46] rfl) (ed_sl10 hK (ed_var 0) (ed_call0 F.law_end (ln_law_end _) hK hr tk (ea_cons (ed_var 0) (ea_cons (ed_int) ea_nil))))))
theorem drv_law_levels (B : Blt mg) (R : Erk Γ P w mg base) (F : Fns Γ P w mg base k) (f : Addr) (cdv : Value) (A : Around) (outer : List PySem.Env) (s : Shared) (H : Hp) (E : XK) (hr : Room (k + 1) (A.deeper (PyProof.Rows.envOfC "_law_levels" (defScope s_law_levels) s.heap.objs.size f cdv))) :
    PSs (cxOf (L2.CX P w) P w Γ.K mg base N_law_levels "_law_levels" (defScope s_law_levels) f cdv A outer s H E) (defBody s_law_levels) (tS Γ (fun cls dx _ H => E cls dx H) [] (den_law_levels (callF tbl k))) := by
  have hK : (cxOf (L2.CX P w) P w Γ.K mg base N_law_levels "_law_levels" (defScope s_law_levels) f cdv A outer s H E).K = Γ.K := rfl
  have hu := hr.units
  have tk : Takes (cxOf (L2.CX P w) P w Γ.K mg base N_law_levels "_law_levels" (defScope s_law_levels) f cdv A outer s H E) (fun cls dx _ H => E cls dx H) := takes_of rfl rfl rfl rfl
  have pso : PassesOwn (model P w) (cxOf (L2.CX P w) P w Γ.K mg base N_law_levels "_law_levels" (defScope s_law_levels) f cdv A outer s H E).A (cxOf (L2.CX P w) P w Γ.K mg base N_law_levels "_law_levels" (defScope s_law_levels) f cdv A outer s H E).env (cxOf (L2.CX P w) P w Γ.K mg base N_law_levels "_law_levels" (defScope s_law_levels) f cdv A outer s H E).xe := passes_of rfl
  exact ess_cons (es_set sc_law_levels.nd (ed_lst (ea_cons (ed_lst (ea_cons (ed_str [46] rfl) ea_nil)) ea_nil))) (ess_cons (es_for pso rfl (ei_range2 B.range (ed_int) (ed_add hK (ed_var 1) (ed_int))) (eg_name sc_law_levels.nd) (ess_cons (es_set sc_law_levels.nd (ed_lst (ea_nil))) (ess_cons (es_for pso rfl (ei_str (ed_var 0)) (eg_name sc_law_levels.nd) (ess_one (es_for pso rfl (ei_range1 B.range (ed_var 3)) (eg_name sc_law_levels.nd) (ess_one (es_for pso rfl (ei_list hK (ed_varIx 2 hK (ed_var 6))) (eg_name sc_law_levels.nd) (ess_one (es_set sc_law_levels.nd (ed_add hK (ed_var 4) (ed_comp [("right", 8)] rfl sc_law_levels.nd (ei_list hK (ed_varIx 2 hK (ed_sub (ed_sub (ed_var 3) (ed_int)) (ed_var 6)))) (by refine blkOk_by ?_; show blkC N_law_levels (defScope s_law_levels) _ _ = true; decide +kernel) (gok_name (by decide)) (fun _ _ _ _ _ => eg_name sc_law_levels.nd) (fun _ _ _ _ _ => epts_nil) (fun _ _ _ _ _ => ed_add hK (ed_add hK (ed_var 5) (ed_var 7)) (ed_var 8))))))))))) (ess_one (es_expr (ed_append hK (ed_move 4))))))) (ess_one (es_ret (ed_move 2))))
theorem drv_law_trees (B : Blt mg) (R : Erk Γ P w mg base) (F : Fns Γ P w mg base k) (f : Addr) (cdv : Value) (A : Around) (outer : List PySem.Env) (s : Shared) (H : Hp) (E : XK) (hr : Room (k + 1) (A.deeper (PyProof.Rows.envOfC "_law_trees" (defScope s_law_trees) s.heap.objs.size f cdv))) :
    PSs (cxOf (L2.CX P w) P w Γ.K mg base N_law_trees "_law_trees" (defScope s_law_trees) f cdv A outer s H E) (defBody s_law_trees) (tS Γ (fun cls dx _ H => E cls dx H) [] (den_law_trees (callF tbl k))) := by
  have hK : (cxOf (L2.CX P w) P w Γ.K mg base N_law_trees "_law_trees" (defScope s_law_trees) f cdv A outer s H E).K = Γ.K := rfl
  have hu := hr.units
  have tk : Takes (cxOf (L2.CX P w) P w Γ.K mg base N_law_trees "_law_trees" (defScope s_law_trees) f cdv A outer s H E) (fun cls dx _ H => E cls dx H) := takes_of rfl rfl rfl rfl
  have pso : PassesOwn (model P w) (cxOf (L2.CX P w) P w Γ.K mg base N_law_trees "_law_trees" (defScope s_law_trees) f cdv A outer s H E).A (cxOf (L2.CX P w) P w Γ.K mg base N_law_trees "_law_trees" (defScope s_law_trees) f cdv A outer s H E).env (cxOf (L2.CX P w) P w Γ.K mg base N_law_trees "_law_trees" (defScope s_law_trees) f cdv A outer s H E).xe := passes_of rfl
  exact ess_cons (es_set sc_law_trees.nd (ed_lst (ea_nil))) (ess_cons (es_for pso rfl (ei_list hK (ed_call0 F.law_levels (ln_law_levels _) hK hr tk (ea_cons (ed_var 0) (ea_cons (ed_var 1) ea_nil)))) (eg_name sc_law_trees.nd) (ess_one (es_set sc_law_trees.nd (ed_add hK (ed_var 2) (ed_var 3))))) (ess_one (es_ret (ed_move 2))))
theorem drv_law_tree (B : Blt mg) (R : Erk Γ P w mg base) (F : Fns Γ P w mg base k) (f : Addr) (cdv : Value) (A : Around) (outer : List PySem.Env) (s : Shared) (H : Hp) (E : XK) (hr : Room (k + 1) (A.deeper (PyProof.Rows.envOfC "_law_tree" (defScope s_law_tree) s.heap.objs.size f cdv))) :
    PSs (cxOf (L2.CX P w) P w Γ.K mg base N_law_tree "_law_tree" (defScope s_law_tree) f cdv A outer s H E) (defBody s_law_tree) (tS Γ (fun cls dx _ H => E cls dx H) [0] (den_law_tree (callF tbl k))) := by
  have hK : (cxOf (L2.CX P w) P w Γ.K mg base N_law_tree "_law_tree" (defScope s_law_tree) f cdv A outer s H E).K = Γ.K := rfl
  have hu := hr.units
  have tk : Takes (cxOf (L2.CX P w) P w Γ.K mg base N_law_tree "_law_tree" (defScope s_law_tree) f cdv A outer s H E) (fun cls dx _ H => E cls dx H) := takes_of rfl rfl rfl rfl
  have pso : PassesOwn (model P w) (cxOf (L2.CX P w) P w Γ.K mg base N_law_tree "_law_tree" (defScope s_law_tree) f cdv A outer s H E).A (cxOf (L2.CX P w) P w Γ.K mg base N_law_tree "_law_tree" (defScope s_law_tree) f cdv A outer s H E).env (cxOf (L2.CX P w) P w Γ.K mg base N_law_tree "_law_tree" (defScope s_law_tree) f cdv A outer s H E).xe := passes_of rfl
  exact ess_cons (es_if (et_le (ed_var 2) (ed_int)) (ess_one (es_ret (ed_str [46] rfl))) (ess_nil)) (ess_cons (es_set sc_law_tree.nd (ed_callIo F.law_pick (ln_law_pick _) hK hr tk (ea_io (ea_cons (ed_var 2) ea_nil)))) (ess_cons (es_set sc_law_tree.nd (ed_callIo F.law_one (ln_law_one _) hK hr tk (ea_io (ea_cons (ed_var 1) ea_nil)))) (ess_one (es_ret (ed_add hK (ed_add hK (ed_var 4) (ed_callIo F.law_tree (ln_law_tree _) hK hr tk (ea_io (ea_cons (ed_var 1) (ea_cons (ed_var 3) ea_nil))))) (ed_callIo F.law_tree (ln_law_tree _) hK hr tk (ea_io (ea_cons (ed_var 1) (ea_cons (ed_sub (ed_sub (ed_var 2) (ed_int)) (ed_var 3)) ea_nil)))))))))
theorem drv_law_spots (B : Blt mg) (R : Erk Γ P w mg base) (F : Fns Γ P w mg base k) (f : Addr) (cdv : Value) (A : Around) (outer : List PySem.Env) (s : Shared) (H : Hp) (E : XK) (hr : Room (k + 1) (A.deeper (PyProof.Rows.envOfC "_law_spots" (defScope s_law_spots) s.heap.objs.size f cdv))) :
    PSs (cxOf (L2.CX P w) P w Γ.K mg base N_law_spots "_law_spots" (defScope s_law_spots) f cdv A outer s H E) (defBody s_law_spots) (tS Γ (fun cls dx _ H => E cls dx H) [] (den_law_spots (callF tbl k))) := by
  have hK : (cxOf (L2.CX P w) P w Γ.K mg base N_law_spots "_law_spots" (defScope s_law_spots) f cdv A outer s H E).K = Γ.K := rfl
  have hu := hr.units
  have tk : Takes (cxOf (L2.CX P w) P w Γ.K mg base N_law_spots "_law_spots" (defScope s_law_spots) f cdv A outer s H E) (fun cls dx _ H => E cls dx H) := takes_of rfl rfl rfl rfl
  have pso : PassesOwn (model P w) (cxOf (L2.CX P w) P w Γ.K mg base N_law_spots "_law_spots" (defScope s_law_spots) f cdv A outer s H E).A (cxOf (L2.CX P w) P w Γ.K mg base N_law_spots "_law_spots" (defScope s_law_spots) f cdv A outer s H E).env (cxOf (L2.CX P w) P w Γ.K mg base N_law_spots "_law_spots" (defScope s_law_spots) f cdv A outer s H E).xe := passes_of rfl
  exact ess_cons (es_if (et_eq hK hu (ed_var 0) (ed_str [46] rfl)) (ess_one (es_ret (ed_lst (ea_cons (ed_tup (ea_cons (ed_str [] rfl) (ea_cons (ed_str [46] rfl) ea_nil))) ea_nil)))) (ess_nil)) (ess_cons (es_setComp [("pair", 2)] rfl sc_law_spots.nd (ei_list hK (ed_call0 F.law_spots (ln_law_spots _) hK hr tk (ea_cons (ed_call0 F.law_left (ln_law_left _) hK hr tk (ea_cons (ed_var 0) ea_nil)) ea_nil))) (by refine blkOk_by ?_; show blkC N_law_spots (defScope s_law_spots) _ _ = true; decide +kernel) (gok_name (by decide)) (fun _ _ _ _ _ => eg_name sc_law_spots.nd) (fun _ _ _ _ _ => epts_nil) (fun _ _ _ _ _ => ed_tup (ea_cons (ed_add hK (ed_str [108] rfl) (ed_idx hK (ed_var 2) (ed_int))) (ea_cons (ed_idx hK (ed_var 2) (ed_int)) ea_nil)))) (ess_one (es_ret (ed_add hK (ed_add hK (ed_lst (ea_cons (ed_tup (ea_cons (ed_str [] rfl) (ea_cons (ed_idx hK (ed_var 0) (ed_int)) ea_nil))) ea_nil)) (ed_var 1)) (ed_comp [("pair", 2)] rfl sc_law_spots.nd (ei_list hK (ed_call0 F.law_spots (ln_law_spots _) hK hr tk (ea_cons (ed_call0 F.law_right (ln_law_right _) hK hr tk (ea_cons (ed_var 0) ea_nil)) ea_nil))) (by refine blkOk_by ?_; show blkC N_law_spots (defScope s_law_spots) _ _ = true; decide +kernel) (gok_name (by decide)) (fun _ _ _ _ _ => eg_name sc_law_spots.nd) (fun _ _ _ _ _ => epts_nil) (fun _ _ _ _ _ => ed_tup (ea_cons (ed_add hK (ed_str [114] rfl) (ed_idx hK (ed_var 2) (ed_int))) (ea_cons (ed_idx hK (ed_var 2) (ed_int)) ea_nil))))))))
theorem drv_law_put (B : Blt mg) (R : Erk Γ P w mg base) (F : Fns Γ P w mg base k) (f : Addr) (cdv : Value) (A : Around) (outer : List PySem.Env) (s : Shared) (H : Hp) (E : XK) (hr : Room (k + 1) (A.deeper (PyProof.Rows.envOfC "_law_put" (defScope s_law_put) s.heap.objs.size f cdv))) :
    PSs (cxOf (L2.CX P w) P w Γ.K mg base N_law_put "_law_put" (defScope s_law_put) f cdv A outer s H E) (defBody s_law_put) (tS Γ (fun cls dx _ H => E cls dx H) [] (den_law_put (callF tbl k))) := by
  have hK : (cxOf (L2.CX P w) P w Γ.K mg base N_law_put "_law_put" (defScope s_law_put) f cdv A outer s H E).K = Γ.K := rfl
  have hu := hr.units
  have tk : Takes (cxOf (L2.CX P w) P w Γ.K mg base N_law_put "_law_put" (defScope s_law_put) f cdv A outer s H E) (fun cls dx _ H => E cls dx H) := takes_of rfl rfl rfl rfl
  have pso : PassesOwn (model P w) (cxOf (L2.CX P w) P w Γ.K mg base N_law_put "_law_put" (defScope s_law_put) f cdv A outer s H E).A (cxOf (L2.CX P w) P w Γ.K mg base N_law_put "_law_put" (defScope s_law_put) f cdv A outer s H E).env (cxOf (L2.CX P w) P w Γ.K mg base N_law_put "_law_put" (defScope s_law_put) f cdv A outer s H E).xe := passes_of rfl
  exact ess_cons (es_if (et_eq hK hu (ed_var 1) (ed_str [] rfl)) (ess_one (es_ret (ed_var 2))) (ess_nil)) (ess_cons (es_if (et_eq hK hu (ed_idx hK (ed_var 1) (ed_int)) (ed_str [108] rfl)) (ess_one (es_ret (ed_add hK (ed_add hK (ed_idx hK (ed_var 0) (ed_int)) (ed_call0 F.law_put (ln_law_put _) hK hr tk (ea_cons (ed_call0 F.law_left (ln_law_left _) hK hr tk (ea_cons (ed_var 0) ea_nil)) (ea_cons (ed_sl10 hK (ed_var 1) (ed_int)) (ea_cons (ed_var 2) ea_nil))))) (ed_call0 F.law_right (ln_law_right _) hK hr tk (ea_cons (ed_var 0) ea_nil))))) (ess_nil)) (ess_one (es_ret (ed_add hK (ed_add hK (ed_idx hK (ed_var 0) (ed_int)) (ed_call0 F.law_left (ln_law_left _) hK hr tk (ea_cons (ed_var 0) ea_nil))) (ed_call0 F.law_put (ln_law_put _) hK hr tk (ea_cons (ed_call0 F.law_right (ln_law_right _) hK hr tk (ea_cons (ed_var 0) ea_nil)) (ea_cons (ed_sl10 hK (ed_var 1) (ed_int)) (ea_cons (ed_var 2) ea_nil))))))))
theorem drv_law_told (B : Blt mg) (R : Erk Γ P w mg base) (F : Fns Γ P w mg base k) (f : Addr) (cdv : Value) (A : Around) (outer : List PySem.Env) (s : Shared) (H : Hp) (E : XK) (hr : Room (k + 1) (A.deeper (PyProof.Rows.envOfC "_law_told" (defScope s_law_told) s.heap.objs.size f cdv))) :
    PSs (cxOf (L2.CX P w) P w Γ.K mg base N_law_told "_law_told" (defScope s_law_told) f cdv A outer s H E) (defBody s_law_told) (tS Γ (fun cls dx _ H => E cls dx H) [] (den_law_told (callF tbl k))) := by
  have hK : (cxOf (L2.CX P w) P w Γ.K mg base N_law_told "_law_told" (defScope s_law_told) f cdv A outer s H E).K = Γ.K := rfl
  have hu := hr.units
  have tk : Takes (cxOf (L2.CX P w) P w Γ.K mg base N_law_told "_law_told" (defScope s_law_told) f cdv A outer s H E) (fun cls dx _ H => E cls dx H) := takes_of rfl rfl rfl rfl
  have pso : PassesOwn (model P w) (cxOf (L2.CX P w) P w Γ.K mg base N_law_told "_law_told" (defScope s_law_told) f cdv A outer s H E).A (cxOf (L2.CX P w) P w Γ.K mg base N_law_told "_law_told" (defScope s_law_told) f cdv A outer s H E).env (cxOf (L2.CX P w) P w Γ.K mg base N_law_told "_law_told" (defScope s_law_told) f cdv A outer s H E).xe := passes_of rfl
  exact ess_one (es_trys hK rfl rfl sc_law_told.nd tk (.cons (by decide) (lk_all fun q m => R.x.xm q.1 1 q.2 ((by decide : ∀ q ∈ ([(0, false), (1, true), (2, false)] : List (Nat × Bool)), (q.1, 1, q.2) ∈ erT) q m)) (.cons (by decide) (lk_all fun q m => R.x.xm q.1 2 q.2 ((by decide : ∀ q ∈ ([(0, false), (1, false), (2, true)] : List (Nat × Bool)), (q.1, 2, q.2) ∈ erT) q m)) (.nil))) (fun W pn xe tk pso => ess_cons (es_if (et_eq hK hu (ed_var 1) (ed_str [108, 105, 115, 116] rfl)) (ess_one (es_ret (ed_call0 F.trees_up_to (ln_trees_up_to _) hK hr tk (ea_cons (ed_var 0) (ea_cons (ed_var 2) ea_nil))))) (ess_nil)) (ess_one (es_ret (ed_if (et_eq hK hu (ed_var 1) (ed_str [110, 117, 109, 98, 101, 114] rfl)) (ed_call0 F.tree_number (ln_tree_number _) hK hr tk (ea_cons (ed_var 0) (ea_cons (ed_var 2) ea_nil))) (ed_call0 F.tree_by_number (ln_tree_by_number _) hK hr tk (ea_cons (ed_var 0) (ea_cons (ed_var 2) ea_nil))))))) (.cons ⟨rfl, by decide, Or.inl R.g_BadNumber⟩ rfl rfl (fun a oe cls d pn hz hf => xs_ret fun e => xe_tup (xa_cons (xe_of (ed_str [98, 97, 100] rfl)) (xa_cons (xe_field hK (fun c m => ⟨R.x.xf c ((by decide : ∀ c ∈ ([1] : List Nat), c < 3) c m), R.x.no c _ ((by decide : ∀ c ∈ ([1] : List Nat), (c, ("number" : Str)) ∈ erF) c m)⟩) hz hf) (xa_cons (xe_is (c := .ref (Γ.ce 0)) hK B.isinstance rfl (fun u h => h) ⟨rfl, by decide, Or.inl R.g_TreesError⟩ (fun k b m => ⟨R.x.xc k ((by decide : ∀ q ∈ ([(0, true), (1, true), (2, true)] : List (Nat × Bool)), q.1 < 3) (k, b) m), R.x.xk k 0 b ((by decide : ∀ q ∈ ([(0, true), (1, true), (2, true)] : List (Nat × Bool)), (q.1, 0, q.2) ∈ erT) (k, b) m)⟩) hz hf) (xa_nil))))) (.cons ⟨rfl, by decide, Or.inl R.g_TooMany⟩ rfl rfl (fun a oe cls d pn hz hf => xs_ret fun e => xe_tup (xa_cons (xe_of (ed_str [109, 97, 110, 121] rfl)) (xa_cons (xe_field hK (fun c m => ⟨R.x.xf c ((by decide : ∀ c ∈ ([2] : List Nat), c < 3) c m), R.x.no c _ ((by decide : ∀ c ∈ ([2] : List Nat), (c, ("number" : Str)) ∈ erF) c m)⟩) hz hf) (xa_cons (xe_is (c := .ref (Γ.ce 0)) hK B.isinstance rfl (fun u h => h) ⟨rfl, by decide, Or.inl R.g_TreesError⟩ (fun k b m => ⟨R.x.xc k ((by decide : ∀ q ∈ ([(0, true), (1, true), (2, true)] : List (Nat × Bool)), q.1 < 3) (k, b) m), R.x.xk k 0 b ((by decide : ∀ q ∈ ([(0, true), (1, true), (2, true)] : List (Nat × Bool)), (q.1, 0, q.2) ∈ erT) (k, b) m)⟩) hz hf) (xa_nil))))) (.nil))))
theorem drv_law_counts (B : Blt mg) (R : Erk Γ P w mg base) (F : Fns Γ P w mg base k) (f : Addr) (cdv : Value) (A : Around) (outer : List PySem.Env) (s : Shared) (H : Hp) (E : XK) (hr : Room (k + 1) (A.deeper (PyProof.Rows.envOfC "_law_counts" (defScope s_law_counts) s.heap.objs.size f cdv))) :
    PSs (cxOf (L2.CX P w) P w Γ.K mg base N_law_counts "_law_counts" (defScope s_law_counts) f cdv A outer s H E) (defBody s_law_counts) (tS Γ (fun cls dx _ H => E cls dx H) [] (den_law_counts (callF tbl k))) := by
  have hK : (cxOf (L2.CX P w) P w Γ.K mg base N_law_counts "_law_counts" (defScope s_law_counts) f cdv A outer s H E).K = Γ.K := rfl
  have hu := hr.units
  have tk : Takes (cxOf (L2.CX P w) P w Γ.K mg base N_law_counts "_law_counts" (defScope s_law_counts) f cdv A outer s H E) (fun cls dx _ H => E cls dx H) := takes_of rfl rfl rfl rfl
  have pso : PassesOwn (model P w) (cxOf (L2.CX P w) P w Γ.K mg base N_law_counts "_law_counts" (defScope s_law_counts) f cdv A outer s H E).A (cxOf (L2.CX P w) P w Γ.K mg base N_law_counts "_law_counts" (defScope s_law_counts) f cdv A outer s H E).env (cxOf (L2.CX P w) P w Γ.K mg base N_law_counts "_law_counts" (defScope s_law_counts) f cdv A outer s H E).xe := passes_of rfl
  exact ess_cons (es_set sc_law_counts.nd (ed_lst (ea_cons (ed_int) ea_nil))) (ess_cons (es_for pso rfl (ei_range2 B.range (ed_int) (ed_add hK (ed_var 1) (ed_int))) (eg_name sc_law_counts.nd) (ess_one (es_expr (ed_append hK (ed_mul (ed_len hK B.len (ed_var 0)) (ed_sum hK rfl B.sum (ed_comp [("one", 4)] rfl sc_law_counts.nd (ei_range1 B.range (ed_var 3)) (by refine blkOk_by ?_; show blkC N_law_counts (defScope s_law_counts) _ _ = true; decide +kernel) (gok_name (by decide)) (fun _ _ _ _ _ => eg_name sc_law_counts.nd) (fun _ _ _ _ _ => epts_nil) (fun _ _ _ _ _ => ed_mul (ed_idx hK (ed_var 2) (ed_var 4)) (ed_idx hK (ed_var 2) (ed_sub (ed_sub (ed_var 3) (ed_int)) (ed_var 4))))))))))) (ess_one (es_ret (ed_move 2))))
theorem drv_law_inside (B : Blt mg) (R : Erk Γ P w mg base) (F : Fns Γ P w mg base k) (f : Addr) (cdv : Value) (A : Around) (outer : List PySem.Env) (s : Shared) (H : Hp) (E : XK) (hr : Room (k + 1) (A.deeper (PyProof.Rows.envOfC "_law_inside" (defScope s_law_inside) s.heap.objs.size f cdv))) :
    PSs (cxOf (L2.CX P w) P w Γ.K mg base N_law_inside "_law_inside" (defScope s_law_inside) f cdv A outer s H E) (defBody s_law_inside) (tS Γ (fun cls dx _ H => E cls dx H) [] (den_law_inside (callF tbl k))) := by
  have hK : (cxOf (L2.CX P w) P w Γ.K mg base N_law_inside "_law_inside" (defScope s_law_inside) f cdv A outer s H E).K = Γ.K := rfl
  have hu := hr.units
  have tk : Takes (cxOf (L2.CX P w) P w Γ.K mg base N_law_inside "_law_inside" (defScope s_law_inside) f cdv A outer s H E) (fun cls dx _ H => E cls dx H) := takes_of rfl rfl rfl rfl
  have pso : PassesOwn (model P w) (cxOf (L2.CX P w) P w Γ.K mg base N_law_inside "_law_inside" (defScope s_law_inside) f cdv A outer s H E).A (cxOf (L2.CX P w) P w Γ.K mg base N_law_inside "_law_inside" (defScope s_law_inside) f cdv A outer s H E).env (cxOf (L2.CX P w) P w Γ.K mg base N_law_inside "_law_inside" (defScope s_law_inside) f cdv A outer s H E).xe := passes_of rfl
  exact ess_cons (es_if (et_eq hK hu (ed_var 2) (ed_str [46] rfl)) (ess_one (es_ret (ed_int))) (ess_nil)) (ess_cons (es_par rfl sc_law_inside.nd (ea_cons (ed_call0 F.law_left (ln_law_left _) hK hr tk (ea_cons (ed_var 2) ea_nil)) (ea_cons (ed_call0 F.law_right (ln_law_right _) hK hr tk (ea_cons (ed_var 2) ea_nil)) ea_nil))) (ess_cons (es_asg (ed_tup (ea_cons (ed_div (ed_len hK B.len (ed_var 2)) (ed_int)) (ea_cons (ed_div (ed_len hK B.len (ed_var 5)) (ed_int)) ea_nil))) (eg_tup hK rfl (egs_cons (eg_name sc_law_inside.nd) (egs_cons (eg_name sc_law_inside.nd) (egs_nil))) (sCons_len (sCons_len (sNil_len))))) (ess_cons (es_set sc_law_inside.nd (ed_mul (ed_index rfl tk (ed_var 0) (ed_idx hK (ed_var 2) (ed_int))) (ed_div (ed_idx hK (ed_var 1) (ed_var 7)) (ed_len hK B.len (ed_var 0))))) (ess_cons (es_set sc_law_inside.nd (ed_add hK (ed_var 3) (ed_sum hK rfl B.sum (ed_comp [("one", 9)] rfl sc_law_inside.nd (ei_range1 B.range (ed_var 8)) (by refine blkOk_by ?_; show blkC N_law_inside (defScope s_law_inside) _ _ = true; decide +kernel) (gok_name (by decide)) (fun _ _ _ _ _ => eg_name sc_law_inside.nd) (fun _ _ _ _ _ => epts_nil) (fun _ _ _ _ _ => ed_mul (ed_idx hK (ed_var 1) (ed_var 9)) (ed_idx hK (ed_var 1) (ed_sub (ed_sub (ed_var 7) (ed_int)) (ed_var 9)))))))) (ess_cons (es_set sc_law_inside.nd (ed_mul (ed_call0 F.law_inside (ln_law_inside _) hK hr tk (ea_cons (ed_var 0) (ea_cons (ed_var 1) (ea_cons (ed_var 5) ea_nil)))) (ed_idx hK (ed_var 1) (ed_sub (ed_sub (ed_var 7) (ed_int)) (ed_var 8))))) (ess_one (es_ret (ed_add hK (ed_add hK (ed_var 3) (ed_var 4)) (ed_call0 F.law_inside (ln_law_inside _) hK hr tk (ea_cons (ed_var 0) (ea_cons (ed_var 1) (ea_cons (ed_var 6) ea_nil))))))))))))
theorem drv_law_number (B : Blt mg) (R : Erk Γ P w mg base) (F : Fns Γ P w mg base k) (f : Addr) (cdv : Value) (A : Around) (outer : List PySem.Env) (s : Shared) (H : Hp) (E : XK) (hr : Room (k + 1) (A.deeper (PyProof.Rows.envOfC "_law_number" (defScope s_law_number) s.heap.objs.size f cdv))) :
    PSs (cxOf (L2.CX P w) P w Γ.K mg base N_law_number "_law_number" (defScope s_law_number) f cdv A outer s H E) (defBody s_law_number) (tS Γ (fun cls dx _ H => E cls dx H) [] (den_law_number (callF tbl k))) := by
  have hK : (cxOf (L2.CX P w) P w Γ.K mg base N_law_number "_law_number" (defScope s_law_number) f cdv A outer s H E).K = Γ.K := rfl
  have hu := hr.units
  have tk : Takes (cxOf (L2.CX P w) P w Γ.K mg base N_law_number "_law_number" (defScope s_law_number) f cdv A outer s H E) (fun cls dx _ H => E cls dx H) := takes_of rfl rfl rfl rfl
  have pso : PassesOwn (model P w) (cxOf (L2.CX P w) P w Γ.K mg base N_law_number "_law_number" (defScope s_law_number) f cdv A outer s H E).A (cxOf (L2.CX P w) P w Γ.K mg base N_law_number "_law_number" (defScope s_law_number) f cdv A outer s H E).env (cxOf (L2.CX P w) P w Γ.K mg base N_law_number "_law_number" (defScope s_law_number) f cdv A outer s H E).xe := passes_of rfl
  exact ess_one (es_ret (ed_add hK (ed_sum hK rfl B.sum (ed_sl01 hK (ed_var 1) (ed_div (ed_len hK B.len (ed_var 2)) (ed_int)))) (ed_call0 F.law_inside (ln_law_inside _) hK hr tk (ea_cons (ed_var 0) (ea_cons (ed_var 1) (ea_cons (ed_var 2) ea_nil))))))
theorem drv_law_list_due (B : Blt mg) (R : Erk Γ P w mg base) (F : Fns Γ P w mg base k) (f : Addr) (cdv : Value) (A : Around) (outer : List PySem.Env) (s : Shared) (H : Hp) (E : XK) (hr : Room (k + 1) (A.deeper (PyProof.Rows.envOfC "_law_list_due" (defScope s_law_list_due) s.heap.objs.size f cdv))) :
    PSs (cxOf (L2.CX P w) P w Γ.K mg base N_law_list_due "_law_list_due" (defScope s_law_list_due) f cdv A outer s H E) (defBody s_law_list_due) (tS Γ (fun cls dx _ H => E cls dx H) [] (den_law_list_due (callF tbl k))) := by
  have hK : (cxOf (L2.CX P w) P w Γ.K mg base N_law_list_due "_law_list_due" (defScope s_law_list_due) f cdv A outer s H E).K = Γ.K := rfl
  have hu := hr.units
  have tk : Takes (cxOf (L2.CX P w) P w Γ.K mg base N_law_list_due "_law_list_due" (defScope s_law_list_due) f cdv A outer s H E) (fun cls dx _ H => E cls dx H) := takes_of rfl rfl rfl rfl
  have pso : PassesOwn (model P w) (cxOf (L2.CX P w) P w Γ.K mg base N_law_list_due "_law_list_due" (defScope s_law_list_due) f cdv A outer s H E).A (cxOf (L2.CX P w) P w Γ.K mg base N_law_list_due "_law_list_due" (defScope s_law_list_due) f cdv A outer s H E).env (cxOf (L2.CX P w) P w Γ.K mg base N_law_list_due "_law_list_due" (defScope s_law_list_due) f cdv A outer s H E).xe := passes_of rfl
  exact ess_cons (es_if (et_lt (ed_var 1) (ed_int)) (ess_one (es_ret (ed_tup (ea_cons (ed_str [98, 97, 100] rfl) (ea_cons (ed_var 1) (ea_cons (ed_bl) ea_nil)))))) (ess_nil)) (ess_cons (es_set sc_law_list_due.nd (ed_call0 F.law_counts (ln_law_counts _) hK hr tk (ea_cons (ed_var 0) (ea_cons (ed_int) ea_nil)))) (ess_cons (es_set sc_law_list_due.nd (ed_idx hK (ed_comp [("size", 4)] rfl sc_law_list_due.nd (ei_range1 B.range (ed_int)) (by refine blkOk_by ?_; show blkC N_law_list_due (defScope s_law_list_due) _ _ = true; decide +kernel) (gok_name (by decide)) (fun _ _ _ _ _ => eg_name sc_law_list_due.nd) (fun _ _ _ _ _ => epts_one (et_gt (ed_sum hK rfl B.sum (ed_sl01 hK (ed_var 2) (ed_add hK (ed_var 4) (ed_int)))) (ed_int))) (fun _ _ _ _ _ => ed_var 4)) (ed_int))) (ess_one (es_ret (ed_if (et_ge (ed_var 1) (ed_var 3)) (ed_tup (ea_cons (ed_str [109, 97, 110, 121] rfl) (ea_cons (ed_var 3) (ea_cons (ed_bl) ea_nil)))) (ed_call0 F.law_trees (ln_law_trees _) hK hr tk (ea_cons (ed_var 0) (ea_cons (ed_var 1) ea_nil))))))))
theorem drv_law (B : Blt mg) (R : Erk Γ P w mg base) (F : Fns Γ P w mg base k) (f : Addr) (cdv : Value) (A : Around) (outer : List PySem.Env) (s : Shared) (H : Hp) (E : XK) (hr : Room (k + 1) (A.deeper (PyProof.Rows.envOfC "law" (defScope s_law) s.heap.objs.size f cdv))) :
    PSs (cxOf (L2.CX P w) P w Γ.K mg base N_law "law" (defScope s_law) f cdv A outer s H E) (defBody s_law) (tS Γ (fun cls dx _ H => E cls dx H) [] (den_law (callF tbl k))) := by
  have hK : (cxOf (L2.CX P w) P w Γ.K mg base N_law "law" (defScope s_law) f cdv A outer s H E).K = Γ.K := rfl
  have hu := hr.units
  have tk : Takes (cxOf (L2.CX P w) P w Γ.K mg base N_law "law" (defScope s_law) f cdv A outer s H E) (fun cls dx _ H => E cls dx H) := takes_of rfl rfl rfl rfl
  have pso : PassesOwn (model P w) (cxOf (L2.CX P w) P w Γ.K mg base N_law "law" (defScope s_law) f cdv A outer s H E).A (cxOf (L2.CX P w) P w Γ.K mg base N_law "law" (defScope s_law) f cdv A outer s H E).env (cxOf (L2.CX P w) P w Γ.K mg base N_law "law" (defScope s_law) f cdv A outer s H E).xe := passes_of rfl
  exact ess_cons (es_set sc_law.nd (ed_call0 F.law_picks (ln_law_picks _) hK hr tk (ea_cons (ed_var 0) (ea_cons (ed_int) (ea_cons (ed_int) ea_nil))))) (ess_cons (es_set sc_law.nd (ed_call0 F.law_picks (ln_law_picks _) hK hr tk (ea_cons (ed_var 0) (ea_cons (ed_int) (ea_cons (ed_int) ea_nil))))) (ess_cons (es_set sc_law.nd (ed_callIo F.law_one (ln_law_one _) hK hr tk (ea_io (ea_cons (ed_lst (ea_cons (ed_str [97] rfl) (ea_cons (ed_str [98, 97] rfl) (ea_cons (ed_str [97, 98] rfl) (ea_cons (ed_str [98, 99, 97] rfl) ea_nil))))) ea_nil)))) (ess_cons (es_set sc_law.nd (ed_if (et_eq hK hu (ed_callIo F.law_pick (ln_law_pick _) hK hr tk (ea_io (ea_cons (ed_int) ea_nil))) (ed_int)) (ed_int) (ed_int))) (ess_cons (es_set sc_law.nd (ed_call0 F.law_counts (ln_law_counts _) hK hr tk (ea_cons (ed_var 3) (ea_cons (ed_int) ea_nil)))) (ess_cons (es_setComp [("k", 19)] rfl sc_law.nd (ei_range1 B.range (ed_int)) (by refine blkOk_by ?_; show blkC N_law (defScope s_law) _ _ = true; decide +kernel) (gok_name (by decide)) (fun _ _ _ _ _ => eg_name sc_law.nd) (fun _ _ _ _ _ => epts_nil) (fun _ _ _ _ _ => ed_callIo F.law_tree (ln_law_tree _) hK hr takes0 (ea_io (ea_cons (ed_var 3) (ea_cons (ed_callIo F.law_pick (ln_law_pick _) hK hr takes0 (ea_io (ea_cons (ed_var 4) ea_nil))) ea_nil))))) (ess_cons (es_set sc_law.nd (ed_div (ed_len hK B.len (ed_idx hK (ed_var 6) (ed_int))) (ed_int))) (ess_cons (es_set sc_law.nd (ed_add hK (ed_var 6) (ed_lst (ea_cons (ed_idx hK (ed_var 6) (ed_int)) (ea_cons (ed_call0 F.law_put (ln_law_put _) hK hr tk (ea_cons (ed_idx hK (ed_var 6) (ed_int)) (ea_cons (ed_callIo F.law_one (ln_law_one _) hK hr tk (ea_io (ea_cons (ed_comp [("pair", 21)] rfl sc_law.nd (ei_list hK (ed_call0 F.law_spots (ln_law_spots _) hK hr tk (ea_cons (ed_idx hK (ed_var 6) (ed_int)) ea_nil))) (by refine blkOk_by ?_; show blkC N_law (defScope s_law) _ _ = true; decide +kernel) (gok_name (by decide)) (fun _ _ _ _ _ => eg_name sc_law.nd) (fun _ _ _ _ _ => epts_nil) (fun _ _ _ _ _ => ed_idx hK (ed_var 21) (ed_int))) ea_nil))) (ea_cons (ed_str [46] rfl) ea_nil)))) ea_nil))))) (ess_cons (es_if (et_ne hK hu (ed_idx hK (ed_var 6) (ed_int)) (ed_str [46] rfl)) (ess_cons (es_expr (ed_append hK (ed_add hK (ed_callIo F.law_one (ln_law_one _) hK hr tk (ea_io (ea_cons (ed_listS rfl B.list (ed_var 3)) ea_nil))) (ed_sl10 hK (ed_idx hK (ed_var 6) (ed_int)) (ed_int))))) (ess_one (es_expr (ed_append hK (ed_add hK (ed_add hK (ed_idx hK (ed_idx hK (ed_var 6) (ed_int)) (ed_int)) (ed_call0 F.law_right (ln_law_right _) hK hr tk (ea_cons (ed_idx hK (ed_var 6) (ed_int)) ea_nil))) (ed_call0 F.law_left (ln_law_left _) hK hr tk (ea_cons (ed_idx hK (ed_var 6) (ed_int)) ea_nil))))))) (ess_nil)) (ess_cons (es_setComp [("tree", 20)] rfl sc_law.nd (ei_list hK (ed_var 6)) (by refine blkOk_by ?_; show blkC N_law (defScope s_law) _ _ = true; decide +kernel) (gok_name (by decide)) (fun _ _ _ _ _ => eg_name sc_law.nd) (fun _ _ _ _ _ => epts_nil) (fun _ _ _ _ _ => ed_call0 F.law_number (ln_law_number _) hK hr takes0 (ea_cons (ed_var 3) (ea_cons (ed_var 5) (ea_cons (ed_var 20) ea_nil))))) (ess_cons (es_for pso rfl (ei_range1 B.range (ed_len hK B.len (ed_var 6))) (eg_name sc_law.nd) (ess_cons (es_for pso rfl (ei_range1 B.range (ed_len hK B.len (ed_var 6))) (eg_name sc_law.nd) (ess_one (es_if (et_not (et_val (ed_call0 F.law_same (ln_law_same _) hK hr tk (ea_cons (ed_call0 F.comes_before (ln_comes_before _) hK hr tk (ea_cons (ed_var 3) (ea_cons (ed_idx hK (ed_var 6) (ed_var 9)) (ea_cons (ed_idx hK (ed_var 6) (ed_var 16)) ea_nil)))) (ea_cons (ed_lt (ed_idx hK (ed_var 8) (ed_var 9)) (ed_idx hK (ed_var 8) (ed_var 16))) ea_nil))))) (ess_one (es_ret (ed_bl))) (ess_nil)))) (ess_one (es_if (et_not (et_val (ed_call0 F.law_same (ln_law_same _) hK hr tk (ea_cons (ed_call0 F.law_told (ln_law_told _) hK hr tk (ea_cons (ed_var 3) (ea_cons (ed_str [110, 117, 109, 98, 101, 114] rfl) (ea_cons (ed_idx hK (ed_var 6) (ed_var 9)) ea_nil)))) (ea_cons (ed_idx hK (ed_var 8) (ed_var 9)) ea_nil))))) (ess_one (es_ret (ed_bl))) (ess_nil))))) (ess_cons (es_for pso rfl (ei_tup hK (ed_tup (ea_cons (ed_int) (ea_cons (ed_int) ea_nil)))) (eg_name sc_law.nd) (ess_one (es_if (et_not (et_val (ed_call0 F.law_same (ln_law_same _) hK hr tk (ea_cons (ed_call0 F.law_told (ln_law_told _) hK hr tk (ea_cons (ed_var 3) (ea_cons (ed_str [116, 114, 101, 101] rfl) (ea_cons (ed_idx hK (ed_var 8) (ed_var 10)) ea_nil)))) (ea_cons (ed_idx hK (ed_var 6) (ed_var 10)) ea_nil))))) (ess_one (es_ret (ed_bl))) (ess_nil)))) (ess_cons (es_for pso rfl (ei_list hK (ed_lst (ea_cons (ed_callIo F.law_pick (ln_law_pick _) hK hr tk (ea_io (ea_cons (ed_int) ea_nil))) (ea_cons (ed_sub (ed_sub (ed_int) (ed_int)) (ed_callIo F.law_pick (ln_law_pick _) hK hr tk (ea_io (ea_cons (ed_int) ea_nil)))) (ea_cons (ed_add hK (ed_int) (ed_callIo F.law_pick (ln_law_pick _) hK hr tk (ea_io (ea_cons (ed_int) ea_nil)))) (ea_cons (ed_add hK (ed_pow (ed_int) (ed_int)) (ed_var 7)) ea_nil)))))) (eg_name sc_law.nd) (ess_one (es_if (et_not (et_val (ed_call0 F.law_same (ln_law_same _) hK hr tk (ea_cons (ed_call0 F.law_told (ln_law_told _) hK hr tk (ea_cons (ed_var 3) (ea_cons (ed_str [108, 105, 115, 116] rfl) (ea_cons (ed_var 11) ea_nil)))) (ea_cons (ed_call0 F.law_list_due (ln_law_list_due _) hK hr tk (ea_cons (ed_var 3) (ea_cons (ed_var 11) ea_nil))) ea_nil))))) (ess_one (es_ret (ed_bl))) (ess_nil)))) (ess_cons (es_set sc_law.nd (ed_call0 F.law_trees (ln_law_trees _) hK hr tk (ea_cons (ed_var 3) (ea_cons (ed_if (et_gt (ed_len hK B.len (ed_var 3)) (ed_int)) (ed_int) (ed_int)) ea_nil)))) (ess_cons (es_set sc_law.nd (ed_callIo F.law_pick (ln_law_pick _) hK hr tk (ea_io (ea_cons (ed_len hK B.len (ed_var 12)) ea_nil)))) (ess_cons (es_if (et_not (et_val (ed_call0 F.law_same (ln_law_same _) hK hr tk (ea_cons (ed_call0 F.law_told (ln_law_told _) hK hr tk (ea_cons (ed_var 3) (ea_cons (ed_str [116, 114, 101, 101] rfl) (ea_cons (ed_var 13) ea_nil)))) (ea_cons (ed_idx hK (ed_var 12) (ed_var 13)) ea_nil))))) (ess_one (es_ret (ed_bl))) (ess_nil)) (ess_cons (es_if (et_not (et_val (ed_call0 F.law_same (ln_law_same _) hK hr tk (ea_cons (ed_call0 F.law_told (ln_law_told _) hK hr tk (ea_cons (ed_var 3) (ea_cons (ed_str [116, 114, 101, 101] rfl) (ea_cons (ed_sub (ed_sub (ed_int) (ed_int)) (ed_var 13)) ea_nil)))) (ea_cons (ed_tup (ea_cons (ed_str [98, 97, 100] rfl) (ea_cons (ed_sub (ed_sub (ed_int) (ed_int)) (ed_var 13)) (ea_cons (ed_bl) ea_nil)))) ea_nil))))) (ess_one (es_ret (ed_bl))) (ess_nil)) (ess_cons (es_set sc_law.nd (ed_callIo F.law_pick (ln_law_pick _) hK hr tk (ea_io (ea_cons (ed_int) ea_nil)))) (ess_cons (es_if (et_eq hK hu (ed_var 14) (ed_int)) (ess_cons (es_set sc_law.nd (ed_add hK (ed_mulS (ed_idx hK (ed_var 3) (ed_sub (ed_int) (ed_int))) (ed_int)) (ed_mulS (ed_str [46] rfl) (ed_int)))) (ess_cons (es_set sc_law.nd (ed_lst (ea_cons (ed_call0 F.law_told (ln_law_told _) hK hr tk (ea_cons (ed_var 3) (ea_cons (ed_str [110, 117, 109, 98, 101, 114] rfl) (ea_cons (ed_var 17) ea_nil)))) (ea_cons (ed_call0 F.law_told (ln_law_told _) hK hr tk (ea_cons (ed_var 3) (ea_cons (ed_str [116, 114, 101, 101] rfl) (ea_cons (ed_sub (ed_sum hK rfl B.sum (ed_sl01 hK (ed_var 5) (ed_int))) (ed_int)) ea_nil)))) ea_nil)))) (ess_cons (es_set sc_law.nd (ed_add hK (ed_var 18) (ed_lst (ea_cons (ed_call0 F.law_told (ln_law_told _) hK hr tk (ea_cons (ed_var 3) (ea_cons (ed_str [116, 114, 101, 101] rfl) (ea_cons (ed_add hK (ed_sum hK rfl B.sum (ed_sl01 hK (ed_var 5) (ed_int))) (ed_var 13)) ea_nil)))) ea_nil)))) (ess_one (es_ret (ed_call0 F.law_same (ln_law_same _) hK hr tk (ea_cons (ed_var 18) (ea_cons (ed_lst (ea_cons (ed_sub (ed_sum hK rfl B.sum (ed_sl01 hK (ed_var 5) (ed_int))) (ed_int)) (ea_cons (ed_var 17) (ea_cons (ed_tup (ea_cons (ed_str [109, 97, 110, 121] rfl) (ea_cons (ed_int) (ea_cons (ed_bl) ea_nil)))) ea_nil)))) ea_nil)))))))) (ess_nil)) (ess_cons (es_if (et_eq hK hu (ed_var 14) (ed_int)) (ess_cons (es_set sc_law.nd (ed_add hK (ed_int) (ed_callIo F.law_pick (ln_law_pick _) hK hr tk (ea_io (ea_cons (ed_int) ea_nil))))) (ess_one (es_ret (ed_call0 F.law_same (ln_law_same _) hK hr tk (ea_cons (ed_call0 F.law_told (ln_law_told _) hK hr tk (ea_cons (ed_var 3) (ea_cons (ed_str [108, 105, 115, 116] rfl) (ea_cons (ed_var 11) ea_nil)))) (ea_cons (ed_call0 F.law_list_due (ln_law_list_due _) hK hr tk (ea_cons (ed_var 3) (ea_cons (ed_var 11) ea_nil))) ea_nil)))))) (ess_nil)) (ess_cons (es_set sc_law.nd (ed_add hK (ed_mulS (ed_idx hK (ed_var 3) (ed_int)) (ed_add hK (ed_int) (ed_var 7))) (ed_mulS (ed_str [46] rfl) (ed_add hK (ed_int) (ed_var 7))))) (ess_one (es_ret (ed_call0 F.law_same (ln_law_same _) hK hr tk (ea_cons (ed_lst (ea_cons (ed_call0 F.law_told (ln_law_told _) hK hr tk (ea_cons (ed_var 3) (ea_cons (ed_str [110, 117, 109, 98, 101, 114] rfl) (ea_cons (ed_var 15) ea_nil)))) (ea_cons (ed_call0 F.law_told (ln_law_told _) hK hr tk (ea_cons (ed_var 3) (ea_cons (ed_str [110, 117, 109, 98, 101, 114] rfl) (ea_cons (ed_str [46] rfl) ea_nil)))) ea_nil))) (ea_cons (ed_lst (ea_cons (ed_tup (ea_cons (ed_str [109, 97, 110, 121] rfl) (ea_cons (ed_add hK (ed_int) (ed_var 7)) (ea_cons (ed_bl) ea_nil)))) (ea_cons (ed_int) ea_nil))) ea_nil)))))))))))))))))))))))))
/-- each level from the one below -/
structure Dfs (K : PySem.W.Frag) (mg : Str → Option Value) : Prop where
  right_starts : DfK K mg "right_starts" s_right_starts ["text"]
  left_of : DfK K mg "left_of" s_left_of ["tree"]
  right_of : DfK K mg "right_of" s_right_of ["tree"]
  size_of : DfK K mg "size_of" s_size_of ["tree"]
  counts_of_trees : DfK K mg "counts_of_trees" s_counts_of_trees ["letters", "size"]
  trees_up_to : DfK K mg "trees_up_to" s_trees_up_to ["letters", "most"]
  tree_in_size : DfK K mg "tree_in_size" s_tree_in_size ["letters", "counts", "size", "number"]
  tree_by_number : DfK K mg "tree_by_number" s_tree_by_number ["letters", "number"]
  number_in_size : DfK K mg "number_in_size" s_number_in_size ["letters", "counts", "tree"]
  tree_number : DfK K mg "tree_number" s_tree_number ["letters", "tree"]
  comes_before : DfK K mg "comes_before" s_comes_before ["letters", "first", "second"]
  law_same : DfK K mg "_law_same" s_law_same ["told", "due"]
  law_picks : DfK K mg "_law_picks" s_law_picks ["script", "k", "count"]
  law_pick : DfK K mg "_law_pick" s_law_pick ["picks", "many"]
  law_one : DfK K mg "_law_one" s_law_one ["picks", "items"]
  law_end : DfK K mg "_law_end" s_law_end ["tree", "at"]
  law_left : DfK K mg "_law_left" s_law_left ["tree"]
  law_right : DfK K mg "_law_right" s_law_right ["tree"]
  law_levels : DfK K mg "_law_levels" s_law_levels ["letters", "most"]
  law_trees : DfK K mg "_law_trees" s_law_trees ["letters", "most"]
  law_tree : DfK K mg "_law_tree" s_law_tree ["picks", "letters", "size"]
  law_spots : DfK K mg "_law_spots" s_law_spots ["tree"]
  law_put : DfK K mg "_law_put" s_law_put ["tree", "spot", "part"]
  law_told : DfK K mg "_law_told" s_law_told ["letters", "kind", "value"]
  law_counts : DfK K mg "_law_counts" s_law_counts ["letters", "most"]
  law_inside : DfK K mg "_law_inside" s_law_inside ["letters", "counts", "tree"]
  law_number : DfK K mg "_law_number" s_law_number ["letters", "counts", "tree"]
  law_list_due : DfK K mg "_law_list_due" s_law_list_due ["letters", "most"]
  law : DfK K mg "law" s_law ["script"]
theorem fns_zero (D : Dfs Γ.K mg) : Fns Γ P w mg base 0 := ⟨D.right_starts.none rfl, D.left_of.none rfl, D.right_of.none rfl, D.size_of.none rfl, D.counts_of_trees.none rfl, D.trees_up_to.none rfl, D.tree_in_size.none rfl, D.tree_by_number.none rfl, D.number_in_size.none rfl, D.tree_number.none rfl, D.comes_before.none rfl, D.law_same.none rfl, D.law_picks.none rfl, D.law_pick.none rfl, D.law_one.none rfl, D.law_end.none rfl, D.law_left.none rfl, D.law_right.none rfl, D.law_levels.none rfl, D.law_trees.none rfl, D.law_tree.none rfl, D.law_spots.none rfl, D.law_put.none rfl, D.law_told.none rfl, D.law_counts.none rfl, D.law_inside.none rfl, D.law_number.none rfl, D.law_list_due.none rfl, D.law.none rfl⟩
theorem fns_succ (D : Dfs Γ.K mg) (B : Blt mg) (R : Erk Γ P w mg base) (F : Fns Γ P w mg base k) : Fns Γ P w mg base (k + 1) :=
  ⟨D.right_starts.fn (F := fn_right_starts) sc_right_starts rfl rfl (Or.inl rfl) (drv_right_starts B R F),
    D.left_of.fn (F := fn_left_of) sc_left_of rfl rfl (Or.inl rfl) (drv_left_of B R F),
    D.right_of.fn (F := fn_right_of) sc_right_of rfl rfl (Or.inl rfl) (drv_right_of B R F),
    D.size_of.fn (F := fn_size_of) sc_size_of rfl rfl (Or.inl rfl) (drv_size_of B R F),
    D.counts_of_trees.fn (F := fn_counts_of_trees) sc_counts_of_trees rfl rfl (Or.inl rfl) (drv_counts_of_trees B R F),
    D.trees_up_to.fn (F := fn_trees_up_to) sc_trees_up_to rfl rfl (Or.inl rfl) (drv_trees_up_to B R F),
    D.tree_in_size.fn (F := fn_tree_in_size) sc_tree_in_size rfl rfl (Or.inl rfl) (drv_tree_in_size B R F),
    D.tree_by_number.fn (F := fn_tree_by_number) sc_tree_by_number rfl rfl (Or.inl rfl) (drv_tree_by_number B R F),
    D.number_in_size.fn (F := fn_number_in_size) sc_number_in_size rfl rfl (Or.inl rfl) (drv_number_in_size B R F),
    D.tree_number.fn (F := fn_tree_number) sc_tree_number rfl rfl (Or.inl rfl) (drv_tree_number B R F),
    D.comes_before.fn (F := fn_comes_before) sc_comes_before rfl rfl (Or.inl rfl) (drv_comes_before B R F),
    D.law_same.fn (F := fn_law_same) sc_law_same rfl rfl (Or.inl rfl) (drv_law_same B R F),
    D.law_picks.fn (F := fn_law_picks) sc_law_picks rfl rfl (Or.inl rfl) (drv_law_picks B R F),
    D.law_pick.fn (F := fn_law_pick) sc_law_pick rfl rfl (Or.inr ⟨0, rfl, by decide⟩) (drv_law_pick B R F),
    D.law_one.fn (F := fn_law_one) sc_law_one rfl rfl (Or.inr ⟨0, rfl, by decide⟩) (drv_law_one B R F),
    D.law_end.fn (F := fn_law_end) sc_law_end rfl rfl (Or.inl rfl) (drv_law_end B R F),
    D.law_left.fn (F := fn_law_left) sc_law_left rfl rfl (Or.inl rfl) (drv_law_left B R F),
    D.law_right.fn (F := fn_law_right) sc_law_right rfl rfl (Or.inl rfl) (drv_law_right B R F),
    D.law_levels.fn (F := fn_law_levels) sc_law_levels rfl rfl (Or.inl rfl) (drv_law_levels B R F),
    D.law_trees.fn (F := fn_law_trees) sc_law_trees rfl rfl (Or.inl rfl) (drv_law_trees B R F),
    D.law_tree.fn (F := fn_law_tree) sc_law_tree rfl rfl (Or.inr ⟨0, rfl, by decide⟩) (drv_law_tree B R F),
    D.law_spots.fn (F := fn_law_spots) sc_law_spots rfl rfl (Or.inl rfl) (drv_law_spots B R F),
    D.law_put.fn (F := fn_law_put) sc_law_put rfl rfl (Or.inl rfl) (drv_law_put B R F),
    D.law_told.fn (F := fn_law_told) sc_law_told rfl rfl (Or.inl rfl) (drv_law_told B R F),
    D.law_counts.fn (F := fn_law_counts) sc_law_counts rfl rfl (Or.inl rfl) (drv_law_counts B R F),
    D.law_inside.fn (F := fn_law_inside) sc_law_inside rfl rfl (Or.inl rfl) (drv_law_inside B R F),
    D.law_number.fn (F := fn_law_number) sc_law_number rfl rfl (Or.inl rfl) (drv_law_number B R F),
    D.law_list_due.fn (F := fn_law_list_due) sc_law_list_due rfl rfl (Or.inl rfl) (drv_law_list_due B R F),
    D.law.fn (F := fn_law) sc_law rfl rfl (Or.inl rfl) (drv_law B R F)⟩
theorem fns_all (D : Dfs Γ.K mg) (B : Blt mg) (R : Erk Γ P w mg base) : ∀ k, Fns Γ P w mg base k
  | 0 => fns_zero D
  | k + 1 => fns_succ D B R (fns_all D B R k)
end
end TB
end
section
set_option Elab.async false
set_option linter.all false
set_option maxRecDepth 100000
set_option maxHeartbeats 4000000
namespace TB
open PySem PySem.Spec L2

abbrev i_BadNumber : Stmt := (clsB (top 2)).getD 0 (.Pass ⟨0, 0, 0, 0⟩)
def xd_BadNumber : XD := ⟨"BadNumber", "BadNumber.__init__", ["number"], defArgs i_BadNumber, defBody i_BadNumber, defScope i_BadNumber⟩
theorem es_BadNumber : ErrS ["number"] (defScope i_BadNumber) := ⟨rfl, rfl, rfl, by decide +kernel, rfl, rfl, by decide +kernel⟩
abbrev i_TooMany : Stmt := (clsB (top 3)).getD 0 (.Pass ⟨0, 0, 0, 0⟩)
def xd_TooMany : XD := ⟨"TooMany", "TooMany.__init__", ["number"], defArgs i_TooMany, defBody i_TooMany, defScope i_TooMany⟩
theorem es_TooMany : ErrS ["number"] (defScope i_TooMany) := ⟨rfl, rfl, rfl, by decide +kernel, rfl, rfl, by decide +kernel⟩
def xs : XS := ⟨[.glo "right_starts", .glo "left_of", .glo "right_of", .glo "size_of", .glo "counts_of_trees", .glo "trees_up_to", .glo "tree_in_size", .glo "tree_by_number", .glo "number_in_size", .glo "tree_number", .glo "comes_before", .glo "_law_same", .glo "_law_picks", .glo "_law_pick", .glo "_law_one", .glo "_law_end", .glo "_law_left", .glo "_law_right", .glo "_law_levels", .glo "_law_trees", .glo "_law_tree", .glo "_law_spots", .glo "_law_put", .glo "_law_told", .glo "_law_counts", .glo "_law_inside", .glo "_law_number", .glo "_law_list_due", .glo "law", .glo "TreesError", .glo "BadNumber", .glo "TooMany", .free "abs", .free "bool", .free "int", .free "isinstance", .free "len", .free "list", .free "range", .free "reversed", .free "str", .free "sum", .free "super", .free "tuple", .int "MOST_TREES" 5000], [⟨("right_starts", none), "right_starts", "right_starts", defArgs s_right_starts, defBody s_right_starts, defScope s_right_starts, [], []⟩, ⟨("left_of", none), "left_of", "left_of", defArgs s_left_of, defBody s_left_of, defScope s_left_of, [], []⟩, ⟨("right_of", none), "right_of", "right_of", defArgs s_right_of, defBody s_right_of, defScope s_right_of, [], []⟩, ⟨("size_of", none), "size_of", "size_of", defArgs s_size_of, defBody s_size_of, defScope s_size_of, [], []⟩, ⟨("counts_of_trees", none), "counts_of_trees", "counts_of_trees", defArgs s_counts_of_trees, defBody s_counts_of_trees, defScope s_counts_of_trees, [], []⟩, ⟨("trees_up_to", none), "trees_up_to", "trees_up_to", defArgs s_trees_up_to, defBody s_trees_up_to, defScope s_trees_up_to, [], []⟩, ⟨("tree_in_size", none), "tree_in_size", "tree_in_size", defArgs s_tree_in_size, defBody s_tree_in_size, defScope s_tree_in_size, [], []⟩, ⟨("tree_by_number", none), "tree_by_number", "tree_by_number", defArgs s_tree_by_number, defBody s_tree_by_number, defScope s_tree_by_number, [], []⟩, ⟨("number_in_size", none), "number_in_size", "number_in_size", defArgs s_number_in_size, defBody s_number_in_size, defScope s_number_in_size, [], []⟩, ⟨("tree_number", none), "tree_number", "tree_number", defArgs s_tree_number, defBody s_tree_number, defScope s_tree_number, [], []⟩, ⟨("comes_before", none), "comes_before", "comes_before", defArgs s_comes_before, defBody s_comes_before, defScope s_comes_before, [], []⟩, ⟨("_law_same", none), "_law_same", "_law_same", defArgs s_law_same, defBody s_law_same, defScope s_law_same, [], []⟩, ⟨("_law_picks", none), "_law_picks", "_law_picks", defArgs s_law_picks, defBody s_law_picks, defScope s_law_picks, [], []⟩, ⟨("_law_pick", none), "_law_pick", "_law_pick", defArgs s_law_pick, defBody s_law_pick, defScope s_law_pick, [], []⟩, ⟨("_law_one", none), "_law_one", "_law_one", defArgs s_law_one, defBody s_law_one, defScope s_law_one, [], []⟩, ⟨("_law_end", none), "_law_end", "_law_end", defArgs s_law_end, defBody s_law_end, defScope s_law_end, [], []⟩, ⟨("_law_left", none), "_law_left", "_law_left", defArgs s_law_left, defBody s_law_left, defScope s_law_left, [], []⟩, ⟨("_law_right", none), "_law_right", "_law_right", defArgs s_law_right, defBody s_law_right, defScope s_law_right, [], []⟩, ⟨("_law_levels", none), "_law_levels", "_law_levels", defArgs s_law_levels, defBody s_law_levels, defScope s_law_levels, [], []⟩, ⟨("_law_trees", none), "_law_trees", "_law_trees", defArgs s_law_trees, defBody s_law_trees, defScope s_law_trees, [], []⟩, ⟨("_law_tree", none), "_law_tree", "_law_tree", defArgs s_law_tree, defBody s_law_tree, defScope s_law_tree, [], []⟩, ⟨("_law_spots", none), "_law_spots", "_law_spots", defArgs s_law_spots, defBody s_law_spots, defScope s_law_spots, [], []⟩, ⟨("_law_put", none), "_law_put", "_law_put", defArgs s_law_put, defBody s_law_put, defScope s_law_put, [], []⟩, ⟨("_law_told", none), "_law_told", "_law_told", defArgs s_law_told, defBody s_law_told, defScope s_law_told, [], []⟩, ⟨("_law_counts", none), "_law_counts", "_law_counts", defArgs s_law_counts, defBody s_law_counts, defScope s_law_counts, [], []⟩, ⟨("_law_inside", none), "_law_inside", "_law_inside", defArgs s_law_inside, defBody s_law_inside, defScope s_law_inside, [], []⟩, ⟨("_law_number", none), "_law_number", "_law_number", defArgs s_law_number, defBody s_law_number, defScope s_law_number, [], []⟩, ⟨("_law_list_due", none), "_law_list_due", "_law_list_due", defArgs s_law_list_due, defBody s_law_list_due, defScope s_law_list_due, [], []⟩, ⟨("law", none), "law", "law", defArgs s_law, defBody s_law, defScope s_law, [], []⟩], [xd_BadNumber, xd_TooMany], ["TreesError", "BadNumber", "TooMany"], erT, erF, PySem.Challenge.pw_treesbeside_k02_trees_in_order_and_by_nu.main.file⟩
abbrev RR : PySem.W.OpenRow := PySem.W.OpenLaw.row PySem.Challenge.rw_treesbeside_k02_trees_in_order_and_by_nu
abbrev hk : PySem.W.Hook := xs.hook 6
def ob (s : PySem.W.SharedT) : AlX := xs.obsG 6 (HandSHeadRun.getT s)
theorem ob_eq (s : PySem.W.SharedT) : ob s = hk.obs s.abs := XS.obsG_eq (HandSHeadRun.getT_eq s)
def loose : List Str := ["TreesError", "BadNumber", "TooMany", "right_starts", "left_of", "right_of", "size_of", "MOST_TREES", "counts_of_trees", "trees_up_to", "tree_in_size", "tree_by_number", "number_in_size", "tree_number", "comes_before", "_law_same", "_law_picks", "_law_pick", "_law_one", "_law_end", "_law_left", "_law_right", "_law_levels", "_law_trees", "_law_tree", "_law_spots", "_law_put", "_law_told", "_law_counts", "_law_inside", "_law_number", "_law_list_due"]
set_option maxHeartbeats 0 in
theorem run (w : World) : HandSHeadRun.RunEq RR (PySem.W.view RR.prog [36]) hk ob 6000 loose w := by
  intro os
  kernel_rfl
theorem facts {w : World} {K : PySem.W.Frag} {h : Heap} {mg : Str → Option Value} {f : Addr} (X : K.In h) (G : h.Ns mainGlobals mg) (hfa : mg ("law" : Str) = some (.ref f)) (c : xs.obs K = xs.val) :
    ∃ fd : FuncData, (∀ (s : Shared) (v : Value), BindsTo s fd ⟨[v], []⟩ [("script", v)]) ∧ ∀ (k : Nat) (base : Heap), FnOk PySem.Challenge.pw_treesbeside_k02_trees_in_order_and_by_nu w K mg base (L2.CX PySem.Challenge.pw_treesbeside_k02_trees_in_order_and_by_nu w) (k + 1) f fd ["script"] (spF ⟨K, ceK xs.cs K⟩ [] 1 (callF tbl k 28)) := by
  have c1 := XS.d c
  have D : Dfs K mg := ⟨dfK X G c1 0 0 rfl rfl (fun _ _ _ _ _ _ us hl => match us, hl with | [_], _ => rfl),
    dfK X G c1 1 1 rfl rfl (fun _ _ _ _ _ _ us hl => match us, hl with | [_], _ => rfl),
    dfK X G c1 2 2 rfl rfl (fun _ _ _ _ _ _ us hl => match us, hl with | [_], _ => rfl),
    dfK X G c1 3 3 rfl rfl (fun _ _ _ _ _ _ us hl => match us, hl with | [_], _ => rfl),
    dfK X G c1 4 4 rfl rfl (fun _ _ _ _ _ _ us hl => match us, hl with | [_, _], _ => rfl),
    dfK X G c1 5 5 rfl rfl (fun _ _ _ _ _ _ us hl => match us, hl with | [_, _], _ => rfl),
    dfK X G c1 6 6 rfl rfl (fun _ _ _ _ _ _ us hl => match us, hl with | [_, _, _, _], _ => rfl),
    dfK X G c1 7 7 rfl rfl (fun _ _ _ _ _ _ us hl => match us, hl with | [_, _], _ => rfl),
    dfK X G c1 8 8 rfl rfl (fun _ _ _ _ _ _ us hl => match us, hl with | [_, _, _], _ => rfl),
    dfK X G c1 9 9 rfl rfl (fun _ _ _ _ _ _ us hl => match us, hl with | [_, _], _ => rfl),
    dfK X G c1 10 10 rfl rfl (fun _ _ _ _ _ _ us hl => match us, hl with | [_, _, _], _ => rfl),
    dfK X G c1 11 11 rfl rfl (fun _ _ _ _ _ _ us hl => match us, hl with | [_, _], _ => rfl),
    dfK X G c1 12 12 rfl rfl (fun _ _ _ _ _ _ us hl => match us, hl with | [_, _, _], _ => rfl),
    dfK X G c1 13 13 rfl rfl (fun _ _ _ _ _ _ us hl => match us, hl with | [_, _], _ => rfl),
    dfK X G c1 14 14 rfl rfl (fun _ _ _ _ _ _ us hl => match us, hl with | [_, _], _ => rfl),
    dfK X G c1 15 15 rfl rfl (fun _ _ _ _ _ _ us hl => match us, hl with | [_, _], _ => rfl),
    dfK X G c1 16 16 rfl rfl (fun _ _ _ _ _ _ us hl => match us, hl with | [_], _ => rfl),
    dfK X G c1 17 17 rfl rfl (fun _ _ _ _ _ _ us hl => match us, hl with | [_], _ => rfl),
    dfK X G c1 18 18 rfl rfl (fun _ _ _ _ _ _ us hl => match us, hl with | [_, _], _ => rfl),
    dfK X G c1 19 19 rfl rfl (fun _ _ _ _ _ _ us hl => match us, hl with | [_, _], _ => rfl),
    dfK X G c1 20 20 rfl rfl (fun _ _ _ _ _ _ us hl => match us, hl with | [_, _, _], _ => rfl),
    dfK X G c1 21 21 rfl rfl (fun _ _ _ _ _ _ us hl => match us, hl with | [_], _ => rfl),
    dfK X G c1 22 22 rfl rfl (fun _ _ _ _ _ _ us hl => match us, hl with | [_, _, _], _ => rfl),
    dfK X G c1 23 23 rfl rfl (fun _ _ _ _ _ _ us hl => match us, hl with | [_, _, _], _ => rfl),
    dfK X G c1 24 24 rfl rfl (fun _ _ _ _ _ _ us hl => match us, hl with | [_, _], _ => rfl),
    dfK X G c1 25 25 rfl rfl (fun _ _ _ _ _ _ us hl => match us, hl with | [_, _, _], _ => rfl),
    dfK X G c1 26 26 rfl rfl (fun _ _ _ _ _ _ us hl => match us, hl with | [_, _, _], _ => rfl),
    dfK X G c1 27 27 rfl rfl (fun _ _ _ _ _ _ us hl => match us, hl with | [_, _], _ => rfl),
    dfK X G c1 28 28 rfl rfl (fun _ _ _ _ _ _ us hl => match us, hl with | [_], _ => rfl)⟩
  have B : Blt mg := ⟨He.free_ok X G (c1.fact 32 (f := .free "abs") rfl), He.free_ok X G (c1.fact 33 (f := .free "bool") rfl), He.free_ok X G (c1.fact 34 (f := .free "int") rfl), He.free_ok X G (c1.fact 35 (f := .free "isinstance") rfl), He.free_ok X G (c1.fact 36 (f := .free "len") rfl), He.free_ok X G (c1.fact 37 (f := .free "list") rfl), He.free_ok X G (c1.fact 38 (f := .free "range") rfl), He.free_ok X G (c1.fact 39 (f := .free "reversed") rfl), He.free_ok X G (c1.fact 40 (f := .free "str") rfl), He.free_ok X G (c1.fact 41 (f := .free "sum") rfl), He.free_ok X G (c1.fact 43 (f := .free "tuple") rfl), He.int_ok X G (c1.fact 44 (f := .int "MOST_TREES" 5000) rfl)⟩
  have hsup : mg "super" = none := He.free_ok X G (c1.fact 42 (f := .free "super") rfl)
  have g_TreesError : mg "TreesError" = some (.ref (ceK xs.cs K 0)) := He.glo_ok X G (c1.fact 29 (f := .glo "TreesError") rfl)
  have g_BadNumber : mg "BadNumber" = some (.ref (ceK xs.cs K 1)) := He.glo_ok X G (c1.fact 30 (f := .glo "BadNumber") rfl)
  have g_TooMany : mg "TooMany" = some (.ref (ceK xs.cs K 2)) := He.glo_ok X G (c1.fact 31 (f := .glo "TooMany") rfl)
  have R : ∀ base, Erk ⟨K, ceK xs.cs K⟩ PySem.Challenge.pw_treesbeside_k02_trees_in_order_and_by_nu w mg base := fun base => by
    obtain ⟨fd_BadNumber, T_BadNumber, b_BadNumber⟩ := XS.xd (P := PySem.Challenge.pw_treesbeside_k02_trees_in_order_and_by_nu) c rfl (by decide +kernel) 0 (y := xd_BadNumber) rfl
    have B_BadNumber := b_BadNumber ["self", "number"] (fun _ _ _ _ _ _ _ us hl => match us, hl with | [_, _], _ => rfl)
    have E_BadNumber : ExK ⟨K, ceK xs.cs K⟩ PySem.Challenge.pw_treesbeside_k02_trees_in_order_and_by_nu w mg base 1 "BadNumber" ["number"] := exK (fs := (defBody i_BadNumber).tail.map grF) (ns := (grI (defBody i_BadNumber)).1.map grN) (p0 := (grI (defBody i_BadNumber)).2.1) (p1 := (grI (defBody i_BadNumber)).2.2.1) (p2 := (grI (defBody i_BadNumber)).2.2.2.1) (p3 := (grI (defBody i_BadNumber)).2.2.2.2.1) (p4 := (grI (defBody i_BadNumber)).2.2.2.2.2) T_BadNumber B_BadNumber g_BadNumber es_BadNumber (by decide) (by decide) (by decide) rfl rfl rfl rfl hsup (fun _ _ _ _ => rfl) (fun _ _ _ _ => ⟨_, rfl⟩)
    obtain ⟨fd_TooMany, T_TooMany, b_TooMany⟩ := XS.xd (P := PySem.Challenge.pw_treesbeside_k02_trees_in_order_and_by_nu) c rfl (by decide +kernel) 1 (y := xd_TooMany) rfl
    have B_TooMany := b_TooMany ["self", "number"] (fun _ _ _ _ _ _ _ us hl => match us, hl with | [_, _], _ => rfl)
    have E_TooMany : ExK ⟨K, ceK xs.cs K⟩ PySem.Challenge.pw_treesbeside_k02_trees_in_order_and_by_nu w mg base 2 "TooMany" ["number"] := exK (fs := (defBody i_TooMany).tail.map grF) (ns := (grI (defBody i_TooMany)).1.map grN) (p0 := (grI (defBody i_TooMany)).2.1) (p1 := (grI (defBody i_TooMany)).2.2.1) (p2 := (grI (defBody i_TooMany)).2.2.2.1) (p3 := (grI (defBody i_TooMany)).2.2.2.2.1) (p4 := (grI (defBody i_TooMany)).2.2.2.2.2) T_TooMany B_TooMany g_TooMany es_TooMany (by decide) (by decide) (by decide) rfl rfl rfl rfl hsup (fun _ _ _ _ => rfl) (fun _ _ _ _ => ⟨_, rfl⟩)
    exact ⟨XS.e c, g_TreesError, E_BadNumber, g_BadNumber, E_TooMany, g_TooMany⟩
  obtain ⟨f2, fd, FD, hm, hb⟩ := D.law.ex
  have e := hfa.symm.trans hm
  cases e
  refine ⟨fd, fun s v => ?_, fun k base => ?_⟩
  · exact FunD.bindsA (ps := ["script"]) FD (fun _ _ _ _ _ _ us hl => match us, hl with | [_], _ => rfl) s [v] rfl
  · have FF := fns_all (P := PySem.Challenge.pw_treesbeside_k02_trees_in_order_and_by_nu) (w := w) (Γ := ⟨K, ceK xs.cs K⟩) D B (R base) k
    cases k with
    | zero =>
      obtain ⟨f3, fd3, h1, h2, h3, h4⟩ := FF.law.ex
      exact ⟨fun vs H Q E h => by rw [h.1]; rfl, fun A outer s H args us vs Q E _ _ _ _ h => by
        obtain ⟨_, ds, o, s, _, _, h⟩ := h
        exact h.elim⟩
    | succ k =>
      have FF := fns_all (P := PySem.Challenge.pw_treesbeside_k02_trees_in_order_and_by_nu) (w := w) (Γ := ⟨K, ceK xs.cs K⟩) D B (R base) k
      exact fn_ok (Γ := ⟨K, ceK xs.cs K⟩) (F := fn_law) FD sc_law rfl rfl (Or.inl rfl) (fun cdv A outer s H E hr => drv_law B (R base) FF _ cdv A outer s H E hr)
/-- from the plain law to the row -/
theorem holds_of (K0 : Nat) (hK0 : Room (K0 + 1) callerA) (h : ∀ ns : List Int, ns.length ≤ 63 → callF tbl K0 28 [.lk (ns.map D.int)] = .ok (.bl true) []) : PySem.Challenge.rw_treesbeside_k02_trees_in_order_and_by_nu.Holds := by
  open PySem.W PySem.Calls PyProof.Rows in
  w_on; o_law
  refine HandSHeadRun.head_any (r := PySem.W.OpenLaw.row PySem.Challenge.rw_treesbeside_k02_trees_in_order_and_by_nu) (q := PySem.W.view (PySem.W.OpenLaw.row PySem.Challenge.rw_treesbeside_k02_trees_in_order_and_by_nu).prog [36]) (H := hk) (ob := ob) (M := 6000) (loose := loose) (d := HandSHeadRun.topDef (PySem.W.OpenLaw.row PySem.Challenge.rw_treesbeside_k02_trees_in_order_and_by_nu).prog 36) (kwd := []) ob_eq
    (by kernel_rfl) (fun s => by kernel_rfl) run (by kernel_rfl) (by kernel_rfl) (by kernel_rfl) (by rfl) (by first | assumption | decide +kernel) (by decide +kernel) ⟨rfl, rfl, rfl, rfl, rfl, by decide +kernel⟩ ?hw ?hc
  case hw => w_witness2
  case hc =>
    refine walk_x (l := PySem.Challenge.rw_treesbeside_k02_trees_in_order_and_by_nu) (n := 63) (k := K0 + 1) (x := "script") rfl (by decide) (by kernel_rfl) hK0 ?F
    intro w mg fa h0 Y G hmg0
    obtain ⟨K, KX, c⟩ := Y
    have hmg : mg ("law" : PySem.Str) = some (.ref fa) := by
      have e : (HandSHeadRun.topDef (PySem.W.OpenLaw.row PySem.Challenge.rw_treesbeside_k02_trees_in_order_and_by_nu).prog 36).name = ("law" : PySem.Str) := by kernel_rfl
      rw [← e]
      exact hmg0
    obtain ⟨fd, hb, hF⟩ := facts (w := w) KX G hmg c
    exact ⟨K, fd, _, KX, hb, fun H a ns hl hO hS => sp_script (Γ := ⟨K, ceK xs.cs K⟩) hO hS (h ns hl), fun base _ _ => hF K0 base⟩
end TB
end
section
set_option Elab.async false
set_option linter.all false
set_option maxRecDepth 100000
set_option maxHeartbeats 4000000
namespace TB
open PySem PySem.Spec L2
/-! ### reading denotations: an expression that comes to d and changes nothing -/
def Pu (δ : Den) (ρ : VE) (d : D) : Prop := ∃ bs, δ ρ = .ok d bs true ρ ∧ fz bs ρ = ρ
def PuA (δs : DenA) (ρ : VE) (ds : List D) : Prop := ∃ as bs, δs ρ = .ok as bs true ρ ∧ vals as = some ds ∧ fz bs ρ = ρ
section
variable {ρ ρ1 : VE} {δ δa δb δc : Den} {δs : DenA} {a b d : D} {ds : List D} {i : Nat} {r : RS} {ς ς1 ς2 : DenS}
theorem fz1_fix {i : Nat} {ρ : VE} {d : D} (h : ρ[i]? = some (some d)) (hf : fr d = d) : fz1 i ρ = ρ := by
  have h1 := fz1_none i ρ
  have h2 := fz1_at h
  rw [hf] at h2
  have hi : i < ρ.length := (List.getElem?_eq_some_iff.mp h).1
  apply List.ext_getElem?
  intro j
  by_cases hj : i = j
  · subst hj; rw [h2, h]
  · have := congrArg (fun l : VE => l[j]?) h1
    simp only [List.getElem?_set_ne hj] at this
    exact this
theorem fz_fix {bs : List Nat} (h : ∀ i ∈ bs, ∀ d, ρ[i]? = some (some d) → fr d = d) : fz bs ρ = ρ := by
  induction bs with
  | nil => rfl
  | cons i bs ih =>
    have e : fz1 i ρ = ρ := by
      cases e : ρ[i]? with
      | none => exact fz1_id fun d z => by rw [e] at z; cases z
      | some x =>
        cases x with
        | none => exact fz1_id fun d z => by rw [e] at z; cases z
        | some d => exact fz1_fix e (h i List.mem_cons_self d e)
    show fz bs (fz1 i ρ) = ρ
    rw [e]
    exact ih fun j m => h j (List.mem_cons_of_mem _ m)
theorem pu_var (h : ρ[i]? = some (some d)) (hf : fr d = d) : Pu (dVar i) ρ d := by
  unfold dVar
  cases hi : imm d with
  | true => exact ⟨[], by simp [dVar, h, hi], rfl⟩
  | false => exact ⟨[i], by simp [dVar, h, hi, hf], fz1_fix h hf⟩
theorem pu_c : Pu (dC d) ρ d := ⟨[], rfl, rfl⟩
theorem puA_nil : PuA dNil ρ [] := ⟨[], [], rfl, rfl, rfl⟩
theorem puA_cons (h : Pu δ ρ d) (hs : PuA δs ρ ds) : PuA (dCons δ δs) ρ (d :: ds) := by
  obtain ⟨b, e, f⟩ := h
  obtain ⟨as, bs, es, ev, fs⟩ := hs
  exact ⟨.v d :: as, b ++ bs, by simp [dCons, e, f, es], by simp [vals, ev], by rw [fz_app, f, fs]⟩
theorem pu_op {f : List D → Option D} (h : PuA δs ρ ds) (e : f ds = some d) : Pu (dOp f δs) ρ d := by
  obtain ⟨as, bs, es, ev, fs⟩ := h
  refine ⟨if clean d then [] else bs, by simp [dOp, opR, es, ev, e], ?_⟩
  split
  · rfl
  · exact fs
theorem pu_op1 {g : D → Option D} (h : Pu δ ρ a) (e : g a = some d) : Pu (dOp (one g) (dCons δ dNil)) ρ d := pu_op (puA_cons h puA_nil) e
theorem pu_op2 {g : D → D → Option D} (h : Pu δa ρ a) (h2 : Pu δb ρ b) (e : g a b = some d) : Pu (dOp (two g) (dCons δa (dCons δb dNil))) ρ d := pu_op (puA_cons h (puA_cons h2 puA_nil)) e
theorem pu_call {g : List D → FR} (h : PuA δs ρ ds) (e : g (frs ds) = .ok d []) : Pu (dCall0 g δs) ρ d := by
  obtain ⟨as, bs, es, ev, fs⟩ := h
  refine ⟨if clean d then [] else bs, by simp [dCall0, es, ev, e], ?_⟩
  split
  · rfl
  · exact fs
theorem pu_not {x : Bool} (h : Pu δ ρ (.bl x)) : Pu (dNot δ) ρ (.bl !x) := by
  obtain ⟨bs, e, _⟩ := h
  exact ⟨[], by simp [dNot, e], rfl⟩
theorem pu_and_t (h : Pu δa ρ (.bl true)) (h2 : Pu δb ρ d) : Pu (dAnd δa δb) ρ d := by
  obtain ⟨bs, e, _⟩ := h
  obtain ⟨bs2, e2, f2⟩ := h2
  exact ⟨bs2, by simp [dAnd, e, e2, andP], f2⟩
theorem pu_and_f (h : Pu δa ρ (.bl false)) : Pu (dAnd δa δb) ρ (.bl false) := by
  obtain ⟨bs, e, _⟩ := h
  exact ⟨[], by simp [dAnd, e], rfl⟩
theorem pu_or_f (h : Pu δa ρ (.bl false)) (h2 : Pu δb ρ d) : Pu (dOr δa δb) ρ d := by
  obtain ⟨bs, e, _⟩ := h
  obtain ⟨bs2, e2, f2⟩ := h2
  exact ⟨bs2, by simp [dOr, e, e2, andP], f2⟩
theorem pu_or_t (h : Pu δa ρ (.bl true)) : Pu (dOr δa δb) ρ (.bl true) := by
  obtain ⟨bs, e, _⟩ := h
  exact ⟨[], by simp [dOr, e], rfl⟩
theorem pu_and {x y : Bool} (h : Pu δa ρ (.bl x)) (h2 : x = true → Pu δb ρ (.bl y)) : Pu (dAnd δa δb) ρ (.bl (x && y)) := by
  cases x with
  | true => exact pu_and_t h (h2 rfl)
  | false => exact pu_and_f h
theorem pu_or {x y : Bool} (h : Pu δa ρ (.bl x)) (h2 : x = false → Pu δb ρ (.bl y)) : Pu (dOr δa δb) ρ (.bl (x || y)) := by
  cases x with
  | true => exact pu_or_t h
  | false => exact pu_or_f h (h2 rfl)
theorem pu_if_t (h : Pu δc ρ (.bl true)) (h2 : Pu δa ρ d) : Pu (dIf δc δa δb) ρ d := by
  obtain ⟨bs, e, _⟩ := h
  obtain ⟨bs2, e2, f2⟩ := h2
  exact ⟨bs2, by simp [dIf, e, e2, andP], f2⟩
theorem pu_if_f (h : Pu δc ρ (.bl false)) (h2 : Pu δb ρ d) : Pu (dIf δc δa δb) ρ d := by
  obtain ⟨bs, e, _⟩ := h
  obtain ⟨bs2, e2, f2⟩ := h2
  exact ⟨bs2, by simp [dIf, e, e2, andP], f2⟩
theorem pu_disp {f : List D → Option D} (h : PuA δs ρ ds) (e : f ds = some d) : Pu (dDisp f δs) ρ d := by
  obtain ⟨as, bs, es, ev, fs⟩ := h
  exact ⟨bs, by simp [dDisp, opRM, es, ev, e], fs⟩
/-! statements -/
theorem st_ret (h : Pu δ ρ d) : dRet δ ρ = .rt d ρ := by
  obtain ⟨bs, e, f⟩ := h
  simp [dRet, e, f]
theorem st_exp (h : Pu δ ρ d) : dExp δ ρ = .nx ρ := by
  obtain ⟨bs, e, f⟩ := h
  simp [dExp, e]
theorem st_asg {g : DenG} (h : Pu δ ρ d) (hg : g d ρ = some ρ1) : dAsg g δ ρ = .nx ρ1 := by
  obtain ⟨bs, e, f⟩ := h
  simp [dAsg, e, f, hg]
theorem st_if_t (h : Pu δ ρ (.bl true)) : dIfS δ ς1 ς2 ρ = ς1 ρ := by
  obtain ⟨bs, e, f⟩ := h
  simp [dIfS, e]
theorem st_if_f (h : Pu δ ρ (.bl false)) : dIfS δ ς1 ς2 ρ = ς2 ρ := by
  obtain ⟨bs, e, f⟩ := h
  simp [dIfS, e]
theorem st_for {f : List D → Option (List D × List D)} {items hold : List D} {g : DenG} (h : PuA δs ρ ds) (e : f ds = some (items, hold)) : dFor (dIt f δs) g ς ρ = loopF g ς items ρ := by
  obtain ⟨as, bs, es, ev, fs⟩ := h
  simp [dFor, dIt, itR, es, ev, e, fs]
theorem seq_nx {a b : DenS} (h : a ρ = .nx ρ1) : dSeq a b ρ = b ρ1 := by simp [dSeq, h]
theorem seq_rt {a b : DenS} (h : a ρ = .rt d ρ1) : dSeq a b ρ = .rt d ρ1 := by simp [dSeq, h]
theorem seq_ex {a b : DenS} {x : Exn} (h : a ρ = .ex x ρ1) : dSeq a b ρ = .ex x ρ1 := by simp [dSeq, h]
theorem sName_ok {i : Nat} {d : D} {ρ : VE} (h : i < ρ.length) : sName [] i d ρ = some (ρ.set i (some d)) := by simp [sName, h]
end
theorem loop_inv {g : DenG} {body : DenS} {items : List D} {ρ : VE} (I : Nat → VE → Prop)
    (h : ∀ i d ρ, items[i]? = some d → I i ρ → ∃ ρ1, g d ρ = some ρ1 ∧ ∃ ρ2, (body ρ1 = .nx ρ2 ∨ body ρ1 = .ct ρ2) ∧ I (i + 1) ρ2) (h0 : I 0 ρ) : ∃ ρ', loopF g body items ρ = .nx ρ' ∧ I items.length ρ' := by
  induction items generalizing ρ I with
  | nil => exact ⟨ρ, rfl, h0⟩
  | cons d ds ih =>
    obtain ⟨ρ1, e1, ρ2, e2, h2⟩ := h 0 d ρ rfl h0
    obtain ⟨ρ', e3, h3⟩ := ih (fun i => I (i + 1)) (fun i d ρ hi hI => h (i + 1) d ρ (by simpa using hi) hI) h2
    refine ⟨ρ', ?_, h3⟩
    rcases e2 with e2 | e2 <;> simp [loopF, e1, e2, e3]
theorem rng_get {n : Nat} {i : Nat} {d : D} {b : Int} (h : (rng b n)[i]? = some d) : d = .int (b + i) ∧ i < n := by
  have hl : i < n := by
    have := (List.getElem?_eq_some_iff.mp h).1
    rwa [rng_len] at this
  unfold rng at h
  rw [List.getElem?_map, List.getElem?_range hl] at h
  exact ⟨(Option.some.inj h).symm, hl⟩
theorem bdec {α : Type} [DecidableEq α] (a b : α) : (a == b) = decide (a = b) := rfl
theorem frs_ints : ∀ ns : List Int, frs (ns.map D.int) = ns.map D.int
  | [] => rfl
  | n :: ns => by show fr (.int n) :: frs (ns.map D.int) = _; rw [frs_ints ns]; rfl
theorem imms_ints : ∀ ns : List Int, imms (ns.map D.int) = true
  | [] => rfl
  | n :: ns => by show (imm (.int n) && imms (ns.map D.int)) = true; rw [imms_ints ns]; rfl
theorem frs_strs : ∀ ns : List (List Nat), frs (ns.map D.str) = ns.map D.str
  | [] => rfl
  | n :: ns => by show fr (.str n) :: frs (ns.map D.str) = _; rw [frs_strs ns]; rfl
theorem imms_strs : ∀ ns : List (List Nat), imms (ns.map D.str) = true
  | [] => rfl
  | n :: ns => by show (imm (.str n) && imms (ns.map D.str)) = true; rw [imms_strs ns]; rfl
theorem ints_ints : ∀ ns : List Int, ints? (ns.map D.int) = some ns
  | [] => rfl
  | n :: ns => by
    have := ints_ints ns
    simp [ints?, this]
theorem atI_nat {α : Type} (xs : List α) {i : Int} (h : 0 ≤ i) : atI xs i = xs[i.toNat]? := by
  unfold atI ixN
  rw [if_pos h]
  by_cases h2 : i < xs.length
  · rw [if_pos h2]; rfl
  · rw [if_neg h2, List.getElem?_eq_none (by omega)]; rfl
theorem atI_i {α : Type} (xs : List α) (i : Nat) : atI xs (i : Int) = xs[i]? := by rw [atI_nat xs (by omega)]; simp
theorem atI_mem {α : Type} (xs : List α) {i : Int} (h : 0 ≤ i) (h2 : i < xs.length) : ∃ x, atI xs i = some x ∧ x ∈ xs := by
  rw [atI_nat xs h, List.getElem?_eq_getElem (by omega)]
  exact ⟨_, rfl, List.getElem_mem _⟩
theorem atI_frs (xs : List D) (i : Int) : atI (frs xs) i = (atI xs i).map fr := by
  unfold atI
  rw [frs_len]
  cases ixN xs.length i with
  | none => rfl
  | some j => simp [frs_map]
theorem p62 : (2 : Int) ^ 62 = 4611686018427387904 := by decide +kernel
theorem itR1_nat (n : Nat) (h : n ≤ 100000000) : itR1 [.int n] = some (rng 0 n, []) := by
  have h1 : -(2 ^ 62 : Int) ≤ (n : Int) ∧ (n : Int) < 2 ^ 62 := by rw [p62]; omega
  simp only [itR1]
  rw [if_pos h1, Int.toNat_natCast]
theorem itRR1_nat (n : Nat) (h : n ≤ 100000000) : itRR1 [.int n] = some ((rng 0 n).reverse, []) := by
  have h1 : -(2 ^ 62 : Int) ≤ (n : Int) ∧ (n : Int) < 2 ^ 62 := by rw [p62]; omega
  simp only [itRR1]
  rw [if_pos h1, Int.toNat_natCast]
theorem itR2_nat (m n : Nat) (hm : m ≤ 100000000) (h : n ≤ 100000000) : itR2 [.int m, .int n] = some (rng m (n - m), []) := by
  have h1 : -(2 ^ 62 : Int) ≤ (m : Int) ∧ (m : Int) < 2 ^ 62 ∧ -(2 ^ 62 : Int) ≤ (n : Int) ∧ (n : Int) < 2 ^ 62 := by rw [p62]; omega
  simp only [itR2]
  rw [if_pos h1]
  have : ((n : Int) - m).toNat = n - m := by omega
  rw [this]
end TB
end
section
set_option Elab.async false
set_option linter.all false
set_option maxRecDepth 100000
set_option maxHeartbeats 4000000
namespace TB
open PySem PySem.Spec L2
theorem bstr (x y : List Nat) : (x == y) = decide (x = y) := by
  rw [Bool.eq_iff_iff]
  simp
theorem loopW_f {n : Nat} {c : Den} {body : DenS} {ρ : VE} (h : Pu c ρ (.bl false)) : loopW (n + 1) c body ρ = .nx ρ := by
  obtain ⟨bs, e, f⟩ := h
  simp [loopW, e]
theorem loopW_t {n : Nat} {c : Den} {body : DenS} {ρ ρ2 : VE} (h : Pu c ρ (.bl true)) (hb : body ρ = .nx ρ2) : loopW (n + 1) c body ρ = loopW n c body ρ2 := by
  obtain ⟨bs, e, f⟩ := h
  simp [loopW, e, hb]
theorem loopW_rt {n : Nat} {c : Den} {body : DenS} {ρ ρ2 : VE} {d : D} (h : Pu c ρ (.bl true)) (hb : body ρ = .rt d ρ2) : loopW (n + 1) c body ρ = .rt d ρ2 := by
  obtain ⟨bs, e, f⟩ := h
  simp [loopW, e, hb]
theorem loopF_rt {g : DenG} {body : DenS} {d x : D} {ds : List D} {ρ ρ1 ρ2 : VE} (h1 : g d ρ = some ρ1) (h2 : body ρ1 = .rt x ρ2) : loopF g body (d :: ds) ρ = .rt x ρ2 := by simp [loopF, h1, h2]
theorem run_rt {F : FnDef} {b : CF → DenS} {cf : CF} {ds us : List D} {d : D} {ρ ρ' : VE} (hb : F.body = b) (hn : ds.length = F.npar) (hs : startF F.nloc ds = ρ) (h : b cf ρ = .rt d ρ') (ho : outsOf ρ' F.io = some us) : runF F cf ds = .ok d us := by
  unfold runF
  rw [if_pos hn, hs, hb, h]
  simp only [endF, ho]
theorem rng_add (b : Int) (m n : Nat) : rng b (m + n) = rng b m ++ rng (b + m) n := by
  unfold rng
  rw [List.range_add, List.map_append, List.map_map]
  congr 1
  apply List.map_congr_left
  intro j _
  simp
  omega
theorem rng_one (b : Int) : rng b 1 = [.int b] := by simp [rng]
theorem loopF_app {g : DenG} {body : DenS} : ∀ {xs ys : List D} {ρ ρ' : VE}, loopF g body xs ρ = .nx ρ' → (∀ d ρ ρ1 ρ2, g d ρ = some ρ1 → body ρ1 ≠ .bk ρ2) → loopF g body (xs ++ ys) ρ = loopF g body ys ρ'
  | [], _, _, _, h, _ => by cases h; rfl
  | d :: xs, ys, ρ, ρ', h, nb => by
    have h' : (match g d ρ with | some ρ1 => (match body ρ1 with | .nx ρ2 => loopF g body xs ρ2 | .ct ρ2 => loopF g body xs ρ2 | .bk ρ2 => .nx ρ2 | r => r) | none => .no) = RS.nx ρ' := h
    show (match g d ρ with | some ρ1 => (match body ρ1 with | .nx ρ2 => loopF g body (xs ++ ys) ρ2 | .ct ρ2 => loopF g body (xs ++ ys) ρ2 | .bk ρ2 => .nx ρ2 | r => r) | none => .no) = _
    cases e1 : g d ρ with
    | none => rw [e1] at h'; cases h'
    | some ρ1 =>
      simp only [e1] at h' ⊢
      cases e2 : body ρ1 with
      | nx ρ2 => simp only [e2] at h' ⊢; exact loopF_app h' nb
      | ct ρ2 => simp only [e2] at h' ⊢; exact loopF_app h' nb
      | bk ρ2 => exact absurd e2 (nb _ _ _ _ e1)
      | rt d ρ2 => simp only [e2] at h'; cases h'
      | ex d ρ2 => simp only [e2] at h'; cases h'
      | no => simp only [e2] at h'; cases h'
theorem loopF_one {g : DenG} {body : DenS} {d : D} {ds : List D} {ρ ρ1 ρ2 : VE} (h1 : g d ρ = some ρ1) (h2 : body ρ1 = .nx ρ2) : loopF g body (d :: ds) ρ = loopF g body ds ρ2 := by simp [loopF, h1, h2]
theorem p63 : (2 : Int) ^ 63 = 9223372036854775808 := by decide +kernel
theorem gMul_rep (n : Nat) (h : n ≤ 1000000) : gMul (.lst true [.int 0]) (.int n) = some (.lst true (List.replicate n (.int 0))) := by
  have h1 : imms [D.int 0] = true ∧ -(2 ^ 63 : Int) ≤ (n : Int) ∧ (n : Int) < 2 ^ 63 ∧ [D.int 0].length * (n : Int).toNat ≤ 16777216 := by
    rw [p63]
    refine ⟨rfl, by omega, by omega, ?_⟩
    simp
    omega
  have e : gMulL (.lst true [.int 0]) (.int n) = some (.lst true (List.replicate n (.int 0))) := by
    simp only [gMulL]
    rw [if_pos h1, Int.toNat_natCast]
    congr 2
    induction n with
    | zero => rfl
    | succ n ih => simp
  unfold gMul
  rw [e]
  rfl
theorem cutL_nat {α : Type} (xs : List α) (a b : Nat) (h : a ≤ b) (hb : b ≤ xs.length) : cutL xs (some (a : Int)) (some (b : Int)) = (xs.drop a).take (b - a) := by
  unfold cutL
  rw [HT.sIx_nat, HT.sIx_nat, Nat.min_eq_left (show a ≤ xs.length by omega), Nat.min_eq_left hb]
theorem cutL_from {α : Type} (xs : List α) (a : Nat) (h : a ≤ xs.length) : cutL xs (some (a : Int)) none = xs.drop a := by
  unfold cutL
  rw [HT.sIx_nat, HT.sIx_none, Nat.min_eq_left h]
  exact List.take_of_length_le (by simp)
theorem cutL_to {α : Type} (xs : List α) (b : Nat) (h : b ≤ xs.length) : cutL xs none (some (b : Int)) = xs.take b := by
  unfold cutL
  rw [HT.sIx_nat, HT.sIx_none, Nat.min_eq_left h]
  simp
end TB
end
section
set_option Elab.async false
set_option linter.all false
set_option maxRecDepth 100000
set_option maxHeartbeats 4000000
namespace TB
open PySem PySem.Spec L2
/-! ### trees and their texts -/
inductive T where
  | leaf
  | node (c : Nat) (l r : T)
def T.tx : T → List Nat
  | .leaf => [46]
  | .node c l r => c :: (l.tx ++ r.tx)
def T.ok : T → Prop
  | .leaf => True
  | .node c l r => c ≠ 46 ∧ l.ok ∧ r.ok
def T.sz : T → Nat
  | .leaf => 0
  | .node _ l r => l.sz + r.sz + 1
theorem T.len : ∀ t : T, t.tx.length = 2 * t.sz + 1
  | .leaf => rfl
  | .node c l r => by
    have := l.len
    have := r.len
    simp [T.tx, T.sz]
    omega
theorem T.tx_leaf {t : T} : t.tx = [46] ↔ t = .leaf := by
  cases t with
  | leaf => simp [T.tx]
  | node c l r =>
    constructor
    · intro h
      have := congrArg List.length h
      rw [T.len] at this
      simp [T.sz] at this
    · intro h; cases h
def T.lf : T → T
  | .leaf => .leaf
  | .node _ l _ => l
def T.rg : T → T
  | .leaf => .leaf
  | .node _ _ r => r
theorem T.tx_ne (c : Nat) (l r : T) : (T.node c l r).tx ≠ [46] := fun h => by have := T.tx_leaf.mp h; cases this
theorem T.cut_l (c : Nat) (l r : T) : cutL (T.node c l r).tx (some 1) (some (1 + l.tx.length : Int)) = l.tx := by
  have := cutL_nat (T.node c l r).tx 1 (1 + l.tx.length) (by omega) (by simp [T.tx]; omega)
  have e : ((1 + l.tx.length : Nat) : Int) = (1 + l.tx.length : Int) := by simp
  rw [e] at this
  refine this.trans ?_
  simp [T.tx]
theorem T.cut_r (c : Nat) (l r : T) : cutL (T.node c l r).tx (some (1 + l.tx.length : Int)) none = r.tx := by
  have := cutL_from (T.node c l r).tx (1 + l.tx.length) (by simp [T.tx]; omega)
  have e : ((1 + l.tx.length : Nat) : Int) = (1 + l.tx.length : Int) := by simp
  rw [e] at this
  refine this.trans ?_
  rw [T.tx, Nat.add_comm]
  simp
end TB
end
section
set_option Elab.async false
set_option linter.all false
set_option maxRecDepth 100000
set_option maxHeartbeats 4000000
namespace TB
open PySem PySem.Spec L2
/-! ### counts of trees -/
def nx (L : Nat) (l : List Nat) : List Nat := l ++ [L * ((List.range l.length).map fun i => l.getD i 0 * l.getD (l.length - 1 - i) 0).sum]
def cL (L : Nat) : Nat → List Nat
  | 0 => [1]
  | n + 1 => nx L (cL L n)
def C (L n : Nat) : Nat := (cL L n).getD n 0
theorem cL_len (L : Nat) : ∀ n, (cL L n).length = n + 1
  | 0 => rfl
  | n + 1 => by simp [cL, nx, cL_len L n]
theorem cL_get (L : Nat) : ∀ (n i : Nat), i ≤ n → (cL L n).getD i 0 = C L i
  | 0, i, h => by
    have : i = 0 := by omega
    subst this; rfl
  | n + 1, i, h => by
    by_cases hi : i = n + 1
    · subst hi; rfl
    · have hl := cL_len L n
      have : (cL L (n + 1)).getD i 0 = (cL L n).getD i 0 := by
        show (nx L (cL L n)).getD i 0 = _
        unfold nx
        rw [List.getD_eq_getElem?_getD, List.getD_eq_getElem?_getD, List.getElem?_append_left (by omega)]
      rw [this, cL_get L n i (by omega)]
/-- the first k of the sum for size n + 1 -/
def P (L n k : Nat) : Nat := ((List.range k).map fun i => C L i * C L (n - i)).sum
theorem P_zero (L n : Nat) : P L n 0 = 0 := rfl
theorem P_succ (L n k : Nat) : P L n (k + 1) = P L n k + C L k * C L (n - k) := by
  simp [P, List.range_succ]
theorem C_zero (L : Nat) : C L 0 = 1 := rfl
theorem C_succ (L n : Nat) : C L (n + 1) = L * P L n (n + 1) := by
  have hl := cL_len L n
  show (nx L (cL L n)).getD (n + 1) 0 = _
  unfold nx
  rw [List.getD_eq_getElem?_getD, List.getElem?_append_right (by omega), hl, Nat.sub_self]
  show L * _ = _
  congr 1
  unfold P
  congr 1
  apply List.map_congr_left
  intro i hi
  have := List.mem_range.mp hi
  rw [cL_get L n i (by omega), cL_get L n _ (by omega)]
  rfl
theorem cL_map (L : Nat) : ∀ n, cL L n = (List.range (n + 1)).map (C L)
  | 0 => rfl
  | n + 1 => by
    rw [List.range_succ, List.map_append, ← cL_map L n]
    show nx L (cL L n) = _
    unfold nx
    congr 1
    have h := C_succ L n
    rw [List.map_cons, List.map_nil, h]
    congr 1
    congr 1
    unfold P
    rw [cL_len]
    congr 1
    apply List.map_congr_left
    intro i hi
    have := List.mem_range.mp hi
    rw [cL_get L n i (by omega), cL_get L n _ (by omega)]
    rfl
theorem P_mono (L n : Nat) {j k : Nat} (h : j ≤ k) : P L n j ≤ P L n k := by
  induction k with
  | zero => have : j = 0 := by omega
            subst this; exact Nat.le_refl _
  | succ k ih =>
    by_cases hj : j = k + 1
    · subst hj; exact Nat.le_refl _
    · rw [P_succ]
      have := ih (by omega)
      omega
theorem C_pos {L : Nat} (hL : 0 < L) : ∀ n, 0 < C L n
  | 0 => by rw [C_zero]; decide
  | n + 1 => by
    rw [C_succ]
    apply Nat.mul_pos hL
    have h1 : P L n 1 ≤ P L n (n + 1) := P_mono L n (by omega)
    have h2 : P L n 1 = C L 0 * C L n := by rw [P_succ, P_zero]; simp
    have := C_pos hL n
    rw [h2, C_zero, Nat.one_mul] at h1
    omega
/-- the trees that are smaller -/
def base (L n : Nat) : Nat := ((List.range n).map (C L)).sum
theorem base_succ (L n : Nat) : base L (n + 1) = base L n + C L n := by simp [base, List.range_succ]
theorem base_mono (L : Nat) {j k : Nat} (h : j ≤ k) : base L j ≤ base L k := by
  induction k with
  | zero => have : j = 0 := by omega
            subst this; exact Nat.le_refl _
  | succ k ih =>
    by_cases hj : j = k + 1
    · subst hj; exact Nat.le_refl _
    · rw [base_succ]
      have := ih (by omega)
      omega
def ct1 : List Nat := [1, 1, 2, 5, 14, 42, 132, 429, 1430, 4862, 16796, 58786, 208012, 742900, 2674440, 9694845, 35357670, 129644790, 477638700, 1767263190, 6564120420, 24466267020, 91482563640, 343059613650, 1289904147324, 4861946401452, 18367353072152, 69533550916004, 263747951750360, 1002242216651368, 3814986502092304, 14544636039226909, 55534064877048198, 212336130412243110, 812944042149730764, 3116285494907301262, 11959798385860453492, 45950804324621742364, 176733862787006701400, 680425371729975800390, 2622127042276492108820, 10113918591637898134020, 39044429911904443959240, 150853479205085351660700, 583300119592996693088040, 2257117854077248073253720, 8740328711533173390046320, 33868773757191046886429490, 131327898242169365477991900, 509552245179617138054608572, 1978261657756160653623774456, 7684785670514316385230816156, 29869166945772625950142417512, 116157871455782434250553845880, 451959718027953471447609509424, 1759414616608818870992479875972, 6852456927844873497549658464312, 26700952856774851904245220912664, 104088460289122304033498318812080, 405944995127576985730643443367112, 1583850964596120042686772779038896, 6182127958584855650487080847216336, 24139737743045626825711458546273312, 94295850558771979787935384946380125, 368479169875816659479009042713546950, 1440418573150919668872489894243865350, 5632681584560312734993915705849145100, 22033725021956517463358552614056949950, 86218923998960285726185640663701108500, 337485502510215975556783793455058624700, 1321422108420282270489942177190229544600]
def ct2 : List Nat := [1, 2, 8, 40, 224, 1344, 8448, 54912, 366080, 2489344, 17199104, 120393728, 852017152, 6085836800, 43818024960, 317680680960, 2317200261120, 16992801914880, 125210119372800, 926554883358720, 6882979133521920, 51309480813527040, 383705682605506560, 2877792619541299200, 21641000498950569984, 163139849915165835264, 1232612199359030755328, 9332635223718375718912, 70799301697173884764160, 538074692898521524207616, 4096310565291970313322496, 31234368060351273639084032, 238516992460864271425732608, 1823953471759550310902661120, 13966272298044556666340376576, 107074754285008267775276220416, 821871086944387785085903962112, 6315430457572664032765367287808, 48580234289020492559733594521600, 374067804025457792709948677816320, 2883059172488894207227897126584320, 22240742187771469598615206405079040, 171719218752095997831168570383400960, 1326921235811650892331757134780825600, 10261524223610100234032255175638384640, 79415274426199906159032235707114455040, 615045955130569485997611357391269396480, 4766606152261913516481488019782337822720, 36965517099174023189040111173822211686400, 286852412689590419946951262708860362686464, 2227324616177996201941033333974680463212544, 17304598941075201261234182056264825137266688, 134518769126848734332612886927945433142525952, 1046257093208823489253655787217353368886312960, 8141782470788662789101175944164131670606217216, 63389592093997446000859155565277882292576976896, 493771559469032737269850264403217188384283820032, 3848012842758668918034005508797485674994763563008, 30001456062186232242299026000793956110128665067520, 234011357285052611489932402806192857659003587526656, 1826055837175164640478816782553242626978454223978496, 14255016535367414290189472947673700507380191038799872, 111324891038107425885289217305642232533826253826818048, 869725711235214264728822010200329941670517608022016000, 6797240943192136099726793556642578621055737613464371200, 53142065555865791325136749624660160128253948614357811200, 415618542556323502304054579154058565779180135431693926400, 3251603891764177988614074060440575838154762236024428953600, 25447334805110958171762318733882767429037269673234661376000, 199216278188582929687510723802396522158748911156179920486400, 1560059868631719843750083977945527694651611191589239940710400]
def ct3 : List Nat := [1, 3, 18, 135, 1134, 10206, 96228, 938223, 9382230, 95698746, 991787004, 10413763542, 110546105292, 1184422556700, 12791763612360, 139110429284415, 1522031755700070, 16742349312700770, 185047018719324300, 2054021907784499730, 22887672686741568420, 255925794588110265060, 2870819782770976016760, 32296722556173480188550, 364307030433636856526844, 4119471805672662916111236, 46687347130956846382594008, 530234870987295612488031948, 6033707152614053521415535960, 68784261539800210144137109944, 785471889841589496484662481296, 8983834740063179866043327129823, 102905743386178242101950838032518, 1180389409429691600581200789196530, 13557615502592457812389791921628716, 155912578279813264842482607098730234, 1795101576951363535753988935785380532, 20690907650123611280532819838789386132, 238741242116810899390763305832185224600, 2757461346449165887963316182361739344130, 31878943371144015387673460254621084124820, 368884916151809320914507182946329687730060, 4272202052176768414312199467610981034641160, 49518705604776179347709584738218189265158900, 574416985015403680433431182963330995475843240, 6668231956483164464162005471791711990958701960, 77464992515740591434733084842516483980073431280, 900530537995484375428772111294254126268353638630, 10475559319539308040702042927300507183121664775900, 121935510479437545593771779673777903611536177991476, 1420190063231096119268636022082824995004950778959544, 16550676506116235543784489026580614364865387924028532, 192987133599619501246392721102392824103524712019804392, 2251516558662227514541248412861249614541121640231051240, 26281338739293637533372390564671313682461819873242452656, 306928491705322124050456132665982841934464824948224357804, 3586217113609553238905329550097273205760589007289779338552, 41921641431504777516858852326999159198373781843835696405832, 490270043859971126892078103485244404184371346987231025763120, 5736159513161662184637313810777359528957144759750603001428504, 67141276924547980325099050178607126289760678007572631852786096, 786202694310029576064869523059173769134939552153189205243914608, 9209802990488917891045614412978892724152149039508787832857285408, 107927378794792006535690793902096399111157996556743607416296313375, 1265240963717407830464559768513807017272344513480594290018735242950, 14837825847231419102720746376207373202557494748999696673856076940050, 174067628595879036040873233607447691600152102577817337099266813057900, 2042734817933992217067894712040342027895902615545562279488454659120650, 23979930471399039069927459663082275979647552443360948498342728607068500, 281592897821285858792576740615051869361004115834895709509110327357290100, 3307725025112005721591676079900750127423625811356380587754901591774365400]
theorem ct_step (L : Nat) (l : List Nat) (h0 : l.take 1 = [1]) (N : Nat) (h : ∀ n, n < N → nx L (l.take (n + 1)) = l.take (n + 2)) : ∀ n, n ≤ N → cL L n = l.take (n + 1)
  | 0, _ => h0.symm
  | n + 1, hn => by
    show nx L (cL L n) = _
    rw [ct_step L l h0 N h n (by omega), h n (by omega)]
theorem ct1_ok : ∀ n, n < 70 → nx 1 (ct1.take (n + 1)) = ct1.take (n + 2) := by decide +kernel
theorem ct2_ok : ∀ n, n < 70 → nx 2 (ct2.take (n + 1)) = ct2.take (n + 2) := by decide +kernel
theorem ct3_ok : ∀ n, n < 70 → nx 3 (ct3.take (n + 1)) = ct3.take (n + 2) := by decide +kernel
theorem C_bound {L : Nat} (h1 : 1 ≤ L) (h3 : L ≤ 3) {n : Nat} (hn : n ≤ 70) : C L n < 2 ^ 250 := by
  have key : ∀ (l : List Nat), cL L n = l.take (n + 1) → (l.all fun c => decide (c < 2 ^ 250)) = true → C L n < 2 ^ 250 := fun l e h => by
    unfold C
    rw [e]
    have hl := cL_len L n
    rw [e] at hl
    rw [List.getD_eq_getElem?_getD, List.getElem?_eq_getElem (by omega)]
    have := List.all_eq_true.mp h _ (List.mem_of_mem_take (List.getElem_mem (l := l.take (n + 1)) (n := n) (by omega)))
    exact of_decide_eq_true this
  have : L = 1 ∨ L = 2 ∨ L = 3 := by omega
  rcases this with rfl | rfl | rfl
  · exact key ct1 (ct_step 1 ct1 rfl 70 ct1_ok n hn) (by decide +kernel)
  · exact key ct2 (ct_step 2 ct2 rfl 70 ct2_ok n hn) (by decide +kernel)
  · exact key ct3 (ct_step 3 ct3 rfl 70 ct3_ok n hn) (by decide +kernel)
/-! ### the number of a tree -/
def T.nu (lt : List Nat) : T → Nat
  | .leaf => 0
  | .node c l r => lt.idxOf c * P lt.length (l.sz + r.sz) (l.sz + r.sz + 1) + P lt.length (l.sz + r.sz) l.sz + l.nu lt * C lt.length r.sz + r.nu lt
def T.inn (lt : List Nat) : T → Prop
  | .leaf => True
  | .node c l r => c ∈ lt ∧ l.inn lt ∧ r.inn lt
/-- behind the letter -/
def T.nx (lt : List Nat) (l r : T) : Nat := P lt.length (l.sz + r.sz) l.sz + (l.nu lt * C lt.length r.sz + r.nu lt)
theorem T.nu_lt {lt : List Nat} (hL : 0 < lt.length) : ∀ {t : T}, t.inn lt → t.nu lt < C lt.length t.sz
  | .leaf, _ => by show 0 < C _ 0; rw [C_zero]; decide
  | .node c l r, h => by
    have h1 := T.nu_lt hL h.2.1
    have h2 := T.nu_lt hL h.2.2
    have hi : lt.idxOf c < lt.length := List.idxOf_lt_length_of_mem h.1
    have e : (T.node c l r).sz = l.sz + r.sz + 1 := rfl
    rw [e, C_succ]
    have hY : l.nu lt * C lt.length r.sz + r.nu lt < C lt.length l.sz * C lt.length r.sz := by
      have : (l.nu lt + 1) * C lt.length r.sz ≤ C lt.length l.sz * C lt.length r.sz := Nat.mul_le_mul_right _ h1
      rw [Nat.succ_mul] at this
      omega
    have hP : P lt.length (l.sz + r.sz) (l.sz + 1) = P lt.length (l.sz + r.sz) l.sz + C lt.length l.sz * C lt.length r.sz := by
      rw [P_succ]; congr 2; congr 1; omega
    have hM := P_mono lt.length (l.sz + r.sz) (show l.sz + 1 ≤ l.sz + r.sz + 1 by omega)
    have hm : (lt.idxOf c + 1) * P lt.length (l.sz + r.sz) (l.sz + r.sz + 1) ≤ lt.length * P lt.length (l.sz + r.sz) (l.sz + r.sz + 1) := Nat.mul_le_mul_right _ hi
    rw [Nat.succ_mul] at hm
    show lt.idxOf c * _ + _ + _ + _ < _
    omega
end TB
end
section
set_option Elab.async false
set_option linter.all false
set_option maxRecDepth 100000
set_option maxHeartbeats 4000000
namespace TB
open PySem PySem.Spec L2
/-! ### the order of the numbers -/
theorem T.nu_node (lt : List Nat) (c : Nat) (l r : T) : (T.node c l r).nu lt = lt.idxOf c * P lt.length (l.sz + r.sz) (l.sz + r.sz + 1) + T.nx lt l r := by
  show _ + _ + _ + _ = _
  unfold T.nx
  omega
theorem T.nY {lt : List Nat} (hL : 0 < lt.length) {l r : T} (hl : l.inn lt) (hr : r.inn lt) : l.nu lt * C lt.length r.sz + r.nu lt < C lt.length l.sz * C lt.length r.sz := by
  have h1 := T.nu_lt hL hl
  have h2 := T.nu_lt hL hr
  have : (l.nu lt + 1) * C lt.length r.sz ≤ C lt.length l.sz * C lt.length r.sz := Nat.mul_le_mul_right _ h1
  rw [Nat.succ_mul] at this
  omega
theorem P_at (L a b : Nat) : P L (a + b) (a + 1) = P L (a + b) a + C L a * C L b := by
  rw [P_succ, show a + b - a = b by omega]
theorem T.nx_lt {lt : List Nat} (hL : 0 < lt.length) {l r : T} (hl : l.inn lt) (hr : r.inn lt) : T.nx lt l r < P lt.length (l.sz + r.sz) (l.sz + 1) := by
  rw [P_at]
  have := T.nY hL hl hr
  unfold T.nx
  omega
theorem T.nx_lt2 {lt : List Nat} (hL : 0 < lt.length) {l r : T} (hl : l.inn lt) (hr : r.inn lt) : T.nx lt l r < P lt.length (l.sz + r.sz) (l.sz + r.sz + 1) :=
  Nat.lt_of_lt_of_le (T.nx_lt hL hl hr) (P_mono _ _ (by omega))
theorem lex2 {a b x y S : Nat} (hx : x < S) (hy : y < S) : (a * S + x < b * S + y ↔ a < b ∨ (a = b ∧ x < y)) ∧ (a * S + x = b * S + y → a = b ∧ x = y) := by
  have h1 : ∀ {a b x y : Nat}, x < S → a < b → a * S + x < b * S + y := fun {a b x y} hx h => by
    have : (a + 1) * S ≤ b * S := Nat.mul_le_mul_right _ h
    rw [Nat.succ_mul] at this
    omega
  refine ⟨⟨fun h => ?_, fun h => ?_⟩, fun h => ?_⟩
  · rcases Nat.lt_trichotomy a b with q | q | q
    · exact .inl q
    · subst q; exact .inr ⟨rfl, by omega⟩
    · have := h1 (x := y) (y := x) hy q; omega
  · rcases h with q | ⟨rfl, q⟩
    · exact h1 hx q
    · omega
  · rcases Nat.lt_trichotomy a b with q | q | q
    · have := h1 (x := x) (y := y) hx q; omega
    · subst q; exact ⟨rfl, by omega⟩
    · have := h1 (x := y) (y := x) hy q; omega
/-- comes before, as the program says it -/
def T.cb (lt : List Nat) : T → T → Bool
  | .leaf, t => decide (0 < t.sz)
  | .node c l r, .leaf => false
  | .node c l r, .node c' l' r' => if l.sz + r.sz ≠ l'.sz + r'.sz then decide (l.sz + r.sz < l'.sz + r'.sz) else if (T.node c l r).tx = (T.node c' l' r').tx then false
    else if c ≠ c' then decide (lt.idxOf c < lt.idxOf c') else if l.tx ≠ l'.tx then T.cb lt l l' else T.cb lt r r'
theorem T.tx_inj : ∀ {a b : T} {x y : List Nat}, a.ok → b.ok → a.tx ++ x = b.tx ++ y → a = b ∧ x = y
  | .leaf, .leaf, x, y, _, _, h => ⟨rfl, by simpa [T.tx] using h⟩
  | .leaf, .node c l r, x, y, _, hb, h => by
    have h : 46 :: x = c :: (l.tx ++ r.tx ++ y) := h
    exact absurd (List.cons.inj h).1.symm hb.1
  | .node c l r, .leaf, x, y, ha, _, h => by
    have h : c :: (l.tx ++ r.tx ++ x) = 46 :: y := h
    exact absurd (List.cons.inj h).1 ha.1
  | .node c l r, .node c' l' r', x, y, ha, hb, h => by
    have h : c :: (l.tx ++ r.tx ++ x) = c' :: (l'.tx ++ r'.tx ++ y) := h
    obtain ⟨hc, h2⟩ := List.cons.inj h
    rw [List.append_assoc, List.append_assoc] at h2
    obtain ⟨hl, h3⟩ := T.tx_inj ha.2.1 hb.2.1 h2
    obtain ⟨hr, h4⟩ := T.tx_inj ha.2.2 hb.2.2 h3
    exact ⟨by rw [hc, hl, hr], h4⟩
theorem T.tx_eq {a b : T} (ha : a.ok) (hb : b.ok) : a.tx = b.tx ↔ a = b :=
  ⟨fun h => (T.tx_inj (x := []) (y := []) ha hb (by simpa using h)).1, fun h => by rw [h]⟩
def T.num (lt : List Nat) (t : T) : Nat := base lt.length t.sz + t.nu lt
theorem T.num_sz {lt : List Nat} (hL : 0 < lt.length) {a b : T} (ha : a.inn lt) (h : a.sz < b.sz) : a.num lt < b.num lt := by
  have h1 := T.nu_lt hL ha
  have h2 := base_succ lt.length a.sz
  have h3 := base_mono lt.length (show a.sz + 1 ≤ b.sz from h)
  unfold T.num
  omega
/-- same sizes: by the places behind -/
theorem T.tri {lt : List Nat} (hL : 0 < lt.length) (hn : lt.Nodup) : ∀ {a b : T}, a.ok → b.ok → a.inn lt → b.inn lt → (a.num lt = b.num lt → a = b) ∧ (a.num lt < b.num lt ↔ T.cb lt a b = true)
  | .leaf, .leaf, _, _, _, _ => ⟨fun _ => rfl, by simp [T.cb, T.sz]⟩
  | .leaf, .node c l r, _, _, ha, hb => by
    have h := T.num_sz (a := .leaf) (b := .node c l r) hL ha (by simp [T.sz])
    refine ⟨fun e => by omega, ?_⟩
    simp [T.cb, T.sz, h]
  | .node c l r, .leaf, _, _, ha, hb => by
    have h := T.num_sz (a := .leaf) (b := .node c l r) hL hb (by simp [T.sz])
    refine ⟨fun e => by omega, ?_⟩
    simp only [T.cb, Bool.false_eq_true, iff_false]
    omega
  | .node c l r, .node c' l' r', hao, hbo, ha, hb => by
    have hsa : (T.node c l r).sz = l.sz + r.sz + 1 := rfl
    have hsb : (T.node c' l' r').sz = l'.sz + r'.sz + 1 := rfl
    by_cases hs : l.sz + r.sz = l'.sz + r'.sz
    · have ih1 := T.tri hL hn hao.2.1 hbo.2.1 ha.2.1 hb.2.1
      have ih2 := T.tri hL hn hao.2.2 hbo.2.2 ha.2.2 hb.2.2
      have hnum : ∀ {x y : Nat}, (base lt.length (T.node c l r).sz + x < base lt.length (T.node c' l' r').sz + y ↔ x < y) ∧ (base lt.length (T.node c l r).sz + x = base lt.length (T.node c' l' r').sz + y ↔ x = y) := fun {x y} => by
        rw [hsa, hsb, hs]; omega
      have hx1 := T.nx_lt2 hL ha.2.1 ha.2.2
      have hx2 := T.nx_lt2 hL hb.2.1 hb.2.2
      have L1 := lex2 (a := lt.idxOf c) (b := lt.idxOf c') (x := T.nx lt l r) (y := T.nx lt l' r') hx1 (by rw [hs]; exact hx2)
      -- behind the letter
      have hX : (T.nx lt l r < T.nx lt l' r' ↔ l.sz < l'.sz ∨ (l.sz = l'.sz ∧ (l.nu lt < l'.nu lt ∨ (l.nu lt = l'.nu lt ∧ r.nu lt < r'.nu lt)))) ∧ (T.nx lt l r = T.nx lt l' r' → l.sz = l'.sz ∧ l.nu lt = l'.nu lt ∧ r.nu lt = r'.nu lt) := by
        have k1 := T.nx_lt hL ha.2.1 ha.2.2
        have k2 := T.nx_lt hL hb.2.1 hb.2.2
        have far : ∀ {l r l' r' : T}, l.inn lt → r.inn lt → l.sz + r.sz = l'.sz + r'.sz → l.sz < l'.sz → T.nx lt l r < T.nx lt l' r' := fun {l r l' r'} h1 h2 hs h => by
          have k1 := T.nx_lt hL h1 h2
          have k3 := P_mono lt.length (l.sz + r.sz) (show l.sz + 1 ≤ l'.sz from h)
          have : P lt.length (l'.sz + r'.sz) l'.sz ≤ T.nx lt l' r' := by unfold T.nx; omega
          rw [← hs] at this
          omega
        rcases Nat.lt_trichotomy l.sz l'.sz with q | q | q
        · have := far ha.2.1 ha.2.2 hs q
          exact ⟨⟨fun _ => .inl q, fun _ => this⟩, fun e => by omega⟩
        · have hr : r.sz = r'.sz := by omega
          have L2 := lex2 (a := l.nu lt) (b := l'.nu lt) (x := r.nu lt) (y := r'.nu lt) (S := C lt.length r.sz) (T.nu_lt hL ha.2.2) (by rw [hr]; exact T.nu_lt hL hb.2.2)
          have e1 : T.nx lt l r = P lt.length (l.sz + r.sz) l.sz + (l.nu lt * C lt.length r.sz + r.nu lt) := rfl
          have e2 : T.nx lt l' r' = P lt.length (l.sz + r.sz) l.sz + (l'.nu lt * C lt.length r.sz + r'.nu lt) := by unfold T.nx; rw [← hs, ← q, ← hr]
          rw [e1, e2]
          refine ⟨⟨fun h => .inr ⟨q, L2.1.mp (by omega)⟩, fun h => ?_⟩, fun h => ⟨q, L2.2 (by omega)⟩⟩
          rcases h with h | ⟨_, h⟩
          · omega
          · have := L2.1.mpr h; omega
        · have := far hb.2.1 hb.2.2 hs.symm q
          refine ⟨⟨fun h => by omega, fun h => ?_⟩, fun e => by omega⟩
          rcases h with h | ⟨h, _⟩ <;> omega
      -- the parts by their numbers
      have hnl : l.num lt = l'.num lt → l = l' := ih1.1
      have sub : ∀ {a b : T}, a.sz = b.sz → ((a.num lt < b.num lt ↔ a.nu lt < b.nu lt) ∧ (a.num lt = b.num lt ↔ a.nu lt = b.nu lt)) := fun {a b} h => by
        unfold T.num; rw [h]; omega
      have inj : (T.node c l r).num lt = (T.node c' l' r').num lt → T.node c l r = T.node c' l' r' := fun e => by
        have e := hnum.2.mp e
        rw [T.nu_node, T.nu_node, ← hs] at e
        obtain ⟨i1, i2⟩ := L1.2 e
        obtain ⟨j1, j2, j3⟩ := hX.2 i2
        have hc : c = c' := by
          have h1 := List.getElem_idxOf (List.idxOf_lt_length_of_mem ha.1)
          have h2 := List.getElem_idxOf (List.idxOf_lt_length_of_mem hb.1)
          rw [← h1, ← h2]
          congr 1
        have hl := ih1.1 ((sub j1).2.mpr j2)
        have hr := ih2.1 ((sub (by omega)).2.mpr j3)
        rw [hc, hl, hr]
      refine ⟨inj, ?_⟩
      have hlt : (T.node c l r).num lt < (T.node c' l' r').num lt ↔ lt.idxOf c < lt.idxOf c' ∨ (lt.idxOf c = lt.idxOf c' ∧ (l.sz < l'.sz ∨ (l.sz = l'.sz ∧ (l.nu lt < l'.nu lt ∨ (l.nu lt = l'.nu lt ∧ r.nu lt < r'.nu lt))))) := by
        rw [← hX.1, ← L1.1]
        have := T.nu_node lt c l r
        have := T.nu_node lt c' l' r'
        rw [← hs] at this
        refine Iff.trans ?_ (by rfl)
        unfold T.num
        refine hnum.1.trans ?_
        omega
      rw [hlt]
      unfold T.cb
      rw [if_neg (by simpa using hs)]
      by_cases he : (T.node c l r).tx = (T.node c' l' r').tx
      · rw [if_pos he]
        have := (T.tx_eq hao hbo).mp he
        injection this with e1 e2 e3
        subst e1 e2 e3
        simp
      · rw [if_neg he]
        by_cases hc : c = c'
        · subst hc
          rw [if_neg (by simp)]
          by_cases hl : l.tx = l'.tx
          · rw [if_neg (by simpa using hl), ← ih2.2]
            have hl := (T.tx_eq hao.2.1 hbo.2.1).mp hl
            subst hl
            have hr : r.sz = r'.sz := by omega
            rw [(sub hr).1]
            simp
          · rw [if_pos (by simpa using hl), ← ih1.2]
            have hl' : l ≠ l' := fun z => hl (by rw [z])
            rcases Nat.lt_trichotomy l.sz l'.sz with q | q | q
            · have := T.num_sz hL (b := l') ha.2.1 q
              simp [q, this]
            · rw [(sub q).1]
              have : l.nu lt ≠ l'.nu lt := fun z => hl' (ih1.1 ((sub q).2.mpr z))
              simp [q, this]
            · have := T.num_sz hL (b := l) hb.2.1 q
              have h1 : ¬ l.sz < l'.sz := by omega
              have h2 : ¬ l.sz = l'.sz := by omega
              have h3 : ¬ l.num lt < l'.num lt := by omega
              simp [h1, h2, h3]
        · rw [if_pos hc]
          have : lt.idxOf c ≠ lt.idxOf c' := fun z => by
            have h1 := List.getElem_idxOf (List.idxOf_lt_length_of_mem ha.1)
            have h2 := List.getElem_idxOf (List.idxOf_lt_length_of_mem hb.1)
            apply hc
            rw [← h1, ← h2]
            congr 1
          simp [this]
    · have hlt : ∀ {a b : T}, a.inn lt → a.sz < b.sz → a.num lt < b.num lt := fun h1 h2 => T.num_sz hL h1 h2
      unfold T.cb
      rw [if_pos (by simpa using hs)]
      rcases Nat.lt_or_gt_of_ne hs with q | q
      · have := hlt (b := .node c' l' r') ha (by rw [hsa, hsb]; omega)
        refine ⟨fun e => by omega, ?_⟩
        simp [this, q]
      · have := hlt (b := .node c l r) hb (by rw [hsa, hsb]; omega)
        refine ⟨fun e => by omega, ?_⟩
        have h3 : ¬ l.sz + r.sz < l'.sz + r'.sz := by omega
        simp only [h3, decide_false, Bool.false_eq_true, iff_false]
        omega
end TB
end
section
set_option Elab.async false
set_option linter.all false
set_option maxRecDepth 100000
set_option maxHeartbeats 4000000
namespace TB
open PySem PySem.Spec L2
/-! ### comprehensions -/
def StC (g : DenG) (vs : List Nat) (δc δe : Den) (d : D) (acc acc' : List D) (ρ ρ' : VE) : Prop := ∃ ρ1 b1 p1 ρ2, g d ρ = some ρ1 ∧
  ((δc ρ1 = .ok (.bl false) b1 p1 ρ2 ∧ ρ' = wipeE ρ2 vs ∧ acc' = acc ∧ (p1 = true → ρ' = ρ)) ∨
   ∃ y b2 p2 ρ3, δc ρ1 = .ok (.bl true) b1 p1 ρ2 ∧ δe ρ2 = .ok y b2 p2 ρ3 ∧ ρ' = wipeE (fz b2 ρ3) vs ∧ acc' = acc ++ [y] ∧ ((p1 && p2 && b2.isEmpty) = true → ρ' = ρ))
theorem loopC_inv {g : DenG} {vs : List Nat} {δc δe : Den} : ∀ {items : List D} {ρ : VE} {acc : List D} {P : Bool} (I : Nat → List D → VE → Prop),
    (∀ i d acc ρ, items[i]? = some d → I i acc ρ → ∃ acc' ρ', StC g vs δc δe d acc acc' ρ ρ' ∧ I (i + 1) acc' ρ') → acc.length + items.length ≤ 16777216 → I 0 acc ρ →
    ∃ acc' P' ρ', loopC g vs δc δe items ρ acc P = .ok acc' P' ρ' ∧ I items.length acc' ρ' ∧ (P' = true → ρ' = ρ)
  | [], ρ, acc, P, I, _, _, h0 => ⟨acc, P, ρ, rfl, h0, fun _ => rfl⟩
  | d :: ds, ρ, acc, P, I, h, hl, h0 => by
    obtain ⟨acc1, ρ', ⟨ρ1, b1, p1, ρ2, e1, hs⟩, h1⟩ := h 0 d acc ρ rfl h0
    have hl' : acc.length < 16777216 := by simp at hl; omega
    have step : ∃ Q : Bool, loopC g vs δc δe (d :: ds) ρ acc P = loopC g vs δc δe ds ρ' acc1 Q ∧ (Q = true → ρ' = ρ) ∧ acc1.length ≤ acc.length + 1 := by
      rcases hs with ⟨e2, rfl, rfl, hp⟩ | ⟨y, b2, p2, ρ3, e2, e3, rfl, rfl, hp⟩
      · exact ⟨P && p1, by simp [loopC, e1, e2], fun q => hp (by simp at q; exact q.2), by omega⟩
      · exact ⟨P && p1 && p2 && b2.isEmpty, by simp [loopC, e1, e2, e3, hl'], fun q => hp (by simp at q ⊢; exact ⟨⟨q.1.1.2, q.1.2⟩, q.2⟩), by simp⟩
    obtain ⟨Q, e, hq, hn⟩ := step
    obtain ⟨acc2, P2, ρ4, e4, h4, hp4⟩ := loopC_inv (items := ds) (ρ := ρ') (acc := acc1) (P := Q) (fun i => I (i + 1)) (fun i d acc ρ hi hI => h (i + 1) d acc ρ (by simpa using hi) hI) (by simp at hl; omega) h1
    refine ⟨acc2, P2, ρ4, e.trans e4, h4, fun z => ?_⟩
    have := hp4 z
    subst this
    refine hq ?_
    -- a pure run keeps purity
    cases Q with
    | true => rfl
    | false =>
      exfalso
      have : ∀ (ds : List D) (ρ : VE) (acc : List D) (A : List D) (B : Bool) (C : VE), loopC g vs δc δe ds ρ acc false = .ok A B C → B = false := by
        intro ds
        induction ds with
        | nil => intro ρ acc A B C h; simp [loopC] at h; exact h.2.1
        | cons x xs ih =>
          intro ρ acc A B C h
          simp only [loopC] at h
          repeat' split at h
          all_goals first | (cases h; done) | (simp only [Bool.false_and] at h; exact ih _ _ _ _ _ h)
      have := this _ _ _ _ _ _ e4
      rw [this] at z
      cases z
theorem comp_inv {δi : DenI} {g : DenG} {vs : List Nat} {δc δe : Den} {ρ ρ' : VE} {items hold : List D} {bs : List Nat} {pu : Bool} (I : Nat → List D → VE → Prop) (hi : δi ρ = .ok items hold bs pu ρ') (hb : fz bs (wipeE ρ' vs) = wipeE ρ' vs)
    (h : ∀ i d acc ρ, items[i]? = some d → I i acc ρ → ∃ acc' ρ', StC g vs δc δe d acc acc' ρ ρ' ∧ I (i + 1) acc' ρ') (hl : items.length ≤ 16777216) (h0 : I 0 [] (wipeE ρ' vs)) (hpu : pu = true → ρ' = ρ) :
    ∃ acc bs' p' ρe, dComp δi g vs δc δe ρ = .ok (.lst true acc) bs' p' ρe ∧ fz bs' ρe = ρe ∧ I items.length acc ρe ∧ (p' = true → ρe = ρ) := by
  obtain ⟨acc, P, ρe, e, hI, hp⟩ := loopC_inv (P := true) I h (by simpa using hl) h0
  cases P with
  | true =>
    have := hp rfl
    subst this
    refine ⟨acc, if imms acc then [] else bs, pu && noneAt vs ρ', wipeE ρ' vs, by simp [dComp, hi, hb, e], ?_, hI, fun z => by
      rw [Bool.and_eq_true] at z
      rw [noneAt_wipe z.2, hpu z.1]⟩
    split
    · rfl
    · exact hb
  | false => exact ⟨acc, [], false, ρe, by simp [dComp, hi, hb, e], rfl, hI, fun z => nomatch z⟩
/-- .. of parts that change nothing: what each item gives -/
theorem comp_map {δi : DenI} {g : DenG} {vs : List Nat} {δc δe : Den} {ρ ρ' : VE} {items hold : List D} {bs : List Nat} {pu : Bool} (F : D → Option D) (hi : δi ρ = .ok items hold bs pu ρ') (hb : fz bs (wipeE ρ' vs) = wipeE ρ' vs)
    (h : ∀ d ∈ items, ∃ ρ1, g d (wipeE ρ' vs) = some ρ1 ∧ wipeE ρ1 vs = wipeE ρ' vs ∧ ((F d = none ∧ Pu δc ρ1 (.bl false)) ∨ ∃ y, F d = some y ∧ Pu δc ρ1 (.bl true) ∧ Pu δe ρ1 y)) (hl : items.length ≤ 16777216) (hpu : pu = true → ρ' = ρ) :
    ∃ bs' p', dComp δi g vs δc δe ρ = .ok (.lst true (items.filterMap F)) bs' p' (wipeE ρ' vs) ∧ fz bs' (wipeE ρ' vs) = wipeE ρ' vs := by
  obtain ⟨acc, bs', p', ρe, e, hf, hI, _⟩ := comp_inv (I := fun i acc ρ => acc = (items.take i).filterMap F ∧ ρ = wipeE ρ' vs) hi hb (fun i d acc ρ hd hI => by
    obtain ⟨rfl, rfl⟩ := hI
    obtain ⟨ρ1, e1, e2, hc⟩ := h d (List.mem_of_getElem? hd)
    have ht : (items.take (i + 1)).filterMap F = (items.take i).filterMap F ++ [d].filterMap F := by
      rw [List.take_add_one, hd, List.filterMap_append]; rfl
    rcases hc with ⟨hF, bs1, q1, f1⟩ | ⟨y, hF, ⟨bs1, q1, f1⟩, bs2, q2, f2⟩
    · exact ⟨_, _, ⟨ρ1, bs1, true, ρ1, e1, .inl ⟨q1, rfl, rfl, fun _ => e2⟩⟩, by rw [ht]; simp [hF], e2⟩
    · exact ⟨_, _, ⟨ρ1, bs1, true, ρ1, e1, .inr ⟨y, bs2, true, ρ1, q1, q2, rfl, rfl, fun _ => by rw [f2]; exact e2⟩⟩, by rw [ht]; simp [hF], by rw [f2]; exact e2⟩) hl ⟨by simp, rfl⟩ hpu
  obtain ⟨rfl, rfl⟩ := hI
  rw [List.take_length] at e
  exact ⟨bs', p', e, hf⟩
theorem pu_true {ρ : VE} : Pu dTrue ρ (.bl true) := ⟨[], rfl, rfl⟩
end TB
end
section
set_option Elab.async false
set_option linter.all false
set_option maxRecDepth 100000
set_option maxHeartbeats 4000000
namespace TB
open PySem PySem.Spec L2
/-! ### what comes, and the names behind it, all that was read being frozen -/
def Ev (δ : Den) (ρ : VE) (d : D) (ρ' : VE) : Prop := ∃ bs p, δ ρ = .ok d bs p ρ' ∧ fz bs ρ' = ρ' ∧ (p = true → ρ' = ρ)
def EvA (δs : DenA) (ρ : VE) (ds : List D) (ρ' : VE) : Prop := ∃ as bs p, δs ρ = .ok as bs p ρ' ∧ vals as = some ds ∧ fz bs ρ' = ρ' ∧ (p = true → ρ' = ρ)
section
variable {ρ ρ1 ρ2 ρ3 : VE} {δ δa δb δc : Den} {δs : DenA} {a b d : D} {ds : List D} {i : Nat}
theorem Pu.ev (h : Pu δ ρ d) : Ev δ ρ d ρ := by
  obtain ⟨bs, e, f⟩ := h
  exact ⟨bs, true, e, f, fun _ => rfl⟩
theorem PuA.ev (h : PuA δs ρ ds) : EvA δs ρ ds ρ := by
  obtain ⟨as, bs, e, v, f⟩ := h
  exact ⟨as, bs, true, e, v, f, fun _ => rfl⟩
theorem evA_nil : EvA dNil ρ [] ρ := ⟨[], [], true, rfl, rfl, rfl, fun _ => rfl⟩
theorem evA_cons (h : Ev δ ρ d ρ1) (hs : EvA δs ρ1 ds ρ2) : EvA (dCons δ δs) ρ (d :: ds) ρ2 := by
  obtain ⟨b, p, e, f, q⟩ := h
  obtain ⟨as, bs, ps, es, ev, fs, qs⟩ := hs
  cases ps with
  | true =>
    have := qs rfl
    subst this
    exact ⟨.v d :: as, b ++ bs, p, by simp [dCons, e, f, es], by simp [vals, ev], by rw [fz_app, f, fs], q⟩
  | false => exact ⟨.v d :: as, bs, false, by simp [dCons, e, f, es], by simp [vals, ev], fs, fun z => nomatch z⟩
theorem ev_op {f : List D → Option D} (h : EvA δs ρ ds ρ1) (e : f ds = some d) : Ev (dOp f δs) ρ d ρ1 := by
  obtain ⟨as, bs, p, es, ev, fs, q⟩ := h
  refine ⟨if clean d then [] else bs, p, by simp [dOp, opR, es, ev, e], ?_, q⟩
  split
  · rfl
  · exact fs
theorem ev_op1 {g : D → Option D} (h : Ev δ ρ a ρ1) (e : g a = some d) : Ev (dOp (one g) (dCons δ dNil)) ρ d ρ1 := ev_op (evA_cons h evA_nil) e
theorem ev_op2 {g : D → D → Option D} (h : Ev δa ρ a ρ1) (h2 : Ev δb ρ1 b ρ2) (e : g a b = some d) : Ev (dOp (two g) (dCons δa (dCons δb dNil))) ρ d ρ2 := ev_op (evA_cons h (evA_cons h2 evA_nil)) e
theorem ev_call {g : List D → FR} (h : EvA δs ρ ds ρ1) (e : g (frs ds) = .ok d []) : Ev (dCall0 g δs) ρ d ρ1 := by
  obtain ⟨as, bs, p, es, ev, fs, q⟩ := h
  refine ⟨if clean d then [] else bs, p, by simp [dCall0, es, ev, e], ?_, q⟩
  split
  · rfl
  · exact fs
theorem ev_disp {f : List D → Option D} (h : EvA δs ρ ds ρ1) (e : f ds = some d) : Ev (dDisp f δs) ρ d ρ1 := by
  obtain ⟨as, bs, p, es, ev, fs, q⟩ := h
  exact ⟨bs, p, by simp [dDisp, opRM, es, ev, e], fs, q⟩
theorem ev_not {x : Bool} (h : Ev δ ρ (.bl x) ρ1) : Ev (dNot δ) ρ (.bl !x) ρ1 := by
  obtain ⟨bs, p, e, _, q⟩ := h
  exact ⟨[], p, by simp [dNot, e], rfl, q⟩
theorem ev_and_f (h : Ev δa ρ (.bl false) ρ1) : Ev (dAnd δa δb) ρ (.bl false) ρ1 := by
  obtain ⟨bs, p, e, _, q⟩ := h
  exact ⟨[], p, by simp [dAnd, e], rfl, q⟩
theorem ev_and_t (h : Ev δa ρ (.bl true) ρ1) (h2 : Ev δb ρ1 d ρ2) : Ev (dAnd δa δb) ρ d ρ2 := by
  obtain ⟨bs, p, e, _, q⟩ := h
  obtain ⟨bs2, p2, e2, f2, q2⟩ := h2
  exact ⟨bs2, p && p2, by simp [dAnd, e, e2, andP], f2, fun z => by
    simp at z
    rw [q2 z.2, q z.1]⟩
theorem ev_or_t (h : Ev δa ρ (.bl true) ρ1) : Ev (dOr δa δb) ρ (.bl true) ρ1 := by
  obtain ⟨bs, p, e, _, q⟩ := h
  exact ⟨[], p, by simp [dOr, e], rfl, q⟩
theorem ev_or_f (h : Ev δa ρ (.bl false) ρ1) (h2 : Ev δb ρ1 d ρ2) : Ev (dOr δa δb) ρ d ρ2 := by
  obtain ⟨bs, p, e, _, q⟩ := h
  obtain ⟨bs2, p2, e2, f2, q2⟩ := h2
  exact ⟨bs2, p && p2, by simp [dOr, e, e2, andP], f2, fun z => by
    simp at z
    rw [q2 z.2, q z.1]⟩
theorem ev_if_t (h : Ev δc ρ (.bl true) ρ1) (h2 : Ev δa ρ1 d ρ2) : Ev (dIf δc δa δb) ρ d ρ2 := by
  obtain ⟨bs, p, e, _, q⟩ := h
  obtain ⟨bs2, p2, e2, f2, q2⟩ := h2
  exact ⟨bs2, p && p2, by simp [dIf, e, e2, andP], f2, fun z => by
    simp at z
    rw [q2 z.2, q z.1]⟩
theorem ev_if_f (h : Ev δc ρ (.bl false) ρ1) (h2 : Ev δb ρ1 d ρ2) : Ev (dIf δc δa δb) ρ d ρ2 := by
  obtain ⟨bs, p, e, _, q⟩ := h
  obtain ⟨bs2, p2, e2, f2, q2⟩ := h2
  exact ⟨bs2, p && p2, by simp [dIf, e, e2, andP], f2, fun z => by
    simp at z
    rw [q2 z.2, q z.1]⟩
/-- a call that writes one list of the names -/
theorem ev_callIo {g : List D → FR} {j : Nat} {u w : D} (hj : j = 0) (hi : ρ[i]? = some (some u)) (h : EvA δs ρ ds ρ1) (hi1 : ρ1[i]? = some (some u)) (e : g (u :: frs ds) = .ok d [w]) : Ev (dCallIo j g (dIo i δs)) ρ d (ρ1.set i (some w)) := by
  obtain ⟨as, bs, p, es, ev, fs, q⟩ := h
  subst hj
  refine ⟨[], false, ?_, rfl, fun z => nomatch z⟩
  simp [dCallIo, dIo, hi, es, splitIo, ev, fs, hi1, frs, e]
theorem sev_ret (h : Ev δ ρ d ρ1) : dRet δ ρ = .rt d ρ1 := by
  obtain ⟨bs, p, e, f, _⟩ := h
  simp [dRet, e, f]
theorem sev_exp (h : Ev δ ρ d ρ1) : dExp δ ρ = .nx ρ1 := by
  obtain ⟨bs, p, e, f, _⟩ := h
  simp [dExp, e]
theorem sev_asg {g : DenG} (h : Ev δ ρ d ρ1) (hg : g d ρ1 = some ρ2) : dAsg g δ ρ = .nx ρ2 := by
  obtain ⟨bs, p, e, f, _⟩ := h
  simp [dAsg, e, f, hg]
theorem sev_if_t {ς1 ς2 : DenS} (h : Ev δ ρ (.bl true) ρ1) : dIfS δ ς1 ς2 ρ = ς1 ρ1 := by
  obtain ⟨bs, p, e, f, _⟩ := h
  simp [dIfS, e]
theorem sev_if_f {ς1 ς2 : DenS} (h : Ev δ ρ (.bl false) ρ1) : dIfS δ ς1 ς2 ρ = ς2 ρ1 := by
  obtain ⟨bs, p, e, f, _⟩ := h
  simp [dIfS, e]
theorem sev_for {f : List D → Option (List D × List D)} {items hold : List D} {g : DenG} {ς : DenS} (h : EvA δs ρ ds ρ1) (e : f ds = some (items, hold)) : dFor (dIt f δs) g ς ρ = loopF g ς items ρ1 := by
  obtain ⟨as, bs, p, es, ev, fs, _⟩ := h
  simp [dFor, dIt, itR, es, ev, e, fs]
/-! what is wiped -/
theorem fz1_set : ∀ (i j : Nat) (ρ : VE), fz1 i (ρ.set j none) = (fz1 i ρ).set j none
  | i, j, [] => by cases i <;> cases j <;> rfl
  | 0, 0, x :: ρ => rfl
  | 0, j + 1, x :: ρ => rfl
  | i + 1, 0, x :: ρ => rfl
  | i + 1, j + 1, x :: ρ => by simp [fz1, fz1_set i j ρ]
theorem fz_set (bs : List Nat) (j : Nat) (ρ : VE) : fz bs (ρ.set j none) = (fz bs ρ).set j none := by
  induction bs generalizing ρ with
  | nil => rfl
  | cons i bs ih => show fz bs (fz1 i (ρ.set j none)) = _; rw [fz1_set, ih]; rfl
theorem fz_wipe (bs : List Nat) (ρ : VE) : ∀ vs : List Nat, fz bs (wipeE ρ vs) = wipeE (fz bs ρ) vs
  | [] => rfl
  | v :: vs => by show fz bs ((wipeE ρ vs).set v none) = _; rw [fz_set, fz_wipe bs ρ vs]; rfl
theorem ev_comp {δi : DenA} {f : List D → Option (List D × List D)} {g : DenG} {vs : List Nat} {items hold : List D} (F : D → Option D) (hi : EvA δi ρ ds ρ1) (hf : f ds = some (items, hold)) (hw : wipeE ρ1 vs = ρ2)
    (h : ∀ d ∈ items, ∃ ρ3, g d ρ2 = some ρ3 ∧ wipeE ρ3 vs = ρ2 ∧ ((F d = none ∧ Pu δc ρ3 (.bl false)) ∨ ∃ y, F d = some y ∧ Pu δc ρ3 (.bl true) ∧ Pu δ ρ3 y)) (hl : items.length ≤ 16777216) (hq : ρ2 = ρ ∨ True) :
    ∃ bs p, dComp (dIt f δi) g vs δc δ ρ = .ok (.lst true (items.filterMap F)) bs p ρ2 ∧ fz bs ρ2 = ρ2 := by
  obtain ⟨as, bs, p, es, ev, fs, q⟩ := hi
  subst hw
  have e1 : dIt f δi ρ = .ok items hold bs p ρ1 := by simp [dIt, itR, es, ev, hf]
  exact comp_map F e1 (by rw [fz_wipe, fs]) h hl q
/-- a comprehension assigned -/
theorem sev_asgC {δi : DenA} {f : List D → Option (List D × List D)} {g : DenG} {gx : DenG} {vs : List Nat} {items hold : List D} (F : D → Option D) (hi : EvA δi ρ ds ρ1) (hf : f ds = some (items, hold)) (hw : wipeE ρ1 vs = ρ2)
    (h : ∀ d ∈ items, ∃ ρ3, g d ρ2 = some ρ3 ∧ wipeE ρ3 vs = ρ2 ∧ ((F d = none ∧ Pu δc ρ3 (.bl false)) ∨ ∃ y, F d = some y ∧ Pu δc ρ3 (.bl true) ∧ Pu δ ρ3 y)) (hl : items.length ≤ 16777216) (hx : gx (.lst true (items.filterMap F)) ρ2 = some ρ3) :
    dAsg gx (dComp (dIt f δi) g vs δc δ) ρ = .nx ρ3 := by
  obtain ⟨bs, p, e, fq⟩ := ev_comp F hi hf hw h hl (.inr trivial)
  simp [dAsg, e, fq, hx]
/-- .. where nothing was at the own names -/
theorem ev_compP {δi : DenA} {f : List D → Option (List D × List D)} {g : DenG} {vs : List Nat} {items hold : List D} (F : D → Option D) (hi : PuA δi ρ ds) (hf : f ds = some (items, hold)) (hw : wipeE ρ vs = ρ)
    (h : ∀ d ∈ items, ∃ ρ3, g d ρ = some ρ3 ∧ wipeE ρ3 vs = ρ ∧ ((F d = none ∧ Pu δc ρ3 (.bl false)) ∨ ∃ y, F d = some y ∧ Pu δc ρ3 (.bl true) ∧ Pu δ ρ3 y)) (hl : items.length ≤ 16777216) : Ev (dComp (dIt f δi) g vs δc δ) ρ (.lst true (items.filterMap F)) ρ := by
  obtain ⟨bs, p, e, fq⟩ := ev_comp F hi.ev hf hw h hl (.inr trivial)
  exact ⟨bs, p, e, fq, fun _ => rfl⟩
end
/-! ### reading without keeping what was frozen; the value alone -/
def RdP (δ : Den) (ρ : VE) (d : D) (ρ' : VE) : Prop := ∃ bs, δ ρ = .ok d bs true ρ ∧ fz bs ρ = ρ'
def RdPA (δs : DenA) (ρ : VE) (ds : List D) (ρ' : VE) : Prop := ∃ as bs, δs ρ = .ok as bs true ρ ∧ vals as = some ds ∧ fz bs ρ = ρ'
def Rv (δ : Den) (ρ : VE) (d : D) : Prop := ∃ bs p ρ', δ ρ = .ok d bs p ρ'
def RvA (δs : DenA) (ρ : VE) (ds : List D) : Prop := ∃ as bs p ρ', δs ρ = .ok as bs p ρ' ∧ vals as = some ds
section
variable {ρ ρ1 ρ2 ρ3 : VE} {δ δa δb δc : Den} {δs : DenA} {a b d : D} {ds : List D} {i : Nat}
theorem Pu.rd (h : Pu δ ρ d) : RdP δ ρ d ρ := h
theorem rd_var (h : ρ[i]? = some (some d)) : RdP (dVar i) ρ (fr d) (fz1 i ρ) := by
  cases hi : imm d with
  | true =>
    have hf := fr_imm d hi
    exact ⟨[], by simp [dVar, h, hi, hf], (fz1_fix h hf).symm⟩
  | false => exact ⟨[i], by simp [dVar, h, hi], rfl⟩
theorem rdA_nil : RdPA dNil ρ [] ρ := ⟨[], [], rfl, rfl, rfl⟩
theorem rdA_cons (h : RdP δ ρ d ρ1) (hs : RdPA δs ρ1 ds ρ2) : RdPA (dCons δ δs) ρ (d :: ds) ρ2 := by
  obtain ⟨b, e, f⟩ := h
  obtain ⟨as, bs, es, ev, fs⟩ := hs
  exact ⟨.v d :: as, b ++ bs, by simp [dCons, e, f, es], by simp [vals, ev], by rw [fz_app, f, fs]⟩
theorem rd_op {f : List D → Option D} (h : RdPA δs ρ ds ρ1) (e : f ds = some d) (hc : clean d = true) : Pu (dOp f δs) ρ d := by
  obtain ⟨as, bs, es, ev, fs⟩ := h
  exact ⟨[], by simp [dOp, opR, es, ev, e, hc], rfl⟩
theorem rd_call {g : List D → FR} (h : RdPA δs ρ ds ρ1) (e : g (frs ds) = .ok d []) (hc : clean d = true) : Pu (dCall0 g δs) ρ d := by
  obtain ⟨as, bs, es, ev, fs⟩ := h
  exact ⟨[], by simp [dCall0, es, ev, e, hc], rfl⟩
theorem Pu.rv (h : Pu δ ρ d) : Rv δ ρ d := by
  obtain ⟨bs, e, _⟩ := h
  exact ⟨bs, true, ρ, e⟩
theorem RdP.rv (h : RdP δ ρ d ρ1) : Rv δ ρ d := by
  obtain ⟨bs, e, _⟩ := h
  exact ⟨bs, true, ρ, e⟩
theorem Ev.rv (h : Ev δ ρ d ρ1) : Rv δ ρ d := by
  obtain ⟨bs, p, e, _⟩ := h
  exact ⟨bs, p, _, e⟩
theorem rvA_nil : RvA dNil ρ [] := ⟨[], [], true, ρ, rfl, rfl⟩
theorem rvA_cons (h : RdP δ ρ d ρ1) (hs : RvA δs ρ1 ds) : RvA (dCons δ δs) ρ (d :: ds) := by
  obtain ⟨b, e, f⟩ := h
  obtain ⟨as, bs, p, ρ', es, ev⟩ := hs
  cases p with
  | true => exact ⟨.v d :: as, b ++ bs, true, ρ, by simp [dCons, e, f, es], by simp [vals, ev]⟩
  | false => exact ⟨.v d :: as, bs, false, ρ', by simp [dCons, e, f, es], by simp [vals, ev]⟩
theorem rvA_consE (h : Ev δ ρ d ρ1) (hs : RvA δs ρ1 ds) : RvA (dCons δ δs) ρ (d :: ds) := by
  obtain ⟨b, p, e, f, q⟩ := h
  obtain ⟨as, bs, p2, ρ', es, ev⟩ := hs
  cases p2 with
  | true => exact ⟨.v d :: as, b ++ bs, p, ρ1, by simp [dCons, e, f, es], by simp [vals, ev]⟩
  | false => exact ⟨.v d :: as, bs, false, ρ', by simp [dCons, e, f, es], by simp [vals, ev]⟩
theorem rvA_one (h : Rv δ ρ d) : RvA (dCons δ dNil) ρ [d] := by
  obtain ⟨b, p, ρ', e⟩ := h
  exact ⟨[.v d], b ++ [], p, ρ', by simp [dCons, e, dNil], rfl⟩
theorem rv_op {f : List D → Option D} (h : RvA δs ρ ds) (e : f ds = some d) : Rv (dOp f δs) ρ d := by
  obtain ⟨as, bs, p, ρ', es, ev⟩ := h
  exact ⟨_, _, _, by simp [dOp, opR, es, ev, e]; exact ⟨rfl, rfl, rfl⟩⟩
theorem rv_disp {f : List D → Option D} (h : RvA δs ρ ds) (e : f ds = some d) : Rv (dDisp f δs) ρ d := by
  obtain ⟨as, bs, p, ρ', es, ev⟩ := h
  exact ⟨_, _, _, by simp [dDisp, opRM, es, ev, e]; exact ⟨rfl, rfl, rfl⟩⟩
theorem rv_call {g : List D → FR} (h : RvA δs ρ ds) (e : g (frs ds) = .ok d []) : Rv (dCall0 g δs) ρ d := by
  obtain ⟨as, bs, p, ρ', es, ev⟩ := h
  exact ⟨_, _, _, by simp [dCall0, es, ev, e]; exact ⟨rfl, rfl, rfl⟩⟩
theorem srv_ret (h : Rv δ ρ d) : ∃ ρ', dRet δ ρ = .rt d ρ' := by
  obtain ⟨bs, p, ρ', e⟩ := h
  exact ⟨fz bs ρ', by simp [dRet, e]⟩
end
/-! ### what reads without freezing -/
def Pe (δ : Den) (ρ : VE) (d : D) : Prop := δ ρ = .ok d [] true ρ
section
variable {ρ ρ1 ρ2 ρ3 : VE} {δ δa δb δc : Den} {δs : DenA} {a b d : D} {ds : List D} {i : Nat}
theorem Pe.pu (h : Pe δ ρ d) : Pu δ ρ d := ⟨[], h, rfl⟩
theorem Pe.ev (h : Pe δ ρ d) : Ev δ ρ d ρ := h.pu.ev
theorem Pe.rd (h : Pe δ ρ d) : RdP δ ρ d ρ := h.pu
theorem pe_var (h : ρ[i]? = some (some d)) (hi : imm d = true) : Pe (dVar i) ρ d := by simp [Pe, dVar, h, hi]
theorem pe_c : Pe (dC d) ρ d := rfl
theorem pe_true : Pe dTrue ρ (.bl true) := rfl
theorem pe_op {f : List D → Option D} (h : RdPA δs ρ ds ρ1) (e : f ds = some d) (hc : clean d = true) : Pe (dOp f δs) ρ d := by
  obtain ⟨as, bs, es, ev, fs⟩ := h
  simp [Pe, dOp, opR, es, ev, e, hc]
theorem pe_op1 {g : D → Option D} (h : RdP δ ρ a ρ1) (e : g a = some d) (hc : clean d = true) : Pe (dOp (one g) (dCons δ dNil)) ρ d := pe_op (rdA_cons h rdA_nil) e hc
theorem pe_op2 {g : D → D → Option D} (h : RdP δa ρ a ρ1) (h2 : RdP δb ρ1 b ρ2) (e : g a b = some d) (hc : clean d = true) : Pe (dOp (two g) (dCons δa (dCons δb dNil))) ρ d := pe_op (rdA_cons h (rdA_cons h2 rdA_nil)) e hc
theorem pe_call {g : List D → FR} (h : RdPA δs ρ ds ρ1) (e : g (frs ds) = .ok d []) (hc : clean d = true) : Pe (dCall0 g δs) ρ d := by
  obtain ⟨as, bs, es, ev, fs⟩ := h
  simp [Pe, dCall0, es, ev, e, hc]
theorem pe_not {x : Bool} (h : Pe δ ρ (.bl x)) : Pe (dNot δ) ρ (.bl !x) := by
  unfold Pe at h
  simp [Pe, dNot, h]
theorem pe_and_t (h : Pe δa ρ (.bl true)) (h2 : Pe δb ρ d) : Pe (dAnd δa δb) ρ d := by
  unfold Pe at h h2
  simp [Pe, dAnd, h, h2, andP]
theorem pe_and_f (h : Pe δa ρ (.bl false)) : Pe (dAnd δa δb) ρ (.bl false) := by
  unfold Pe at h
  simp [Pe, dAnd, h]
theorem pe_or_f (h : Pe δa ρ (.bl false)) (h2 : Pe δb ρ d) : Pe (dOr δa δb) ρ d := by
  unfold Pe at h h2
  simp [Pe, dOr, h, h2, andP]
theorem pe_or_t (h : Pe δa ρ (.bl true)) : Pe (dOr δa δb) ρ (.bl true) := by
  unfold Pe at h
  simp [Pe, dOr, h]
theorem srd_for {f : List D → Option (List D × List D)} {items hold : List D} {g : DenG} {ς : DenS} (h : RdPA δs ρ ds ρ1) (e : f ds = some (items, hold)) : dFor (dIt f δs) g ς ρ = loopF g ς items ρ1 := by
  obtain ⟨as, bs, es, ev, fs⟩ := h
  simp [dFor, dIt, itR, es, ev, e, fs]
/-- a comprehension of parts that freeze nothing, over what may be own -/
theorem ev_compE {δi : DenA} {f : List D → Option (List D × List D)} {g : DenG} {vs : List Nat} {items hold : List D} (F : D → Option D) (hi : RdPA δi ρ ds ρ1) (hf : f ds = some (items, hold)) (hw : wipeE ρ1 vs = ρ2)
    (h : ∀ d ∈ items, ∃ ρ3, g d ρ2 = some ρ3 ∧ wipeE ρ3 vs = ρ2 ∧ ((F d = none ∧ Pe δc ρ3 (.bl false)) ∨ ∃ y, F d = some y ∧ Pe δc ρ3 (.bl true) ∧ Pe δ ρ3 y)) (hl : items.length ≤ 16777216) (hm : imms (items.filterMap F) = true) :
    ∃ p, dComp (dIt f δi) g vs δc δ ρ = .ok (.lst true (items.filterMap F)) [] p (wipeE ρ vs) ∧ p = noneAt vs ρ := by
  obtain ⟨as, bs, es, ev, fs⟩ := hi
  have run : ∀ (items : List D) (acc : List D), (∀ d ∈ items, ∃ ρ3, g d ρ2 = some ρ3 ∧ wipeE ρ3 vs = ρ2 ∧ ((F d = none ∧ Pe δc ρ3 (.bl false)) ∨ ∃ y, F d = some y ∧ Pe δc ρ3 (.bl true) ∧ Pe δ ρ3 y)) → acc.length + items.length ≤ 16777216 →
      loopC g vs δc δ items ρ2 acc true = .ok (acc ++ items.filterMap F) true ρ2 := by
    intro items
    induction items with
    | nil => intro acc _ _; simp [loopC]
    | cons d items ih =>
      intro acc h hl
      obtain ⟨ρ3, e1, e2, hc⟩ := h d (by simp)
      have hl' : acc.length < 16777216 := by simp at hl; omega
      rcases hc with ⟨hF, q1⟩ | ⟨y, hF, q1, q2⟩
      · unfold Pe at q1
        have := ih acc (fun x m => h x (by simp [m])) (by simp at hl; omega)
        simp [loopC, e1, q1, e2, this, hF]
      · unfold Pe at q1 q2
        have := ih (acc ++ [y]) (fun x m => h x (by simp [m])) (by simp at hl ⊢; omega)
        simp [loopC, e1, q1, q2, e2, this, hF, hl', fz]
  have r := run items [] h (by simpa using hl)
  have hb : fz bs (wipeE ρ vs) = ρ2 := by rw [fz_wipe, fs, hw]
  refine ⟨_, ?_, rfl⟩
  rw [List.nil_append] at r
  simp [dComp, dIt, itR, es, ev, hf, hb, r, hm]
theorem noneAt_wipe' {ρ : VE} : ∀ {vs : List Nat}, noneAt vs ρ = true → wipeE ρ vs = ρ
  | [], _ => rfl
  | v :: vs, h => by
    simp only [noneAt, List.all_cons, Bool.and_eq_true] at h
    have ih := noneAt_wipe' (vs := vs) (by simpa [noneAt] using h.2)
    show (wipeE ρ vs).set v none = ρ
    rw [ih]
    refine set_id fun d z => ?_
    have := h.1
    rw [z] at this
    cases this
theorem ev_compW {δi : DenA} {f : List D → Option (List D × List D)} {g : DenG} {vs : List Nat} {items hold : List D} (F : D → Option D) (hi : RdPA δi ρ ds ρ1) (hf : f ds = some (items, hold)) (hw : wipeE ρ1 vs = ρ2)
    (h : ∀ d ∈ items, ∃ ρ3, g d ρ2 = some ρ3 ∧ wipeE ρ3 vs = ρ2 ∧ ((F d = none ∧ Pe δc ρ3 (.bl false)) ∨ ∃ y, F d = some y ∧ Pe δc ρ3 (.bl true) ∧ Pe δ ρ3 y)) (hl : items.length ≤ 16777216) (hm : imms (items.filterMap F) = true) :
    Ev (dComp (dIt f δi) g vs δc δ) ρ (.lst true (items.filterMap F)) (wipeE ρ vs) := by
  obtain ⟨p, e, hp⟩ := ev_compE F hi hf hw h hl hm
  exact ⟨[], p, e, rfl, fun z => noneAt_wipe' (by rw [← hp]; exact z)⟩
theorem pe_comp {δi : DenA} {f : List D → Option (List D × List D)} {g : DenG} {vs : List Nat} {items hold : List D} (F : D → Option D) (hi : RdPA δi ρ ds ρ1) (hf : f ds = some (items, hold)) (hn : noneAt vs ρ = true) (hw : wipeE ρ1 vs = ρ2)
    (h : ∀ d ∈ items, ∃ ρ3, g d ρ2 = some ρ3 ∧ wipeE ρ3 vs = ρ2 ∧ ((F d = none ∧ Pe δc ρ3 (.bl false)) ∨ ∃ y, F d = some y ∧ Pe δc ρ3 (.bl true) ∧ Pe δ ρ3 y)) (hl : items.length ≤ 16777216) (hm : imms (items.filterMap F) = true) :
    Pe (dComp (dIt f δi) g vs δc δ) ρ (.lst true (items.filterMap F)) := by
  obtain ⟨p, e, hp⟩ := ev_compE F hi hf hw h hl hm
  rw [hn] at hp
  subst hp
  rw [noneAt_wipe' hn] at e
  exact e
end
theorem it_of {f : List D → Option (List D × List D)} {δs : DenA} {ρ : VE} {ds items hold : List D} (h : PuA δs ρ ds) (e : f ds = some (items, hold)) : ∃ bs, dIt f δs ρ = .ok items hold bs true ρ ∧ fz bs ρ = ρ := by
  obtain ⟨as, bs, es, ev, fs⟩ := h
  exact ⟨bs, by simp [dIt, itR, es, ev, e], fs⟩
section
variable {ρ ρ1 ρ2 ρ3 : VE} {δ δa δb δc δe : Den} {δs : DenA} {a b d y : D} {ds : List D} {i : Nat} {g : DenG} {vs : List Nat} {acc : List D}
theorem stC_ev (hg : g d ρ = some ρ1) (he : Ev δe ρ1 y ρ3) (hw : wipeE ρ1 vs = ρ) : StC g vs dTrue δe d acc (acc ++ [y]) ρ (wipeE ρ3 vs) := by
  obtain ⟨bs, p, e, f, q⟩ := he
  exact ⟨ρ1, [], true, ρ1, hg, .inr ⟨y, bs, p, ρ3, rfl, e, by rw [f], rfl, fun z => by
    simp at z
    rw [q z.1, hw]⟩⟩
/-- a comprehension of parts that write -/
theorem ev_compI {f : List D → Option (List D × List D)} {δi : DenA} {items hold : List D} (I : Nat → List D → VE → Prop) (hi : EvA δi ρ ds ρ1) (hf : f ds = some (items, hold)) (hw : wipeE ρ1 vs = ρ2)
    (h : ∀ i d acc ρ, items[i]? = some d → I i acc ρ → ∃ ρ1 y ρ3, g d ρ = some ρ1 ∧ Ev δe ρ1 y ρ3 ∧ wipeE ρ1 vs = ρ ∧ I (i + 1) (acc ++ [y]) (wipeE ρ3 vs)) (hl : items.length ≤ 16777216) (h0 : I 0 [] ρ2) :
    ∃ acc ρe, Ev (dComp (dIt f δi) g vs dTrue δe) ρ (.lst true acc) ρe ∧ I items.length acc ρe := by
  obtain ⟨as, bs, p, es, ev, fs, q⟩ := hi
  subst hw
  have e1 : dIt f δi ρ = .ok items hold bs p ρ1 := by simp [dIt, itR, es, ev, hf]
  obtain ⟨acc, bs', p', ρe, e, hfe, hI, hp⟩ := comp_inv (vs := vs) (g := g) (δc := dTrue) (δe := δe) I e1 (by rw [fz_wipe, fs]) (fun i d acc ρ hd hI => by
    obtain ⟨ρ1, y, ρ3, k1, k2, k3, k4⟩ := h i d acc ρ hd hI
    exact ⟨_, _, stC_ev k1 k2 k3, k4⟩) hl h0 q
  exact ⟨acc, ρe, ⟨bs', p', e, hfe, hp⟩, hI⟩
theorem rd_disp {f : List D → Option D} (h : RdPA δs ρ ds ρ1) (e : f ds = some d) : RdP (dDisp f δs) ρ d ρ1 := by
  obtain ⟨as, bs, es, ev, fs⟩ := h
  exact ⟨bs, by simp [dDisp, opRM, es, ev, e], fs⟩
theorem PuA.rd (h : PuA δs ρ ds) : RdPA δs ρ ds ρ := h
/-- the last ones are only read, what comes is clean -/
theorem ev_opR {f : List D → Option D} (h : Ev δ ρ d ρ1) (hs : RdPA δs ρ1 ds ρ2) (e : f (d :: ds) = some y) (hc : clean y = true) : Ev (dOp f (dCons δ δs)) ρ y ρ1 := by
  obtain ⟨bs, p, e1, f1, q⟩ := h
  obtain ⟨as, bs2, e2, v2, _⟩ := hs
  exact ⟨[], p, by simp [dOp, dCons, e1, f1, e2, opR, vals, v2, e, hc], rfl, q⟩
theorem fz1_set_same : ∀ (i : Nat) (ρ : VE) (x : Option D), (fz1 i ρ).set i x = ρ.set i x
  | 0, [], _ => rfl
  | _ + 1, [], _ => rfl
  | 0, _ :: _, _ => rfl
  | i + 1, y :: ρ, x => by simp [fz1, fz1_set_same i ρ x]
/-- x = x + .. -/
theorem sev_asgOwn {f : D → D → Option D} {d0 : D} (h : ρ[i]? = some (some d0)) (he : Ev δ (fz1 i ρ) b ρ2) (hf : f (fr d0) b = some d) (hc : clean d = true) (hi : i < ρ2.length) : dAsg (sName [] i) (dOp (two f) (dCons (dVar i) (dCons δ dNil))) ρ = .nx (ρ2.set i (some d)) := by
  obtain ⟨bs0, e0, f0⟩ := rd_var h
  obtain ⟨bs, p, e, fe, q⟩ := he
  have hl : i < ρ.length := (List.getElem?_eq_some_iff.mp h).1
  cases p with
  | true =>
    have := q rfl
    subst this
    simp [dAsg, dOp, dCons, e0, f0, e, dNil, opR, vals, two, hf, hc, fz, sName, hl, fz1_set_same]
  | false =>
    simp [dAsg, dOp, dCons, e0, f0, e, fe, dNil, opR, vals, two, hf, hc, fz, sName, hi]
theorem cutL_take {α : Type} (xs : List α) (b : Nat) : cutL xs none (some (b : Int)) = xs.take b := by
  unfold cutL
  rw [HT.sIx_nat, HT.sIx_none]
  simp only [Nat.sub_zero, List.drop_zero]
  rcases Nat.le_total b xs.length with h | h
  · rw [Nat.min_eq_left h]
  · rw [Nat.min_eq_right h, List.take_length, List.take_of_length_le h]
end
def PeA (δs : DenA) (ρ : VE) (ds : List D) : Prop := ∃ as, δs ρ = .ok as [] true ρ ∧ vals as = some ds
theorem peA_nil {ρ : VE} : PeA dNil ρ [] := ⟨[], rfl, rfl⟩
theorem peA_cons {ρ : VE} {δ : Den} {δs : DenA} {d : D} {ds : List D} (h : Pe δ ρ d) (hs : PeA δs ρ ds) : PeA (dCons δ δs) ρ (d :: ds) := by
  unfold Pe at h
  obtain ⟨as, es, ev⟩ := hs
  exact ⟨.v d :: as, by simp [dCons, h, fz, es], by simp [vals, ev]⟩
theorem PeA.rd {ρ : VE} {δs : DenA} {ds : List D} (h : PeA δs ρ ds) : RdPA δs ρ ds ρ := by
  obtain ⟨as, es, ev⟩ := h
  exact ⟨as, [], es, ev, rfl⟩
theorem pe_disp {ρ : VE} {δs : DenA} {ds : List D} {d : D} {f : List D → Option D} (h : PeA δs ρ ds) (e : f ds = some d) : Pe (dDisp f δs) ρ d := by
  obtain ⟨as, es, ev⟩ := h
  simp [Pe, dDisp, opRM, es, ev, e]
end TB
end
section
set_option Elab.async false
set_option linter.all false
set_option maxRecDepth 100000
set_option maxHeartbeats 4000000
namespace TB
open PySem PySem.Spec L2
/-! ### lists of counts -/
def NL (l : List Nat) : List D := l.map fun n : Nat => .int n
theorem frs_NL (l : List Nat) : frs (NL l) = NL l := by
  induction l with
  | nil => rfl
  | cons i l ih => show _ :: frs (NL l) = _; rw [ih]; rfl
theorem fr_NL (w : Bool) (l : List Nat) : fr (.lst w (NL l)) = .lst false (NL l) := by simp [fr, frs_NL]
theorem NL_len (l : List Nat) : (NL l).length = l.length := by simp [NL]
theorem NL_app (a b : List Nat) : NL (a ++ b) = NL a ++ NL b := by simp [NL]
theorem cleans_NL (l : List Nat) : cleans (NL l) = true := by
  induction l with
  | nil => rfl
  | cons i l ih => exact ih
theorem imms_NL (l : List Nat) : imms (NL l) = true := by
  induction l with
  | nil => rfl
  | cons i l ih => exact ih
theorem ints_NL (l : List Nat) : ints? (NL l) = some (l.map fun n : Nat => (n : Int)) := by
  induction l with
  | nil => rfl
  | cons i l ih => show (ints? (NL l)).map ((i : Int) :: ·) = _; rw [ih]; rfl
theorem sum_cast (l : List Nat) : (l.map fun n : Nat => (n : Int)).sum = (l.sum : Nat) := by
  induction l with
  | nil => rfl
  | cons i l ih => simp [ih]
theorem gSum_NL (w : Bool) (l : List Nat) : gSum (.lst w (NL l)) = some (.int l.sum) := by
  simp only [gSum, ints_NL, Option.map_some, sum_cast]
theorem gIx_NL (w : Bool) (l : List Nat) (i : Nat) (h : i < l.length) : gIx (.lst w (NL l)) (.int i) = some (.int (l.getD i 0)) := by
  show (atI (NL l) (i : Int)).map fr = _
  rw [atI_i, NL, List.getElem?_map, List.getElem?_eq_getElem h, List.getD_eq_getElem?_getD, List.getElem?_eq_getElem h]; rfl
theorem gMul_NN (a b : Nat) (ha : a < 2 ^ 250) (hb : b < 2 ^ 250) : gMul (.int a) (.int b) = some (.int ((a * b : Nat) : Int)) := by
  have h256 : (2 : Nat) ^ 250 ≤ 2 ^ 256 := Nat.pow_le_pow_right (by decide) (by decide)
  have h1 : (a : Int).natAbs < 2 ^ 256 ∧ (b : Int).natAbs < 2 ^ 256 := ⟨by rw [Int.natAbs_natCast]; exact Nat.lt_of_lt_of_le ha h256, by rw [Int.natAbs_natCast]; exact Nat.lt_of_lt_of_le hb h256⟩
  have hc : ((a * b : Nat) : Int) = (a : Int) * b := by simp
  rw [hc]
  unfold gMul
  cases h : CMulB a b with
  | true => simp only [gMulI, h, if_true, Option.some_or]
  | false =>
    have e1 : gMulI (.int a) (.int b) = none := by simp only [gMulI, h, Bool.false_eq_true, if_false]
    have e2 : gMulL (.int a) (.int b) = none := rfl
    rw [e1, e2]
    simp only [gMulB, if_pos h1, Option.none_or]
theorem sev_append {ρ : VE} {i : Nat} {G : List D} {X : D} {δ : Den} (h : ρ[i]? = some (some (.lst true G))) (he : Pe δ ρ X) (hl : G.length < 16777216) : dExp (dAppend i δ) ρ = .nx (ρ.set i (some (.lst true (G ++ [X])))) := by
  unfold Pe at he
  simp [dExp, dAppend, isLst, h, he, fz, hl]
def FC (L n : Nat) : D → Option D
  | .int i => some (.int ((C L i.toNat * C L (n - i.toNat) : Nat) : Int))
  | _ => none
theorem rng_FC (L n : Nat) : ∀ k, (rng 0 k).filterMap (FC L n) = NL ((List.range k).map fun i => C L i * C L (n - i))
  | 0 => rfl
  | k + 1 => by
    rw [rng_add, List.filterMap_append, rng_FC L n k, List.range_succ, List.map_append, NL_app]
    congr 1
    simp [rng_one, FC, NL]
structure LL (lt : List Nat) : Prop where
  l1 : 1 ≤ lt.length
  l3 : lt.length ≤ 3
  nd : lt.Nodup
  no : 46 ∉ lt
theorem two250 : (1000 : Nat) < 2 ^ 250 := by decide +kernel

theorem c_counts_of_trees (k : Nat) (ds : List D) : callF tbl (k + 1) 4 ds = runF fn_counts_of_trees (callF tbl k) ds := rfl
theorem counts_of_trees_step (cf : CF) {lt : List Nat} (hL : LL lt) (n : Nat) (hn : n < 70) (Z : Option D) : b_counts_of_trees_2 cf [some (.str lt), Z, some (.lst true (NL (cL lt.length n))), some (.int ((n + 1 : Nat) : Int)), none] = .nx [some (.str lt), Z, some (.lst true (NL (cL lt.length (n + 1)))), some (.int ((n + 1 : Nat) : Int)), none] := by
  have hlen := cL_len lt.length n
  have r2 : ∀ x : Option D, RdP (dVar 2) [some (.str lt), Z, some (.lst true (NL (cL lt.length n))), some (.int ((n + 1 : Nat) : Int)), x] (.lst false (NL (cL lt.length n))) [some (.str lt), Z, some (.lst false (NL (cL lt.length n))), some (.int ((n + 1 : Nat) : Int)), x] := fun x => by
    have := rd_var (ρ := [some (.str lt), Z, some (.lst true (NL (cL lt.length n))), some (.int ((n + 1 : Nat) : Int)), x]) (i := 2) (d := .lst true (NL (cL lt.length n))) rfl
    rw [fr_NL] at this
    have h2 : fz1 2 [some (.str lt), Z, some (.lst true (NL (cL lt.length n))), some (.int ((n + 1 : Nat) : Int)), x] = [some (.str lt), Z, some (.lst false (NL (cL lt.length n))), some (.int ((n + 1 : Nat) : Int)), x] := by simp [fz1, fr, frs_NL]
    rwa [h2] at this
  have comp := pe_comp (ρ := [some (.str lt), Z, some (.lst true (NL (cL lt.length n))), some (.int ((n + 1 : Nat) : Int)), none]) (vs := [4]) (g := sName (cmpl [4] 5) 4) (δc := dTrue) (δ := dOp (two gMul) (dCons (dOp (two gIx) (dCons (dVar 2) (dCons (dVar 4) dNil))) (dCons (dOp (two gIx) (dCons (dVar 2) (dCons (dOp (two gSub) (dCons (dOp (two gSub) (dCons (dVar 3) (dCons (dC (.int 1)) dNil))) (dCons (dVar 4) dNil))) dNil))) dNil))) (FC lt.length n)
    (rdA_cons (pe_var (i := 3) (d := .int ((n + 1 : Nat) : Int)) rfl rfl).rd rdA_nil) (f := itR1) (items := rng 0 (n + 1)) (hold := []) (itR1_nat (n + 1) (by omega)) rfl (ρ2 := [some (.str lt), Z, some (.lst true (NL (cL lt.length n))), some (.int ((n + 1 : Nat) : Int)), none]) rfl (fun d hd => by
      obtain ⟨i, hi⟩ := List.mem_iff_getElem?.mp hd
      obtain ⟨e, hlt⟩ := rng_get hi
      rw [Int.zero_add] at e
      subst e
      refine ⟨[some (.str lt), Z, some (.lst true (NL (cL lt.length n))), some (.int ((n + 1 : Nat) : Int)), some (.int i)], rfl, rfl, .inr ⟨_, rfl, pe_true, ?_⟩⟩
      have v4 : Pe (dVar 4) [some (.str lt), Z, some (.lst false (NL (cL lt.length n))), some (.int ((n + 1 : Nat) : Int)), some (.int i)] (.int i) := pe_var rfl rfl
      have v3 : Pe (dVar 3) [some (.str lt), Z, some (.lst false (NL (cL lt.length n))), some (.int ((n + 1 : Nat) : Int)), some (.int i)] (.int ((n + 1 : Nat) : Int)) := pe_var rfl rfl
      have a1 := pe_op2 (g := gIx) (r2 (some (.int i))) v4.rd (gIx_NL false _ i (by omega)) rfl
      have a2 := pe_op2 (g := gIx) (r2 (some (.int i))) (pe_op2 (g := gSub) (pe_op2 (g := gSub) v3.rd (pe_c (d := .int 1)).rd (d := .int n) (by simp [gSub]) rfl).rd v4.rd (d := .int ((n - i : Nat) : Int)) (by
        have : (n : Int) - i = ((n - i : Nat) : Int) := by omega
        simp only [gSub, this]) rfl).rd (gIx_NL false _ (n - i) (by omega)) rfl
      rw [cL_get _ _ _ (by omega)] at a1 a2
      exact pe_op2 (g := gMul) a1.rd a2.rd (gMul_NN _ _ (C_bound hL.l1 hL.l3 (by omega)) (C_bound hL.l1 hL.l3 (by omega))) rfl) (by rw [rng_len]; omega) (by rw [rng_FC]; exact imms_NL _)
  rw [rng_FC] at comp
  have hP : ((List.range (n + 1)).map fun i => C lt.length i * C lt.length (n - i)).sum = P lt.length n (n + 1) := rfl
  have hCs := C_succ lt.length n
  have hPb : P lt.length n (n + 1) < 2 ^ 250 := by
    have h1 : P lt.length n (n + 1) ≤ lt.length * P lt.length n (n + 1) := Nat.le_mul_of_pos_left _ hL.l1
    have h2 := C_bound hL.l1 hL.l3 (n := n + 1) (by omega)
    rw [hCs] at h2
    exact Nat.lt_of_le_of_lt h1 h2
  have s1 := pe_op1 (g := gSum) comp.rd (gSum_NL true _) rfl
  rw [hP] at s1
  have hl3 := hL.l3
  have s2 := pe_op2 (g := gMul) (pe_op1 (g := gLen) (pe_var (i := 0) (d := .str lt) rfl rfl).rd (d := .int lt.length) (by
    have : lt.length ≤ 16777216 := by omega
    simp [gLen, this]) rfl).rd s1.rd (gMul_NN lt.length _ (by have := two250; omega) hPb) rfl
  rw [← hCs] at s2
  have e : NL (cL lt.length (n + 1)) = NL (cL lt.length n) ++ [.int (C lt.length (n + 1))] := by
    rw [cL_map, List.range_succ, List.map_append, NL_app, ← cL_map]; rfl
  rw [e]
  show t_counts_of_trees_3 cf _ = _
  unfold t_counts_of_trees_3
  exact sev_append (i := 2) (G := NL (cL lt.length n)) rfl s2 (by rw [NL_len]; omega)
theorem counts_of_trees_ok (k : Nat) {lt : List Nat} (hL : LL lt) (N : Nat) (hN : N ≤ 70) : callF tbl (k + 1) 4 [.str lt, .int N] = .ok (.lst true (NL (cL lt.length N))) [] := by
  refine (c_counts_of_trees _ _).trans ?_
  obtain ⟨ρ', hl, z, rfl⟩ := loop_inv (g := sName [] 3) (body := b_counts_of_trees_2 (callF tbl k)) (items := rng 1 N) (ρ := [some (.str lt), some (.int N), some (.lst true (NL (cL lt.length 0))), none, none])
    (fun i ρ => ∃ z, ρ = [some (.str lt), some (.int N), some (.lst true (NL (cL lt.length i))), z, none]) (fun i d ρ hi hI => by
      obtain ⟨z, rfl⟩ := hI
      obtain ⟨e, hlt⟩ := rng_get hi
      have e : d = .int ((i + 1 : Nat) : Int) := by rw [e]; congr 1; omega
      subst e
      exact ⟨_, sName_ok (by simp), _, .inl (counts_of_trees_step (callF tbl k) hL i (by omega) _), _, rfl⟩) ⟨none, rfl⟩
  rw [rng_len] at hl
  have s2 : t_counts_of_trees_2 (callF tbl k) [some (.str lt), some (.int N), some (.lst true (NL (cL lt.length 0))), none, none] = .nx [some (.str lt), some (.int N), some (.lst true (NL (cL lt.length N))), z, none] := by
    have h := itR2_nat 1 (N + 1) (by omega) (by omega)
    rw [show N + 1 - 1 = N by omega] at h
    exact (st_for (puA_cons (pu_c (d := .int 1)) (puA_cons (pu_op2 (g := gAdd) (pu_var (i := 1) (d := .int N) rfl rfl) (pu_c (d := .int 1)) (d := .int ((N + 1 : Nat) : Int)) (by simp [gAdd, gAddI])) puA_nil)) h).trans hl
  have e : den_counts_of_trees (callF tbl k) [some (.str lt), some (.int N), none, none, none] = .rt (.lst true (NL (cL lt.length N))) [some (.str lt), some (.int N), none, z, none] := by
    unfold den_counts_of_trees
    exact (seq_nx (a := t_counts_of_trees_1 _) rfl).trans ((seq_nx s2).trans rfl)
  exact run_rt (b := den_counts_of_trees) rfl rfl rfl e rfl

theorem c_law_counts (k : Nat) (ds : List D) : callF tbl (k + 1) 24 ds = runF fn_law_counts (callF tbl k) ds := rfl
theorem law_counts_step (cf : CF) {lt : List Nat} (hL : LL lt) (n : Nat) (hn : n < 70) (Z : Option D) : b_law_counts_2 cf [some (.str lt), Z, some (.lst true (NL (cL lt.length n))), some (.int ((n + 1 : Nat) : Int)), none] = .nx [some (.str lt), Z, some (.lst true (NL (cL lt.length (n + 1)))), some (.int ((n + 1 : Nat) : Int)), none] := by
  have hlen := cL_len lt.length n
  have r2 : ∀ x : Option D, RdP (dVar 2) [some (.str lt), Z, some (.lst true (NL (cL lt.length n))), some (.int ((n + 1 : Nat) : Int)), x] (.lst false (NL (cL lt.length n))) [some (.str lt), Z, some (.lst false (NL (cL lt.length n))), some (.int ((n + 1 : Nat) : Int)), x] := fun x => by
    have := rd_var (ρ := [some (.str lt), Z, some (.lst true (NL (cL lt.length n))), some (.int ((n + 1 : Nat) : Int)), x]) (i := 2) (d := .lst true (NL (cL lt.length n))) rfl
    rw [fr_NL] at this
    have h2 : fz1 2 [some (.str lt), Z, some (.lst true (NL (cL lt.length n))), some (.int ((n + 1 : Nat) : Int)), x] = [some (.str lt), Z, some (.lst false (NL (cL lt.length n))), some (.int ((n + 1 : Nat) : Int)), x] := by simp [fz1, fr, frs_NL]
    rwa [h2] at this
  have comp := pe_comp (ρ := [some (.str lt), Z, some (.lst true (NL (cL lt.length n))), some (.int ((n + 1 : Nat) : Int)), none]) (vs := [4]) (g := sName (cmpl [4] 5) 4) (δc := dTrue) (δ := dOp (two gMul) (dCons (dOp (two gIx) (dCons (dVar 2) (dCons (dVar 4) dNil))) (dCons (dOp (two gIx) (dCons (dVar 2) (dCons (dOp (two gSub) (dCons (dOp (two gSub) (dCons (dVar 3) (dCons (dC (.int 1)) dNil))) (dCons (dVar 4) dNil))) dNil))) dNil))) (FC lt.length n)
    (rdA_cons (pe_var (i := 3) (d := .int ((n + 1 : Nat) : Int)) rfl rfl).rd rdA_nil) (f := itR1) (items := rng 0 (n + 1)) (hold := []) (itR1_nat (n + 1) (by omega)) rfl (ρ2 := [some (.str lt), Z, some (.lst true (NL (cL lt.length n))), some (.int ((n + 1 : Nat) : Int)), none]) rfl (fun d hd => by
      obtain ⟨i, hi⟩ := List.mem_iff_getElem?.mp hd
      obtain ⟨e, hlt⟩ := rng_get hi
      rw [Int.zero_add] at e
      subst e
      refine ⟨[some (.str lt), Z, some (.lst true (NL (cL lt.length n))), some (.int ((n + 1 : Nat) : Int)), some (.int i)], rfl, rfl, .inr ⟨_, rfl, pe_true, ?_⟩⟩
      have v4 : Pe (dVar 4) [some (.str lt), Z, some (.lst false (NL (cL lt.length n))), some (.int ((n + 1 : Nat) : Int)), some (.int i)] (.int i) := pe_var rfl rfl
      have v3 : Pe (dVar 3) [some (.str lt), Z, some (.lst false (NL (cL lt.length n))), some (.int ((n + 1 : Nat) : Int)), some (.int i)] (.int ((n + 1 : Nat) : Int)) := pe_var rfl rfl
      have a1 := pe_op2 (g := gIx) (r2 (some (.int i))) v4.rd (gIx_NL false _ i (by omega)) rfl
      have a2 := pe_op2 (g := gIx) (r2 (some (.int i))) (pe_op2 (g := gSub) (pe_op2 (g := gSub) v3.rd (pe_c (d := .int 1)).rd (d := .int n) (by simp [gSub]) rfl).rd v4.rd (d := .int ((n - i : Nat) : Int)) (by
        have : (n : Int) - i = ((n - i : Nat) : Int) := by omega
        simp only [gSub, this]) rfl).rd (gIx_NL false _ (n - i) (by omega)) rfl
      rw [cL_get _ _ _ (by omega)] at a1 a2
      exact pe_op2 (g := gMul) a1.rd a2.rd (gMul_NN _ _ (C_bound hL.l1 hL.l3 (by omega)) (C_bound hL.l1 hL.l3 (by omega))) rfl) (by rw [rng_len]; omega) (by rw [rng_FC]; exact imms_NL _)
  rw [rng_FC] at comp
  have hP : ((List.range (n + 1)).map fun i => C lt.length i * C lt.length (n - i)).sum = P lt.length n (n + 1) := rfl
  have hCs := C_succ lt.length n
  have hPb : P lt.length n (n + 1) < 2 ^ 250 := by
    have h1 : P lt.length n (n + 1) ≤ lt.length * P lt.length n (n + 1) := Nat.le_mul_of_pos_left _ hL.l1
    have h2 := C_bound hL.l1 hL.l3 (n := n + 1) (by omega)
    rw [hCs] at h2
    exact Nat.lt_of_le_of_lt h1 h2
  have s1 := pe_op1 (g := gSum) comp.rd (gSum_NL true _) rfl
  rw [hP] at s1
  have hl3 := hL.l3
  have s2 := pe_op2 (g := gMul) (pe_op1 (g := gLen) (pe_var (i := 0) (d := .str lt) rfl rfl).rd (d := .int lt.length) (by
    have : lt.length ≤ 16777216 := by omega
    simp [gLen, this]) rfl).rd s1.rd (gMul_NN lt.length _ (by have := two250; omega) hPb) rfl
  rw [← hCs] at s2
  have e : NL (cL lt.length (n + 1)) = NL (cL lt.length n) ++ [.int (C lt.length (n + 1))] := by
    rw [cL_map, List.range_succ, List.map_append, NL_app, ← cL_map]; rfl
  rw [e]
  show t_law_counts_3 cf _ = _
  unfold t_law_counts_3
  exact sev_append (i := 2) (G := NL (cL lt.length n)) rfl s2 (by rw [NL_len]; omega)
theorem law_counts_ok (k : Nat) {lt : List Nat} (hL : LL lt) (N : Nat) (hN : N ≤ 70) : callF tbl (k + 1) 24 [.str lt, .int N] = .ok (.lst true (NL (cL lt.length N))) [] := by
  refine (c_law_counts _ _).trans ?_
  obtain ⟨ρ', hl, z, rfl⟩ := loop_inv (g := sName [] 3) (body := b_law_counts_2 (callF tbl k)) (items := rng 1 N) (ρ := [some (.str lt), some (.int N), some (.lst true (NL (cL lt.length 0))), none, none])
    (fun i ρ => ∃ z, ρ = [some (.str lt), some (.int N), some (.lst true (NL (cL lt.length i))), z, none]) (fun i d ρ hi hI => by
      obtain ⟨z, rfl⟩ := hI
      obtain ⟨e, hlt⟩ := rng_get hi
      have e : d = .int ((i + 1 : Nat) : Int) := by rw [e]; congr 1; omega
      subst e
      exact ⟨_, sName_ok (by simp), _, .inl (law_counts_step (callF tbl k) hL i (by omega) _), _, rfl⟩) ⟨none, rfl⟩
  rw [rng_len] at hl
  have s2 : t_law_counts_2 (callF tbl k) [some (.str lt), some (.int N), some (.lst true (NL (cL lt.length 0))), none, none] = .nx [some (.str lt), some (.int N), some (.lst true (NL (cL lt.length N))), z, none] := by
    have h := itR2_nat 1 (N + 1) (by omega) (by omega)
    rw [show N + 1 - 1 = N by omega] at h
    exact (st_for (puA_cons (pu_c (d := .int 1)) (puA_cons (pu_op2 (g := gAdd) (pu_var (i := 1) (d := .int N) rfl rfl) (pu_c (d := .int 1)) (d := .int ((N + 1 : Nat) : Int)) (by simp [gAdd, gAddI])) puA_nil)) h).trans hl
  have e : den_law_counts (callF tbl k) [some (.str lt), some (.int N), none, none, none] = .rt (.lst true (NL (cL lt.length N))) [some (.str lt), some (.int N), none, z, none] := by
    unfold den_law_counts
    exact (seq_nx (a := t_law_counts_1 _) rfl).trans ((seq_nx s2).trans rfl)
  exact run_rt (b := den_law_counts) rfl rfl rfl e rfl
end TB
end
section
set_option Elab.async false
set_option linter.all false
set_option maxRecDepth 100000
set_option maxHeartbeats 4000000
namespace TB
open PySem PySem.Spec L2
/-- a letter -/
theorem rs_node (cf : CF) (x : List Nat) (fl B : List D) (u v : Int) (p : Nat) (z : Option D) (c : Nat) (hc : c ≠ 46) (hx : x[p]? = some c) (hl : fl.length = x.length) (hz : x.length ≤ 1000000) (hB : B.length < 1000000) :
    b_right_starts_3 cf [some (.str x), some (.lst true fl), some (.lst true (B ++ [.int u, .int v])), some (.int p)] = .nx [some (.str x), some (.lst true (fl.set p (.int u))), some (.lst true (B ++ [.int p])), some (.int p)] := by
  have hp : p < x.length := (List.getElem?_eq_some_iff.mp hx).1
  have h1 : x.length ≤ 16777216 := by omega
  have h2 : ixN fl.length (p : Int) = some p := by
    unfold ixN
    rw [if_pos (by omega), if_pos (by omega)]; simp
  have h3 : B.length < 16777216 := by omega
  have h4 : ¬ ((B.length : Int) + 2 < 2) := by omega
  have h5 : ∀ b : D, (B ++ [D.int u, b]).getLast? = some b := fun b => by rw [List.getLast?_append]; rfl
  have h6 : ∀ b : D, (B ++ [D.int u, b]).dropLast = B ++ [D.int u] := fun b => by simp [List.dropLast_append]
  simp [t_right_starts_1, t_right_starts_2, t_right_starts_6, t_right_starts_5, t_right_starts_7, t_right_starts_8, t_right_starts_4, t_right_starts_9, b_right_starts_3, t_right_starts_3, t_right_starts_10, den_right_starts, fn_right_starts, runF, endF, startF, outsOf, dSeq, dIfS, dOp, opR, dDisp, opRM, dCons, dNil, dIo, vals, splitIo, dVar, dMove, dC, dRet, dExp, dSkip, dAsg, sName, sTup, sNil, sCons, one, two, gLen, gEq, gNe, gEqS, gMod, gDiv, gSub, gAdd, gAddI, gAddL, gMul, gMulI, gPow, gAbs, gIx, gLt, gLe, gGt, gGe, gCmp, gIsi, isTy, isNon, gList, opLst, opTup, dPop, dAppend, dReverse, dSetIx, dIf, dAnd, dOr, dNot, andP, isLst, dCall0, dCallIo, dFor, dIt, itR, itL, itS, itR1, itR2, itRev, itRR1, opSl, lod, gSl, clean, cleans, imm, imms, fr, fz, fz1, frs, frs_len, bdec, fr_fr, atI_i, hx, hc, h1, h2, h3, h4, h5, h6]
/-- a point -/
theorem rs_leaf (cf : CF) (x : List Nat) (fl B : List D) (p : Nat) (hx : x[p]? = some 46) (hz : x.length ≤ 1000000) (hB : B.length < 1000000) :
    b_right_starts_3 cf [some (.str x), some (.lst true fl), some (.lst true B), some (.int p)] = .nx [some (.str x), some (.lst true fl), some (.lst true (B ++ [.int p])), some (.int p)] := by
  have h1 : x.length ≤ 16777216 := by omega
  have h3 : B.length < 16777216 := by omega
  simp [t_right_starts_1, t_right_starts_2, t_right_starts_6, t_right_starts_5, t_right_starts_7, t_right_starts_8, t_right_starts_4, t_right_starts_9, b_right_starts_3, t_right_starts_3, t_right_starts_10, den_right_starts, fn_right_starts, runF, endF, startF, outsOf, dSeq, dIfS, dOp, opR, dDisp, opRM, dCons, dNil, dIo, vals, splitIo, dVar, dMove, dC, dRet, dExp, dSkip, dAsg, sName, sTup, sNil, sCons, one, two, gLen, gEq, gNe, gEqS, gMod, gDiv, gSub, gAdd, gAddI, gAddL, gMul, gMulI, gPow, gAbs, gIx, gLt, gLe, gGt, gGe, gCmp, gIsi, isTy, isNon, gList, opLst, opTup, dPop, dAppend, dReverse, dSetIx, dIf, dAnd, dOr, dNot, andP, isLst, dCall0, dCallIo, dFor, dIt, itR, itL, itS, itR1, itR2, itRev, itRR1, opSl, lod, gSl, clean, cleans, imm, imms, fr, fz, fz1, frs, frs_len, bdec, fr_fr, atI_i, hx, h1, h3]
theorem rs_run (cf : CF) : ∀ (t : T), t.ok → ∀ (x pre suf : List Nat) (fl B : List D) (z : Option D) (rest : List D), x = pre ++ (t.tx ++ suf) → fl.length = x.length → x.length ≤ 1000000 → B.length + t.tx.length < 1000000 →
    ∃ (fl' : List D) (z' : Option D), fl'.length = fl.length ∧ (∀ c l r, t = .node c l r → fl'[pre.length]? = some (.int (pre.length + 1 + l.tx.length))) ∧
      loopF (sName [] 3) (b_right_starts_3 cf) ((rng pre.length t.tx.length).reverse ++ rest) [some (.str x), some (.lst true fl), some (.lst true B), z] = loopF (sName [] 3) (b_right_starts_3 cf) rest [some (.str x), some (.lst true fl'), some (.lst true (B ++ [.int pre.length])), z'] := by
  intro t
  induction t with
  | leaf =>
    intro _ x pre suf fl B z rest hx hl hz hB
    refine ⟨fl, some (.int pre.length), rfl, (fun c l r h => nomatch h), ?_⟩
    have h1 : x[pre.length]? = some 46 := by subst hx; simp [T.tx]
    show loopF _ _ ((rng pre.length 1).reverse ++ rest) _ = _
    rw [rng_one]
    exact loopF_one (sName_ok (by simp)) (rs_leaf cf x fl B pre.length h1 hz (by omega))
  | node c l r ihl ihr =>
    intro hok x pre suf fl B z rest hx hl hz hB
    obtain ⟨hc, hol, hor⟩ := hok
    have hlen : (T.node c l r).tx.length = 1 + (l.tx.length + r.tx.length) := by simp [T.tx]; omega
    have e1 : x = (pre ++ c :: l.tx) ++ (r.tx ++ suf) := by rw [hx]; simp [T.tx]
    have e2 : x = (pre ++ [c]) ++ (l.tx ++ (r.tx ++ suf)) := by rw [hx]; simp [T.tx]
    have e3 : x[pre.length]? = some c := by subst hx; simp [T.tx]
    obtain ⟨f1, z1, n1, _, s1⟩ := ihr hor x (pre ++ c :: l.tx) suf fl B z ((rng ((pre ++ [c]).length : Nat) l.tx.length).reverse ++ ([.int pre.length] ++ rest)) e1 hl hz (by omega)
    obtain ⟨f2, z2, n2, _, s2⟩ := ihl hol x (pre ++ [c]) (r.tx ++ suf) f1 (B ++ [.int (pre ++ c :: l.tx).length]) z1 ([.int pre.length] ++ rest) e2 (by omega) hz (by simp; omega)
    refine ⟨f2.set pre.length (.int (pre ++ c :: l.tx).length), some (.int pre.length), by simp; omega, ?_, ?_⟩
    · intro c' l' r' e
      cases e
      have hp : pre.length < x.length := (List.getElem?_eq_some_iff.mp e3).1
      rw [List.getElem?_set_self (by omega)]
      simp
      omega
    · have split : (rng pre.length (T.node c l r).tx.length).reverse ++ rest = (rng ((pre ++ c :: l.tx).length : Nat) r.tx.length).reverse ++ ((rng ((pre ++ [c]).length : Nat) l.tx.length).reverse ++ ([.int pre.length] ++ rest)) := by
        rw [hlen, rng_add, rng_one, rng_add, List.reverse_append, List.reverse_append]
        have a1 : ((pre.length : Int) + (1 : Nat) + (l.tx.length : Nat)) = (((pre ++ c :: l.tx).length : Nat) : Int) := by simp; omega
        have a2 : ((pre.length : Int) + (1 : Nat)) = (((pre ++ [c]).length : Nat) : Int) := by simp
        rw [a1, a2]
        simp
      rw [split, s1, s2]
      have := rs_node cf x f2 B (pre ++ c :: l.tx).length (pre ++ [c]).length pre.length z2 c hc e3 (by omega) hz (by omega)
      have e5 : B ++ [D.int ((pre ++ c :: l.tx).length : Nat)] ++ [D.int ((pre ++ [c]).length : Nat)] = B ++ [D.int ((pre ++ c :: l.tx).length : Nat), D.int ((pre ++ [c]).length : Nat)] := by simp
      rw [e5]
      exact loopF_one (sName_ok (by simp)) this
theorem c_rs (k : Nat) (ds : List D) : callF tbl (k + 1) 0 ds = runF fn_right_starts (callF tbl k) ds := rfl
theorem rs_ok (k : Nat) {c : Nat} {l r : T} (hok : (T.node c l r).ok) (hz : (T.node c l r).tx.length ≤ 500000) : ∃ fl : List D, callF tbl (k + 1) 0 [.str (T.node c l r).tx] = .ok (.lst false (frs fl)) [] ∧ fl[0]? = some (.int (1 + l.tx.length)) := by
  obtain ⟨fl, z, hl, h0, hrun⟩ := rs_run (callF tbl k) (T.node c l r) hok (T.node c l r).tx [] [] (List.replicate (T.node c l r).tx.length (.int 0)) [] none [] (by simp) (by simp) (by omega) (by simp; omega)
  refine ⟨fl, ?_, ?_⟩
  · refine (c_rs k _).trans ?_
    have s1 : t_right_starts_1 (callF tbl k) [some (.str (T.node c l r).tx), none, none, none] = .nx [some (.str (T.node c l r).tx), some (.lst true (List.replicate (T.node c l r).tx.length (.int 0))), none, none] :=
      st_asg (pu_op2 (pu_disp (puA_cons pu_c puA_nil) rfl) (pu_op1 (d := .int (T.node c l r).tx.length) (pu_var rfl rfl) (by simp [gLen]; omega)) (gMul_rep _ (by omega))) (sName_ok (by simp))
    have s2 : t_right_starts_2 (callF tbl k) [some (.str (T.node c l r).tx), some (.lst true (List.replicate (T.node c l r).tx.length (.int 0))), none, none] = .nx [some (.str (T.node c l r).tx), some (.lst true (List.replicate (T.node c l r).tx.length (.int 0))), some (.lst true []), none] := rfl
    have s3 : t_right_starts_3 (callF tbl k) [some (.str (T.node c l r).tx), some (.lst true (List.replicate (T.node c l r).tx.length (.int 0))), some (.lst true []), none] = .nx [some (.str (T.node c l r).tx), some (.lst true fl), some (.lst true [.int 0]), z] := by
      refine (st_for (puA_cons (pu_op1 (d := .int (T.node c l r).tx.length) (pu_var rfl rfl) (by simp [gLen]; omega)) puA_nil) (itRR1_nat _ (by omega))).trans ?_
      simp only [List.append_nil] at hrun
      exact hrun
    have s4 : t_right_starts_10 (callF tbl k) [some (.str (T.node c l r).tx), some (.lst true fl), some (.lst true [.int 0]), z] = .rt (.lst false (frs fl)) [some (.str (T.node c l r).tx), some (.lst false (frs fl)), some (.lst true [.int 0]), z] := by
      simp [t_right_starts_1, t_right_starts_2, t_right_starts_6, t_right_starts_5, t_right_starts_7, t_right_starts_8, t_right_starts_4, t_right_starts_9, b_right_starts_3, t_right_starts_3, t_right_starts_10, den_right_starts, fn_right_starts, runF, endF, startF, outsOf, dSeq, dIfS, dOp, opR, dDisp, opRM, dCons, dNil, dIo, vals, splitIo, dVar, dMove, dC, dRet, dExp, dSkip, dAsg, sName, sTup, sNil, sCons, one, two, gLen, gEq, gNe, gEqS, gMod, gDiv, gSub, gAdd, gAddI, gAddL, gMul, gMulI, gPow, gAbs, gIx, gLt, gLe, gGt, gGe, gCmp, gIsi, isTy, isNon, gList, opLst, opTup, dPop, dAppend, dReverse, dSetIx, dIf, dAnd, dOr, dNot, andP, isLst, dCall0, dCallIo, dFor, dIt, itR, itL, itS, itR1, itR2, itRev, itRR1, opSl, lod, gSl, clean, cleans, imm, imms, fr, fz, fz1, frs, frs_len, bdec, fr_fr]
    have e : den_right_starts (callF tbl k) [some (.str (T.node c l r).tx), none, none, none] = .rt (.lst false (frs fl)) [some (.str (T.node c l r).tx), some (.lst false (frs fl)), some (.lst true [.int 0]), z] := by
      unfold den_right_starts
      rw [seq_nx s1, seq_nx s2, seq_nx s3, s4]
    simp [runF, fn_right_starts, startF, e, endF, outsOf]
  · have := h0 c l r rfl
    simpa using this
end TB
end
section
set_option Elab.async false
set_option linter.all false
set_option maxRecDepth 100000
set_option maxHeartbeats 4000000
namespace TB
open PySem PySem.Spec L2
theorem c_left_of (k : Nat) (ds : List D) : callF tbl (k + 1) 1 ds = runF fn_left_of (callF tbl k) ds := rfl
theorem c_right_of (k : Nat) (ds : List D) : callF tbl (k + 1) 2 ds = runF fn_right_of (callF tbl k) ds := rfl
theorem left_of_ok (k : Nat) {t : T} (hok : t.ok) (hz : t.tx.length ≤ 500000) : callF tbl (k + 2) 1 [.str t.tx] = .ok (.str t.lf.tx) [] := by
  cases t with
  | leaf => rfl
  | node c l r =>
    obtain ⟨fl, e1, e2⟩ := rs_ok k hok hz
    refine (c_left_of _ _).trans ?_
    have p0 : Pu (dVar 0) [some (.str (T.node c l r).tx)] (.str (T.node c l r).tx) := pu_var rfl rfl
    have s1 : t_left_of_1 (callF tbl (k + 1)) [some (.str (T.node c l r).tx)] = .nx [some (.str (T.node c l r).tx)] := st_if_f (pu_op2 p0 pu_c (by simp [gEq, gEqS, T.tx_ne]))
    have e3 : gIx (.lst false (frs fl)) (.int 0) = some (.int (1 + l.tx.length)) := by
      show (atI (frs fl) ((0 : Nat) : Int)).map fr = _
      rw [atI_i, frs_map, List.getElem?_map, e2]; rfl
    have e4 : opSl 1 [.str (T.node c l r).tx, .int 1, .int (1 + l.tx.length)] = some (.str l.tx) := by
      have : (T.node c l r).tx.length ≤ 16777216 := by omega
      simp [opSl, lod, gSl, this, T.cut_l]
    have s3 : t_left_of_3 (callF tbl (k + 1)) [some (.str (T.node c l r).tx)] = .rt (.str l.tx) [some (.str (T.node c l r).tx)] := st_ret (pu_op (puA_cons p0 (puA_cons pu_c (puA_cons (pu_op2 (pu_call (puA_cons p0 puA_nil) e1) pu_c e3) puA_nil))) e4)
    have e : den_left_of (callF tbl (k + 1)) [some (.str (T.node c l r).tx)] = .rt (.str l.tx) [some (.str (T.node c l r).tx)] := by
      unfold den_left_of
      rw [seq_nx s1, s3]
    simp [runF, fn_left_of, startF, e, endF, outsOf, T.lf]
theorem right_of_ok (k : Nat) {t : T} (hok : t.ok) (hz : t.tx.length ≤ 500000) : callF tbl (k + 2) 2 [.str t.tx] = .ok (.str t.rg.tx) [] := by
  cases t with
  | leaf => rfl
  | node c l r =>
    obtain ⟨fl, e1, e2⟩ := rs_ok k hok hz
    refine (c_right_of _ _).trans ?_
    have p0 : Pu (dVar 0) [some (.str (T.node c l r).tx)] (.str (T.node c l r).tx) := pu_var rfl rfl
    have s1 : t_right_of_1 (callF tbl (k + 1)) [some (.str (T.node c l r).tx)] = .nx [some (.str (T.node c l r).tx)] := st_if_f (pu_op2 p0 pu_c (by simp [gEq, gEqS, T.tx_ne]))
    have e3 : gIx (.lst false (frs fl)) (.int 0) = some (.int (1 + l.tx.length)) := by
      show (atI (frs fl) ((0 : Nat) : Int)).map fr = _
      rw [atI_i, frs_map, List.getElem?_map, e2]; rfl
    have e4 : opSl 1 [.str (T.node c l r).tx, .int (1 + l.tx.length)] = some (.str r.tx) := by
      have : (T.node c l r).tx.length ≤ 16777216 := by omega
      simp [opSl, lod, gSl, this, T.cut_r]
    have s3 : t_right_of_3 (callF tbl (k + 1)) [some (.str (T.node c l r).tx)] = .rt (.str r.tx) [some (.str (T.node c l r).tx)] := st_ret (pu_op (puA_cons p0 (puA_cons (pu_op2 (pu_call (puA_cons p0 puA_nil) e1) pu_c e3) puA_nil)) e4)
    have e : den_right_of (callF tbl (k + 1)) [some (.str (T.node c l r).tx)] = .rt (.str r.tx) [some (.str (T.node c l r).tx)] := by
      unfold den_right_of
      rw [seq_nx s1, s3]
    simp [runF, fn_right_of, startF, e, endF, outsOf, T.rg]
end TB
end
section
set_option Elab.async false
set_option linter.all false
set_option maxRecDepth 100000
set_option maxHeartbeats 4000000
namespace TB
open PySem PySem.Spec L2
/-! ### counting to a tree's end -/
theorem le_leaf1 (cf : CF) (x : List Nat) (A : Option D) (p : Nat) (hx : x[p]? = some 46) (hz : x.length ≤ 1000000) :
    b_law_end_2 cf [some (.str x), A, some (.int 1), some (.int p)] = .rt (.int (p + 1)) [some (.str x), A, some (.int 0), some (.int p)] := by
  have h1 : x.length ≤ 16777216 := by omega
  simp [t_law_end_1, t_law_end_3, t_law_end_5, t_law_end_4, b_law_end_2, t_law_end_2, t_law_end_6, den_law_end, fn_law_end, runF, endF, startF, outsOf, dSeq, dIfS, dOp, opR, dDisp, opRM, dCons, dNil, dIo, vals, splitIo, dVar, dMove, dC, dRet, dExp, dSkip, dAsg, sName, sTup, sNil, sCons, one, two, gLen, gEq, gNe, gEqS, gMod, gDiv, gSub, gAdd, gAddI, gAddL, gMul, gMulI, gPow, gAbs, gIx, gLt, gLe, gGt, gGe, gCmp, gIsi, isTy, isNon, gList, opLst, opTup, dPop, dAppend, dReverse, dSetIx, dIf, dAnd, dOr, dNot, andP, isLst, dCall0, dCallIo, dFor, dIt, itR, itL, itS, itR1, itR2, itRev, itRR1, opSl, lod, gSl, clean, cleans, imm, imms, fr, fz, fz1, frs, frs_len, bdec, fr_fr, atI_i, hx, h1]
theorem le_leaf2 (cf : CF) (x : List Nat) (A : Option D) (o : Int) (ho : 2 ≤ o) (p : Nat) (hx : x[p]? = some 46) (hz : x.length ≤ 1000000) :
    b_law_end_2 cf [some (.str x), A, some (.int o), some (.int p)] = .nx [some (.str x), A, some (.int (o - 1)), some (.int p)] := by
  have h1 : x.length ≤ 16777216 := by omega
  have h2 : ¬ (o - 1 = 0) := by omega
  simp [t_law_end_1, t_law_end_3, t_law_end_5, t_law_end_4, b_law_end_2, t_law_end_2, t_law_end_6, den_law_end, fn_law_end, runF, endF, startF, outsOf, dSeq, dIfS, dOp, opR, dDisp, opRM, dCons, dNil, dIo, vals, splitIo, dVar, dMove, dC, dRet, dExp, dSkip, dAsg, sName, sTup, sNil, sCons, one, two, gLen, gEq, gNe, gEqS, gMod, gDiv, gSub, gAdd, gAddI, gAddL, gMul, gMulI, gPow, gAbs, gIx, gLt, gLe, gGt, gGe, gCmp, gIsi, isTy, isNon, gList, opLst, opTup, dPop, dAppend, dReverse, dSetIx, dIf, dAnd, dOr, dNot, andP, isLst, dCall0, dCallIo, dFor, dIt, itR, itL, itS, itR1, itR2, itRev, itRR1, opSl, lod, gSl, clean, cleans, imm, imms, fr, fz, fz1, frs, frs_len, bdec, fr_fr, atI_i, hx, h1, h2]
theorem le_node (cf : CF) (x : List Nat) (A : Option D) (o : Int) (ho : 1 ≤ o) (p : Nat) (c : Nat) (hc : c ≠ 46) (hx : x[p]? = some c) (hz : x.length ≤ 1000000) :
    b_law_end_2 cf [some (.str x), A, some (.int o), some (.int p)] = .nx [some (.str x), A, some (.int (o + 1)), some (.int p)] := by
  have h1 : x.length ≤ 16777216 := by omega
  have h2 : ¬ (o + 1 = 0) := by omega
  simp [t_law_end_1, t_law_end_3, t_law_end_5, t_law_end_4, b_law_end_2, t_law_end_2, t_law_end_6, den_law_end, fn_law_end, runF, endF, startF, outsOf, dSeq, dIfS, dOp, opR, dDisp, opRM, dCons, dNil, dIo, vals, splitIo, dVar, dMove, dC, dRet, dExp, dSkip, dAsg, sName, sTup, sNil, sCons, one, two, gLen, gEq, gNe, gEqS, gMod, gDiv, gSub, gAdd, gAddI, gAddL, gMul, gMulI, gPow, gAbs, gIx, gLt, gLe, gGt, gGe, gCmp, gIsi, isTy, isNon, gList, opLst, opTup, dPop, dAppend, dReverse, dSetIx, dIf, dAnd, dOr, dNot, andP, isLst, dCall0, dCallIo, dFor, dIt, itR, itL, itS, itR1, itR2, itRev, itRR1, opSl, lod, gSl, clean, cleans, imm, imms, fr, fz, fz1, frs, frs_len, bdec, fr_fr, atI_i, hx, hc, h1, h2]
theorem le_run (cf : CF) : ∀ (t : T), t.ok → ∀ (x pre suf : List Nat) (A z : Option D) (o : Int) (rest : List D), x = pre ++ (t.tx ++ suf) → x.length ≤ 1000000 →
    (2 ≤ o → ∃ z', loopF (sName [] 3) (b_law_end_2 cf) (rng pre.length t.tx.length ++ rest) [some (.str x), A, some (.int o), z] = loopF (sName [] 3) (b_law_end_2 cf) rest [some (.str x), A, some (.int (o - 1)), z']) ∧
    (o = 1 → ∃ ρ', loopF (sName [] 3) (b_law_end_2 cf) (rng pre.length t.tx.length ++ rest) [some (.str x), A, some (.int o), z] = .rt (.int (pre.length + t.tx.length)) ρ') := by
  intro t
  induction t with
  | leaf =>
    intro _ x pre suf A z o rest hx hz
    have h1 : x[pre.length]? = some 46 := by subst hx; simp [T.tx]
    have e : rng pre.length T.leaf.tx.length = [.int pre.length] := rng_one _
    rw [e]
    refine ⟨fun ho => ⟨some (.int pre.length), loopF_one (sName_ok (by simp)) (le_leaf2 cf x A o ho pre.length h1 hz)⟩, fun ho => ?_⟩
    subst ho
    refine ⟨[some (.str x), A, some (.int 0), some (.int pre.length)], ?_⟩
    have h2 := le_leaf1 cf x A pre.length h1 hz
    simp [loopF, sName, h2, T.tx]
  | node c l r ihl ihr =>
    intro hok x pre suf A z o rest hx hz
    obtain ⟨hc, hol, hor⟩ := hok
    have hlen : (T.node c l r).tx.length = 1 + (l.tx.length + r.tx.length) := by simp [T.tx]; omega
    have e1 : x = (pre ++ c :: l.tx) ++ (r.tx ++ suf) := by rw [hx]; simp [T.tx]
    have e2 : x = (pre ++ [c]) ++ (l.tx ++ (r.tx ++ suf)) := by rw [hx]; simp [T.tx]
    have e3 : x[pre.length]? = some c := by subst hx; simp [T.tx]
    have split : rng pre.length (T.node c l r).tx.length ++ rest = .int pre.length :: (rng ((pre ++ [c]).length : Nat) l.tx.length ++ (rng ((pre ++ c :: l.tx).length : Nat) r.tx.length ++ rest)) := by
      rw [hlen, rng_add, rng_one, rng_add]
      have a1 : ((pre.length : Int) + (1 : Nat) + (l.tx.length : Nat)) = (((pre ++ c :: l.tx).length : Nat) : Int) := by simp; omega
      have a2 : ((pre.length : Int) + (1 : Nat)) = (((pre ++ [c]).length : Nat) : Int) := by simp
      rw [a1, a2]
      simp
    rw [split]
    have st : ∀ (ho : 1 ≤ o), ∃ z', loopF (sName [] 3) (b_law_end_2 cf) (.int pre.length :: (rng ((pre ++ [c]).length : Nat) l.tx.length ++ (rng ((pre ++ c :: l.tx).length : Nat) r.tx.length ++ rest))) [some (.str x), A, some (.int o), z] = loopF (sName [] 3) (b_law_end_2 cf) (rng ((pre ++ c :: l.tx).length : Nat) r.tx.length ++ rest) [some (.str x), A, some (.int o), z'] := fun ho => by
      rw [loopF_one (sName_ok (by simp)) (le_node cf x A o ho pre.length c hc e3 hz)]
      obtain ⟨z', h⟩ := (ihl hol x (pre ++ [c]) (r.tx ++ suf) A (some (.int pre.length)) (o + 1) (rng ((pre ++ c :: l.tx).length : Nat) r.tx.length ++ rest) e2 hz).1 (by omega)
      have : o + 1 - 1 = o := by omega
      rw [this] at h
      exact ⟨z', h⟩
    refine ⟨fun ho => ?_, fun ho => ?_⟩
    · obtain ⟨z', h⟩ := st (by omega)
      rw [h]
      exact (ihr hor x (pre ++ c :: l.tx) suf A z' o rest e1 hz).1 ho
    · obtain ⟨z', h⟩ := st (by omega)
      rw [h]
      obtain ⟨ρ', h2⟩ := (ihr hor x (pre ++ c :: l.tx) suf A z' o rest e1 hz).2 ho
      refine ⟨ρ', h2.trans ?_⟩
      congr 2
      rw [hlen]
      simp
      omega
theorem c_end (k : Nat) (ds : List D) : callF tbl (k + 1) 15 ds = runF fn_law_end (callF tbl k) ds := rfl
theorem c_lleft (k : Nat) (ds : List D) : callF tbl (k + 1) 16 ds = runF fn_law_left (callF tbl k) ds := rfl
theorem c_lright (k : Nat) (ds : List D) : callF tbl (k + 1) 17 ds = runF fn_law_right (callF tbl k) ds := rfl
theorem end_ok (k : Nat) {c : Nat} {l r : T} (hok : (T.node c l r).ok) (hz : (T.node c l r).tx.length ≤ 500000) : callF tbl (k + 1) 15 [.str (T.node c l r).tx, .int 1] = .ok (.int (1 + l.tx.length)) [] := by
  refine (c_end _ _).trans ?_
  have s1 : t_law_end_1 (callF tbl k) [some (.str (T.node c l r).tx), some (.int 1), none, none] = .nx [some (.str (T.node c l r).tx), some (.int 1), some (.int 1), none] := rfl
  obtain ⟨ρ', h⟩ := (le_run (callF tbl k) l hok.2.1 (T.node c l r).tx [c] r.tx (some (.int 1)) none 1 (rng (1 + l.tx.length : Nat) r.tx.length) (by simp [T.tx]) (by omega)).2 rfl
  have hn : (T.node c l r).tx.length - 1 = l.tx.length + r.tx.length := by simp [T.tx]
  have s2 : t_law_end_2 (callF tbl k) [some (.str (T.node c l r).tx), some (.int 1), some (.int 1), none] = .rt (.int (1 + l.tx.length)) ρ' := by
    refine (st_for (puA_cons (pu_var rfl rfl) (puA_cons (pu_op1 (d := .int (T.node c l r).tx.length) (pu_var rfl rfl) (by simp [gLen]; omega)) puA_nil)) (itR2_nat 1 _ (by omega) (by omega))).trans ?_
    rw [hn, rng_add]
    have : (((1 : Nat) : Int) + (l.tx.length : Nat)) = ((1 + l.tx.length : Nat) : Int) := by simp
    rw [this]
    exact h
  have e : den_law_end (callF tbl k) [some (.str (T.node c l r).tx), some (.int 1), none, none] = .rt (.int (1 + l.tx.length)) ρ' := by
    unfold den_law_end
    rw [seq_nx s1, seq_rt s2]
  simp [runF, fn_law_end, startF, e, endF, outsOf]
theorem lleft_ok (k : Nat) {t : T} (hok : t.ok) (hz : t.tx.length ≤ 500000) : callF tbl (k + 2) 16 [.str t.tx] = .ok (.str t.lf.tx) [] := by
  cases t with
  | leaf => rfl
  | node c l r =>
    have e1 := end_ok k hok hz
    refine (c_lleft _ _).trans ?_
    have p0 : Pu (dVar 0) [some (.str (T.node c l r).tx)] (.str (T.node c l r).tx) := pu_var rfl rfl
    have e4 : opSl 1 [.str (T.node c l r).tx, .int 1, .int (1 + l.tx.length)] = some (.str l.tx) := by
      have : (T.node c l r).tx.length ≤ 16777216 := by omega
      simp [opSl, lod, gSl, this, T.cut_l]
    have e : den_law_left (callF tbl (k + 1)) [some (.str (T.node c l r).tx)] = .rt (.str l.tx) [some (.str (T.node c l r).tx)] := st_ret (pu_if_f (pu_op2 p0 pu_c (by simp [gEq, gEqS, T.tx_ne])) (pu_op (puA_cons p0 (puA_cons pu_c (puA_cons (pu_call (puA_cons p0 (puA_cons pu_c puA_nil)) e1) puA_nil))) e4))
    simp [runF, fn_law_left, startF, e, endF, outsOf, T.lf]
theorem lright_ok (k : Nat) {t : T} (hok : t.ok) (hz : t.tx.length ≤ 500000) : callF tbl (k + 2) 17 [.str t.tx] = .ok (.str t.rg.tx) [] := by
  cases t with
  | leaf => rfl
  | node c l r =>
    have e1 := end_ok k hok hz
    refine (c_lright _ _).trans ?_
    have p0 : Pu (dVar 0) [some (.str (T.node c l r).tx)] (.str (T.node c l r).tx) := pu_var rfl rfl
    have e4 : opSl 1 [.str (T.node c l r).tx, .int (1 + l.tx.length)] = some (.str r.tx) := by
      have : (T.node c l r).tx.length ≤ 16777216 := by omega
      simp [opSl, lod, gSl, this, T.cut_r]
    have e : den_law_right (callF tbl (k + 1)) [some (.str (T.node c l r).tx)] = .rt (.str r.tx) [some (.str (T.node c l r).tx)] := st_ret (pu_if_f (pu_op2 p0 pu_c (by simp [gEq, gEqS, T.tx_ne])) (pu_op (puA_cons p0 (puA_cons (pu_call (puA_cons p0 (puA_cons pu_c puA_nil)) e1) puA_nil)) e4))
    simp [runF, fn_law_right, startF, e, endF, outsOf, T.rg]
end TB
end
section
set_option Elab.async false
set_option linter.all false
set_option maxRecDepth 100000
set_option maxHeartbeats 4000000
namespace TB
open PySem PySem.Spec L2
theorem sev_aug {ρ : VE} {i : Nat} {a b : Int} {g : Int → Int → Int} {δ : Den} (h : ρ[i]? = some (some (.int a))) (he : Pu δ ρ (.int b)) : dAug i g δ ρ = .nx (ρ.set i (some (.int (g a b)))) := by
  obtain ⟨bs, e, f⟩ := he
  simp [dAug, h, e, f]
theorem par_pe {ρ : VE} {i j : Nat} {d e : D} {δs : DenA} (h : PeA δs ρ [d, e]) (hi : i < ρ.length) (hj : j < ρ.length) : dPar [] i j δs ρ = .nx ((ρ.set i (some d)).set j (some e)) := by
  obtain ⟨as, es, ev⟩ := h
  simp [dPar, es, ev, fz, sName, hi, hj]
theorem pe_str {ρ : VE} {δ : Den} {z : List Nat} (h : Pe δ ρ (.str z)) : Pe (dStr δ) ρ (.str z) := by
  unfold Pe at *
  simp [dStr, h]
theorem gNeS (x y : List Nat) : gNe (.str x) (.str y) = some (.bl (decide (x ≠ y))) := by
  have : (x == y) = decide (x = y) := bstr x y
  simp [gNe, gEqS, this]
theorem gEqSt (x y : List Nat) : gEq (.str x) (.str y) = some (.bl (decide (x = y))) := by
  have : (x == y) = decide (x = y) := bstr x y
  simp [gEq, gEqS, this]
theorem gIx0 (c : Nat) (x : List Nat) (h : (c :: x).length ≤ 16777216) : gIx (.str (c :: x)) (.int 0) = some (.str [c]) := by
  simp only [gIx, if_pos h]
  show (atI (c :: x) ((0 : Nat) : Int)).map _ = _
  rw [atI_i]; rfl
theorem c_sz (k : Nat) (ds : List D) : callF tbl (k + 1) 3 ds = runF fn_size_of (callF tbl k) ds := rfl
theorem sz_ok (k : Nat) (t : T) (hz : t.sz ≤ 100000) : callF tbl (k + 1) 3 [.str t.tx] = .ok (.int t.sz) [] := by
  refine (c_sz _ _).trans ?_
  have hl := t.len
  have e : den_size_of (callF tbl k) [some (.str t.tx)] = .rt (.int t.sz) [some (.str t.tx)] := by
    refine sev_ret (pe_op2 (g := gDiv) (pe_op1 (g := gLen) (pe_var (i := 0) (d := .str t.tx) rfl rfl).rd (d := .int t.tx.length) ?_ rfl).rd (pe_c (d := .int 2)).rd ?_ rfl).ev
    · have : t.tx.length ≤ 16777216 := by omega
      simp [gLen, this]
    · have : (t.tx.length : Int) / 2 = t.sz := by omega
      simp [gDiv, this]
  exact run_rt (b := den_size_of) rfl rfl rfl e rfl
theorem T.inn_ok {lt : List Nat} (hd : 46 ∉ lt) : ∀ {t : T}, t.inn lt → t.ok
  | .leaf, _ => trivial
  | .node c l r, h => ⟨fun z => hd (z ▸ h.1), T.inn_ok hd h.2.1, T.inn_ok hd h.2.2⟩
theorem gDiv_C {L : Nat} (h1 : 1 ≤ L) (h3 : L ≤ 3) (n : Nat) : gDiv (.int (C L (n + 1))) (.int L) = some (.int (P L n (n + 1))) := by
  have h : (0 : Int) < (L : Int) ∧ (L : Int) < 1073741824 := by omega
  simp only [gDiv, if_pos h]
  congr 2
  rw [C_succ, ← Int.natCast_ediv, Nat.mul_div_cancel_left _ h1]
theorem P_lt {L : Nat} (h1 : 1 ≤ L) (h3 : L ≤ 3) {n k : Nat} (hn : n < 70) (hk : k ≤ n + 1) : P L n k < 2 ^ 250 := by
  have ha := P_mono L n hk
  have hb : P L n (n + 1) ≤ L * P L n (n + 1) := Nat.le_mul_of_pos_left _ h1
  have hc := C_bound h1 h3 (n := n + 1) (by omega)
  rw [C_succ] at hc
  exact Nat.lt_of_le_of_lt (Nat.le_trans ha hb) hc
theorem c_ni (k : Nat) (ds : List D) : callF tbl (k + 1) 8 ds = runF fn_number_in_size (callF tbl k) ds := rfl
theorem c_li (k : Nat) (ds : List D) : callF tbl (k + 1) 25 ds = runF fn_law_inside (callF tbl k) ds := rfl
theorem ni_ok {lt : List Nat} (hL : LL lt) {N : Nat} (hN : N ≤ 70) : ∀ (t : T), t.inn lt → t.sz ≤ N → ∀ k, t.sz ≤ k → callF tbl (k + 3) 8 [.str lt, .lst false (NL (cL lt.length N)), .str t.tx] = .ok (.int (t.nu lt)) [] := by
  intro t
  induction t with
  | leaf => intro _ _ k _; exact (c_ni (k + 2) _).trans rfl
  | node c l r ihl ihr =>
    intro hin hz k hk
    have hok := T.inn_ok hL.no hin
    have hsz : (T.node c l r).sz = l.sz + r.sz + 1 := rfl
    have hlen := (T.node c l r).len
    have hll := l.len
    have hrl := r.len
    have hl1 := hL.l1
    have hl3 := hL.l3
    have hcl := cL_len lt.length N
    obtain ⟨k, rfl⟩ : ∃ k', k = k' + 1 := ⟨k - 1, by omega⟩
    refine (c_ni (k + 3) _).trans ?_
    have eL := ihl hin.2.1 (by omega) k (by omega)
    have eR := ihr hin.2.2 (by omega) k (by omega)
    have el : callF tbl (k + 3) 1 [.str (T.node c l r).tx] = .ok (.str l.tx) [] := left_of_ok (k + 1) hok (by omega)
    have er : callF tbl (k + 3) 2 [.str (T.node c l r).tx] = .ok (.str r.tx) [] := right_of_ok (k + 1) hok (by omega)
    have es := sz_ok (k + 2) (T.node c l r) (by omega)
    have esl := sz_ok (k + 2) l (by omega)
    have esr := sz_ok (k + 2) r (by omega)
    have hbl := T.nu_lt hl1 hin.2.1
    have hbr := T.nu_lt hl1 hin.2.2
    have hCl := C_bound hl1 hl3 (n := l.sz) (by omega)
    have hCr := C_bound hl1 hl3 (n := r.sz) (by omega)
    have hix : lt.idxOf c < 2 ^ 250 := by
      have := List.idxOf_lt_length_of_mem hin.1
      have := two250
      omega
    generalize hct : NL (cL lt.length N) = ct at *
    have hfr : fr (.lst false ct) = .lst false ct := by rw [← hct]; exact fr_NL _ _
    have gix : ∀ i : Nat, i ≤ N → gIx (.lst false ct) (.int i) = some (.int (C lt.length i)) := fun i hi => by
      rw [← hct, gIx_NL _ _ _ (by omega), cL_get _ _ _ hi]
    have v1 : ∀ (s n m le ri : Option D), Pu (dVar 1) [some (.str lt), some (.lst false ct), some (.str (T.node c l r).tx), s, n, m, le, ri] (.lst false ct) := fun s n m le ri => pu_var rfl hfr
    have v2 : ∀ (s n m le ri : Option D), Pe (dVar 2) [some (.str lt), some (.lst false ct), some (.str (T.node c l r).tx), s, n, m, le, ri] (.str (T.node c l r).tx) := fun s n m le ri => pe_var rfl rfl
    have s1 : t_number_in_size_1 (callF tbl (k + 3)) [some (.str lt), some (.lst false ct), some (.str (T.node c l r).tx), none, none, none, none, none] = .nx [some (.str lt), some (.lst false ct), some (.str (T.node c l r).tx), none, none, none, none, none] := by
      have q := pe_op2 (g := gEq) (v2 none none none none none).rd (pe_c (d := .str [46])).rd (gEqSt _ _) rfl
      rw [show decide ((T.node c l r).tx = [46]) = false by simp [T.tx_ne]] at q
      exact sev_if_f q.ev
    have s3 : t_number_in_size_3 (callF tbl (k + 3)) [some (.str lt), some (.lst false ct), some (.str (T.node c l r).tx), none, none, none, none, none] = .nx [some (.str lt), some (.lst false ct), some (.str (T.node c l r).tx), some (.int (l.sz + r.sz + 1 : Nat)), none, none, none, none] := sev_asg (pe_call (g := callF tbl (k + 3) 3) (rdA_cons (v2 none none none none none).rd rdA_nil) es rfl).ev rfl
    have s4 : t_number_in_size_4 (callF tbl (k + 3)) [some (.str lt), some (.lst false ct), some (.str (T.node c l r).tx), some (.int (l.sz + r.sz + 1 : Nat)), none, none, none, none] = .nx [some (.str lt), some (.lst false ct), some (.str (T.node c l r).tx), some (.int (l.sz + r.sz + 1 : Nat)), none, none, some (.str l.tx), some (.str r.tx)] :=
      par_pe (peA_cons (pe_call (g := callF tbl (k + 3) 1) (rdA_cons (v2 _ _ _ _ _).rd rdA_nil) el rfl) (peA_cons (pe_call (g := callF tbl (k + 3) 2) (rdA_cons (v2 _ _ _ _ _).rd rdA_nil) er rfl) peA_nil)) (by simp) (by simp)
    have v3 : ∀ (n m : Option D), Pe (dVar 3) [some (.str lt), some (.lst false ct), some (.str (T.node c l r).tx), some (.int (l.sz + r.sz + 1 : Nat)), n, m, some (.str l.tx), some (.str r.tx)] (.int (l.sz + r.sz + 1 : Nat)) := fun n m => pe_var rfl rfl
    have v0 : ∀ (n m : Option D), Pe (dVar 0) [some (.str lt), some (.lst false ct), some (.str (T.node c l r).tx), some (.int (l.sz + r.sz + 1 : Nat)), n, m, some (.str l.tx), some (.str r.tx)] (.str lt) := fun n m => pe_var rfl rfl
    have v6 : ∀ (n m : Option D), Pe (dVar 6) [some (.str lt), some (.lst false ct), some (.str (T.node c l r).tx), some (.int (l.sz + r.sz + 1 : Nat)), n, m, some (.str l.tx), some (.str r.tx)] (.str l.tx) := fun n m => pe_var rfl rfl
    have v7 : ∀ (n m : Option D), Pe (dVar 7) [some (.str lt), some (.lst false ct), some (.str (T.node c l r).tx), some (.int (l.sz + r.sz + 1 : Nat)), n, m, some (.str l.tx), some (.str r.tx)] (.str r.tx) := fun n m => pe_var rfl rfl
    have s5 : t_number_in_size_5 (callF tbl (k + 3)) [some (.str lt), some (.lst false ct), some (.str (T.node c l r).tx), some (.int (l.sz + r.sz + 1 : Nat)), none, none, some (.str l.tx), some (.str r.tx)] = .nx [some (.str lt), some (.lst false ct), some (.str (T.node c l r).tx), some (.int (l.sz + r.sz + 1 : Nat)), some (.int (lt.idxOf c * P lt.length (l.sz + r.sz) (l.sz + r.sz + 1) : Nat)), none, some (.str l.tx), some (.str r.tx)] := by
      have a1 := pe_op2 (g := gIdx) (pe_str (v0 none none)).rd (pe_op2 (g := gIx) (v2 _ _ _ _ _).rd (pe_c (d := .int 0)).rd (gIx0 c (l.tx ++ r.tx) (by show (T.node c l r).tx.length ≤ _; omega)) rfl).rd (d := .int (lt.idxOf c)) (by simp [gIdx, hin.1]) rfl
      have a2 := pe_op2 (g := gDiv) (pe_op2 (g := gIx) (v1 _ _ _ _ _).rd (v3 none none).rd (gix (l.sz + r.sz + 1) (by omega)) rfl).rd (pe_op1 (g := gLen) (v0 none none).rd (d := .int lt.length) (by
        have : lt.length ≤ 16777216 := by omega
        simp [gLen, this]) rfl).rd (gDiv_C hl1 hl3 _) rfl
      exact sev_asg (pe_op2 (g := gMul) a1.rd a2.rd (gMul_NN _ _ hix (P_lt hl1 hl3 (by omega) (by omega))) rfl).ev rfl
    obtain ⟨ρ', hl6, z, rfl⟩ := loop_inv (g := sName [] 5) (body := b_number_in_size_6 (callF tbl (k + 3))) (items := rng 0 l.sz) (ρ := [some (.str lt), some (.lst false ct), some (.str (T.node c l r).tx), some (.int (l.sz + r.sz + 1 : Nat)), some (.int (lt.idxOf c * P lt.length (l.sz + r.sz) (l.sz + r.sz + 1) : Nat)), none, some (.str l.tx), some (.str r.tx)])
      (fun i ρ => ∃ z, ρ = [some (.str lt), some (.lst false ct), some (.str (T.node c l r).tx), some (.int (l.sz + r.sz + 1 : Nat)), some (.int (lt.idxOf c * P lt.length (l.sz + r.sz) (l.sz + r.sz + 1) + P lt.length (l.sz + r.sz) i : Nat)), z, some (.str l.tx), some (.str r.tx)]) (fun i d ρ hi hI => by
        obtain ⟨z, rfl⟩ := hI
        obtain ⟨e, hlt⟩ := rng_get hi
        rw [Int.zero_add] at e
        subst e
        have v5 : ∀ n, Pe (dVar 5) [some (.str lt), some (.lst false ct), some (.str (T.node c l r).tx), some (.int (l.sz + r.sz + 1 : Nat)), n, some (.int i), some (.str l.tx), some (.str r.tx)] (.int i) := fun n => pe_var rfl rfl
        have b1 := pe_op2 (g := gIx) (v1 _ _ _ _ _).rd (v5 (some (.int (lt.idxOf c * P lt.length (l.sz + r.sz) (l.sz + r.sz + 1) + P lt.length (l.sz + r.sz) i : Nat)))).rd (gix i (by omega)) rfl
        have b2 := pe_op2 (g := gIx) (v1 _ _ _ _ _).rd (pe_op2 (g := gSub) (pe_op2 (g := gSub) (v3 (some (.int (lt.idxOf c * P lt.length (l.sz + r.sz) (l.sz + r.sz + 1) + P lt.length (l.sz + r.sz) i : Nat))) (some (.int i))).rd (pe_c (d := .int 1)).rd (d := .int (l.sz + r.sz : Nat)) (by simp [gSub]) rfl).rd (v5 _).rd (d := .int ((l.sz + r.sz - i : Nat) : Int)) (by
          have : ((l.sz + r.sz : Nat) : Int) - i = ((l.sz + r.sz - i : Nat) : Int) := by omega
          simp only [gSub, this]) rfl).rd (gix (l.sz + r.sz - i) (by omega)) rfl
        have b3 := pe_op2 (g := gMul) b1.rd b2.rd (gMul_NN _ _ (C_bound hl1 hl3 (by omega)) (C_bound hl1 hl3 (by omega))) rfl
        have hb := sev_aug (i := 4) (g := fun a b => a + b) (a := (lt.idxOf c * P lt.length (l.sz + r.sz) (l.sz + r.sz + 1) + P lt.length (l.sz + r.sz) i : Nat)) rfl b3.pu
        refine ⟨_, sName_ok (by simp), _, .inl hb, some (.int i), ?_⟩
        have e : ((lt.idxOf c * P lt.length (l.sz + r.sz) (l.sz + r.sz + 1) + P lt.length (l.sz + r.sz) i : Nat) : Int) + ((C lt.length i * C lt.length (l.sz + r.sz - i) : Nat) : Int) = ((lt.idxOf c * P lt.length (l.sz + r.sz) (l.sz + r.sz + 1) + P lt.length (l.sz + r.sz) (i + 1) : Nat) : Int) := by
          rw [P_succ lt.length (l.sz + r.sz) i]; omega
        rw [← e]; rfl) ⟨none, by rw [P_zero]; rfl⟩
    rw [rng_len] at hl6
    have s6 : t_number_in_size_6 (callF tbl (k + 3)) [some (.str lt), some (.lst false ct), some (.str (T.node c l r).tx), some (.int (l.sz + r.sz + 1 : Nat)), some (.int (lt.idxOf c * P lt.length (l.sz + r.sz) (l.sz + r.sz + 1) : Nat)), none, some (.str l.tx), some (.str r.tx)] = .nx [some (.str lt), some (.lst false ct), some (.str (T.node c l r).tx), some (.int (l.sz + r.sz + 1 : Nat)), some (.int (lt.idxOf c * P lt.length (l.sz + r.sz) (l.sz + r.sz + 1) + P lt.length (l.sz + r.sz) l.sz : Nat)), z, some (.str l.tx), some (.str r.tx)] :=
      (srd_for (rdA_cons (pe_call (g := callF tbl (k + 3) 3) (rdA_cons (v6 _ _).rd rdA_nil) esl rfl).rd rdA_nil) (itR1_nat l.sz (by omega))).trans hl6
    generalize hA : lt.idxOf c * P lt.length (l.sz + r.sz) (l.sz + r.sz + 1) + P lt.length (l.sz + r.sz) l.sz = A at *
    have s8 : t_number_in_size_8 (callF tbl (k + 3)) [some (.str lt), some (.lst false ct), some (.str (T.node c l r).tx), some (.int (l.sz + r.sz + 1 : Nat)), some (.int (A : Nat)), z, some (.str l.tx), some (.str r.tx)] = .nx [some (.str lt), some (.lst false ct), some (.str (T.node c l r).tx), some (.int (l.sz + r.sz + 1 : Nat)), some (.int (A + l.nu lt * C lt.length r.sz : Nat)), z, some (.str l.tx), some (.str r.tx)] := by
      have b1 := pe_call (g := callF tbl (k + 3) 8) (d := .int (l.nu lt)) (rdA_cons (v0 (some (.int (A : Nat))) z).rd (rdA_cons (v1 _ _ _ _ _).rd (rdA_cons (v6 _ _).rd rdA_nil))) (by
        show callF tbl (k + 3) 8 [.str lt, fr (.lst false ct), .str l.tx] = _
        rw [hfr]; exact eL) rfl
      have b2 := pe_op2 (g := gIx) (v1 _ _ _ _ _).rd (pe_call (g := callF tbl (k + 3) 3) (rdA_cons (v7 (some (.int (A : Nat))) z).rd rdA_nil) esr rfl).rd (gix r.sz (by omega)) rfl
      have b3 := pe_op2 (g := gMul) b1.rd b2.rd (gMul_NN _ _ (by omega) hCr) rfl
      have := sev_aug (i := 4) (g := fun a b => a + b) (a := (A : Nat)) rfl b3.pu
      refine this.trans ?_
      have e : ((A : Nat) : Int) + ((l.nu lt * C lt.length r.sz : Nat) : Int) = ((A + l.nu lt * C lt.length r.sz : Nat) : Int) := by omega
      rw [← e]; rfl
    have s9 : t_number_in_size_9 (callF tbl (k + 3)) [some (.str lt), some (.lst false ct), some (.str (T.node c l r).tx), some (.int (l.sz + r.sz + 1 : Nat)), some (.int (A + l.nu lt * C lt.length r.sz : Nat)), z, some (.str l.tx), some (.str r.tx)] = .rt (.int ((T.node c l r).nu lt)) [some (.str lt), some (.lst false ct), some (.str (T.node c l r).tx), some (.int (l.sz + r.sz + 1 : Nat)), some (.int (A + l.nu lt * C lt.length r.sz : Nat)), z, some (.str l.tx), some (.str r.tx)] := by
      have b1 := pe_call (g := callF tbl (k + 3) 8) (d := .int (r.nu lt)) (rdA_cons (v0 (some (.int (A + l.nu lt * C lt.length r.sz : Nat))) z).rd (rdA_cons (v1 _ _ _ _ _).rd (rdA_cons (v7 _ _).rd rdA_nil))) (by
        show callF tbl (k + 3) 8 [.str lt, fr (.lst false ct), .str r.tx] = _
        rw [hfr]; exact eR) rfl
      refine sev_ret (pe_op2 (g := gAdd) (pe_var (i := 4) (d := .int (A + l.nu lt * C lt.length r.sz : Nat)) rfl rfl).rd b1.rd ?_ rfl).ev
      have e : (T.node c l r).nu lt = A + l.nu lt * C lt.length r.sz + r.nu lt := by rw [← hA]; rfl
      rw [e]
      simp only [gAdd, gAddI, Option.some_or]
      congr 2
    have e : den_number_in_size (callF tbl (k + 3)) [some (.str lt), some (.lst false ct), some (.str (T.node c l r).tx), none, none, none, none, none] = .rt (.int ((T.node c l r).nu lt)) [some (.str lt), some (.lst false ct), some (.str (T.node c l r).tx), some (.int (l.sz + r.sz + 1 : Nat)), some (.int (A + l.nu lt * C lt.length r.sz : Nat)), z, some (.str l.tx), some (.str r.tx)] := by
      unfold den_number_in_size
      exact (seq_nx s1).trans ((seq_nx s3).trans ((seq_nx s4).trans ((seq_nx s5).trans ((seq_nx s6).trans ((seq_nx s8).trans s9)))))
    exact run_rt (b := den_number_in_size) rfl rfl rfl e rfl
end TB
end
section
set_option Elab.async false
set_option linter.all false
set_option maxRecDepth 100000
set_option maxHeartbeats 4000000
namespace TB
open PySem PySem.Spec L2
theorem li_ok {lt : List Nat} (hL : LL lt) {N : Nat} (hN : N ≤ 70) : ∀ (t : T), t.inn lt → t.sz ≤ N → ∀ k, t.sz ≤ k → callF tbl (k + 3) 25 [.str lt, .lst false (NL (cL lt.length N)), .str t.tx] = .ok (.int (t.nu lt)) [] := by
  intro t
  induction t with
  | leaf => intro _ _ k _; exact (c_li (k + 2) _).trans rfl
  | node c l r ihl ihr =>
    intro hin hz k hk
    have hok := T.inn_ok hL.no hin
    have hsz : (T.node c l r).sz = l.sz + r.sz + 1 := rfl
    have hlen := (T.node c l r).len
    have hll := l.len
    have hrl := r.len
    have hl1 := hL.l1
    have hl3 := hL.l3
    have hcl := cL_len lt.length N
    obtain ⟨k, rfl⟩ : ∃ k', k = k' + 1 := ⟨k - 1, by omega⟩
    refine (c_li (k + 3) _).trans ?_
    have eL := ihl hin.2.1 (by omega) k (by omega)
    have eR := ihr hin.2.2 (by omega) k (by omega)
    have el : callF tbl (k + 3) 16 [.str (T.node c l r).tx] = .ok (.str l.tx) [] := lleft_ok (k + 1) hok (by omega)
    have er : callF tbl (k + 3) 17 [.str (T.node c l r).tx] = .ok (.str r.tx) [] := lright_ok (k + 1) hok (by omega)
    have hbl := T.nu_lt hl1 hin.2.1
    have hCl := C_bound hl1 hl3 (n := l.sz) (by omega)
    have hCr := C_bound hl1 hl3 (n := r.sz) (by omega)
    have hix : lt.idxOf c < 2 ^ 250 := by
      have := List.idxOf_lt_length_of_mem hin.1
      have := two250
      omega
    generalize hct : NL (cL lt.length N) = ct at *
    have hfr : fr (.lst false ct) = .lst false ct := by rw [← hct]; exact fr_NL _ _
    have gix : ∀ i : Nat, i ≤ N → gIx (.lst false ct) (.int i) = some (.int (C lt.length i)) := fun i hi => by
      rw [← hct, gIx_NL _ _ _ (by omega), cL_get _ _ _ hi]
    have v1 : ∀ (n i le ri s m o : Option D), Pu (dVar 1) [some (.str lt), some (.lst false ct), some (.str (T.node c l r).tx), (n), (i), (le), (ri), (s), (m), (o)] (.lst false ct) := fun n i le ri s m o => pu_var rfl hfr
    have v0 : ∀ (n i le ri s m o : Option D), Pe (dVar 0) [some (.str lt), some (.lst false ct), some (.str (T.node c l r).tx), (n), (i), (le), (ri), (s), (m), (o)] (.str lt) := fun n i le ri s m o => pe_var rfl rfl
    have v2 : ∀ (n i le ri s m o : Option D), Pe (dVar 2) [some (.str lt), some (.lst false ct), some (.str (T.node c l r).tx), (n), (i), (le), (ri), (s), (m), (o)] (.str (T.node c l r).tx) := fun n i le ri s m o => pe_var rfl rfl
    have glen : ∀ x : List Nat, x.length ≤ 100000 → gLen (.str x) = some (.int x.length) := fun x hx => by
      have : x.length ≤ 16777216 := by omega
      simp [gLen, this]
    have gd2 : ∀ (x : List Nat) (z : Nat), x.length = 2 * z + 1 → gDiv (.int x.length) (.int 2) = some (.int z) := fun x z hx => by
      have : (x.length : Int) / 2 = z := by omega
      simp [gDiv, this]
    have s1 : t_law_inside_1 (callF tbl (k + 3)) [some (.str lt), some (.lst false ct), some (.str (T.node c l r).tx), none, none, none, none, none, none, none] = .nx [some (.str lt), some (.lst false ct), some (.str (T.node c l r).tx), none, none, none, none, none, none, none] := by
      have q := pe_op2 (g := gEq) (v2 none none none none none none none).rd (pe_c (d := .str [46])).rd (gEqSt _ _) rfl
      rw [show decide ((T.node c l r).tx = [46]) = false by simp [T.tx_ne]] at q
      exact sev_if_f q.ev
    have s3 : t_law_inside_3 (callF tbl (k + 3)) [some (.str lt), some (.lst false ct), some (.str (T.node c l r).tx), none, none, none, none, none, none, none] = .nx [some (.str lt), some (.lst false ct), some (.str (T.node c l r).tx), none, none, some (.str l.tx), some (.str r.tx), none, none, none] :=
      par_pe (peA_cons (pe_call (g := callF tbl (k + 3) 16) (rdA_cons (v2 _ _ _ _ _ _ _).rd rdA_nil) el rfl) (peA_cons (pe_call (g := callF tbl (k + 3) 17) (rdA_cons (v2 _ _ _ _ _ _ _).rd rdA_nil) er rfl) peA_nil)) (by simp) (by simp)
    have v5 : ∀ (n i s m o : Option D), Pe (dVar 5) [some (.str lt), some (.lst false ct), some (.str (T.node c l r).tx), (n), (i), some (.str l.tx), some (.str r.tx), (s), (m), (o)] (.str l.tx) := fun n i s m o => pe_var rfl rfl
    have v6 : ∀ (n i s m o : Option D), Pe (dVar 6) [some (.str lt), some (.lst false ct), some (.str (T.node c l r).tx), (n), (i), some (.str l.tx), some (.str r.tx), (s), (m), (o)] (.str r.tx) := fun n i s m o => pe_var rfl rfl
    have s4 : t_law_inside_4 (callF tbl (k + 3)) [some (.str lt), some (.lst false ct), some (.str (T.node c l r).tx), none, none, some (.str l.tx), some (.str r.tx), none, none, none] = .nx [some (.str lt), some (.lst false ct), some (.str (T.node c l r).tx), none, none, some (.str l.tx), some (.str r.tx), some (.int (l.sz + r.sz + 1 : Nat)), some (.int l.sz), none] := by
      have a1 := pe_op2 (g := gDiv) (pe_op1 (g := gLen) (v2 none none (some (.str l.tx)) (some (.str r.tx)) none none none).rd (glen _ (by omega)) rfl).rd (pe_c (d := .int 2)).rd (gd2 _ (l.sz + r.sz + 1) (by omega)) rfl
      have a2 := pe_op2 (g := gDiv) (pe_op1 (g := gLen) (v5 none none none none none).rd (glen _ (by omega)) rfl).rd (pe_c (d := .int 2)).rd (gd2 _ l.sz (by omega)) rfl
      exact sev_asg (pe_disp (f := opTup) (peA_cons a1 (peA_cons a2 peA_nil)) rfl).ev rfl
    have v7 : ∀ (n i o : Option D), Pe (dVar 7) [some (.str lt), some (.lst false ct), some (.str (T.node c l r).tx), (n), (i), some (.str l.tx), some (.str r.tx), some (.int (l.sz + r.sz + 1 : Nat)), some (.int l.sz), (o)] (.int (l.sz + r.sz + 1 : Nat)) := fun n i o => pe_var rfl rfl
    have v8 : ∀ (n i o : Option D), Pe (dVar 8) [some (.str lt), some (.lst false ct), some (.str (T.node c l r).tx), (n), (i), some (.str l.tx), some (.str r.tx), some (.int (l.sz + r.sz + 1 : Nat)), some (.int l.sz), (o)] (.int l.sz) := fun n i o => pe_var rfl rfl
    generalize hB : lt.idxOf c * P lt.length (l.sz + r.sz) (l.sz + r.sz + 1) = B
    have s5 : t_law_inside_5 (callF tbl (k + 3)) [some (.str lt), some (.lst false ct), some (.str (T.node c l r).tx), none, none, some (.str l.tx), some (.str r.tx), some (.int (l.sz + r.sz + 1 : Nat)), some (.int l.sz), none] = .nx [some (.str lt), some (.lst false ct), some (.str (T.node c l r).tx), some (.int (B : Nat)), none, some (.str l.tx), some (.str r.tx), some (.int (l.sz + r.sz + 1 : Nat)), some (.int l.sz), none] := by
      have a1 := pe_op2 (g := gIdx) (pe_str (v0 none none (some (.str l.tx)) (some (.str r.tx)) (some (.int (l.sz + r.sz + 1 : Nat))) (some (.int l.sz)) none)).rd (pe_op2 (g := gIx) (v2 _ _ _ _ _ _ _).rd (pe_c (d := .int 0)).rd (gIx0 c (l.tx ++ r.tx) (by show (T.node c l r).tx.length ≤ _; omega)) rfl).rd (d := .int (lt.idxOf c)) (by simp [gIdx, hin.1]) rfl
      have a2 := pe_op2 (g := gDiv) (pe_op2 (g := gIx) (v1 _ _ _ _ _ _ _).rd (v7 none none none).rd (gix (l.sz + r.sz + 1) (by omega)) rfl).rd (pe_op1 (g := gLen) (v0 _ _ _ _ _ _ _).rd (glen lt (by omega)) rfl).rd (gDiv_C hl1 hl3 _) rfl
      have a3 := pe_op2 (g := gMul) a1.rd a2.rd (gMul_NN _ _ hix (P_lt hl1 hl3 (by omega) (by omega))) rfl
      rw [hB] at a3
      exact sev_asg a3.ev rfl
    have s6 : t_law_inside_6 (callF tbl (k + 3)) [some (.str lt), some (.lst false ct), some (.str (T.node c l r).tx), some (.int (B : Nat)), none, some (.str l.tx), some (.str r.tx), some (.int (l.sz + r.sz + 1 : Nat)), some (.int l.sz), none] = .nx [some (.str lt), some (.lst false ct), some (.str (T.node c l r).tx), some (.int (B + P lt.length (l.sz + r.sz) l.sz : Nat)), none, some (.str l.tx), some (.str r.tx), some (.int (l.sz + r.sz + 1 : Nat)), some (.int l.sz), none] := by
      have comp := pe_comp (ρ := [some (.str lt), some (.lst false ct), some (.str (T.node c l r).tx), some (.int (B : Nat)), none, some (.str l.tx), some (.str r.tx), some (.int (l.sz + r.sz + 1 : Nat)), some (.int l.sz), none]) (vs := [9]) (g := sName (cmpl [9] 10) 9) (δc := dTrue) (δ := dOp (two gMul) (dCons (dOp (two gIx) (dCons (dVar 1) (dCons (dVar 9) dNil))) (dCons (dOp (two gIx) (dCons (dVar 1) (dCons (dOp (two gSub) (dCons (dOp (two gSub) (dCons (dVar 7) (dCons (dC (.int 1)) dNil))) (dCons (dVar 9) dNil))) dNil))) dNil))) (FC lt.length (l.sz + r.sz))
        (rdA_cons (v8 _ _ _).rd rdA_nil) (f := itR1) (items := rng 0 l.sz) (hold := []) (itR1_nat l.sz (by omega)) rfl (ρ2 := [some (.str lt), some (.lst false ct), some (.str (T.node c l r).tx), some (.int (B : Nat)), none, some (.str l.tx), some (.str r.tx), some (.int (l.sz + r.sz + 1 : Nat)), some (.int l.sz), none]) rfl (fun d hd => by
          obtain ⟨i, hi⟩ := List.mem_iff_getElem?.mp hd
          obtain ⟨e, hlt⟩ := rng_get hi
          rw [Int.zero_add] at e
          subst e
          refine ⟨[some (.str lt), some (.lst false ct), some (.str (T.node c l r).tx), some (.int (B : Nat)), none, some (.str l.tx), some (.str r.tx), some (.int (l.sz + r.sz + 1 : Nat)), some (.int l.sz), some (.int i)], rfl, rfl, .inr ⟨_, rfl, pe_true, ?_⟩⟩
          have v9 : Pe (dVar 9) [some (.str lt), some (.lst false ct), some (.str (T.node c l r).tx), some (.int (B : Nat)), none, some (.str l.tx), some (.str r.tx), some (.int (l.sz + r.sz + 1 : Nat)), some (.int l.sz), some (.int i)] (.int i) := pe_var rfl rfl
          have b1 := pe_op2 (g := gIx) (v1 _ _ _ _ _ _ _).rd v9.rd (gix i (by omega)) rfl
          have b2 := pe_op2 (g := gIx) (v1 _ _ _ _ _ _ _).rd (pe_op2 (g := gSub) (pe_op2 (g := gSub) (v7 _ _ _).rd (pe_c (d := .int 1)).rd (d := .int (l.sz + r.sz : Nat)) (by simp [gSub]) rfl).rd v9.rd (d := .int ((l.sz + r.sz - i : Nat) : Int)) (by
            have : ((l.sz + r.sz : Nat) : Int) - i = ((l.sz + r.sz - i : Nat) : Int) := by omega
            simp only [gSub, this]) rfl).rd (gix (l.sz + r.sz - i) (by omega)) rfl
          exact pe_op2 (g := gMul) b1.rd b2.rd (gMul_NN _ _ (C_bound hl1 hl3 (by omega)) (C_bound hl1 hl3 (by omega))) rfl) (by rw [rng_len]; omega) (by rw [rng_FC]; exact imms_NL _)
      rw [rng_FC] at comp
      have sm := pe_op1 (g := gSum) comp.rd (gSum_NL true _) rfl
      have hP : ((List.range l.sz).map fun i => C lt.length i * C lt.length (l.sz + r.sz - i)).sum = P lt.length (l.sz + r.sz) l.sz := rfl
      rw [hP] at sm
      exact sev_asg (pe_op2 (g := gAdd) (pe_var (i := 3) (d := .int (B : Nat)) rfl rfl).rd sm.rd (d := .int (B + P lt.length (l.sz + r.sz) l.sz : Nat)) (by simp [gAdd, gAddI]) rfl).ev rfl
    generalize hA : B + P lt.length (l.sz + r.sz) l.sz = A at *
    have s7 : t_law_inside_7 (callF tbl (k + 3)) [some (.str lt), some (.lst false ct), some (.str (T.node c l r).tx), some (.int (A : Nat)), none, some (.str l.tx), some (.str r.tx), some (.int (l.sz + r.sz + 1 : Nat)), some (.int l.sz), none] = .nx [some (.str lt), some (.lst false ct), some (.str (T.node c l r).tx), some (.int (A : Nat)), some (.int (l.nu lt * C lt.length r.sz : Nat)), some (.str l.tx), some (.str r.tx), some (.int (l.sz + r.sz + 1 : Nat)), some (.int l.sz), none] := by
      have b1 := pe_call (g := callF tbl (k + 3) 25) (d := .int (l.nu lt)) (rdA_cons (v0 (some (.int (A : Nat))) none (some (.str l.tx)) (some (.str r.tx)) (some (.int (l.sz + r.sz + 1 : Nat))) (some (.int l.sz)) none).rd (rdA_cons (v1 _ _ _ _ _ _ _).rd (rdA_cons (v5 _ _ _ _ _).rd rdA_nil))) (by
        show callF tbl (k + 3) 25 [.str lt, fr (.lst false ct), .str l.tx] = _
        rw [hfr]; exact eL) rfl
      have b2 := pe_op2 (g := gIx) (v1 _ _ _ _ _ _ _).rd (pe_op2 (g := gSub) (pe_op2 (g := gSub) (v7 (some (.int (A : Nat))) none none).rd (pe_c (d := .int 1)).rd (d := .int (l.sz + r.sz : Nat)) (by simp [gSub]) rfl).rd (v8 _ _ _).rd (d := .int (r.sz : Nat)) (by
        have : ((l.sz + r.sz : Nat) : Int) - l.sz = r.sz := by omega
        simp only [gSub, this]) rfl).rd (gix r.sz (by omega)) rfl
      exact sev_asg (pe_op2 (g := gMul) b1.rd b2.rd (gMul_NN _ _ (by omega) hCr) rfl).ev rfl
    have s8 : t_law_inside_8 (callF tbl (k + 3)) [some (.str lt), some (.lst false ct), some (.str (T.node c l r).tx), some (.int (A : Nat)), some (.int (l.nu lt * C lt.length r.sz : Nat)), some (.str l.tx), some (.str r.tx), some (.int (l.sz + r.sz + 1 : Nat)), some (.int l.sz), none] = .rt (.int ((T.node c l r).nu lt)) [some (.str lt), some (.lst false ct), some (.str (T.node c l r).tx), some (.int (A : Nat)), some (.int (l.nu lt * C lt.length r.sz : Nat)), some (.str l.tx), some (.str r.tx), some (.int (l.sz + r.sz + 1 : Nat)), some (.int l.sz), none] := by
      have b1 := pe_call (g := callF tbl (k + 3) 25) (d := .int (r.nu lt)) (rdA_cons (v0 (some (.int (A : Nat))) (some (.int (l.nu lt * C lt.length r.sz : Nat))) (some (.str l.tx)) (some (.str r.tx)) (some (.int (l.sz + r.sz + 1 : Nat))) (some (.int l.sz)) none).rd (rdA_cons (v1 _ _ _ _ _ _ _).rd (rdA_cons (v6 _ _ _ _ _).rd rdA_nil))) (by
        show callF tbl (k + 3) 25 [.str lt, fr (.lst false ct), .str r.tx] = _
        rw [hfr]; exact eR) rfl
      have b2 := pe_op2 (g := gAdd) (pe_var (ρ := [some (.str lt), some (.lst false ct), some (.str (T.node c l r).tx), some (.int (A : Nat)), some (.int (l.nu lt * C lt.length r.sz : Nat)), some (.str l.tx), some (.str r.tx), some (.int (l.sz + r.sz + 1 : Nat)), some (.int l.sz), none]) (i := 3) (d := .int (A : Nat)) rfl rfl).rd (pe_var (i := 4) (d := .int (l.nu lt * C lt.length r.sz : Nat)) rfl rfl).rd (d := .int (A + l.nu lt * C lt.length r.sz : Nat)) (by simp [gAdd, gAddI]) rfl
      refine sev_ret (pe_op2 (g := gAdd) b2.rd b1.rd ?_ rfl).ev
      have e : (T.node c l r).nu lt = A + l.nu lt * C lt.length r.sz + r.nu lt := by rw [← hA, ← hB]; rfl
      rw [e]
      simp only [gAdd, gAddI, Option.some_or]
      congr 2
    have e : den_law_inside (callF tbl (k + 3)) [some (.str lt), some (.lst false ct), some (.str (T.node c l r).tx), none, none, none, none, none, none, none] = .rt (.int ((T.node c l r).nu lt)) [some (.str lt), some (.lst false ct), some (.str (T.node c l r).tx), some (.int (A : Nat)), some (.int (l.nu lt * C lt.length r.sz : Nat)), some (.str l.tx), some (.str r.tx), some (.int (l.sz + r.sz + 1 : Nat)), some (.int l.sz), none] := by
      unfold den_law_inside
      exact (seq_nx s1).trans ((seq_nx s3).trans ((seq_nx s4).trans ((seq_nx s5).trans ((seq_nx s6).trans ((seq_nx s7).trans s8)))))
    exact run_rt (b := den_law_inside) rfl rfl rfl e rfl
/-! ### tree_number, the law's number -/
def many (i : Int) : Exn := ⟨2, [("number", .int i)]⟩
theorem base_cL (L N n : Nat) (h : n ≤ N + 1) : ((cL L N).take n).sum = base L n := by
  rw [cL_map, ← List.map_take, List.take_range, Nat.min_eq_left h]; rfl
theorem opSl_NL (w : Bool) (l : List Nat) (n : Nat) : opSl 0 [fr (.lst w (NL l)), .int n] = some (.lst true (NL (l.take n))) := by
  rw [fr_NL]
  have h := frs_NL l
  have e : (NL l).take n = NL (l.take n) := by simp [NL, List.map_take]
  simp only [opSl, lod, gSl, List.take_zero, List.drop_zero, h]
  rw [cutL_take, e]
theorem c_tn (k : Nat) (ds : List D) : callF tbl (k + 1) 9 ds = runF fn_tree_number (callF tbl k) ds := rfl
theorem c_ln (k : Nat) (ds : List D) : callF tbl (k + 1) 26 ds = runF fn_law_number (callF tbl k) ds := rfl
theorem tn_ok {lt : List Nat} (hL : LL lt) {t : T} (hin : t.inn lt) (hz : t.sz ≤ 60) (k : Nat) : callF tbl (k + 64) 9 [.str lt, .str t.tx] = .ok (.int (t.num lt)) [] := by
  refine (c_tn (k + 63) _).trans ?_
  have es := sz_ok (k + 62) t (by omega)
  have ec := counts_of_trees_ok (k + 62) hL t.sz (by omega)
  have en := ni_ok hL (N := t.sz) (by omega) t hin (Nat.le_refl _) (k + 60) (by omega)
  have v1 : ∀ s c, Pe (dVar 1) [some (.str lt), some (.str t.tx), s, c] (.str t.tx) := fun s c => pe_var rfl rfl
  have v0 : ∀ s c, Pe (dVar 0) [some (.str lt), some (.str t.tx), s, c] (.str lt) := fun s c => pe_var rfl rfl
  have v2 : ∀ c, Pe (dVar 2) [some (.str lt), some (.str t.tx), some (.int t.sz), c] (.int t.sz) := fun c => pe_var rfl rfl
  have s1 : t_tree_number_1 (callF tbl (k + 63)) [some (.str lt), some (.str t.tx), none, none] = .nx [some (.str lt), some (.str t.tx), some (.int t.sz), none] := sev_asg (pe_call (g := callF tbl (k + 63) 3) (rdA_cons (v1 _ _).rd rdA_nil) es rfl).ev rfl
  have s2 : t_tree_number_2 (callF tbl (k + 63)) [some (.str lt), some (.str t.tx), some (.int t.sz), none] = .nx [some (.str lt), some (.str t.tx), some (.int t.sz), none] := by
    have q := pe_op2 (g := gGt) (v2 none).rd (pe_c (d := .int 60)).rd (d := .bl (decide ((60 : Int) < t.sz))) rfl rfl
    rw [decide_eq_false (by omega)] at q
    exact sev_if_f q.ev
  have s4 : t_tree_number_4 (callF tbl (k + 63)) [some (.str lt), some (.str t.tx), some (.int t.sz), none] = .nx [some (.str lt), some (.str t.tx), some (.int t.sz), some (.lst true (NL (cL lt.length t.sz)))] := sev_asg (pe_call (g := callF tbl (k + 63) 4) (rdA_cons (v0 _ _).rd (rdA_cons (v2 _).rd rdA_nil)) ec (cleans_NL _)).ev rfl
  have hf : fz1 3 [some (.str lt), some (.str t.tx), some (.int t.sz), some (.lst true (NL (cL lt.length t.sz)))] = [some (.str lt), some (.str t.tx), some (.int t.sz), some (.lst false (NL (cL lt.length t.sz)))] := by simp [fz1, fr, frs_NL]
  have r3 := rd_var (ρ := [some (.str lt), some (.str t.tx), some (.int t.sz), some (.lst true (NL (cL lt.length t.sz)))]) (i := 3) (d := .lst true (NL (cL lt.length t.sz))) rfl
  rw [hf] at r3
  have a1 := pe_op1 (g := gSum) (pe_op (f := opSl 0) (rdA_cons r3 (rdA_cons (v2 _).rd rdA_nil)) (opSl_NL true _ t.sz) (cleans_NL _)).rd (gSum_NL true _) rfl
  rw [base_cL _ _ _ (by omega)] at a1
  have a2 := pe_call (g := callF tbl (k + 63) 8) (d := .int (t.nu lt)) (rdA_cons (v0 _ _).rd (rdA_cons r3 (rdA_cons (v1 _ _).rd rdA_nil))) (by
    show callF tbl (k + 63) 8 [.str lt, fr (fr (.lst true (NL (cL lt.length t.sz)))), .str t.tx] = _
    rw [fr_NL, fr_NL]; exact en) rfl
  have s5 : t_tree_number_5 (callF tbl (k + 63)) [some (.str lt), some (.str t.tx), some (.int t.sz), some (.lst true (NL (cL lt.length t.sz)))] = .rt (.int (t.num lt)) [some (.str lt), some (.str t.tx), some (.int t.sz), some (.lst true (NL (cL lt.length t.sz)))] := sev_ret (pe_op2 (g := gAdd) a1.rd a2.rd (by simp [gAdd, gAddI, T.num]) rfl).ev
  have e : den_tree_number (callF tbl (k + 63)) [some (.str lt), some (.str t.tx), none, none] = .rt (.int (t.num lt)) [some (.str lt), some (.str t.tx), some (.int t.sz), some (.lst true (NL (cL lt.length t.sz)))] := by
    unfold den_tree_number
    exact (seq_nx s1).trans ((seq_nx s2).trans ((seq_nx s4).trans s5))
  exact run_rt (b := den_tree_number) rfl rfl rfl e rfl
theorem tn_many (k : Nat) (lt : List Nat) {t : T} (hz : 60 < t.sz) (hz2 : t.sz ≤ 100000) : callF tbl (k + 2) 9 [.str lt, .str t.tx] = .ex (many t.sz) [] := by
  refine (c_tn (k + 1) _).trans ?_
  have es := sz_ok k t hz2
  have s1 : t_tree_number_1 (callF tbl (k + 1)) [some (.str lt), some (.str t.tx), none, none] = .nx [some (.str lt), some (.str t.tx), some (.int t.sz), none] := sev_asg (pe_call (g := callF tbl (k + 1) 3) (rdA_cons (pe_var (d := .str t.tx) rfl rfl).rd rdA_nil) es rfl).ev rfl
  have s2 : t_tree_number_2 (callF tbl (k + 1)) [some (.str lt), some (.str t.tx), some (.int t.sz), none] = .ex (many t.sz) [some (.str lt), some (.str t.tx), some (.int t.sz), none] := by
    have q := pe_op2 (g := gGt) (pe_var (ρ := [some (.str lt), some (.str t.tx), some (.int t.sz), none]) (i := 2) (d := .int t.sz) rfl rfl).rd (pe_c (d := .int 60)).rd (d := .bl (decide ((60 : Int) < t.sz))) rfl rfl
    rw [decide_eq_true (by omega)] at q
    refine (sev_if_t q.ev).trans ?_
    simp [t_tree_number_3, runF, endF, startF, outsOf, dSeq, dIfS, dOp, opR, dDisp, opRM, dCons, dNil, dIo, vals, splitIo, dVar, dMove, dC, dRet, dExp, dSkip, dAsg, sName, sTup, sNil, sCons, one, two, gLen, gEq, gNe, gEqS, gMod, gDiv, gSub, gAdd, gAddI, gAddL, gMul, gMulI, gPow, gAbs, gIx, gLt, gLe, gGt, gGe, gCmp, gIsi, isTy, isNon, gList, opLst, opTup, dPop, dAppend, dReverse, dSetIx, dIf, dAnd, dOr, dNot, andP, isLst, dCall0, dCallIo, dFor, dIt, itR, itL, itS, itR1, itR2, itRev, itRR1, opSl, lod, gSl, clean, cleans, imm, imms, fr, fz, fz1, frs, frs_len, bdec, fr_fr, dRaise, many]
  have e : den_tree_number (callF tbl (k + 1)) [some (.str lt), some (.str t.tx), none, none] = .ex (many t.sz) [some (.str lt), some (.str t.tx), some (.int t.sz), none] := by
    unfold den_tree_number
    exact (seq_nx s1).trans (seq_ex s2)
  simp [runF, fn_tree_number, startF, e, endF, outsOf]
theorem ln_ok {lt : List Nat} (hL : LL lt) {t : T} (hin : t.inn lt) (hz : t.sz ≤ 70) (k : Nat) : callF tbl (k + 74) 26 [.str lt, .lst false (NL (cL lt.length 70)), .str t.tx] = .ok (.int (t.num lt)) [] := by
  refine (c_ln (k + 73) _).trans ?_
  have en := li_ok hL (N := 70) (by omega) t hin (by omega) (k + 70) (by omega)
  have hl := t.len
  have hf : fz1 1 [some (.str lt), some (.lst false (NL (cL lt.length 70))), some (.str t.tx)] = [some (.str lt), some (.lst false (NL (cL lt.length 70))), some (.str t.tx)] := by simp [fz1, fr, frs_NL]
  have r1 := rd_var (ρ := [some (.str lt), some (.lst false (NL (cL lt.length 70))), some (.str t.tx)]) (i := 1) (d := .lst false (NL (cL lt.length 70))) rfl
  rw [hf] at r1
  have v2 : Pe (dVar 2) [some (.str lt), some (.lst false (NL (cL lt.length 70))), some (.str t.tx)] (.str t.tx) := pe_var rfl rfl
  have d2 := pe_op2 (g := gDiv) (pe_op1 (g := gLen) v2.rd (d := .int t.tx.length) (by
    have : t.tx.length ≤ 16777216 := by omega
    simp [gLen, this]) rfl).rd (pe_c (d := .int 2)).rd (d := .int t.sz) (by
    have : (t.tx.length : Int) / 2 = t.sz := by omega
    simp [gDiv, this]) rfl
  have a1 := pe_op1 (g := gSum) (pe_op (f := opSl 0) (rdA_cons r1 (rdA_cons d2.rd rdA_nil)) (opSl_NL false _ t.sz) (cleans_NL _)).rd (gSum_NL true _) rfl
  rw [base_cL _ _ _ (by omega)] at a1
  have a2 := pe_call (g := callF tbl (k + 73) 25) (d := .int (t.nu lt)) (rdA_cons (pe_var (i := 0) (d := .str lt) rfl rfl).rd (rdA_cons r1 (rdA_cons v2.rd rdA_nil))) (by
    show callF tbl (k + 73) 25 [.str lt, fr (fr (.lst false (NL (cL lt.length 70)))), .str t.tx] = _
    rw [fr_NL, fr_NL]; exact en) rfl
  have e : den_law_number (callF tbl (k + 73)) [some (.str lt), some (.lst false (NL (cL lt.length 70))), some (.str t.tx)] = .rt (.int (t.num lt)) [some (.str lt), some (.lst false (NL (cL lt.length 70))), some (.str t.tx)] := sev_ret (pe_op2 (g := gAdd) a1.rd a2.rd (by simp [gAdd, gAddI, T.num]) rfl).ev
  exact run_rt (b := den_law_number) rfl rfl rfl e rfl
end TB
end
section
set_option Elab.async false
set_option linter.all false
set_option maxRecDepth 100000
set_option maxHeartbeats 4000000
namespace TB
open PySem PySem.Spec L2
theorem loopW_ex {n : Nat} {c : Den} {body : DenS} {ρ ρ2 : VE} {x : Exn} (h : Pu c ρ (.bl true)) (hb : body ρ = .ex x ρ2) : loopW (n + 1) c body ρ = .ex x ρ2 := by
  obtain ⟨bs, e, f⟩ := h
  simp [loopW, e, hb]
theorem gDiv_N (a b : Nat) (h0 : 0 < b) (hb : b < 2 ^ 250) : gDiv (.int a) (.int b) = some (.int ((a / b : Nat) : Int)) := by
  have hb2 : (b : Int).natAbs < 2 ^ 256 := by
    rw [Int.natAbs_natCast]
    exact Nat.lt_of_lt_of_le hb (Nat.pow_le_pow_right (by decide) (by decide))
  have h1 : (0 : Int) < (b : Int) := by omega
  simp only [gDiv]
  split
  · rw [Int.natCast_ediv]
  · rw [if_pos ⟨h1, hb2⟩, Int.natCast_ediv]
theorem gMod_N (a b : Nat) (h0 : 0 < b) : gMod (.int a) (.int b) = some (.int ((a % b : Nat) : Int)) := by
  have h1 : (0 : Int) < (b : Int) := by omega
  simp only [gMod]
  rw [if_pos h1, Int.natCast_emod]
theorem gGe_N (a b : Nat) : gGe (.int a) (.int b) = some (.bl (decide (b ≤ a))) := by
  have : gGe (.int a) (.int b) = some (.bl (decide ((b : Int) ≤ (a : Int)))) := rfl
  rw [this]
  congr 2
  simp
theorem gSub_N (a b : Nat) (h : b ≤ a) : gSub (.int a) (.int b) = some (.int ((a - b : Nat) : Int)) := by
  have : (a : Int) - b = ((a - b : Nat) : Int) := by omega
  simp only [gSub, this]
theorem gIx_str (x : List Nat) (i : Nat) (c : Nat) (hx : x.length ≤ 16777216) (h : x[i]? = some c) : gIx (.str x) (.int i) = some (.str [c]) := by
  simp only [gIx, if_pos hx]
  rw [atI_i, h]; rfl
theorem idx_get {lt : List Nat} {c : Nat} (h : c ∈ lt) : lt[lt.idxOf c]? = some c := by
  have hi := List.idxOf_lt_length_of_mem h
  rw [List.getElem?_eq_getElem hi]
  simp
theorem c_ti (k : Nat) (ds : List D) : callF tbl (k + 1) 6 ds = runF fn_tree_in_size (callF tbl k) ds := rfl
def ticond : Den := dOp (two gGe) (dCons (dVar 3) (dCons (dOp (two gMul) (dCons (dOp (two gIx) (dCons (dVar 1) (dCons (dVar 6) dNil))) (dCons (dOp (two gIx) (dCons (dVar 1) (dCons (dOp (two gSub) (dCons (dOp (two gSub) (dCons (dVar 2) (dCons (dC (.int 1)) dNil))) (dCons (dVar 6) dNil))) dNil))) dNil))) dNil))
theorem ti_ok {lt : List Nat} (hL : LL lt) {N : Nat} (hN : N ≤ 70) : ∀ (t : T), t.inn lt → t.sz ≤ N → ∀ k, t.sz ≤ k → callF tbl (k + 1) 6 [.str lt, .lst false (NL (cL lt.length N)), .int t.sz, .int (t.nu lt)] = .ok (.str t.tx) [] := by
  intro t
  induction t with
  | leaf => intro _ _ k _; exact (c_ti k _).trans rfl
  | node c l r ihl ihr =>
    intro hin hz k hk
    have hsz : (T.node c l r).sz = l.sz + r.sz + 1 := rfl
    have hll := l.len
    have hrl := r.len
    have hl1 := hL.l1
    have hl3 := hL.l3
    have hcl := cL_len lt.length N
    obtain ⟨k, rfl⟩ : ∃ k', k = k' + 1 := ⟨k - 1, by omega⟩
    refine (c_ti (k + 1) _).trans ?_
    have eL := ihl hin.2.1 (by omega) k (by omega)
    have eR := ihr hin.2.2 (by omega) k (by omega)
    have hbl := T.nu_lt hl1 hin.2.1
    have hbr := T.nu_lt hl1 hin.2.2
    have hCr := C_bound hl1 hl3 (n := r.sz) (by omega)
    have hCrp := C_pos hl1 r.sz
    have hXS := T.nx_lt2 hl1 hin.2.1 hin.2.2
    have hS := P_lt hl1 hl3 (n := l.sz + r.sz) (k := l.sz + r.sz + 1) (by omega) (by omega)
    have hnu := T.nu_node lt c l r
    have hY := T.nY hl1 hin.2.1 hin.2.2
    have hXe : T.nx lt l r = P lt.length (l.sz + r.sz) l.sz + (l.nu lt * C lt.length r.sz + r.nu lt) := rfl
    generalize hct : NL (cL lt.length N) = ct at *
    have hfr : fr (.lst false ct) = .lst false ct := by rw [← hct]; exact fr_NL _ _
    have gix : ∀ i : Nat, i ≤ N → gIx (.lst false ct) (.int i) = some (.int (C lt.length i)) := fun i hi => by
      rw [← hct, gIx_NL _ _ _ (by omega), cL_get _ _ _ hi]
    rw [hsz, hnu]
    generalize hSe : P lt.length (l.sz + r.sz) (l.sz + r.sz + 1) = S at *
    generalize hXe2 : T.nx lt l r = X at *
    generalize hYe : l.nu lt * C lt.length r.sz + r.nu lt = Y at *
    have v0 : ∀ (n b t e m f : Option D), Pe (dVar 0) [some (.str lt), some (.lst false ct), some (.int (l.sz + r.sz + 1 : Nat)), (n), (b), (t), (e), (m), (f)] (.str lt) := fun n b t e m f => pe_var rfl rfl
    have v1 : ∀ (n b t e m f : Option D), Pu (dVar 1) [some (.str lt), some (.lst false ct), some (.int (l.sz + r.sz + 1 : Nat)), (n), (b), (t), (e), (m), (f)] (.lst false ct) := fun n b t e m f => pu_var rfl hfr
    have v2 : ∀ (n b t e m f : Option D), Pe (dVar 2) [some (.str lt), some (.lst false ct), some (.int (l.sz + r.sz + 1 : Nat)), (n), (b), (t), (e), (m), (f)] (.int (l.sz + r.sz + 1 : Nat)) := fun n b t e m f => pe_var rfl rfl
    have v3 : ∀ (n : Nat) (b t e m f : Option D), Pe (dVar 3) [some (.str lt), some (.lst false ct), some (.int (l.sz + r.sz + 1 : Nat)), some (.int n), (b), (t), (e), (m), (f)] (.int n) := fun n b t e m f => pe_var rfl rfl
    have v6 : ∀ (i : Nat) (n b t m f : Option D), Pe (dVar 6) [some (.str lt), some (.lst false ct), some (.int (l.sz + r.sz + 1 : Nat)), (n), (b), (t), some (.int i), (m), (f)] (.int i) := fun i n b t m f => pe_var rfl rfl
    have sub1 : ∀ (i : Nat) (n b t m f : Option D), i ≤ l.sz + r.sz → Pe (dOp (two gSub) (dCons (dOp (two gSub) (dCons (dVar 2) (dCons (dC (.int 1)) dNil))) (dCons (dVar 6) dNil))) [some (.str lt), some (.lst false ct), some (.int (l.sz + r.sz + 1 : Nat)), (n), (b), (t), some (.int i), (m), (f)] (.int (l.sz + r.sz - i : Nat)) := fun i n b t m f hi =>
      pe_op2 (g := gSub) (pe_op2 (g := gSub) (v2 n b t (some (.int i)) m f).rd (pe_c (d := .int 1)).rd (d := .int (l.sz + r.sz : Nat)) (by simp [gSub]) rfl).rd (v6 i n b t m f).rd (gSub_N _ _ hi) rfl
    have s1 : t_tree_in_size_1 (callF tbl (k + 1)) [some (.str lt), some (.lst false ct), some (.int (l.sz + r.sz + 1 : Nat)), some (.int (lt.idxOf c * S + X : Nat)), none, none, none, none, none] = .nx [some (.str lt), some (.lst false ct), some (.int (l.sz + r.sz + 1 : Nat)), some (.int (lt.idxOf c * S + X : Nat)), none, none, none, none, none] := by
      have q := pe_op2 (g := gEq) (v2 (some (.int (lt.idxOf c * S + X : Nat))) none none none none none).rd (pe_c (d := .int 0)).rd (d := .bl false) (by
        have : ¬ ((l.sz + r.sz + 1 : Nat) : Int) = 0 := by omega
        simp [gEq, gEqS, this]
        omega) rfl
      exact sev_if_f q.ev
    have s3 : t_tree_in_size_3 (callF tbl (k + 1)) [some (.str lt), some (.lst false ct), some (.int (l.sz + r.sz + 1 : Nat)), some (.int (lt.idxOf c * S + X : Nat)), none, none, none, none, none] = .nx [some (.str lt), some (.lst false ct), some (.int (l.sz + r.sz + 1 : Nat)), some (.int (lt.idxOf c * S + X : Nat)), some (.int S), none, none, none, none] := by
      have hd := gDiv_C hl1 hl3 (l.sz + r.sz)
      rw [hSe] at hd
      exact sev_asg (pe_op2 (g := gDiv) (pe_op2 (g := gIx) (v1 (some (.int (lt.idxOf c * S + X : Nat))) none none none none none).rd (v2 _ _ _ _ _ _).rd (gix (l.sz + r.sz + 1) (by omega)) rfl).rd (pe_op1 (g := gLen) (v0 _ _ _ _ _ _).rd (d := .int lt.length) (by
        have : lt.length ≤ 16777216 := by omega
        simp [gLen, this]) rfl).rd hd rfl).ev rfl
    have v4 : ∀ (n t e m f : Option D), Pe (dVar 4) [some (.str lt), some (.lst false ct), some (.int (l.sz + r.sz + 1 : Nat)), (n), some (.int S), (t), (e), (m), (f)] (.int S) := fun n t e m f => pe_var rfl rfl
    have hq : (lt.idxOf c * S + X) / S = lt.idxOf c := by
      rw [Nat.add_comm, Nat.add_mul_div_right _ _ (by omega), Nat.div_eq_of_lt hXS]; omega
    have hr : (lt.idxOf c * S + X) % S = X := by
      rw [Nat.add_comm, Nat.add_mul_mod_self_right, Nat.mod_eq_of_lt hXS]
    have s4 : t_tree_in_size_4 (callF tbl (k + 1)) [some (.str lt), some (.lst false ct), some (.int (l.sz + r.sz + 1 : Nat)), some (.int (lt.idxOf c * S + X : Nat)), some (.int S), none, none, none, none] = .nx [some (.str lt), some (.lst false ct), some (.int (l.sz + r.sz + 1 : Nat)), some (.int (lt.idxOf c * S + X : Nat)), some (.int S), some (.str [c]), none, none, none] := by
      have a := pe_op2 (g := gDiv) (v3 (lt.idxOf c * S + X) (some (.int S)) none none none none).rd (v4 _ _ _ _ _).rd (gDiv_N _ S (by omega) hS) rfl
      rw [hq] at a
      exact sev_asg (pe_op2 (g := gIx) (v0 _ _ _ _ _ _).rd a.rd (gIx_str lt _ c (by omega) (idx_get hin.1)) rfl).ev rfl
    have s5 : t_tree_in_size_5 (callF tbl (k + 1)) [some (.str lt), some (.lst false ct), some (.int (l.sz + r.sz + 1 : Nat)), some (.int (lt.idxOf c * S + X : Nat)), some (.int S), some (.str [c]), none, none, none] = .nx [some (.str lt), some (.lst false ct), some (.int (l.sz + r.sz + 1 : Nat)), some (.int (X : Nat)), some (.int S), some (.str [c]), none, none, none] := by
      have a := pe_op2 (g := gMod) (v3 (lt.idxOf c * S + X) (some (.int S)) (some (.str [c])) none none none).rd (v4 _ _ _ _ _).rd (gMod_N _ S (by omega)) rfl
      rw [hr] at a
      exact sev_asg a.ev rfl
    have cond : ∀ (i x : Nat), i ≤ l.sz → Pe ticond [some (.str lt), some (.lst false ct), some (.int (l.sz + r.sz + 1 : Nat)), some (.int x), some (.int S), some (.str [c]), some (.int i), none, none] (.bl (decide (C lt.length i * C lt.length (l.sz + r.sz - i) ≤ x))) := fun i x hi =>
      pe_op2 (g := gGe) (v3 x _ _ _ _ _).rd (pe_op2 (g := gMul) (pe_op2 (g := gIx) (v1 _ _ _ _ _ _).rd (v6 i _ _ _ _ _).rd (gix i (by omega)) rfl).rd (pe_op2 (g := gIx) (v1 _ _ _ _ _ _).rd (sub1 i _ _ _ _ _ (by omega)).rd (gix (l.sz + r.sz - i) (by omega)) rfl).rd (gMul_NN _ _ (C_bound hl1 hl3 (by omega)) (C_bound hl1 hl3 (by omega))) rfl).rd (gGe_N _ _) rfl
    have loop : ∀ (j i f : Nat), i + j = l.sz → j < f → loopW f ticond (b_tree_in_size_7 (callF tbl (k + 1))) [some (.str lt), some (.lst false ct), some (.int (l.sz + r.sz + 1 : Nat)), some (.int (X - P lt.length (l.sz + r.sz) i : Nat)), some (.int S), some (.str [c]), some (.int i), none, none] = .nx [some (.str lt), some (.lst false ct), some (.int (l.sz + r.sz + 1 : Nat)), some (.int Y), some (.int S), some (.str [c]), some (.int l.sz), none, none] := by
      intro j
      induction j with
      | zero =>
        intro i f hij hf
        obtain ⟨f, rfl⟩ : ∃ g, f = g + 1 := ⟨f - 1, by omega⟩
        have hi : i = l.sz := by omega
        subst hi
        have hx : X - P lt.length (l.sz + r.sz) l.sz = Y := by omega
        rw [hx]
        have q := cond l.sz Y (Nat.le_refl _)
        rw [show l.sz + r.sz - l.sz = r.sz by omega, decide_eq_false (by omega)] at q
        exact loopW_f q.pu
      | succ j ih =>
        intro i f hij hf
        obtain ⟨f, rfl⟩ : ∃ g, f = g + 1 := ⟨f - 1, by omega⟩
        have hps := P_succ lt.length (l.sz + r.sz) i
        have hm := P_mono lt.length (l.sz + r.sz) (show i + 1 ≤ l.sz by omega)
        have hle : C lt.length i * C lt.length (l.sz + r.sz - i) ≤ X - P lt.length (l.sz + r.sz) i := by omega
        have q := cond i (X - P lt.length (l.sz + r.sz) i) (by omega)
        rw [decide_eq_true hle] at q
        have b8 : t_tree_in_size_8 (callF tbl (k + 1)) [some (.str lt), some (.lst false ct), some (.int (l.sz + r.sz + 1 : Nat)), some (.int (X - P lt.length (l.sz + r.sz) i : Nat)), some (.int S), some (.str [c]), some (.int i), none, none] = .nx [some (.str lt), some (.lst false ct), some (.int (l.sz + r.sz + 1 : Nat)), some (.int (X - P lt.length (l.sz + r.sz) (i + 1) : Nat)), some (.int S), some (.str [c]), some (.int i), none, none] := by
          have b := pe_op2 (g := gMul) (pe_op2 (g := gIx) (v1 (some (.int (X - P lt.length (l.sz + r.sz) i : Nat))) (some (.int S)) (some (.str [c])) (some (.int i)) none none).rd (v6 i _ _ _ _ _).rd (gix i (by omega)) rfl).rd (pe_op2 (g := gIx) (v1 _ _ _ _ _ _).rd (sub1 i _ _ _ _ _ (by omega)).rd (gix (l.sz + r.sz - i) (by omega)) rfl).rd (gMul_NN _ _ (C_bound hl1 hl3 (by omega)) (C_bound hl1 hl3 (by omega))) rfl
          have := sev_aug (i := 3) (g := fun a b => a - b) (a := (X - P lt.length (l.sz + r.sz) i : Nat)) rfl b.pu
          refine this.trans ?_
          have e : ((X - P lt.length (l.sz + r.sz) i : Nat) : Int) - ((C lt.length i * C lt.length (l.sz + r.sz - i) : Nat) : Int) = ((X - P lt.length (l.sz + r.sz) (i + 1) : Nat) : Int) := by
            generalize C lt.length i * C lt.length (l.sz + r.sz - i) = Z at *
            omega
          rw [← e]; rfl
        have b9 : t_tree_in_size_9 (callF tbl (k + 1)) [some (.str lt), some (.lst false ct), some (.int (l.sz + r.sz + 1 : Nat)), some (.int (X - P lt.length (l.sz + r.sz) (i + 1) : Nat)), some (.int S), some (.str [c]), some (.int i), none, none] = .nx [some (.str lt), some (.lst false ct), some (.int (l.sz + r.sz + 1 : Nat)), some (.int (X - P lt.length (l.sz + r.sz) (i + 1) : Nat)), some (.int S), some (.str [c]), some (.int (i + 1 : Nat)), none, none] := rfl
        have bb := loopW_t (n := f) (body := b_tree_in_size_7 (callF tbl (k + 1))) q.pu ((seq_nx b8).trans b9)
        rw [bb]
        exact ih (i + 1) f (by omega) (by omega)
    have s7 : t_tree_in_size_7 (callF tbl (k + 1)) [some (.str lt), some (.lst false ct), some (.int (l.sz + r.sz + 1 : Nat)), some (.int (X : Nat)), some (.int S), some (.str [c]), some (.int 0), none, none] = .nx [some (.str lt), some (.lst false ct), some (.int (l.sz + r.sz + 1 : Nat)), some (.int Y), some (.int S), some (.str [c]), some (.int l.sz), none, none] := loop l.sz 0 wFuel (by omega) (by unfold wFuel; omega)
    have s10 : t_tree_in_size_10 (callF tbl (k + 1)) [some (.str lt), some (.lst false ct), some (.int (l.sz + r.sz + 1 : Nat)), some (.int Y), some (.int S), some (.str [c]), some (.int l.sz), none, none] = .nx [some (.str lt), some (.lst false ct), some (.int (l.sz + r.sz + 1 : Nat)), some (.int Y), some (.int S), some (.str [c]), some (.int l.sz), some (.int (C lt.length r.sz)), none] := by
      have b := sub1 l.sz (some (.int Y)) (some (.int S)) (some (.str [c])) none none (by omega)
      rw [show l.sz + r.sz - l.sz = r.sz by omega] at b
      exact sev_asg (pe_op2 (g := gIx) (v1 _ _ _ _ _ _).rd b.rd (gix r.sz (by omega)) rfl).ev rfl
    have v7 : ∀ (f : Option D), Pe (dVar 7) [some (.str lt), some (.lst false ct), some (.int (l.sz + r.sz + 1 : Nat)), some (.int Y), some (.int S), some (.str [c]), some (.int l.sz), some (.int (C lt.length r.sz)), (f)] (.int (C lt.length r.sz)) := fun f => pe_var rfl rfl
    have hYq : Y / C lt.length r.sz = l.nu lt := by
      rw [← hYe, Nat.add_comm, Nat.add_mul_div_right _ _ hCrp, Nat.div_eq_of_lt hbr]; omega
    have hYr : Y % C lt.length r.sz = r.nu lt := by
      rw [← hYe, Nat.add_comm, Nat.add_mul_mod_self_right, Nat.mod_eq_of_lt hbr]
    have s11 : t_tree_in_size_11 (callF tbl (k + 1)) [some (.str lt), some (.lst false ct), some (.int (l.sz + r.sz + 1 : Nat)), some (.int Y), some (.int S), some (.str [c]), some (.int l.sz), some (.int (C lt.length r.sz)), none] = .nx [some (.str lt), some (.lst false ct), some (.int (l.sz + r.sz + 1 : Nat)), some (.int Y), some (.int S), some (.str [c]), some (.int l.sz), some (.int (C lt.length r.sz)), some (.str l.tx)] := by
      have a := pe_op2 (g := gDiv) (v3 Y _ _ _ _ _).rd (v7 none).rd (gDiv_N Y _ hCrp hCr) rfl
      rw [hYq] at a
      exact sev_asg (pe_call (g := callF tbl (k + 1) 6) (d := .str l.tx) (rdA_cons (v0 _ _ _ _ _ _).rd (rdA_cons (v1 _ _ _ _ _ _).rd (rdA_cons (v6 l.sz _ _ _ _ _).rd (rdA_cons a.rd rdA_nil)))) (by
        show callF tbl (k + 1) 6 [.str lt, fr (.lst false ct), .int l.sz, .int (l.nu lt)] = _
        rw [hfr]; exact eL) rfl).ev rfl
    have s12 : t_tree_in_size_12 (callF tbl (k + 1)) [some (.str lt), some (.lst false ct), some (.int (l.sz + r.sz + 1 : Nat)), some (.int Y), some (.int S), some (.str [c]), some (.int l.sz), some (.int (C lt.length r.sz)), some (.str l.tx)] = .rt (.str (T.node c l r).tx) [some (.str lt), some (.lst false ct), some (.int (l.sz + r.sz + 1 : Nat)), some (.int Y), some (.int S), some (.str [c]), some (.int l.sz), some (.int (C lt.length r.sz)), some (.str l.tx)] := by
      have a := pe_op2 (g := gMod) (v3 Y _ _ _ _ _).rd (v7 (some (.str l.tx))).rd (gMod_N Y _ hCrp) rfl
      rw [hYr] at a
      have b := sub1 l.sz (some (.int Y)) (some (.int S)) (some (.str [c])) (some (.int (C lt.length r.sz))) (some (.str l.tx)) (by omega)
      rw [show l.sz + r.sz - l.sz = r.sz by omega] at b
      have cc := pe_call (g := callF tbl (k + 1) 6) (d := .str r.tx) (rdA_cons (v0 _ _ _ _ _ _).rd (rdA_cons (v1 _ _ _ _ _ _).rd (rdA_cons b.rd (rdA_cons a.rd rdA_nil)))) (by
        show callF tbl (k + 1) 6 [.str lt, fr (.lst false ct), .int r.sz, .int (r.nu lt)] = _
        rw [hfr]; exact eR) rfl
      have g1 : gAdd (.str [c]) (.str l.tx) = some (.str (c :: l.tx)) := by
        have : 1 + l.tx.length ≤ 16777216 := by omega
        simp [gAdd, gAddI, this]
      have g2 : gAdd (.str (c :: l.tx)) (.str r.tx) = some (.str (T.node c l r).tx) := by
        have : l.tx.length + 1 + r.tx.length ≤ 16777216 := by omega
        simp [gAdd, gAddI, this, T.tx]
      exact sev_ret (pe_op2 (g := gAdd) (pe_op2 (g := gAdd) (pe_var (i := 5) (d := .str [c]) rfl rfl).rd (pe_var (i := 8) (d := .str l.tx) rfl rfl).rd g1 rfl).rd cc.rd g2 rfl).ev
    have e : den_tree_in_size (callF tbl (k + 1)) [some (.str lt), some (.lst false ct), some (.int (l.sz + r.sz + 1 : Nat)), some (.int (lt.idxOf c * S + X : Nat)), none, none, none, none, none] = .rt (.str (T.node c l r).tx) [some (.str lt), some (.lst false ct), some (.int (l.sz + r.sz + 1 : Nat)), some (.int Y), some (.int S), some (.str [c]), some (.int l.sz), some (.int (C lt.length r.sz)), some (.str l.tx)] := by
      unfold den_tree_in_size
      exact (seq_nx s1).trans ((seq_nx s3).trans ((seq_nx s4).trans ((seq_nx s5).trans ((seq_nx (a := t_tree_in_size_6 _) rfl).trans ((seq_nx s7).trans ((seq_nx s10).trans ((seq_nx s11).trans s12)))))))
    exact run_rt (b := den_tree_in_size) rfl rfl rfl e rfl
end TB
end
section
set_option Elab.async false
set_option linter.all false
set_option maxRecDepth 100000
set_option maxHeartbeats 4000000
namespace TB
open PySem PySem.Spec L2
theorem gNe_I (a b : Int) : gNe (.int a) (.int b) = some (.bl (!decide (a = b))) := by
  have : (a == b) = decide (a = b) := by rw [Bool.eq_iff_iff]; simp
  simp [gNe, gEqS, this]
theorem c_tb (k : Nat) (ds : List D) : callF tbl (k + 1) 7 ds = runF fn_tree_by_number (callF tbl k) ds := rfl
def tbcond : Den := dOp (two gGe) (dCons (dVar 1) (dCons (dOp (two gIx) (dCons (dVar 3) (dCons (dVar 2) dNil))) dNil))
def tbS (lt : List Nat) (n s : Nat) : VE := [some (.str lt), some (.int n), some (.int s), some (.lst true (NL (cL lt.length s)))]
theorem tb_cond (lt : List Nat) (n s : Nat) : Pe tbcond (tbS lt n s) (.bl (decide (C lt.length s ≤ n))) := by
  have hcl := cL_len lt.length s
  have hf : fz1 3 (tbS lt n s) = [some (.str lt), some (.int n), some (.int s), some (.lst false (NL (cL lt.length s)))] := by simp [tbS, fz1, fr, frs_NL]
  have r3 := rd_var (ρ := tbS lt n s) (i := 3) (d := .lst true (NL (cL lt.length s))) rfl
  rw [hf, fr_NL] at r3
  have a := pe_op2 (g := gIx) r3 (pe_var (i := 2) (d := .int s) rfl rfl).rd (gIx_NL false _ s (by omega)) rfl
  rw [cL_get _ _ _ (Nat.le_refl _)] at a
  exact pe_op2 (g := gGe) (pe_var (ρ := tbS lt n s) (i := 1) (d := .int n) rfl rfl).rd a.rd (gGe_N _ _) rfl
theorem tb_step (k : Nat) {lt : List Nat} (hL : LL lt) (n s : Nat) (h : C lt.length s ≤ n) (hs : s < 60) : b_tree_by_number_5 (callF tbl (k + 1)) (tbS lt n s) = .nx (tbS lt (n - C lt.length s) (s + 1)) := by
  have hcl := cL_len lt.length s
  have hf : fz1 3 (tbS lt n s) = [some (.str lt), some (.int n), some (.int s), some (.lst false (NL (cL lt.length s)))] := by simp [tbS, fz1, fr, frs_NL]
  have r3 := rd_var (ρ := tbS lt n s) (i := 3) (d := .lst true (NL (cL lt.length s))) rfl
  rw [hf, fr_NL] at r3
  have a := pe_op2 (g := gIx) r3 (pe_var (i := 2) (d := .int s) rfl rfl).rd (gIx_NL false _ s (by omega)) rfl
  rw [cL_get _ _ _ (Nat.le_refl _)] at a
  have s6 : t_tree_by_number_6 (callF tbl (k + 1)) (tbS lt n s) = .nx [some (.str lt), some (.int (n - C lt.length s : Nat)), some (.int s), some (.lst true (NL (cL lt.length s)))] := by
    have := sev_aug (i := 1) (g := fun a b => a - b) (a := n) rfl a.pu
    refine this.trans ?_
    have e : (n : Int) - (C lt.length s : Int) = ((n - C lt.length s : Nat) : Int) := by omega
    rw [← e]; rfl
  have s7 : t_tree_by_number_7 (callF tbl (k + 1)) [some (.str lt), some (.int (n - C lt.length s : Nat)), some (.int s), some (.lst true (NL (cL lt.length s)))] = .nx [some (.str lt), some (.int (n - C lt.length s : Nat)), some (.int (s + 1 : Nat)), some (.lst true (NL (cL lt.length s)))] := rfl
  have s8 : t_tree_by_number_8 (callF tbl (k + 1)) [some (.str lt), some (.int (n - C lt.length s : Nat)), some (.int (s + 1 : Nat)), some (.lst true (NL (cL lt.length s)))] = .nx [some (.str lt), some (.int (n - C lt.length s : Nat)), some (.int (s + 1 : Nat)), some (.lst true (NL (cL lt.length s)))] := by
    have q := pe_op2 (g := gGt) (pe_var (ρ := [some (.str lt), some (.int (n - C lt.length s : Nat)), some (.int (s + 1 : Nat)), some (.lst true (NL (cL lt.length s)))]) (i := 2) (d := .int (s + 1 : Nat)) rfl rfl).rd (pe_c (d := .int 60)).rd (d := .bl (decide ((60 : Int) < (s + 1 : Nat)))) rfl rfl
    rw [decide_eq_false (by omega)] at q
    exact sev_if_f q.ev
  have ec := counts_of_trees_ok k hL (s + 1) (by omega)
  have s10 : t_tree_by_number_10 (callF tbl (k + 1)) [some (.str lt), some (.int (n - C lt.length s : Nat)), some (.int (s + 1 : Nat)), some (.lst true (NL (cL lt.length s)))] = .nx (tbS lt (n - C lt.length s) (s + 1)) := sev_asg (pe_call (g := callF tbl (k + 1) 4) (rdA_cons (pe_var (i := 0) (d := .str lt) rfl rfl).rd (rdA_cons (pe_var (i := 2) (d := .int (s + 1 : Nat)) rfl rfl).rd rdA_nil)) ec (cleans_NL _)).ev rfl
  exact (seq_nx s6).trans ((seq_nx s7).trans ((seq_nx s8).trans s10))
theorem tb_run (k : Nat) {lt : List Nat} (hL : LL lt) (n : Nat) : ∀ (j s f : Nat), s + j ≤ 60 → base lt.length (s + j) ≤ n → j < f → loopW f tbcond (b_tree_by_number_5 (callF tbl (k + 1))) (tbS lt (n - base lt.length s) s) = loopW (f - j) tbcond (b_tree_by_number_5 (callF tbl (k + 1))) (tbS lt (n - base lt.length (s + j)) (s + j)) := by
  intro j
  induction j with
  | zero => intro s f _ _ _; rfl
  | succ j ih =>
    intro s f h1 h2 h3
    obtain ⟨f, rfl⟩ : ∃ g, f = g + 1 := ⟨f - 1, by omega⟩
    have hb := base_succ lt.length s
    have hm := base_mono lt.length (show s + 1 ≤ s + (j + 1) by omega)
    have hc : C lt.length s ≤ n - base lt.length s := by omega
    have q := tb_cond lt (n - base lt.length s) s
    rw [decide_eq_true hc] at q
    have st := tb_step k hL (n - base lt.length s) s hc (by omega)
    rw [show n - base lt.length s - C lt.length s = n - base lt.length (s + 1) by omega] at st
    have bb := loopW_t (n := f) (body := b_tree_by_number_5 (callF tbl (k + 1))) q.pu st
    rw [bb]
    have h4 : s + 1 + j = s + (j + 1) := by omega
    have := ih (s + 1) f (by omega) (by rw [h4]; exact h2) (by omega)
    rw [this, h4]
    congr 1
    omega
theorem tb_pre (k : Nat) (lt : List Nat) (n : Nat) (r : FR) (h : dSeq (t_tree_by_number_5 (callF tbl k)) (t_tree_by_number_11 (callF tbl k)) (tbS lt n 0) = .no ∨ ∀ x : RS, dSeq (t_tree_by_number_5 (callF tbl k)) (t_tree_by_number_11 (callF tbl k)) (tbS lt n 0) = x → endF [] x = r) (h0 : dSeq (t_tree_by_number_5 (callF tbl k)) (t_tree_by_number_11 (callF tbl k)) (tbS lt n 0) ≠ .no) : callF tbl (k + 1) 7 [.str lt, .int n] = r := by
  refine (c_tb k _).trans ?_
  have q := pe_op2 (g := gLt) (pe_var (ρ := [some (.str lt), some (.int n), none, none]) (i := 1) (d := .int n) rfl rfl).rd (pe_c (d := .int 0)).rd (d := .bl (decide ((n : Int) < 0))) rfl rfl
  rw [decide_eq_false (by omega)] at q
  have s1 : t_tree_by_number_1 (callF tbl k) [some (.str lt), some (.int n), none, none] = .nx [some (.str lt), some (.int n), none, none] := sev_if_f q.ev
  have e : den_tree_by_number (callF tbl k) [some (.str lt), some (.int n), none, none] = dSeq (t_tree_by_number_5 (callF tbl k)) (t_tree_by_number_11 (callF tbl k)) (tbS lt n 0) := by
    unfold den_tree_by_number
    exact (seq_nx s1).trans ((seq_nx (a := t_tree_by_number_3 _) rfl).trans (seq_nx (a := t_tree_by_number_4 _) rfl))
  rcases h with h | h
  · exact absurd h h0
  · have := h _ rfl
    simp only [runF, fn_tree_by_number, startF]
    simp [e, this]
theorem tb_ok {lt : List Nat} (hL : LL lt) {t : T} (hin : t.inn lt) (hz : t.sz ≤ 60) (k : Nat) : callF tbl (k + 70) 7 [.str lt, .int (t.num lt)] = .ok (.str t.tx) [] := by
  have hr := tb_run (k + 68) hL (t.num lt) t.sz 0 wFuel (by omega) (by rw [Nat.zero_add]; unfold T.num; omega) (by unfold wFuel; omega)
  rw [Nat.zero_add, show t.num lt - base lt.length 0 = t.num lt from Nat.sub_zero _, show t.num lt - base lt.length t.sz = t.nu lt by unfold T.num; omega] at hr
  have hlt := T.nu_lt hL.l1 hin
  have q := tb_cond lt (t.nu lt) t.sz
  rw [decide_eq_false (by omega)] at q
  obtain ⟨f, hf⟩ : ∃ f, wFuel - t.sz = f + 1 := ⟨wFuel - t.sz - 1, by unfold wFuel; omega⟩
  have s5 : t_tree_by_number_5 (callF tbl (k + 69)) (tbS lt (t.num lt) 0) = .nx (tbS lt (t.nu lt) t.sz) := by
    refine hr.trans ?_
    rw [hf]
    exact loopW_f q.pu
  have et := ti_ok hL (N := t.sz) (by omega) t hin (Nat.le_refl _) (k + 68) (by omega)
  have s11 : t_tree_by_number_11 (callF tbl (k + 69)) (tbS lt (t.nu lt) t.sz) = .rt (.str t.tx) (tbS lt (t.nu lt) t.sz) := by
    have hfz : fz1 3 (tbS lt (t.nu lt) t.sz) = [some (.str lt), some (.int (t.nu lt)), some (.int t.sz), some (.lst false (NL (cL lt.length t.sz)))] := by simp [tbS, fz1, fr, frs_NL]
    have r3 := rd_var (ρ := tbS lt (t.nu lt) t.sz) (i := 3) (d := .lst true (NL (cL lt.length t.sz))) rfl
    rw [hfz, fr_NL] at r3
    exact sev_ret (pe_call (g := callF tbl (k + 69) 6) (d := .str t.tx) (rdA_cons (pe_var (ρ := tbS lt (t.nu lt) t.sz) (i := 0) (d := .str lt) rfl rfl).rd (rdA_cons r3 (rdA_cons (pe_var (i := 2) (d := .int t.sz) rfl rfl).rd (rdA_cons (pe_var (i := 1) (d := .int (t.nu lt)) rfl rfl).rd rdA_nil)))) (by
      show callF tbl (k + 69) 6 [.str lt, fr (.lst false (NL (cL lt.length t.sz))), .int t.sz, .int (t.nu lt)] = _
      rw [fr_NL]; exact et) rfl).ev
  have hs : dSeq (t_tree_by_number_5 (callF tbl (k + 69))) (t_tree_by_number_11 (callF tbl (k + 69))) (tbS lt (t.num lt) 0) = .rt (.str t.tx) (tbS lt (t.nu lt) t.sz) := (seq_nx s5).trans s11
  exact tb_pre (k + 69) lt (t.num lt) _ (.inr fun x hx => by rw [hs] at hx; rw [← hx]; rfl) (by rw [hs]; simp)
theorem tb_many {lt : List Nat} (hL : LL lt) (n : Nat) (hn : base lt.length 61 ≤ n) (k : Nat) : callF tbl (k + 70) 7 [.str lt, .int n] = .ex (many 61) [] := by
  have hb : base lt.length 61 = base lt.length 60 + C lt.length 60 := base_succ lt.length 60
  have hr := tb_run (k + 68) hL n 60 0 wFuel (by omega) (by rw [Nat.zero_add]; omega) (by unfold wFuel; omega)
  rw [Nat.zero_add, show n - base lt.length 0 = n from Nat.sub_zero _] at hr
  have hc : C lt.length 60 ≤ n - base lt.length 60 := by omega
  have q := tb_cond lt (n - base lt.length 60) 60
  rw [decide_eq_true hc] at q
  obtain ⟨f, hf⟩ : ∃ f, wFuel - 60 = f + 1 := ⟨wFuel - 60 - 1, by unfold wFuel; omega⟩
  have hcl := cL_len lt.length 60
  have hb5 : ∃ ρ', b_tree_by_number_5 (callF tbl (k + 69)) (tbS lt (n - base lt.length 60) 60) = .ex (many 61) ρ' := by
    have hfz : fz1 3 (tbS lt (n - base lt.length 60) 60) = [some (.str lt), some (.int (n - base lt.length 60 : Nat)), some (.int (60 : Nat)), some (.lst false (NL (cL lt.length 60)))] := by simp [tbS, fz1, fr, frs_NL]
    have r3 := rd_var (ρ := tbS lt (n - base lt.length 60) 60) (i := 3) (d := .lst true (NL (cL lt.length 60))) rfl
    rw [hfz, fr_NL] at r3
    have a := pe_op2 (g := gIx) r3 (pe_var (i := 2) (d := .int (60 : Nat)) rfl rfl).rd (gIx_NL false _ 60 (by omega)) rfl
    have s6 := sev_aug (i := 1) (g := fun a b => a - b) (a := (n - base lt.length 60 : Nat)) rfl a.pu
    have s7 : t_tree_by_number_7 (callF tbl (k + 69)) ((tbS lt (n - base lt.length 60) 60).set 1 (some (.int (((n - base lt.length 60 : Nat) : Int) - ((cL lt.length 60).getD 60 0 : Nat))))) = .nx [some (.str lt), some (.int (((n - base lt.length 60 : Nat) : Int) - ((cL lt.length 60).getD 60 0 : Nat))), some (.int 61), some (.lst true (NL (cL lt.length 60)))] := rfl
    have s8 : t_tree_by_number_8 (callF tbl (k + 69)) [some (.str lt), some (.int (((n - base lt.length 60 : Nat) : Int) - ((cL lt.length 60).getD 60 0 : Nat))), some (.int 61), some (.lst true (NL (cL lt.length 60)))] = .ex (many 61) [some (.str lt), some (.int (((n - base lt.length 60 : Nat) : Int) - ((cL lt.length 60).getD 60 0 : Nat))), some (.int 61), some (.lst true (NL (cL lt.length 60)))] := by
      generalize (((n - base lt.length 60 : Nat) : Int) - ((cL lt.length 60).getD 60 0 : Nat)) = Z
      generalize NL (cL lt.length 60) = G
      have q := pe_op2 (g := gGt) (pe_var (ρ := [some (.str lt), some (.int Z), some (.int 61), some (.lst true G)]) (i := 2) (d := .int 61) rfl rfl).rd (pe_c (d := .int 60)).rd (d := .bl true) rfl rfl
      refine (sev_if_t q.ev).trans ?_
      simp [t_tree_by_number_9, runF, endF, startF, outsOf, dSeq, dIfS, dOp, opR, dDisp, opRM, dCons, dNil, dIo, vals, splitIo, dVar, dMove, dC, dRet, dExp, dSkip, dAsg, sName, sTup, sNil, sCons, one, two, gLen, gEq, gNe, gEqS, gMod, gDiv, gSub, gAdd, gAddI, gAddL, gMul, gMulI, gPow, gAbs, gIx, gLt, gLe, gGt, gGe, gCmp, gIsi, isTy, isNon, gList, opLst, opTup, dPop, dAppend, dReverse, dSetIx, dIf, dAnd, dOr, dNot, andP, isLst, dCall0, dCallIo, dFor, dIt, itR, itL, itS, itR1, itR2, itRev, itRR1, opSl, lod, gSl, clean, cleans, imm, imms, fr, fz, fz1, frs, frs_len, bdec, fr_fr, dRaise, many]
    exact ⟨_, (seq_nx (a := t_tree_by_number_6 _) s6).trans ((seq_nx s7).trans (seq_ex s8))⟩
  obtain ⟨ρ', hb5⟩ := hb5
  have s5 : t_tree_by_number_5 (callF tbl (k + 69)) (tbS lt n 0) = .ex (many 61) ρ' := by
    refine hr.trans ?_
    rw [hf]
    exact loopW_ex q.pu hb5
  have hs : dSeq (t_tree_by_number_5 (callF tbl (k + 69))) (t_tree_by_number_11 (callF tbl (k + 69))) (tbS lt n 0) = .ex (many 61) ρ' := seq_ex s5
  exact tb_pre (k + 69) lt n _ (.inr fun x hx => by rw [hs] at hx; rw [← hx]; rfl) (by rw [hs]; simp)
def bad (i : Int) : Exn := ⟨1, [("number", .int i)]⟩
theorem tb_bad (k : Nat) (lt : List Nat) {i : Int} (h : i < 0) : callF tbl (k + 1) 7 [.str lt, .int i] = .ex (bad i) [] := by
  refine (c_tb _ _).trans ?_
  simp [t_tree_by_number_2, t_tree_by_number_1, t_tree_by_number_3, t_tree_by_number_4, t_tree_by_number_6, t_tree_by_number_7, t_tree_by_number_9, t_tree_by_number_8, t_tree_by_number_10, b_tree_by_number_5, t_tree_by_number_5, t_tree_by_number_11, den_tree_by_number, fn_tree_by_number, runF, endF, startF, outsOf, dSeq, dIfS, dOp, opR, dDisp, opRM, dCons, dNil, dIo, vals, splitIo, dVar, dMove, dC, dRet, dExp, dSkip, dAsg, sName, sTup, sNil, sCons, one, two, gLen, gEq, gNe, gEqS, gMod, gDiv, gSub, gAdd, gAddI, gAddL, gMul, gMulI, gPow, gAbs, gIx, gLt, gLe, gGt, gGe, gCmp, gIsi, isTy, isNon, gList, opLst, opTup, dPop, dAppend, dReverse, dSetIx, dIf, dAnd, dOr, dNot, andP, isLst, dCall0, dCallIo, dFor, dIt, itR, itL, itS, itR1, itR2, itRev, itRR1, opSl, lod, gSl, clean, cleans, imm, imms, fr, fz, fz1, frs, frs_len, bdec, fr_fr, dRaise, h, bad]
/-! ### comes_before -/
theorem c_cb (k : Nat) (ds : List D) : callF tbl (k + 1) 10 ds = runF fn_comes_before (callF tbl k) ds := rfl
theorem cb_ok {lt : List Nat} (hL : LL lt) : ∀ (a b : T), a.inn lt → b.inn lt → a.sz ≤ 200 → b.sz ≤ 200 → ∀ k, a.sz ≤ k → callF tbl (k + 3) 10 [.str lt, .str a.tx, .str b.tx] = .ok (.bl (T.cb lt a b)) [] := by
  intro a
  induction a with
  | leaf =>
    intro b _ hb _ hz k _
    refine (c_cb (k + 2) _).trans ?_
    have e1 := sz_ok (k + 1) .leaf (by decide)
    have e2 := sz_ok (k + 1) b (by omega)
    have v1 : ∀ s, Pe (dVar 1) [some (.str lt), some (.str T.leaf.tx), some (.str b.tx), s] (.str T.leaf.tx) := fun s => pe_var rfl rfl
    have v2 : ∀ s, Pe (dVar 2) [some (.str lt), some (.str T.leaf.tx), some (.str b.tx), s] (.str b.tx) := fun s => pe_var rfl rfl
    have s1 : t_comes_before_1 (callF tbl (k + 2)) [some (.str lt), some (.str T.leaf.tx), some (.str b.tx), none] = .nx [some (.str lt), some (.str T.leaf.tx), some (.str b.tx), some (.tup [.int 0, .int b.sz])] := sev_asg (pe_disp (f := opTup) (peA_cons (pe_call (g := callF tbl (k + 2) 3) (rdA_cons (v1 _).rd rdA_nil) e1 rfl) (peA_cons (pe_call (g := callF tbl (k + 2) 3) (rdA_cons (v2 _).rd rdA_nil) e2 rfl) peA_nil)) rfl).ev rfl
    have v3 : Pe (dVar 3) [some (.str lt), some (.str T.leaf.tx), some (.str b.tx), some (.tup [.int 0, .int b.sz])] (.tup [.int 0, .int b.sz]) := pe_var rfl rfl
    have g0 := pe_op2 (g := gIx) v3.rd (pe_c (d := .int 0)).rd (d := .int 0) rfl rfl
    have g1 := pe_op2 (g := gIx) v3.rd (pe_c (d := .int 1)).rd (d := .int b.sz) rfl rfl
    have c1 := pe_op2 (g := gNe) g0.rd g1.rd (gNe_I _ _) rfl
    have c2 := pe_op2 (g := gEq) (v1 (some (.tup [.int 0, .int b.sz]))).rd (v2 (some (.tup [.int 0, .int b.sz]))).rd (gEqSt _ _) rfl
    have cc : Pe (dOr (dOp (two gNe) (dCons (dOp (two gIx) (dCons (dVar 3) (dCons (dC (.int 0)) dNil))) (dCons (dOp (two gIx) (dCons (dVar 3) (dCons (dC (.int 1)) dNil))) dNil))) (dOp (two gEq) (dCons (dVar 1) (dCons (dVar 2) dNil)))) [some (.str lt), some (.str T.leaf.tx), some (.str b.tx), some (.tup [.int 0, .int b.sz])] (.bl true) := by
      by_cases h : b.sz = 0
      · have hb0 : b = .leaf := by
          cases b with
          | leaf => rfl
          | node c l r => simp [T.sz] at h
        subst hb0
        exact pe_or_f c1 c2
      · rw [decide_eq_false (by omega)] at c1
        exact pe_or_t c1
    have s3 : t_comes_before_3 (callF tbl (k + 2)) [some (.str lt), some (.str T.leaf.tx), some (.str b.tx), some (.tup [.int 0, .int b.sz])] = .rt (.bl (T.cb lt .leaf b)) [some (.str lt), some (.str T.leaf.tx), some (.str b.tx), some (.tup [.int 0, .int b.sz])] := by
      refine sev_ret (pe_op2 (g := gLt) g0.rd g1.rd (d := .bl (T.cb lt .leaf b)) ?_ rfl).ev
      have : gLt (.int 0) (.int b.sz) = some (.bl (decide ((0 : Int) < b.sz))) := rfl
      rw [this]
      simp [T.cb]
    have e : den_comes_before (callF tbl (k + 2)) [some (.str lt), some (.str T.leaf.tx), some (.str b.tx), none] = .rt (.bl (T.cb lt .leaf b)) [some (.str lt), some (.str T.leaf.tx), some (.str b.tx), some (.tup [.int 0, .int b.sz])] := by
      unfold den_comes_before
      exact (seq_nx s1).trans (seq_rt ((sev_if_t cc.ev).trans s3))
    exact run_rt (b := den_comes_before) rfl rfl rfl e rfl
  | node c l r ihl ihr =>
    intro b ha hb hza hzb k hk
    have hoka := T.inn_ok hL.no ha
    have hokb := T.inn_ok hL.no hb
    have hsz : (T.node c l r).sz = l.sz + r.sz + 1 := rfl
    have hla := (T.node c l r).len
    have hlb := b.len
    obtain ⟨k, rfl⟩ : ∃ k', k = k' + 1 := ⟨k - 1, by omega⟩
    refine (c_cb (k + 3) _).trans ?_
    have e1 := sz_ok (k + 2) (T.node c l r) (by omega)
    have e2 := sz_ok (k + 2) b (by omega)
    have el1 : callF tbl (k + 3) 1 [.str (T.node c l r).tx] = .ok (.str l.tx) [] := left_of_ok (k + 1) hoka (by omega)
    have er1 : callF tbl (k + 3) 2 [.str (T.node c l r).tx] = .ok (.str r.tx) [] := right_of_ok (k + 1) hoka (by omega)
    have el2 : callF tbl (k + 3) 1 [.str b.tx] = .ok (.str b.lf.tx) [] := left_of_ok (k + 1) hokb (by omega)
    have er2 : callF tbl (k + 3) 2 [.str b.tx] = .ok (.str b.rg.tx) [] := right_of_ok (k + 1) hokb (by omega)
    generalize hx : (T.node c l r).tx = x at *
    have v1 : ∀ s, Pe (dVar 1) [some (.str lt), some (.str x), some (.str b.tx), s] (.str x) := fun s => pe_var rfl rfl
    have v2 : ∀ s, Pe (dVar 2) [some (.str lt), some (.str x), some (.str b.tx), s] (.str b.tx) := fun s => pe_var rfl rfl
    have v0 : ∀ s, Pe (dVar 0) [some (.str lt), some (.str x), some (.str b.tx), s] (.str lt) := fun s => pe_var rfl rfl
    generalize hS : some (D.tup [.int (l.sz + r.sz + 1 : Nat), .int b.sz]) = S
    have s1 : t_comes_before_1 (callF tbl (k + 3)) [some (.str lt), some (.str x), some (.str b.tx), none] = .nx [some (.str lt), some (.str x), some (.str b.tx), S] := by
      rw [← hS]
      exact sev_asg (pe_disp (f := opTup) (peA_cons (pe_call (g := callF tbl (k + 3) 3) (rdA_cons (v1 _).rd rdA_nil) e1 rfl) (peA_cons (pe_call (g := callF tbl (k + 3) 3) (rdA_cons (v2 _).rd rdA_nil) e2 rfl) peA_nil)) rfl).ev rfl
    have v3 : Pe (dVar 3) [some (.str lt), some (.str x), some (.str b.tx), S] (.tup [.int (l.sz + r.sz + 1 : Nat), .int b.sz]) := by rw [← hS]; exact pe_var rfl rfl
    have g0 := pe_op2 (g := gIx) v3.rd (pe_c (d := .int 0)).rd (d := .int (l.sz + r.sz + 1 : Nat)) rfl rfl
    have g1 := pe_op2 (g := gIx) v3.rd (pe_c (d := .int 1)).rd (d := .int b.sz) rfl rfl
    have c1 := pe_op2 (g := gNe) g0.rd g1.rd (gNe_I _ _) rfl
    have c2 := pe_op2 (g := gEq) (v1 S).rd (v2 S).rd (gEqSt _ _) rfl
    have fin : ∀ y : Bool, (∃ ρ', dSeq (t_comes_before_2 (callF tbl (k + 3))) (dSeq (t_comes_before_4 (callF tbl (k + 3))) (dSeq (t_comes_before_6 (callF tbl (k + 3))) (t_comes_before_8 (callF tbl (k + 3))))) [some (.str lt), some (.str x), some (.str b.tx), S] = .rt (.bl y) ρ') → runF fn_comes_before (callF tbl (k + 3)) [.str lt, .str x, .str b.tx] = .ok (.bl y) [] := fun y ⟨ρ', h⟩ => by
      have e : den_comes_before (callF tbl (k + 3)) [some (.str lt), some (.str x), some (.str b.tx), none] = .rt (.bl y) ρ' := by
        unfold den_comes_before
        exact (seq_nx s1).trans h
      exact run_rt (b := den_comes_before) rfl rfl rfl e rfl
    have early : ∀ y : Bool, Pe (dOr (dOp (two gNe) (dCons (dOp (two gIx) (dCons (dVar 3) (dCons (dC (.int 0)) dNil))) (dCons (dOp (two gIx) (dCons (dVar 3) (dCons (dC (.int 1)) dNil))) dNil))) (dOp (two gEq) (dCons (dVar 1) (dCons (dVar 2) dNil)))) [some (.str lt), some (.str x), some (.str b.tx), S] (.bl true) → y = decide (((l.sz + r.sz + 1 : Nat) : Int) < b.sz) → runF fn_comes_before (callF tbl (k + 3)) [.str lt, .str x, .str b.tx] = .ok (.bl y) [] := fun y cc hy => by
      have s3 : t_comes_before_3 (callF tbl (k + 3)) [some (.str lt), some (.str x), some (.str b.tx), S] = .rt (.bl y) [some (.str lt), some (.str x), some (.str b.tx), S] := by
        rw [hy]
        exact sev_ret (pe_op2 (g := gLt) g0.rd g1.rd rfl rfl).ev
      exact fin y ⟨_, seq_rt ((sev_if_t cc.ev).trans s3)⟩
    cases b with
    | leaf =>
      refine early _ ?_ ?_
      · rw [decide_eq_false (by show ¬ ((l.sz + r.sz + 1 : Nat) : Int) = ((0 : Nat) : Int); omega)] at c1
        exact pe_or_t c1
      · symm
        show decide (((l.sz + r.sz + 1 : Nat) : Int) < ((0 : Nat) : Int)) = false
        exact decide_eq_false (by omega)
    | node c' l' r' =>
      have hszb : (T.node c' l' r').sz = l'.sz + r'.sz + 1 := rfl
      by_cases hs : l.sz + r.sz = l'.sz + r'.sz
      · rw [decide_eq_true (by omega)] at c1
        by_cases he : x = (T.node c' l' r').tx
        · rw [decide_eq_true he] at c2
          refine early _ (pe_or_f c1 c2) ?_
          unfold T.cb
          rw [if_neg (by simpa using hs), if_pos (by rw [hx]; exact he)]
          symm
          apply decide_eq_false
          omega
        · rw [decide_eq_false he] at c2
          have s2 : t_comes_before_2 (callF tbl (k + 3)) [some (.str lt), some (.str x), some (.str (T.node c' l' r').tx), S] = .nx [some (.str lt), some (.str x), some (.str (T.node c' l' r').tx), S] := sev_if_f (pe_or_f c1 c2).ev
          have x0 : gIx (.str x) (.int 0) = some (.str [c]) := by rw [← hx]; exact gIx0 c (l.tx ++ r.tx) (by show (T.node c l r).tx.length ≤ _; rw [hx]; omega)
          have y0 : gIx (.str (T.node c' l' r').tx) (.int 0) = some (.str [c']) := gIx0 c' (l'.tx ++ r'.tx) (by show (T.node c' l' r').tx.length ≤ _; omega)
          have i1 := pe_op2 (g := gIx) (v1 S).rd (pe_c (d := .int 0)).rd x0 rfl
          have i2 := pe_op2 (g := gIx) (v2 S).rd (pe_c (d := .int 0)).rd y0 rfl
          have c4 := pe_op2 (g := gNe) i1.rd i2.rd (gNeS _ _) rfl
          have hcb : T.cb lt (T.node c l r) (T.node c' l' r') = if c ≠ c' then decide (lt.idxOf c < lt.idxOf c') else if l.tx ≠ l'.tx then T.cb lt l l' else T.cb lt r r' := by
            conv => lhs; unfold T.cb
            rw [if_neg (by simpa using hs), if_neg (by rw [hx]; exact he)]
          rw [hcb]
          by_cases hc : c = c'
          · rw [if_neg (by simpa using hc)]
            rw [decide_eq_false (by simp [hc])] at c4
            have s4 : t_comes_before_4 (callF tbl (k + 3)) [some (.str lt), some (.str x), some (.str (T.node c' l' r').tx), S] = .nx [some (.str lt), some (.str x), some (.str (T.node c' l' r').tx), S] := sev_if_f c4.ev
            have l1 := pe_call (g := callF tbl (k + 3) 1) (rdA_cons (v1 S).rd rdA_nil) el1 rfl
            have l2 := pe_call (g := callF tbl (k + 3) 1) (d := .str l'.tx) (rdA_cons (v2 S).rd rdA_nil) el2 rfl
            have r1 := pe_call (g := callF tbl (k + 3) 2) (rdA_cons (v1 S).rd rdA_nil) er1 rfl
            have r2 := pe_call (g := callF tbl (k + 3) 2) (d := .str r'.tx) (rdA_cons (v2 S).rd rdA_nil) er2 rfl
            have c6 := pe_op2 (g := gNe) l1.rd l2.rd (gNeS _ _) rfl
            by_cases hl : l.tx = l'.tx
            · rw [if_neg (by simpa using hl)]
              rw [decide_eq_false (by simp [hl])] at c6
              have s6 : t_comes_before_6 (callF tbl (k + 3)) [some (.str lt), some (.str x), some (.str (T.node c' l' r').tx), S] = .nx [some (.str lt), some (.str x), some (.str (T.node c' l' r').tx), S] := sev_if_f c6.ev
              have e8 := ihr r' ha.2.2 hb.2.2 (by omega) (by omega) k (by omega)
              have s8 := sev_ret (pe_call (g := callF tbl (k + 3) 10) (d := .bl (T.cb lt r r')) (rdA_cons (v0 S).rd (rdA_cons r1.rd (rdA_cons r2.rd rdA_nil))) e8 rfl).ev
              exact fin _ ⟨_, (seq_nx s2).trans ((seq_nx s4).trans ((seq_nx s6).trans s8))⟩
            · rw [if_pos (by simpa using hl)]
              rw [decide_eq_true (by simpa using hl)] at c6
              have e7 := ihl l' ha.2.1 hb.2.1 (by omega) (by omega) k (by omega)
              have s7 := sev_ret (pe_call (g := callF tbl (k + 3) 10) (d := .bl (T.cb lt l l')) (rdA_cons (v0 S).rd (rdA_cons l1.rd (rdA_cons l2.rd rdA_nil))) e7 rfl).ev
              have s6 : t_comes_before_6 (callF tbl (k + 3)) [some (.str lt), some (.str x), some (.str (T.node c' l' r').tx), S] = .rt (.bl (T.cb lt l l')) [some (.str lt), some (.str x), some (.str (T.node c' l' r').tx), S] := (sev_if_t c6.ev).trans s7
              exact fin _ ⟨_, (seq_nx s2).trans ((seq_nx s4).trans (seq_rt s6))⟩
          · rw [if_pos hc]
            rw [decide_eq_true (by simpa using hc)] at c4
            have i3 := pe_op2 (g := gIdx) (pe_str (v0 S)).rd i1.rd (d := .int (lt.idxOf c)) (by simp [gIdx, ha.1]) rfl
            have i4 := pe_op2 (g := gIdx) (pe_str (v0 S)).rd i2.rd (d := .int (lt.idxOf c')) (by simp [gIdx, hb.1]) rfl
            have s5 := sev_ret (pe_op2 (g := gLt) i3.rd i4.rd (d := .bl (decide (lt.idxOf c < lt.idxOf c'))) (by
              have : gLt (.int (lt.idxOf c)) (.int (lt.idxOf c')) = some (.bl (decide ((lt.idxOf c : Int) < lt.idxOf c'))) := rfl
              rw [this]; simp) rfl).ev
            have s4 : t_comes_before_4 (callF tbl (k + 3)) [some (.str lt), some (.str x), some (.str (T.node c' l' r').tx), S] = .rt (.bl (decide (lt.idxOf c < lt.idxOf c'))) [some (.str lt), some (.str x), some (.str (T.node c' l' r').tx), S] := (sev_if_t c4.ev).trans s5
            exact fin _ ⟨_, (seq_nx s2).trans (seq_rt s4)⟩
      · rw [decide_eq_false (by omega)] at c1
        refine early _ (pe_or_t c1) ?_
        unfold T.cb
        rw [if_pos (by simpa using hs)]
        rw [Bool.eq_iff_iff]
        simp
        omega
end TB
end
section
set_option Elab.async false
set_option linter.all false
set_option maxRecDepth 100000
set_option maxHeartbeats 4000000
namespace TB
open PySem PySem.Spec L2
/-! ### comprehensions with two for -/
theorem loopJ_map {g1 : DenG} {δe : Den} {ρ : VE} (F : D → D) : ∀ (items : List D) (acc : List D), (∀ d ∈ items, imm d = true ∧ ∃ ρ2, g1 d ρ = some ρ2 ∧ Pe δe ρ2 (F d) ∧ scalD (F d) = true) → acc.length + items.length ≤ 16777216 → loopJ g1 δe items ρ acc = some (acc ++ items.map F)
  | [], acc, _, _ => by simp [loopJ]
  | d :: ds, acc, h, hl => by
    obtain ⟨h1, ρ2, h2, h3, h4⟩ := h d (by simp)
    unfold Pe at h3
    simp only [List.length_cons] at hl
    have ih := loopJ_map F ds (acc ++ [F d]) (fun x m => h x (by simp [m])) (by simp; omega)
    have hacc : acc.length < 16777216 := by omega
    unfold loopJ
    rw [if_pos h1, h2]
    simp only [h3]
    rw [if_pos ⟨h4, hacc⟩, ih]
    simp
theorem loopI_map {g : DenG} {δi1 : DenI} {g1 : DenG} {vs1 : List Nat} {δe : Den} {ρ : VE} (G : D → List D) : ∀ (items : List D) (acc : List D), (∀ d ∈ items, ∃ ρ1 items1 hold bs ρ1', g d ρ = some ρ1 ∧ δi1 ρ1 = .ok items1 hold bs true ρ1' ∧ ∀ acc : List D, acc.length + (G d).length ≤ 16777216 → loopJ g1 δe items1 (wipeE ρ1 vs1) acc = some (acc ++ G d)) → acc.length + (items.flatMap G).length ≤ 16777216 → loopI g δi1 g1 vs1 δe items ρ acc = some (acc ++ items.flatMap G)
  | [], acc, _, _ => by simp [loopI]
  | d :: ds, acc, h, hl => by
    obtain ⟨ρ1, items1, hold, bs, ρ1', h1, h2, h3⟩ := h d (by simp)
    rw [List.flatMap_cons, List.length_append] at hl
    have ih := loopI_map (g := g) (δi1 := δi1) (g1 := g1) (vs1 := vs1) (δe := δe) (ρ := ρ) G ds (acc ++ G d) (fun x m => h x (by simp [m])) (by rw [List.length_append]; omega)
    unfold loopI
    rw [h1]
    simp only [h2]
    rw [h3 acc (by omega)]
    simp only []
    rw [ih, List.flatMap_cons, List.append_assoc]
theorem it_rd {f : List D → Option (List D × List D)} {δs : DenA} {ρ ρ1 : VE} {ds items hold : List D} (h : RdPA δs ρ ds ρ1) (e : f ds = some (items, hold)) : ∃ bs, dIt f δs ρ = .ok items hold bs true ρ ∧ fz bs ρ = ρ1 := by
  obtain ⟨as, bs, es, ev, fs⟩ := h
  exact ⟨bs, by simp [dIt, itR, es, ev, e], fs⟩
theorem pe_comp2 {f : List D → Option (List D × List D)} {δs : DenA} {g : DenG} {vs : List Nat} {δi1 : DenI} {g1 : DenG} {vs1 : List Nat} {δe : Den} {ρ ρ1 : VE} {ds items hold acc : List D} (hi : RdPA δs ρ ds ρ1) (hf : f ds = some (items, hold)) (hn : noneAt vs ρ = true) (h : loopI g δi1 g1 vs1 δe items (wipeE ρ1 vs) [] = some acc) : Pe (dComp2 (dIt f δs) g vs δi1 g1 vs1 δe) ρ (.lst true acc) := by
  obtain ⟨bs, e, hb⟩ := it_rd hi hf
  have hw : fz bs (wipeE ρ vs) = wipeE ρ1 vs := by rw [fz_wipeE, hb]
  rw [noneAt_wipe' hn] at hw
  unfold Pe
  simp only [dComp2, e, noneAt_wipe' hn, hw, h, hn, Bool.and_self]
theorem sev_extend {ρ : VE} {i : Nat} {w : Bool} {G es : List D} {δ : Den} (h : ρ[i]? = some (some (.lst true G))) (he : Pe δ ρ (.lst w es)) (hm : imms es = true) (hl : G.length + es.length ≤ 16777216) : dExp (dExtend i δ) ρ = .nx (ρ.set i (some (.lst true (G ++ es)))) := by
  unfold Pe at he
  simp [dExp, dExtend, isLst, h, he, fz, hm, hl]
/-! ### all trees by their sizes -/
def wds (l : List (List Nat)) : List D := l.map D.str
theorem frs_wds (l : List (List Nat)) : frs (wds l) = wds l := frs_strs l
theorem imms_wds (l : List (List Nat)) : imms (wds l) = true := by
  induction l with
  | nil => rfl
  | cons x l ih => exact ih
theorem cleans_wds (l : List (List Nat)) : cleans (wds l) = true := by
  induction l with
  | nil => rfl
  | cons x l ih => exact ih
theorem wds_len (l : List (List Nat)) : (wds l).length = l.length := by simp [wds]
theorem wds_app (a b : List (List Nat)) : wds (a ++ b) = wds a ++ wds b := by simp [wds]
def LT1 (v : List (List (List Nat))) : List D := v.map fun r => .lst true (wds r)
def LF1 (v : List (List (List Nat))) : List D := v.map fun r => .lst false (wds r)
theorem fr_wds (w : Bool) (l : List (List Nat)) : fr (.lst w (wds l)) = .lst false (wds l) := by simp [fr, frs_wds]
theorem frs_LT1 (v : List (List (List Nat))) : frs (LT1 v) = LF1 v := by
  induction v with
  | nil => rfl
  | cons r v ih => show fr (.lst true (wds r)) :: frs (LT1 v) = _; rw [ih, fr_wds]; rfl
theorem frs_LF1 (v : List (List (List Nat))) : frs (LF1 v) = LF1 v := by
  induction v with
  | nil => rfl
  | cons r v ih => show fr (.lst false (wds r)) :: frs (LF1 v) = _; rw [ih, fr_wds]; rfl
theorem fr_LT1 (v : List (List (List Nat))) : fr (.lst true (LT1 v)) = .lst false (LF1 v) := by show D.lst false (frs (LT1 v)) = _; rw [frs_LT1]
theorem gIx_LF1 (w : Bool) (v : List (List (List Nat))) (i : Nat) (h : i < v.length) : gIx (.lst w (LF1 v)) (.int i) = some (.lst false (wds (v.getD i []))) := by
  show (atI (LF1 v) (i : Int)).map fr = _
  rw [atI_i, LF1, List.getElem?_map, List.getElem?_eq_getElem h, List.getD_eq_getElem?_getD, List.getElem?_eq_getElem h]
  show some (fr (.lst false (wds v[i]))) = _
  rw [fr_wds]; rfl
theorem itL_wds (w : Bool) (l : List (List Nat)) : itL [.lst w (wds l)] = some (wds l, [.lst false (wds l)]) := by simp [itL, frs_wds]
/-- trees of size m over the smaller ones -/
def blk (c : Nat) (v : List (List (List Nat))) (m i : Nat) : List (List Nat) := (v.getD i []).flatMap fun l => (v.getD (m - 1 - i) []).map fun r => c :: (l ++ r)
def rowT (lt : List Nat) (v : List (List (List Nat))) (m : Nat) : List (List Nat) := lt.flatMap fun c => (List.range m).flatMap fun i => blk c v m i
def lvs (lt : List Nat) : Nat → List (List (List Nat))
  | 0 => [[[46]]]
  | m + 1 => lvs lt m ++ [rowT lt (lvs lt m) (m + 1)]
theorem lvs_len (lt : List Nat) : ∀ m, (lvs lt m).length = m + 1
  | 0 => rfl
  | m + 1 => by simp [lvs, lvs_len lt m]
theorem c_tu (k : Nat) (ds : List D) : callF tbl (k + 1) 5 ds = runF fn_trees_up_to (callF tbl k) ds := rfl
/-- one more block -/
theorem tu13 (cf : CF) (v : List (List (List Nat))) (m i : Nat) (hm : v.length = m) (hi : i < m) (c : Nat) (acc : List (List Nat)) (hz : ∀ r ∈ v, ∀ x ∈ r, x.length ≤ 1000) (hl : acc.length + (blk c v m i).length ≤ 1000000) (p0 p1 p2 : Option D) : t_trees_up_to_13 cf [p0, p1, p2, some (.lst true (LT1 v)), some (.int m), some (.lst true (wds acc)), some (.str [c]), some (.int i), none, none, none] = .nx [p0, p1, p2, some (.lst true (LT1 v)), some (.int m), some (.lst true (wds (acc ++ blk c v m i))), some (.str [c]), some (.int i), none, none, none] := by
  have hf : ∀ le ri : Option D, fz1 3 [p0, p1, p2, some (.lst true (LT1 v)), some (.int m), some (.lst true (wds acc)), some (.str [c]), some (.int i), none, (le), (ri)] = [p0, p1, p2, some (.lst false (LF1 v)), some (.int m), some (.lst true (wds acc)), some (.str [c]), some (.int i), none, (le), (ri)] := fun le ri => by simp [fz1, fr, frs_LT1]
  have r3 := rd_var (ρ := [p0, p1, p2, some (.lst true (LT1 v)), some (.int m), some (.lst true (wds acc)), some (.str [c]), some (.int i), none, none, none]) (i := 3) (d := .lst true (LT1 v)) rfl
  rw [hf, fr_LT1] at r3
  have hF : fr (.lst false (LF1 v)) = .lst false (LF1 v) := by show D.lst false (frs (LF1 v)) = _; rw [frs_LF1]
  have w3 : ∀ le ri : Option D, RdP (dVar 3) [p0, p1, p2, some (.lst false (LF1 v)), some (.int m), some (.lst true (wds acc)), some (.str [c]), some (.int i), none, (le), (ri)] (.lst false (LF1 v)) [p0, p1, p2, some (.lst false (LF1 v)), some (.int m), some (.lst true (wds acc)), some (.str [c]), some (.int i), none, (le), (ri)] := fun le ri => (pu_var (i := 3) rfl hF).rd
  have opsrc : ∀ {ρ ρ1 : VE} {δ3 δk : Den} {j : Nat}, RdP δ3 ρ (.lst false (LF1 v)) ρ1 → RdP δk ρ1 (.int j) ρ1 → j < m → ∃ ρ2, RdPA (dCons (dOp (two gIx) (dCons δ3 (dCons δk dNil))) dNil) ρ [.lst false (wds (v.getD j []))] ρ2 ∧ ρ2 = ρ1 := fun {ρ ρ1 δ3 δk j} h1 h2 hj => by
    obtain ⟨b1, e1, f1⟩ := h1
    obtain ⟨b2, e2, f2⟩ := h2
    have hg := gIx_LF1 false v j (by omega)
    cases hw : wds (v.getD j []) with
    | nil =>
      rw [hw] at hg
      refine ⟨ρ1, ⟨[.v (.lst false [])], b1 ++ b2, ?_, rfl, by rw [fz_app, f1, f2]⟩, rfl⟩
      simp [dCons, dOp, e1, f1, e2, dNil, opR, vals, two, hg, clean]
    | cons x xs =>
      rw [hw] at hg
      refine ⟨ρ1, ⟨[.v (.lst false (x :: xs))], b1 ++ b2, ?_, rfl, by rw [fz_app, f1, f2]⟩, rfl⟩
      simp [dCons, dOp, e1, f1, e2, dNil, opR, vals, two, hg, clean]
  obtain ⟨_, src, rfl⟩ := opsrc r3 (pe_var (i := 7) (d := .int i) rfl rfl).rd hi
  have inner := loopI_map (g := sName (cmpl [9, 10] 11) 9) (δi1 := dIt itL (dCons (dOp (two gIx) (dCons (dVar 3) (dCons (dOp (two gSub) (dCons (dOp (two gSub) (dCons (dVar 4) (dCons (dC (.int 1)) dNil))) (dCons (dVar 7) dNil))) dNil))) dNil)) (g1 := sName (cmpl [10] 11) 10) (vs1 := [10]) (δe := dOp (two gAdd) (dCons (dOp (two gAdd) (dCons (dVar 6) (dCons (dVar 9) dNil))) (dCons (dVar 10) dNil)))
    (ρ := [p0, p1, p2, some (.lst false (LF1 v)), some (.int m), some (.lst true (wds acc)), some (.str [c]), some (.int i), none, none, none]) (fun d => match d with | .str l => wds ((v.getD (m - 1 - i) []).map fun r => c :: (l ++ r)) | _ => []) (wds (v.getD i [])) [] (fun d hd => by
      obtain ⟨l, ml, rfl⟩ := List.mem_map.mp hd
      have hlz : l.length ≤ 1000 := by
        have : v.getD i [] ∈ v := by rw [List.getD_eq_getElem?_getD, List.getElem?_eq_getElem (by omega)]; exact List.getElem_mem _
        exact hz _ this l ml
      have sb := pe_op2 (ρ := [p0, p1, p2, some (.lst false (LF1 v)), some (.int m), some (.lst true (wds acc)), some (.str [c]), some (.int i), none, some (.str l), none]) (g := gSub) (pe_op2 (g := gSub) (pe_var (i := 4) (d := .int m) rfl rfl).rd (pe_c (d := .int 1)).rd (d := .int (m - 1 : Nat)) (show gSub (.int m) (.int 1) = some (.int (m - 1 : Nat)) from gSub_N m 1 (by omega)) rfl).rd (pe_var (i := 7) (d := .int i) rfl rfl).rd (gSub_N (m - 1) i (by omega)) rfl
      obtain ⟨_, src1, rfl⟩ := opsrc (w3 (some (.str l)) none) sb.rd (by omega)
      obtain ⟨bs, e1, e2⟩ := it_rd src1 (itL_wds false _)
      refine ⟨[p0, p1, p2, some (.lst false (LF1 v)), some (.int m), some (.lst true (wds acc)), some (.str [c]), some (.int i), none, some (.str l), none], _, _, bs, _, rfl, e1, fun acc2 hacc => ?_⟩
      have e3 : wds ((v.getD (m - 1 - i) []).map fun r => c :: (l ++ r)) = (wds (v.getD (m - 1 - i) [])).map (fun d => match d with | .str r => .str (c :: (l ++ r)) | _ => .non) := by simp [wds]
      show loopJ _ _ _ [p0, p1, p2, some (.lst false (LF1 v)), some (.int m), some (.lst true (wds acc)), some (.str [c]), some (.int i), none, some (.str l), none] acc2 = some (acc2 ++ wds ((v.getD (m - 1 - i) []).map fun r => c :: (l ++ r)))
      rw [e3]
      refine loopJ_map _ _ _ (fun d hd => ?_) (by
        have : (wds ((v.getD (m - 1 - i) []).map fun r => c :: (l ++ r))).length = (wds (v.getD (m - 1 - i) [])).length := by simp [wds]
        have h2 : acc2.length + (wds ((v.getD (m - 1 - i) []).map fun r => c :: (l ++ r))).length ≤ 16777216 := hacc
        omega)
      obtain ⟨r, mr, rfl⟩ := List.mem_map.mp hd
      have hrz : r.length ≤ 1000 := by
        have : v.getD (m - 1 - i) [] ∈ v := by rw [List.getD_eq_getElem?_getD, List.getElem?_eq_getElem (by omega)]; exact List.getElem_mem _
        exact hz _ this r mr
      have g1 : gAdd (.str [c]) (.str l) = some (.str (c :: l)) := by
        have : 1 + l.length ≤ 16777216 := by omega
        simp [gAdd, gAddI, this]
      have g2 : gAdd (.str (c :: l)) (.str r) = some (.str (c :: (l ++ r))) := by
        have : l.length + 1 + r.length ≤ 16777216 := by omega
        simp [gAdd, gAddI, this]
      exact ⟨rfl, [p0, p1, p2, some (.lst false (LF1 v)), some (.int m), some (.lst true (wds acc)), some (.str [c]), some (.int i), none, some (.str l), some (.str r)], rfl, pe_op2 (g := gAdd) (pe_op2 (g := gAdd) (pe_var (i := 6) (d := .str [c]) rfl rfl).rd (pe_var (i := 9) (d := .str l) rfl rfl).rd g1 rfl).rd (pe_var (i := 10) (d := .str r) rfl rfl).rd g2 rfl, rfl⟩) (by
        have : ((wds (v.getD i [])).flatMap fun d => match d with | .str l => wds ((v.getD (m - 1 - i) []).map fun r => c :: (l ++ r)) | _ => []).length = (blk c v m i).length := by
          simp [wds, blk, List.flatMap_map, List.length_flatMap]
        simp only [List.length_nil]
        omega)
  have eB : ((wds (v.getD i [])).flatMap fun d => match d with | .str l => wds ((v.getD (m - 1 - i) []).map fun r => c :: (l ++ r)) | _ => []) = wds (blk c v m i) := by
    simp [wds, blk, List.flatMap_map, List.map_flatMap]
  rw [eB, List.nil_append] at inner
  have pc := pe_comp2 (ρ := [p0, p1, p2, some (.lst true (LT1 v)), some (.int m), some (.lst true (wds acc)), some (.str [c]), some (.int i), none, none, none]) (vs := [9, 10]) src (itL_wds false _) rfl inner
  have := sev_extend (i := 5) (G := wds acc) rfl pc (imms_wds _) (by rw [wds_len, wds_len]; omega)
  rw [wds_app]
  exact this
end TB
end
section
set_option Elab.async false
set_option linter.all false
set_option maxRecDepth 100000
set_option maxHeartbeats 4000000
namespace TB
open PySem PySem.Spec L2
theorem blk_len {L : Nat} {v : List (List (List Nat))} {m : Nat} (h : ∀ i, i < m → (v.getD i []).length = C L i) (c : Nat) {i : Nat} (hi : i < m) : (blk c v m i).length = C L i * C L (m - 1 - i) := by
  unfold blk
  rw [List.length_flatMap]
  have : ((v.getD i []).map fun l => ((v.getD (m - 1 - i) []).map fun r => c :: (l ++ r)).length) = List.replicate (v.getD i []).length (C L (m - 1 - i)) := by
    rw [List.map_eq_replicate_iff]
    intro l _
    rw [List.length_map, h _ (by omega)]
  rw [this, List.sum_replicate_nat, h i hi]
theorem rows_len {L : Nat} {v : List (List (List Nat))} {m : Nat} (h : ∀ i, i < m → (v.getD i []).length = C L i) (c : Nat) : ∀ {k : Nat}, k ≤ m → ((List.range k).flatMap fun i => blk c v m i).length = P L (m - 1) k
  | 0, _ => rfl
  | k + 1, hk => by
    rw [List.range_succ, List.flatMap_append, List.length_append, rows_len h c (by omega), P_succ]
    congr 1
    rw [List.flatMap_cons, List.flatMap_nil, List.append_nil, blk_len h c (by omega)]
theorem rowT_len {lt : List Nat} {v : List (List (List Nat))} {m : Nat} (h : ∀ i, i < m + 1 → (v.getD i []).length = C lt.length i) : (rowT lt v (m + 1)).length = C lt.length (m + 1) := by
  rw [C_succ]
  unfold rowT
  rw [List.length_flatMap]
  have : (lt.map fun c => ((List.range (m + 1)).flatMap fun i => blk c v (m + 1) i).length) = List.replicate lt.length (P lt.length m (m + 1)) := by
    rw [List.map_eq_replicate_iff]
    intro c _
    rw [rows_len h c (Nat.le_refl _)]
    rfl
  rw [this, List.sum_replicate_nat]
theorem getD_snoc_lt {α : Type} (v : List α) (x d : α) {i : Nat} (h : i < v.length) : (v ++ [x]).getD i d = v.getD i d := by
  rw [List.getD_eq_getElem?_getD, List.getD_eq_getElem?_getD, List.getElem?_append_left h]
theorem getD_snoc_eq {α : Type} (v : List α) (x d : α) : (v ++ [x]).getD v.length d = x := by
  rw [List.getD_eq_getElem?_getD, List.getElem?_append_right (Nat.le_refl _), Nat.sub_self]; rfl
theorem lvs_lens (lt : List Nat) : ∀ (m i : Nat), i < m + 1 → ((lvs lt m).getD i []).length = C lt.length i
  | 0, i, h => by
    have : i = 0 := by omega
    subst this; rfl
  | m + 1, i, h => by
    have hl := lvs_len lt m
    by_cases hi : i < m + 1
    · show ((lvs lt m ++ _).getD i []).length = _
      rw [getD_snoc_lt _ _ _ (by omega)]
      exact lvs_lens lt m i hi
    · have : i = (lvs lt m).length := by omega
      show ((lvs lt m ++ _).getD i []).length = _
      rw [this, getD_snoc_eq, rowT_len (lvs_lens lt m), hl]
theorem blk_txt {v : List (List (List Nat))} {m : Nat} (h : ∀ i, i < m + 1 → ∀ x ∈ v.getD i [], x.length = 2 * i + 1) (c : Nat) {i : Nat} (hi : i < m + 1) : ∀ x ∈ blk c v (m + 1) i, x.length = 2 * (m + 1) + 1 := fun x hx => by
  unfold blk at hx
  obtain ⟨l, ml, hx⟩ := List.mem_flatMap.mp hx
  obtain ⟨r, mr, rfl⟩ := List.mem_map.mp hx
  have h1 := h i hi l ml
  have h2 := h (m + 1 - 1 - i) (by omega) r mr
  simp only [List.length_cons, List.length_append]
  omega
theorem rowT_txt {lt : List Nat} {v : List (List (List Nat))} {m : Nat} (h : ∀ i, i < m + 1 → ∀ x ∈ v.getD i [], x.length = 2 * i + 1) : ∀ x ∈ rowT lt v (m + 1), x.length = 2 * (m + 1) + 1 := fun x hx => by
  unfold rowT at hx
  obtain ⟨c, _, hx⟩ := List.mem_flatMap.mp hx
  obtain ⟨i, hi, hx⟩ := List.mem_flatMap.mp hx
  exact blk_txt h c (List.mem_range.mp hi) x hx
theorem lvs_at (lt : List Nat) : ∀ (m i : Nat), i < m + 1 → ∀ x ∈ (lvs lt m).getD i [], x.length = 2 * i + 1
  | 0, i, h, x, hx => by
    have : i = 0 := by omega
    subst this
    have hx : x ∈ ([[46]] : List (List Nat)) := hx
    rw [List.mem_singleton.mp hx]; rfl
  | m + 1, i, h, x, hx => by
    have hl := lvs_len lt m
    have hx : x ∈ (lvs lt m ++ [rowT lt (lvs lt m) (m + 1)]).getD i [] := hx
    by_cases hi : i < m + 1
    · rw [getD_snoc_lt _ _ _ (by omega)] at hx
      exact lvs_at lt m i hi x hx
    · have : i = (lvs lt m).length := by omega
      rw [this, getD_snoc_eq] at hx
      rw [this, hl]
      exact rowT_txt (lvs_at lt m) x hx
theorem lvs_txt (lt : List Nat) (m : Nat) : ∀ r ∈ lvs lt m, ∀ x ∈ r, x.length ≤ 2 * m + 1 := fun r hr x hx => by
  obtain ⟨i, hi, rfl⟩ := List.getElem_of_mem hr
  have hl := lvs_len lt m
  have e : (lvs lt m).getD i [] = (lvs lt m)[i] := by rw [List.getD_eq_getElem?_getD, List.getElem?_eq_getElem hi]; rfl
  have := lvs_at lt m i (by omega) x (by rw [e]; exact hx)
  omega
theorem tu12 (cf : CF) {L : Nat} (v : List (List (List Nat))) (m : Nat) (hm : v.length = m) (h : ∀ i, i < m → (v.getD i []).length = C L i) (c : Nat) (acc : List (List Nat)) (hz : ∀ r ∈ v, ∀ x ∈ r, x.length ≤ 1000) (hl : acc.length + P L (m - 1) m ≤ 1000000) (hm9 : m ≤ 1000) (p0 p1 p2 : Option D) (y : Option D) : ∃ y', t_trees_up_to_12 cf [p0, p1, p2, some (.lst true (LT1 v)), some (.int m), some (.lst true (wds acc)), some (.str [c]), (y), none, none, none] = .nx [p0, p1, p2, some (.lst true (LT1 v)), some (.int m), some (.lst true (wds (acc ++ (List.range m).flatMap fun i => blk c v m i))), some (.str [c]), (y'), none, none, none] := by
  have hPl : ∀ k, k ≤ m → P L (m - 1) k ≤ P L (m - 1) m := fun k hk => P_mono _ _ hk
  · obtain ⟨ρ', hl1, y', rfl⟩ := loop_inv (g := sName [] 7) (body := b_trees_up_to_12 cf) (items := rng 0 m) (ρ := [p0, p1, p2, some (.lst true (LT1 v)), some (.int m), some (.lst true (wds acc)), some (.str [c]), (y), none, none, none])
      (fun i ρ => ∃ y', ρ = [p0, p1, p2, some (.lst true (LT1 v)), some (.int m), some (.lst true (wds (acc ++ (List.range i).flatMap fun i => blk c v m i))), some (.str [c]), (y'), none, none, none]) (fun i d ρ hi hI => by
        obtain ⟨y', rfl⟩ := hI
        obtain ⟨e, hlt⟩ := rng_get hi
        rw [Int.zero_add] at e
        subst e
        have r1 := rows_len h c (k := i) (by omega)
        have r2 := rows_len h c (k := i + 1) (by omega)
        have r3 := hPl (i + 1) (by omega)
        rw [List.range_succ, List.flatMap_append, List.length_append, List.flatMap_cons, List.flatMap_nil, List.append_nil] at r2
        have st := tu13 cf v m i hm hlt c (acc ++ (List.range i).flatMap fun i => blk c v m i) hz (by rw [List.length_append]; omega) p0 p1 p2
        refine ⟨_, sName_ok (by simp), _, .inl st, some (.int i), ?_⟩
        rw [List.range_succ, List.flatMap_append, List.flatMap_cons, List.flatMap_nil, List.append_nil, List.append_assoc]) ⟨y, by simp⟩
    rw [rng_len] at hl1
    exact ⟨y', (srd_for (rdA_cons (pe_var (i := 4) (d := .int m) rfl rfl).rd rdA_nil) (itR1_nat m (by omega))).trans hl1⟩
theorem tu11 (cf : CF) {lt : List Nat} (v : List (List (List Nat))) (m : Nat) (hm : v.length = m) (h : ∀ i, i < m → (v.getD i []).length = C lt.length i) (hz : ∀ r ∈ v, ∀ x ∈ r, x.length ≤ 1000) (hl : lt.length * P lt.length (m - 1) m ≤ 1000000) (hm9 : m ≤ 1000) (p1 p2 : Option D) (y6 y7 : Option D) : ∃ z6 z7, t_trees_up_to_11 cf [some (.str lt), p1, p2, some (.lst true (LT1 v)), some (.int m), some (.lst true []), (y6), (y7), none, none, none] = .nx [some (.str lt), p1, p2, some (.lst true (LT1 v)), some (.int m), some (.lst true (wds (rowT lt v m))), (z6), (z7), none, none, none] := by
  have len : ∀ k, k ≤ lt.length → ((lt.take k).flatMap fun c => (List.range m).flatMap fun i => blk c v m i).length = k * P lt.length (m - 1) m := fun k hk => by
    rw [List.length_flatMap]
    have : ((lt.take k).map fun c => ((List.range m).flatMap fun i => blk c v m i).length) = List.replicate (lt.take k).length (P lt.length (m - 1) m) := by
      rw [List.map_eq_replicate_iff]
      intro c _
      exact rows_len h c (Nat.le_refl _)
    rw [this, List.sum_replicate_nat, List.length_take, Nat.min_eq_left hk]
  obtain ⟨ρ', hl1, z6, z7, rfl⟩ := loop_inv (g := sName [] 6) (body := b_trees_up_to_11 cf) (items := lt.map fun c => D.str [c]) (ρ := [some (.str lt), p1, p2, some (.lst true (LT1 v)), some (.int m), some (.lst true []), (y6), (y7), none, none, none])
    (fun i ρ => ∃ z6 z7, ρ = [some (.str lt), p1, p2, some (.lst true (LT1 v)), some (.int m), some (.lst true (wds ((lt.take i).flatMap fun c => (List.range m).flatMap fun i => blk c v m i))), (z6), (z7), none, none, none]) (fun i d ρ hi hI => by
      obtain ⟨z6, z7, rfl⟩ := hI
      rw [List.getElem?_map] at hi
      obtain ⟨c, hc, rfl⟩ := Option.map_eq_some_iff.mp hi
      have hil : i < lt.length := (List.getElem?_eq_some_iff.mp hc).1
      have hk := len i (by omega)
      have hk2 : (i + 1) * P lt.length (m - 1) m ≤ lt.length * P lt.length (m - 1) m := Nat.mul_le_mul_right _ hil
      rw [Nat.succ_mul] at hk2
      obtain ⟨y', st⟩ := tu12 cf v m hm h c ((lt.take i).flatMap fun c => (List.range m).flatMap fun i => blk c v m i) hz (by omega) hm9 (some (.str lt)) p1 p2 z7
      refine ⟨_, sName_ok (by simp), _, .inl st, some (.str [c]), y', ?_⟩
      rw [List.take_add_one, hc, Option.toList_some, List.flatMap_append, List.flatMap_cons, List.flatMap_nil, List.append_nil]) ⟨y6, y7, rfl⟩
  rw [List.length_map, List.take_length] at hl1
  exact ⟨z6, z7, (srd_for (rdA_cons (pe_var (i := 0) (d := .str lt) rfl rfl).rd rdA_nil) (rfl : itS [.str lt] = some (lt.map fun c => D.str [c], []))).trans hl1⟩
theorem tu9 (cf : CF) {lt : List Nat} (hL : LL lt) (m : Nat) (hb : base lt.length (m + 1) ≤ 5000) (hm9 : m ≤ 20) (p2 : Option D) : ∃ z4 z6 z7, t_trees_up_to_9 cf [some (.str lt), some (.int m), p2, some (.lst true (LT1 (lvs lt 0))), none, none, none, none, none, none, none] = .nx [some (.str lt), some (.int m), p2, some (.lst true (LT1 (lvs lt m))), (z4), none, (z6), (z7), none, none, none] := by
  obtain ⟨ρ', hl1, z4, z6, z7, rfl⟩ := loop_inv (g := sName [] 4) (body := b_trees_up_to_9 cf) (items := rng 1 m) (ρ := [some (.str lt), some (.int m), p2, some (.lst true (LT1 (lvs lt 0))), none, none, none, none, none, none, none])
    (fun i ρ => ∃ z4 z6 z7, ρ = [some (.str lt), some (.int m), p2, some (.lst true (LT1 (lvs lt i))), (z4), none, (z6), (z7), none, none, none]) (fun i d ρ hi hI => by
      obtain ⟨z4, z6, z7, rfl⟩ := hI
      obtain ⟨e, hlt⟩ := rng_get hi
      have e : d = .int ((i + 1 : Nat) : Int) := by rw [e]; congr 1; omega
      subst e
      have hlen := lvs_len lt i
      have hCs : lt.length * P lt.length (i + 1 - 1) (i + 1) = C lt.length (i + 1) := (C_succ _ _).symm
      have hCb : C lt.length (i + 1) ≤ base lt.length (m + 1) := by
        have h1 := base_succ lt.length (i + 1)
        have h2 := base_mono lt.length (show i + 1 + 1 ≤ m + 1 by omega)
        omega
      have hzz : ∀ r ∈ lvs lt i, ∀ x ∈ r, x.length ≤ 1000 := fun r hr x hx => by have := lvs_txt lt i r hr x hx; omega
      obtain ⟨a6, a7, e11⟩ := tu11 cf (lvs lt i) (i + 1) hlen (lvs_lens lt i) hzz (by omega) (by omega) (some (.int m)) p2 z6 z7
      have s10 : t_trees_up_to_10 cf [some (.str lt), some (.int m), p2, some (.lst true (LT1 (lvs lt i))), some (.int (i + 1 : Nat)), none, (z6), (z7), none, none, none] = .nx [some (.str lt), some (.int m), p2, some (.lst true (LT1 (lvs lt i))), some (.int (i + 1 : Nat)), some (.lst true []), (z6), (z7), none, none, none] := rfl
      have s14 : t_trees_up_to_14 cf [some (.str lt), some (.int m), p2, some (.lst true (LT1 (lvs lt i))), some (.int (i + 1 : Nat)), some (.lst true (wds (rowT lt (lvs lt i) (i + 1)))), (a6), (a7), none, none, none] = .nx [some (.str lt), some (.int m), p2, some (.lst true (LT1 (lvs lt (i + 1)))), some (.int (i + 1 : Nat)), none, (a6), (a7), none, none, none] := by
        have hle : (LT1 (lvs lt i)).length < 16777216 := by simp [LT1, hlen]; omega
        have e : LT1 (lvs lt (i + 1)) = LT1 (lvs lt i) ++ [.lst true (wds (rowT lt (lvs lt i) (i + 1)))] := by simp [lvs, LT1]
        rw [e]
        generalize LT1 (lvs lt i) = G at *
        generalize D.lst true (wds (rowT lt (lvs lt i) (i + 1))) = R at *
        simp [t_trees_up_to_14, dExp, dAppend, isLst, dMove, fz, hle]
      exact ⟨_, sName_ok (by simp), _, .inl ((seq_nx s10).trans ((seq_nx e11).trans s14)), _, a6, a7, rfl⟩) ⟨none, none, none, rfl⟩
  rw [rng_len] at hl1
  have h := itR2_nat 1 (m + 1) (by omega) (by omega)
  rw [show m + 1 - 1 = m by omega] at h
  exact ⟨z4, z6, z7, (st_for (puA_cons (pu_c (d := .int 1)) (puA_cons (pu_op2 (g := gAdd) (pu_var (i := 1) (d := .int m) rfl rfl) (pu_c (d := .int 1)) (d := .int ((m + 1 : Nat) : Int)) (by simp [gAdd, gAddI])) puA_nil)) h).trans hl1⟩
end TB
end
section
set_option Elab.async false
set_option linter.all false
set_option maxRecDepth 100000
set_option maxHeartbeats 4000000
namespace TB
open PySem PySem.Spec L2
theorem LF1_flat (v : List (List (List Nat))) : ((LF1 v).flatMap fun d => match d with | .lst _ xs => xs | _ => []) = wds v.flatten := by
  induction v with
  | nil => rfl
  | cons r v ih =>
    show wds r ++ ((LF1 v).flatMap fun d => match d with | .lst _ xs => xs | _ => []) = _
    rw [ih, List.flatten_cons, wds_app]
theorem lvs_flat_len (lt : List Nat) : ∀ m, (lvs lt m).flatten.length = base lt.length (m + 1)
  | 0 => by rw [base_succ]; rfl
  | m + 1 => by
    have h := rowT_len (lvs_lens lt m)
    rw [base_succ, ← lvs_flat_len lt m]
    show (lvs lt m ++ [_]).flatten.length = _
    rw [List.flatten_append, List.length_append, List.flatten_cons, List.flatten_nil, List.append_nil, h]
theorem tu15 (cf : CF) (v : List (List (List Nat))) (hl : v.flatten.length ≤ 1000000) (p0 p1 p2 p4 p6 p7 p9 p10 : Option D) : t_trees_up_to_15 cf [p0, p1, p2, some (.lst true (LT1 v)), p4, none, p6, p7, none, p9, p10] = .rt (.lst true (wds v.flatten)) [p0, p1, p2, some (.lst true (LT1 v)), p4, none, p6, p7, none, p9, p10] := by
  have hf : fz1 3 [p0, p1, p2, some (.lst true (LT1 v)), p4, none, p6, p7, none, p9, p10] = [p0, p1, p2, some (.lst false (LF1 v)), p4, none, p6, p7, none, p9, p10] := by simp [fz1, fr, frs_LT1]
  have r3 := rd_var (ρ := [p0, p1, p2, some (.lst true (LT1 v)), p4, none, p6, p7, none, p9, p10]) (i := 3) (d := .lst true (LT1 v)) rfl
  rw [hf, fr_LT1] at r3
  have hflat := LF1_flat v
  have inner := loopI_map (g := sName (cmpl [5, 8] 11) 5) (δi1 := dIt itL (dCons (dVar 5) dNil)) (g1 := sName (cmpl [8] 11) 8) (vs1 := [8]) (δe := dVar 8) (ρ := [p0, p1, p2, some (.lst false (LF1 v)), p4, none, p6, p7, none, p9, p10])
    (fun d => match d with | .lst _ xs => xs | _ => []) (LF1 v) [] (fun d hd => by
      obtain ⟨r, mr, rfl⟩ := List.mem_map.mp hd
      have r5 := rd_var (ρ := [p0, p1, p2, some (.lst false (LF1 v)), p4, some (.lst false (wds r)), p6, p7, none, p9, p10]) (i := 5) (d := .lst false (wds r)) rfl
      rw [fr_wds] at r5
      obtain ⟨bs, e1, e2⟩ := it_rd (rdA_cons r5 rdA_nil) (itL_wds false r)
      refine ⟨[p0, p1, p2, some (.lst false (LF1 v)), p4, some (.lst false (wds r)), p6, p7, none, p9, p10], _, _, bs, _, rfl, e1, fun acc2 hacc => ?_⟩
      have h2 : acc2.length + (wds r).length ≤ 16777216 := hacc
      have := loopJ_map (g1 := sName (cmpl [8] 11) 8) (δe := dVar 8) (ρ := [p0, p1, p2, some (.lst false (LF1 v)), p4, some (.lst false (wds r)), p6, p7, none, p9, p10]) id (wds r) acc2 (fun d hd => by
        obtain ⟨x, mx, rfl⟩ := List.mem_map.mp hd
        exact ⟨rfl, [p0, p1, p2, some (.lst false (LF1 v)), p4, some (.lst false (wds r)), p6, p7, some (.str x), p9, p10], rfl, pe_var rfl rfl, rfl⟩) h2
      rw [List.map_id] at this
      exact this) (by rw [hflat, wds_len, List.length_nil]; omega)
  rw [hflat, List.nil_append] at inner
  have pc := pe_comp2 (ρ := [p0, p1, p2, some (.lst true (LT1 v)), p4, none, p6, p7, none, p9, p10]) (vs := [5, 8]) (rdA_cons r3 rdA_nil) (f := itL) (items := LF1 v) (hold := [.lst false (LF1 v)]) (by simp [itL, frs_LF1]) rfl inner
  exact sev_ret pc.ev
def tuS (lt : List Nat) (M : Int) (j : Nat) : VE := [some (.str lt), some (.int M), some (.lst true (NL (cL lt.length j))), none, none, none, none, none, none, none, none]
def tucond : Den := dAnd (dOp (two gLe) (dCons (dOp (one gLen) (dCons (dVar 2) dNil)) (dCons (dVar 1) dNil))) (dOp (two gLe) (dCons (dOp (one gSum) (dCons (dVar 2) dNil)) (dCons (dC c_MOST_TREES) dNil)))
theorem tu_rd (lt : List Nat) (M : Int) (j : Nat) : ∃ ρ1, RdP (dVar 2) (tuS lt M j) (.lst false (NL (cL lt.length j))) ρ1 ∧ Pe (dVar 1) ρ1 (.int M) := by
  have r2 := rd_var (ρ := tuS lt M j) (i := 2) (d := .lst true (NL (cL lt.length j))) rfl
  rw [fr_NL] at r2
  exact ⟨_, r2, pe_var rfl rfl⟩
theorem tu_len (lt : List Nat) (M : Int) (j : Nat) : Pe (dOp (one gLen) (dCons (dVar 2) dNil)) (tuS lt M j) (.int (j + 1 : Nat)) := by
  obtain ⟨ρ1, r, _⟩ := tu_rd lt M j
  have hl := cL_len lt.length j
  refine pe_op1 r ?_ rfl
  simp [gLen, NL_len, hl]
theorem tu_sum (lt : List Nat) (M : Int) (j : Nat) : Pe (dOp (one gSum) (dCons (dVar 2) dNil)) (tuS lt M j) (.int (base lt.length (j + 1))) := by
  obtain ⟨ρ1, r, _⟩ := tu_rd lt M j
  have hl := cL_len lt.length j
  have e := base_cL lt.length j (j + 1) (by omega)
  rw [List.take_of_length_le (by omega)] at e
  have := pe_op1 r (gSum_NL false _) rfl
  rwa [e] at this
theorem tu_cond (lt : List Nat) (M : Int) (j : Nat) : Pe tucond (tuS lt M j) (.bl (decide (((j + 1 : Nat) : Int) ≤ M ∧ base lt.length (j + 1) ≤ 5000))) := by
  have c1 := pe_op2 (g := gLe) (tu_len lt M j).rd (pe_var (i := 1) (d := .int M) rfl rfl).rd (d := .bl (decide (((j + 1 : Nat) : Int) ≤ M))) rfl rfl
  have c2 := pe_op2 (g := gLe) (tu_sum lt M j).rd (pe_c (d := c_MOST_TREES)).rd (d := .bl (decide ((base lt.length (j + 1) : Int) ≤ 5000))) rfl rfl
  by_cases h1 : ((j + 1 : Nat) : Int) ≤ M
  · rw [decide_eq_true h1] at c1
    have e : decide (((j + 1 : Nat) : Int) ≤ M ∧ base lt.length (j + 1) ≤ 5000) = decide ((base lt.length (j + 1) : Int) ≤ 5000) := by
      rw [Bool.eq_iff_iff]
      simp only [decide_eq_true_eq]
      omega
    rw [e]
    exact pe_and_t c1 c2
  · rw [decide_eq_false h1] at c1
    rw [decide_eq_false (fun z => h1 z.1)]
    exact pe_and_f c1
theorem tu_loop (k : Nat) {lt : List Nat} (hL : LL lt) (M : Int) (J : Nat) (hJ : J ≤ 60) (h : ∀ j, j < J → ((j + 1 : Nat) : Int) ≤ M ∧ base lt.length (j + 1) ≤ 5000) (hs : ¬ (((J + 1 : Nat) : Int) ≤ M ∧ base lt.length (J + 1) ≤ 5000)) : ∀ (i j f : Nat), j + i = J → i < f → loopW f tucond (b_trees_up_to_4 (callF tbl (k + 1))) (tuS lt M j) = .nx (tuS lt M J) := by
  intro i
  induction i with
  | zero =>
    intro j f hj hf
    obtain ⟨f, rfl⟩ : ∃ g, f = g + 1 := ⟨f - 1, by omega⟩
    have : j = J := by omega
    subst this
    have q := tu_cond lt M j
    rw [decide_eq_false hs] at q
    exact loopW_f q.pu
  | succ i ih =>
    intro j f hj hf
    obtain ⟨f, rfl⟩ : ∃ g, f = g + 1 := ⟨f - 1, by omega⟩
    have q := tu_cond lt M j
    rw [decide_eq_true (h j (by omega))] at q
    have ec := counts_of_trees_ok k hL (j + 1) (by omega)
    have st : b_trees_up_to_4 (callF tbl (k + 1)) (tuS lt M j) = .nx (tuS lt M (j + 1)) := by
      show t_trees_up_to_5 _ _ = _
      unfold t_trees_up_to_5
      exact sev_asg (pe_call (g := callF tbl (k + 1) 4) (rdA_cons (pe_var (i := 0) (d := .str lt) rfl rfl).rd (rdA_cons (tu_len lt M j).rd rdA_nil)) ec (cleans_NL _)).ev rfl
    have bb := loopW_t (n := f) (body := b_trees_up_to_4 (callF tbl (k + 1))) q.pu st
    rw [bb]
    exact ih (j + 1) f (by omega) (by omega)
theorem tu_bad (k : Nat) (lt : List Nat) {i : Int} (h : i < 0) : callF tbl (k + 1) 5 [.str lt, .int i] = .ex (bad i) [] := by
  refine (c_tu _ _).trans ?_
  simp [t_trees_up_to_2, t_trees_up_to_1, t_trees_up_to_3, t_trees_up_to_5, b_trees_up_to_4, t_trees_up_to_4, t_trees_up_to_7, t_trees_up_to_6, t_trees_up_to_8, t_trees_up_to_10, t_trees_up_to_13, b_trees_up_to_12, t_trees_up_to_12, b_trees_up_to_11, t_trees_up_to_11, t_trees_up_to_14, b_trees_up_to_9, t_trees_up_to_9, t_trees_up_to_15, den_trees_up_to, fn_trees_up_to, runF, endF, startF, outsOf, dSeq, dIfS, dOp, opR, dDisp, opRM, dCons, dNil, dIo, vals, splitIo, dVar, dMove, dC, dRet, dExp, dSkip, dAsg, sName, sTup, sNil, sCons, one, two, gLen, gEq, gNe, gEqS, gMod, gDiv, gSub, gAdd, gAddI, gAddL, gMul, gMulI, gPow, gAbs, gIx, gLt, gLe, gGt, gGe, gCmp, gIsi, isTy, isNon, gList, opLst, opTup, dPop, dAppend, dReverse, dSetIx, dIf, dAnd, dOr, dNot, andP, isLst, dCall0, dCallIo, dFor, dIt, itR, itL, itS, itR1, itR2, itRev, itRR1, opSl, lod, gSl, clean, cleans, imm, imms, fr, fz, fz1, frs, frs_len, bdec, fr_fr, dRaise, h, bad]
theorem tu_pre (k : Nat) {lt : List Nat} (hL : LL lt) (M : Int) (hM : 0 ≤ M) (J : Nat) (hJ : J ≤ 60) (h : ∀ j, j < J → ((j + 1 : Nat) : Int) ≤ M ∧ base lt.length (j + 1) ≤ 5000) (hs : ¬ (((J + 1 : Nat) : Int) ≤ M ∧ base lt.length (J + 1) ≤ 5000)) (x : RS) (hx : dSeq (t_trees_up_to_6 (callF tbl (k + 1))) (dSeq (t_trees_up_to_8 (callF tbl (k + 1))) (dSeq (t_trees_up_to_9 (callF tbl (k + 1))) (t_trees_up_to_15 (callF tbl (k + 1))))) (tuS lt M J) = x) : den_trees_up_to (callF tbl (k + 1)) [some (.str lt), some (.int M), none, none, none, none, none, none, none, none, none] = x := by
  have q := pe_op2 (g := gLt) (pe_var (ρ := [some (.str lt), some (.int M), none, none, none, none, none, none, none, none, none]) (i := 1) (d := .int M) rfl rfl).rd (pe_c (d := .int 0)).rd (d := .bl (decide (M < 0))) rfl rfl
  rw [decide_eq_false (by omega)] at q
  have s1 : t_trees_up_to_1 (callF tbl (k + 1)) [some (.str lt), some (.int M), none, none, none, none, none, none, none, none, none] = .nx [some (.str lt), some (.int M), none, none, none, none, none, none, none, none, none] := sev_if_f q.ev
  have s3 : t_trees_up_to_3 (callF tbl (k + 1)) [some (.str lt), some (.int M), none, none, none, none, none, none, none, none, none] = .nx (tuS lt M 0) := rfl
  have s4 : t_trees_up_to_4 (callF tbl (k + 1)) (tuS lt M 0) = .nx (tuS lt M J) := tu_loop k hL M J hJ h hs J 0 wFuel (by omega) (by unfold wFuel; omega)
  unfold den_trees_up_to
  rw [seq_nx s1, seq_nx s3, seq_nx s4]
  exact hx
theorem tu_many (k : Nat) {lt : List Nat} (hL : LL lt) (M : Int) (J : Nat) (hJ : J ≤ 60) (hM : (J : Int) ≤ M) (h : ∀ j, j < J → base lt.length (j + 1) ≤ 5000) (hs : 5000 < base lt.length (J + 1)) : callF tbl (k + 2) 5 [.str lt, .int M] = .ex (many J) [] := by
  refine (c_tu _ _).trans ?_
  have s6 : t_trees_up_to_6 (callF tbl (k + 1)) (tuS lt M J) = .ex (many J) (tuS lt M J) := by
    have q := pe_op2 (g := gGt) (tu_sum lt M J).rd (pe_c (d := c_MOST_TREES)).rd (d := .bl (decide ((5000 : Int) < base lt.length (J + 1)))) rfl rfl
    rw [decide_eq_true (by omega)] at q
    refine (sev_if_t q.ev).trans ?_
    have a := pe_op2 (g := gSub) (tu_len lt M J).rd (pe_c (d := .int 1)).rd (d := .int J) (by simp [gSub]) rfl
    unfold Pe at a
    simp [t_trees_up_to_7, dRaise, dCons, a, dNil, fz, vals, many, imms, imm]
  have e := tu_pre k hL M (by omega) J hJ (fun j hj => ⟨by omega, h j hj⟩) (fun z => by omega) _ (seq_ex s6)
  simp only [runF, fn_trees_up_to, startF]
  simp [e, endF, outsOf]
theorem tu_ok (k : Nat) {lt : List Nat} (hL : LL lt) (m : Nat) (hm : m ≤ 20) (hb : base lt.length (m + 1) ≤ 5000) : callF tbl (k + 2) 5 [.str lt, .int m] = .ok (.lst true (wds (lvs lt m).flatten)) [] := by
  refine (c_tu _ _).trans ?_
  have s6 : t_trees_up_to_6 (callF tbl (k + 1)) (tuS lt m m) = .nx (tuS lt m m) := by
    have q := pe_op2 (g := gGt) (tu_sum lt m m).rd (pe_c (d := c_MOST_TREES)).rd (d := .bl (decide ((5000 : Int) < base lt.length (m + 1)))) rfl rfl
    rw [decide_eq_false (by omega)] at q
    exact sev_if_f q.ev
  have s8 : t_trees_up_to_8 (callF tbl (k + 1)) (tuS lt m m) = .nx [some (.str lt), some (.int m), some (.lst true (NL (cL lt.length m))), some (.lst true (LT1 (lvs lt 0))), none, none, none, none, none, none, none] := rfl
  obtain ⟨z4, z6, z7, s9⟩ := tu9 (callF tbl (k + 1)) hL m hb hm (some (.lst true (NL (cL lt.length m))))
  have s15 := tu15 (callF tbl (k + 1)) (lvs lt m) (by rw [lvs_flat_len]; omega) (some (.str lt)) (some (.int m)) (some (.lst true (NL (cL lt.length m)))) z4 z6 z7 none none
  have e := tu_pre k hL m (by omega) m (by omega) (fun j hj => ⟨by omega, Nat.le_trans (base_mono _ (by omega)) hb⟩) (fun z => by omega) _ ((seq_nx s6).trans ((seq_nx s8).trans ((seq_nx s9).trans s15)))
  exact run_rt (b := den_trees_up_to) rfl rfl rfl e rfl
end TB
end
section
set_option Elab.async false
set_option linter.all false
set_option maxRecDepth 100000
set_option maxHeartbeats 4000000
namespace TB
open PySem PySem.Spec L2
theorem frs_set : ∀ (ds : List D) (j : Nat) (x : D), frs (ds.set j x) = (frs ds).set j (fr x)
  | [], _, _ => rfl
  | _ :: _, 0, _ => rfl
  | d :: ds, j + 1, x => by show fr d :: frs (ds.set j x) = _; rw [frs_set ds j x]; rfl
theorem frs_getE : ∀ (ds : List D) (j : Nat), (frs ds)[j]? = (ds[j]?).map fr
  | [], _ => by simp [frs]
  | d :: ds, 0 => rfl
  | d :: ds, j + 1 => by show (frs ds)[j]? = _; rw [frs_getE ds j]; rfl
theorem ixN_nat (n j : Nat) (h : j < n) : ixN n (j : Int) = some j := by
  unfold ixN
  simp [h]
theorem ev_varIx {ρ : VE} {i j : Nat} {ds : List D} {v : List (List (List Nat))} {δk : Den} (h : ρ[i]? = some (some (.lst true ds))) (hv : frs ds = LF1 v) (hk : Pe δk ρ (.int j)) (hj : j < v.length) : ∃ ds', frs ds' = LF1 v ∧ Ev (dVarIx i δk) ρ (.lst false (wds (v.getD j []))) (ρ.set i (some (.lst true ds'))) := by
  unfold Pe at hk
  have hlen : ds.length = v.length := by
    have := congrArg List.length hv
    rw [frs_len] at this
    simpa [LF1] using this
  have hd := frs_getE ds j
  rw [hv, LF1, List.getElem?_map, List.getElem?_eq_getElem hj, List.getElem?_eq_getElem (by omega)] at hd
  have hd : D.lst false (wds v[j]) = fr ds[j] := Option.some.inj hd
  have hni : imm ds[j] = false := by
    cases hx : ds[j] with
    | lst w xs => rfl
    | _ => rw [hx] at hd; cases hd
  have hg : v.getD j [] = v[j] := by rw [List.getD_eq_getElem?_getD, List.getElem?_eq_getElem hj]; rfl
  refine ⟨ds.set j (fr ds[j]), ?_, [], false, ?_, rfl, fun z => nomatch z⟩
  · rw [frs_set, fr_fr, ← hd, hv]
    apply List.ext_getElem?
    intro q
    by_cases hq : j = q
    · subst hq
      rw [List.getElem?_set_self (by simpa [LF1] using hj), LF1, List.getElem?_map, List.getElem?_eq_getElem hj]; rfl
    · rw [List.getElem?_set_ne hq]
  · rw [hg, hd]
    simp [dVarIx, h, hk, ixN_nat _ _ (show j < ds.length by omega), List.getElem?_eq_getElem (show j < ds.length by omega), hni]
/-! ### law_levels -/
theorem ll7 (cf : CF) (v : List (List (List Nat))) (m i : Nat) (hm : v.length = m) (hi : i < m) (c : Nat) (l : List Nat) (acc : List (List Nat)) (ds : List D) (hds : frs ds = LF1 v) (hz : ∀ r ∈ v, ∀ x ∈ r, x.length ≤ 1000) (hlz : l.length ≤ 1000) (hl : acc.length + (v.getD (m - 1 - i) []).length ≤ 1000000) (p0 p1 : Option D) : ∃ ds', frs ds' = LF1 v ∧ t_law_levels_7 cf [p0, p1, some (.lst true ds), some (.int m), some (.lst true (wds acc)), some (.str [c]), some (.int i), some (.str l), none] = .nx [p0, p1, some (.lst true ds'), some (.int m), some (.lst true (wds (acc ++ (v.getD (m - 1 - i) []).map fun r => c :: (l ++ r)))), some (.str [c]), some (.int i), some (.str l), none] := by
  have hf : fz1 4 [p0, p1, some (.lst true ds), some (.int m), some (.lst true (wds acc)), some (.str [c]), some (.int i), some (.str l), none] = [p0, p1, some (.lst true ds), some (.int m), some (.lst false (wds acc)), some (.str [c]), some (.int i), some (.str l), none] := by simp [fz1, fr, frs_wds]
  have sb := pe_op2 (ρ := [p0, p1, some (.lst true ds), some (.int m), some (.lst false (wds acc)), some (.str [c]), some (.int i), some (.str l), none]) (g := gSub) (pe_op2 (g := gSub) (pe_var (i := 3) (d := .int m) rfl rfl).rd (pe_c (d := .int 1)).rd (d := .int (m - 1 : Nat)) (show gSub (.int m) (.int 1) = some (.int (m - 1 : Nat)) from gSub_N m 1 (by omega)) rfl).rd (pe_var (i := 6) (d := .int i) rfl rfl).rd (gSub_N (m - 1) i (by omega)) rfl
  obtain ⟨ds', hds', e1⟩ := ev_varIx (i := 2) (ds := ds) rfl hds sb (by omega)
  refine ⟨ds', hds', ?_⟩
  obtain ⟨acc', ρe, he, rfl, rfl⟩ := ev_compI (g := sName (cmpl [8] 9) 8) (vs := [8]) (δe := dOp (two gAdd) (dCons (dOp (two gAdd) (dCons (dVar 5) (dCons (dVar 7) dNil))) (dCons (dVar 8) dNil))) (f := itL) (items := wds (v.getD (m - 1 - i) [])) (hold := [.lst false (wds (v.getD (m - 1 - i) []))]) (ρ2 := [p0, p1, some (.lst true ds'), some (.int m), some (.lst false (wds acc)), some (.str [c]), some (.int i), some (.str l), none])
    (fun k a ρ => a = wds (((v.getD (m - 1 - i) []).take k).map fun r => c :: (l ++ r)) ∧ ρ = [p0, p1, some (.lst true ds'), some (.int m), some (.lst false (wds acc)), some (.str [c]), some (.int i), some (.str l), none]) (evA_cons e1 evA_nil) (itL_wds false _) rfl (fun k d a ρ hd hI => by
      obtain ⟨rfl, rfl⟩ := hI
      rw [wds, List.getElem?_map] at hd
      obtain ⟨r, hr, rfl⟩ := Option.map_eq_some_iff.mp hd
      have hrz : r.length ≤ 1000 := by
        have h1 : v.getD (m - 1 - i) [] ∈ v := by rw [List.getD_eq_getElem?_getD, List.getElem?_eq_getElem (by omega)]; exact List.getElem_mem _
        exact hz _ h1 r (List.mem_of_getElem? hr)
      have g1 : gAdd (.str [c]) (.str l) = some (.str (c :: l)) := by
        have : 1 + l.length ≤ 16777216 := by omega
        simp [gAdd, gAddI, this]
      have g2 : gAdd (.str (c :: l)) (.str r) = some (.str (c :: (l ++ r))) := by
        have : l.length + 1 + r.length ≤ 16777216 := by omega
        simp [gAdd, gAddI, this]
      refine ⟨[p0, p1, some (.lst true ds'), some (.int m), some (.lst false (wds acc)), some (.str [c]), some (.int i), some (.str l), some (.str r)], .str (c :: (l ++ r)), _, rfl, (pe_op2 (g := gAdd) (pe_op2 (g := gAdd) (pe_var (i := 5) (d := .str [c]) rfl rfl).rd (pe_var (i := 7) (d := .str l) rfl rfl).rd g1 rfl).rd (pe_var (i := 8) (d := .str r) rfl rfl).rd g2 rfl).ev, rfl, ?_, rfl⟩
      rw [List.take_add_one, hr, Option.toList_some, List.map_append, wds_app]; rfl) (by rw [wds_len]; omega) ⟨rfl, rfl⟩
  rw [wds_len, List.take_length] at he
  have hadd : gAdd (fr (.lst true (wds acc))) (.lst true (wds ((v.getD (m - 1 - i) []).map fun r => c :: (l ++ r)))) = some (.lst true (wds (acc ++ (v.getD (m - 1 - i) []).map fun r => c :: (l ++ r)))) := by
    rw [fr_wds]
    have : (wds acc).length + (wds ((v.getD (m - 1 - i) []).map fun r => c :: (l ++ r))).length ≤ 16777216 := by rw [wds_len, wds_len, List.length_map]; omega
    simp only [gAdd, gAddI, gAddL, if_pos this, Option.none_or, Option.some_or, frs_wds, wds_app]
  have hcl : clean (.lst true (wds (acc ++ (v.getD (m - 1 - i) []).map fun r => c :: (l ++ r)))) = true := cleans_wds _
  exact sev_asgOwn (i := 4) (f := gAdd) (d0 := .lst true (wds acc)) (ρ2 := [p0, p1, some (.lst true ds'), some (.int m), some (.lst false (wds acc)), some (.str [c]), some (.int i), some (.str l), none]) rfl (by rw [hf]; exact he) hadd hcl (by simp)
theorem ll6 (cf : CF) (v : List (List (List Nat))) (m i : Nat) (hm : v.length = m) (hi : i < m) (c : Nat) (acc : List (List Nat)) (ds : List D) (hds : frs ds = LF1 v) (hz : ∀ r ∈ v, ∀ x ∈ r, x.length ≤ 1000) (hl : acc.length + (blk c v m i).length ≤ 1000000) (hmx : (v.getD (m - 1 - i) []).length ≤ 500000) (p0 p1 : Option D) (y : Option D) : ∃ ds' y', frs ds' = LF1 v ∧ t_law_levels_6 cf [p0, p1, some (.lst true ds), some (.int m), some (.lst true (wds acc)), some (.str [c]), some (.int i), (y), none] = .nx [p0, p1, some (.lst true ds'), some (.int m), some (.lst true (wds (acc ++ blk c v m i))), some (.str [c]), some (.int i), (y'), none] := by
  obtain ⟨ds1, hds1, e1⟩ := ev_varIx (i := 2) (ds := ds) (ρ := [p0, p1, some (.lst true ds), some (.int m), some (.lst true (wds acc)), some (.str [c]), some (.int i), (y), none]) rfl hds (pe_var (i := 6) (d := .int i) rfl rfl) (by omega)
  have bl : ∀ k, k ≤ (v.getD i []).length → (((v.getD i []).take k).flatMap fun l => (v.getD (m - 1 - i) []).map fun r => c :: (l ++ r)).length = k * (v.getD (m - 1 - i) []).length := fun k hk => by
    rw [List.length_flatMap]
    have : (((v.getD i []).take k).map fun l => ((v.getD (m - 1 - i) []).map fun r => c :: (l ++ r)).length) = List.replicate ((v.getD i []).take k).length (v.getD (m - 1 - i) []).length := by
      rw [List.map_eq_replicate_iff]
      intro l _
      rw [List.length_map]
    rw [this, List.sum_replicate_nat, List.length_take, Nat.min_eq_left hk]
  have hbl := bl _ (Nat.le_refl _)
  rw [List.take_length] at hbl
  have hbl : (blk c v m i).length = (v.getD i []).length * (v.getD (m - 1 - i) []).length := hbl
  obtain ⟨ρ', hl1, ds', y', hds', rfl⟩ := loop_inv (g := sName [] 7) (body := b_law_levels_6 cf) (items := wds (v.getD i [])) (ρ := [p0, p1, some (.lst true ds1), some (.int m), some (.lst true (wds acc)), some (.str [c]), some (.int i), (y), none])
    (fun k ρ => ∃ ds' y', frs ds' = LF1 v ∧ ρ = [p0, p1, some (.lst true ds'), some (.int m), some (.lst true (wds (acc ++ ((v.getD i []).take k).flatMap fun l => (v.getD (m - 1 - i) []).map fun r => c :: (l ++ r)))), some (.str [c]), some (.int i), (y'), none]) (fun k d ρ hd hI => by
      obtain ⟨ds2, y', hds2, rfl⟩ := hI
      rw [wds, List.getElem?_map] at hd
      obtain ⟨l, hl', rfl⟩ := Option.map_eq_some_iff.mp hd
      have hkl : k < (v.getD i []).length := (List.getElem?_eq_some_iff.mp hl').1
      have h1 : v.getD i [] ∈ v := by rw [List.getD_eq_getElem?_getD, List.getElem?_eq_getElem (by omega)]; exact List.getElem_mem _
      have b1 := bl k (by omega)
      have b2 : (k + 1) * (v.getD (m - 1 - i) []).length ≤ (v.getD i []).length * (v.getD (m - 1 - i) []).length := Nat.mul_le_mul_right _ hkl
      rw [Nat.succ_mul] at b2
      obtain ⟨ds3, hds3, st⟩ := ll7 cf v m i hm hi c l (acc ++ ((v.getD i []).take k).flatMap fun l => (v.getD (m - 1 - i) []).map fun r => c :: (l ++ r)) ds2 hds2 hz (hz _ h1 l (List.mem_of_getElem? hl')) (by rw [List.length_append]; omega) p0 p1
      refine ⟨_, sName_ok (by simp), _, .inl st, ds3, some (.str l), hds3, ?_⟩
      rw [List.take_add_one, hl', Option.toList_some, List.flatMap_append, List.flatMap_cons, List.flatMap_nil, List.append_nil, List.append_assoc]) ⟨ds1, y, hds1, by simp⟩
  rw [wds_len, List.take_length] at hl1
  exact ⟨ds', y', hds', (sev_for (evA_cons e1 evA_nil) (itL_wds false _)).trans hl1⟩
end TB
end
section
set_option Elab.async false
set_option linter.all false
set_option maxRecDepth 100000
set_option maxHeartbeats 4000000
namespace TB
open PySem PySem.Spec L2
theorem ll5 (cf : CF) {L : Nat} (v : List (List (List Nat))) (m : Nat) (hm : v.length = m) (h : ∀ i, i < m → (v.getD i []).length = C L i) (hC : ∀ i, i < m → C L i ≤ 5000) (c : Nat) (acc : List (List Nat)) (ds : List D) (hds : frs ds = LF1 v) (hz : ∀ r ∈ v, ∀ x ∈ r, x.length ≤ 1000) (hl : acc.length + P L (m - 1) m ≤ 1000000) (hm9 : m ≤ 1000) (p0 p1 : Option D) (y6 y7 : Option D) : ∃ ds' z6 z7, frs ds' = LF1 v ∧ t_law_levels_5 cf [p0, p1, some (.lst true ds), some (.int m), some (.lst true (wds acc)), some (.str [c]), (y6), (y7), none] = .nx [p0, p1, some (.lst true ds'), some (.int m), some (.lst true (wds (acc ++ (List.range m).flatMap fun i => blk c v m i))), some (.str [c]), (z6), (z7), none] := by
  have hPl : ∀ k, k ≤ m → P L (m - 1) k ≤ P L (m - 1) m := fun k hk => P_mono _ _ hk
  obtain ⟨ρ', hl1, ds', z6, z7, hds', rfl⟩ := loop_inv (g := sName [] 6) (body := b_law_levels_5 cf) (items := rng 0 m) (ρ := [p0, p1, some (.lst true ds), some (.int m), some (.lst true (wds acc)), some (.str [c]), (y6), (y7), none])
    (fun i ρ => ∃ ds' z6 z7, frs ds' = LF1 v ∧ ρ = [p0, p1, some (.lst true ds'), some (.int m), some (.lst true (wds (acc ++ (List.range i).flatMap fun i => blk c v m i))), some (.str [c]), (z6), (z7), none]) (fun i d ρ hi hI => by
      obtain ⟨ds1, z6, z7, hds1, rfl⟩ := hI
      obtain ⟨e, hlt⟩ := rng_get hi
      rw [Int.zero_add] at e
      subst e
      have r1 := rows_len h c (k := i) (by omega)
      have r2 := rows_len h c (k := i + 1) (by omega)
      have r3 := hPl (i + 1) (by omega)
      rw [List.range_succ, List.flatMap_append, List.length_append, List.flatMap_cons, List.flatMap_nil, List.append_nil] at r2
      have hx := h (m - 1 - i) (by omega)
      have hc := hC (m - 1 - i) (by omega)
      obtain ⟨ds2, y', hds2, st⟩ := ll6 cf v m i hm hlt c (acc ++ (List.range i).flatMap fun i => blk c v m i) ds1 hds1 hz (by rw [List.length_append]; omega) (by omega) p0 p1 z7
      refine ⟨_, sName_ok (by simp), _, .inl st, ds2, some (.int i), y', hds2, ?_⟩
      rw [List.range_succ, List.flatMap_append, List.flatMap_cons, List.flatMap_nil, List.append_nil, List.append_assoc]) ⟨ds, y6, y7, hds, by simp⟩
  rw [rng_len] at hl1
  exact ⟨ds', z6, z7, hds', (srd_for (rdA_cons (pe_var (i := 3) (d := .int m) rfl rfl).rd rdA_nil) (itR1_nat m (by omega))).trans hl1⟩
theorem ll4 (cf : CF) {lt : List Nat} (v : List (List (List Nat))) (m : Nat) (hm : v.length = m) (h : ∀ i, i < m → (v.getD i []).length = C lt.length i) (hC : ∀ i, i < m → C lt.length i ≤ 5000) (ds : List D) (hds : frs ds = LF1 v) (hz : ∀ r ∈ v, ∀ x ∈ r, x.length ≤ 1000) (hl : lt.length * P lt.length (m - 1) m ≤ 1000000) (hm9 : m ≤ 1000) (p1 : Option D) (y5 y6 y7 : Option D) : ∃ ds' z5 z6 z7, frs ds' = LF1 v ∧ t_law_levels_4 cf [some (.str lt), p1, some (.lst true ds), some (.int m), some (.lst true []), (y5), (y6), (y7), none] = .nx [some (.str lt), p1, some (.lst true ds'), some (.int m), some (.lst true (wds (rowT lt v m))), (z5), (z6), (z7), none] := by
  have len : ∀ k, k ≤ lt.length → ((lt.take k).flatMap fun c => (List.range m).flatMap fun i => blk c v m i).length = k * P lt.length (m - 1) m := fun k hk => by
    rw [List.length_flatMap]
    have : ((lt.take k).map fun c => ((List.range m).flatMap fun i => blk c v m i).length) = List.replicate (lt.take k).length (P lt.length (m - 1) m) := by
      rw [List.map_eq_replicate_iff]
      intro c _
      exact rows_len h c (Nat.le_refl _)
    rw [this, List.sum_replicate_nat, List.length_take, Nat.min_eq_left hk]
  obtain ⟨ρ', hl1, ds', z5, z6, z7, hds', rfl⟩ := loop_inv (g := sName [] 5) (body := b_law_levels_4 cf) (items := lt.map fun c => D.str [c]) (ρ := [some (.str lt), p1, some (.lst true ds), some (.int m), some (.lst true []), (y5), (y6), (y7), none])
    (fun i ρ => ∃ ds' z5 z6 z7, frs ds' = LF1 v ∧ ρ = [some (.str lt), p1, some (.lst true ds'), some (.int m), some (.lst true (wds ((lt.take i).flatMap fun c => (List.range m).flatMap fun i => blk c v m i))), (z5), (z6), (z7), none]) (fun i d ρ hi hI => by
      obtain ⟨ds1, z5, z6, z7, hds1, rfl⟩ := hI
      rw [List.getElem?_map] at hi
      obtain ⟨c, hc, rfl⟩ := Option.map_eq_some_iff.mp hi
      have hil : i < lt.length := (List.getElem?_eq_some_iff.mp hc).1
      have hk := len i (by omega)
      have hk2 : (i + 1) * P lt.length (m - 1) m ≤ lt.length * P lt.length (m - 1) m := Nat.mul_le_mul_right _ hil
      rw [Nat.succ_mul] at hk2
      obtain ⟨ds2, y6', y7', hds2, st⟩ := ll5 cf v m hm h hC c ((lt.take i).flatMap fun c => (List.range m).flatMap fun i => blk c v m i) ds1 hds1 hz (by omega) hm9 (some (.str lt)) p1 z6 z7
      refine ⟨_, sName_ok (by simp), _, .inl st, ds2, some (.str [c]), y6', y7', hds2, ?_⟩
      rw [List.take_add_one, hc, Option.toList_some, List.flatMap_append, List.flatMap_cons, List.flatMap_nil, List.append_nil]) ⟨ds, y5, y6, y7, hds, rfl⟩
  rw [List.length_map, List.take_length] at hl1
  exact ⟨ds', z5, z6, z7, hds', (srd_for (rdA_cons (pe_var (i := 0) (d := .str lt) rfl rfl).rd rdA_nil) (rfl : itS [.str lt] = some (lt.map fun c => D.str [c], []))).trans hl1⟩
theorem c_ll (k : Nat) (ds : List D) : callF tbl (k + 1) 18 ds = runF fn_law_levels (callF tbl k) ds := rfl
theorem c_lt2 (k : Nat) (ds : List D) : callF tbl (k + 1) 19 ds = runF fn_law_trees (callF tbl k) ds := rfl
theorem ll_ok (k : Nat) {lt : List Nat} (m : Nat) (hb : base lt.length (m + 1) ≤ 5000) (hm9 : m ≤ 20) : ∃ ds, frs ds = LF1 (lvs lt m) ∧ callF tbl (k + 1) 18 [.str lt, .int m] = .ok (.lst true ds) [] := by
  have hCb : ∀ i, i ≤ m → C lt.length i ≤ 5000 := fun i hi => by
    have h1 := base_succ lt.length i
    have h2 := base_mono lt.length (show i + 1 ≤ m + 1 by omega)
    omega
  obtain ⟨ρ', hl1, ds, z3, z5, z6, z7, hds, rfl⟩ := loop_inv (g := sName [] 3) (body := b_law_levels_2 (callF tbl k)) (items := rng 1 m) (ρ := [some (.str lt), some (.int m), some (.lst true (LT1 (lvs lt 0))), none, none, none, none, none, none])
    (fun i ρ => ∃ ds z3 z5 z6 z7, frs ds = LF1 (lvs lt i) ∧ ρ = [some (.str lt), some (.int m), some (.lst true ds), z3, none, z5, z6, z7, none]) (fun i d ρ hi hI => by
      obtain ⟨ds, z3, z5, z6, z7, hds, rfl⟩ := hI
      obtain ⟨e, hlt⟩ := rng_get hi
      have e : d = .int ((i + 1 : Nat) : Int) := by rw [e]; congr 1; omega
      subst e
      have hlen := lvs_len lt i
      have hCs : lt.length * P lt.length (i + 1 - 1) (i + 1) = C lt.length (i + 1) := (C_succ _ _).symm
      have hcb := hCb (i + 1) (by omega)
      have hzz : ∀ r ∈ lvs lt i, ∀ x ∈ r, x.length ≤ 1000 := fun r hr x hx => by have := lvs_txt lt i r hr x hx; omega
      obtain ⟨ds2, a5, a6, a7, hds2, e4⟩ := ll4 (callF tbl k) (lvs lt i) (i + 1) hlen (lvs_lens lt i) (fun j hj => hCb j (by omega)) ds hds hzz (by omega) (by omega) (some (.int m)) z5 z6 z7
      have s3 : t_law_levels_3 (callF tbl k) [some (.str lt), some (.int m), some (.lst true ds), some (.int (i + 1 : Nat)), none, z5, z6, z7, none] = .nx [some (.str lt), some (.int m), some (.lst true ds), some (.int (i + 1 : Nat)), some (.lst true []), z5, z6, z7, none] := rfl
      have hle : ds2.length < 16777216 := by
        have := congrArg List.length hds2
        rw [frs_len] at this
        simp [LF1, hlen] at this
        omega
      have s8 : t_law_levels_8 (callF tbl k) [some (.str lt), some (.int m), some (.lst true ds2), some (.int (i + 1 : Nat)), some (.lst true (wds (rowT lt (lvs lt i) (i + 1)))), a5, a6, a7, none] = .nx [some (.str lt), some (.int m), some (.lst true (ds2 ++ [.lst true (wds (rowT lt (lvs lt i) (i + 1)))])), some (.int (i + 1 : Nat)), none, a5, a6, a7, none] := by
        generalize D.lst true (wds (rowT lt (lvs lt i) (i + 1))) = R at *
        simp [t_law_levels_8, dExp, dAppend, isLst, dMove, fz, hle]
      refine ⟨_, sName_ok (by simp), _, .inl ((seq_nx s3).trans ((seq_nx e4).trans s8)), ds2 ++ [.lst true (wds (rowT lt (lvs lt i) (i + 1)))], _, a5, a6, a7, ?_, rfl⟩
      have : ∀ (a b : List D), frs (a ++ b) = frs a ++ frs b := fun a b => by rw [frs_map, frs_map, frs_map, List.map_append]
      rw [this, hds2]
      show LF1 (lvs lt i) ++ [fr (.lst true (wds (rowT lt (lvs lt i) (i + 1))))] = _
      rw [fr_wds]
      simp [lvs, LF1]) ⟨LT1 (lvs lt 0), none, none, none, none, frs_LT1 _, rfl⟩
  rw [rng_len] at hds
  have h := itR2_nat 1 (m + 1) (by omega) (by omega)
  rw [show m + 1 - 1 = m by omega] at h
  have s2 : t_law_levels_2 (callF tbl k) [some (.str lt), some (.int m), some (.lst true (LT1 (lvs lt 0))), none, none, none, none, none, none] = .nx [some (.str lt), some (.int m), some (.lst true ds), z3, none, z5, z6, z7, none] := (st_for (puA_cons (pu_c (d := .int 1)) (puA_cons (pu_op2 (g := gAdd) (pu_var (i := 1) (d := .int m) rfl rfl) (pu_c (d := .int 1)) (d := .int ((m + 1 : Nat) : Int)) (by simp [gAdd, gAddI])) puA_nil)) h).trans hl1
  refine ⟨ds, hds, (c_ll k _).trans ?_⟩
  have e : den_law_levels (callF tbl k) [some (.str lt), some (.int m), none, none, none, none, none, none, none] = .rt (.lst true ds) [some (.str lt), some (.int m), none, z3, none, z5, z6, z7, none] := by
    unfold den_law_levels
    exact (seq_nx (a := t_law_levels_1 _) rfl).trans ((seq_nx s2).trans rfl)
  exact run_rt (b := den_law_levels) rfl rfl rfl e rfl
theorem gAdd_wds (v w : Bool) (a b : List (List Nat)) (h : a.length + b.length ≤ 1000000) : gAdd (.lst v (wds a)) (.lst w (wds b)) = some (.lst true (wds (a ++ b))) := by
  have : (wds a).length + (wds b).length ≤ 16777216 := by rw [wds_len, wds_len]; omega
  simp only [gAdd, gAddI, gAddL, if_pos this, Option.none_or, Option.some_or, frs_wds, wds_app]
theorem ltr_ok (k : Nat) {lt : List Nat} (m : Nat) (hb : base lt.length (m + 1) ≤ 5000) (hm9 : m ≤ 20) : callF tbl (k + 2) 19 [.str lt, .int m] = .ok (.lst true (wds (lvs lt m).flatten)) [] := by
  refine (c_lt2 (k + 1) _).trans ?_
  obtain ⟨ds, hds, ell⟩ := ll_ok k (lt := lt) m hb hm9
  have hfl := lvs_flat_len lt m
  have call := ev_call (ρ := [some (.str lt), some (.int m), some (.lst true []), none]) (g := callF tbl (k + 1) 18) (evA_cons (pe_var (i := 0) (d := .str lt) rfl rfl).ev (evA_cons (pe_var (i := 1) (d := .int m) rfl rfl).ev evA_nil)) ell
  generalize hv : lvs lt m = v at *
  have hpre : ∀ i, i ≤ v.length → (v.take i).flatten.length ≤ 5000 := fun i hi => by
    have h1 : v.flatten.length = (v.take i).flatten.length + (v.drop i).flatten.length := by
      rw [← List.length_append, ← List.flatten_append, List.take_append_drop]
    omega
  obtain ⟨ρ', hl1, z, rfl⟩ := loop_inv (g := sName [] 3) (body := b_law_trees_2 (callF tbl (k + 1))) (items := LF1 v) (ρ := [some (.str lt), some (.int m), some (.lst true []), none])
    (fun i ρ => ∃ z, ρ = [some (.str lt), some (.int m), some (.lst true (wds (v.take i).flatten)), z]) (fun i d ρ hi hI => by
      obtain ⟨z, rfl⟩ := hI
      rw [LF1, List.getElem?_map] at hi
      obtain ⟨r, hr, rfl⟩ := Option.map_eq_some_iff.mp hi
      have hil : i < v.length := (List.getElem?_eq_some_iff.mp hr).1
      have hp := hpre (i + 1) (by omega)
      rw [List.take_add_one, hr, Option.toList_some, List.flatten_append, List.length_append, List.flatten_cons, List.flatten_nil, List.append_nil] at hp
      have hf : fz1 2 [some (.str lt), some (.int m), some (.lst true (wds (v.take i).flatten)), some (.lst false (wds r))] = [some (.str lt), some (.int m), some (.lst false (wds (v.take i).flatten)), some (.lst false (wds r))] := by simp [fz1, fr, frs_wds]
      have hcl : clean (.lst true (wds ((v.take i).flatten ++ r))) = true := cleans_wds _
      have st : b_law_trees_2 (callF tbl (k + 1)) [some (.str lt), some (.int m), some (.lst true (wds (v.take i).flatten)), some (.lst false (wds r))] = .nx [some (.str lt), some (.int m), some (.lst true (wds ((v.take i).flatten ++ r))), some (.lst false (wds r))] := by
        show t_law_trees_3 _ _ = _
        unfold t_law_trees_3
        exact sev_asgOwn (i := 2) (f := gAdd) (d0 := .lst true (wds (v.take i).flatten)) (ρ2 := [some (.str lt), some (.int m), some (.lst false (wds (v.take i).flatten)), some (.lst false (wds r))]) rfl (by rw [hf]; exact (pu_var (i := 3) rfl (fr_wds _ _)).ev) (by rw [fr_wds]; exact gAdd_wds _ _ _ r (by omega)) hcl (by simp)
      refine ⟨_, sName_ok (by simp), _, .inl st, some (.lst false (wds r)), ?_⟩
      rw [List.take_add_one, hr, Option.toList_some, List.flatten_append, List.flatten_cons, List.flatten_nil, List.append_nil]) ⟨none, rfl⟩
  have hLl : (LF1 v).length = v.length := by simp [LF1]
  rw [hLl, List.take_length] at hl1
  have s2 : t_law_trees_2 (callF tbl (k + 1)) [some (.str lt), some (.int m), some (.lst true []), none] = .nx [some (.str lt), some (.int m), some (.lst true (wds v.flatten)), z] := (sev_for (evA_cons call evA_nil) (f := itL) (items := LF1 v) (hold := [.lst false (LF1 v)]) (by show some (frs ds, [D.lst false (frs ds)]) = _; rw [hds])).trans hl1
  have e : den_law_trees (callF tbl (k + 1)) [some (.str lt), some (.int m), none, none] = .rt (.lst true (wds v.flatten)) [some (.str lt), some (.int m), none, z] := by
    unfold den_law_trees
    exact (seq_nx (a := t_law_trees_1 _) rfl).trans ((seq_nx s2).trans rfl)
  exact run_rt (b := den_law_trees) rfl rfl rfl e rfl
end TB
end
section
set_option Elab.async false
set_option linter.all false
set_option maxRecDepth 100000
set_option maxHeartbeats 4000000
namespace TB
open PySem PySem.Spec L2
/-- plain data, nested at most so deep -/
inductive Sm : Nat → D → Prop
  | non (k : Nat) : Sm k .non
  | bl (k : Nat) (b : Bool) : Sm k (.bl b)
  | int (k : Nat) (i : Int) : Sm k (.int i)
  | str (k : Nat) (x : List Nat) : Sm k (.str x)
  | lst {k : Nat} {w : Bool} {xs : List D} (hl : xs.length ≤ 100000000) (h : ∀ x ∈ xs, Sm k x) : Sm (k + 1) (.lst w xs)
  | tup {k : Nat} {xs : List D} (hl : xs.length ≤ 100000000) (h : ∀ x ∈ xs, Sm k x) : Sm (k + 1) (.tup xs)
theorem c_same (k : Nat) (ds : List D) : callF tbl (k + 1) 11 ds = runF fn_law_same (callF tbl k) ds := rfl
theorem fr_idem_frs (xs : List D) : frs (frs xs) = frs xs := frs_frs xs
theorem same_pre (cf : CF) (A : D) (xs : List D) (hA : A = .lst false (frs xs) ∨ A = .tup (frs xs)) (z : Option D) : dSeq (t_law_same_1 cf) (dSeq (t_law_same_3 cf) (dSeq (t_law_same_5 cf) (dSeq (t_law_same_7 cf) (dSeq (t_law_same_9 cf) (dSeq (t_law_same_11 cf) (t_law_same_14 cf)))))) [some A, some A, z] = dSeq (t_law_same_11 cf) (t_law_same_14 cf) [some A, some A, z] := by
  have hfr : fr A = A := by rcases hA with rfl | rfl <;> simp [fr, frs_frs]
  have p0 : Pu (dVar 0) [some A, some A, z] A := pu_var rfl hfr
  have p1 : Pu (dVar 1) [some A, some A, z] A := pu_var rfl hfr
  have hs : ∀ t : Ty, ∃ b, gIsi t A = some (.bl b) := fun t => by rcases hA with rfl | rfl <;> cases t <;> exact ⟨_, rfl⟩
  have n1 : gIsi .bool A = some (.bl false) := by rcases hA with rfl | rfl <;> rfl
  have n2 : gIsi .int A = some (.bl false) := by rcases hA with rfl | rfl <;> rfl
  have n3 : gIsi .str A = some (.bl false) := by rcases hA with rfl | rfl <;> rfl
  have n4 : isNon A = false := by rcases hA with rfl | rfl <;> rfl
  obtain ⟨bl, hl⟩ := hs .list
  obtain ⟨bt, ht⟩ := hs .tuple
  have q : ∀ b : Bool, gNe (.bl b) (.bl b) = some (.bl false) := fun b => by cases b <;> rfl
  have s1 : t_law_same_1 cf [some A, some A, z] = .nx [some A, some A, z] := st_if_f (pu_or_f (pu_op1 p1 n1) (pu_op1 p0 n1))
  have s3 : t_law_same_3 cf [some A, some A, z] = .nx [some A, some A, z] := st_if_f (pu_or_f (pu_op1 (d := .bl false) p1 (by simp [n4])) (pu_op1 p1 n2))
  have s5 : t_law_same_5 cf [some A, some A, z] = .nx [some A, some A, z] := st_if_f (pu_op1 p1 n3)
  have s7 : t_law_same_7 cf [some A, some A, z] = .nx [some A, some A, z] := st_if_f (pu_or_f (pu_op2 (pu_op1 p1 hl) (pu_op1 p0 hl) (q _)) (pu_op2 (pu_op1 p1 ht) (pu_op1 p0 ht) (q _)))
  have hlen : gLen A = some (.int xs.length) := by rcases hA with rfl | rfl <;> simp [gLen, frs_len]
  have s9 : t_law_same_9 cf [some A, some A, z] = .nx [some A, some A, z] := st_if_f (pu_op2 (pu_op1 p0 hlen) (pu_op1 p1 hlen) (by simp [gNe, gEqS]))
  rw [seq_nx s1, seq_nx s3, seq_nx s5, seq_nx s7, seq_nx s9]
theorem same_seq (cf : CF) (A : D) (xs : List D) (hA : A = .lst false (frs xs) ∨ A = .tup (frs xs)) (hl : xs.length ≤ 100000000) (h : ∀ x ∈ xs, cf 11 [fr x, fr x] = .ok (.bl true) []) : runF fn_law_same cf [A, A] = .ok (.bl true) [] := by
  have hfr : fr A = A := by rcases hA with rfl | rfl <;> simp [fr, frs_frs]
  have hlen : gLen A = some (.int xs.length) := by rcases hA with rfl | rfl <;> simp [gLen, frs_len]
  have hloop : ∃ z, t_law_same_11 cf [some A, some A, none] = .nx [some A, some A, z] := by
    obtain ⟨ρ', h1, h2⟩ := loop_inv (g := sName [] 2) (body := b_law_same_11 cf) (items := rng 0 xs.length) (ρ := [some A, some A, none]) (fun i ρ => ∃ z, ρ = [some A, some A, z]) (fun i d ρ hi hI => by
      obtain ⟨hd, hl⟩ := rng_get hi
      obtain ⟨z, rfl⟩ := hI
      subst hd
      refine ⟨_, sName_ok (by simp), [some A, some A, some (.int (0 + i))], Or.inl ?_, _, rfl⟩
      have hx := h xs[i] (List.getElem_mem _)
      have p0 : Pu (dVar 0) [some A, some A, some (.int (0 + i))] A := pu_var rfl hfr
      have p1 : Pu (dVar 1) [some A, some A, some (.int (0 + i))] A := pu_var rfl hfr
      have p2 : Pu (dVar 2) [some A, some A, some (.int (0 + i))] (.int (0 + i)) := pu_var rfl rfl
      have e : gIx A (.int (0 + i)) = some (fr xs[i]) := by
        have e : (atI (frs xs) (0 + i)).map fr = some (fr xs[i]) := by rw [Int.zero_add, atI_i, frs_map, List.getElem?_map, List.getElem?_eq_getElem hl]; simp [fr_fr]
        rcases hA with rfl | rfl <;> exact e
      exact st_if_f (pu_not (x := true) (pu_call (puA_cons (pu_op2 p0 p2 e) (puA_cons (pu_op2 p1 p2 e) puA_nil)) (by simpa [frs, fr_fr] using hx)))) ⟨none, rfl⟩
    obtain ⟨z, rfl⟩ := h2
    exact ⟨z, (st_for (puA_cons (pu_op1 (pu_var rfl hfr) hlen) puA_nil) (itR1_nat _ hl)).trans h1⟩
  obtain ⟨z, hloop⟩ := hloop
  have e : den_law_same cf [some A, some A, none] = .rt (.bl true) [some A, some A, z] := by
    refine (same_pre cf A xs hA none).trans ?_
    rw [seq_nx hloop]
    rfl
  simp [runF, fn_law_same, startF, e, endF, outsOf]
theorem same_ok : ∀ {j : Nat} {d : D}, Sm j d → ∀ k, j ≤ k → callF tbl (k + 1) 11 [fr d, fr d] = .ok (.bl true) [] := by
  intro j d h
  induction h with
  | non j => intro k _; exact (c_same k _).trans rfl
  | bl j b => intro k _; cases b <;> exact (c_same k _).trans rfl
  | int j i => intro k _; refine (c_same k _).trans ?_; simp [t_law_same_2, t_law_same_1, t_law_same_4, t_law_same_3, t_law_same_6, t_law_same_5, t_law_same_8, t_law_same_7, t_law_same_10, t_law_same_9, t_law_same_13, t_law_same_12, b_law_same_11, t_law_same_11, t_law_same_14, den_law_same, fn_law_same, runF, endF, startF, outsOf, dSeq, dIfS, dOp, opR, dDisp, opRM, dCons, dNil, dIo, vals, splitIo, dVar, dMove, dC, dRet, dExp, dSkip, dAsg, sName, sTup, sNil, sCons, one, two, gLen, gEq, gNe, gEqS, gMod, gDiv, gSub, gAdd, gAddI, gAddL, gMul, gMulI, gPow, gAbs, gIx, gLt, gLe, gGt, gGe, gCmp, gIsi, isTy, isNon, gList, opLst, opTup, dPop, dAppend, dReverse, dSetIx, dIf, dAnd, dOr, dNot, andP, isLst, dCall0, dCallIo, dFor, dIt, itR, itL, itS, itR1, itR2, itRev, itRR1, opSl, lod, gSl, clean, cleans, imm, imms, fr, fz, fz1, frs, frs_len, bdec, fr_fr]
  | str j x => intro k _; refine (c_same k _).trans ?_; simp [t_law_same_2, t_law_same_1, t_law_same_4, t_law_same_3, t_law_same_6, t_law_same_5, t_law_same_8, t_law_same_7, t_law_same_10, t_law_same_9, t_law_same_13, t_law_same_12, b_law_same_11, t_law_same_11, t_law_same_14, den_law_same, fn_law_same, runF, endF, startF, outsOf, dSeq, dIfS, dOp, opR, dDisp, opRM, dCons, dNil, dIo, vals, splitIo, dVar, dMove, dC, dRet, dExp, dSkip, dAsg, sName, sTup, sNil, sCons, one, two, gLen, gEq, gNe, gEqS, gMod, gDiv, gSub, gAdd, gAddI, gAddL, gMul, gMulI, gPow, gAbs, gIx, gLt, gLe, gGt, gGe, gCmp, gIsi, isTy, isNon, gList, opLst, opTup, dPop, dAppend, dReverse, dSetIx, dIf, dAnd, dOr, dNot, andP, isLst, dCall0, dCallIo, dFor, dIt, itR, itL, itS, itR1, itR2, itRev, itRR1, opSl, lod, gSl, clean, cleans, imm, imms, fr, fz, fz1, frs, frs_len, bdec, fr_fr]
  | @lst j w xs hl h ih =>
    intro k hk
    obtain ⟨k, rfl⟩ : ∃ k', k = k' + 1 := ⟨k - 1, by omega⟩
    refine (c_same _ _).trans (same_seq _ _ xs (.inl rfl) hl fun x m => ih x m k (by omega))
  | @tup j xs hl h ih =>
    intro k hk
    obtain ⟨k, rfl⟩ : ∃ k', k = k' + 1 := ⟨k - 1, by omega⟩
    refine (c_same _ _).trans (same_seq _ _ xs (.inr rfl) hl fun x m => ih x m k (by omega))
theorem sm_strs (xs : List (List Nat)) (h : xs.length ≤ 100000000) : Sm 1 (.lst true (xs.map D.str)) := .lst (by simpa using h) fun x m => by
  obtain ⟨y, _, rfl⟩ := List.mem_map.mp m
  exact .str 0 y
end TB
end
section
set_option Elab.async false
set_option linter.all false
set_option maxRecDepth 100000
set_option maxHeartbeats 4000000
namespace TB
open PySem PySem.Spec L2
/-- from the end of the list of picks -/
def pk (ps : List Int) (m : Int) : Int := match ps.getLast? with
  | some n => n % m
  | none => 0
theorem pk_lo {ps : List Int} {m : Int} (hm : 0 < m) : 0 ≤ pk ps m := by
  unfold pk
  split
  · exact Int.emod_nonneg _ (by omega)
  · exact Int.le_refl _
theorem pk_hi {ps : List Int} {m : Int} (hm : 0 < m) : pk ps m < m := by
  unfold pk
  split
  · exact Int.emod_lt_of_pos _ hm
  · exact hm
abbrev PK (ps : List Int) : D := .lst true (ps.map D.int)
theorem pick_ok (cf : CF) (ps : List Int) {m : Int} (hm : 0 < m) : runF fn_law_pick cf [PK ps, .int m] = .ok (.int (pk ps m)) [PK ps.dropLast] := by
  rcases List.eq_nil_or_concat ps with rfl | ⟨l, n, rfl⟩
  · rfl
  · have h0 : ¬ ((l.length : Int) + 1 = 0) := by omega
    simp [t_law_pick_2, t_law_pick_1, t_law_pick_3, den_law_pick, fn_law_pick, runF, endF, startF, outsOf, dSeq, dIfS, dOp, opR, dDisp, opRM, dCons, dNil, dIo, vals, splitIo, dVar, dMove, dC, dRet, dExp, dSkip, dAsg, sName, sTup, sNil, sCons, one, two, gLen, gEq, gNe, gEqS, gMod, gDiv, gSub, gAdd, gAddI, gAddL, gMul, gMulI, gPow, gAbs, gIx, gLt, gLe, gGt, gGe, gCmp, gIsi, isTy, isNon, gList, opLst, opTup, dPop, dAppend, dReverse, dSetIx, dIf, dAnd, dOr, dNot, andP, isLst, dCall0, dCallIo, dFor, dIt, itR, itL, itS, itR1, itR2, itRev, itRR1, opSl, lod, gSl, clean, cleans, imm, imms, fr, fz, fz1, frs, frs_len, bdec, fr_fr, hm, h0, pk]
theorem c_pick (k : Nat) (ds : List D) : callF tbl (k + 1) 13 ds = runF fn_law_pick (callF tbl k) ds := rfl
/-- one of a list, given frozen -/
theorem one_lst (k : Nat) (ps : List Int) (w : Bool) (xs : List D) (hx : xs ≠ []) : ∃ d ∈ xs, callF tbl (k + 2) 14 [PK ps, .lst w xs] = .ok (fr d) [PK ps.dropLast] := by
  have hl : 0 < (xs.length : Int) := by have := List.length_pos_iff.mpr hx; omega
  obtain ⟨x, e, m⟩ := atI_mem xs (pk_lo (ps := ps) hl) (pk_hi (ps := ps) hl)
  refine ⟨x, m, ?_⟩
  show runF fn_law_one (callF tbl (k + 1)) _ = _
  have h1 := c_pick k [PK ps, .int xs.length]
  rw [pick_ok _ ps hl] at h1
  simp [t_law_one_1, den_law_one, fn_law_one, runF, endF, startF, outsOf, dSeq, dIfS, dOp, opR, dDisp, opRM, dCons, dNil, dIo, vals, splitIo, dVar, dMove, dC, dRet, dExp, dSkip, dAsg, sName, sTup, sNil, sCons, one, two, gLen, gEq, gNe, gEqS, gMod, gDiv, gSub, gAdd, gAddI, gAddL, gMul, gMulI, gPow, gAbs, gIx, gLt, gLe, gGt, gGe, gCmp, gIsi, isTy, isNon, gList, opLst, opTup, dPop, dAppend, dReverse, dSetIx, dIf, dAnd, dOr, dNot, andP, isLst, dCall0, dCallIo, dFor, dIt, itR, itL, itS, itR1, itR2, itRev, itRR1, opSl, lod, gSl, clean, cleans, imm, imms, fr, fz, fz1, frs, frs_len, bdec, fr_fr, h1, atI_frs, e]
/-- one sign of a text -/
theorem one_str (k : Nat) (ps : List Int) (x : List Nat) (hx : x ≠ []) (hz : x.length ≤ 16777216) : ∃ c ∈ x, callF tbl (k + 2) 14 [PK ps, .str x] = .ok (.str [c]) [PK ps.dropLast] := by
  have hl : 0 < (x.length : Int) := by have := List.length_pos_iff.mpr hx; omega
  obtain ⟨c, e, m⟩ := atI_mem x (pk_lo (ps := ps) hl) (pk_hi (ps := ps) hl)
  refine ⟨c, m, ?_⟩
  show runF fn_law_one (callF tbl (k + 1)) _ = _
  have h1 := c_pick k [PK ps, .int x.length]
  rw [pick_ok _ ps hl] at h1
  simp [t_law_one_1, den_law_one, fn_law_one, runF, endF, startF, outsOf, dSeq, dIfS, dOp, opR, dDisp, opRM, dCons, dNil, dIo, vals, splitIo, dVar, dMove, dC, dRet, dExp, dSkip, dAsg, sName, sTup, sNil, sCons, one, two, gLen, gEq, gNe, gEqS, gMod, gDiv, gSub, gAdd, gAddI, gAddL, gMul, gMulI, gPow, gAbs, gIx, gLt, gLe, gGt, gGe, gCmp, gIsi, isTy, isNon, gList, opLst, opTup, dPop, dAppend, dReverse, dSetIx, dIf, dAnd, dOr, dNot, andP, isLst, dCall0, dCallIo, dFor, dIt, itR, itL, itS, itR1, itR2, itRev, itRR1, opSl, lod, gSl, clean, cleans, imm, imms, fr, fz, fz1, frs, frs_len, bdec, fr_fr, h1, hz, e]
theorem c_picks (k : Nat) (ds : List D) : callF tbl (k + 1) 12 ds = runF fn_law_picks (callF tbl k) ds := rfl
theorem picks_loopA (cf : CF) (S : Option D) (J M c : Int) (at0 : Option D) (b : Option D) (e : Option D) (m : Nat) (hm : m ≤ 10000) : ∃ (c' : Int) (at1 : Option D) (l : List Int), l.length = m ∧ loopF (sName [] 5) (b_law_picks_5 cf) (rng 0 m) [S, some (.int J), some (.int M), some (.int c), some (PK []), at0, b, e] = .nx [S, some (.int J), some (.int M), some (.int c'), some (PK l), at1, b, e] := by
  obtain ⟨ρ', h1, h2⟩ := loop_inv (g := sName [] 5) (body := b_law_picks_5 cf) (items := rng 0 m) (ρ := [S, some (.int J), some (.int M), some (.int c), some (PK []), at0, b, e]) (fun i ρ => i ≤ m ∧ ∃ (c' : Int) (at1 : Option D) (l : List Int), l.length = i ∧ ρ = [S, some (.int J), some (.int M), some (.int c'), some (PK l), at1, b, e]) (fun i d ρ hi hI => by
    obtain ⟨hd, hl⟩ := rng_get hi
    obtain ⟨_, c', at1, l, hlen, rfl⟩ := hI
    subst hd
    refine ⟨_, sName_ok (by simp), ?_⟩
    have h0 : l.length < 16777216 := by omega
    refine ⟨[S, some (.int J), some (.int M), some (.int (c' / 9240)), some (PK (l ++ [c' % 9240])), some (.int (0 + i)), b, e], Or.inl ?_, by omega, _, _, _, by simp [hlen], rfl⟩
    simp [b_law_picks_5, t_law_picks_6, t_law_picks_7, runF, endF, startF, outsOf, dSeq, dIfS, dOp, opR, dDisp, opRM, dCons, dNil, dIo, vals, splitIo, dVar, dMove, dC, dRet, dExp, dSkip, dAsg, sName, sTup, sNil, sCons, one, two, gLen, gEq, gNe, gEqS, gMod, gDiv, gSub, gAdd, gAddI, gAddL, gMul, gMulI, gPow, gAbs, gIx, gLt, gLe, gGt, gGe, gCmp, gIsi, isTy, isNon, gList, opLst, opTup, dPop, dAppend, dReverse, dSetIx, dIf, dAnd, dOr, dNot, andP, isLst, dCall0, dCallIo, dFor, dIt, itR, itL, itS, itR1, itR2, itRev, itRR1, opSl, lod, gSl, clean, cleans, imm, imms, fr, fz, fz1, frs, frs_len, bdec, fr_fr, h0]) ⟨Nat.zero_le _, c, at0, [], rfl, rfl⟩
  obtain ⟨_, c', at1, l, hlen, rfl⟩ := h2
  rw [rng_len] at hlen
  exact ⟨c', at1, l, hlen, h1⟩
theorem picks_loopB (cf : CF) (S : Option D) (J M c st : Int) (at0 b : Option D) (m : Nat) (hm : m ≤ 10000) : ∃ (st' : Int) (at1 b' : Option D) (l : List Int), l.length = m ∧ loopF (sName [] 5) (b_law_picks_10 cf) (rng 0 m) [S, some (.int J), some (.int M), some (.int c), some (PK []), at0, some (.int st), b] = .nx [S, some (.int J), some (.int M), some (.int c), some (PK l), at1, some (.int st'), b'] := by
  obtain ⟨ρ', h1, h2⟩ := loop_inv (g := sName [] 5) (body := b_law_picks_10 cf) (items := rng 0 m) (ρ := [S, some (.int J), some (.int M), some (.int c), some (PK []), at0, some (.int st), b]) (fun i ρ => i ≤ m ∧ ∃ (st' : Int) (at1 b' : Option D) (l : List Int), l.length = i ∧ ρ = [S, some (.int J), some (.int M), some (.int c), some (PK l), at1, some (.int st'), b']) (fun i d ρ hi hI => by
    obtain ⟨hd, hl⟩ := rng_get hi
    obtain ⟨_, st', at1, b', l, hlen, rfl⟩ := hI
    subst hd
    refine ⟨_, sName_ok (by simp), ?_⟩
    have h0 : l.length < 16777216 := by omega
    refine ⟨[S, some (.int J), some (.int M), some (.int c), some (PK (l ++ [(((st' * 1588635695 + 40503 * i + 11) % 4294967291) / 4096 + ((st' * 1588635695 + 40503 * i + 11) % 4294967291) * 31 + i) % 4294967279 / 16 % 9240])), some (.int i), some (.int ((st' * 1588635695 + 40503 * i + 11) % 4294967291)), some (.int ((((st' * 1588635695 + 40503 * i + 11) % 4294967291) / 4096 + ((st' * 1588635695 + 40503 * i + 11) % 4294967291) * 31 + i) % 4294967279))], Or.inl ?_, by omega, _, _, _, _, by simp [hlen], rfl⟩
    simp [t_law_picks_1, t_law_picks_2, t_law_picks_4, t_law_picks_6, t_law_picks_7, b_law_picks_5, t_law_picks_5, t_law_picks_9, t_law_picks_11, t_law_picks_12, t_law_picks_13, b_law_picks_10, t_law_picks_10, t_law_picks_3, t_law_picks_14, t_law_picks_15, den_law_picks, fn_law_picks, runF, endF, startF, outsOf, dSeq, dIfS, dOp, opR, dDisp, opRM, dCons, dNil, dIo, vals, splitIo, dVar, dMove, dC, dRet, dExp, dSkip, dAsg, sName, sTup, sNil, sCons, one, two, gLen, gEq, gNe, gEqS, gMod, gDiv, gSub, gAdd, gAddI, gAddL, gMul, gMulI, gPow, gAbs, gIx, gLt, gLe, gGt, gGe, gCmp, gIsi, isTy, isNon, gList, opLst, opTup, dPop, dAppend, dReverse, dSetIx, dIf, dAnd, dOr, dNot, andP, isLst, dCall0, dCallIo, dFor, dIt, itR, itL, itS, itR1, itR2, itRev, itRR1, opSl, lod, gSl, clean, cleans, imm, imms, fr, fz, fz1, frs, frs_len, bdec, fr_fr, h0, CMulB]) ⟨Nat.zero_le _, st, at0, b, [], rfl, rfl⟩
  obtain ⟨_, st', at1, b', l, hlen, rfl⟩ := h2
  rw [rng_len] at hlen
  exact ⟨st', at1, b', l, hlen, h1⟩
theorem picks_ok (cf : CF) (ns : List Int) (j m : Int) (hj : 0 ≤ j) (hj2 : j < 100) (hm : 0 ≤ m) (hm2 : m ≤ 10000) : ∃ ps : List Int, ps.length = m.toNat ∧ runF fn_law_picks cf [.lk (ns.map D.int), .int j, .int m] = .ok (PK ps) [] := by
  have e1 : ∃ c : Int, t_law_picks_1 cf [some (.lk (ns.map D.int)), some (.int j), some (.int m), none, none, none, none, none] = .nx [some (.lk (ns.map D.int)), some (.int j), some (.int m), some (.int c), none, none, none, none] := by
    by_cases h : j < ns.length
    · obtain ⟨x, ex, _⟩ := atI_mem (ns.map D.int) hj (by simpa using h)
      have hx : ∃ n, x = .int n := by
        rw [atI_nat _ hj] at ex
        rw [List.getElem?_map] at ex
        cases e : ns[j.toNat]? with
        | none => rw [e] at ex; cases ex
        | some n => rw [e] at ex; exact ⟨n, (Option.some.inj ex).symm⟩
      obtain ⟨n, rfl⟩ := hx
      exact ⟨_, by simp [t_law_picks_1, t_law_picks_2, t_law_picks_4, t_law_picks_6, t_law_picks_7, b_law_picks_5, t_law_picks_5, t_law_picks_9, t_law_picks_11, t_law_picks_12, t_law_picks_13, b_law_picks_10, t_law_picks_10, t_law_picks_3, t_law_picks_14, t_law_picks_15, den_law_picks, fn_law_picks, runF, endF, startF, outsOf, dSeq, dIfS, dOp, opR, dDisp, opRM, dCons, dNil, dIo, vals, splitIo, dVar, dMove, dC, dRet, dExp, dSkip, dAsg, sName, sTup, sNil, sCons, one, two, gLen, gEq, gNe, gEqS, gMod, gDiv, gSub, gAdd, gAddI, gAddL, gMul, gMulI, gPow, gAbs, gIx, gLt, gLe, gGt, gGe, gCmp, gIsi, isTy, isNon, gList, opLst, opTup, dPop, dAppend, dReverse, dSetIx, dIf, dAnd, dOr, dNot, andP, isLst, dCall0, dCallIo, dFor, dIt, itR, itL, itS, itR1, itR2, itRev, itRR1, opSl, lod, gSl, clean, cleans, imm, imms, fr, fz, fz1, frs, frs_len, bdec, fr_fr, frs_ints, imms_ints, h, ex]; rfl⟩
    · exact ⟨_, by simp [t_law_picks_1, t_law_picks_2, t_law_picks_4, t_law_picks_6, t_law_picks_7, b_law_picks_5, t_law_picks_5, t_law_picks_9, t_law_picks_11, t_law_picks_12, t_law_picks_13, b_law_picks_10, t_law_picks_10, t_law_picks_3, t_law_picks_14, t_law_picks_15, den_law_picks, fn_law_picks, runF, endF, startF, outsOf, dSeq, dIfS, dOp, opR, dDisp, opRM, dCons, dNil, dIo, vals, splitIo, dVar, dMove, dC, dRet, dExp, dSkip, dAsg, sName, sTup, sNil, sCons, one, two, gLen, gEq, gNe, gEqS, gMod, gDiv, gSub, gAdd, gAddI, gAddL, gMul, gMulI, gPow, gAbs, gIx, gLt, gLe, gGt, gGe, gCmp, gIsi, isTy, isNon, gList, opLst, opTup, dPop, dAppend, dReverse, dSetIx, dIf, dAnd, dOr, dNot, andP, isLst, dCall0, dCallIo, dFor, dIt, itR, itL, itS, itR1, itR2, itRev, itRR1, opSl, lod, gSl, clean, cleans, imm, imms, fr, fz, fz1, frs, frs_len, bdec, fr_fr, frs_ints, imms_ints, h, gSum, ints_ints, CMulB]; rfl⟩
  obtain ⟨c, e1⟩ := e1
  have e3 : ∃ (l : List Int) (c' : Int) (a b e : Option D), l.length = m.toNat ∧ t_law_picks_3 cf [some (.lk (ns.map D.int)), some (.int j), some (.int m), some (.int c), some (PK []), none, none, none] = .nx [some (.lk (ns.map D.int)), some (.int j), some (.int m), some (.int c'), some (PK l), a, b, e] := by
    have hb : -4611686018427387904 ≤ m ∧ m < 4611686018427387904 := by omega
    by_cases h : 1000000000000000000 ≤ c
    · obtain ⟨c', a, l, hlen, e⟩ := picks_loopA cf (some (.lk (ns.map D.int))) j m (c - 1000000000000000000) none none none m.toNat (by omega)
      refine ⟨l, c', a, none, none, hlen, ?_⟩
      simp [t_law_picks_3, t_law_picks_4, t_law_picks_5, runF, endF, startF, outsOf, dSeq, dIfS, dOp, opR, dDisp, opRM, dCons, dNil, dIo, vals, splitIo, dVar, dMove, dC, dRet, dExp, dSkip, dAsg, sName, sTup, sNil, sCons, one, two, gLen, gEq, gNe, gEqS, gMod, gDiv, gSub, gAdd, gAddI, gAddL, gMul, gMulI, gPow, gAbs, gIx, gLt, gLe, gGt, gGe, gCmp, gIsi, isTy, isNon, gList, opLst, opTup, dPop, dAppend, dReverse, dSetIx, dIf, dAnd, dOr, dNot, andP, isLst, dCall0, dCallIo, dFor, dIt, itR, itL, itS, itR1, itR2, itRev, itRR1, opSl, lod, gSl, clean, cleans, imm, imms, fr, fz, fz1, frs, frs_len, bdec, fr_fr, h, hb, e]
    · obtain ⟨st, a, b, l, hlen, e⟩ := picks_loopB cf (some (.lk (ns.map D.int))) j m c ((c * 2 + 7 * j + 3) % 4294967291) none none m.toNat (by omega)
      refine ⟨l, c, a, some (.int st), b, hlen, ?_⟩
      simp [t_law_picks_3, t_law_picks_9, t_law_picks_10, runF, endF, startF, outsOf, dSeq, dIfS, dOp, opR, dDisp, opRM, dCons, dNil, dIo, vals, splitIo, dVar, dMove, dC, dRet, dExp, dSkip, dAsg, sName, sTup, sNil, sCons, one, two, gLen, gEq, gNe, gEqS, gMod, gDiv, gSub, gAdd, gAddI, gAddL, gMul, gMulI, gPow, gAbs, gIx, gLt, gLe, gGt, gGe, gCmp, gIsi, isTy, isNon, gList, opLst, opTup, dPop, dAppend, dReverse, dSetIx, dIf, dAnd, dOr, dNot, andP, isLst, dCall0, dCallIo, dFor, dIt, itR, itL, itS, itR1, itR2, itRev, itRR1, opSl, lod, gSl, clean, cleans, imm, imms, fr, fz, fz1, frs, frs_len, bdec, fr_fr, h, hb, CMulB, e]
  obtain ⟨l, c', a, b, e, hlen, e3⟩ := e3
  refine ⟨l.reverse, by simp [hlen], ?_⟩
  have e2 : t_law_picks_2 cf [some (.lk (ns.map D.int)), some (.int j), some (.int m), some (.int c), none, none, none, none] = .nx [some (.lk (ns.map D.int)), some (.int j), some (.int m), some (.int c), some (PK []), none, none, none] := by rfl
  have e4 : den_law_picks cf [some (.lk (ns.map D.int)), some (.int j), some (.int m), none, none, none, none, none] = .rt (PK l.reverse) [some (.lk (ns.map D.int)), some (.int j), some (.int m), some (.int c'), none, a, b, e] := by
    unfold den_law_picks
    rw [seq_nx e1, seq_nx e2, seq_nx e3]
    simp [t_law_picks_1, t_law_picks_2, t_law_picks_4, t_law_picks_6, t_law_picks_7, b_law_picks_5, t_law_picks_5, t_law_picks_9, t_law_picks_11, t_law_picks_12, t_law_picks_13, b_law_picks_10, t_law_picks_10, t_law_picks_3, t_law_picks_14, t_law_picks_15, den_law_picks, fn_law_picks, runF, endF, startF, outsOf, dSeq, dIfS, dOp, opR, dDisp, opRM, dCons, dNil, dIo, vals, splitIo, dVar, dMove, dC, dRet, dExp, dSkip, dAsg, sName, sTup, sNil, sCons, one, two, gLen, gEq, gNe, gEqS, gMod, gDiv, gSub, gAdd, gAddI, gAddL, gMul, gMulI, gPow, gAbs, gIx, gLt, gLe, gGt, gGe, gCmp, gIsi, isTy, isNon, gList, opLst, opTup, dPop, dAppend, dReverse, dSetIx, dIf, dAnd, dOr, dNot, andP, isLst, dCall0, dCallIo, dFor, dIt, itR, itL, itS, itR1, itR2, itRev, itRR1, opSl, lod, gSl, clean, cleans, imm, imms, fr, fz, fz1, frs, frs_len, bdec, fr_fr]
  simp [runF, startF, fn_law_picks, e4, endF, outsOf]
end TB
end
section
set_option Elab.async false
set_option linter.all false
set_option maxRecDepth 100000
set_option maxHeartbeats 400000
namespace TB
open PySem PySem.Spec L2
/-! ### what is told -/
def baT (n : Int) : D := .tup [.str [98, 97, 100], .int n, .bl true]
def maT (n : Int) : D := .tup [.str [109, 97, 110, 121], .int n, .bl true]
abbrev kL : List Nat := [108, 105, 115, 116]
abbrev kN : List Nat := [110, 117, 109, 98, 101, 114]
abbrev kT : List Nat := [116, 114, 101, 101]
theorem c_to (k : Nat) (ds : List D) : callF tbl (k + 1) 23 ds = runF fn_law_told (callF tbl k) ds := rfl
theorem toL (cf : CF) (lt : List Nat) (M : Int) (d : D) (h : cf 5 [.str lt, .int M] = .ok d []) : runF fn_law_told cf [.str lt, .str kL, .int M] = .ok d [] := by
  simp [t_law_told_3, t_law_told_2, t_law_told_4, t_law_told_1, den_law_told, fn_law_told, runF, endF, startF, outsOf, dSeq, dIfS, dOp, opR, dDisp, opRM, dCons, dNil, dIo, vals, splitIo, dVar, dMove, dC, dRet, dExp, dSkip, dAsg, sName, sTup, sNil, sCons, one, two, gLen, gEq, gNe, gEqS, gMod, gDiv, gSub, gAdd, gAddI, gAddL, gMul, gMulI, gPow, gAbs, gIx, gLt, gLe, gGt, gGe, gCmp, gIsi, isTy, isNon, gList, opLst, opTup, dPop, dAppend, dReverse, dSetIx, dIf, dAnd, dOr, dNot, andP, isLst, dCall0, dCallIo, dFor, dIt, itR, itL, itS, itR1, itR2, itRev, itRR1, opSl, lod, gSl, clean, cleans, imm, imms, fr, fz, fz1, frs, frs_len, bdec, fr_fr, bstr, dTrys, dCls, h]
theorem toLb (cf : CF) (lt : List Nat) (M : Int) (i : Int) (h : cf 5 [.str lt, .int M] = .ex (bad i) []) : runF fn_law_told cf [.str lt, .str kL, .int M] = .ok (baT i) [] := by
  simp [t_law_told_3, t_law_told_2, t_law_told_4, t_law_told_1, den_law_told, fn_law_told, runF, endF, startF, outsOf, dSeq, dIfS, dOp, opR, dDisp, opRM, dCons, dNil, dIo, vals, splitIo, dVar, dMove, dC, dRet, dExp, dSkip, dAsg, sName, sTup, sNil, sCons, one, two, gLen, gEq, gNe, gEqS, gMod, gDiv, gSub, gAdd, gAddI, gAddL, gMul, gMulI, gPow, gAbs, gIx, gLt, gLe, gGt, gGe, gCmp, gIsi, isTy, isNon, gList, opLst, opTup, dPop, dAppend, dReverse, dSetIx, dIf, dAnd, dOr, dNot, andP, isLst, dCall0, dCallIo, dFor, dIt, itR, itL, itS, itR1, itR2, itRev, itRR1, opSl, lod, gSl, clean, cleans, imm, imms, fr, fz, fz1, frs, frs_len, bdec, fr_fr, bstr, dTrys, dCls, dXf, dXi, List.lookup, h, bad, baT]
theorem toLm (cf : CF) (lt : List Nat) (M : Int) (i : Int) (h : cf 5 [.str lt, .int M] = .ex (many i) []) : runF fn_law_told cf [.str lt, .str kL, .int M] = .ok (maT i) [] := by
  simp [t_law_told_3, t_law_told_2, t_law_told_4, t_law_told_1, den_law_told, fn_law_told, runF, endF, startF, outsOf, dSeq, dIfS, dOp, opR, dDisp, opRM, dCons, dNil, dIo, vals, splitIo, dVar, dMove, dC, dRet, dExp, dSkip, dAsg, sName, sTup, sNil, sCons, one, two, gLen, gEq, gNe, gEqS, gMod, gDiv, gSub, gAdd, gAddI, gAddL, gMul, gMulI, gPow, gAbs, gIx, gLt, gLe, gGt, gGe, gCmp, gIsi, isTy, isNon, gList, opLst, opTup, dPop, dAppend, dReverse, dSetIx, dIf, dAnd, dOr, dNot, andP, isLst, dCall0, dCallIo, dFor, dIt, itR, itL, itS, itR1, itR2, itRev, itRR1, opSl, lod, gSl, clean, cleans, imm, imms, fr, fz, fz1, frs, frs_len, bdec, fr_fr, bstr, dTrys, dCls, dXf, dXi, List.lookup, h, many, maT]
theorem toN (cf : CF) (lt x : List Nat) (d : D) (h : cf 9 [.str lt, .str x] = .ok d []) : runF fn_law_told cf [.str lt, .str kN, .str x] = .ok d [] := by
  simp [t_law_told_3, t_law_told_2, t_law_told_4, t_law_told_1, den_law_told, fn_law_told, runF, endF, startF, outsOf, dSeq, dIfS, dOp, opR, dDisp, opRM, dCons, dNil, dIo, vals, splitIo, dVar, dMove, dC, dRet, dExp, dSkip, dAsg, sName, sTup, sNil, sCons, one, two, gLen, gEq, gNe, gEqS, gMod, gDiv, gSub, gAdd, gAddI, gAddL, gMul, gMulI, gPow, gAbs, gIx, gLt, gLe, gGt, gGe, gCmp, gIsi, isTy, isNon, gList, opLst, opTup, dPop, dAppend, dReverse, dSetIx, dIf, dAnd, dOr, dNot, andP, isLst, dCall0, dCallIo, dFor, dIt, itR, itL, itS, itR1, itR2, itRev, itRR1, opSl, lod, gSl, clean, cleans, imm, imms, fr, fz, fz1, frs, frs_len, bdec, fr_fr, bstr, dTrys, dCls, h]
theorem toNm (cf : CF) (lt x : List Nat) (i : Int) (h : cf 9 [.str lt, .str x] = .ex (many i) []) : runF fn_law_told cf [.str lt, .str kN, .str x] = .ok (maT i) [] := by
  simp [t_law_told_3, t_law_told_2, t_law_told_4, t_law_told_1, den_law_told, fn_law_told, runF, endF, startF, outsOf, dSeq, dIfS, dOp, opR, dDisp, opRM, dCons, dNil, dIo, vals, splitIo, dVar, dMove, dC, dRet, dExp, dSkip, dAsg, sName, sTup, sNil, sCons, one, two, gLen, gEq, gNe, gEqS, gMod, gDiv, gSub, gAdd, gAddI, gAddL, gMul, gMulI, gPow, gAbs, gIx, gLt, gLe, gGt, gGe, gCmp, gIsi, isTy, isNon, gList, opLst, opTup, dPop, dAppend, dReverse, dSetIx, dIf, dAnd, dOr, dNot, andP, isLst, dCall0, dCallIo, dFor, dIt, itR, itL, itS, itR1, itR2, itRev, itRR1, opSl, lod, gSl, clean, cleans, imm, imms, fr, fz, fz1, frs, frs_len, bdec, fr_fr, bstr, dTrys, dCls, dXf, dXi, List.lookup, h, many, maT]
theorem toT (cf : CF) (lt : List Nat) (M : Int) (d : D) (h : cf 7 [.str lt, .int M] = .ok d []) : runF fn_law_told cf [.str lt, .str kT, .int M] = .ok d [] := by
  simp [t_law_told_3, t_law_told_2, t_law_told_4, t_law_told_1, den_law_told, fn_law_told, runF, endF, startF, outsOf, dSeq, dIfS, dOp, opR, dDisp, opRM, dCons, dNil, dIo, vals, splitIo, dVar, dMove, dC, dRet, dExp, dSkip, dAsg, sName, sTup, sNil, sCons, one, two, gLen, gEq, gNe, gEqS, gMod, gDiv, gSub, gAdd, gAddI, gAddL, gMul, gMulI, gPow, gAbs, gIx, gLt, gLe, gGt, gGe, gCmp, gIsi, isTy, isNon, gList, opLst, opTup, dPop, dAppend, dReverse, dSetIx, dIf, dAnd, dOr, dNot, andP, isLst, dCall0, dCallIo, dFor, dIt, itR, itL, itS, itR1, itR2, itRev, itRR1, opSl, lod, gSl, clean, cleans, imm, imms, fr, fz, fz1, frs, frs_len, bdec, fr_fr, bstr, dTrys, dCls, h]
theorem toTb (cf : CF) (lt : List Nat) (M : Int) (i : Int) (h : cf 7 [.str lt, .int M] = .ex (bad i) []) : runF fn_law_told cf [.str lt, .str kT, .int M] = .ok (baT i) [] := by
  simp [t_law_told_3, t_law_told_2, t_law_told_4, t_law_told_1, den_law_told, fn_law_told, runF, endF, startF, outsOf, dSeq, dIfS, dOp, opR, dDisp, opRM, dCons, dNil, dIo, vals, splitIo, dVar, dMove, dC, dRet, dExp, dSkip, dAsg, sName, sTup, sNil, sCons, one, two, gLen, gEq, gNe, gEqS, gMod, gDiv, gSub, gAdd, gAddI, gAddL, gMul, gMulI, gPow, gAbs, gIx, gLt, gLe, gGt, gGe, gCmp, gIsi, isTy, isNon, gList, opLst, opTup, dPop, dAppend, dReverse, dSetIx, dIf, dAnd, dOr, dNot, andP, isLst, dCall0, dCallIo, dFor, dIt, itR, itL, itS, itR1, itR2, itRev, itRR1, opSl, lod, gSl, clean, cleans, imm, imms, fr, fz, fz1, frs, frs_len, bdec, fr_fr, bstr, dTrys, dCls, dXf, dXi, List.lookup, h, bad, baT]
theorem toTm (cf : CF) (lt : List Nat) (M : Int) (i : Int) (h : cf 7 [.str lt, .int M] = .ex (many i) []) : runF fn_law_told cf [.str lt, .str kT, .int M] = .ok (maT i) [] := by
  simp [t_law_told_3, t_law_told_2, t_law_told_4, t_law_told_1, den_law_told, fn_law_told, runF, endF, startF, outsOf, dSeq, dIfS, dOp, opR, dDisp, opRM, dCons, dNil, dIo, vals, splitIo, dVar, dMove, dC, dRet, dExp, dSkip, dAsg, sName, sTup, sNil, sCons, one, two, gLen, gEq, gNe, gEqS, gMod, gDiv, gSub, gAdd, gAddI, gAddL, gMul, gMulI, gPow, gAbs, gIx, gLt, gLe, gGt, gGe, gCmp, gIsi, isTy, isNon, gList, opLst, opTup, dPop, dAppend, dReverse, dSetIx, dIf, dAnd, dOr, dNot, andP, isLst, dCall0, dCallIo, dFor, dIt, itR, itL, itS, itR1, itR2, itRev, itRR1, opSl, lod, gSl, clean, cleans, imm, imms, fr, fz, fz1, frs, frs_len, bdec, fr_fr, bstr, dTrys, dCls, dXf, dXi, List.lookup, h, many, maT]
/-! ### how far lists go -/
def lst (L : Nat) : Nat := if L = 1 then 9 else if L = 2 then 6 else 5
theorem base_ct {L : Nat} {l : List Nat} (h : cL L 70 = l.take 71) (n : Nat) (hn : n ≤ 71) : base L n = (l.take n).sum := by
  rw [← base_cL L 70 n hn, h, List.take_take, Nat.min_eq_left hn]
theorem lst_iff {L : Nat} (h1 : 1 ≤ L) (h3 : L ≤ 3) {s : Nat} (hs : s < 10) : 5000 < base L (s + 1) ↔ lst L ≤ s := by
  have key : ∀ (l : List Nat), cL L 70 = l.take 71 → (∀ s, s < 10 → (5000 < (l.take (s + 1)).sum ↔ lst L ≤ s)) → (5000 < base L (s + 1) ↔ lst L ≤ s) := fun l e h => by
    rw [base_ct e (s + 1) (by omega)]
    exact h s hs
  have : L = 1 ∨ L = 2 ∨ L = 3 := by omega
  rcases this with rfl | rfl | rfl
  · exact key ct1 (ct_step 1 ct1 rfl 70 ct1_ok 70 (Nat.le_refl _)) (by decide +kernel)
  · exact key ct2 (ct_step 2 ct2 rfl 70 ct2_ok 70 (Nat.le_refl _)) (by decide +kernel)
  · exact key ct3 (ct_step 3 ct3 rfl 70 ct3_ok 70 (Nat.le_refl _)) (by decide +kernel)
theorem lst_le (L : Nat) : lst L ≤ 9 := by unfold lst; split <;> (try split) <;> decide
def ldue (lt : List Nat) (M : Int) : D := if M < 0 then baT M else if (lst lt.length : Int) ≤ M then maT (lst lt.length) else .lst true (wds (lvs lt M.toNat).flatten)
theorem told_list (k : Nat) {lt : List Nat} (hL : LL lt) (M : Int) : callF tbl (k + 3) 23 [.str lt, .str kL, .int M] = .ok (ldue lt M) [] := by
  refine (c_to (k + 2) _).trans ?_
  have h9 := lst_le lt.length
  unfold ldue
  by_cases h0 : M < 0
  · rw [if_pos h0]
    exact toLb _ _ _ _ (tu_bad (k + 1) lt h0)
  · rw [if_neg h0]
    by_cases h1 : (lst lt.length : Int) ≤ M
    · rw [if_pos h1]
      refine toLm _ _ _ _ (tu_many k hL M (lst lt.length) (by omega) h1 (fun j hj => ?_) ((lst_iff hL.l1 hL.l3 (by omega)).mpr (Nat.le_refl _)))
      have := (lst_iff hL.l1 hL.l3 (s := j) (by omega))
      omega
    · rw [if_neg h1]
      obtain ⟨m, rfl⟩ : ∃ m : Nat, M = m := ⟨M.toNat, by omega⟩
      rw [Int.toNat_natCast]
      have := (lst_iff hL.l1 hL.l3 (s := m) (by omega))
      exact toL _ _ _ _ (tu_ok k hL m (by omega) (by omega))
def Fl (L : Nat) : D → Option D
  | .int i => if (lst L : Int) ≤ i then some (.int i) else none
  | _ => none
theorem c_ld (k : Nat) (ds : List D) : callF tbl (k + 1) 27 ds = runF fn_law_list_due (callF tbl k) ds := rfl
theorem due_list (k : Nat) {lt : List Nat} (hL : LL lt) (M : Int) : callF tbl (k + 3) 27 [.str lt, .int M] = .ok (ldue lt M) [] := by
  refine (c_ld (k + 2) _).trans ?_
  have h9 := lst_le lt.length
  have hl1 := hL.l1
  have hl3 := hL.l3
  have q := pe_op2 (g := gLt) (pe_var (ρ := [some (.str lt), some (.int M), none, none, none]) (i := 1) (d := .int M) rfl rfl).rd (pe_c (d := .int 0)).rd (d := .bl (decide (M < 0))) rfl rfl
  unfold ldue
  by_cases h0 : M < 0
  · rw [if_pos h0]
    rw [decide_eq_true h0] at q
    have s1 : t_law_list_due_1 (callF tbl (k + 2)) [some (.str lt), some (.int M), none, none, none] = .rt (baT M) [some (.str lt), some (.int M), none, none, none] := (sev_if_t q.ev).trans (sev_ret (pe_disp (f := opTup) (peA_cons (pe_c (d := .str [98, 97, 100])) (peA_cons (pe_var (i := 1) (d := .int M) rfl rfl) (peA_cons (pe_c (d := .bl true)) peA_nil))) rfl).ev)
    have e : den_law_list_due (callF tbl (k + 2)) [some (.str lt), some (.int M), none, none, none] = .rt (baT M) [some (.str lt), some (.int M), none, none, none] := by
      unfold den_law_list_due; exact seq_rt s1
    exact run_rt (b := den_law_list_due) rfl rfl rfl e rfl
  · rw [if_neg h0]
    rw [decide_eq_false h0] at q
    have s1 : t_law_list_due_1 (callF tbl (k + 2)) [some (.str lt), some (.int M), none, none, none] = .nx [some (.str lt), some (.int M), none, none, none] := sev_if_f q.ev
    have ec : callF tbl (k + 2) 24 [.str lt, .int 9] = .ok (.lst true (NL (cL lt.length 9))) [] := law_counts_ok (k + 1) hL 9 (by omega)
    generalize hc9 : cL lt.length 9 = c9 at ec
    have s3 : t_law_list_due_3 (callF tbl (k + 2)) [some (.str lt), some (.int M), none, none, none] = .nx [some (.str lt), some (.int M), some (.lst true (NL (c9))), none, none] := sev_asg (pe_call (g := callF tbl (k + 2) 24) (rdA_cons (pe_var (i := 0) (d := .str lt) rfl rfl).rd (rdA_cons (pe_c (d := .int 9)).rd rdA_nil)) ec (cleans_NL _)).ev rfl
    subst hc9
    have r2 : ∀ x : Option D, RdP (dVar 2) [some (.str lt), some (.int M), some (.lst true (NL (cL lt.length 9))), none, x] (fr (.lst true (NL (cL lt.length 9)))) [some (.str lt), some (.int M), some (.lst false (NL (cL lt.length 9))), none, x] := fun x => by
      have := rd_var (ρ := [some (.str lt), some (.int M), some (.lst true (NL (cL lt.length 9))), none, x]) (i := 2) (d := .lst true (NL (cL lt.length 9))) rfl
      have h2 : fz1 2 [some (.str lt), some (.int M), some (.lst true (NL (cL lt.length 9))), none, x] = [some (.str lt), some (.int M), some (.lst false (NL (cL lt.length 9))), none, x] := by simp [fz1, fr, frs_NL]
      rwa [h2] at this
    have comp := pe_comp (ρ := [some (.str lt), some (.int M), some (.lst true (NL (cL lt.length 9))), none, none]) (vs := [4]) (g := sName (cmpl [4] 5) 4) (δc := dOp (two gGt) (dCons (dOp (one gSum) (dCons (dOp (opSl 0) (dCons (dVar 2) (dCons (dOp (two gAdd) (dCons (dVar 4) (dCons (dC (.int 1)) dNil))) dNil))) dNil)) (dCons (dC (.int 5000)) dNil))) (δ := dVar 4) (Fl lt.length)
      (rdA_cons (pe_c (d := .int 10)).rd rdA_nil) (f := itR1) (items := rng 0 10) (hold := []) (itR1_nat 10 (by omega)) rfl (ρ2 := [some (.str lt), some (.int M), some (.lst true (NL (cL lt.length 9))), none, none]) rfl (fun d hd => by
        obtain ⟨i, hi⟩ := List.mem_iff_getElem?.mp hd
        obtain ⟨e, hlt⟩ := rng_get hi
        rw [Int.zero_add] at e
        subst e
        refine ⟨[some (.str lt), some (.int M), some (.lst true (NL (cL lt.length 9))), none, some (.int i)], rfl, rfl, ?_⟩
        have v4 : Pe (dVar 4) [some (.str lt), some (.int M), some (.lst true (NL (cL lt.length 9))), none, some (.int i)] (.int i) := pe_var rfl rfl
        have w4 : Pe (dVar 4) [some (.str lt), some (.int M), some (.lst false (NL (cL lt.length 9))), none, some (.int i)] (.int i) := pe_var rfl rfl
        have a1 := pe_op1 (g := gSum) (pe_op (f := opSl 0) (rdA_cons (r2 (some (.int i))) (rdA_cons (pe_op2 (g := gAdd) w4.rd (pe_c (d := .int 1)).rd (d := .int (i + 1 : Nat)) (by simp [gAdd, gAddI]) rfl).rd rdA_nil)) (opSl_NL true _ (i + 1)) (cleans_NL _)).rd (gSum_NL true _) rfl
        rw [base_cL _ _ _ (by omega)] at a1
        have a2 := pe_op2 (g := gGt) a1.rd (pe_c (d := .int 5000)).rd (d := .bl (decide ((5000 : Int) < base lt.length (i + 1)))) rfl rfl
        have hi := lst_iff hl1 hl3 (s := i) hlt
        by_cases hc : lst lt.length ≤ i
        · rw [decide_eq_true (by omega)] at a2
          have hc' : (lst lt.length : Int) ≤ i := by omega
          exact .inr ⟨.int i, by simp [Fl, hc'], a2, v4⟩
        · rw [decide_eq_false (by omega)] at a2
          have hc' : ¬ (lst lt.length : Int) ≤ i := by omega
          exact .inl ⟨by simp [Fl, hc'], a2⟩) (by rw [rng_len]; omega) (by
        have : lt.length = 1 ∨ lt.length = 2 ∨ lt.length = 3 := by omega
        rcases this with h | h | h <;> rw [h] <;> rfl)
    have hg : gIx (.lst true ((rng 0 10).filterMap (Fl lt.length))) (.int 0) = some (.int (lst lt.length)) := by
      have : lt.length = 1 ∨ lt.length = 2 ∨ lt.length = 3 := by omega
      rcases this with h | h | h <;> rw [h] <;> rfl
    have s4 : t_law_list_due_4 (callF tbl (k + 2)) [some (.str lt), some (.int M), some (.lst true (NL (cL lt.length 9))), none, none] = .nx [some (.str lt), some (.int M), some (.lst true (NL (cL lt.length 9))), some (.int (lst lt.length)), none] := sev_asg (pe_op2 (g := gIx) comp.rd (pe_c (d := .int 0)).rd hg rfl).ev rfl
    have fin : ∀ d ρ', t_law_list_due_5 (callF tbl (k + 2)) [some (.str lt), some (.int M), some (.lst true (NL (cL lt.length 9))), some (.int (lst lt.length)), none] = .rt d ρ' → runF fn_law_list_due (callF tbl (k + 2)) [.str lt, .int M] = .ok d [] := fun d ρ' h => by
      have e : den_law_list_due (callF tbl (k + 2)) [some (.str lt), some (.int M), none, none, none] = .rt d ρ' := by
        unfold den_law_list_due
        exact (seq_nx s1).trans ((seq_nx s3).trans ((seq_nx s4).trans h))
      exact run_rt (b := den_law_list_due) rfl rfl rfl e rfl
    have c5 := pe_op2 (g := gGe) (pe_var (ρ := [some (.str lt), some (.int M), some (.lst true (NL (cL lt.length 9))), some (.int (lst lt.length)), none]) (i := 1) (d := .int M) rfl rfl).rd (pe_var (i := 3) (d := .int (lst lt.length)) rfl rfl).rd (d := .bl (decide ((lst lt.length : Int) ≤ M))) rfl rfl
    by_cases h1 : (lst lt.length : Int) ≤ M
    · rw [if_pos h1]
      rw [decide_eq_true h1] at c5
      exact fin _ _ (sev_ret (ev_if_t c5.ev (pe_disp (f := opTup) (peA_cons (pe_c (d := .str [109, 97, 110, 121])) (peA_cons (pe_var (i := 3) (d := .int (lst lt.length)) rfl rfl) (peA_cons (pe_c (d := .bl true)) peA_nil))) rfl).ev))
    · rw [if_neg h1]
      rw [decide_eq_false h1] at c5
      obtain ⟨m, rfl⟩ : ∃ m : Nat, M = m := ⟨M.toNat, by omega⟩
      rw [Int.toNat_natCast]
      have := (lst_iff hl1 hl3 (s := m) (by omega))
      have et := ltr_ok k (lt := lt) m (by omega) (by omega)
      exact fin _ _ (sev_ret (ev_if_f c5.ev (pe_call (g := callF tbl (k + 2) 19) (rdA_cons (pe_var (i := 0) (d := .str lt) rfl rfl).rd (rdA_cons (pe_var (i := 1) (d := .int m) rfl rfl).rd rdA_nil)) et (cleans_wds _)).ev))
end TB
end
section
set_option Elab.async false
set_option linter.all false
set_option maxRecDepth 100000
set_option maxHeartbeats 4000000
namespace TB
open PySem PySem.Spec L2
/-! ### drawn trees -/
theorem c_tree (k : Nat) (ds : List D) : callF tbl (k + 1) 20 ds = runF fn_law_tree (callF tbl k) ds := rfl
theorem tree_leaf (cf : CF) (ps : List Int) (lt : List Nat) (m : Int) (h : m ≤ 0) : runF fn_law_tree cf [PK ps, .str lt, .int m] = .ok (.str [46]) [PK ps] := by
  simp [t_law_tree_2, t_law_tree_1, t_law_tree_3, t_law_tree_4, t_law_tree_5, den_law_tree, fn_law_tree, runF, endF, startF, outsOf, dSeq, dIfS, dOp, opR, dDisp, opRM, dCons, dNil, dIo, vals, splitIo, dVar, dMove, dC, dRet, dExp, dSkip, dAsg, sName, sTup, sNil, sCons, one, two, gLen, gEq, gNe, gEqS, gMod, gDiv, gSub, gAdd, gAddI, gAddL, gMul, gMulI, gPow, gAbs, gIx, gLt, gLe, gGt, gGe, gCmp, gIsi, isTy, isNon, gList, opLst, opTup, dPop, dAppend, dReverse, dSetIx, dIf, dAnd, dOr, dNot, andP, isLst, dCall0, dCallIo, dFor, dIt, itR, itL, itS, itR1, itR2, itRev, itRR1, opSl, lod, gSl, clean, cleans, imm, imms, fr, fz, fz1, frs, frs_len, bdec, fr_fr, h]
theorem tree_node (cf : CF) (ps p1 p2 p3 p4 : List Int) (lt : List Nat) (m j : Int) (c : Nat) (x y : List Nat) (h : ¬ m ≤ 0) (h1 : cf 13 [PK ps, .int m] = .ok (.int j) [PK p1]) (h2 : cf 14 [PK p1, .str lt] = .ok (.str [c]) [PK p2]) (h3 : cf 20 [PK p2, .str lt, .int j] = .ok (.str x) [PK p3]) (h4 : cf 20 [PK p3, .str lt, .int (m - 1 - j)] = .ok (.str y) [PK p4])
    (hz : 1 + x.length + y.length ≤ 16777216) : runF fn_law_tree cf [PK ps, .str lt, .int m] = .ok (.str (c :: (x ++ y))) [PK p4] := by
  have hz1 : 1 + x.length ≤ 16777216 := by omega
  have hz2 : x.length + 1 + y.length ≤ 16777216 := by omega
  simp [t_law_tree_2, t_law_tree_1, t_law_tree_3, t_law_tree_4, t_law_tree_5, den_law_tree, fn_law_tree, runF, endF, startF, outsOf, dSeq, dIfS, dOp, opR, dDisp, opRM, dCons, dNil, dIo, vals, splitIo, dVar, dMove, dC, dRet, dExp, dSkip, dAsg, sName, sTup, sNil, sCons, one, two, gLen, gEq, gNe, gEqS, gMod, gDiv, gSub, gAdd, gAddI, gAddL, gMul, gMulI, gPow, gAbs, gIx, gLt, gLe, gGt, gGe, gCmp, gIsi, isTy, isNon, gList, opLst, opTup, dPop, dAppend, dReverse, dSetIx, dIf, dAnd, dOr, dNot, andP, isLst, dCall0, dCallIo, dFor, dIt, itR, itL, itS, itR1, itR2, itRev, itRR1, opSl, lod, gSl, clean, cleans, imm, imms, fr, fz, fz1, frs, frs_len, bdec, fr_fr, h, h1, h2, h3, h4, hz1, hz2]
theorem tree_ok (lt : List Nat) (hl : lt ≠ []) (hd : 46 ∉ lt) (hz : lt.length ≤ 1000) : ∀ (n : Nat), n ≤ 1000 → ∀ (m : Int), m ≤ n → ∀ (k : Nat) (ps : List Int), ∃ (t : T) (ps' : List Int), t.ok ∧ t.sz = m.toNat ∧ (∀ x ∈ t.tx, x = 46 ∨ x ∈ lt) ∧ callF tbl (k + n + 4) 20 [PK ps, .str lt, .int m] = .ok (.str t.tx) [PK ps'] := by
  intro n
  induction n with
  | zero =>
    intro _ m hm k ps
    have h0 : m ≤ 0 := by omega
    exact ⟨.leaf, ps, trivial, by simp [T.sz]; omega, (fun x m => .inl (by simpa [T.tx] using m)), (c_tree _ _).trans (tree_leaf _ ps lt m h0)⟩
  | succ n ih =>
    intro hn m hm k ps
    by_cases h0 : m ≤ 0
    · exact ⟨.leaf, ps, trivial, by simp [T.sz]; omega, (fun x m => .inl (by simpa [T.tx] using m)), (c_tree _ _).trans (tree_leaf _ ps lt m h0)⟩
    · have hm0 : 0 < m := by omega
      have h1 : callF tbl (k + n + 4) 13 [PK ps, .int m] = .ok (.int (pk ps m)) [PK ps.dropLast] := (c_pick _ _).trans (pick_ok _ ps hm0)
      obtain ⟨c, hc, h2⟩ := one_str (k + n + 2) ps.dropLast lt hl (by omega)
      have hlo := pk_lo (ps := ps) hm0
      have hhi := pk_hi (ps := ps) hm0
      obtain ⟨t1, p3, ok1, s1, ch1, h3⟩ := ih (by omega) (pk ps m) (by omega) k ps.dropLast.dropLast
      obtain ⟨t2, p4, ok2, s2, ch2, h4⟩ := ih (by omega) (m - 1 - pk ps m) (by omega) k p3
      have e1 := t1.len
      have e2 := t2.len
      refine ⟨.node c t1 t2, p4, ⟨fun z => hd (z ▸ hc), ok1, ok2⟩, by simp only [T.sz]; omega, fun x m => ?_, ?_⟩
      · rcases List.mem_cons.mp (show x ∈ c :: (t1.tx ++ t2.tx) from m) with m | m
        · exact .inr (m ▸ hc)
        · exact (List.mem_append.mp m).elim (ch1 x) (ch2 x)
      exact (c_tree _ _).trans (tree_node _ ps _ _ p3 p4 lt m (pk ps m) c t1.tx t2.tx h0 h1 h2 h3 h4 (by omega))
end TB
end
section
set_option Elab.async false
set_option linter.all false
set_option maxRecDepth 100000
set_option maxHeartbeats 4000000
namespace TB
open PySem PySem.Spec L2
def T.spots : T → List (List Nat × Nat)
  | .leaf => [([], 46)]
  | .node c l r => ([], c) :: ((l.spots.map fun p => (108 :: p.1, p.2)) ++ (r.spots.map fun p => (114 :: p.1, p.2)))
theorem T.spots_len : ∀ t : T, t.spots.length = t.tx.length
  | .leaf => rfl
  | .node c l r => by simp [T.spots, T.tx, l.spots_len, r.spots_len]
def pairD (p : List Nat × Nat) : D := .tup [.str p.1, .str [p.2]]
def PL (l : List (List Nat × Nat)) : List D := l.map pairD
theorem frs_PL : ∀ l : List (List Nat × Nat), frs (PL l) = PL l
  | [] => rfl
  | p :: l => by show fr (pairD p) :: frs (PL l) = _; rw [frs_PL l]; rfl
theorem imms_PL : ∀ l : List (List Nat × Nat), imms (PL l) = true
  | [] => rfl
  | p :: l => by show (imm (pairD p) && imms (PL l)) = true; rw [imms_PL l]; rfl
theorem PL_len (l : List (List Nat × Nat)) : (PL l).length = l.length := by simp [PL]
theorem PL_app (a b : List (List Nat × Nat)) : PL (a ++ b) = PL a ++ PL b := by simp [PL]
theorem cleans_PL : ∀ l : List (List Nat × Nat), cleans (PL l) = true
  | [] => rfl
  | p :: l => by show (clean (pairD p) && cleans (PL l)) = true; rw [cleans_PL l]; rfl
theorem itL_own (w : Bool) (xs : List D) (h : frs xs = xs) : itL [.lst w xs] = some (xs, [.lst false xs]) := by simp [itL, h]
def T.at : T → List Nat → Option T
  | t, [] => some t
  | .leaf, _ :: _ => none
  | .node _ l r, s :: ss => if s = 108 then l.at ss else if s = 114 then r.at ss else none
def T.put (p : T) : T → List Nat → T
  | _, [] => p
  | .leaf, _ :: _ => .leaf
  | .node c l r, s :: ss => if s = 108 then .node c (T.put p l ss) r else .node c l (T.put p r ss)
theorem T.spots_word : ∀ (t : T) (p : List Nat × Nat), p ∈ t.spots → p.1.length ≤ t.sz
  | .leaf, p, h => by simp [T.spots] at h; subst h; simp
  | .node c l r, p, h => by
    simp only [T.spots, List.mem_cons, List.mem_append, List.mem_map] at h
    rcases h with rfl | ⟨q, hq, rfl⟩ | ⟨q, hq, rfl⟩
    · simp
    · have := l.spots_word q hq; simp [T.sz]; omega
    · have := r.spots_word q hq; simp [T.sz]; omega
def Fsp (s : Nat) : D → Option D
  | .tup [.str w, .str [c]] => some (pairD (s :: w, c))
  | _ => none
theorem fm_Fsp (s : Nat) : ∀ l : List (List Nat × Nat), (PL l).filterMap (Fsp s) = PL (l.map fun p => (s :: p.1, p.2))
  | [] => rfl
  | p :: l => by
    have := fm_Fsp s l
    have e : PL (p :: l) = pairD p :: PL l := rfl
    rw [e, List.filterMap_cons, show Fsp s (pairD p) = some (pairD (s :: p.1, p.2)) from rfl, this]; rfl
theorem gIx_p0 (p : List Nat × Nat) : gIx (pairD p) (.int 0) = some (.str p.1) := rfl
theorem gIx_p1 (p : List Nat × Nat) : gIx (pairD p) (.int 1) = some (.str [p.2]) := rfl
theorem gAdd_s (x y : List Nat) (h : x.length + y.length ≤ 16777216) : gAdd (.str x) (.str y) = some (.str (x ++ y)) := by simp [gAdd, gAddI, h]
theorem c_lsp (k : Nat) (ds : List D) : callF tbl (k + 1) 21 ds = runF fn_law_spots (callF tbl k) ds := rfl
theorem lsp_comp (s : Nat) (ρ : VE) (δi : DenA) (t : T) (hsz : t.sz ≤ 100000) (x y : Option D) (hρ : ρ = [x, y, none]) (hi : PuA δi ρ [.lst true (PL t.spots)]) :
    ∃ bs p, dComp (dIt itL δi) (sName (cmpl [2] 3) 2) [2] dTrue (dDisp opTup (dCons (dOp (two gAdd) (dCons (dC (.str [s])) (dCons (dOp (two gIx) (dCons (dVar 2) (dCons (dC (.int 0)) dNil))) dNil))) (dCons (dOp (two gIx) (dCons (dVar 2) (dCons (dC (.int 1)) dNil))) dNil))) ρ = .ok (.lst true (PL (t.spots.map fun p => (s :: p.1, p.2)))) bs p ρ ∧ fz bs ρ = ρ := by
  subst hρ
  rw [← fm_Fsp]
  refine ev_comp (Fsp s) hi.ev (itL_own true _ (frs_PL _)) rfl (fun d hd => ?_) (by rw [PL_len, T.spots_len, T.len]; omega) (.inr trivial)
  obtain ⟨p, hp, rfl⟩ := List.mem_map.mp hd
  have hw := t.spots_word p hp
  refine ⟨[x, y, some (pairD p)], rfl, rfl, .inr ⟨pairD (s :: p.1, p.2), rfl, pu_true, ?_⟩⟩
  have v2 : Pu (dVar 2) [x, y, some (pairD p)] (pairD p) := pu_var rfl rfl
  exact pu_disp (puA_cons (pu_op2 pu_c (pu_op2 v2 pu_c (gIx_p0 p)) (gAdd_s [s] p.1 (by simp; omega))) (puA_cons (pu_op2 v2 pu_c (gIx_p1 p)) puA_nil)) rfl
theorem lsp_ok : ∀ (t : T), t.ok → t.sz ≤ 100000 → ∀ n, t.sz ≤ n → callF tbl (n + 3) 21 [.str t.tx] = .ok (.lst true (PL t.spots)) []
  | .leaf, _, _, n, _ => rfl
  | .node c l r, hok, hz, n, hn => by
    obtain ⟨n, rfl⟩ : ∃ m, n = m + 1 := ⟨n - 1, by simp [T.sz] at hn; omega⟩
    have hsl : l.sz ≤ n := by simp [T.sz] at hn; omega
    have hsr : r.sz ≤ n := by simp [T.sz] at hn; omega
    have hlen := (T.node c l r).len
    have hz1 : (T.node c l r).tx.length ≤ 500000 := by omega
    have il := lsp_ok l hok.2.1 (by simp [T.sz] at hz; omega) n hsl
    have ir := lsp_ok r hok.2.2 (by simp [T.sz] at hz; omega) n hsr
    have el := lleft_ok (n + 1) hok hz1
    have er := lright_ok (n + 1) hok hz1
    refine (c_lsp _ _).trans ?_
    have s1 : t_law_spots_1 (callF tbl (n + 3)) [some (.str (T.node c l r).tx), none, none] = .nx [some (.str (T.node c l r).tx), none, none] := st_if_f (pu_op2 (pu_var rfl rfl) pu_c (by simp [gEq, gEqS, T.tx_ne]))
    have p0 : ∀ y, Pu (dVar 0) [some (.str (T.node c l r).tx), y, none] (.str (T.node c l r).tx) := fun y => pu_var rfl rfl
    obtain ⟨b1, q1, c1, f1⟩ := lsp_comp 108 [some (.str (T.node c l r).tx), none, none] _ l (by simp [T.sz] at hz; omega) _ _ rfl (puA_cons (pu_call (puA_cons (pu_call (puA_cons (p0 none) puA_nil) el) puA_nil) il) puA_nil)
    have s3 : t_law_spots_3 (callF tbl (n + 3)) [some (.str (T.node c l r).tx), none, none] = .nx [some (.str (T.node c l r).tx), some (.lst true (PL (l.spots.map fun p => (108 :: p.1, p.2)))), none] := by
      unfold t_law_spots_3 dAsg
      rw [c1]
      simp only [f1]
      rfl
    obtain ⟨b2, q2, c2, f2⟩ := lsp_comp 114 [some (.str (T.node c l r).tx), some (.lst true (PL (l.spots.map fun p => (108 :: p.1, p.2)))), none] _ r (by simp [T.sz] at hz; omega) _ _ rfl (puA_cons (pu_call (puA_cons (pu_call (puA_cons (p0 _) puA_nil) er) puA_nil) ir) puA_nil)
    have hx0 : atI (T.node c l r).tx 0 = some c := by
      show atI _ ((0 : Nat) : Int) = _
      rw [atI_i]; rfl
    have g1 : (T.node c l r).tx.length ≤ 16777216 := by omega
    have hg0 : gIx (.str (T.node c l r).tx) (.int 0) = some (.str [c]) := by simp [TB.gIx, g1, hx0]
    have n1 : (PL (l.spots.map fun p => (108 :: p.1, p.2))).length = l.tx.length := by rw [PL_len]; simp [T.spots_len]
    have n2 : (PL (r.spots.map fun p => (114 :: p.1, p.2))).length = r.tx.length := by rw [PL_len]; simp [T.spots_len]
    have hlx : (T.node c l r).tx.length = 1 + (l.tx.length + r.tx.length) := by simp [T.tx]; omega
    have g2 : 1 + l.tx.length ≤ 16777216 := by omega
    have g3 : 1 + l.tx.length + r.tx.length ≤ 16777216 := by omega
    have hr : ∃ ρ', t_law_spots_4 (callF tbl (n + 3)) [some (.str (T.node c l r).tx), some (.lst true (PL (l.spots.map fun p => (108 :: p.1, p.2)))), none] = .rt (.lst true (PL (T.node c l r).spots)) ρ' := by
      have hres : PL (T.node c l r).spots = D.tup [.str [], .str [c]] :: (PL (l.spots.map fun p => (108 :: p.1, p.2)) ++ PL (r.spots.map fun p => (114 :: p.1, p.2))) := by simp [T.spots, PL, pairD]
      rw [hres]
      generalize hL : PL (l.spots.map fun p => (108 :: p.1, p.2)) = L at *
      generalize hR : PL (r.spots.map fun p => (114 :: p.1, p.2)) = R at *
      have fL : frs L = L := by rw [← hL, frs_PL]
      have fR : frs R = R := by rw [← hR, frs_PL]
      have cL : cleans L = true := by rw [← hL, cleans_PL]
      have cR : cleans R = true := by rw [← hR, cleans_PL]
      have hA1 : gAdd (.lst true [.tup [.str [], .str [c]]]) (.lst false L) = some (.lst true (.tup [.str [], .str [c]] :: L)) := by
        simp [gAdd, gAddI, gAddL, n1, g2, fL, frs, fr]
      have hA2 : gAdd (.lst true (.tup [.str [], .str [c]] :: L)) (.lst true R) = some (.lst true (.tup [.str [], .str [c]] :: (L ++ R))) := by
        have : L.length + 1 + R.length ≤ 16777216 := by omega
        simp [gAdd, gAddI, gAddL, this, fL, fR, frs, fr]
      have x1 := rd_op (f := two gAdd) (rdA_cons (pu_disp (f := opLst) (puA_cons (pu_disp (f := opTup) (puA_cons (pu_c (d := .str [])) (puA_cons (pu_op2 (p0 (some (.lst true L))) (pu_c (d := .int 0)) (d := .str [c]) hg0) puA_nil)) rfl) puA_nil) rfl).rd (rdA_cons (rd_var (i := 1) rfl) rdA_nil)) (by
        show gAdd (.lst true [.tup [.str [], .str [c]]]) (.lst false (frs L)) = _
        rw [fL]; exact hA1) (by
        show (true && (clean (.tup [.str [], .str [c]]) && cleans L)) = true
        rw [cL]; rfl)
      exact srv_ret (rv_op (rvA_cons x1.rd (rvA_one ⟨b2, q2, _, c2⟩)) hA2)
    obtain ⟨ρ', hr⟩ := hr
    have e : den_law_spots (callF tbl (n + 3)) [some (.str (T.node c l r).tx), none, none] = .rt (.lst true (PL (T.node c l r).spots)) ρ' := by
      unfold den_law_spots
      rw [seq_nx s1, seq_nx s3, hr]
    exact run_rt (b := den_law_spots) rfl rfl rfl e rfl
theorem c_lput (k : Nat) (ds : List D) : callF tbl (k + 1) 22 ds = runF fn_law_put (callF tbl k) ds := rfl
theorem T.put_len (p : T) : ∀ (t : T) (ss : List Nat), (T.put p t ss).tx.length ≤ t.tx.length + p.tx.length
  | .leaf, [] => by simp [T.put]
  | .node _ _ _, [] => by simp [T.put]
  | .leaf, _ :: _ => by simp [T.put]
  | .node c l r, s :: ss => by
    by_cases h : s = 108
    · have := T.put_len p l ss; simp [T.put, h, T.tx]; omega
    · have := T.put_len p r ss; simp [T.put, h, T.tx]; omega
theorem T.put_ok {p : T} (hp : p.ok) : ∀ {t : T} {ss : List Nat}, t.ok → (T.put p t ss).ok
  | .leaf, [], _ => hp
  | .node _ _ _, [], _ => hp
  | .leaf, _ :: _, _ => trivial
  | .node c l r, s :: ss, h => by
    by_cases h8 : s = 108
    · simp [T.put, h8]; exact ⟨h.1, T.put_ok hp h.2.1, h.2.2⟩
    · simp [T.put, h8]; exact ⟨h.1, h.2.1, T.put_ok hp h.2.2⟩
theorem tail1 (s : Nat) (ss : List Nat) : cutL (s :: ss) (some 1) none = ss := by
  have := cutL_from (s :: ss) 1 (by simp)
  simpa using this
theorem head0 (s : Nat) (ss : List Nat) : atI (s :: ss) 0 = some s := by
  show atI _ ((0 : Nat) : Int) = _
  rw [atI_i]; rfl
theorem lput_ok {p : T} (hp : p.tx.length ≤ 100000) : ∀ (ss : List Nat) (t v : T), t.ok → t.tx.length ≤ 100000 → ss.length ≤ 100000 → t.at ss = some v → ∀ n, ss.length ≤ n → callF tbl (n + 3) 22 [.str t.tx, .str ss, .str p.tx] = .ok (.str (T.put p t ss).tx) []
  | [], t, v, _, _, _, _, n, _ => by
    have e : T.put p t [] = p := by cases t <;> rfl
    rw [e]
    refine (c_lput _ _).trans ?_
    simp [t_law_put_2, t_law_put_1, t_law_put_4, t_law_put_3, t_law_put_5, den_law_put, fn_law_put, runF, endF, startF, outsOf, dSeq, dIfS, dOp, opR, dDisp, opRM, dCons, dNil, dIo, vals, splitIo, dVar, dMove, dC, dRet, dExp, dSkip, dAsg, sName, sTup, sNil, sCons, one, two, gLen, gEq, gNe, gEqS, gMod, gDiv, gSub, gAdd, gAddI, gAddL, gMul, gMulI, gPow, gAbs, gIx, gLt, gLe, gGt, gGe, gCmp, gIsi, isTy, isNon, gList, opLst, opTup, dPop, dAppend, dReverse, dSetIx, dIf, dAnd, dOr, dNot, andP, isLst, dCall0, dCallIo, dFor, dIt, itR, itL, itS, itR1, itR2, itRev, itRR1, opSl, lod, gSl, clean, cleans, imm, imms, fr, fz, fz1, frs, frs_len, bdec, fr_fr]
  | s :: ss, .leaf, v, _, _, _, h, n, _ => by simp [T.at] at h
  | s :: ss, .node c l r, v, hok, hz, hs, h, n, hn => by
    obtain ⟨n, rfl⟩ : ∃ m, n = m + 1 := ⟨n - 1, by simp at hn; omega⟩
    have el : callF tbl (n + 3) 16 [.str (T.node c l r).tx] = .ok (.str l.tx) [] := lleft_ok (n + 1) hok (by omega)
    have er : callF tbl (n + 3) 17 [.str (T.node c l r).tx] = .ok (.str r.tx) [] := lright_ok (n + 1) hok (by omega)
    have hlx : (T.node c l r).tx.length = 1 + (l.tx.length + r.tx.length) := by simp [T.tx]; omega
    have hx0 : atI (T.node c l r).tx 0 = some c := head0 _ _
    have g1 : (T.node c l r).tx.length ≤ 16777216 := by omega
    have g2 : ss.length + 1 ≤ 16777216 := by simp at hs; omega
    have pl := T.put_len p l ss
    have pr := T.put_len p r ss
    refine (c_lput _ _).trans ?_
    by_cases h8 : s = 108
    · subst h8
      have hv : l.at ss = some v := by simpa [T.at] using h
      have ih := lput_ok hp ss l v hok.2.1 (by omega) (by simp at hs; omega) hv n (by simp at hn; omega)
      have g3 : 1 + (T.put p l ss).tx.length ≤ 16777216 := by omega
      have g4 : (T.put p l ss).tx.length + 1 + r.tx.length ≤ 16777216 := by omega
      have e : (T.put p (.node c l r) (108 :: ss)).tx = c :: ((T.put p l ss).tx ++ r.tx) := by simp [T.put, T.tx]
      rw [e]
      simp [t_law_put_2, t_law_put_1, t_law_put_4, t_law_put_3, t_law_put_5, den_law_put, fn_law_put, runF, endF, startF, outsOf, dSeq, dIfS, dOp, opR, dDisp, opRM, dCons, dNil, dIo, vals, splitIo, dVar, dMove, dC, dRet, dExp, dSkip, dAsg, sName, sTup, sNil, sCons, one, two, gLen, gEq, gNe, gEqS, gMod, gDiv, gSub, gAdd, gAddI, gAddL, gMul, gMulI, gPow, gAbs, gIx, gLt, gLe, gGt, gGe, gCmp, gIsi, isTy, isNon, gList, opLst, opTup, dPop, dAppend, dReverse, dSetIx, dIf, dAnd, dOr, dNot, andP, isLst, dCall0, dCallIo, dFor, dIt, itR, itL, itS, itR1, itR2, itRev, itRR1, opSl, lod, gSl, clean, cleans, imm, imms, fr, fz, fz1, frs, frs_len, bdec, fr_fr, head0, tail1, hx0, g1, g2, el, er, ih, g3, g4]
    · have h4 : s = 114 := by
        by_cases h4 : s = 114
        · exact h4
        · simp [T.at, h8, h4] at h
      subst h4
      have hv : r.at ss = some v := by simpa [T.at] using h
      have ih := lput_ok hp ss r v hok.2.2 (by omega) (by simp at hs; omega) hv n (by simp at hn; omega)
      have g3 : 1 + l.tx.length ≤ 16777216 := by omega
      have g4 : l.tx.length + 1 + (T.put p r ss).tx.length ≤ 16777216 := by omega
      have e : (T.put p (.node c l r) (114 :: ss)).tx = c :: (l.tx ++ (T.put p r ss).tx) := by simp [T.put, T.tx]
      rw [e]
      simp [t_law_put_2, t_law_put_1, t_law_put_4, t_law_put_3, t_law_put_5, den_law_put, fn_law_put, runF, endF, startF, outsOf, dSeq, dIfS, dOp, opR, dDisp, opRM, dCons, dNil, dIo, vals, splitIo, dVar, dMove, dC, dRet, dExp, dSkip, dAsg, sName, sTup, sNil, sCons, one, two, gLen, gEq, gNe, gEqS, gMod, gDiv, gSub, gAdd, gAddI, gAddL, gMul, gMulI, gPow, gAbs, gIx, gLt, gLe, gGt, gGe, gCmp, gIsi, isTy, isNon, gList, opLst, opTup, dPop, dAppend, dReverse, dSetIx, dIf, dAnd, dOr, dNot, andP, isLst, dCall0, dCallIo, dFor, dIt, itR, itL, itS, itR1, itR2, itRev, itRR1, opSl, lod, gSl, clean, cleans, imm, imms, fr, fz, fz1, frs, frs_len, bdec, fr_fr, head0, tail1, hx0, g1, g2, el, er, ih, g3, g4]
theorem T.put_inn {lt : List Nat} {p : T} (hp : p.inn lt) : ∀ {t : T} {ss : List Nat}, t.inn lt → (T.put p t ss).inn lt
  | .leaf, [], _ => hp
  | .node _ _ _, [], _ => hp
  | .leaf, _ :: _, _ => trivial
  | .node c l r, s :: ss, h => by
    by_cases h8 : s = 108
    · simp [T.put, h8]; exact ⟨h.1, T.put_inn hp h.2.1, h.2.2⟩
    · simp [T.put, h8]; exact ⟨h.1, h.2.1, T.put_inn hp h.2.2⟩
theorem T.spot_at : ∀ (t : T) (p : List Nat × Nat), p ∈ t.spots → ∃ v, t.at p.1 = some v
  | .leaf, p, h => by simp [T.spots] at h; subst h; exact ⟨_, rfl⟩
  | .node c l r, p, h => by
    simp only [T.spots, List.mem_cons, List.mem_append, List.mem_map] at h
    rcases h with rfl | ⟨q, hq, rfl⟩ | ⟨q, hq, rfl⟩
    · exact ⟨_, rfl⟩
    · obtain ⟨v, hv⟩ := l.spot_at q hq
      exact ⟨v, by simp [T.at, hv]⟩
    · obtain ⟨v, hv⟩ := r.spot_at q hq
      exact ⟨v, by simp [T.at, hv]⟩
theorem T.inn_of {lt : List Nat} : ∀ {t : T}, t.ok → (∀ x ∈ t.tx, x = 46 ∨ x ∈ lt) → t.inn lt
  | .leaf, _, _ => trivial
  | .node c l r, h, hx => by
    refine ⟨?_, T.inn_of h.2.1 fun x m => hx x (by simp [T.tx, m]), T.inn_of h.2.2 fun x m => hx x (by simp [T.tx, m])⟩
    rcases hx c (by simp [T.tx]) with z | z
    · exact absurd z h.1
    · exact z
/-! ### the short ones by number -/
def prs : Nat → List Nat → Option (T × List Nat)
  | 0, _ => none
  | _ + 1, [] => none
  | n + 1, c :: x => if c = 46 then some (.leaf, x) else match prs n x with
    | some (l, y) => (match prs n y with
      | some (r, z) => some (.node c l r, z)
      | none => none)
    | none => none
def okB : T → Bool
  | .leaf => true
  | .node c l r => decide (c ≠ 46) && (okB l && okB r)
theorem okB_ok : ∀ {t : T}, okB t = true → t.ok
  | .leaf, _ => trivial
  | .node c l r, h => by
    have h' : (decide (c ≠ 46) && (okB l && okB r)) = true := h
    rw [Bool.and_eq_true, Bool.and_eq_true] at h'
    exact ⟨of_decide_eq_true h'.1, okB_ok h'.2.1, okB_ok h'.2.2⟩
def chk (lt : List Nat) : Nat → List (List Nat) → Bool
  | _, [] => true
  | i, x :: xs => (match prs 30 x with
    | some (t, _) => decide (t.tx = x) && (t.tx.all fun c => c == 46 || lt.contains c) && okB t && decide (t.sz ≤ 10) && decide (t.num lt = i)
    | none => false) && chk lt (i + 1) xs
theorem chk_ok {lt : List Nat} : ∀ {xs : List (List Nat)} {i : Nat}, chk lt i xs = true → ∀ j x, xs[j]? = some x → ∃ t : T, t.inn lt ∧ t.sz ≤ 10 ∧ t.tx = x ∧ t.num lt = i + j
  | [], _, _, j, x, hj => by simp at hj
  | y :: ys, i, h, j, x, hj => by
    unfold chk at h
    rw [Bool.and_eq_true] at h
    cases j with
    | zero =>
      have hj : y = x := by simpa using hj
      subst hj
      have h1 := h.1
      split at h1
      · rename_i t _ _
        simp only [Bool.and_eq_true, decide_eq_true_eq] at h1
        obtain ⟨⟨⟨⟨e1, e2⟩, e3⟩, e4⟩, e5⟩ := h1
        refine ⟨t, T.inn_of (okB_ok e3) fun c m => ?_, e4, e1, by simpa using e5⟩
        have := List.all_eq_true.mp e2 c m
        simpa using this
      · cases h1
    | succ j =>
      obtain ⟨t, a, b, c, d⟩ := chk_ok h.2 j x (by simpa using hj)
      exact ⟨t, a, b, c, by omega⟩
theorem chk1 : chk [97] 0 (lvs [97] 5).flatten = true := by decide +kernel
theorem chk2 : chk [98, 97] 0 (lvs [98, 97] 3).flatten = true := by decide +kernel
theorem chk3 : chk [97, 98] 0 (lvs [97, 98] 3).flatten = true := by decide +kernel
theorem chk4 : chk [98, 99, 97] 0 (lvs [98, 99, 97] 3).flatten = true := by decide +kernel
end TB
end
section
set_option Elab.async false
set_option linter.all false
set_option maxRecDepth 100000
set_option maxHeartbeats 1000000
namespace TB
open PySem PySem.Spec L2
/-! ### the law: what the calls give -/
abbrev CC (m : Nat) : CF := callF tbl (m + 80)
theorem pick_cc (m : Nat) (qs : List Int) (M : Int) (h : 0 < M) : CC m 13 [PK qs, .int M] = .ok (.int (pk qs M)) [PK qs.dropLast] := (c_pick (m + 79) _).trans (pick_ok _ qs h)
theorem one_cc (m : Nat) (ps : List Int) (w : Bool) (xs : List D) (hx : xs ≠ []) : ∃ d ∈ xs, CC m 14 [PK ps, .lst w xs] = .ok (fr d) [PK ps.dropLast] := one_lst (m + 78) ps w xs hx
theorem pk_nat (q : List Int) (M : Nat) (h : 0 < M) : ∃ j : Nat, pk q M = j ∧ j < M := by
  have h1 := pk_lo (ps := q) (m := M) (by omega)
  have h2 := pk_hi (ps := q) (m := M) (by omega)
  exact ⟨(pk q M).toNat, by omega, by omega⟩
theorem bl_cc (m : Nat) (x : Bool) : CC m 11 [.bl x, .bl x] = .ok (.bl true) [] := same_ok (Sm.bl 0 x) (m + 79) (by omega)
theorem str_cc (m : Nat) (x : List Nat) : CC m 11 [.str x, .str x] = .ok (.bl true) [] := same_ok (Sm.str 0 x) (m + 79) (by omega)
theorem int_cc (m : Nat) (x : Int) : CC m 11 [.int x, .int x] = .ok (.bl true) [] := same_ok (Sm.int 0 x) (m + 79) (by omega)
theorem sm_ba (n : Int) : Sm 1 (baT n) := .tup (by simp) fun y my => by
  simp only [List.mem_cons, List.not_mem_nil, or_false] at my
  rcases my with rfl | rfl | rfl
  · exact .str 0 _
  · exact .int 0 _
  · exact .bl 0 _
theorem sm_ma (n : Int) : Sm 1 (maT n) := .tup (by simp) fun y my => by
  simp only [List.mem_cons, List.not_mem_nil, or_false] at my
  rcases my with rfl | rfl | rfl
  · exact .str 0 _
  · exact .int 0 _
  · exact .bl 0 _
theorem ba_cc (m : Nat) (n : Int) : CC m 11 [baT n, baT n] = .ok (.bl true) [] := same_ok (sm_ba n) (m + 79) (by omega)
theorem ma_cc (m : Nat) (n : Int) : CC m 11 [maT n, maT n] = .ok (.bl true) [] := same_ok (sm_ma n) (m + 79) (by omega)
theorem sm_ldue {lt : List Nat} (hL : LL lt) (M : Int) : Sm 1 (ldue lt M) := by
  unfold ldue
  split
  · exact sm_ba _
  · split
    · exact sm_ma _
    · rename_i h0 h1
      have h9 := lst_le lt.length
      have := (lst_iff hL.l1 hL.l3 (s := M.toNat) (by omega))
      refine .lst (by rw [wds_len, lvs_flat_len]; omega) fun x mx => ?_
      obtain ⟨y, _, rfl⟩ := List.mem_map.mp mx
      exact .str 0 y
theorem ldue_cc (m : Nat) {lt : List Nat} (hL : LL lt) (M : Int) : CC m 11 [fr (ldue lt M), fr (ldue lt M)] = .ok (.bl true) [] := same_ok (sm_ldue hL M) (m + 79) (by omega)
theorem toldL_cc (m : Nat) {lt : List Nat} (hL : LL lt) (M : Int) : CC m 23 [.str lt, .str kL, .int M] = .ok (ldue lt M) [] := told_list (m + 77) hL M
theorem due_cc (m : Nat) {lt : List Nat} (hL : LL lt) (M : Int) : CC m 27 [.str lt, .int M] = .ok (ldue lt M) [] := due_list (m + 77) hL M
theorem toldN_cc (m : Nat) {lt : List Nat} (hL : LL lt) {t : T} (hin : t.inn lt) (hz : t.sz ≤ 60) : CC m 23 [.str lt, .str kN, .str t.tx] = .ok (.int (t.num lt)) [] := (c_to (m + 79) _).trans (toN _ _ _ _ (tn_ok hL hin hz (m + 15)))
theorem toldNm_cc (m : Nat) (lt : List Nat) {t : T} (hz : 60 < t.sz) (hz2 : t.sz ≤ 100000) : CC m 23 [.str lt, .str kN, .str t.tx] = .ok (maT t.sz) [] := (c_to (m + 79) _).trans (toNm _ _ _ _ (tn_many (m + 77) lt hz hz2))
theorem toldT_cc (m : Nat) {lt : List Nat} (hL : LL lt) {t : T} (hin : t.inn lt) (hz : t.sz ≤ 60) : CC m 23 [.str lt, .str kT, .int (t.num lt)] = .ok (.str t.tx) [] := (c_to (m + 79) _).trans (toT _ _ _ _ (tb_ok hL hin hz (m + 9)))
theorem toldTm_cc (m : Nat) {lt : List Nat} (hL : LL lt) (n : Nat) (hn : base lt.length 61 ≤ n) : CC m 23 [.str lt, .str kT, .int n] = .ok (maT 61) [] := (c_to (m + 79) _).trans (toTm _ _ _ _ (tb_many hL n hn (m + 9)))
theorem toldTb_cc (m : Nat) (lt : List Nat) {i : Int} (h : i < 0) : CC m 23 [.str lt, .str kT, .int i] = .ok (baT i) [] := (c_to (m + 79) _).trans (toTb _ _ _ _ (tb_bad (m + 78) lt h))
theorem cb_cc (m : Nat) {lt : List Nat} (hL : LL lt) (a b : T) (ha : a.inn lt) (hb : b.inn lt) (hza : a.sz ≤ 60) (hzb : b.sz ≤ 60) : CC m 10 [.str lt, .str a.tx, .str b.tx] = .ok (.bl (decide (a.num lt < b.num lt))) [] := by
  have h := cb_ok hL a b ha hb (by omega) (by omega) (m + 77) (by omega)
  have ht := (T.tri hL.l1 hL.nd (T.inn_ok hL.no ha) (T.inn_ok hL.no hb) ha hb).2
  have e : T.cb lt a b = decide (a.num lt < b.num lt) := by
    rw [Bool.eq_iff_iff, ← ht]; simp
  rw [← e]; exact h
theorem num_cc (m : Nat) {lt : List Nat} (hL : LL lt) {t : T} (hin : t.inn lt) (hz : t.sz ≤ 60) : CC m 26 [.str lt, .lst false (NL (cL lt.length 70)), .str t.tx] = .ok (.int (t.num lt)) [] := ln_ok hL hin (by omega) (m + 6)
theorem spots_cc (m : Nat) {t : T} (hok : t.ok) (hz : t.sz ≤ 60) : CC m 21 [.str t.tx] = .ok (.lst true (PL t.spots)) [] := lsp_ok t hok (by omega) (m + 77) (by omega)
theorem tree_cc (m : Nat) {lt : List Nat} (hL : LL lt) (ps : List Int) (j : Int) (hj : j ≤ 60) : ∃ (t : T) (ps' : List Int), t.inn lt ∧ t.sz = j.toNat ∧ CC m 20 [PK ps, .str lt, .int j] = .ok (.str t.tx) [PK ps'] := by
  have hne : lt ≠ [] := fun z => by have := hL.l1; rw [z] at this; simp at this
  have hl3 := hL.l3
  obtain ⟨t, ps', h1, h2, h4, h3⟩ := tree_ok lt hne hL.no (by omega) 60 (by omega) j (by omega) (m + 16) ps
  exact ⟨t, ps', T.inn_of h1 h4, h2, h3⟩
/-- the letters of the law -/
def LY (lt : List Nat) : Prop := ∃ c c0 : Nat, c ∈ lt ∧ lt.idxOf c + 1 = lt.length ∧ gIx (.str lt) (.int (-1)) = some (.str [c]) ∧ c0 ∈ lt ∧ gIx (.str lt) (.int 0) = some (.str [c0])
structure LX (lt : List Nat) : Prop extends LL lt where
  lc : LY lt
  ck : chk lt 0 (lvs lt (if lt.length > 1 then 3 else 5)).flatten = true
theorem lx1 : LX [97] := ⟨⟨by decide, by decide, by decide, by decide⟩, ⟨97, 97, by decide, by decide, rfl, by decide, rfl⟩, chk1⟩
theorem lx2 : LX [98, 97] := ⟨⟨by decide, by decide, by decide, by decide⟩, ⟨97, 98, by decide, by decide, rfl, by decide, rfl⟩, chk2⟩
theorem lx3 : LX [97, 98] := ⟨⟨by decide, by decide, by decide, by decide⟩, ⟨98, 97, by decide, by decide, rfl, by decide, rfl⟩, chk3⟩
theorem lx4 : LX [98, 99, 97] := ⟨⟨by decide, by decide, by decide, by decide⟩, ⟨97, 98, by decide, by decide, rfl, by decide, rfl⟩, chk4⟩
theorem l1 (m : Nat) (ns : List Int) (p2 p3 p4 p5 p6 p7 p8 p9 p10 p11 p12 p13 p14 p15 p16 p17 p18 p19 p20 p21 : Option D) : ∃ ps : List Int, t_law_1 (CC m) [some (.lk (ns.map D.int)), none, p2, p3, p4, p5, p6, p7, p8, p9, p10, p11, p12, p13, p14, p15, p16, p17, p18, p19, p20, p21] = .nx [some (.lk (ns.map D.int)), some (PK ps), p2, p3, p4, p5, p6, p7, p8, p9, p10, p11, p12, p13, p14, p15, p16, p17, p18, p19, p20, p21] := by
  obtain ⟨p0, _, e0⟩ := picks_ok (callF tbl (m + 79)) ns 0 40 (by omega) (by omega) (by omega) (by omega)
  have e0' : CC m 12 [.lk (ns.map D.int), .int 0, .int 40] = .ok (PK p0) [] := (c_picks (m + 79) _).trans e0
  exact ⟨p0, by simp [t_law_1, runF, endF, startF, outsOf, dSeq, dIfS, dOp, opR, dDisp, opRM, dCons, dNil, dIo, vals, splitIo, dVar, dMove, dC, dRet, dExp, dSkip, dAsg, sName, sTup, sNil, sCons, one, two, gLen, gEq, gNe, gEqS, gMod, gDiv, gSub, gAdd, gAddI, gAddL, gMul, gMulI, gPow, gAbs, gIx, gLt, gLe, gGt, gGe, gCmp, gIsi, isTy, isNon, gList, opLst, opTup, dPop, dAppend, dReverse, dSetIx, dIf, dAnd, dOr, dNot, andP, isLst, dCall0, dCallIo, dFor, dIt, itR, itL, itS, itR1, itR2, itRev, itRR1, opSl, lod, gSl, clean, cleans, imm, imms, fr, fz, fz1, frs, frs_len, bdec, fr_fr, frs_ints, imms_ints, e0']⟩
theorem l2 (m : Nat) (ns : List Int) (p1 p3 p4 p5 p6 p7 p8 p9 p10 p11 p12 p13 p14 p15 p16 p17 p18 p19 p20 p21 : Option D) : ∃ ps : List Int, t_law_2 (CC m) [some (.lk (ns.map D.int)), p1, none, p3, p4, p5, p6, p7, p8, p9, p10, p11, p12, p13, p14, p15, p16, p17, p18, p19, p20, p21] = .nx [some (.lk (ns.map D.int)), p1, some (PK ps), p3, p4, p5, p6, p7, p8, p9, p10, p11, p12, p13, p14, p15, p16, p17, p18, p19, p20, p21] := by
  obtain ⟨p0, _, e0⟩ := picks_ok (callF tbl (m + 79)) ns 1 420 (by omega) (by omega) (by omega) (by omega)
  have e0' : CC m 12 [.lk (ns.map D.int), .int 1, .int 420] = .ok (PK p0) [] := (c_picks (m + 79) _).trans e0
  exact ⟨p0, by simp [t_law_2, runF, endF, startF, outsOf, dSeq, dIfS, dOp, opR, dDisp, opRM, dCons, dNil, dIo, vals, splitIo, dVar, dMove, dC, dRet, dExp, dSkip, dAsg, sName, sTup, sNil, sCons, one, two, gLen, gEq, gNe, gEqS, gMod, gDiv, gSub, gAdd, gAddI, gAddL, gMul, gMulI, gPow, gAbs, gIx, gLt, gLe, gGt, gGe, gCmp, gIsi, isTy, isNon, gList, opLst, opTup, dPop, dAppend, dReverse, dSetIx, dIf, dAnd, dOr, dNot, andP, isLst, dCall0, dCallIo, dFor, dIt, itR, itL, itS, itR1, itR2, itRev, itRR1, opSl, lod, gSl, clean, cleans, imm, imms, fr, fz, fz1, frs, frs_len, bdec, fr_fr, frs_ints, imms_ints, e0']⟩
theorem l3 (m : Nat) (sh : List Int) (p0 p2 p4 p5 p6 p7 p8 p9 p10 p11 p12 p13 p14 p15 p16 p17 p18 p19 p20 p21 : Option D) : ∃ lt : List Nat, LX lt ∧ t_law_3 (CC m) [p0, some (PK sh), p2, none, p4, p5, p6, p7, p8, p9, p10, p11, p12, p13, p14, p15, p16, p17, p18, p19, p20, p21] = .nx [p0, some (PK sh.dropLast), p2, some (.str lt), p4, p5, p6, p7, p8, p9, p10, p11, p12, p13, p14, p15, p16, p17, p18, p19, p20, p21] := by
  have lst := pe_disp (ρ := [p0, some (PK sh), p2, none, p4, p5, p6, p7, p8, p9, p10, p11, p12, p13, p14, p15, p16, p17, p18, p19, p20, p21]) (f := opLst) (peA_cons (pe_c (d := .str [97])) (peA_cons (pe_c (d := .str [98, 97])) (peA_cons (pe_c (d := .str [97, 98])) (peA_cons (pe_c (d := .str [98, 99, 97])) peA_nil)))) (d := .lst true (wds [[97], [98, 97], [97, 98], [98, 99, 97]])) rfl
  obtain ⟨x, hx, e⟩ := one_cc m sh false (wds [[97], [98, 97], [97, 98], [98, 99, 97]]) (by simp [wds])
  obtain ⟨lt, rfl, hlt⟩ : ∃ lt : List Nat, x = .str lt ∧ LX lt := by
    simp only [wds, List.map_cons, List.map_nil, List.mem_cons, List.not_mem_nil, or_false] at hx
    rcases hx with rfl | rfl | rfl | rfl
    · exact ⟨_, rfl, lx1⟩
    · exact ⟨_, rfl, lx2⟩
    · exact ⟨_, rfl, lx3⟩
    · exact ⟨_, rfl, lx4⟩
  exact ⟨lt, hlt, sev_asg (ev_callIo (i := 1) (u := PK sh) (g := CC m 14) (j := 0) rfl rfl (evA_cons lst.ev evA_nil) rfl e) rfl⟩
theorem l4 (m : Nat) (sh : List Int) (p0 p2 p3 p5 p6 p7 p8 p9 p10 p11 p12 p13 p14 p15 p16 p17 p18 p19 p20 p21 : Option D) : ∃ g : Nat, 0 < g ∧ g ≤ 61 ∧ t_law_4 (CC m) [p0, some (PK sh), p2, p3, none, p5, p6, p7, p8, p9, p10, p11, p12, p13, p14, p15, p16, p17, p18, p19, p20, p21] = .nx [p0, some (PK sh.dropLast), p2, p3, some (.int g), p5, p6, p7, p8, p9, p10, p11, p12, p13, p14, p15, p16, p17, p18, p19, p20, p21] := by
  have ec := ev_callIo (ρ := [p0, some (PK sh), p2, p3, none, p5, p6, p7, p8, p9, p10, p11, p12, p13, p14, p15, p16, p17, p18, p19, p20, p21]) (i := 1) (u := PK sh) (g := CC m 13) (j := 0) rfl rfl (evA_cons (pe_c (d := .int 4)).ev evA_nil) rfl (pick_cc m sh 4 (by omega))
  by_cases h : pk sh 4 = 3
  · rw [h] at ec
    exact ⟨61, by omega, by omega, sev_asg (ev_if_t (ev_op2 (g := gEq) ec (pe_c (d := .int 3)).ev (d := .bl true) rfl) (pe_c (d := .int 61)).ev) rfl⟩
  · exact ⟨10, by omega, by omega, sev_asg (ev_if_f (ev_op2 (g := gEq) ec (pe_c (d := .int 3)).ev (d := .bl false) (by simp [gEq, gEqS, h])) (pe_c (d := .int 10)).ev) rfl⟩
theorem l5 (m : Nat) {lt : List Nat} (hL : LX lt) (p0 p1 p2 p4 p6 p7 p8 p9 p10 p11 p12 p13 p14 p15 p16 p17 p18 p19 p20 p21 : Option D) : t_law_5 (CC m) [p0, p1, p2, some (.str lt), p4, none, p6, p7, p8, p9, p10, p11, p12, p13, p14, p15, p16, p17, p18, p19, p20, p21] = .nx [p0, p1, p2, some (.str lt), p4, some (.lst true (NL (cL lt.length 70))), p6, p7, p8, p9, p10, p11, p12, p13, p14, p15, p16, p17, p18, p19, p20, p21] := by
  have ec : CC m 24 [.str lt, .int 70] = .ok (.lst true (NL (cL lt.length 70))) [] := law_counts_ok (m + 79) hL.toLL 70 (by omega)
  generalize hc : cL lt.length 70 = c70 at *
  exact sev_asg (pe_call (g := CC m 24) (rdA_cons (pe_var (i := 3) (d := .str lt) rfl rfl).rd (rdA_cons (pe_c (d := .int 70)).rd rdA_nil)) ec (cleans_NL _)).ev rfl
end TB
end
section
set_option Elab.async false
set_option linter.all false
set_option maxRecDepth 100000
set_option maxHeartbeats 1000000
namespace TB
open PySem PySem.Spec L2
def TL (ts : List T) : List D := wds (ts.map T.tx)
theorem frs_TL (ts : List T) : frs (TL ts) = TL ts := frs_wds _
theorem fr_TL (w : Bool) (ts : List T) : fr (.lst w (TL ts)) = .lst false (TL ts) := fr_wds _ _
theorem TL_len (ts : List T) : (TL ts).length = ts.length := by simp [TL, wds]
theorem TL_app (a b : List T) : TL (a ++ b) = TL a ++ TL b := by simp [TL, wds]
theorem gIx_TL (w : Bool) (ts : List T) (i : Nat) (t : T) (h : ts[i]? = some t) : gIx (.lst w (TL ts)) (.int i) = some (.str t.tx) := by
  show (atI (TL ts) (i : Int)).map fr = _
  rw [atI_i, TL, wds, List.getElem?_map, List.getElem?_map, h]; rfl
def Ok (lt : List Nat) (t : T) : Prop := t.inn lt ∧ t.sz ≤ 60
theorem l6 (m : Nat) {lt : List Nat} (hL : LX lt) (sh ps : List Int) (g : Nat) (hg : 0 < g) (hg2 : g ≤ 61) (p0 p5 p7 p8 p9 p10 p11 p12 p13 p14 p15 p16 p17 p18 p20 p21 : Option D) : ∃ (sh' ps' : List Int) (ts : List T), (∀ t ∈ ts, Ok lt t) ∧ ts.length = 3 ∧ t_law_6 (CC m) [p0, some (PK sh), some (PK ps), some (.str lt), some (.int g), p5, none, p7, p8, p9, p10, p11, p12, p13, p14, p15, p16, p17, p18, none, p20, p21] = .nx [p0, some (PK sh'), some (PK ps'), some (.str lt), some (.int g), p5, some (.lst true (TL ts)), p7, p8, p9, p10, p11, p12, p13, p14, p15, p16, p17, p18, none, p20, p21] := by
  obtain ⟨acc, ρe, he, sh', ps', ts, rfl, h2, h3, rfl⟩ := ev_compI (g := sName (cmpl [19] 22) 19) (vs := [19]) (δe := dCallIo 0 (CC m 20) (dIo 2 (dCons (dVar 3) (dCons (dCallIo 0 (CC m 13) (dIo 1 (dCons (dVar 4) dNil))) dNil)))) (f := itR1) (items := rng 0 3) (hold := []) (ρ2 := [p0, some (PK sh), some (PK ps), some (.str lt), some (.int g), p5, none, p7, p8, p9, p10, p11, p12, p13, p14, p15, p16, p17, p18, none, p20, p21])
    (fun i acc ρ => ∃ (sh' ps' : List Int) (ts : List T), acc = TL ts ∧ (∀ t ∈ ts, Ok lt t) ∧ ts.length = i ∧ ρ = [p0, some (PK sh'), some (PK ps'), some (.str lt), some (.int g), p5, none, p7, p8, p9, p10, p11, p12, p13, p14, p15, p16, p17, p18, none, p20, p21]) (evA_cons (pe_c (ρ := [p0, some (PK sh), some (PK ps), some (.str lt), some (.int g), p5, none, p7, p8, p9, p10, p11, p12, p13, p14, p15, p16, p17, p18, none, p20, p21]) (d := .int 3)).ev evA_nil) (itR1_nat 3 (by omega)) rfl (fun i d acc ρ hd hI => by
      obtain ⟨sh1, ps1, ts, rfl, h2, h3, rfl⟩ := hI
      have ec := ev_callIo (ρ := [p0, some (PK sh1), some (PK ps1), some (.str lt), some (.int g), p5, none, p7, p8, p9, p10, p11, p12, p13, p14, p15, p16, p17, p18, some (d), p20, p21]) (i := 1) (u := PK sh1) (g := CC m 13) (j := 0) rfl rfl (evA_cons (pe_var (i := 4) (d := .int g) rfl rfl).ev evA_nil) rfl (pick_cc m sh1 g (by omega))
      obtain ⟨a, ha, ha2⟩ := pk_nat sh1 g hg
      rw [ha] at ec
      obtain ⟨t, ps2, t1, t2, e⟩ := tree_cc m hL.toLL ps1 (a : Int) (by omega)
      have et := ev_callIo (i := 2) (u := PK ps1) (g := CC m 20) (j := 0) rfl rfl (evA_cons (pe_var (ρ := [p0, some (PK sh1), some (PK ps1), some (.str lt), some (.int g), p5, none, p7, p8, p9, p10, p11, p12, p13, p14, p15, p16, p17, p18, some (d), p20, p21]) (i := 3) (d := .str lt) rfl rfl).ev (evA_cons ec evA_nil)) rfl e
      refine ⟨[p0, some (PK sh1), some (PK ps1), some (.str lt), some (.int g), p5, none, p7, p8, p9, p10, p11, p12, p13, p14, p15, p16, p17, p18, some (d), p20, p21], .str t.tx, _, rfl, et, rfl, sh1.dropLast, ps2, ts ++ [t], ?_, fun u mu => ?_, by simp [h3], rfl⟩
      · rw [TL_app]; rfl
      · rcases List.mem_append.mp mu with z | z
        · exact h2 u z
        · rw [List.mem_singleton.mp z]; exact ⟨t1, by omega⟩) (by rw [rng_len]; omega) ⟨sh, ps, [], rfl, (fun _ z => by cases z), rfl, rfl⟩
  rw [rng_len] at h3
  exact ⟨sh', ps', ts, h2, h3, sev_asg he rfl⟩
theorem l7 (m : Nat) (ts : List T) (t0 : T) (h : ts[0]? = some t0) (hz : t0.sz ≤ 60) (p0 p1 p2 p3 p4 p5 p8 p9 p10 p11 p12 p13 p14 p15 p16 p17 p18 p19 p20 p21 : Option D) : t_law_7 (CC m) [p0, p1, p2, p3, p4, p5, some (.lst true (TL ts)), none, p8, p9, p10, p11, p12, p13, p14, p15, p16, p17, p18, p19, p20, p21] = .nx [p0, p1, p2, p3, p4, p5, some (.lst true (TL ts)), some (.int t0.sz), p8, p9, p10, p11, p12, p13, p14, p15, p16, p17, p18, p19, p20, p21] := by
  have hl := t0.len
  have a := pe_op2 (g := gIx) (rd_var (ρ := [p0, p1, p2, p3, p4, p5, some (.lst true (TL ts)), none, p8, p9, p10, p11, p12, p13, p14, p15, p16, p17, p18, p19, p20, p21]) (i := 6) (d := .lst true (TL ts)) rfl) (pe_c (d := .int 0)).rd (d := .str t0.tx) (by rw [fr_TL]; exact gIx_TL false ts 0 t0 h) rfl
  refine sev_asg (pe_op2 (g := gDiv) (pe_op1 (g := gLen) a.rd (d := .int t0.tx.length) ?_ rfl).rd (pe_c (d := .int 2)).rd (d := .int t0.sz) ?_ rfl).ev rfl
  · have : t0.tx.length ≤ 16777216 := by omega
    simp [gLen, this]
  · have : (t0.tx.length : Int) / 2 = t0.sz := by omega
    simp [gDiv, this]
def Fw : D → Option D
  | .tup [.str w, _] => some (.str w)
  | _ => none
theorem fm_Fw : ∀ l : List (List Nat × Nat), (PL l).filterMap Fw = wds (l.map (·.1))
  | [] => rfl
  | p :: l => by
    have := fm_Fw l
    have e : PL (p :: l) = pairD p :: PL l := rfl
    rw [e, List.filterMap_cons, show Fw (pairD p) = some (.str p.1) from rfl, this]; rfl
theorem gAdd_TL (v w : Bool) (a b : List T) (h : a.length + b.length ≤ 1000000) : gAdd (.lst v (TL a)) (.lst w (TL b)) = some (.lst true (TL (a ++ b))) := by
  have := gAdd_wds v w (a.map T.tx) (b.map T.tx) (by simpa using h)
  rw [← List.map_append] at this
  exact this
theorem l8 (m : Nat) {lt : List Nat} (hL : LX lt) (sh : List Int) (ts : List T) (t0 : T) (h : ts[0]? = some t0) (h0 : Ok lt t0) (hn : ts.length = 3) (p0 p2 p3 p4 p5 p7 p8 p9 p10 p11 p12 p13 p14 p15 p16 p17 p18 p19 p20 : Option D) : ∃ t1 : T, Ok lt t1 ∧ t_law_8 (CC m) [p0, some (PK sh), p2, p3, p4, p5, some (.lst true (TL ts)), p7, p8, p9, p10, p11, p12, p13, p14, p15, p16, p17, p18, p19, p20, none] = .nx [p0, some (PK sh.dropLast), p2, p3, p4, p5, some (.lst true (TL (ts ++ [t0, t1]))), p7, p8, p9, p10, p11, p12, p13, p14, p15, p16, p17, p18, p19, p20, none] := by
  have hok := T.inn_ok hL.no h0.1
  have hz := h0.2
  have hl := t0.len
  have hf : fz1 6 [p0, some (PK sh), p2, p3, p4, p5, some (.lst true (TL ts)), p7, p8, p9, p10, p11, p12, p13, p14, p15, p16, p17, p18, p19, p20, none] = [p0, some (PK sh), p2, p3, p4, p5, some (.lst false (TL ts)), p7, p8, p9, p10, p11, p12, p13, p14, p15, p16, p17, p18, p19, p20, none] := by simp [fz1, fr, frs_TL]
  have a : ∀ s : List Int, Pe (dOp (two gIx) (dCons (dVar 6) (dCons (dC (.int 0)) dNil))) [p0, some (PK s), p2, p3, p4, p5, some (.lst false (TL ts)), p7, p8, p9, p10, p11, p12, p13, p14, p15, p16, p17, p18, p19, p20, none] (.str t0.tx) := fun s => pe_op2 (g := gIx) (pu_var (i := 6) rfl (fr_TL _ _)).rd (pe_c (d := .int 0)).rd (gIx_TL false ts 0 t0 h) rfl
  have sp := pe_call (g := CC m 21) (rdA_cons (a sh).rd rdA_nil) (spots_cc m hok hz) (cleans_PL _)
  have comp := pe_comp (ρ := [p0, some (PK sh), p2, p3, p4, p5, some (.lst false (TL ts)), p7, p8, p9, p10, p11, p12, p13, p14, p15, p16, p17, p18, p19, p20, none]) (vs := [21]) (g := sName (cmpl [21] 22) 21) (δc := dTrue) (δ := dOp (two gIx) (dCons (dVar 21) (dCons (dC (.int 0)) dNil))) Fw
    (rdA_cons sp.rd rdA_nil) (f := itL) (items := PL t0.spots) (hold := [.lst false (PL t0.spots)]) (itL_own true _ (frs_PL _)) rfl (ρ2 := [p0, some (PK sh), p2, p3, p4, p5, some (.lst false (TL ts)), p7, p8, p9, p10, p11, p12, p13, p14, p15, p16, p17, p18, p19, p20, none]) rfl (fun d hd => by
      obtain ⟨p, _, rfl⟩ := List.mem_map.mp hd
      exact ⟨[p0, some (PK sh), p2, p3, p4, p5, some (.lst false (TL ts)), p7, p8, p9, p10, p11, p12, p13, p14, p15, p16, p17, p18, p19, p20, (some (pairD p))], rfl, rfl, .inr ⟨.str p.1, rfl, pe_true, pe_op2 (g := gIx) (pe_var (i := 21) (d := pairD p) rfl rfl).rd (pe_c (d := .int 0)).rd (gIx_p0 p) rfl⟩⟩) (by rw [PL_len, T.spots_len]; omega) (by rw [fm_Fw]; exact imms_wds _)
  rw [fm_Fw] at comp
  have hne : wds (t0.spots.map (·.1)) ≠ [] := by
    cases t0 <;> simp [wds, T.spots]
  obtain ⟨x, hx, e⟩ := one_cc m sh false (wds (t0.spots.map (·.1))) hne
  obtain ⟨w, hw, rfl⟩ := List.mem_map.mp hx
  obtain ⟨p, hp, rfl⟩ := List.mem_map.mp hw
  obtain ⟨v, hv⟩ := t0.spot_at p hp
  have hwl := t0.spots_word p hp
  have e' : CC m 14 (PK sh :: frs [D.lst true (wds (t0.spots.map (·.1)))]) = .ok (.str p.1) [PK sh.dropLast] := by
    show CC m 14 [PK sh, fr (.lst true (wds (t0.spots.map (·.1))))] = _
    rw [fr_wds]; exact e
  have ec := ev_callIo (i := 1) (u := PK sh) (g := CC m 14) (j := 0) rfl rfl (evA_cons comp.ev evA_nil) rfl e'
  have ep := lput_ok (p := .leaf) (by decide) p.1 t0 v hok (by omega) (by omega) hv (m + 77) (by omega)
  have ep' : CC m 22 [.str t0.tx, .str p.1, .str [46]] = .ok (.str (T.put .leaf t0 p.1).tx) [] := ep
  have call := ev_call (g := CC m 22) (evA_cons (a sh).ev (evA_cons ec (evA_cons (pe_c (d := .str [46])).ev evA_nil))) ep'
  have lst := ev_disp (f := opLst) (d := .lst true (TL [t0, T.put .leaf t0 p.1])) (evA_cons (a sh).ev (evA_cons call evA_nil)) rfl
  have hpl := T.put_len .leaf t0 p.1
  have hpz := (T.put .leaf t0 p.1).len
  have h1 : T.leaf.tx.length = 1 := rfl
  refine ⟨T.put .leaf t0 p.1, ⟨T.put_inn (p := .leaf) trivial h0.1, by omega⟩, ?_⟩
  have hcl : clean (.lst true (TL (ts ++ [t0, T.put .leaf t0 p.1]))) = true := cleans_wds _
  exact sev_asgOwn (i := 6) (f := gAdd) (d0 := .lst true (TL ts)) (ρ2 := [p0, some (PK sh.dropLast), p2, p3, p4, p5, some (.lst false (TL ts)), p7, p8, p9, p10, p11, p12, p13, p14, p15, p16, p17, p18, p19, p20, none]) rfl (by rw [hf]; exact lst) (by rw [fr_TL]; exact gAdd_TL _ _ ts _ (by simp; omega)) hcl (by simp)
end TB
end
section
set_option Elab.async false
set_option linter.all false
set_option maxRecDepth 100000
set_option maxHeartbeats 1000000
namespace TB
open PySem PySem.Spec L2
theorem sev_appendE {ρ ρ1 : VE} {i : Nat} {G : List D} {X : D} {δ : Den} (h0 : isLst ρ[i]? = true) (he : Ev δ ρ X ρ1) (h : ρ1[i]? = some (some (.lst true G))) (hl : G.length < 16777216) : dExp (dAppend i δ) ρ = .nx (ρ1.set i (some (.lst true (G ++ [X])))) := by
  obtain ⟨bs, p, e, f, q⟩ := he
  simp [dExp, dAppend, h0, e, f, h, hl, fz]
theorem l9 (m : Nat) {lt : List Nat} (hL : LX lt) (sh : List Int) (ts : List T) (t0 : T) (h : ts[0]? = some t0) (hts : ∀ t ∈ ts, Ok lt t) (hn : ts.length = 5) (p0 p2 p4 p5 p7 p8 p9 p10 p11 p12 p13 p14 p15 p16 p17 p18 p19 p20 p21 : Option D) : ∃ (sh' : List Int) (ts' : List T), (∀ t ∈ ts', Ok lt t) ∧ ts'.length ≤ 7 ∧ 5 ≤ ts'.length ∧ ts'[0]? = some t0 ∧ t_law_9 (CC m) [p0, some (PK sh), p2, some (.str lt), p4, p5, some (.lst true (TL ts)), p7, p8, p9, p10, p11, p12, p13, p14, p15, p16, p17, p18, p19, p20, p21] = .nx [p0, some (PK sh'), p2, some (.str lt), p4, p5, some (.lst true (TL ts')), p7, p8, p9, p10, p11, p12, p13, p14, p15, p16, p17, p18, p19, p20, p21] := by
  have h0 := hts t0 (List.mem_of_getElem? h)
  have hok := T.inn_ok hL.no h0.1
  have hz := h0.2
  have hl := t0.len
  have a : ∀ (s : List Int) (us : List T), us[0]? = some t0 → Pe (dOp (two gIx) (dCons (dVar 6) (dCons (dC (.int 0)) dNil))) [p0, some (PK s), p2, some (.str lt), p4, p5, some (.lst true (TL us)), p7, p8, p9, p10, p11, p12, p13, p14, p15, p16, p17, p18, p19, p20, p21] (.str t0.tx) := fun s us hu => pe_op2 (g := gIx) (rd_var (i := 6) rfl) (pe_c (d := .int 0)).rd (by rw [fr_TL]; exact gIx_TL false us 0 t0 hu) rfl
  have c := pe_op2 (g := gNe) (a sh ts h).rd (pe_c (d := .str [46])).rd (gNeS _ _) rfl
  cases t0 with
  | leaf => exact ⟨sh, ts, hts, by omega, by omega, h, sev_if_f c.ev⟩
  | node c0 l r =>
    rw [decide_eq_true (T.tx_ne c0 l r)] at c
    have hsz : (T.node c0 l r).sz = l.sz + r.sz + 1 := rfl
    have hne : wds (lt.map fun c => [c]) ≠ [] := by
      have := hL.l1
      cases lt with
      | nil => simp at this
      | cons x xs => simp [wds]
    obtain ⟨x, hx, e⟩ := one_cc m sh false (wds (lt.map fun c => [c])) hne
    obtain ⟨w, hw, rfl⟩ := List.mem_map.mp hx
    obtain ⟨c1, hc1, rfl⟩ := List.mem_map.mp hw
    have hlt : lt.length ≤ 16777216 := by have := hL.l3; omega
    have gl := pe_op1 (ρ := [p0, some (PK sh), p2, some (.str lt), p4, p5, some (.lst true (TL ts)), p7, p8, p9, p10, p11, p12, p13, p14, p15, p16, p17, p18, p19, p20, p21]) (g := gListS) (pe_var (i := 3) (d := .str lt) rfl rfl).rd (d := .lst true (wds (lt.map fun c => [c]))) (by simp [gListS, hlt, wds]) (cleans_wds _)
    have e' : CC m 14 (PK sh :: frs [D.lst true (wds (lt.map fun c => [c]))]) = .ok (.str [c1]) [PK sh.dropLast] := by
      show CC m 14 [PK sh, fr (.lst true (wds (lt.map fun c => [c])))] = _
      rw [fr_wds]; exact e
    have ec := ev_callIo (i := 1) (u := PK sh) (g := CC m 14) (j := 0) rfl rfl (evA_cons gl.ev evA_nil) rfl e'
    have dr := pe_op (f := opSl 1) (rdA_cons (a sh.dropLast ts h).rd (rdA_cons (pe_c (d := .int 1)).rd rdA_nil)) (d := .str (l.tx ++ r.tx)) (by
      have : (T.node c0 l r).tx.length ≤ 16777216 := by omega
      have e := cutL_from (T.node c0 l r).tx 1 (by omega)
      have e2 : cutL (T.node c0 l r).tx (some (1 : Int)) none = l.tx ++ r.tx := e
      simp [opSl, lod, gSl, this, e2]) rfl
    have hlr : (T.node c0 l r).tx.length = 1 + (l.tx.length + r.tx.length) := by simp [T.tx]; omega
    have nw := ev_op2 (g := gAdd) ec dr.ev (d := .str (T.node c1 l r).tx) (by
      have : 1 + (l.tx.length + r.tx.length) ≤ 16777216 := by omega
      show gAdd (.str [c1]) (.str (l.tx ++ r.tx)) = _
      simp [gAdd, gAddI, this, T.tx])
    have s10 : t_law_10 (CC m) [p0, some (PK sh), p2, some (.str lt), p4, p5, some (.lst true (TL ts)), p7, p8, p9, p10, p11, p12, p13, p14, p15, p16, p17, p18, p19, p20, p21] = .nx [p0, some (PK sh.dropLast), p2, some (.str lt), p4, p5, some (.lst true (TL (ts ++ [.node c1 l r]))), p7, p8, p9, p10, p11, p12, p13, p14, p15, p16, p17, p18, p19, p20, p21] := by
      have := sev_appendE (i := 6) (G := TL ts) rfl nw rfl (by rw [TL_len]; omega)
      rw [TL_app]; exact this
    have hu : (ts ++ [T.node c1 l r])[0]? = some (T.node c0 l r) := by rw [List.getElem?_append_left (by omega)]; exact h
    have el : CC m 16 [.str (T.node c0 l r).tx] = .ok (.str l.tx) [] := lleft_ok (m + 78) hok (by omega)
    have er : CC m 17 [.str (T.node c0 l r).tx] = .ok (.str r.tx) [] := lright_ok (m + 78) hok (by omega)
    have a2 := a sh.dropLast (ts ++ [T.node c1 l r]) hu
    have x1 := pe_op2 (g := gIx) a2.rd (pe_c (d := .int 0)).rd (gIx0 c0 (l.tx ++ r.tx) (by show (T.node c0 l r).tx.length ≤ _; omega)) rfl
    have x2 := pe_op2 (g := gAdd) x1.rd (pe_call (g := CC m 17) (rdA_cons a2.rd rdA_nil) er rfl).rd (d := .str (c0 :: r.tx)) (by
      have : 1 + r.tx.length ≤ 16777216 := by omega
      simp [gAdd, gAddI, this]) rfl
    have x3 := pe_op2 (g := gAdd) x2.rd (pe_call (g := CC m 16) (rdA_cons a2.rd rdA_nil) el rfl).rd (d := .str (T.node c0 r l).tx) (by
      have : r.tx.length + 1 + l.tx.length ≤ 16777216 := by omega
      simp [gAdd, gAddI, this, T.tx]) rfl
    have s11 : t_law_11 (CC m) [p0, some (PK sh.dropLast), p2, some (.str lt), p4, p5, some (.lst true (TL (ts ++ [.node c1 l r]))), p7, p8, p9, p10, p11, p12, p13, p14, p15, p16, p17, p18, p19, p20, p21] = .nx [p0, some (PK sh.dropLast), p2, some (.str lt), p4, p5, some (.lst true (TL (ts ++ [.node c1 l r] ++ [.node c0 r l]))), p7, p8, p9, p10, p11, p12, p13, p14, p15, p16, p17, p18, p19, p20, p21] := by
      have := sev_append (i := 6) (G := TL (ts ++ [.node c1 l r])) rfl x3 (by rw [TL_len]; simp; omega)
      rw [TL_app (ts ++ [T.node c1 l r]) [T.node c0 r l]]; exact this
    refine ⟨sh.dropLast, ts ++ [.node c1 l r] ++ [.node c0 r l], fun t mt => ?_, by simp; omega, by simp; omega, by rw [List.getElem?_append_left (by simp)]; exact hu, (sev_if_t c.ev).trans ((seq_nx s10).trans s11)⟩
    rcases List.mem_append.mp mt with z | z
    · rcases List.mem_append.mp z with z | z
      · exact hts t z
      · rw [List.mem_singleton.mp z]
        exact ⟨⟨hc1, h0.1.2.1, h0.1.2.2⟩, hz⟩
    · rw [List.mem_singleton.mp z]
      exact ⟨⟨h0.1.1, h0.1.2.2, h0.1.2.1⟩, by show r.sz + l.sz + 1 ≤ 60; omega⟩
open Classical in
noncomputable def Fn (lt : List Nat) (d : D) : Option D := if h : ∃ t : T, t.inn lt ∧ d = .str t.tx then some (.int (h.choose.num lt)) else none
theorem Fn_tx {lt : List Nat} (hd : 46 ∉ lt) {t : T} (h : t.inn lt) : Fn lt (.str t.tx) = some (.int (t.num lt)) := by
  have hex : ∃ u : T, u.inn lt ∧ D.str t.tx = .str u.tx := ⟨t, h, rfl⟩
  unfold Fn
  rw [dif_pos hex]
  obtain ⟨h1, h2⟩ := hex.choose_spec
  have h3 : t.tx = hex.choose.tx := by injection h2
  have : t = hex.choose := (T.tx_eq (T.inn_ok hd h) (T.inn_ok hd h1)).mp h3
  rw [← this]
theorem fm_Fn {lt : List Nat} (hd : 46 ∉ lt) : ∀ {ts : List T}, (∀ t ∈ ts, Ok lt t) → (TL ts).filterMap (Fn lt) = NL (ts.map (T.num lt))
  | [], _ => rfl
  | t :: ts, h => by
    have ih := fm_Fn hd (ts := ts) fun x m => h x (by simp [m])
    have e : TL (t :: ts) = .str t.tx :: TL ts := rfl
    rw [e, List.filterMap_cons, Fn_tx hd (h t (by simp)).1, ih]; rfl
theorem l12 (m : Nat) {lt : List Nat} (hL : LX lt) (ts : List T) (hts : ∀ t ∈ ts, Ok lt t) (hn : ts.length ≤ 7) (p0 p1 p2 p4 p7 p9 p10 p11 p12 p13 p14 p15 p16 p17 p18 p19 p21 : Option D) : t_law_12 (CC m) [p0, p1, p2, some (.str lt), p4, some (.lst true (NL (cL lt.length 70))), some (.lst true (TL ts)), p7, none, p9, p10, p11, p12, p13, p14, p15, p16, p17, p18, p19, none, p21] = .nx [p0, p1, p2, some (.str lt), p4, some (.lst true (NL (cL lt.length 70))), some (.lst true (TL ts)), p7, some (.lst true (NL (ts.map (T.num lt)))), p9, p10, p11, p12, p13, p14, p15, p16, p17, p18, p19, none, p21] := by
  have hnum : ∀ t ∈ ts, CC m 26 [.str lt, .lst false (NL (cL lt.length 70)), .str t.tx] = .ok (.int (t.num lt)) [] := fun t mt => num_cc m hL.toLL (hts t mt).1 (hts t mt).2
  have hfr := fr_NL true (cL lt.length 70)
  have hfr2 := fr_NL false (cL lt.length 70)
  generalize NL (cL lt.length 70) = K at *
  have hf : fz1 6 [p0, p1, p2, some (.str lt), p4, some (.lst true K), some (.lst true (TL ts)), p7, none, p9, p10, p11, p12, p13, p14, p15, p16, p17, p18, p19, none, p21] = [p0, p1, p2, some (.str lt), p4, some (.lst true K), some (.lst false (TL ts)), p7, none, p9, p10, p11, p12, p13, p14, p15, p16, p17, p18, p19, none, p21] := by simp [fz1, fr, frs_TL]
  have r6 := rd_var (ρ := [p0, p1, p2, some (.str lt), p4, some (.lst true K), some (.lst true (TL ts)), p7, none, p9, p10, p11, p12, p13, p14, p15, p16, p17, p18, p19, none, p21]) (i := 6) (d := .lst true (TL ts)) rfl
  rw [hf, fr_TL] at r6
  have comp := pe_comp (ρ := [p0, p1, p2, some (.str lt), p4, some (.lst true K), some (.lst true (TL ts)), p7, none, p9, p10, p11, p12, p13, p14, p15, p16, p17, p18, p19, none, p21]) (vs := [20]) (g := sName (cmpl [20] 22) 20) (δc := dTrue) (δ := dCall0 (CC m 26) (dCons (dVar 3) (dCons (dVar 5) (dCons (dVar 20) dNil)))) (Fn lt)
    (rdA_cons r6 rdA_nil) (f := itL) (items := TL ts) (hold := [.lst false (TL ts)]) (itL_wds false _) rfl (ρ2 := [p0, p1, p2, some (.str lt), p4, some (.lst true K), some (.lst false (TL ts)), p7, none, p9, p10, p11, p12, p13, p14, p15, p16, p17, p18, p19, none, p21]) rfl (fun d hd => by
      obtain ⟨x, hx, rfl⟩ := List.mem_map.mp hd
      obtain ⟨t, mt, rfl⟩ := List.mem_map.mp hx
      refine ⟨[p0, p1, p2, some (.str lt), p4, some (.lst true K), some (.lst false (TL ts)), p7, none, p9, p10, p11, p12, p13, p14, p15, p16, p17, p18, p19, some (.str t.tx), p21], rfl, rfl, .inr ⟨.int (t.num lt), Fn_tx hL.no (hts t mt).1, pe_true, ?_⟩⟩
      have hf5 : fz1 5 [p0, p1, p2, some (.str lt), p4, some (.lst true K), some (.lst false (TL ts)), p7, none, p9, p10, p11, p12, p13, p14, p15, p16, p17, p18, p19, some (.str t.tx), p21] = [p0, p1, p2, some (.str lt), p4, some (.lst false (frs K)), some (.lst false (TL ts)), p7, none, p9, p10, p11, p12, p13, p14, p15, p16, p17, p18, p19, some (.str t.tx), p21] := rfl
      have r5 := rd_var (ρ := [p0, p1, p2, some (.str lt), p4, some (.lst true K), some (.lst false (TL ts)), p7, none, p9, p10, p11, p12, p13, p14, p15, p16, p17, p18, p19, some (.str t.tx), p21]) (i := 5) (d := .lst true K) rfl
      rw [hf5] at r5
      exact pe_call (g := CC m 26) (rdA_cons (pe_var (i := 3) (d := .str lt) rfl rfl).rd (rdA_cons r5 (rdA_cons (pe_var (i := 20) (d := .str t.tx) rfl rfl).rd rdA_nil))) (by
        show CC m 26 [.str lt, fr (fr (.lst true K)), .str t.tx] = _
        rw [hfr, hfr2]; exact hnum t mt) rfl) (by rw [TL_len]; omega) (by rw [fm_Fn hL.no hts]; exact imms_NL _)
  rw [fm_Fn hL.no hts] at comp
  exact sev_asg comp.ev rfl
end TB
end
section
set_option Elab.async false
set_option linter.all false
set_option maxRecDepth 100000
set_option maxHeartbeats 1000000
namespace TB
open PySem PySem.Spec L2
theorem gIx_num (w : Bool) (lt : List Nat) (ts : List T) (i : Nat) (t : T) (h : ts[i]? = some t) : gIx (.lst w (NL (ts.map (T.num lt)))) (.int i) = some (.int (t.num lt)) := by
  have hi : i < ts.length := (List.getElem?_eq_some_iff.mp h).1
  rw [gIx_NL _ _ _ (by simpa using hi), List.getD_eq_getElem?_getD, List.getElem?_map, h]; rfl
theorem l13 (m : Nat) {lt : List Nat} (hL : LX lt) (ts : List T) (hts : ∀ t ∈ ts, Ok lt t) (hn : ts.length ≤ 7) (p0 p1 p2 p4 p5 p7 p10 p11 p12 p13 p14 p15 p17 p18 p19 p20 p21 : Option D) (y9 y16 : Option D) : ∃ z9 z16, t_law_13 (CC m) [p0, p1, p2, some (.str lt), p4, p5, some (.lst true (TL ts)), p7, some (.lst true (NL (ts.map (T.num lt)))), (y9), p10, p11, p12, p13, p14, p15, (y16), p17, p18, p19, p20, p21] = .nx [p0, p1, p2, some (.str lt), p4, p5, some (.lst true (TL ts)), p7, some (.lst true (NL (ts.map (T.num lt)))), (z9), p10, p11, p12, p13, p14, p15, (z16), p17, p18, p19, p20, p21] := by
  have tr : ∀ (i : Nat) (t : T) (ρ : VE) (j : Nat) , ρ[6]? = some (some (.lst true (TL ts))) → (fz1 6 ρ)[j]? = some (some (.int i)) → ts[i]? = some t → Pe (dOp (two gIx) (dCons (dVar 6) (dCons (dVar j) dNil))) ρ (.str t.tx) := fun i t ρ j h1 h2 h3 => pe_op2 (g := gIx) (rd_var h1) (pe_var h2 rfl).rd (by rw [fr_TL]; exact gIx_TL false ts i t h3) rfl
  have nu : ∀ (i : Nat) (t : T) (ρ : VE) (j : Nat) , ρ[8]? = some (some (.lst true (NL (ts.map (T.num lt))))) → (fz1 8 ρ)[j]? = some (some (.int i)) → ts[i]? = some t → Pe (dOp (two gIx) (dCons (dVar 8) (dCons (dVar j) dNil))) ρ (.int (t.num lt)) := fun i t ρ j h1 h2 h3 => pe_op2 (g := gIx) (rd_var h1) (pe_var h2 rfl).rd (by rw [fr_NL]; exact gIx_num false lt ts i t h3) rfl
  have ln : ∀ (f s : Option D), Pe (dOp (one gLen) (dCons (dVar 6) dNil)) [p0, p1, p2, some (.str lt), p4, p5, some (.lst true (TL ts)), p7, some (.lst true (NL (ts.map (T.num lt)))), (f), p10, p11, p12, p13, p14, p15, (s), p17, p18, p19, p20, p21] (.int ts.length) := fun f s => pe_op1 (g := gLen) (rd_var (i := 6) rfl) (by rw [fr_TL]; simp [gLen, TL_len]) rfl
  obtain ⟨ρ', hl1, z9, z16, rfl⟩ := loop_inv (g := sName [] 9) (body := b_law_13 (CC m)) (items := rng 0 ts.length) (ρ := [p0, p1, p2, some (.str lt), p4, p5, some (.lst true (TL ts)), p7, some (.lst true (NL (ts.map (T.num lt)))), (y9), p10, p11, p12, p13, p14, p15, (y16), p17, p18, p19, p20, p21])
    (fun i ρ => ∃ z9 z16, ρ = [p0, p1, p2, some (.str lt), p4, p5, some (.lst true (TL ts)), p7, some (.lst true (NL (ts.map (T.num lt)))), (z9), p10, p11, p12, p13, p14, p15, (z16), p17, p18, p19, p20, p21]) (fun i d ρ hi hI => by
      obtain ⟨z9, z16, rfl⟩ := hI
      obtain ⟨e, hlt⟩ := rng_get hi
      rw [Int.zero_add] at e
      subst e
      have hti : ts[i]? = some ts[i] := List.getElem?_eq_getElem hlt
      have hoi := hts ts[i] (List.getElem_mem _)
      obtain ⟨ρ2, hl2, w16, rfl⟩ := loop_inv (g := sName [] 16) (body := b_law_14 (CC m)) (items := rng 0 ts.length) (ρ := [p0, p1, p2, some (.str lt), p4, p5, some (.lst true (TL ts)), p7, some (.lst true (NL (ts.map (T.num lt)))), some (.int i), p10, p11, p12, p13, p14, p15, (z16), p17, p18, p19, p20, p21])
        (fun _ ρ => ∃ w16, ρ = [p0, p1, p2, some (.str lt), p4, p5, some (.lst true (TL ts)), p7, some (.lst true (NL (ts.map (T.num lt)))), some (.int i), p10, p11, p12, p13, p14, p15, (w16), p17, p18, p19, p20, p21]) (fun j d ρ hj hI => by
          obtain ⟨w16, rfl⟩ := hI
          obtain ⟨e, hlj⟩ := rng_get hj
          rw [Int.zero_add] at e
          subst e
          have htj : ts[j]? = some ts[j] := List.getElem?_eq_getElem hlj
          have hoj := hts ts[j] (List.getElem_mem _)
          have a1 := tr i ts[i] [p0, p1, p2, some (.str lt), p4, p5, some (.lst true (TL ts)), p7, some (.lst true (NL (ts.map (T.num lt)))), some (.int i), p10, p11, p12, p13, p14, p15, some (.int j), p17, p18, p19, p20, p21] 9 rfl rfl hti
          have a2 := tr j ts[j] [p0, p1, p2, some (.str lt), p4, p5, some (.lst true (TL ts)), p7, some (.lst true (NL (ts.map (T.num lt)))), some (.int i), p10, p11, p12, p13, p14, p15, some (.int j), p17, p18, p19, p20, p21] 16 rfl rfl htj
          have b1 := nu i ts[i] [p0, p1, p2, some (.str lt), p4, p5, some (.lst true (TL ts)), p7, some (.lst true (NL (ts.map (T.num lt)))), some (.int i), p10, p11, p12, p13, p14, p15, some (.int j), p17, p18, p19, p20, p21] 9 rfl rfl hti
          have b2 := nu j ts[j] [p0, p1, p2, some (.str lt), p4, p5, some (.lst true (TL ts)), p7, some (.lst true (NL (ts.map (T.num lt)))), some (.int i), p10, p11, p12, p13, p14, p15, some (.int j), p17, p18, p19, p20, p21] 16 rfl rfl htj
          have c1 := pe_call (g := CC m 10) (rdA_cons (pe_var (i := 3) (d := .str lt) rfl rfl).rd (rdA_cons a1.rd (rdA_cons a2.rd rdA_nil))) (cb_cc m hL.toLL ts[i] ts[j] hoi.1 hoj.1 hoi.2 hoj.2) rfl
          have c2 := pe_op2 (g := gLt) b1.rd b2.rd (d := .bl (decide (ts[i].num lt < ts[j].num lt))) (by
            have : gLt (.int (ts[i].num lt)) (.int (ts[j].num lt)) = some (.bl (decide ((ts[i].num lt : Int) < ts[j].num lt))) := rfl
            rw [this]; simp) rfl
          have hb : b_law_14 (CC m) [p0, p1, p2, some (.str lt), p4, p5, some (.lst true (TL ts)), p7, some (.lst true (NL (ts.map (T.num lt)))), some (.int i), p10, p11, p12, p13, p14, p15, some (.int j), p17, p18, p19, p20, p21] = .nx [p0, p1, p2, some (.str lt), p4, p5, some (.lst true (TL ts)), p7, some (.lst true (NL (ts.map (T.num lt)))), some (.int i), p10, p11, p12, p13, p14, p15, some (.int j), p17, p18, p19, p20, p21] := by
            show t_law_15 _ _ = _
            unfold t_law_15
            exact sev_if_f (pe_not (pe_call (g := CC m 11) (d := .bl true) (rdA_cons c1.rd (rdA_cons c2.rd rdA_nil)) (bl_cc m _) rfl)).ev
          exact ⟨_, sName_ok (by simp), _, .inl hb, _, rfl⟩) ⟨z16, rfl⟩
      have s14 : t_law_14 (CC m) [p0, p1, p2, some (.str lt), p4, p5, some (.lst true (TL ts)), p7, some (.lst true (NL (ts.map (T.num lt)))), some (.int i), p10, p11, p12, p13, p14, p15, (z16), p17, p18, p19, p20, p21] = .nx [p0, p1, p2, some (.str lt), p4, p5, some (.lst true (TL ts)), p7, some (.lst true (NL (ts.map (T.num lt)))), some (.int i), p10, p11, p12, p13, p14, p15, (w16), p17, p18, p19, p20, p21] := (srd_for (rdA_cons (ln _ _).rd rdA_nil) (itR1_nat ts.length (by omega))).trans hl2
      have a1 := tr i ts[i] [p0, p1, p2, some (.str lt), p4, p5, some (.lst true (TL ts)), p7, some (.lst true (NL (ts.map (T.num lt)))), some (.int i), p10, p11, p12, p13, p14, p15, (w16), p17, p18, p19, p20, p21] 9 rfl rfl hti
      have b1 := nu i ts[i] [p0, p1, p2, some (.str lt), p4, p5, some (.lst true (TL ts)), p7, some (.lst true (NL (ts.map (T.num lt)))), some (.int i), p10, p11, p12, p13, p14, p15, (w16), p17, p18, p19, p20, p21] 9 rfl rfl hti
      have c1 := pe_call (g := CC m 23) (rdA_cons (pe_var (i := 3) (d := .str lt) rfl rfl).rd (rdA_cons (pe_c (d := .str kN)).rd (rdA_cons a1.rd rdA_nil))) (toldN_cc m hL.toLL hoi.1 hoi.2) rfl
      have s17 : t_law_17 (CC m) [p0, p1, p2, some (.str lt), p4, p5, some (.lst true (TL ts)), p7, some (.lst true (NL (ts.map (T.num lt)))), some (.int i), p10, p11, p12, p13, p14, p15, (w16), p17, p18, p19, p20, p21] = .nx [p0, p1, p2, some (.str lt), p4, p5, some (.lst true (TL ts)), p7, some (.lst true (NL (ts.map (T.num lt)))), some (.int i), p10, p11, p12, p13, p14, p15, (w16), p17, p18, p19, p20, p21] := sev_if_f (pe_not (pe_call (g := CC m 11) (d := .bl true) (rdA_cons c1.rd (rdA_cons b1.rd rdA_nil)) (int_cc m _) rfl)).ev
      exact ⟨_, sName_ok (by simp), _, .inl ((seq_nx s14).trans s17), _, _, rfl⟩) ⟨y9, y16, rfl⟩
  exact ⟨z9, z16, (srd_for (rdA_cons (ln _ _).rd rdA_nil) (itR1_nat ts.length (by omega))).trans hl1⟩
theorem l19 (m : Nat) {lt : List Nat} (hL : LX lt) (ts : List T) (hts : ∀ t ∈ ts, Ok lt t) (h5 : 5 ≤ ts.length) (p0 p1 p2 p4 p5 p7 p9 p11 p12 p13 p14 p15 p16 p17 p18 p19 p20 p21 : Option D) (y : Option D) : ∃ z, t_law_19 (CC m) [p0, p1, p2, some (.str lt), p4, p5, some (.lst true (TL ts)), p7, some (.lst true (NL (ts.map (T.num lt)))), p9, (y), p11, p12, p13, p14, p15, p16, p17, p18, p19, p20, p21] = .nx [p0, p1, p2, some (.str lt), p4, p5, some (.lst true (TL ts)), p7, some (.lst true (NL (ts.map (T.num lt)))), p9, (z), p11, p12, p13, p14, p15, p16, p17, p18, p19, p20, p21] := by
  have it := pe_disp (ρ := [p0, p1, p2, some (.str lt), p4, p5, some (.lst true (TL ts)), p7, some (.lst true (NL (ts.map (T.num lt)))), p9, (y), p11, p12, p13, p14, p15, p16, p17, p18, p19, p20, p21]) (f := opTup) (peA_cons (pe_c (d := .int 0)) (peA_cons (pe_c (d := .int 1)) peA_nil)) (d := .tup [.int 0, .int 1]) rfl
  obtain ⟨ρ', hl1, z, rfl⟩ := loop_inv (g := sName [] 10) (body := b_law_19 (CC m)) (items := [.int 0, .int 1]) (ρ := [p0, p1, p2, some (.str lt), p4, p5, some (.lst true (TL ts)), p7, some (.lst true (NL (ts.map (T.num lt)))), p9, (y), p11, p12, p13, p14, p15, p16, p17, p18, p19, p20, p21])
    (fun _ ρ => ∃ z, ρ = [p0, p1, p2, some (.str lt), p4, p5, some (.lst true (TL ts)), p7, some (.lst true (NL (ts.map (T.num lt)))), p9, (z), p11, p12, p13, p14, p15, p16, p17, p18, p19, p20, p21]) (fun i d ρ hi hI => by
      obtain ⟨z, rfl⟩ := hI
      have hd := List.mem_of_getElem? hi
      obtain ⟨j, rfl, hj⟩ : ∃ j : Nat, d = .int j ∧ j < 2 := by
        simp only [List.mem_cons, List.not_mem_nil, or_false] at hd
        rcases hd with rfl | rfl
        · exact ⟨0, rfl, by omega⟩
        · exact ⟨1, rfl, by omega⟩
      have htj : ts[j]? = some ts[j] := List.getElem?_eq_getElem (by omega)
      have hoj := hts ts[j] (List.getElem_mem _)
      have a1 := pe_op2 (ρ := [p0, p1, p2, some (.str lt), p4, p5, some (.lst true (TL ts)), p7, some (.lst true (NL (ts.map (T.num lt)))), p9, some (.int j), p11, p12, p13, p14, p15, p16, p17, p18, p19, p20, p21]) (g := gIx) (rd_var (i := 6) rfl) (pe_var (i := 10) (d := .int j) rfl rfl).rd (by rw [fr_TL]; exact gIx_TL false ts j _ htj) rfl
      have b1 := pe_op2 (ρ := [p0, p1, p2, some (.str lt), p4, p5, some (.lst true (TL ts)), p7, some (.lst true (NL (ts.map (T.num lt)))), p9, some (.int j), p11, p12, p13, p14, p15, p16, p17, p18, p19, p20, p21]) (g := gIx) (rd_var (i := 8) rfl) (pe_var (i := 10) (d := .int j) rfl rfl).rd (by rw [fr_NL]; exact gIx_num false lt ts j _ htj) rfl
      have c1 := pe_call (g := CC m 23) (rdA_cons (pe_var (i := 3) (d := .str lt) rfl rfl).rd (rdA_cons (pe_c (d := .str kT)).rd (rdA_cons b1.rd rdA_nil))) (toldT_cc m hL.toLL hoj.1 hoj.2) rfl
      have hb : b_law_19 (CC m) [p0, p1, p2, some (.str lt), p4, p5, some (.lst true (TL ts)), p7, some (.lst true (NL (ts.map (T.num lt)))), p9, some (.int j), p11, p12, p13, p14, p15, p16, p17, p18, p19, p20, p21] = .nx [p0, p1, p2, some (.str lt), p4, p5, some (.lst true (TL ts)), p7, some (.lst true (NL (ts.map (T.num lt)))), p9, some (.int j), p11, p12, p13, p14, p15, p16, p17, p18, p19, p20, p21] := by
        show t_law_20 _ _ = _
        unfold t_law_20
        exact sev_if_f (pe_not (pe_call (g := CC m 11) (d := .bl true) (rdA_cons c1.rd (rdA_cons a1.rd rdA_nil)) (str_cc m _) rfl)).ev
      exact ⟨_, sName_ok (by simp), _, .inl hb, _, rfl⟩) ⟨y, rfl⟩
  exact ⟨z, (srd_for (rdA_cons it.rd rdA_nil) rfl).trans hl1⟩
theorem l22 (m : Nat) {lt : List Nat} (hL : LX lt) (sh : List Int) (s : Nat) (p0 p2 p4 p5 p6 p8 p9 p10 p12 p13 p14 p15 p16 p17 p18 p19 p20 p21 : Option D) (y : Option D) : ∃ sh' z, t_law_22 (CC m) [p0, some (PK sh), p2, some (.str lt), p4, p5, p6, some (.int s), p8, p9, p10, (y), p12, p13, p14, p15, p16, p17, p18, p19, p20, p21] = .nx [p0, some (PK sh'), p2, some (.str lt), p4, p5, p6, some (.int s), p8, p9, p10, (z), p12, p13, p14, p15, p16, p17, p18, p19, p20, p21] := by
  have c1 := ev_callIo (ρ := [p0, some (PK sh), p2, some (.str lt), p4, p5, p6, some (.int s), p8, p9, p10, (y), p12, p13, p14, p15, p16, p17, p18, p19, p20, p21]) (i := 1) (u := PK sh) (g := CC m 13) (j := 0) rfl rfl (evA_cons (pe_c (d := .int 4)).ev evA_nil) rfl (pick_cc m sh 4 (by omega))
  have c2 := ev_callIo (ρ := [p0, some (PK sh.dropLast), p2, some (.str lt), p4, p5, p6, some (.int s), p8, p9, p10, (y), p12, p13, p14, p15, p16, p17, p18, p19, p20, p21]) (i := 1) (u := PK sh.dropLast) (g := CC m 13) (j := 0) rfl rfl (evA_cons (pe_c (d := .int 3)).ev evA_nil) rfl (pick_cc m sh.dropLast 3 (by omega))
  have c3 := ev_callIo (ρ := [p0, some (PK sh.dropLast.dropLast), p2, some (.str lt), p4, p5, p6, some (.int s), p8, p9, p10, (y), p12, p13, p14, p15, p16, p17, p18, p19, p20, p21]) (i := 1) (u := PK sh.dropLast.dropLast) (g := CC m 13) (j := 0) rfl rfl (evA_cons (pe_c (d := .int 4)).ev evA_nil) rfl (pick_cc m sh.dropLast.dropLast 4 (by omega))
  have d2 := ev_op2 (g := gSub) (pe_op2 (g := gSub) (pe_c (d := .int 0)).rd (pe_c (d := .int 1)).rd (d := .int (-1)) rfl rfl).ev c2 (d := .int (-1 - pk sh.dropLast 3)) rfl
  have d3 := ev_op2 (g := gAdd) (pe_c (d := .int 9)).ev c3 (d := .int (9 + pk sh.dropLast.dropLast 4)) rfl
  have d4 := pe_op2 (ρ := [p0, some (PK sh.dropLast.dropLast.dropLast), p2, some (.str lt), p4, p5, p6, some (.int s), p8, p9, p10, (y), p12, p13, p14, p15, p16, p17, p18, p19, p20, p21]) (g := gAdd) (pe_op2 (g := gPow) (pe_c (d := .int 10)).rd (pe_c (d := .int 20)).rd (d := .int (10 ^ 20)) rfl rfl).rd (pe_var (i := 7) (d := .int s) rfl rfl).rd (d := .int (10 ^ 20 + s)) rfl rfl
  have e := ev_disp (f := opLst) (evA_cons c1 (evA_cons d2 (evA_cons d3 (evA_cons d4.ev evA_nil)))) (d := .lst true [.int (pk sh 4), .int (-1 - pk sh.dropLast 3), .int (9 + pk sh.dropLast.dropLast 4), .int (10 ^ 20 + s)]) rfl
  obtain ⟨ρ', hl1, z, rfl⟩ := loop_inv (g := sName [] 11) (body := b_law_22 (CC m)) (items := [.int (pk sh 4), .int (-1 - pk sh.dropLast 3), .int (9 + pk sh.dropLast.dropLast 4), .int (10 ^ 20 + s)]) (ρ := [p0, some (PK sh.dropLast.dropLast.dropLast), p2, some (.str lt), p4, p5, p6, some (.int s), p8, p9, p10, (y), p12, p13, p14, p15, p16, p17, p18, p19, p20, p21])
    (fun _ ρ => ∃ z, ρ = [p0, some (PK sh.dropLast.dropLast.dropLast), p2, some (.str lt), p4, p5, p6, some (.int s), p8, p9, p10, (z), p12, p13, p14, p15, p16, p17, p18, p19, p20, p21]) (fun i d ρ hi hI => by
      obtain ⟨z, rfl⟩ := hI
      have hd := List.mem_of_getElem? hi
      obtain ⟨M, rfl⟩ : ∃ M : Int, d = .int M := by
        simp only [List.mem_cons, List.not_mem_nil, or_false] at hd
        rcases hd with rfl | rfl | rfl | rfl <;> exact ⟨_, rfl⟩
      have v3 : ∀ M : Int, Pe (dVar 3) [p0, some (PK sh.dropLast.dropLast.dropLast), p2, some (.str lt), p4, p5, p6, some (.int s), p8, p9, p10, some (.int M), p12, p13, p14, p15, p16, p17, p18, p19, p20, p21] (.str lt) := fun M => pe_var rfl rfl
      have v11 : ∀ M : Int, Pe (dVar 11) [p0, some (PK sh.dropLast.dropLast.dropLast), p2, some (.str lt), p4, p5, p6, some (.int s), p8, p9, p10, some (.int M), p12, p13, p14, p15, p16, p17, p18, p19, p20, p21] (.int M) := fun M => pe_var rfl rfl
      have t1 := ev_call (g := CC m 23) (evA_cons (v3 M).ev (evA_cons (pe_c (d := .str kL)).ev (evA_cons (v11 M).ev evA_nil))) (toldL_cc m hL.toLL M)
      have t2 := ev_call (g := CC m 27) (evA_cons (v3 M).ev (evA_cons (v11 M).ev evA_nil)) (due_cc m hL.toLL M)
      have hb : b_law_22 (CC m) [p0, some (PK sh.dropLast.dropLast.dropLast), p2, some (.str lt), p4, p5, p6, some (.int s), p8, p9, p10, some (.int M), p12, p13, p14, p15, p16, p17, p18, p19, p20, p21] = .nx [p0, some (PK sh.dropLast.dropLast.dropLast), p2, some (.str lt), p4, p5, p6, some (.int s), p8, p9, p10, some (.int M), p12, p13, p14, p15, p16, p17, p18, p19, p20, p21] := by
        show t_law_23 _ _ = _
        unfold t_law_23
        exact sev_if_f (ev_not (ev_call (g := CC m 11) (d := .bl true) (evA_cons t1 (evA_cons t2 evA_nil)) (ldue_cc m hL.toLL M)))
      exact ⟨_, sName_ok (by simp), _, .inl hb, _, rfl⟩) ⟨y, rfl⟩
  exact ⟨_, z, (sev_for (evA_cons e evA_nil) (f := itL) (hold := [.lst false [.int (pk sh 4), .int (-1 - pk sh.dropLast 3), .int (9 + pk sh.dropLast.dropLast 4), .int (10 ^ 20 + s)]]) rfl).trans hl1⟩
end TB
end
section
set_option Elab.async false
set_option linter.all false
set_option maxRecDepth 100000
set_option maxHeartbeats 1000000
namespace TB
open PySem PySem.Spec L2
def m0 (lt : List Nat) : Nat := if lt.length > 1 then 3 else 5
def Few (lt : List Nat) : List (List Nat) := (lvs lt (m0 lt)).flatten
theorem m0_base {lt : List Nat} (hL : LX lt) : base lt.length (m0 lt + 1) ≤ 5000 ∧ m0 lt ≤ 20 := by
  have h1 := hL.l1
  have h3 := hL.l3
  have hm : m0 lt < 10 := by unfold m0; split <;> omega
  have := lst_iff h1 h3 hm
  have hl : m0 lt < lst lt.length := by
    unfold m0 lst
    have : lt.length = 1 ∨ lt.length = 2 ∨ lt.length = 3 := by omega
    rcases this with h | h | h <;> rw [h] <;> decide
  omega
theorem Few_len {lt : List Nat} (hL : LX lt) : 0 < (Few lt).length ∧ (Few lt).length ≤ 5000 := by
  have h := lvs_flat_len lt (m0 lt)
  have hb := (m0_base hL).1
  have h1 := base_mono lt.length (show 1 ≤ m0 lt + 1 by omega)
  have h2 : base lt.length 1 = 1 := by rw [base_succ]; rfl
  unfold Few
  omega
theorem Few_at {lt : List Nat} (hL : LX lt) (j : Nat) (h : j < (Few lt).length) : ∃ t : T, Ok lt t ∧ t.tx = (Few lt)[j] ∧ t.num lt = j := by
  obtain ⟨t, a, b, c, d⟩ := chk_ok hL.ck j _ (List.getElem?_eq_getElem (l := Few lt) h)
  exact ⟨t, ⟨a, by omega⟩, c, by omega⟩
theorem l25 (m : Nat) {lt : List Nat} (hL : LX lt) (p0 p1 p2 p4 p5 p6 p7 p8 p9 p10 p11 p13 p14 p15 p16 p17 p18 p19 p20 p21 : Option D) : t_law_25 (CC m) [p0, p1, p2, some (.str lt), p4, p5, p6, p7, p8, p9, p10, p11, none, p13, p14, p15, p16, p17, p18, p19, p20, p21] = .nx [p0, p1, p2, some (.str lt), p4, p5, p6, p7, p8, p9, p10, p11, some (.lst true (wds (Few lt))), p13, p14, p15, p16, p17, p18, p19, p20, p21] := by
  have hb := m0_base hL
  have et : CC m 19 [.str lt, .int (m0 lt)] = .ok (.lst true (wds (Few lt))) [] := ltr_ok (m + 78) (m0 lt) hb.1 hb.2
  have v3 : Pe (dVar 3) [p0, p1, p2, some (.str lt), p4, p5, p6, p7, p8, p9, p10, p11, none, p13, p14, p15, p16, p17, p18, p19, p20, p21] (.str lt) := pe_var rfl rfl
  have hlt : lt.length ≤ 16777216 := by have := hL.l3; omega
  have c := pe_op2 (g := gGt) (pe_op1 (g := gLen) v3.rd (d := .int lt.length) (by simp [gLen, hlt]) rfl).rd (pe_c (d := .int 1)).rd (d := .bl (decide ((1 : Int) < lt.length))) rfl rfl
  have sel : Pe (dIf (dOp (two gGt) (dCons (dOp (one gLen) (dCons (dVar 3) dNil)) (dCons (dC (.int 1)) dNil))) (dC (.int 3)) (dC (.int 5))) [p0, p1, p2, some (.str lt), p4, p5, p6, p7, p8, p9, p10, p11, none, p13, p14, p15, p16, p17, p18, p19, p20, p21] (.int (m0 lt)) := by
    unfold m0
    by_cases h : lt.length > 1
    · rw [if_pos h]
      rw [decide_eq_true (by omega)] at c
      unfold Pe at *
      simp [dIf, c, dC, fz, andP]
    · rw [if_neg h]
      rw [decide_eq_false (by omega)] at c
      unfold Pe at *
      simp [dIf, c, dC, fz, andP]
  exact sev_asg (pe_call (g := CC m 19) (rdA_cons v3.rd (rdA_cons sel.rd rdA_nil)) et (cleans_wds _)).ev rfl
theorem l26 (m : Nat) {lt : List Nat} (hL : LX lt) (sh : List Int) (p0 p2 p3 p4 p5 p6 p7 p8 p9 p10 p11 p14 p15 p16 p17 p18 p19 p20 p21 : Option D) : ∃ j : Nat, j < (Few lt).length ∧ t_law_26 (CC m) [p0, some (PK sh), p2, p3, p4, p5, p6, p7, p8, p9, p10, p11, some (.lst true (wds (Few lt))), none, p14, p15, p16, p17, p18, p19, p20, p21] = .nx [p0, some (PK sh.dropLast), p2, p3, p4, p5, p6, p7, p8, p9, p10, p11, some (.lst true (wds (Few lt))), some (.int j), p14, p15, p16, p17, p18, p19, p20, p21] := by
  have hx := Few_len hL
  have a := pe_op1 (g := gLen) (rd_var (ρ := [p0, some (PK sh), p2, p3, p4, p5, p6, p7, p8, p9, p10, p11, some (.lst true (wds (Few lt))), none, p14, p15, p16, p17, p18, p19, p20, p21]) (i := 12) rfl) (d := .int (Few lt).length) (by rw [fr_wds]; simp [gLen, wds_len]) rfl
  have ec := ev_callIo (i := 1) (u := PK sh) (g := CC m 13) (j := 0) rfl rfl (evA_cons a.ev evA_nil) rfl (pick_cc m sh (Few lt).length (by omega))
  obtain ⟨j, hj, hj2⟩ := pk_nat sh (Few lt).length hx.1
  rw [hj] at ec
  exact ⟨j, hj2, sev_asg ec rfl⟩
theorem l27 (m : Nat) {lt : List Nat} (hL : LX lt) (j : Nat) (hj : j < (Few lt).length) (p0 p1 p2 p4 p5 p6 p7 p8 p9 p10 p11 p14 p15 p16 p17 p18 p19 p20 p21 : Option D) : t_law_27 (CC m) [p0, p1, p2, some (.str lt), p4, p5, p6, p7, p8, p9, p10, p11, some (.lst true (wds (Few lt))), some (.int j), p14, p15, p16, p17, p18, p19, p20, p21] = .nx [p0, p1, p2, some (.str lt), p4, p5, p6, p7, p8, p9, p10, p11, some (.lst true (wds (Few lt))), some (.int j), p14, p15, p16, p17, p18, p19, p20, p21] := by
  obtain ⟨t, hok, htx, hnum⟩ := Few_at hL j hj
  have et := toldT_cc m hL.toLL hok.1 hok.2
  rw [hnum, htx] at et
  have c1 := pe_call (ρ := [p0, p1, p2, some (.str lt), p4, p5, p6, p7, p8, p9, p10, p11, some (.lst true (wds (Few lt))), some (.int j), p14, p15, p16, p17, p18, p19, p20, p21]) (g := CC m 23) (rdA_cons (pe_var (i := 3) (d := .str lt) rfl rfl).rd (rdA_cons (pe_c (d := .str kT)).rd (rdA_cons (pe_var (i := 13) (d := .int j) rfl rfl).rd rdA_nil))) et rfl
  have c2 := pe_op2 (ρ := [p0, p1, p2, some (.str lt), p4, p5, p6, p7, p8, p9, p10, p11, some (.lst true (wds (Few lt))), some (.int j), p14, p15, p16, p17, p18, p19, p20, p21]) (g := gIx) (rd_var (i := 12) rfl) (pe_var (i := 13) (d := .int j) rfl rfl).rd (d := .str (Few lt)[j]) (by
    rw [fr_wds]
    show (atI (wds (Few lt)) (j : Int)).map fr = _
    rw [atI_i, wds, List.getElem?_map, List.getElem?_eq_getElem hj]; rfl) rfl
  exact sev_if_f (pe_not (pe_call (g := CC m 11) (d := .bl true) (rdA_cons c1.rd (rdA_cons c2.rd rdA_nil)) (str_cc m _) rfl)).ev
theorem l29 (m : Nat) (lt : List Nat) (j : Nat) (p0 p1 p2 p4 p5 p6 p7 p8 p9 p10 p11 p12 p14 p15 p16 p17 p18 p19 p20 p21 : Option D) : t_law_29 (CC m) [p0, p1, p2, some (.str lt), p4, p5, p6, p7, p8, p9, p10, p11, p12, some (.int j), p14, p15, p16, p17, p18, p19, p20, p21] = .nx [p0, p1, p2, some (.str lt), p4, p5, p6, p7, p8, p9, p10, p11, p12, some (.int j), p14, p15, p16, p17, p18, p19, p20, p21] := by
  have n := pe_op2 (ρ := [p0, p1, p2, some (.str lt), p4, p5, p6, p7, p8, p9, p10, p11, p12, some (.int j), p14, p15, p16, p17, p18, p19, p20, p21]) (g := gSub) (pe_op2 (g := gSub) (pe_c (d := .int 0)).rd (pe_c (d := .int 1)).rd (d := .int (-1)) rfl rfl).rd (pe_var (i := 13) (d := .int j) rfl rfl).rd (d := .int (-1 - j)) rfl rfl
  have c1 := pe_call (g := CC m 23) (rdA_cons (pe_var (i := 3) (d := .str lt) rfl rfl).rd (rdA_cons (pe_c (d := .str kT)).rd (rdA_cons n.rd rdA_nil))) (toldTb_cc m lt (by omega)) rfl
  have c2 := pe_disp (f := opTup) (peA_cons (pe_c (d := .str [98, 97, 100])) (peA_cons n (peA_cons (pe_c (d := .bl true)) peA_nil))) (d := baT (-1 - j)) rfl
  exact sev_if_f (pe_not (pe_call (g := CC m 11) (d := .bl true) (rdA_cons c1.rd (rdA_cons c2.rd rdA_nil)) (ba_cc m _) rfl)).ev
theorem l31 (m : Nat) (sh : List Int) (p0 p2 p3 p4 p5 p6 p7 p8 p9 p10 p11 p12 p13 p15 p16 p17 p18 p19 p20 p21 : Option D) : t_law_31 (CC m) [p0, some (PK sh), p2, p3, p4, p5, p6, p7, p8, p9, p10, p11, p12, p13, none, p15, p16, p17, p18, p19, p20, p21] = .nx [p0, some (PK sh.dropLast), p2, p3, p4, p5, p6, p7, p8, p9, p10, p11, p12, p13, some (.int (pk sh 8)), p15, p16, p17, p18, p19, p20, p21] :=
  sev_asg (ev_callIo (ρ := [p0, some (PK sh), p2, p3, p4, p5, p6, p7, p8, p9, p10, p11, p12, p13, none, p15, p16, p17, p18, p19, p20, p21]) (i := 1) (u := PK sh) (g := CC m 13) (j := 0) rfl rfl (evA_cons (pe_c (d := .int 8)).ev evA_nil) rfl (pick_cc m sh 8 (by omega))) rfl
/-! ### the tall ones -/
def tall (c : Nat) : Nat → T
  | 0 => .leaf
  | n + 1 => .node c (tall c n) .leaf
theorem tall_sz (c : Nat) : ∀ n, (tall c n).sz = n
  | 0 => rfl
  | n + 1 => by show (tall c n).sz + 0 + 1 = _; rw [tall_sz c n]
theorem tall_tx (c : Nat) : ∀ n, (tall c n).tx = List.replicate n c ++ List.replicate (n + 1) 46
  | 0 => rfl
  | n + 1 => by
    show c :: ((tall c n).tx ++ [46]) = _
    have e1 : List.replicate (n + 1 + 1) (46 : Nat) = List.replicate (n + 1) 46 ++ [46] := List.replicate_succ'
    have e2 : List.replicate (n + 1) c = c :: List.replicate n c := rfl
    rw [tall_tx c n, e1, e2, List.cons_append, List.append_assoc]
theorem tall_inn {lt : List Nat} {c : Nat} (h : c ∈ lt) : ∀ n, (tall c n).inn lt
  | 0 => trivial
  | n + 1 => ⟨h, tall_inn h n, trivial⟩
theorem tall_nu {lt : List Nat} (hL : LL lt) {c : Nat} (hc : lt.idxOf c + 1 = lt.length) : ∀ n, (tall c n).nu lt + 1 = C lt.length n
  | 0 => rfl
  | n + 1 => by
    have ih := tall_nu hL hc n
    have hs := tall_sz c n
    rw [C_succ]
    have e : (tall c (n + 1)).nu lt = lt.idxOf c * P lt.length n (n + 1) + P lt.length n n + (tall c n).nu lt * C lt.length 0 + 0 := by
      show lt.idxOf c * P lt.length ((tall c n).sz + 0) ((tall c n).sz + 0 + 1) + P lt.length ((tall c n).sz + 0) (tall c n).sz + (tall c n).nu lt * C lt.length 0 + 0 = _
      rw [hs]; rfl
    have hp := P_succ lt.length n n
    rw [Nat.sub_self, C_zero, Nat.mul_one] at hp
    have hm : lt.length * P lt.length n (n + 1) = lt.idxOf c * P lt.length n (n + 1) + P lt.length n (n + 1) := by
      rw [← hc, Nat.succ_mul]
    rw [e, C_zero, Nat.mul_one, hm]
    omega
end TB
end
section
set_option Elab.async false
set_option linter.all false
set_option maxRecDepth 100000
set_option maxHeartbeats 1000000
namespace TB
open PySem PySem.Spec L2
theorem gMulS_1 (c n : Nat) (hn : n ≤ 100000) : gMulS (.str [c]) (.int n) = some (.str (List.replicate n c)) := by
  have h1 : ([c] : List Nat).length ≤ 64 ∧ -(2 ^ 63 : Int) ≤ (n : Int) ∧ (n : Int) ≤ 200000 := ⟨by simp, by rw [p63]; omega, by omega⟩
  have rep : (List.replicate n [c]).flatten = List.replicate n c := by
    clear hn h1
    induction n with
    | zero => rfl
    | succ n ih => simp [List.replicate_succ, ih]
  simp only [gMulS]
  rw [if_pos h1, Int.toNat_natCast, rep]
theorem gAdd_str (x y : List Nat) (h : x.length + y.length ≤ 16777216) : gAdd (.str x) (.str y) = some (.str (x ++ y)) := by
  simp only [gAdd, gAddI, if_pos h, Option.some_or]
theorem sum61 (K : List Nat) (B : Nat) (hK : (K.take 61).sum = B) (p0 p1 p2 p3 p4 p6 p7 p8 p9 p10 p11 p12 p13 p14 p15 p16 p17 p18 p19 p20 p21 : Option D) : Pe (dOp (one gSum) (dCons (dOp (opSl 0) (dCons (dVar 5) (dCons (dC (.int 61)) dNil))) dNil)) [p0, p1, p2, p3, p4, some (.lst true (NL K)), p6, p7, p8, p9, p10, p11, p12, p13, p14, p15, p16, p17, p18, p19, p20, p21] (.int B) := by
  have h1 : opSl 0 [fr (.lst true (NL K)), .int 61] = some (.lst true (NL (K.take 61))) := opSl_NL true K 61
  have a := pe_op1 (g := gSum) (pe_op (f := opSl 0) (rdA_cons (rd_var (ρ := [p0, p1, p2, p3, p4, some (.lst true (NL K)), p6, p7, p8, p9, p10, p11, p12, p13, p14, p15, p16, p17, p18, p19, p20, p21]) (i := 5) (d := .lst true (NL K)) rfl) (rdA_cons (pe_c (d := .int 61)).rd rdA_nil)) h1 (cleans_NL _)).rd (gSum_NL true _) rfl
  rw [hK] at a
  exact a
theorem l37 (m : Nat) {lt : List Nat} (hL : LX lt) (sh : List Int) (kk : Int) (p0 p2 p4 p5 p6 p7 p8 p9 p10 p12 p13 p15 p16 p17 p18 p19 p20 p21 : Option D) (y : Option D) : (∃ ρ', t_law_37 (CC m) [p0, some (PK sh), p2, some (.str lt), p4, p5, p6, p7, p8, p9, p10, (y), p12, p13, some (.int kk), p15, p16, p17, p18, p19, p20, p21] = .rt (.bl true) ρ') ∨ t_law_37 (CC m) [p0, some (PK sh), p2, some (.str lt), p4, p5, p6, p7, p8, p9, p10, (y), p12, p13, some (.int kk), p15, p16, p17, p18, p19, p20, p21] = .nx [p0, some (PK sh), p2, some (.str lt), p4, p5, p6, p7, p8, p9, p10, (y), p12, p13, some (.int kk), p15, p16, p17, p18, p19, p20, p21] := by
  have v14 : Pe (dVar 14) [p0, some (PK sh), p2, some (.str lt), p4, p5, p6, p7, p8, p9, p10, (y), p12, p13, some (.int kk), p15, p16, p17, p18, p19, p20, p21] (.int kk) := pe_var rfl rfl
  by_cases h : kk = 6
  · subst h
    left
    have c := pe_op2 (g := gEq) v14.rd (pe_c (d := .int 6)).rd (d := .bl true) rfl rfl
    have ec := ev_callIo (ρ := [p0, some (PK sh), p2, some (.str lt), p4, p5, p6, p7, p8, p9, p10, (y), p12, p13, some (.int 6), p15, p16, p17, p18, p19, p20, p21]) (i := 1) (u := PK sh) (g := CC m 13) (j := 0) rfl rfl (evA_cons (pe_c (d := .int 6)).ev evA_nil) rfl (pick_cc m sh 6 (by omega))
    have s38 : t_law_38 (CC m) [p0, some (PK sh), p2, some (.str lt), p4, p5, p6, p7, p8, p9, p10, (y), p12, p13, some (.int 6), p15, p16, p17, p18, p19, p20, p21] = .nx [p0, some (PK sh.dropLast), p2, some (.str lt), p4, p5, p6, p7, p8, p9, p10, some (.int (4 + pk sh 6)), p12, p13, some (.int 6), p15, p16, p17, p18, p19, p20, p21] := sev_asg (ev_op2 (g := gAdd) (pe_c (d := .int 4)).ev ec (d := .int (4 + pk sh 6)) rfl) rfl
    generalize 4 + pk sh 6 = M at *
    have v3 : Pe (dVar 3) [p0, some (PK sh.dropLast), p2, some (.str lt), p4, p5, p6, p7, p8, p9, p10, some (.int M), p12, p13, some (.int 6), p15, p16, p17, p18, p19, p20, p21] (.str lt) := pe_var rfl rfl
    have v11 : Pe (dVar 11) [p0, some (PK sh.dropLast), p2, some (.str lt), p4, p5, p6, p7, p8, p9, p10, some (.int M), p12, p13, some (.int 6), p15, p16, p17, p18, p19, p20, p21] (.int M) := pe_var rfl rfl
    have t1 := ev_call (g := CC m 23) (evA_cons v3.ev (evA_cons (pe_c (d := .str kL)).ev (evA_cons v11.ev evA_nil))) (toldL_cc m hL.toLL M)
    have t2 := ev_call (g := CC m 27) (evA_cons v3.ev (evA_cons v11.ev evA_nil)) (due_cc m hL.toLL M)
    have s39 := sev_ret (ev_call (g := CC m 11) (d := .bl true) (evA_cons t1 (evA_cons t2 evA_nil)) (ldue_cc m hL.toLL M))
    exact ⟨_, (sev_if_t c.ev).trans ((seq_nx s38).trans s39)⟩
  · right
    have c := pe_op2 (g := gEq) v14.rd (pe_c (d := .int 6)).rd (d := .bl false) (by simp [gEq, gEqS, h]) rfl
    exact sev_if_f c.ev
theorem l40 (m : Nat) {lt : List Nat} (hL : LX lt) (s : Nat) (hs : s ≤ 60) (p0 p1 p2 p4 p5 p6 p8 p9 p10 p11 p12 p13 p14 p16 p17 p18 p19 p20 p21 : Option D) : ∃ ρ', dSeq (t_law_40 (CC m)) (t_law_41 (CC m)) [p0, p1, p2, some (.str lt), p4, p5, p6, some (.int s), p8, p9, p10, p11, p12, p13, p14, none, p16, p17, p18, p19, p20, p21] = .rt (.bl true) ρ' := by
  obtain ⟨c, c0, hc, hci, hcl, hc0, hcl0⟩ := hL.lc
  have v7 : ∀ y, Pe (dVar 7) [p0, p1, p2, some (.str lt), p4, p5, p6, some (.int s), p8, p9, p10, p11, p12, p13, p14, (y), p16, p17, p18, p19, p20, p21] (.int s) := fun y => pe_var rfl rfl
  have v3 : ∀ y, Pe (dVar 3) [p0, p1, p2, some (.str lt), p4, p5, p6, some (.int s), p8, p9, p10, p11, p12, p13, p14, (y), p16, p17, p18, p19, p20, p21] (.str lt) := fun y => pe_var rfl rfl
  have a1 := pe_op2 (g := gMulS) (pe_op2 (g := gIx) (v3 none).rd (pe_c (d := .int 0)).rd hcl0 rfl).rd (pe_op2 (g := gAdd) (pe_c (d := .int 61)).rd (v7 none).rd (d := .int (61 + s : Nat)) (by simp [gAdd, gAddI]) rfl).rd (gMulS_1 c0 (61 + s) (by omega)) rfl
  have a2 := pe_op2 (g := gMulS) (pe_c (d := .str [46])).rd (pe_op2 (g := gAdd) (pe_c (d := .int 62)).rd (v7 none).rd (d := .int (62 + s : Nat)) (by simp [gAdd, gAddI]) rfl).rd (gMulS_1 46 (62 + s) (by omega)) rfl
  have htx := tall_tx c0 (61 + s)
  rw [show 61 + s + 1 = 62 + s by omega] at htx
  have a3 := pe_op2 (g := gAdd) a1.rd a2.rd (gAdd_str _ _ (by simp; omega)) rfl
  rw [← htx] at a3
  have s40 : t_law_40 (CC m) [p0, p1, p2, some (.str lt), p4, p5, p6, some (.int s), p8, p9, p10, p11, p12, p13, p14, none, p16, p17, p18, p19, p20, p21] = .nx [p0, p1, p2, some (.str lt), p4, p5, p6, some (.int s), p8, p9, p10, p11, p12, p13, p14, some (.str (tall c0 (61 + s)).tx), p16, p17, p18, p19, p20, p21] := sev_asg a3.ev rfl
  have hz := tall_sz c0 (61 + s)
  have tm := toldNm_cc m lt (t := tall c0 (61 + s)) (by omega) (by omega)
  rw [hz] at tm
  have t0 := toldN_cc m hL.toLL (t := .leaf) trivial (by decide)
  have e0 : T.num lt .leaf = 0 := rfl
  rw [e0] at t0
  generalize (tall c0 (61 + s)).tx = X at *
  have b1 := pe_call (g := CC m 23) (rdA_cons (v3 (some (.str X))).rd (rdA_cons (pe_c (d := .str kN)).rd (rdA_cons (pe_var (i := 15) (d := .str X) rfl rfl).rd rdA_nil))) tm rfl
  have b2 := pe_call (g := CC m 23) (d := .int 0) (rdA_cons (v3 (some (.str X))).rd (rdA_cons (pe_c (d := .str kN)).rd (rdA_cons (pe_c (d := .str [46])).rd rdA_nil))) t0 rfl
  have d1 := pe_disp (f := opLst) (peA_cons b1 (peA_cons b2 peA_nil)) (d := .lst true [maT (61 + s : Nat), .int 0]) rfl
  have mt := pe_disp (ρ := [p0, p1, p2, some (.str lt), p4, p5, p6, some (.int s), p8, p9, p10, p11, p12, p13, p14, some (.str X), p16, p17, p18, p19, p20, p21]) (f := opTup) (peA_cons (pe_c (d := .str [109, 97, 110, 121])) (peA_cons (pe_op2 (g := gAdd) (pe_c (d := .int 61)).rd (v7 _).rd (d := .int (61 + s : Nat)) (by simp [gAdd, gAddI]) rfl) (peA_cons (pe_c (d := .bl true)) peA_nil))) (d := maT (61 + s : Nat)) rfl
  have d2 := pe_disp (f := opLst) (peA_cons mt (peA_cons (pe_c (d := .int 0)) peA_nil)) (d := .lst true [maT (61 + s : Nat), .int 0]) rfl
  have sm : CC m 11 [fr (.lst true [maT (61 + s : Nat), .int 0]), fr (.lst true [maT (61 + s : Nat), .int 0])] = .ok (.bl true) [] := same_ok (j := 2) (.lst (by simp) fun x mx => by
    simp only [List.mem_cons, List.not_mem_nil, or_false] at mx
    rcases mx with rfl | rfl
    · exact sm_ma _
    · exact .int 1 _) (m + 79) (by omega)
  exact ⟨_, (seq_nx s40).trans (sev_ret (pe_call (g := CC m 11) (d := .bl true) (rdA_cons d1.rd (rdA_cons d2.rd rdA_nil)) sm rfl).ev)⟩
end TB
end
section
set_option Elab.async false
set_option linter.all false
set_option maxRecDepth 100000
set_option maxHeartbeats 1000000
namespace TB
open PySem PySem.Spec L2
theorem l32 (m : Nat) {lt : List Nat} (hL : LX lt) (K : List Nat) (hK : (K.take 61).sum = base lt.length 61) (j : Nat) (kk : Int) (p0 p1 p2 p4 p6 p7 p8 p9 p10 p11 p12 p15 p16 p19 p20 p21 : Option D) : (∃ ρ', t_law_32 (CC m) [p0, p1, p2, some (.str lt), p4, some (.lst true (NL K)), p6, p7, p8, p9, p10, p11, p12, some (.int j), some (.int kk), p15, p16, none, none, p19, p20, p21] = .rt (.bl true) ρ') ∨ t_law_32 (CC m) [p0, p1, p2, some (.str lt), p4, some (.lst true (NL K)), p6, p7, p8, p9, p10, p11, p12, some (.int j), some (.int kk), p15, p16, none, none, p19, p20, p21] = .nx [p0, p1, p2, some (.str lt), p4, some (.lst true (NL K)), p6, p7, p8, p9, p10, p11, p12, some (.int j), some (.int kk), p15, p16, none, none, p19, p20, p21] := by
  have v14 : Pe (dVar 14) [p0, p1, p2, some (.str lt), p4, some (.lst true (NL K)), p6, p7, p8, p9, p10, p11, p12, some (.int j), some (.int kk), p15, p16, none, none, p19, p20, p21] (.int kk) := pe_var rfl rfl
  by_cases h : kk = 7
  · subst h
    left
    obtain ⟨c, c0, hc, hci, hcl, hc0, hcl0⟩ := hL.lc
    have cnd := pe_op2 (g := gEq) v14.rd (pe_c (d := .int 7)).rd (d := .bl true) rfl rfl
    have v3 : ∀ y z, Pe (dVar 3) [p0, p1, p2, some (.str lt), p4, some (.lst true (NL K)), p6, p7, p8, p9, p10, p11, p12, some (.int j), some (.int 7), p15, p16, (y), (z), p19, p20, p21] (.str lt) := fun y z => pe_var rfl rfl
    have a1 := pe_op2 (g := gMulS) (pe_op2 (g := gIx) (v3 none none).rd (pe_op2 (g := gSub) (pe_c (d := .int 0)).rd (pe_c (d := .int 1)).rd (d := .int (-1)) rfl rfl).rd hcl rfl).rd (pe_c (d := .int 60)).rd (show gMulS (.str [c]) (.int 60) = some (.str (List.replicate 60 c)) from gMulS_1 c 60 (by omega)) rfl
    have a2 := pe_op2 (ρ := [p0, p1, p2, some (.str lt), p4, some (.lst true (NL K)), p6, p7, p8, p9, p10, p11, p12, some (.int j), some (.int 7), p15, p16, none, none, p19, p20, p21]) (g := gMulS) (pe_c (d := .str [46])).rd (pe_c (d := .int 61)).rd (show gMulS (.str [46]) (.int 61) = some (.str (List.replicate 61 46)) from gMulS_1 46 61 (by omega)) rfl
    have htx := tall_tx c 60
    have a3 := pe_op2 (g := gAdd) a1.rd a2.rd (gAdd_str _ _ (by simp)) rfl
    rw [show List.replicate 60 c ++ List.replicate 61 46 = (tall c 60).tx from htx.symm] at a3
    have s33 : t_law_33 (CC m) [p0, p1, p2, some (.str lt), p4, some (.lst true (NL K)), p6, p7, p8, p9, p10, p11, p12, some (.int j), some (.int 7), p15, p16, none, none, p19, p20, p21] = .nx [p0, p1, p2, some (.str lt), p4, some (.lst true (NL K)), p6, p7, p8, p9, p10, p11, p12, some (.int j), some (.int 7), p15, p16, some (.str (tall c 60).tx), none, p19, p20, p21] := sev_asg a3.ev rfl
    have hz := tall_sz c 60
    have hin := tall_inn hc 60
    have hnu := tall_nu hL.toLL hci 60
    have hb : base lt.length 61 = base lt.length 60 + C lt.length 60 := base_succ lt.length 60
    have hnum : ((tall c 60).num lt : Int) = (base lt.length 61 : Int) - 1 := by
      unfold T.num
      rw [hz]
      omega
    have tn := toldN_cc m hL.toLL hin (by omega)
    have tt := toldT_cc m hL.toLL hin (by omega)
    rw [hnum] at tn tt
    have tm := toldTm_cc m hL.toLL (base lt.length 61 + j) (by omega)
    generalize (tall c 60).tx = X at *
    generalize base lt.length 61 = B at *
    have sm1 : ∀ y z, Pe (dOp (two gSub) (dCons (dOp (one gSum) (dCons (dOp (opSl 0) (dCons (dVar 5) (dCons (dC (.int 61)) dNil))) dNil)) (dCons (dC (.int 1)) dNil))) [p0, p1, p2, some (.str lt), p4, some (.lst true (NL K)), p6, p7, p8, p9, p10, p11, p12, some (.int j), some (.int 7), p15, p16, (y), (z), p19, p20, p21] (.int ((B : Int) - 1)) := fun y z => pe_op2 (g := gSub) (sum61 K B hK _ _ _ _ _ _ _ _ _ _ _ _ _ _ _ _ _ _ _ _ _).rd (pe_c (d := .int 1)).rd rfl rfl
    have b1 := pe_call (g := CC m 23) (rdA_cons (v3 (some (.str X)) none).rd (rdA_cons (pe_c (d := .str kN)).rd (rdA_cons (pe_var (i := 17) (d := .str X) rfl rfl).rd rdA_nil))) tn rfl
    have b2 := pe_call (g := CC m 23) (rdA_cons (v3 (some (.str X)) none).rd (rdA_cons (pe_c (d := .str kT)).rd (rdA_cons (sm1 _ _).rd rdA_nil))) tt rfl
    have s34 : t_law_34 (CC m) [p0, p1, p2, some (.str lt), p4, some (.lst true (NL K)), p6, p7, p8, p9, p10, p11, p12, some (.int j), some (.int 7), p15, p16, some (.str X), none, p19, p20, p21] = .nx [p0, p1, p2, some (.str lt), p4, some (.lst true (NL K)), p6, p7, p8, p9, p10, p11, p12, some (.int j), some (.int 7), p15, p16, some (.str X), some (.lst true [.int ((B : Int) - 1), .str X]), p19, p20, p21] := sev_asg (pe_disp (f := opLst) (peA_cons b1 (peA_cons b2 peA_nil)) rfl).ev rfl
    have hf : fz1 18 [p0, p1, p2, some (.str lt), p4, some (.lst true (NL K)), p6, p7, p8, p9, p10, p11, p12, some (.int j), some (.int 7), p15, p16, some (.str X), some (.lst true [.int ((B : Int) - 1), .str X]), p19, p20, p21] = [p0, p1, p2, some (.str lt), p4, some (.lst true (NL K)), p6, p7, p8, p9, p10, p11, p12, some (.int j), some (.int 7), p15, p16, some (.str X), some (.lst false [.int ((B : Int) - 1), .str X]), p19, p20, p21] := rfl
    have sj : ∀ z, Pe (dOp (two gAdd) (dCons (dOp (one gSum) (dCons (dOp (opSl 0) (dCons (dVar 5) (dCons (dC (.int 61)) dNil))) dNil)) (dCons (dVar 13) dNil))) [p0, p1, p2, some (.str lt), p4, some (.lst true (NL K)), p6, p7, p8, p9, p10, p11, p12, some (.int j), some (.int 7), p15, p16, some (.str X), (z), p19, p20, p21] (.int ((B + j : Nat) : Int)) := fun z => pe_op2 (g := gAdd) (sum61 K B hK _ _ _ _ _ _ _ _ _ _ _ _ _ _ _ _ _ _ _ _ _).rd (pe_var (i := 13) (d := .int j) rfl rfl).rd (by simp [gAdd, gAddI]) rfl
    have b3 := pe_call (g := CC m 23) (rdA_cons (v3 (some (.str X)) (some (.lst false [.int ((B : Int) - 1), .str X]))).rd (rdA_cons (pe_c (d := .str kT)).rd (rdA_cons (sj _).rd rdA_nil))) tm rfl
    have d3 := pe_disp (f := opLst) (peA_cons b3 peA_nil) (d := .lst true [maT 61]) rfl
    have s35 : t_law_35 (CC m) [p0, p1, p2, some (.str lt), p4, some (.lst true (NL K)), p6, p7, p8, p9, p10, p11, p12, some (.int j), some (.int 7), p15, p16, some (.str X), some (.lst true [.int ((B : Int) - 1), .str X]), p19, p20, p21] = .nx [p0, p1, p2, some (.str lt), p4, some (.lst true (NL K)), p6, p7, p8, p9, p10, p11, p12, some (.int j), some (.int 7), p15, p16, some (.str X), some (.lst true [.int ((B : Int) - 1), .str X, maT 61]), p19, p20, p21] := by
      exact sev_asgOwn (i := 18) (f := gAdd) (d0 := .lst true [.int ((B : Int) - 1), .str X]) (d := .lst true [.int ((B : Int) - 1), .str X, maT 61]) (ρ2 := [p0, p1, p2, some (.str lt), p4, some (.lst true (NL K)), p6, p7, p8, p9, p10, p11, p12, some (.int j), some (.int 7), p15, p16, some (.str X), some (.lst false [.int ((B : Int) - 1), .str X]), p19, p20, p21]) rfl (by rw [hf]; exact d3.ev) rfl rfl (by simp)
    have mt := pe_disp (ρ := [p0, p1, p2, some (.str lt), p4, some (.lst true (NL K)), p6, p7, p8, p9, p10, p11, p12, some (.int j), some (.int 7), p15, p16, some (.str X), some (.lst false [.int ((B : Int) - 1), .str X, maT 61]), p19, p20, p21]) (f := opTup) (peA_cons (pe_c (d := .str [109, 97, 110, 121])) (peA_cons (pe_c (d := .int 61)) (peA_cons (pe_c (d := .bl true)) peA_nil))) (d := maT 61) rfl
    have d4 := pe_disp (f := opLst) (peA_cons (sm1 (some (.str X)) (some (.lst false [.int ((B : Int) - 1), .str X, maT 61]))) (peA_cons (pe_var (i := 17) (d := .str X) rfl rfl) (peA_cons mt peA_nil))) (d := .lst true [.int ((B : Int) - 1), .str X, maT 61]) rfl
    have smm : CC m 11 [fr (.lst true [.int ((B : Int) - 1), .str X, maT 61]), fr (.lst true [.int ((B : Int) - 1), .str X, maT 61])] = .ok (.bl true) [] := same_ok (j := 2) (.lst (by simp) fun x mx => by
      simp only [List.mem_cons, List.not_mem_nil, or_false] at mx
      rcases mx with rfl | rfl | rfl
      · exact .int 1 _
      · exact .str 1 _
      · exact sm_ma _) (m + 79) (by omega)
    have r18 := rd_var (ρ := [p0, p1, p2, some (.str lt), p4, some (.lst true (NL K)), p6, p7, p8, p9, p10, p11, p12, some (.int j), some (.int 7), p15, p16, some (.str X), some (.lst true [.int ((B : Int) - 1), .str X, maT 61]), p19, p20, p21]) (i := 18) (d := .lst true [.int ((B : Int) - 1), .str X, maT 61]) rfl
    have s36 := sev_ret (pe_call (g := CC m 11) (d := .bl true) (rdA_cons r18 (rdA_cons d4.rd rdA_nil)) smm rfl).ev
    exact ⟨_, (sev_if_t cnd.ev).trans ((seq_nx s33).trans ((seq_nx s34).trans ((seq_nx s35).trans s36)))⟩
  · right
    have cnd := pe_op2 (g := gEq) v14.rd (pe_c (d := .int 7)).rd (d := .bl false) (by simp [gEq, gEqS, h]) rfl
    exact sev_if_f cnd.ev
end TB
end
section
set_option Elab.async false
set_option linter.all false
set_option maxRecDepth 100000
set_option maxHeartbeats 1000000
namespace TB
open PySem PySem.Spec L2
theorem law_plain (ns : List Int) : callF tbl 81 28 [.lk (ns.map D.int)] = .ok (.bl true) [] := by
  have c : callF tbl 81 28 [.lk (ns.map D.int)] = runF fn_law (CC 0) [.lk (ns.map D.int)] := rfl
  generalize hsc : (some (D.lk (ns.map D.int)) : Option D) = sc
  obtain ⟨sh, e1⟩ := l1 0 ns none none none none none none none none none none none none none none none none none none none none
  obtain ⟨ps, e2⟩ := l2 0 ns (some (PK sh)) none none none none none none none none none none none none none none none none none none none
  rw [hsc] at e1 e2
  obtain ⟨lt, hL, e3⟩ := l3 0 sh sc (some (PK ps)) none none none none none none none none none none none none none none none none none none
  obtain ⟨g, hg, hg2, e4⟩ := l4 0 sh.dropLast sc (some (PK ps)) (some (.str lt)) none none none none none none none none none none none none none none none none none
  have e5 := l5 0 hL sc (some (PK sh.dropLast.dropLast)) (some (PK ps)) (some (.int g)) none none none none none none none none none none none none none none none none
  obtain ⟨K, hK⟩ : ∃ K, K = cL lt.length 70 := ⟨_, rfl⟩
  have hK61 : (K.take 61).sum = base lt.length 61 := by rw [hK]; exact base_cL lt.length 70 61 (by omega)
  rw [← hK] at e5
  obtain ⟨sh6, ps6, ts, hts, hn, e6⟩ := l6 0 hL sh.dropLast.dropLast ps g hg hg2 sc (some (.lst true (NL K))) none none none none none none none none none none none none none none
  obtain ⟨t0, ht0⟩ : ∃ t0, ts[0]? = some t0 := ⟨ts[0]'(by omega), List.getElem?_eq_getElem (by omega)⟩
  have h0 := hts t0 (List.mem_of_getElem? ht0)
  have e7 := l7 0 ts t0 ht0 h0.2 sc (some (PK sh6)) (some (PK ps6)) (some (.str lt)) (some (.int g)) (some (.lst true (NL K))) none none none none none none none none none none none none none none
  obtain ⟨t1, ht1, e8⟩ := l8 0 hL sh6 ts t0 ht0 h0 hn sc (some (PK ps6)) (some (.str lt)) (some (.int g)) (some (.lst true (NL K))) (some (.int t0.sz)) none none none none none none none none none none none none none
  have hts8 : ∀ t ∈ ts ++ [t0, t1], Ok lt t := fun t mt => by
    rcases List.mem_append.mp mt with z | z
    · exact hts t z
    · simp only [List.mem_cons, List.not_mem_nil, or_false] at z
      rcases z with rfl | rfl
      · exact h0
      · exact ht1
  obtain ⟨sh9, us, hus, hu7, hu5, hu0, e9⟩ := l9 0 hL sh6.dropLast (ts ++ [t0, t1]) t0 (by rw [List.getElem?_append_left (by omega)]; exact ht0) hts8 (by simp [hn]) sc (some (PK ps6)) (some (.int g)) (some (.lst true (NL K))) (some (.int t0.sz)) none none none none none none none none none none none none none none
  have e12 := l12 0 hL us hus hu7 sc (some (PK sh9)) (some (PK ps6)) (some (.int g)) (some (.int t0.sz)) none none none none none none none none none none none none
  rw [← hK] at e12
  obtain ⟨z9, z16, e13⟩ := l13 0 hL us hus hu7 sc (some (PK sh9)) (some (PK ps6)) (some (.int g)) (some (.lst true (NL K))) (some (.int t0.sz)) none none none none none none none none none none none none none
  obtain ⟨z10, e19⟩ := l19 0 hL us hus hu5 sc (some (PK sh9)) (some (PK ps6)) (some (.int g)) (some (.lst true (NL K))) (some (.int t0.sz)) z9 none none none none none z16 none none none none none none
  obtain ⟨sh22, z11, e22⟩ := l22 0 hL sh9 t0.sz sc (some (PK ps6)) (some (.int g)) (some (.lst true (NL K))) (some (.lst true (TL us))) (some (.lst true (NL (us.map (T.num lt))))) z9 z10 none none none none z16 none none none none none none
  have e25 := l25 0 hL sc (some (PK sh22)) (some (PK ps6)) (some (.int g)) (some (.lst true (NL K))) (some (.lst true (TL us))) (some (.int t0.sz)) (some (.lst true (NL (us.map (T.num lt))))) z9 z10 z11 none none none z16 none none none none none
  obtain ⟨j, hj, e26⟩ := l26 0 hL sh22 sc (some (PK ps6)) (some (.str lt)) (some (.int g)) (some (.lst true (NL K))) (some (.lst true (TL us))) (some (.int t0.sz)) (some (.lst true (NL (us.map (T.num lt))))) z9 z10 z11 none none z16 none none none none none
  have e27 := l27 0 hL j hj sc (some (PK sh22.dropLast)) (some (PK ps6)) (some (.int g)) (some (.lst true (NL K))) (some (.lst true (TL us))) (some (.int t0.sz)) (some (.lst true (NL (us.map (T.num lt))))) z9 z10 z11 none none z16 none none none none none
  have e29 := l29 0 lt j sc (some (PK sh22.dropLast)) (some (PK ps6)) (some (.int g)) (some (.lst true (NL K))) (some (.lst true (TL us))) (some (.int t0.sz)) (some (.lst true (NL (us.map (T.num lt))))) z9 z10 z11 (some (.lst true (wds (Few lt)))) none none z16 none none none none none
  have e31 := l31 0 sh22.dropLast sc (some (PK ps6)) (some (.str lt)) (some (.int g)) (some (.lst true (NL K))) (some (.lst true (TL us))) (some (.int t0.sz)) (some (.lst true (NL (us.map (T.num lt))))) z9 z10 z11 (some (.lst true (wds (Few lt)))) (some (.int j)) none z16 none none none none none
  have r32 := l32 0 hL K hK61 j (pk sh22.dropLast 8) sc (some (PK sh22.dropLast.dropLast)) (some (PK ps6)) (some (.int g)) (some (.lst true (TL us))) (some (.int t0.sz)) (some (.lst true (NL (us.map (T.num lt))))) z9 z10 z11 (some (.lst true (wds (Few lt)))) none z16 none none none
  have r37 := l37 0 hL sh22.dropLast.dropLast (pk sh22.dropLast 8) sc (some (PK ps6)) (some (.int g)) (some (.lst true (NL K))) (some (.lst true (TL us))) (some (.int t0.sz)) (some (.lst true (NL (us.map (T.num lt))))) z9 z10 (some (.lst true (wds (Few lt)))) (some (.int j)) none z16 none none none none none z11
  obtain ⟨ρ40, e40⟩ := l40 0 hL t0.sz h0.2 sc (some (PK sh22.dropLast.dropLast)) (some (PK ps6)) (some (.int g)) (some (.lst true (NL K))) (some (.lst true (TL us))) (some (.lst true (NL (us.map (T.num lt))))) z9 z10 z11 (some (.lst true (wds (Few lt)))) (some (.int j)) (some (.int (pk sh22.dropLast 8))) z16 none none none none none
  have e : ∃ ρ', den_law (CC 0) [sc, none, none, none, none, none, none, none, none, none, none, none, none, none, none, none, none, none, none, none, none, none] = .rt (.bl true) ρ' := by
    unfold den_law
    rw [seq_nx e1, seq_nx e2, seq_nx e3, seq_nx e4, seq_nx e5, seq_nx e6, seq_nx e7, seq_nx e8, seq_nx e9, seq_nx e12, seq_nx e13, seq_nx e19, seq_nx e22, seq_nx e25, seq_nx e26, seq_nx e27, seq_nx e29, seq_nx e31]
    rcases r32 with ⟨ρ', r⟩ | r
    · exact ⟨ρ', seq_rt r⟩
    · rw [seq_nx r]
      rcases r37 with ⟨ρ', r⟩ | r
      · exact ⟨ρ', seq_rt r⟩
      · rw [seq_nx r]
        exact ⟨ρ40, e40⟩
  obtain ⟨ρ', e⟩ := e
  rw [← hsc] at e
  exact c.trans (run_rt (F := fn_law) (b := den_law) rfl rfl rfl e rfl)
end TB
end
section
set_option Elab.async false
open PySem
theorem PySem.Challenge.cw_treesbeside_k02_trees_in_order_and_by_nu_holds : PySem.Challenge.rw_treesbeside_k02_trees_in_order_and_by_nu.Holds :=
  TB.holds_of 81 (by constructor <;> decide) fun ns _ => TB.law_plain ns
end
